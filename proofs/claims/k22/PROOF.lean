import PyProof.Rows.All
import Wide.All
import OpenK.AllK
import Wide.FinOn
import HandS.ForMost
import HandS.Exc
import HandS.TryOnly
import HandS.ExcOwn
import HandS.WordsExc
import HandS.Wide
import HandS.IsInst
import HandS.Conv
import HandS.RevRange
import HandS.Evl
import HandS.More
import HandS.Style
import PySem.Challenge.RW_rootspan_k22_rows
set_option Elab.async false
set_option linter.all false
set_option maxRecDepth 100000
set_option maxHeartbeats 4000000
set_option exponentiation.threshold 100000
set_option linter.all false
set_option maxRecDepth 100000
set_option maxHeartbeats 4000000
namespace RB
open PySem PySem.Spec PyProof.Rows L2
open Evl (Ex rLenS rListS rMax2 tCut pss_cut)

/-! ### the readings' names -/
def rIAdd : R2 := rI0 fun i j => .int (i + j)
def rISub : R2 := rI0 fun i j => .int (i - j)
/-- * of factors that are not too wide, or of any one and a small one -/
def CMulX (i j : Int) : Prop := CMulW i j ∨ j.natAbs < 2 ^ 60
def rMul : R2 := rI CMulX fun i j => .int (i * j)
def rMod : R2 := rI (fun _ j => j ≠ 0) fun i j => .int (i.fmod j)
def CDivA (_ j : Int) : Prop := j ≠ 0 ∧ j.natAbs.log2 < 9000
/-- // by a great divisor, too, where the two are nearly as long -/
def CDivX (i j : Int) : Prop := j ≠ 0 ∧ (j.natAbs.log2 < 9000 ∨ i.natAbs.log2 ≤ j.natAbs.log2 + 4400)
theorem noPylongX {i j : Int} (h : CDivX i j) : Builtin.divisionGoesByPylong i j = false := by
  rcases h.2 with h2 | h2
  · exact PyProof.noPylong_of_log2 h2
  · have hj : (j == 0) = false := by
      rw [beq_eq_false_iff_ne]; exact h.1
    have key : ¬ ((if i == 0 then 0 else i.natAbs.log2 / 30 + 1) > (if j == 0 then 0 else j.natAbs.log2 / 30 + 1) + 150) := by
      rw [hj]
      split
      · omega
      · simp only [Bool.false_eq_true, if_false]
        omega
    show (_ && decide ((if i == 0 then 0 else i.natAbs.log2 / 30 + 1) > (if j == 0 then 0 else j.natAbs.log2 / 30 + 1) + 150)) = false
    rw [decide_eq_false key, Bool.and_false]
def rDiv : R2 := rI CDivX fun i j => .int (i.fdiv j)
def rPow : R2 := rI CPow fun i j => .int (i ^ j.toNat)
def rLt : R2 := rI0 fun i j => .bl (decide (i < j))
def rLe : R2 := rI0 fun i j => .bl (decide (i ≤ j))
def rGt : R2 := rI0 fun i j => .bl (decide (j < i))
def rGe : R2 := rI0 fun i j => .bl (decide (j ≤ i))
def rIsN : R2 := fun x y H Q => y = .non ∧ Q (.bl (decide (x = .non))) H
def rNotN : R2 := fun x y H Q => y = .non ∧ Q (.bl (!decide (x = .non))) H
def rNeg : V → Hp → VK → Prop := rU fun i => .int (-i)
def rAbs : List V → Hp → VK → Prop := fun xs H Q => ∃ i, xs = [.int i] ∧ Q (.int (if i < 0 then -i else i)) H
def rMin2 : List V → Hp → VK → Prop := fun xs H Q => ∃ i j, xs = [.int i, .int j] ∧ Q (.int (if j < i then j else i)) H
def rInt1 : List V → Hp → VK → Prop := fun xs H Q => (∃ i, xs = [.int i] ∧ Q (.int i) H) ∨ ∃ k, xs = [.bl k] ∧ Q (.int (if k then 1 else 0)) H
def rAddS : R2 := fun x y H Q => ∃ i j, x = .str i ∧ y = .str j ∧ i.length + j.length ≤ sizeLine ∧ Q (.str (i ++ j)) H
def rLenStr : List V → Hp → VK → Prop := fun xs H Q => ∃ z, xs = [.str z] ∧ z.length ≤ sizeLine ∧ Q (.int z.length) H
def rStrInt : List V → Hp → VK → Prop := fun xs H Q => ∃ i, xs = [.int i] ∧ i.natAbs.log2 < 1920 ∧ Q (.str (toString i)) H
def rInsert : V → List V → Hp → VK → Prop := fun x vs H Q => ∃ (l : Addr) (xs : List V) (i : Int) (y : V), x = .ref l ∧ vs = [.int i, y] ∧ H l = some (.lst xs) ∧ xs.length < sizeLine ∧ 0 ≤ i ∧ i < 2 ^ 63 ∧ Q .non (upd H l (.lst (xs.take i.toNat ++ [y] ++ xs.drop i.toNat)))
section
variable {X : Cx}
theorem op_fdivA : OpR X (binaryOp .FloorDiv) rDiv := opI fun i j _ _ _ _ _ hc q => floordiv_int hc.1 q (.inl (noPylongX hc))
theorem op_mulX : OpR X (binaryOp .Mult) rMul := opI fun _ _ _ _ _ _ _ hc q => mul_int q (hc.elim CMulW.ok fun h => IntMulOk.of_right (intBits_le_64 (by omega) (by omega)))
theorem op_isN1 : OpR X (compareOp .Is) rIsN := op_isN
theorem op_notN1 : OpR X (compareOp .IsNot) rNotN := op_notN
end

/-! ### heaps -/
def Exb (l : Addr) (H H' : Hp) : Prop := ∀ a, a ≠ l → ∀ o, H a = some o → H' a = some o
theorem _root_.Evl.Ex.mutb {H0 H H' : Hp} {l : Addr} (e : Ex H0 H) (b : Exb l H H') (f : H0 l = none) : Ex H0 H' := fun a o h => b a (ne_of_none h f) o (e a o h)
theorem Exb.trans {l : Addr} {H H1 H2 : Hp} (a : Exb l H H1) (b : Exb l H1 H2) : Exb l H H2 := fun c n o h => b c n o (a c n o h)
theorem Exb.ex {l : Addr} {H H1 H2 : Hp} (a : Exb l H H1) (b : Ex H1 H2) : Exb l H H2 := fun c n o h => b c o (a c n o h)
theorem _root_.Evl.Ex.exb {l : Addr} {H H1 H2 : Hp} (a : Ex H H1) (b : Exb l H1 H2) : Exb l H H2 := fun c n o h => b c n o (a c o h)
/-- a list laid anew -/
theorem newL {H : Hp} {xs : List V} {Q : VK} (k : ∀ p H', H p = none → Ex H H' → H' p = some (.lst xs) → Q (.ref p) H') : ∀ p, H p = none → Q (.ref p) (upd H p (.lst xs)) :=
  fun p hp => k p _ hp (Evl.Ex.new hp) upd_same
theorem newT {H : Hp} {xs : List V} {Q : VK} (k : ∀ p H', H p = none → Ex H H' → H' p = some (.tup xs) → Q (.ref p) H') : ∀ p, H p = none → Q (.ref p) (upd H p (.tup xs)) :=
  fun p hp => k p _ hp (Evl.Ex.new hp) upd_same
/-- an object changed -/
theorem mutL {H : Hp} {l : Addr} {o : HO} {G : Hp → Prop} (k : ∀ H', Exb l H H' → H' l = some o → G H') : G (upd H l o) :=
  k _ (fun a n o h => by rw [upd_ne n]; exact h) upd_same
theorem _root_.Evl.Ex.free {H H' : Hp} (e : Ex H H') {p : Addr} (h : H' p = none) : H p = none := Evl.fresh_back e h
theorem _root_.Evl.Ex.l {K : PySem.W.Frag} {H H' : Hp} {a : Addr} {xs : List V} (e : Ex H H') (h : SqL K H a xs) : SqL K H' a xs := Evl.ex_l e h
theorem SqL.inj {K : PySem.W.Frag} {H : Hp} {a : Addr} {xs : List V} (h : H a = some (.lst xs)) : SqL K H a xs := .inl (.inl h)

def LstK (Q : VK) : List V → Hp → Prop := fun xs H1 => xs.length ≤ sizeLine ∧ ∀ p, H1 p = none → Q (.ref p) (upd H1 p (.lst xs))
def TupK (Q : VK) : List V → Hp → Prop := fun xs H1 => xs.length ≤ sizeLine ∧ ∀ p, H1 p = none → Q (.ref p) (upd H1 p (.tup xs))
theorem small0 {n : Nat} (h : n ≤ 16777216) : n ≤ sizeLine := by rw [sizeLine_eq]; exact h
/-! ### readings, step by step -/
section
variable {K : PySem.W.Frag} {σ : L2.St} {H : Hp} {Q : VK} {D : Ends} {ta tb te to ti : TE} {t u : TS} {tt t1 t2 : TT} {g : TG}
theorem r_seq (h : t { D with nx := u D } σ H) : tSeq t u D σ H := h
theorem r_next (h : D.nx σ H) : tNext D σ H := h
theorem r_var {i : Nat} {v : V} (h : σ[i]? = some (some v)) (q : Q v H) : tVar i σ H Q := ⟨v, h, q⟩
theorem r_c {v : V} (q : Q v H) : tC v σ H Q := q
theorem r_op {r : R2} (h : ta σ H fun x H1 => tb σ H1 fun y H2 => r x y H2 Q) : tOp r ta tb σ H Q := h
theorem r_un {r : V → Hp → VK → Prop} (h : ta σ H fun x H1 => r x H1 Q) : tUn r ta σ H Q := h
theorem r_add {i j : Int} (q : Q (.int (i + j)) H) : rIAdd (.int i) (.int j) H Q := ⟨i, j, rfl, rfl, q⟩
theorem r_sub {i j : Int} (q : Q (.int (i - j)) H) : rISub (.int i) (.int j) H Q := ⟨i, j, rfl, rfl, q⟩
theorem r_mul {i j : Int} (c : CMulW i j) (q : Q (.int (i * j)) H) : rMul (.int i) (.int j) H Q := ⟨i, j, rfl, rfl, .inl c, q⟩
theorem r_mulR {i j : Int} (c : j.natAbs < 2 ^ 60) (q : Q (.int (i * j)) H) : rMul (.int i) (.int j) H Q := ⟨i, j, rfl, rfl, .inr c, q⟩
theorem r_mod {i j : Int} (c : j ≠ 0) (q : Q (.int (i.fmod j)) H) : rMod (.int i) (.int j) H Q := ⟨i, j, rfl, rfl, c, q⟩
theorem r_div {i j : Int} (c : CDivA i j) (q : Q (.int (i.fdiv j)) H) : rDiv (.int i) (.int j) H Q := ⟨i, j, rfl, rfl, ⟨c.1, .inl c.2⟩, q⟩
theorem r_divX {i j : Int} (c : CDivX i j) (q : Q (.int (i.fdiv j)) H) : rDiv (.int i) (.int j) H Q := ⟨i, j, rfl, rfl, c, q⟩
theorem r_pow {i j : Int} (c : CPow i j) (q : Q (.int (i ^ j.toNat)) H) : rPow (.int i) (.int j) H Q := ⟨i, j, rfl, rfl, c, q⟩
theorem r_lt {i j : Int} (q : Q (.bl (decide (i < j))) H) : rLt (.int i) (.int j) H Q := ⟨i, j, rfl, rfl, q⟩
theorem r_le {i j : Int} (q : Q (.bl (decide (i ≤ j))) H) : rLe (.int i) (.int j) H Q := ⟨i, j, rfl, rfl, q⟩
theorem r_gt {i j : Int} (q : Q (.bl (decide (j < i))) H) : rGt (.int i) (.int j) H Q := ⟨i, j, rfl, rfl, q⟩
theorem r_ge {i j : Int} (q : Q (.bl (decide (j ≤ i))) H) : rGe (.int i) (.int j) H Q := ⟨i, j, rfl, rfl, q⟩
theorem r_neg {i : Int} (q : Q (.int (-i)) H) : rNeg (.int i) H Q := ⟨i, rfl, q⟩
theorem d_int (i j : Int) : decide (V.int i = V.int j) = decide (i = j) := by
  by_cases h : i = j
  · rw [h]; simp
  · rw [decide_eq_false h, decide_eq_false (fun z => h (V.int.inj z))]
theorem d_bl (i j : Bool) : decide (V.bl i = V.bl j) = decide (i = j) := by
  by_cases h : i = j
  · rw [h]; simp
  · rw [decide_eq_false h, decide_eq_false (fun z => h (V.bl.inj z))]
theorem d_str (i j : Str) : decide (V.str i = V.str j) = decide (i = j) := by
  by_cases h : i = j
  · rw [h]; simp
  · rw [decide_eq_false h, decide_eq_false (fun z => h (V.str.inj z))]
theorem r_eqI {i j : Int} (q : Q (.bl (decide (i = j))) H) : rEq (.int i) (.int j) H Q := ⟨rfl, by rw [d_int]; exact q⟩
theorem r_neI {i j : Int} (q : Q (.bl (!decide (i = j))) H) : rNe (.int i) (.int j) H Q := ⟨rfl, by rw [d_int]; exact q⟩
theorem r_eqB {i j : Bool} (q : Q (.bl (decide (i = j))) H) : rEq (.bl i) (.bl j) H Q := ⟨rfl, by rw [d_bl]; exact q⟩
theorem r_eqS {i j : Str} (q : Q (.bl (decide (i = j))) H) : rEq (.str i) (.str j) H Q := ⟨rfl, by rw [d_str]; exact q⟩
theorem r_neS {i j : Str} (q : Q (.bl (!decide (i = j))) H) : rNe (.str i) (.str j) H Q := ⟨rfl, by rw [d_str]; exact q⟩
theorem r_isN {x : V} (q : Q (.bl (decide (x = .non))) H) : rIsN x .non H Q := ⟨rfl, q⟩
theorem r_notN {x : V} (q : Q (.bl (!decide (x = .non))) H) : rNotN x .non H Q := ⟨rfl, q⟩
theorem r_ixL {p : Addr} {i : Int} {xs : List V} {v : V} (h : SqL K H p xs) (a : atI xs i = some v) (q : Q v H) : rIxL K (.ref p) (.int i) H Q := ⟨p, xs, i, v, rfl, rfl, h, a, q⟩
theorem r_ixT {p : Addr} {i : Int} {xs : List V} {v : V} (h : SqT K H p xs) (a : atI xs i = some v) (q : Q v H) : rIxT K (.ref p) (.int i) H Q := ⟨p, xs, i, v, rfl, rfl, h, a, q⟩
theorem r_cons {ta : TE} {tr : TA} {Q : List V → Hp → Prop} (h : ta σ H fun x H1 => tr σ H1 fun xs H2 => Q (x :: xs) H2) : tCons ta tr σ H Q := h
theorem r_nil {Q : List V → Hp → Prop} (h : Q [] H) : tNil σ H Q := h
theorem r_cb {r : List V → Hp → VK → Prop} {ta : TA} (h : ta σ H fun vs H1 => r vs H1 Q) : tCB r ta σ H Q := h
theorem r_abs {i : Int} (q : Q (.int (if i < 0 then -i else i)) H) : rAbs [.int i] H Q := ⟨i, rfl, q⟩
theorem r_max2 {i j : Int} (q : Q (.int (if j > i then j else i)) H) : rMax2 [.int i, .int j] H Q := ⟨i, j, rfl, q⟩
theorem r_min2 {i j : Int} (q : Q (.int (if j < i then j else i)) H) : rMin2 [.int i, .int j] H Q := ⟨i, j, rfl, q⟩
theorem r_len {p : Addr} {xs : List V} (h : SqL K H p xs) (q : Q (.int xs.length) H) : rLenS K [.ref p] H Q := ⟨p, xs, rfl, .inl h, q⟩
theorem r_lenT {p : Addr} {xs : List V} (h : SqT K H p xs) (q : Q (.int xs.length) H) : rLenS K [.ref p] H Q := ⟨p, xs, rfl, .inr h, q⟩
theorem r_list {p : Addr} {xs : List V} (h : SqL K H p xs) (q : ∀ l H', H l = none → Ex H H' → H' l = some (.lst xs) → Q (.ref l) H') : rListS K [.ref p] H Q := ⟨p, xs, rfl, .inl h, newL q⟩
theorem r_intI {i : Int} (q : Q (.int i) H) : rInt1 [.int i] H Q := .inl ⟨i, rfl, q⟩
theorem r_intB {b : Bool} (q : Q (.int (if b then 1 else 0)) H) : rInt1 [.bl b] H Q := .inr ⟨b, rfl, q⟩
theorem r_call {sp : Sp} {E : XK} {ta : TA} (h : ta σ H fun vs H1 => sp vs H1 Q E) : tCall sp [] E ta σ H Q := by
  show ta σ H fun vs H1 => sp (vs ++ []) H1 Q E
  have e : (fun vs H1 => sp (vs ++ []) H1 Q E) = fun (vs : List V) H1 => sp vs H1 Q E := by
    funext vs H1; rw [List.append_nil]
  rw [e]; exact h
theorem r_lst {ta : TA} (h : ta σ H (LstK Q)) : tLst ta σ H Q := h
theorem r_lstK {xs : List V} (k : ∀ p H', H p = none → Ex H H' → H' p = some (.lst xs) → Q (.ref p) H') (hz : xs.length ≤ 16777216 := by simp) : LstK Q xs H := ⟨small0 hz, newL k⟩
theorem r_tup {ta : TA} (h : ta σ H (TupK Q)) : tTup ta σ H Q := h
theorem r_tupK {xs : List V} (k : ∀ p H', H p = none → Ex H H' → H' p = some (.tup xs) → Q (.ref p) H') (hz : xs.length ≤ 16777216 := by simp) : TupK Q xs H := ⟨small0 hz, newT k⟩
theorem r_asg (h : te σ H fun x H1 => g x σ H1 D.nx) : tAsg te g D σ H := h
theorem r_gn {i : Nat} {v : V} {Q : L2.St → Hp → Prop} (h : Q (σ.set i (some v)) H) : gName i v σ H Q := h
theorem r_ret (h : te σ H D.rt) : tRet te D σ H := h
theorem r_drop (h : te σ H fun _ H1 => D.nx σ H1) : tDrop te D σ H := h
theorem r_ifS (h : tt σ H fun b H1 => if b = true then t D σ H1 else u D σ H1) : tIfS tt t u D σ H := h
theorem r_test {Q : Bool → Hp → Prop} (h : te σ H fun x H1 => ∃ k, x = .bl k ∧ Q k H1) : tTest te σ H Q := h
theorem r_B {Q : Bool → Hp → Prop} (h : te σ H fun x H1 => ∃ k, x = .bl k ∧ Q k H1) : tB te σ H Q := h
theorem r_bl {k : Bool} {Q : Bool → Prop} (h : Q k) : ∃ k', V.bl k = .bl k' ∧ Q k' := ⟨k, rfl, h⟩
theorem r_and {Q : Bool → Hp → Prop} (h : t1 σ H fun c H1 => if c = true then t2 σ H1 Q else Q false H1) : tAnd t1 t2 σ H Q := h
theorem r_or {Q : Bool → Hp → Prop} (h : t1 σ H fun c H1 => if c = true then Q true H1 else t2 σ H1 Q) : tOr t1 t2 σ H Q := h
theorem r_not {Q : Bool → Hp → Prop} (h : tt σ H fun c H1 => Q (!c) H1) : tNot tt σ H Q := h
theorem r_andV (h : ta σ H fun x H1 => ∃ c, x = .bl c ∧ if c = true then tb σ H1 Q else Q (.bl false) H1) : tAndV ta tb σ H Q := h
theorem r_orV (h : ta σ H fun x H1 => ∃ c, x = .bl c ∧ if c = true then Q (.bl true) H1 else tb σ H1 Q) : tOrV ta tb σ H Q := h
theorem r_notV (h : ta σ H fun x H1 => ∃ c, x = .bl c ∧ Q (.bl (!c)) H1) : tNotV ta σ H Q := h
theorem r_if (h : tt σ H fun c H1 => if c = true then ta σ H1 Q else tb σ H1 Q) : tIf tt ta tb σ H Q := h
theorem r_bm {T : String} {r : V → List V → Hp → VK → Prop} {ta : TA} (h : to σ H fun x H1 => tyV K T x H1 ∧ ta σ H1 fun xs H2 => r x xs H2 Q) : tBM K T r to ta σ H Q := h
theorem r_bm0 {T : String} {r : V → List V → Hp → VK → Prop} (h : to σ H fun x H1 => tyV K T x H1 ∧ r x [] H1 Q) : tBM0 K T r to σ H Q := h
theorem r_append {l : Addr} {xs : List V} {y : V} (h : H l = some (.lst xs)) (z : xs.length < sizeLine) (q : ∀ H', Exb l H H' → H' l = some (.lst (xs ++ [y])) → Q .non H') : rAppend (.ref l) [y] H Q :=
  ⟨l, xs, y, rfl, rfl, h, z, mutL q⟩
theorem r_pop {l : Addr} {xs : List V} {y : V} (h : H l = some (.lst xs)) (z : xs[xs.length - 1]? = some y) (q : ∀ H', Exb l H H' → H' l = some (.lst xs.dropLast) → Q y H') : rPop (.ref l) [] H Q :=
  ⟨l, xs, y, rfl, rfl, h, z, mutL q⟩
theorem r_insert {l : Addr} {xs : List V} {y : V} {i : Int} (h : H l = some (.lst xs)) (z : xs.length < sizeLine) (h0 : 0 ≤ i) (h1 : i < 2 ^ 63) (q : ∀ H', Exb l H H' → H' l = some (.lst (xs.take i.toNat ++ [y] ++ xs.drop i.toNat)) → Q .non H') : rInsert (.ref l) [.int i, y] H Q :=
  ⟨l, xs, i, y, rfl, rfl, h, z, h0, h1, mutL q⟩
theorem tyL {p : Addr} {xs : List V} (h : H p = some (.lst xs)) : tyV K "list" (.ref p) H := .inl ⟨rfl, _, .inl (.inl h)⟩
theorem r_ty {T : String} {x : V} {B : Prop} (h : tyV K T x H) (q : B) : tyV K T x H ∧ B := ⟨h, q⟩
theorem r_sub_ {ts : TSet} {v : V} {Q : L2.St → Hp → Prop} (h : to σ H fun o H1 => ti σ H1 fun i H2 => ts o i v H2 fun H3 => Q σ H3) : gSub to ti ts v σ H Q := h
theorem r_setL {p : Addr} {xs : List V} {k : Int} {j : Nat} {v : V} {Q : Hp → Prop} (h : H p = some (.lst xs)) (hk : ixN xs.length k = some j) (q : ∀ H', Exb p H H' → H' p = some (.lst (xs.set j v)) → Q H') : rSetL (.ref p) (.int k) v H Q :=
  ⟨p, xs, k, j, rfl, rfl, h, hk, mutL q⟩
theorem r_cat {l b : Addr} {xs zs : List V} (h1 : H l = some (.lst xs)) (h2 : H b = some (.lst zs)) (z : xs.length + zs.length ≤ sizeLine) (q : ∀ p H', H p = none → Ex H H' → H' p = some (.lst (xs ++ zs)) → Q (.ref p) H') : rCat (.ref l) (.ref b) H Q :=
  ⟨l, b, xs, zs, rfl, rfl, h1, h2, z, newL q⟩
theorem flat_rep {α : Type} (x : α) : ∀ n : Nat, (List.replicate n [x]).flatten = List.replicate n x
  | 0 => rfl
  | n + 1 => by rw [List.replicate_succ, List.flatten_cons, flat_rep x n, List.replicate_succ]; rfl
/-- [x] * k -/
theorem r_rep1 {l : Addr} {x : V} {k : Int} (h1 : H l = some (.lst [x])) (z : k.toNat ≤ 1000000) (q : ∀ p H', H p = none → Ex H H' → H' p = some (.lst (List.replicate k.toNat x)) → Q (.ref p) H')  (h0 : -(2 ^ 63) ≤ k := by omega) : rRep (.ref l) (.int k) H Q :=
  ⟨l, k, [x], rfl, rfl, h1, h0, by omega, by
    show 1 * k.toNat ≤ sizeLine
    rw [Nat.one_mul]
    exact Nat.le_trans z (by decide), newL fun p H' a b c => q p H' a b (by rw [flat_rep] at c; exact c)⟩
theorem r_sl {r : V → Option Int → Option Int → Hp → VK → Prop} {tl th : TO} (h : te σ H fun x H1 => tl σ H1 fun l H2 => th σ H2 fun u H3 => r x l u H3 Q) : tSl r te tl th σ H Q := h
theorem r_part {Q : Option Int → Hp → Prop} (h : te σ H fun x H1 => ∃ i, x = .int i ∧ Q (some i) H1) : tPart te σ H Q := h
theorem r_int {i : Int} {Q : Int → Prop} (h : Q i) : ∃ j, V.int i = .int j ∧ Q j := ⟨i, rfl, h⟩
theorem r_nopart {Q : Option Int → Hp → Prop} (h : Q none H) : tNoPart σ H Q := h
theorem r_slL {a : Addr} {xs : List V} {lo hi : Option Int} (h : SqL K H a xs) (q : ∀ p H', H p = none → Ex H H' → H' p = some (.lst (cutV xs lo hi)) → Q (.ref p) H') : rSlL K (.ref a) lo hi H Q := ⟨a, xs, rfl, h, newL q⟩
theorem r_par {i j : Nat} {ta : TA} (h : ta σ H fun vs H1 => ∃ v w, vs = [v, w] ∧ D.nx ((σ.set i (some v)).set j (some w)) H1) : tPar i j ta D σ H := h
theorem r_par2 {i j : Nat} {v w : V} (h : D.nx ((σ.set i (some v)).set j (some w)) H) : ∃ v' w', [v, w] = [v', w'] ∧ D.nx ((σ.set i (some v')).set j (some w')) H := ⟨v, w, rfl, h⟩
end
/-- a truth that is decided, both ways -/
theorem ite_d {p A B : Prop} [Decidable p] (h1 : p → A) (h2 : ¬ p → B) : if decide p = true then A else B := by
  by_cases h : p
  · rw [if_pos (decide_eq_true h)]; exact h1 h
  · rw [if_neg (by rw [decide_eq_false h]; decide)]; exact h2 h
theorem ite_nd {p A B : Prop} [Decidable p] (h1 : ¬ p → A) (h2 : p → B) : if (!decide p) = true then A else B := by
  by_cases h : p
  · rw [if_neg (by rw [decide_eq_true h]; decide)]; exact h2 h
  · rw [if_pos (by rw [decide_eq_false h]; rfl)]; exact h1 h
theorem ite_b {b : Bool} {A B : Prop} (h1 : b = true → A) (h2 : b = false → B) : if b = true then A else B := by
  cases b with
  | true => rw [if_pos rfl]; exact h1 rfl
  | false => rw [if_neg (by decide)]; exact h2 rfl

theorem r_isi {K : PySem.W.Frag} {H : Hp} {Q : VK} {x c : V} {t u : Value} {b : Bool} (ht : TyX K H x t) (hc : ClsV c u) (hk : PySem.W.kitOne K t u = some b) (q : Q (.bl b) H) : rIsi K [x, c] H Q := ⟨x, c, t, u, b, rfl, hc, ht, hk, q⟩
theorem iteD {p A B : Prop} [Decidable p] (h : p) (a : A) : if decide p = true then A else B := by rw [if_pos (decide_eq_true h)]; exact a
theorem iteDF {p A B : Prop} [Decidable p] (h : ¬ p) (a : B) : if decide p = true then A else B := by rw [if_neg (by rw [decide_eq_false h]; decide)]; exact a
/-! ### lists of ints, compared -/
theorem dp_ints {K : PySem.W.Frag} {H : Hp} : ∀ ns : List Int, DpAll K H (ns.map V.int) (ns.map PyData.int)
  | [] => .nil
  | n :: r => .cons (.int n) (dp_ints r)
theorem dp_listI {K : PySem.W.Frag} {H : Hp} {a : Addr} {ns : List Int} (h : SqL K H a (ns.map V.int)) : Dp K H (.ref a) (.list (ns.map PyData.int)) := .lst h (dp_ints ns)
def dI (ns : List Int) : PyData := .list (ns.map PyData.int)
theorem canLay_ints : ∀ ns : List Int, PyData.canLayAll0 (ns.map PyData.int) = true
  | [] => by simp [PyData.canLayAll0]
  | n :: r => by
    rw [List.map_cons, PyData.canLayAll0, canLay_ints r]; simp [PyData.canLay0]
theorem depth_ints : ∀ ns : List Int, PyData.depthAll (ns.map PyData.int) ≤ 1
  | [] => by simp [PyData.depthAll]
  | n :: r => by
    have := depth_ints r
    rw [List.map_cons, PyData.depthAll]
    simp [PyData.depth]
    omega
theorem shaped_dI (ns : List Int) : SeqAt.shaped (dI ns) = true := by
  have h1 := canLay_ints ns
  have h2 := depth_ints ns
  unfold SeqAt.shaped dI
  rw [Bool.and_eq_true, PyData.canLay0, PyData.depth]
  exact ⟨h1, decide_eq_true (by omega)⟩
theorem eqvAll_ints : ∀ ns ms : List Int, PyData.eqvAll (ns.map PyData.int) (ms.map PyData.int) = decide (ns = ms)
  | [], [] => by simp [PyData.eqvAll]
  | [], m :: r => by simp [PyData.eqvAll]
  | n :: r, [] => by simp [PyData.eqvAll]
  | n :: r, m :: s => by
    rw [List.map_cons, List.map_cons, PyData.eqvAll, eqvAll_ints r s]
    simp [PyData.eqv, Bool.beq_eq_decide_eq]
theorem eqv_dI (ns ms : List Int) : PyData.eqv (dI ns) (dI ms) = decide (ns = ms) := by
  unfold dI
  rw [PyData.eqv, eqvAll_ints]
theorem r_eqInts {K : PySem.W.Frag} {H : Hp} {Q : VK} {a b : Addr} {ns ms : List Int} (h1 : SqL K H a (ns.map V.int)) (h2 : SqL K H b (ms.map V.int)) (q : Q (.bl (decide (ns = ms))) H) : rEqD K (.ref a) (.ref b) H Q :=
  ⟨_, _, dp_listI h1, dp_listI h2, shaped_dI ns, shaped_dI ms, by rw [show PyData.eqv (.list (ns.map PyData.int)) (.list (ms.map PyData.int)) = decide (ns = ms) from eqv_dI ns ms]; exact q⟩
theorem r_neInts {K : PySem.W.Frag} {H : Hp} {Q : VK} {a b : Addr} {ns ms : List Int} (h1 : SqL K H a (ns.map V.int)) (h2 : SqL K H b (ms.map V.int)) (q : Q (.bl (!decide (ns = ms))) H) : rNeD K (.ref a) (.ref b) H Q :=
  ⟨_, _, dp_listI h1, dp_listI h2, shaped_dI ns, shaped_dI ms, by rw [show PyData.eqv (.list (ns.map PyData.int)) (.list (ms.map PyData.int)) = decide (ns = ms) from eqv_dI ns ms]; exact q⟩
/-! ### loops -/
def Lp (J : It) (g : TG) (tb : TS) (D : Ends) (σ : L2.St) (H : Hp) : Prop := ∃ W : Nat → Nat → L2.St → Hp → Prop, (∃ m, W 0 m σ H) ∧ ∀ i m σ H, W i m σ H →
  (J.stop i H ∧ D.nx σ H) ∨ (J.go i H ∧ ∃ N : L2.St → Hp → Prop, (∀ σ' H', N σ' H' → ∃ m', m' < m ∧ W (i + 1) m' σ' H') ∧ ∀ x H', J.yld i H x H' → g x σ H' fun σ2 H2 => tb { D with nx := N, ct := N, bk := D.nx } σ2 H2)
section
variable {K : PySem.W.Frag} {σ : L2.St} {H : Hp} {D : Ends} {te : TE} {ta : TA} {tb : TS} {g : TG} {wi : TI}
theorem r_for (h : wi σ H fun J H1 => Lp J g tb D σ H1) : tFor wi g tb D σ H := h
theorem r_iList {R : It → Hp → Prop} (h : te σ H fun x H1 => ∃ a, x = .ref a ∧ (∃ xs, SqL K H1 a xs) ∧ R (Itl K a) H1) : iList K te σ H R := h
theorem r_iListA {a : Addr} {xs : List V} (h : SqL K H a xs) (q : Lp (Itl K a) g tb D σ H) : ∃ a', V.ref a = .ref a' ∧ (∃ xs, SqL K H a' xs) ∧ Lp (Itl K a') g tb D σ H := ⟨a, rfl, ⟨xs, h⟩, q⟩
theorem r_iTup {R : It → Hp → Prop} (h : te σ H fun x H1 => ∃ a, x = .ref a ∧ (∃ xs, SqT K H1 a xs) ∧ R (Itt K a) H1) : iTup K te σ H R := h
theorem r_iTupA {a : Addr} {xs : List V} (h : SqT K H a xs) (q : Lp (Itt K a) g tb D σ H) : ∃ a', V.ref a = .ref a' ∧ (∃ xs, SqT K H a' xs) ∧ Lp (Itt K a') g tb D σ H := ⟨a, rfl, ⟨xs, h⟩, q⟩
theorem r_iRng1 {R : It → Hp → Prop} (h : ta σ H fun vs H1 => ∃ j : Int, vs = [.int j] ∧ -(2 ^ 62) ≤ j ∧ j < 2 ^ 62 ∧ R (Itr 0 j.toNat) H1) : iRng1 ta σ H R := h
theorem r_iRng1A {j : Int} (h0 : -(2 ^ 62) ≤ j) (h1 : j < 2 ^ 62) (q : Lp (Itr 0 j.toNat) g tb D σ H) : ∃ j' : Int, [V.int j] = [.int j'] ∧ -(2 ^ 62) ≤ j' ∧ j' < 2 ^ 62 ∧ Lp (Itr 0 j'.toNat) g tb D σ H := ⟨j, rfl, h0, h1, q⟩
theorem r_iRng2 {R : It → Hp → Prop} (h : ta σ H fun vs H1 => ∃ i j : Int, vs = [.int i, .int j] ∧ (-(2 ^ 62) ≤ i ∧ i < 2 ^ 62 ∧ -(2 ^ 62) ≤ j ∧ j < 2 ^ 62) ∧ R (Itr i (j - i).toNat) H1) : iRng2 ta σ H R := h
theorem r_iRng2A {i j : Int} (hb : -(2 ^ 62) ≤ i ∧ i < 2 ^ 62 ∧ -(2 ^ 62) ≤ j ∧ j < 2 ^ 62) (q : Lp (Itr i (j - i).toNat) g tb D σ H) : ∃ i' j' : Int, [V.int i, V.int j] = [.int i', .int j'] ∧ (-(2 ^ 62) ≤ i' ∧ i' < 2 ^ 62 ∧ -(2 ^ 62) ≤ j' ∧ j' < 2 ^ 62) ∧ Lp (Itr i' (j' - i').toNat) g tb D σ H := ⟨i, j, rfl, hb, q⟩
theorem r_iRev {R : It → Hp → Prop} (h : ta σ H fun vs H1 => ∃ (a : Addr) (xs : List V), vs = [.ref a] ∧ SqL K H1 a xs ∧ R (Itv K a xs.length) H1) : iRev K ta σ H R := h
theorem r_iRevA {a : Addr} {xs : List V} (h : SqL K H a xs) (q : Lp (Itv K a xs.length) g tb D σ H) : ∃ (a' : Addr) (xs : List V), [V.ref a] = [.ref a'] ∧ SqL K H a' xs ∧ Lp (Itv K a' xs.length) g tb D σ H := ⟨a, xs, rfl, h, q⟩
theorem r_iEnum {R : It → Hp → Prop} (h : ta σ H fun vs H1 => ∃ a xs, vs = [.ref a] ∧ SqL K H1 a xs ∧ R (Ite K a) H1) : iEnum K ta σ H R := h
theorem r_iEnumA {a : Addr} {xs : List V} (h : SqL K H a xs) (q : Lp (Ite K a) g tb D σ H) : ∃ (a' : Addr) (xs : List V), [V.ref a] = [.ref a'] ∧ SqL K H a' xs ∧ Lp (Ite K a') g tb D σ H := ⟨a, xs, rfl, h, q⟩
theorem r_iRevR {tr : L2.St → Hp → (Int → Int → Hp → Prop) → Prop} {R : It → Hp → Prop} (h : tr σ H fun a b H1 => -(2 ^ 62) ≤ a ∧ a < 2 ^ 62 ∧ -(2 ^ 62) ≤ b ∧ b < 2 ^ 62 ∧ R (Itc (a + (((b - a).toNat : Nat) : Int) - 1) (-1) (b - a).toNat) H1) : iRevR tr σ H R := h

theorem loop_list {a : Addr} {xs : List V} (Pv : Nat → L2.St → Hp → Prop) (h0 : Pv 0 σ H) (hl : ∀ i σ H, i ≤ xs.length → Pv i σ H → SqL K H a xs)
    (hs : ∀ i x σ H, xs[i]? = some x → Pv i σ H → g x σ H fun σ2 H2 => tb { D with nx := Pv (i + 1), ct := Pv (i + 1), bk := D.nx } σ2 H2) (hd : ∀ σ H, Pv xs.length σ H → D.nx σ H) : Lp (Itl K a) g tb D σ H := for_list Pv h0 hl hs hd
/-- a loop over a list of ints -/
theorem loop_ints {a : Addr} {ns : List Int} {j : Nat} (Pv : Nat → L2.St → Hp → Prop) (h0 : Pv 0 σ H) (hl : ∀ i σ H, i ≤ ns.length → Pv i σ H → SqL K H a (ns.map V.int))
    (hs : ∀ i x σ H, ns[i]? = some x → Pv i σ H → tb { D with nx := Pv (i + 1), ct := Pv (i + 1), bk := D.nx } (σ.set j (some (.int x))) H) (hd : ∀ σ H, Pv ns.length σ H → D.nx σ H) : Lp (Itl K a) (gName j) tb D σ H :=
  for_list (xs := ns.map V.int) Pv h0 (fun i σ H h => hl i σ H (by rw [List.length_map] at h; exact h)) (fun i x σ H hx hp => by
    rw [List.getElem?_map] at hx
    cases e : ns[i]? with
    | none => rw [e] at hx; cases hx
    | some z => rw [e] at hx; cases hx; exact hs i z σ H e hp) (fun σ H h => hd σ H (by rw [List.length_map] at h; exact h))
theorem loop_tup {a : Addr} {xs : List V} (Pv : Nat → L2.St → Hp → Prop) (h0 : Pv 0 σ H) (hl : ∀ i σ H, i ≤ xs.length → Pv i σ H → SqT K H a xs)
    (hs : ∀ i x σ H, xs[i]? = some x → Pv i σ H → g x σ H fun σ2 H2 => tb { D with nx := Pv (i + 1), ct := Pv (i + 1), bk := D.nx } σ2 H2) (hd : ∀ σ H, Pv xs.length σ H → D.nx σ H) : Lp (Itt K a) g tb D σ H := for_tup Pv h0 hl hs hd
theorem loop_range {lo : Int} {n : Nat} {j : Nat} (Pv : Nat → L2.St → Hp → Prop) (h0 : Pv 0 σ H)
    (hs : ∀ i σ H, i < n → Pv i σ H → tb { D with nx := Pv (i + 1), ct := Pv (i + 1), bk := D.nx } (σ.set j (some (.int (lo + (i : Int))))) H) (hd : ∀ σ H, Pv n σ H → D.nx σ H) : Lp (Itr lo n) (gName j) tb D σ H := for_range Pv h0 hs hd
theorem loop_range0 {n : Nat} {j : Nat} (Pv : Nat → L2.St → Hp → Prop) (h0 : Pv 0 σ H)
    (hs : ∀ i σ H, i < n → Pv i σ H → tb { D with nx := Pv (i + 1), ct := Pv (i + 1), bk := D.nx } (σ.set j (some (.int (i : Int)))) H) (hd : ∀ σ H, Pv n σ H → D.nx σ H) : Lp (Itr 0 n) (gName j) tb D σ H :=
  for_range Pv h0 (fun i σ H hi hp => by
    have e : (0 : Int) + (i : Int) = (i : Int) := Int.zero_add _
    rw [e]
    exact hs i σ H hi hp) hd
theorem loop_rangeC {lo c : Int} {n : Nat} {j : Nat} (Pv : Nat → L2.St → Hp → Prop) (h0 : Pv 0 σ H)
    (hs : ∀ i σ H, i < n → Pv i σ H → tb { D with nx := Pv (i + 1), ct := Pv (i + 1), bk := D.nx } (σ.set j (some (.int (lo + (i : Int) * c)))) H) (hd : ∀ σ H, Pv n σ H → D.nx σ H) : Lp (Itc lo c n) (gName j) tb D σ H := for_rangeC Pv h0 hs hd
theorem loop_rev {a : Addr} {xs : List V} (Pv : Nat → L2.St → Hp → Prop) (h0 : Pv 0 σ H) (hl : ∀ i σ H, i ≤ xs.length → Pv i σ H → SqL K H a xs)
    (hs : ∀ i x σ H, xs[xs.length - 1 - i]? = some x → i < xs.length → Pv i σ H → g x σ H fun σ2 H2 => tb { D with nx := Pv (i + 1), ct := Pv (i + 1), bk := D.nx } σ2 H2) (hd : ∀ σ H, Pv xs.length σ H → D.nx σ H) : Lp (Itv K a xs.length) g tb D σ H := by
  refine ⟨fun i m σ H => m = xs.length - i ∧ i ≤ xs.length ∧ Pv i σ H, ⟨xs.length, by simp, Nat.zero_le _, h0⟩, ?_⟩
  rintro i m σ H ⟨rfl, hi, p⟩
  have q := hl i σ H hi p
  by_cases hlt : i < xs.length
  · have hk : xs.length - 1 - i < xs.length := by omega
    refine .inr ⟨⟨hlt, xs, xs[xs.length - 1 - i], q, by simp [hk]⟩, Pv (i + 1), fun σ' H' p' => ⟨xs.length - (i + 1), by omega, rfl, hlt, p'⟩, fun x H' y => ?_⟩
    obtain ⟨e, y⟩ := y
    subst e
    exact hs i x σ _ (y xs q) hlt p
  · have e : i = xs.length := by omega
    subst e
    exact .inl ⟨Nat.le_refl _, hd σ H p⟩
theorem loop_enum {a : Addr} {xs : List V} {j k : Nat} (Pv : Nat → L2.St → Hp → Prop) (h0 : Pv 0 σ H) (hl : ∀ i σ H, i ≤ xs.length → Pv i σ H → SqL K H a xs)
    (hs : ∀ i x σ H H', xs[i]? = some x → Pv i σ H → Ex H H' → tb { D with nx := Pv (i + 1), ct := Pv (i + 1), bk := D.nx } ((σ.set j (some (.int (i : Int)))).set k (some x)) H') (hd : ∀ σ H, Pv xs.length σ H → D.nx σ H) :
    Lp (Ite K a) (gTup K 2 (gCons (gName j) (gCons (gName k) gNil))) tb D σ H := by
  refine ⟨fun i m σ H => m = xs.length - i ∧ i ≤ xs.length ∧ Pv i σ H, ⟨xs.length, by simp, Nat.zero_le _, h0⟩, ?_⟩
  rintro i m σ H ⟨rfl, hi, p⟩
  have q := hl i σ H hi p
  by_cases hlt : i < xs.length
  · refine .inr ⟨⟨xs, xs[i], q, by simp [hlt]⟩, Pv (i + 1), fun σ' H' p' => ⟨xs.length - (i + 1), by omega, rfl, hlt, p'⟩, fun v H' y => ?_⟩
    obtain ⟨T, x, rfl, nT, rfl, y⟩ := y
    exact ⟨T, _, rfl, .inl (.inl upd_same), rfl, _, _, rfl, x, [], rfl, rfl, hs i x σ H _ (y xs q) p (Evl.Ex.new nT)⟩
  · have e : i = xs.length := by omega
    subst e
    exact .inl ⟨⟨xs, q, Nat.le_refl _⟩, hd σ H p⟩
theorem r_while {tt : TT} (W : Nat → L2.St → Hp → Prop) (m0 : Nat) (h0 : W m0 σ H)
    (hs : ∀ m σ' H', W m σ' H' → tt σ' H' fun b H1 => if b = true then ∃ N : L2.St → Hp → Prop, (∀ σ2 H2, N σ2 H2 → ∃ m', m' < m ∧ W m' σ2 H2) ∧ tb { D with nx := N, ct := N, bk := D.nx } σ' H1 else D.nx σ' H1) : tWhile tt tb D σ H :=
  ⟨W, ⟨m0, h0⟩, hs⟩
theorem wh_in {W : Nat → L2.St → Hp → Prop} {m : Nat} (h : tb { D with nx := fun σ2 H2 => ∃ m', m' < m ∧ W m' σ2 H2, ct := fun σ2 H2 => ∃ m', m' < m ∧ W m' σ2 H2, bk := D.nx } σ H) :
    ∃ N : L2.St → Hp → Prop, (∀ σ2 H2, N σ2 H2 → ∃ m', m' < m ∧ W m' σ2 H2) ∧ tb { D with nx := N, ct := N, bk := D.nx } σ H := ⟨_, fun _ _ h => h, h⟩
end
/-! ### bounds -/
theorem small_le {n : Nat} (h : n ≤ 16777216) : n ≤ sizeLine := by rw [sizeLine_eq]; exact h
theorem small_lt {n : Nat} (h : n < 16777216) : n < sizeLine := by rw [sizeLine_eq]; exact h
/-! ### comprehensions -/
def Lc (J : It) (g : TG) (tt : TT) (te : TE) (vs : List Nat) (σ : L2.St) (H1 : Hp) (Q : VK) : Prop := ∀ D, H1 D = none → ∃ W : Nat → Nat → Hp → Prop, (∃ m, W 0 m (upd H1 D (.lst []))) ∧ ∀ i m H, W i m H →
  (J.stop i H ∧ Q (.ref D) H) ∨ (J.go i H ∧ ∃ Nx : Hp → Prop, (∀ H', Nx H' → ∃ m', m' < m ∧ W (i + 1) m' H') ∧ ∀ x H', J.yld i H x H' → g x (wipe σ vs) H' fun σ2 H2 => wipe σ2 vs = wipe σ vs ∧ tt σ2 H2 fun b H3 =>
    if b = true then te σ2 H3 fun y H4 => ∃ acc, H4 D = some (.lst acc) ∧ acc.length < sizeLine ∧ Nx (upd H4 D (.lst (acc ++ [y]))) else Nx H3)
theorem r_lc {wi : TI} {g : TG} {tt : TT} {te : TE} {vs : List Nat} {σ : L2.St} {H : Hp} {Q : VK} (h : wi σ H fun J H1 => Lc J g tt te vs σ H1 Q) : tLc wi g tt te vs σ H Q := h
theorem set_set {α : Type} : ∀ (l : List α) (i : Nat) (a b : α), (l.set i a).set i b = l.set i b
  | [], _, _, _ => rfl
  | _ :: _, 0, _, _ => rfl
  | x :: l, i + 1, a, b => by show x :: (l.set i a).set i b = x :: l.set i b; rw [set_set l i a b]
section
variable {K : PySem.W.Frag} {σ : L2.St} {H : Hp} {te : TE} {Q : VK} {g : TG}
theorem r_cListA {a : Addr} {xs : List V} {tt : TT} {vs : List Nat} (h : SqL K H a xs) (q : Lc (Itl K a) g tt te vs σ H Q) : ∃ a', V.ref a = .ref a' ∧ (∃ xs, SqL K H a' xs) ∧ Lc (Itl K a') g tt te vs σ H Q := ⟨a, rfl, ⟨xs, h⟩, q⟩
theorem r_cRng1A {j : Int} {tt : TT} {vs : List Nat} (h0 : -(2 ^ 62) ≤ j) (h1 : j < 2 ^ 62) (q : Lc (Itr 0 j.toNat) g tt te vs σ H Q) : ∃ j' : Int, [V.int j] = [.int j'] ∧ -(2 ^ 62) ≤ j' ∧ j' < 2 ^ 62 ∧ Lc (Itr 0 j'.toNat) g tt te vs σ H Q := ⟨j, rfl, h0, h1, q⟩
theorem r_cRng2A {i j : Int} {tt : TT} {vs : List Nat} (hb : -(2 ^ 62) ≤ i ∧ i < 2 ^ 62 ∧ -(2 ^ 62) ≤ j ∧ j < 2 ^ 62) (q : Lc (Itr i (j - i).toNat) g tt te vs σ H Q) : ∃ i' j' : Int, [V.int i, V.int j] = [.int i', .int j'] ∧ (-(2 ^ 62) ≤ i' ∧ i' < 2 ^ 62 ∧ -(2 ^ 62) ≤ j' ∧ j' < 2 ^ 62) ∧ Lc (Itr i' (j' - i').toNat) g tt te vs σ H Q := ⟨i, j, rfl, hb, q⟩
/-- over a list, each item giving a value by a function -/
theorem lc_map {a : Addr} {xs : List V} {j : Nat} (f : V → V) (hx : SqL K H a xs) (hz : xs.length < 1000000)
    (he : ∀ x, x ∈ xs → ∀ H1, Ex H H1 → ∀ Q' : VK, (∀ H2, Ex H1 H2 → Q' (f x) H2) → te (σ.set j (some x)) H1 Q')
    (q : ∀ p H', H p = none → Ex H H' → H' p = some (.lst (xs.map f)) → Q (.ref p) H') : Lc (Itl K a) (gName j) tYes te [j] σ H Q := fun D hD =>
  lc_list (xs := xs) (fun i H' => Ex H H' ∧ H' D = some (.lst ((xs.take i).map f))) ⟨Evl.Ex.new hD, upd_same⟩ (fun i H' _ p => p.1.l hx)
    (fun i x H' hi p => ⟨by show ((σ.set j none).set j (some x)).set j none = σ.set j none; rw [set_set, set_set], by
      show te ((σ.set j none).set j (some x)) H' _
      rw [set_set]
      refine he x (List.mem_of_getElem? hi) H' p.1 _ fun H2 e2 => ⟨_, e2 D _ p.2, ?_, (Evl.Ex.mut (p.1.trans e2) hD), ?_⟩
      · rw [List.length_map, List.length_take]; exact small_lt (by omega)
      · rw [upd_same, List.take_add_one, hi, List.map_append]; rfl⟩)
    (fun H' p => q D H' hD p.1 (by rw [List.take_length] at p; exact p.2))
/-- over a list of ints, each giving an int -/
theorem lc_ints {a : Addr} {ns : List Int} {j : Nat} (f : Int → Int) (hx : SqL K H a (ns.map V.int)) (hz : ns.length < 1000000)
    (he : ∀ x, x ∈ ns → ∀ H1, Ex H H1 → ∀ Q' : VK, (∀ H2, Ex H1 H2 → Q' (.int (f x)) H2) → te (σ.set j (some (.int x))) H1 Q')
    (q : ∀ p H', H p = none → Ex H H' → H' p = some (.lst ((ns.map f).map V.int)) → Q (.ref p) H') : Lc (Itl K a) (gName j) tYes te [j] σ H Q :=
  lc_map (xs := ns.map V.int) (fun v => match v with | .int x => .int (f x) | v => v) hx (by rw [List.length_map]; exact hz)
    (fun v hv H1 e1 Q' k => by
      obtain ⟨x, hx', rfl⟩ := List.mem_map.mp hv
      exact he x hx' H1 e1 Q' k)
    (fun p H' hp e h => q p H' hp e (by
      rw [List.map_map] at h ⊢
      exact h))
/-- over a range from 0, each giving an int -/
theorem lc_rangeI {n : Nat} {j : Nat} (f : Nat → Int) (hz : n < 1000000)
    (he : ∀ i, i < n → ∀ H1, Ex H H1 → ∀ Q' : VK, (∀ H2, Ex H1 H2 → Q' (.int (f i)) H2) → te (σ.set j (some (.int (i : Int)))) H1 Q')
    (q : ∀ p H', H p = none → Ex H H' → H' p = some (.lst (((List.range n).map f).map V.int)) → Q (.ref p) H') : Lc (Itr 0 n) (gName j) tYes te [j] σ H Q := fun D hD =>
  lc_range (lo := 0) (n := n) (fun i H' => Ex H H' ∧ H' D = some (.lst (((List.range i).map f).map V.int))) ⟨Evl.Ex.new hD, upd_same⟩
    (fun i H' hi p => ⟨by show ((σ.set j none).set j _).set j none = σ.set j none; rw [set_set, set_set], by
      show te ((σ.set j none).set j (some (.int ((0 : Int) + (i : Int))))) H' _
      rw [set_set, show (0 : Int) + (i : Int) = (i : Int) from Int.zero_add _]
      refine he i hi H' p.1 _ fun H2 e2 => ⟨_, e2 D _ p.2, ?_, (Evl.Ex.mut (p.1.trans e2) hD), ?_⟩
      · rw [List.length_map, List.length_map, List.length_range]; exact small_lt (by omega)
      · rw [upd_same, List.range_succ, List.map_append, List.map_append]; rfl⟩)
    (fun H' p => q D H' hD p.1 p.2)
end
/-- an item of a list of ints -/
theorem r_ixI {K : PySem.W.Frag} {H : Hp} {Q : VK} {p : Addr} {i : Int} {ns : List Int} (h : SqL K H p (ns.map V.int)) (h0 : 0 ≤ i) (h1 : i < ns.length) (q : Q (.int (ns.getD i.toNat 0)) H) : rIxL K (.ref p) (.int i) H Q := by
  obtain ⟨k, rfl⟩ : ∃ k : Nat, i = (k : Int) := ⟨i.toNat, by omega⟩
  have hk : k < ns.length := by omega
  refine r_ixL h (atI_nat (j := k) (v := .int ns[k]) ?_) ?_
  · rw [List.getElem?_map, List.getElem?_eq_getElem hk]; rfl
  · rw [Int.toNat_natCast, List.getD_eq_getElem?_getD, List.getElem?_eq_getElem hk] at q
    exact q
/-- a slice of a list of ints, both ends in it -/
theorem cutI (ns : List Int) (lo hi : Option Int) : cutV (ns.map V.int) lo hi = ((ns.drop (HT.sIx ns.length 0 lo)).take (HT.sIx ns.length ns.length hi - HT.sIx ns.length 0 lo)).map V.int := by
  unfold cutV
  rw [List.length_map, List.map_take, List.map_drop]
/-- the part of a list between two bounds -/
def sliceI (ns : List Int) (lo hi : Option Int) : List Int := (ns.drop (HT.sIx ns.length 0 lo)).take (HT.sIx ns.length ns.length hi - HT.sIx ns.length 0 lo)
theorem sliceI_mem {ns : List Int} {lo hi : Option Int} {x : Int} (h : x ∈ sliceI ns lo hi) : x ∈ ns := List.mem_of_mem_drop (List.mem_of_mem_take h)
theorem sliceI_len (ns : List Int) (lo hi : Option Int) : (sliceI ns lo hi).length ≤ ns.length := by
  unfold sliceI
  rw [List.length_take, List.length_drop]; omega
theorem r_slI {K : PySem.W.Frag} {H : Hp} {Q : VK} {a : Addr} {ns : List Int} {lo hi : Option Int} (h : SqL K H a (ns.map V.int)) (q : ∀ p H', H p = none → Ex H H' → H' p = some (.lst ((sliceI ns lo hi).map V.int)) → Q (.ref p) H') : rSlL K (.ref a) lo hi H Q :=
  r_slL h fun p H' hp e hh => q p H' hp e (by rw [cutI] at hh; exact hh)
theorem r_repN {H : Hp} {Q : VK} {l : Addr} {ns : List Int} {k : Int} (h1 : H l = some (.lst (ns.map V.int))) (hk : k < 2 ^ 63) (z : ns.length * k.toNat ≤ 16777216) (q : ∀ p H', H p = none → Ex H H' → H' p = some (.lst (((List.replicate k.toNat ns).flatten).map V.int)) → Q (.ref p) H') (h0 : -(2 ^ 63) ≤ k := by omega) : rRep (.ref l) (.int k) H Q :=
  ⟨l, k, _, rfl, rfl, h1, h0, hk, by rw [List.length_map]; exact small0 z, newL fun p H' a b c => q p H' a b (by rw [List.map_flatten, List.map_replicate]; exact c)⟩
def insI (ns : List Int) (i : Int) (y : Int) : List Int := ns.take i.toNat ++ [y] ++ ns.drop i.toNat
theorem insI_mem {ns : List Int} {i y x : Int} : x ∈ insI ns i y ↔ x = y ∨ x ∈ ns := by
  unfold insI
  have h : x ∈ ns ↔ x ∈ ns.take i.toNat ∨ x ∈ ns.drop i.toNat := by rw [← List.mem_append, List.take_append_drop]
  rw [h, List.mem_append, List.mem_append, List.mem_singleton]
  constructor
  · rintro ((h | h) | h)
    · exact .inr (.inl h)
    · exact .inl h
    · exact .inr (.inr h)
  · rintro (h | h | h)
    · exact .inl (.inr h)
    · exact .inl (.inl h)
    · exact .inr h
theorem insI_len (ns : List Int) (i y : Int) : (insI ns i y).length = ns.length + 1 := by
  unfold insI
  rw [List.length_append, List.length_append, List.length_take, List.length_drop]
  show min i.toNat ns.length + 1 + (ns.length - i.toNat) = _
  omega
theorem r_insertI {H : Hp} {Q : VK} {l : Addr} {ns : List Int} {i y : Int} (h : H l = some (.lst (ns.map V.int))) (z : ns.length < 16777216) (h0 : 0 ≤ i) (h1 : i < 2 ^ 63) (q : ∀ H', Exb l H H' → H' l = some (.lst ((insI ns i y).map V.int)) → Q .non H') : rInsert (.ref l) [.int i, .int y] H Q :=
  r_insert h (by rw [List.length_map]; exact small_lt z) h0 h1 fun H' e hh => q H' e (by
    unfold insI
    rw [List.map_append, List.map_append, List.map_take, List.map_drop]
    exact hh)
theorem r_appendI {H : Hp} {Q : VK} {l : Addr} {ns : List Int} {y : Int} (h : H l = some (.lst (ns.map V.int))) (z : ns.length < 16777216) (q : ∀ H', Exb l H H' → H' l = some (.lst ((ns ++ [y]).map V.int)) → Q .non H') : rAppend (.ref l) [.int y] H Q :=
  r_append h (by rw [List.length_map]; exact small_lt z) fun H' e hh => q H' e (by rw [List.map_append]; exact hh)
theorem r_catI {H : Hp} {Q : VK} {l b : Addr} {ns ms : List Int} (h1 : H l = some (.lst (ns.map V.int))) (h2 : H b = some (.lst (ms.map V.int))) (z : ns.length + ms.length ≤ 16777216) (q : ∀ p H', H p = none → Ex H H' → H' p = some (.lst ((ns ++ ms).map V.int)) → Q (.ref p) H') : rCat (.ref l) (.ref b) H Q :=
  r_cat h1 h2 (by rw [List.length_map, List.length_map]; exact small0 z) fun p H' a e hh => q p H' a e (by rw [List.map_append]; exact hh)
theorem i_t {A B : Prop} (h : A) : if true = true then A else B := iteT h
theorem i_f {A B : Prop} (h : B) : if false = true then A else B := iteF h
theorem i_nt {A B : Prop} (h : B) : if (!true) = true then A else B := iteF h
theorem i_nf {A B : Prop} (h : A) : if (!false) = true then A else B := iteT h
theorem sliceI_to {ns : List Int} {n : Nat} (h : n ≤ ns.length) : sliceI ns none (some (n : Int)) = ns.take n := by
  unfold sliceI
  rw [HT.sIx_none, HT.sIx_nat, List.drop_zero, Nat.min_eq_left h]; rfl
theorem sliceI_toI {ns : List Int} {n : Int} (h0 : 0 ≤ n) : sliceI ns none (some n) = ns.take n.toNat := by
  obtain ⟨k, rfl⟩ : ∃ k : Nat, n = (k : Int) := ⟨n.toNat, by omega⟩
  unfold sliceI
  rw [HT.sIx_none, HT.sIx_nat, List.drop_zero, Int.toNat_natCast, Nat.sub_zero]
  by_cases h : k ≤ ns.length
  · rw [Nat.min_eq_left h]
  · rw [Nat.min_eq_right (by omega), List.take_length, List.take_of_length_le (by omega)]
theorem sliceI_fromI {ns : List Int} {n : Int} (h0 : 0 ≤ n) : sliceI ns (some n) none = ns.drop n.toNat := by
  obtain ⟨k, rfl⟩ : ∃ k : Nat, n = (k : Int) := ⟨n.toNat, by omega⟩
  unfold sliceI
  rw [HT.sIx_none, HT.sIx_nat, Int.toNat_natCast]
  by_cases h : k ≤ ns.length
  · rw [Nat.min_eq_left h, List.take_of_length_le (by rw [List.length_drop]; omega)]
  · rw [Nat.min_eq_right (by omega), List.drop_eq_nil_of_le (by omega : ns.length ≤ k), List.drop_length, List.take_nil]
theorem sliceI_bothI {ns : List Int} {n m : Int} (h0 : 0 ≤ n) (h1 : n ≤ m) : sliceI ns (some n) (some m) = (ns.drop n.toNat).take (m.toNat - n.toNat) := by
  obtain ⟨k, rfl⟩ : ∃ k : Nat, n = (k : Int) := ⟨n.toNat, by omega⟩
  obtain ⟨l, rfl⟩ : ∃ l : Nat, m = (l : Int) := ⟨m.toNat, by omega⟩
  unfold sliceI
  rw [HT.sIx_nat, HT.sIx_nat, Int.toNat_natCast, Int.toNat_natCast]
  by_cases h : k ≤ ns.length
  · rw [Nat.min_eq_left h]
    by_cases h' : l ≤ ns.length
    · rw [Nat.min_eq_left h']
    · rw [Nat.min_eq_right (by omega), List.take_of_length_le (by rw [List.length_drop]; omega), List.take_of_length_le (by rw [List.length_drop]; omega)]
  · rw [Nat.min_eq_right (show ns.length ≤ k by omega), List.drop_length, List.drop_eq_nil_of_le (by omega : ns.length ≤ k)]; simp
/-- what a def that makes a new list of ints promises -/
def RetI (xs : List Int) (H : Hp) (Q : VK) : Prop := ∀ p H', H p = none → Ex H H' → H' p = some (.lst (xs.map V.int)) → Q (.ref p) H'
theorem RetI.go {xs : List Int} {H H1 : Hp} {Q : VK} (k : RetI xs H Q) (e : Ex H H1) {p : Addr} {H2 : Hp} (hp : H1 p = none) (e2 : Ex H1 H2) (h : H2 p = some (.lst (xs.map V.int))) : Q (.ref p) H2 := k p H2 (Evl.fresh_back e hp) (e.trans e2) h
/-! ### the heap since the entry -/
/-- all that stood in H stands in H' (the same as Ex, kept apart) -/
structure Fx (H H' : Hp) : Prop where
  to : Ex H H'
theorem Fx.refl (H : Hp) : Fx H H := ⟨Evl.Ex.refl H⟩
theorem Fx.ex {H H1 H2 : Hp} (f : Fx H H1) (e : Ex H1 H2) : Fx H H2 := ⟨Evl.Ex.trans f.to e⟩
theorem Fx.of {H H1 : Hp} (e : Ex H H1) : Fx H H1 := ⟨e⟩
theorem Fx.mut {H H1 H2 : Hp} {l : Addr} (f : Fx H H1) (b : Exb l H1 H2) (h : H l = none) : Fx H H2 := ⟨Evl.Ex.mutb f.to b h⟩
theorem Fx.free {H H1 : Hp} {p : Addr} (f : Fx H H1) (h : H1 p = none) : H p = none := Evl.fresh_back f.to h
theorem Fx.l {K : PySem.W.Frag} {H H' : Hp} {a : Addr} {xs : List V} (e : Fx H H') (h : SqL K H a xs) : SqL K H' a xs := Evl.ex_l e.to h
theorem hx_e {H H' : Hp} {a : Addr} {o : HO} (e : Ex H H') (h : H a = some o) : H' a = some o := e a o h
theorem hx_b {H H' : Hp} {a l : Addr} {o : HO} (e : Exb l H H') (n : a ≠ l) (h : H a = some o) : H' a = some o := e a n o h
theorem ne_1 {H : Hp} {a l : Addr} {o : HO} (h' : H l = none) (h : H a = some o) : a ≠ l := ne_of_none h h'
theorem ne_2 {H : Hp} {a l : Addr} {o : HO} (h' : H a = none) (h : H l = some o) : a ≠ l := (ne_of_none h h').symm
def tTru (K : PySem.W.Frag) (te : TE) : TT := fun σ H Q => te σ H fun x H' => ∃ k, TruV K x H' k ∧ Q k H'
theorem pt_tru {X : Cx} {a : Expr} {ta : TE} (ha : PE X a ta) (he : ∀ whole, isTrue a X.env whole = (do let v ← whole; standAt a.pos; holding [v] (truthy v)) := by intro _; rfl) : PT X a (tTru X.K ta) := pt_truth ha he
theorem r_tru {K : PySem.W.Frag} {te : TE} {σ : L2.St} {H : Hp} {Q : Bool → Hp → Prop} (h : te σ H fun x H' => ∃ k, TruV K x H' k ∧ Q k H') : tTru K te σ H Q := h
theorem r_truL {K : PySem.W.Frag} {a : Addr} {xs : List V} {H : Hp} {Q : Bool → Prop} (h : SqL K H a xs) (q : Q (!xs.isEmpty)) : ∃ k, TruV K (.ref a) H k ∧ Q k := ⟨_, .inl ⟨xs, h, rfl⟩, q⟩
def RevK (K : PySem.W.Frag) (Q : VK) : V → Hp → Prop := fun x H1 => ∃ a xs, x = .ref a ∧ SqL K H1 a xs ∧ ∀ p, H1 p = none → Q (.ref p) (upd H1 p (.lst xs.reverse))
theorem r_rev {K : PySem.W.Frag} {te : TE} {σ : L2.St} {H : Hp} {Q : VK} (h : te σ H (RevK K Q)) : tRevL K te σ H Q := h
theorem r_revI {K : PySem.W.Frag} {H : Hp} {Q : VK} {a : Addr} {ns : List Int} (h : SqL K H a (ns.map V.int)) (q : ∀ p H', H p = none → Ex H H' → H' p = some (.lst (ns.reverse.map V.int)) → Q (.ref p) H') : RevK K Q (.ref a) H :=
  ⟨a, _, rfl, h, newL fun p H' hp e hh => q p H' hp e (by rw [List.map_reverse]; exact hh)⟩
theorem rg2 {a b : Int} (ha : 0 ≤ a) (ha' : a < 2 ^ 60) (hb : -(2 ^ 60) ≤ b) (hb' : b < 2 ^ 60) : RgC a b 2 ((b - a + 1) / 2).toNat := by
  have e : Builtin.Range.rangeSize a b 2 = (((b - a + 1) / 2).toNat : Int) := by
    unfold Builtin.Range.rangeSize
    rw [if_pos (by decide)]
    split <;> omega
  refine ⟨by decide, by decide, ?_, e⟩
  unfold Builtin.Range.small
  rw [e]
  simp only [Builtin.Range.rangeFitsLong, Bool.and_eq_true, Bool.or_eq_true, decide_eq_true_eq, beq_iff_eq, show ((2 : Int) > 0) by decide, if_true]
  omega
theorem r_iRng3 {ta : TA} {σ : L2.St} {H : Hp} {R : It → Hp → Prop} (h : ta σ H fun vs H1 => ∃ (i j c : Int) (n : Nat), vs = [.int i, .int j, .int c] ∧ RgC i j c n ∧ R (Itc i c n) H1) : iRng3 ta σ H R := h
theorem r_iRng3A {g : TG} {tb : TS} {D : Ends} {σ : L2.St} {H : Hp} {i j c : Int} {n : Nat} (h : RgC i j c n) (q : Lp (Itc i c n) g tb D σ H) : ∃ (i' j' c' : Int) (n : Nat), [V.int i, V.int j, V.int c] = [.int i', .int j', .int c'] ∧ RgC i' j' c' n ∧ Lp (Itc i' c' n) g tb D σ H := ⟨i, j, c, n, rfl, h, q⟩
/-- over a range from lo, each giving an int -/
theorem lc_rangeL {σ : L2.St} {H : Hp} {te : TE} {Q : VK} {lo : Int} {n : Nat} {j : Nat} (f : Nat → Int) (hz : n < 1000000)
    (he : ∀ i, i < n → ∀ H1, Ex H H1 → ∀ Q' : VK, (∀ H2, Ex H1 H2 → Q' (.int (f i)) H2) → te (σ.set j (some (.int (lo + (i : Int))))) H1 Q')
    (q : ∀ p H', H p = none → Ex H H' → H' p = some (.lst (((List.range n).map f).map V.int)) → Q (.ref p) H') : Lc (Itr lo n) (gName j) tYes te [j] σ H Q := fun D hD =>
  lc_range (lo := lo) (n := n) (fun i H' => Ex H H' ∧ H' D = some (.lst (((List.range i).map f).map V.int))) ⟨Evl.Ex.new hD, upd_same⟩
    (fun i H' hi p => ⟨by show ((σ.set j none).set j _).set j none = σ.set j none; rw [set_set, set_set], by
      show te ((σ.set j none).set j (some (.int (lo + (i : Int))))) H' _
      rw [set_set]
      refine he i hi H' p.1 _ fun H2 e2 => ⟨_, e2 D _ p.2, ?_, (Evl.Ex.mut (p.1.trans e2) hD), ?_⟩
      · rw [List.length_map, List.length_map, List.length_range]; exact small_lt (by omega)
      · rw [upd_same, List.range_succ, List.map_append, List.map_append]; rfl⟩)
    (fun H' p => q D H' hD p.1 p.2)
theorem r_lenI {K : PySem.W.Frag} {H : Hp} {Q : VK} {p : Addr} {ns : List Int} (h : SqL K H p (ns.map V.int)) (q : Q (.int ns.length) H) : rLenS K [.ref p] H Q := ⟨p, _, rfl, .inl h, by rw [List.length_map]; exact q⟩
/-- the last item -/
theorem r_ixLast {K : PySem.W.Frag} {H : Hp} {Q : VK} {p : Addr} {ns : List Int} (h : SqL K H p (ns.map V.int)) (h0 : ns ≠ []) (q : Q (.int (ns.getD (ns.length - 1) 0)) H) : rIxL K (.ref p) (.int (-1)) H Q := by
  have e : ns.map V.int = (ns.dropLast.map V.int) ++ [.int (ns.getD (ns.length - 1) 0)] := by
    have e1 : ns.getD (ns.length - 1) 0 = ns.getLast h0 := by
      rw [List.getD_eq_getElem?_getD, ← List.getLast?_eq_getElem?, List.getLast?_eq_some_getLast h0]; rfl
    rw [e1, ← List.map_singleton, ← List.map_append, List.dropLast_concat_getLast]
  exact r_ixL h (by rw [e]; exact atI_last _ _) q
theorem r_truI {K : PySem.W.Frag} {a : Addr} {ns : List Int} {H : Hp} {Q : Bool → Hp → Prop} (h : SqL K H a (ns.map V.int)) (q : Q (!decide (ns = [])) H) : ∃ k, TruV K (.ref a) H k ∧ Q k H := ⟨_, .inl ⟨_, h, rfl⟩, by
  have e : (!(ns.map V.int).isEmpty) = !decide (ns = []) := by
    cases ns with
    | nil => rfl
    | cons x r => rfl
  rw [e]; exact q⟩
theorem r_rg1 {te : TE} {σ : L2.St} {H : Hp} {R : Int → Int → Hp → Prop} (h : te σ H fun x H1 => ∃ b, x = .int b ∧ R 0 b H1) : tRg1 te σ H R := h
theorem r_revRA {g : TG} {tb : TS} {D : Ends} {σ : L2.St} {H : Hp} {b : Int} (h0 : -(2 ^ 62) ≤ b) (h1 : b < 2 ^ 62) (q : Lp (Itc (b.toNat - 1) (-1) b.toNat) g tb D σ H) : -(2 ^ 62) ≤ (0 : Int) ∧ (0 : Int) < 2 ^ 62 ∧ -(2 ^ 62) ≤ b ∧ b < 2 ^ 62 ∧ Lp (Itc (0 + (((b - 0).toNat : Nat) : Int) - 1) (-1) (b - 0).toNat) g tb D σ H := ⟨by decide, by decide, h0, h1, by
  rw [Int.sub_zero, Int.zero_add]; exact q⟩
/-- a loop over range(n), backwards -/
theorem loop_down {n : Nat} {j : Nat} {tb : TS} {D : Ends} {σ : L2.St} {H : Hp} (Pv : Nat → L2.St → Hp → Prop) (h0 : Pv n σ H)
    (hs : ∀ k σ H, k < n → Pv (k + 1) σ H → tb { D with nx := Pv k, ct := Pv k, bk := D.nx } (σ.set j (some (.int (k : Int)))) H) (hd : ∀ σ H, Pv 0 σ H → D.nx σ H) : Lp (Itc ((n : Int) - 1) (-1) n) (gName j) tb D σ H := by
  refine ⟨fun i m σ H => m = n - i ∧ i ≤ n ∧ Pv (n - i) σ H, ⟨n, by simp, Nat.zero_le _, h0⟩, ?_⟩
  rintro i m σ H ⟨rfl, hi, p⟩
  by_cases hlt : i < n
  · refine .inr ⟨hlt, Pv (n - (i + 1)), fun σ' H' p' => ⟨n - (i + 1), by omega, rfl, hlt, p'⟩, fun x H' y => ?_⟩
    obtain ⟨rfl, rfl⟩ := y
    have e1 : (n : Int) - 1 + (i : Int) * -1 = ((n - (i + 1) : Nat) : Int) := by omega
    have e2 : n - i = n - (i + 1) + 1 := by omega
    rw [e1]
    rw [e2] at p
    exact hs (n - (i + 1)) σ _ (by omega) p
  · have e : i = n := by omega
    subst e
    rw [Nat.sub_self] at p
    exact .inl ⟨Nat.le_refl _, hd σ H p⟩
theorem never_ {t : TS} {D : Ends} {σ : L2.St} {H : Hp} (h : False) : t D σ H := h.elim
end RB

set_option linter.all false
/-! Shared divisors. -/
namespace MG
def gcdN (ns : List Int) : Nat := ns.foldl (fun (g : Nat) x => Nat.gcd g x.natAbs) 0
def gcdL (ns : List Int) : Int := (gcdN ns : Int)
theorem fmod_lt {a b : Int} (h : b ≠ 0) : (a.fmod b).natAbs < b.natAbs := by
  by_cases hb : 0 < b
  · have h1 := Int.fmod_nonneg_of_pos a hb
    have h2 := Int.fmod_lt_of_pos a hb
    omega
  · have hb' : 0 < -b := by omega
    have e : a.fmod b = -((-a).fmod (-b)) := by rw [Int.neg_fmod_neg]; omega
    have h1 := Int.fmod_nonneg_of_pos (-a) hb'
    have h2 := Int.fmod_lt_of_pos (-a) hb'
    rw [e]
    omega
theorem gcd_fmod (a b : Int) : Int.gcd b (a.fmod b) = Int.gcd a b := by
  rw [Int.fmod_def, Int.gcd_sub_mul_left_right, Int.gcd_comm]
theorem foldl_gcd (ns : List Int) : ∀ g : Nat, ns.foldl (fun (g : Nat) x => Nat.gcd g x.natAbs) g = Nat.gcd g (gcdN ns) := by
  induction ns with
  | nil => intro g; simp [gcdN]
  | cons x r ih =>
    intro g
    show List.foldl _ (Nat.gcd g x.natAbs) r = _
    rw [ih]
    have e : gcdN (x :: r) = Nat.gcd (x.natAbs) (gcdN r) := by
      show List.foldl _ (Nat.gcd 0 x.natAbs) r = _
      rw [ih, Nat.gcd_zero_left]
    rw [e, Nat.gcd_assoc]
theorem gcdN_cons (x : Int) (r : List Int) : gcdN (x :: r) = Nat.gcd x.natAbs (gcdN r) := by
  show List.foldl _ (Nat.gcd 0 x.natAbs) r = _
  rw [foldl_gcd, Nat.gcd_zero_left]
theorem gcdN_nil : gcdN [] = 0 := rfl
theorem gcdN_append (xs ys : List Int) : gcdN (xs ++ ys) = Nat.gcd (gcdN xs) (gcdN ys) := by
  show List.foldl _ 0 (xs ++ ys) = _
  rw [List.foldl_append, foldl_gcd]; rfl
theorem gcdN_take {ns : List Int} {i : Nat} {x : Int} (h : ns[i]? = some x) : gcdN (ns.take (i + 1)) = Nat.gcd (gcdN (ns.take i)) x.natAbs := by
  rw [List.take_add_one, h, gcdN_append]
  congr 1
  show gcdN [x] = _
  rw [gcdN_cons, gcdN_nil, Nat.gcd_zero_right]
theorem gcdN_dvd {ns : List Int} : ∀ {x : Int}, x ∈ ns → (gcdN ns : Int) ∣ x := by
  induction ns with
  | nil => intro x h; cases h
  | cons y r ih =>
    intro x h
    rw [gcdN_cons]
    rcases List.mem_cons.mp h with rfl | h
    · exact Int.ofNat_dvd_left.mpr (Nat.gcd_dvd_left _ _)
    · exact Int.dvd_trans (Int.ofNat_dvd.mpr (Nat.gcd_dvd_right _ _)) (ih h)
theorem dvd_gcdN {ns : List Int} {d : Nat} (h : ∀ x ∈ ns, (d : Int) ∣ x) : d ∣ gcdN ns := by
  induction ns with
  | nil => exact Nat.dvd_zero _
  | cons y r ih =>
    rw [gcdN_cons]
    exact Nat.dvd_gcd (Int.ofNat_dvd_left.mp (h y (List.mem_cons_self))) (ih fun x hx => h x (List.mem_cons_of_mem _ hx))
theorem gcdN_eq {ns : List Int} {g : Nat} (h1 : ∀ x ∈ ns, (g : Int) ∣ x) (h2 : ∀ d : Nat, (∀ x ∈ ns, (d : Int) ∣ x) → d ∣ g) : gcdN ns = g :=
  Nat.dvd_antisymm (h2 _ fun _ hx => gcdN_dvd hx) (dvd_gcdN h1)
end MG

set_option linter.all false
/-! Lists of coefficients. -/
namespace ML
/-- the coefficient at a place, 0 beyond -/
def cf (P : List Int) (k : Nat) : Int := P.getD k 0
theorem cf_nil (k : Nat) : cf [] k = 0 := by simp [cf]
theorem cf_zero (x : Int) (r : List Int) : cf (x :: r) 0 = x := rfl
theorem cf_succ (x : Int) (r : List Int) (k : Nat) : cf (x :: r) (k + 1) = cf r k := by simp [cf]
theorem cf_get {P : List Int} {k : Nat} (h : k < P.length) : cf P k = P[k] := by
  unfold cf; rw [List.getD_eq_getElem?_getD, List.getElem?_eq_getElem h]; rfl
theorem cf_some {P : List Int} {k : Nat} {x : Int} (h : P[k]? = some x) : cf P k = x := by
  unfold cf; rw [List.getD_eq_getElem?_getD, h]; rfl
theorem cf_beyond {P : List Int} {k : Nat} (h : P.length ≤ k) : cf P k = 0 := by
  unfold cf; rw [List.getD_eq_getElem?_getD, List.getElem?_eq_none h]; rfl
theorem cf_getElem? {P : List Int} {k : Nat} (h : k < P.length) : P[k]? = some (cf P k) := by
  rw [cf_get h, List.getElem?_eq_getElem h]
/-- two lists of one length with the same coefficients are alike -/
theorem ext {P Q : List Int} (hl : P.length = Q.length) (h : ∀ k, k < P.length → cf P k = cf Q k) : P = Q := by
  apply List.ext_getElem hl
  intro i h1 h2
  rw [← cf_get h1, ← cf_get h2]
  exact h i h1
/-- without noughts at the end -/
def Trim (P : List Int) : Prop := P = [] ∨ cf P (P.length - 1) ≠ 0
theorem trim_ext {P Q : List Int} (hP : Trim P) (hQ : Trim Q) (h : ∀ k, cf P k = cf Q k) : P = Q := by
  have aux : ∀ {P Q : List Int}, Trim P → (∀ k, cf P k = cf Q k) → P.length ≤ Q.length := fun {P Q} hP h => by
    rcases hP with rfl | hP
    · exact Nat.zero_le _
    · apply Nat.le_of_not_lt
      intro hl
      have := h (P.length - 1)
      rw [cf_beyond (P := Q) (by omega)] at this
      exact hP this
  exact ext (Nat.le_antisymm (aux hP h) (aux hQ fun k => (h k).symm)) fun k _ => h k
def trimL : List Int → List Int
  | [] => []
  | x :: r => match trimL r with
    | [] => if x = 0 then [] else [x]
    | y :: s => x :: y :: s
theorem cf_trimL : ∀ (P : List Int) (k : Nat), cf (trimL P) k = cf P k
  | [], k => rfl
  | x :: r, k => by
    have ih := cf_trimL r
    unfold trimL
    split
    · next e =>
      rw [e] at ih
      split
      · next hx =>
        subst hx
        cases k with
        | zero => rfl
        | succ k => rw [cf_succ, ← ih k, cf_nil, cf_nil]
      · cases k with
        | zero => rfl
        | succ k => rw [cf_succ, cf_succ, ← ih k]
    · next y s e =>
      rw [e] at ih
      cases k with
      | zero => rfl
      | succ k => rw [cf_succ, cf_succ, ← ih k]
theorem trim_trimL : ∀ P : List Int, Trim (trimL P)
  | [] => .inl rfl
  | x :: r => by
    have ih := trim_trimL r
    unfold trimL
    split
    · split
      · exact .inl rfl
      · next hx => exact .inr hx
    · next y s e =>
      rw [e] at ih
      rcases ih with h | h
      · cases h
      · refine .inr ?_
        show cf (x :: y :: s) (s.length + 1) ≠ 0
        rw [cf_succ]
        exact h
theorem trimL_eq {P Q : List Int} (hQ : Trim Q) (h : ∀ k, cf Q k = cf P k) : trimL P = Q := trim_ext (trim_trimL P) hQ fun k => by rw [cf_trimL, h]
theorem trimL_self {P : List Int} (h : Trim P) : trimL P = P := trimL_eq h fun _ => rfl
theorem trimL_trimL (P : List Int) : trimL (trimL P) = trimL P := trimL_self (trim_trimL P)
theorem trimL_len : ∀ P : List Int, (trimL P).length ≤ P.length
  | [] => Nat.le_refl _
  | x :: r => by
    have ih := trimL_len r
    unfold trimL
    split
    · split <;> simp
    · next y s e =>
      rw [e] at ih
      simp only [List.length_cons] at ih ⊢
      omega
theorem trimL_congr {P Q : List Int} (h : ∀ k, cf P k = cf Q k) : trimL P = trimL Q := trim_ext (trim_trimL P) (trim_trimL Q) fun k => by rw [cf_trimL, cf_trimL, h]
/-- what the loop finds -/
theorem trimL_take {P : List Int} {n : Nat} (hn : n ≤ P.length) (h0 : ∀ k, n ≤ k → cf P k = 0) (h1 : n = 0 ∨ cf P (n - 1) ≠ 0) : trimL P = P.take n := by
  have hc : ∀ k, cf (P.take n) k = cf P k := fun k => by
    by_cases hk : k < n
    · unfold cf
      rw [List.getD_eq_getElem?_getD, List.getD_eq_getElem?_getD, List.getElem?_take_of_lt hk]
    · rw [h0 k (by omega), cf_beyond (by rw [List.length_take]; omega)]
  refine trimL_eq ?_ hc
  rcases h1 with h1 | h1
  · left; subst h1; rfl
  · by_cases hz : n = 0
    · left; subst hz; rfl
    · right
      rw [List.length_take, Nat.min_eq_left hn, hc]
      exact h1
/-- all coefficients below 2 ^ n -/
def Sz (n : Nat) (P : List Int) : Prop := ∀ x ∈ P, x.natAbs < 2 ^ n
theorem Sz.cf {n : Nat} {P : List Int} (h : Sz n P) (k : Nat) : (cf P k).natAbs < 2 ^ n := by
  by_cases hk : k < P.length
  · rw [cf_get hk]; exact h _ (List.getElem_mem hk)
  · rw [cf_beyond (by omega)]; exact Nat.two_pow_pos n
theorem Sz.of {n : Nat} {P : List Int} (h : ∀ k, k < P.length → (ML.cf P k).natAbs < 2 ^ n) : Sz n P := fun x hx => by
  obtain ⟨k, hk, rfl⟩ := List.getElem_of_mem hx
  rw [← cf_get hk]; exact h k hk
theorem Sz.mono {n m : Nat} {P : List Int} (h : Sz n P) (hm : n ≤ m) : Sz m P := fun x hx => Nat.lt_of_lt_of_le (h x hx) (Nat.pow_le_pow_right (by decide) hm)
theorem Sz.trim {n : Nat} {P : List Int} (h : Sz n P) : Sz n (trimL P) := Sz.of fun k _ => by rw [cf_trimL]; exact h.cf k
theorem Sz.take {n : Nat} {P : List Int} (h : Sz n P) (k : Nat) : Sz n (P.take k) := fun x hx => h x (List.mem_of_mem_take hx)
theorem Sz.drop {n : Nat} {P : List Int} (h : Sz n P) (k : Nat) : Sz n (P.drop k) := fun x hx => h x (List.mem_of_mem_drop hx)
theorem Sz.append {n : Nat} {P Q : List Int} (h : Sz n P) (h' : Sz n Q) : Sz n (P ++ Q) := fun x hx => (List.mem_append.mp hx).elim (h x) (h' x)
theorem Sz.nil (n : Nat) : Sz n [] := fun x hx => by cases hx
theorem Sz.cons {n : Nat} {x : Int} {P : List Int} (hx : x.natAbs < 2 ^ n) (h : Sz n P) : Sz n (x :: P) := fun y hy => (List.mem_cons.mp hy).elim (fun e => by rw [e]; exact hx) (h y)
theorem Sz.rep0 (n k : Nat) : Sz n (List.replicate k 0) := fun x hx => by
  rw [List.mem_replicate] at hx
  rw [hx.2]; exact Nat.two_pow_pos n
theorem Sz.reverse {n : Nat} {P : List Int} (h : Sz n P) : Sz n P.reverse := fun x hx => h x (List.mem_reverse.mp hx)
theorem cf_map {f : Int → Int} (h0 : f 0 = 0) (P : List Int) (k : Nat) : cf (P.map f) k = f (cf P k) := by
  unfold cf
  rw [List.getD_eq_getElem?_getD, List.getD_eq_getElem?_getD, List.getElem?_map]
  cases P[k]? with
  | none => exact h0.symm
  | some x => rfl
theorem cf_range {n : Nat} {f : Nat → Int} {k : Nat} (h : k < n) : cf ((List.range n).map f) k = f k := by
  rw [cf_get (by simpa using h)]; simp
theorem cf_range_beyond {n : Nat} {f : Nat → Int} {k : Nat} (h : n ≤ k) : cf ((List.range n).map f) k = 0 := cf_beyond (by simpa using h)
theorem cf_set {P : List Int} {i k : Nat} {x : Int} (h : i < P.length) : cf (P.set i x) k = if k = i then x else cf P k := by
  unfold cf
  rw [List.getD_eq_getElem?_getD, List.getElem?_set, List.getD_eq_getElem?_getD]
  by_cases e : i = k
  · subst e; simp [h]
  · rw [if_neg e, if_neg (fun z => e z.symm)]
theorem cf_append_left {P Q : List Int} {k : Nat} (h : k < P.length) : cf (P ++ Q) k = cf P k := by
  unfold cf
  rw [List.getD_eq_getElem?_getD, List.getElem?_append_left h, List.getD_eq_getElem?_getD]
theorem cf_append_right {P Q : List Int} {k : Nat} (h : P.length ≤ k) : cf (P ++ Q) k = cf Q (k - P.length) := by
  unfold cf
  rw [List.getD_eq_getElem?_getD, List.getElem?_append_right h, List.getD_eq_getElem?_getD]
theorem cf_rep0 (n k : Nat) : cf (List.replicate n 0) k = 0 := by
  unfold cf
  rw [List.getD_eq_getElem?_getD, List.getElem?_replicate]
  split <;> rfl
theorem cf_drop (P : List Int) (n k : Nat) : cf (P.drop n) k = cf P (n + k) := by
  unfold cf
  rw [List.getD_eq_getElem?_getD, List.getElem?_drop, List.getD_eq_getElem?_getD]
theorem cf_take {P : List Int} {n k : Nat} (h : k < n) : cf (P.take n) k = cf P k := by
  unfold cf
  rw [List.getD_eq_getElem?_getD, List.getD_eq_getElem?_getD, List.getElem?_take_of_lt h]

/-! ### sums and products -/
def addL (P Q : List Int) : List Int := trimL ((List.range (max P.length Q.length)).map fun k => cf P k + cf Q k)
def subL (P Q : List Int) : List Int := trimL ((List.range (max P.length Q.length)).map fun k => cf P k - cf Q k)
theorem cf_addL (P Q : List Int) (k : Nat) : cf (addL P Q) k = cf P k + cf Q k := by
  unfold addL
  rw [cf_trimL]
  by_cases h : k < max P.length Q.length
  · rw [cf_range h]
  · rw [cf_range_beyond (by omega), cf_beyond (P := P) (by omega), cf_beyond (P := Q) (by omega)]; rfl
theorem cf_subL (P Q : List Int) (k : Nat) : cf (subL P Q) k = cf P k - cf Q k := by
  unfold subL
  rw [cf_trimL]
  by_cases h : k < max P.length Q.length
  · rw [cf_range h]
  · rw [cf_range_beyond (by omega), cf_beyond (P := P) (by omega), cf_beyond (P := Q) (by omega)]; rfl
theorem trim_addL (P Q : List Int) : Trim (addL P Q) := trim_trimL _
theorem trim_subL (P Q : List Int) : Trim (subL P Q) := trim_trimL _
/-- the sum of f over 0 .. n - 1 -/
def sm : Nat → (Nat → Int) → Int
  | 0, _ => 0
  | n + 1, f => sm n f + f n
theorem sm_succ (n : Nat) (f : Nat → Int) : sm (n + 1) f = sm n f + f n := rfl
theorem sm_congr {n : Nat} {f g : Nat → Int} (h : ∀ i, i < n → f i = g i) : sm n f = sm n g := by
  induction n with
  | zero => rfl
  | succ n ih => unfold sm; rw [ih fun i hi => h i (by omega), h n (by omega)]
theorem sm_zero {n : Nat} {f : Nat → Int} (h : ∀ i, i < n → f i = 0) : sm n f = 0 := by
  induction n with
  | zero => rfl
  | succ n ih => unfold sm; rw [ih fun i hi => h i (by omega), h n (by omega)]; rfl
theorem sm_add (n : Nat) (f g : Nat → Int) : sm n (fun i => f i + g i) = sm n f + sm n g := by
  induction n with
  | zero => rfl
  | succ n ih => simp only [sm_succ]; rw [ih]; omega
theorem sm_sub (n : Nat) (f g : Nat → Int) : sm n (fun i => f i - g i) = sm n f - sm n g := by
  induction n with
  | zero => rfl
  | succ n ih => simp only [sm_succ]; rw [ih]; omega
theorem sm_mul (n : Nat) (c : Int) (f : Nat → Int) : sm n (fun i => c * f i) = c * sm n f := by
  induction n with
  | zero => simp [sm]
  | succ n ih => unfold sm; rw [ih, Int.mul_add]
theorem sm_mul_r (n : Nat) (c : Int) (f : Nat → Int) : sm n (fun i => f i * c) = sm n f * c := by
  rw [Int.mul_comm, ← sm_mul]; exact sm_congr fun i _ => Int.mul_comm _ _
theorem sm_neg (n : Nat) (f : Nat → Int) : sm n (fun i => - f i) = - sm n f := by
  induction n with
  | zero => rfl
  | succ n ih => simp only [sm_succ]; rw [ih]; omega
theorem sm_ext {n m : Nat} {f : Nat → Int} (h : n ≤ m) (h0 : ∀ i, n ≤ i → i < m → f i = 0) : sm m f = sm n f := by
  induction m with
  | zero => have : n = 0 := by omega
            subst this; rfl
  | succ m ih =>
    by_cases e : n = m + 1
    · subst e; rfl
    · rw [sm_succ, ih (by omega) fun i h1 h2 => h0 i h1 (by omega), h0 m (by omega) (by omega)]
      omega
theorem sm_single {n : Nat} {f : Nat → Int} {j : Nat} (hj : j < n) (h : ∀ i, i < n → i ≠ j → f i = 0) : sm n f = f j := by
  induction n with
  | zero => omega
  | succ n ih =>
    unfold sm
    by_cases e : j = n
    · subst e
      rw [sm_zero fun i hi => h i (by omega) (by omega)]; omega
    · rw [ih (by omega) fun i hi hn => h i (by omega) hn, h n (by omega) (fun z => e z.symm)]; omega
theorem sm_shift (n : Nat) (f : Nat → Int) : sm (n + 1) f = f 0 + sm n (fun i => f (i + 1)) := by
  induction n with
  | zero => simp [sm]
  | succ n ih =>
    rw [sm, ih]
    show f 0 + sm n (fun i => f (i + 1)) + f (n + 1) = f 0 + (sm n (fun i => f (i + 1)) + f (n + 1))
    omega
theorem sm_rev (n : Nat) (f : Nat → Int) : sm n (fun i => f (n - 1 - i)) = sm n f := by
  induction n generalizing f with
  | zero => rfl
  | succ n ih =>
    rw [sm_shift, sm]
    have e : sm n (fun i => f (n + 1 - 1 - (i + 1))) = sm n f := by
      rw [← ih f]
      exact sm_congr fun i hi => by congr 1; omega
    rw [e]
    show f (n - 0) + sm n f = sm n f + f n
    rw [Nat.sub_zero]; omega
theorem sm_swap (n m : Nat) (f : Nat → Nat → Int) : sm n (fun i => sm m (fun j => f i j)) = sm m (fun j => sm n (fun i => f i j)) := by
  induction n with
  | zero => rw [sm]; exact (sm_zero fun _ _ => rfl).symm
  | succ n ih =>
    rw [sm, ih, ← sm_add]
    exact sm_congr fun j _ => rfl
/-- the coefficient of a product at a place -/
def cv (P Q : List Int) (k : Nat) : Int := sm (k + 1) fun i => cf P i * cf Q (k - i)
def mulL (P Q : List Int) : List Int := trimL ((List.range (P.length + Q.length)).map (cv P Q))
theorem cv_beyond {P Q : List Int} {k : Nat} (h : P.length + Q.length ≤ k + 1) : cv P Q k = 0 := sm_zero fun i hi => by
  by_cases h1 : i < P.length
  · rw [cf_beyond (P := Q) (by omega), Int.mul_zero]
  · rw [cf_beyond (P := P) (by omega), Int.zero_mul]
theorem cf_mulL (P Q : List Int) (k : Nat) : cf (mulL P Q) k = cv P Q k := by
  unfold mulL
  rw [cf_trimL]
  by_cases h : k < P.length + Q.length
  · rw [cf_range h]
  · rw [cf_range_beyond (by omega), cv_beyond (by omega)]
theorem trim_mulL (P Q : List Int) : Trim (mulL P Q) := trim_trimL _
/-- the product as it stands behind k turns of the outer loop and i of the inner one -/
def pcv (P Q : List Int) (k j : Nat) : Int := sm k fun a => if a ≤ j then cf P a * cf Q (j - a) else 0
def pcw (P Q : List Int) (k i j : Nat) : Int := pcv P Q k j + if k ≤ j ∧ j - k < i then cf P k * cf Q (j - k) else 0
theorem pcw_zero (P Q : List Int) (k j : Nat) : pcw P Q k 0 j = pcv P Q k j := by
  unfold pcw
  rw [if_neg (by omega)]; omega
theorem pcw_full (P Q : List Int) (k j : Nat) : pcw P Q k Q.length j = pcv P Q (k + 1) j := by
  unfold pcw
  show _ = pcv P Q k j + (if k ≤ j then cf P k * cf Q (j - k) else 0)
  by_cases h : k ≤ j
  · rw [if_pos h]
    by_cases h2 : j - k < Q.length
    · rw [if_pos ⟨h, h2⟩]
    · rw [if_neg (by omega), cf_beyond (P := Q) (by omega), Int.mul_zero]
  · rw [if_neg h, if_neg (by omega)]
theorem pcw_step (P Q : List Int) (k i j : Nat) : pcw P Q k (i + 1) j = if j = k + i then pcw P Q k i j + cf P k * cf Q i else pcw P Q k i j := by
  unfold pcw
  by_cases h : j = k + i
  · subst h
    rw [if_pos rfl, if_pos (by omega), if_neg (by omega), Nat.add_sub_cancel_left]; omega
  · rw [if_neg h]
    by_cases h2 : k ≤ j ∧ j - k < i
    · rw [if_pos h2, if_pos (by omega)]
    · rw [if_neg h2, if_neg (by omega)]
theorem pcv_full (P Q : List Int) (j : Nat) : pcv P Q P.length j = cv P Q j := by
  unfold pcv cv
  by_cases h : P.length ≤ j + 1
  · rw [sm_ext (f := fun i => cf P i * cf Q (j - i)) h fun i h1 h2 => by rw [cf_beyond (P := P) h1, Int.zero_mul]]
    exact sm_congr fun i hi => if_pos (by omega)
  · rw [sm_ext (n := j + 1) (by omega) fun i h1 h2 => if_neg (by omega)]
    exact sm_congr fun i hi => if_pos (by omega)
theorem mulL_of {P Q R : List Int} (hl : R.length = P.length + Q.length) (h : ∀ j, cf R j = pcv P Q P.length j) : trimL R = mulL P Q := by
  refine trim_ext (trim_trimL _) (trim_mulL P Q) fun j => ?_
  rw [cf_trimL, h, pcv_full, cf_mulL]
def linL (P Q : List Int) (f : Int) : List Int := trimL ((List.range (max P.length Q.length)).map fun k => cf P k + f * cf Q k)
theorem linL_one (P Q : List Int) : linL P Q 1 = addL P Q := by
  unfold linL addL
  congr 1
  apply List.map_congr_left
  intro k _
  rw [Int.one_mul]
theorem linL_neg (P Q : List Int) : linL P Q (-1) = subL P Q := by
  unfold linL subL
  congr 1
  apply List.map_congr_left
  intro k _
  omega
theorem linL_of {P Q R : List Int} {f : Int} (hl : R.length = max P.length Q.length) (h : ∀ j, j < max P.length Q.length → cf R j = cf P j + f * cf Q j) : trimL R = linL P Q f := by
  unfold linL
  congr 1
  refine ext (by simpa using hl) fun k hk => ?_
  rw [h k (by omega), cf_range (by omega)]
/-! ### slope, turned, flipped, lifted -/
def slopeL (P : List Int) : List Int := (List.range (P.length - 1)).map fun (k : Nat) => ((k : Int) + 1) * cf P (k + 1)
def turnL (P : List Int) : List Int := (List.range P.length).map fun k => if k % 2 = 1 then - cf P k else cf P k
def flipL (P : List Int) : List Int := trimL P.reverse
/-- each coefficient at so many times its place -/
def liftL (P : List Int) (m : Nat) : List Int := (List.range (if P.length = 0 then 0 else m * (P.length - 1) + 1)).map fun j => if j % m = 0 then cf P (j / m) else 0
theorem cf_slopeL (P : List Int) (k : Nat) : cf (slopeL P) k = ((k : Int) + 1) * cf P (k + 1) := by
  unfold slopeL
  by_cases h : k < P.length - 1
  · rw [cf_range h]
  · rw [cf_range_beyond (by omega), cf_beyond (P := P) (show P.length ≤ k + 1 by omega), Int.mul_zero]
theorem cf_turnL (P : List Int) (k : Nat) : cf (turnL P) k = if k % 2 = 1 then - cf P k else cf P k := by
  unfold turnL
  by_cases h : k < P.length
  · rw [cf_range h]
  · rw [cf_range_beyond (by omega), cf_beyond (P := P) (by omega)]; split <;> rfl
theorem turnL_len (P : List Int) : (turnL P).length = P.length := by unfold turnL; simp
theorem turnL_turnL (P : List Int) : turnL (turnL P) = P := by
  refine ext (by rw [turnL_len, turnL_len]) fun k _ => ?_
  rw [cf_turnL, cf_turnL]
  by_cases h : k % 2 = 1
  · rw [if_pos h, if_pos h]; omega
  · rw [if_neg h, if_neg h]
theorem cf_reverse {P : List Int} {k : Nat} (h : k < P.length) : cf P.reverse k = cf P (P.length - 1 - k) := by
  unfold cf
  rw [List.getD_eq_getElem?_getD, List.getElem?_reverse h, List.getD_eq_getElem?_getD]
theorem liftL_len (P : List Int) (m : Nat) : (liftL P m).length = if P.length = 0 then 0 else m * (P.length - 1) + 1 := by unfold liftL; simp
theorem div_bound {j m n : Nat} (hm : 0 < m) (h : j < m * n + 1) : j / m ≤ n := by
  rw [← Nat.lt_add_one_iff, Nat.div_lt_iff_lt_mul hm, Nat.add_mul, Nat.mul_comm n m]; omega
theorem liftL_step {P R : List Int} {m i : Nat} (hm : 0 < m) (hi : i < P.length) (hR : R = liftL (P.take i) m) : (if i = 0 then R else R ++ List.replicate (m - 1) 0) ++ [cf P i] = liftL (P.take (i + 1)) m := by
  have lt1 : (P.take i).length = i := by rw [List.length_take]; omega
  have lt2 : (P.take (i + 1)).length = i + 1 := by rw [List.length_take]; omega
  have lR : R.length = if i = 0 then 0 else m * (i - 1) + 1 := by rw [hR, liftL_len, lt1]
  have lL : (if i = 0 then R else R ++ List.replicate (m - 1) 0).length = m * i := by
    by_cases h : i = 0
    · subst h; rw [if_pos rfl, lR, if_pos rfl]; rfl
    · rw [if_neg h, List.length_append, List.length_replicate, lR, if_neg h]
      have : m * i = m * (i - 1) + m := by rw [← Nat.mul_succ]; congr 1; omega
      omega
  refine ext ?_ fun k hk => ?_
  · rw [List.length_append, lL, liftL_len, lt2, if_neg (by omega), Nat.add_sub_cancel]; rfl
  · rw [List.length_append, lL] at hk
    have hk' : k < m * i + 1 := hk
    have hr : cf (liftL (P.take (i + 1)) m) k = if k % m = 0 then cf (P.take (i + 1)) (k / m) else 0 := by
      unfold liftL
      rw [lt2, if_neg (by omega), Nat.add_sub_cancel, cf_range hk']
    rw [hr]
    by_cases hlast : k = m * i
    · rw [cf_append_right (by omega), lL, hlast, Nat.sub_self, Nat.mul_mod_right, if_pos rfl, Nat.mul_div_cancel_left _ hm, cf_take (by omega)]; rfl
    · rw [cf_append_left (by omega)]
      have i0 : i ≠ 0 := by intro e; subst e; omega
      rw [if_neg i0]
      rw [if_neg i0] at lR
      have em : m * i = m * (i - 1) + m := by rw [← Nat.mul_succ]; congr 1; omega
      by_cases hin : k < R.length
      · rw [cf_append_left hin, hR]
        unfold liftL
        rw [lt1, if_neg i0, cf_range (by omega)]
        split
        · have := div_bound hm (show k < m * (i - 1) + 1 by omega)
          rw [cf_take (by omega), cf_take (by omega)]
        · rfl
      · rw [cf_append_right (by omega), cf_rep0]
        have hd : k / m = i - 1 := by
          apply Nat.div_eq_of_lt_le
          · rw [Nat.mul_comm]; omega
          · rw [Nat.succ_mul, Nat.mul_comm]; omega
        have hne : k % m ≠ 0 := fun e => by
          have := Nat.div_add_mod k m
          rw [hd, e] at this
          omega
        rw [if_neg hne]
theorem liftL_all (P : List Int) (m : Nat) : liftL (P.take P.length) m = liftL P m := by rw [List.take_length]
theorem liftL_nil (P : List Int) (m : Nat) : liftL (P.take 0) m = [] := by simp [liftL]
theorem cf_liftL (P : List Int) {m : Nat} (hm : 0 < m) (j : Nat) : cf (liftL P m) j = if j % m = 0 then cf P (j / m) else 0 := by
  unfold liftL
  by_cases h : j < (if P.length = 0 then 0 else m * (P.length - 1) + 1)
  · rw [cf_range h]
  · rw [cf_range_beyond (by omega)]
    split
    · next e =>
      refine (cf_beyond ?_).symm
      by_cases h0 : P.length = 0
      · rw [h0]; exact Nat.zero_le _
      · rw [if_neg h0] at h
        have := Nat.div_add_mod j m
        rw [e] at this
        apply Nat.le_of_not_lt
        intro hlt
        have h2 : m * (j / m) ≤ m * (P.length - 1) := Nat.mul_le_mul_left m (by omega)
        omega
    · rfl
theorem trim_liftL {P : List Int} {m : Nat} (hm : 0 < m) (h : Trim P) : Trim (liftL P m) := by
  by_cases h0 : P.length = 0
  · left; unfold liftL; rw [if_pos h0]; rfl
  · right
    rw [liftL_len, if_neg h0, Nat.add_sub_cancel, cf_liftL P hm, Nat.mul_mod_right, if_pos rfl, Nat.mul_div_cancel_left _ hm]
    rcases h with h | h
    · rw [h] at h0; exact absurd rfl h0
    · exact h
/-- the product with its noughts -/
def mulU (P Q : List Int) : List Int := if P = [] ∨ Q = [] then [] else (List.range (P.length + Q.length - 1)).map (cv P Q)
theorem cf_mulU (P Q : List Int) (k : Nat) : cf (mulU P Q) k = cv P Q k := by
  unfold mulU
  split
  · next h =>
    rw [cf_nil]
    refine (cv_beyond' h k).symm
  · by_cases h : k < P.length + Q.length - 1
    · rw [cf_range h]
    · rw [cf_range_beyond (by omega), cv_beyond (by omega)]
where
  cv_beyond' {P Q : List Int} (h : P = [] ∨ Q = []) (k : Nat) : cv P Q k = 0 := sm_zero fun i _ => by
    rcases h with h | h
    · rw [h, cf_nil, Int.zero_mul]
    · rw [h, cf_nil, Int.mul_zero]
theorem mulU_len (P Q : List Int) : (mulU P Q).length ≤ P.length + Q.length := by
  unfold mulU
  split
  · simp
  · rw [List.length_map, List.length_range]; omega
theorem addL_len (P Q : List Int) : (addL P Q).length ≤ max P.length Q.length := Nat.le_trans (trimL_len _) (by simp)
theorem sm_abs {n : Nat} {f : Nat → Int} {b : Nat} (h : ∀ i, i < n → (f i).natAbs ≤ b) : (sm n f).natAbs ≤ n * b := by
  induction n with
  | zero => simp [sm]
  | succ n ih =>
    rw [sm_succ, Nat.add_mul]
    have := ih fun i hi => h i (by omega)
    have := h n (by omega)
    omega
theorem two_pow_ge (n : Nat) : n + 1 ≤ 2 ^ n := by
  induction n with
  | zero => decide
  | succ n ih => rw [Nat.pow_succ]; omega
theorem cv_sz {P Q : List Int} {n m : Nat} (hp : Sz n P) (hq : Sz m Q) (k : Nat) : (cv P Q k).natAbs < 2 ^ (n + m + P.length + 1) := by
  have h1 : cv P Q k = pcv P Q P.length k := (pcv_full P Q k).symm
  rw [h1]
  have h2 : (pcv P Q P.length k).natAbs ≤ P.length * 2 ^ (n + m) := sm_abs fun i _ => by
    split
    · rw [Int.natAbs_mul, Nat.pow_add]
      exact Nat.mul_le_mul (Nat.le_of_lt (hp.cf _)) (Nat.le_of_lt (hq.cf _))
    · exact Nat.zero_le _
  refine Nat.lt_of_le_of_lt h2 ?_
  have h3 := two_pow_ge P.length
  have h4 : 2 ^ (n + m + P.length + 1) = 2 ^ (P.length + 1) * 2 ^ (n + m) := by rw [← Nat.pow_add]; congr 1; omega
  rw [h4]
  exact Nat.mul_lt_mul_of_pos_right (by rw [Nat.pow_succ]; omega) (Nat.two_pow_pos _)
theorem Sz.mulL {P Q : List Int} {n m : Nat} (hp : Sz n P) (hq : Sz m Q) : Sz (n + m + P.length + 1) (mulL P Q) := Sz.of fun k _ => by rw [cf_mulL]; exact cv_sz hp hq k
theorem Sz.mulU {P Q : List Int} {n m : Nat} (hp : Sz n P) (hq : Sz m Q) : Sz (n + m + P.length + 1) (mulU P Q) := Sz.of fun k _ => by rw [cf_mulU]; exact cv_sz hp hq k
theorem Sz.addL {P Q : List Int} {n : Nat} (hp : Sz n P) (hq : Sz n Q) : Sz (n + 1) (addL P Q) := Sz.of fun k _ => by
  rw [cf_addL]
  have := hp.cf k
  have := hq.cf k
  have : 2 ^ (n + 1) = 2 ^ n + 2 ^ n := by rw [Nat.pow_succ]; omega
  omega
end ML

set_option linter.all false
/-! Division with a factor. -/
namespace MD
open ML
/-- the last coefficient -/
def lc (Q : List Int) : Int := cf Q (Q.length - 1)
def subShift (rs Q : List Int) (k : Nat) (many : Int) : List Int := (List.range rs.length).map fun j => if k ≤ j ∧ j - k < Q.length then cf rs j - many * cf Q (j - k) else cf rs j
theorem subShift_len (rs Q : List Int) (k : Nat) (many : Int) : (subShift rs Q k many).length = rs.length := by unfold subShift; simp
theorem cf_subShift {rs Q : List Int} {k : Nat} {many : Int} (j : Nat) (h : k + Q.length ≤ rs.length) : cf (subShift rs Q k many) j = cf rs j - if k ≤ j then many * cf Q (j - k) else 0 := by
  unfold subShift
  by_cases hj : j < rs.length
  · rw [cf_range hj]
    by_cases h1 : k ≤ j
    · rw [if_pos h1]
      by_cases h2 : j - k < Q.length
      · rw [if_pos ⟨h1, h2⟩]
      · rw [if_neg (by omega), cf_beyond (P := Q) (by omega), Int.mul_zero]; omega
    · rw [if_neg (by omega), if_neg h1]; omega
  · rw [cf_range_beyond (by omega), cf_beyond (P := rs) (by omega)]
    split
    · rw [cf_beyond (P := Q) (by omega), Int.mul_zero]; rfl
    · rfl
def dloop (Q : List Int) : Nat → List Int × List Int → List Int × List Int
  | 0, s => s
  | k + 1, (qs, rs) => dloop Q k (qs.set k ((cf rs (k + (Q.length - 1))).fdiv (lc Q)), subShift rs Q k ((cf rs (k + (Q.length - 1))).fdiv (lc Q)))
def facL (P Q : List Int) : Int := if P.length < Q.length then 1 else ((lc Q).natAbs : Int) ^ (P.length - Q.length + 1)
def quoL (P Q : List Int) : List Int := if P.length < Q.length then [] else trimL (dloop Q (P.length - Q.length + 1) (List.replicate (P.length - Q.length + 1) 0, P.map (· * facL P Q))).1
def remL (P Q : List Int) : List Int := if P.length < Q.length then P else trimL (dloop Q (P.length - Q.length + 1) (List.replicate (P.length - Q.length + 1) 0, P.map (· * facL P Q))).2
theorem cv_set {qs Q : List Int} {k : Nat} {x : Int} (hk : k < qs.length) (h0 : cf qs k = 0) (j : Nat) : cv (qs.set k x) Q j = cv qs Q j + if k ≤ j then x * cf Q (j - k) else 0 := by
  unfold cv
  have e : sm (j + 1) (fun i => cf (qs.set k x) i * cf Q (j - i)) = sm (j + 1) (fun i => cf qs i * cf Q (j - i) + if i = k then x * cf Q (j - k) else 0) := sm_congr fun i _ => by
    rw [cf_set hk]
    by_cases h : i = k
    · rw [if_pos h, if_pos h, h, h0, Int.zero_mul]; omega
    · rw [if_neg h, if_neg h]; omega
  rw [e, sm_add]
  congr 1
  by_cases hj : k ≤ j
  · rw [if_pos hj, sm_single (j := k) (by omega) fun i _ hn => if_neg hn, if_pos rfl]
  · rw [if_neg hj]
    exact sm_zero fun i hi => if_neg (by omega)
structure Inv (Q : List Int) (F : Nat → Int) (N g k : Nat) (s : List Int × List Int) : Prop where
  lq : s.1.length = g
  lr : s.2.length = N
  eq : ∀ j, F j = cv s.1 Q j + cf s.2 j
  hi : ∀ j, k + (Q.length - 1) ≤ j → cf s.2 j = 0
  dv : ∀ j, (((lc Q).natAbs ^ k : Nat) : Int) ∣ cf s.2 j
  lo : ∀ i, i < k → cf s.1 i = 0
theorem many_eq {Q rs : List Int} {k : Nat} (hl : lc Q ≠ 0) (dv : ∀ j, (((lc Q).natAbs ^ (k + 1) : Nat) : Int) ∣ cf rs j) (j : Nat) : lc Q * (cf rs j).fdiv (lc Q) = cf rs j := by
  have h1 : lc Q ∣ cf rs j := by
    refine Int.dvd_trans ?_ (dv j)
    refine Int.natAbs_dvd_natAbs.mp ?_
    rw [Int.natAbs_natCast, Nat.pow_succ]
    exact Nat.dvd_mul_left _ _
  rw [Int.fdiv_eq_ediv_of_dvd h1, Int.mul_ediv_cancel' h1]
theorem Inv.step {Q : List Int} {F : Nat → Int} {N g k : Nat} {qs rs : List Int} (I : Inv Q F N g (k + 1) (qs, rs)) (hl : lc Q ≠ 0) (hQ : 0 < Q.length) (hk : k < g) (hN : k + Q.length ≤ N) :
    Inv Q F N g k (qs.set k ((cf rs (k + (Q.length - 1))).fdiv (lc Q)), subShift rs Q k ((cf rs (k + (Q.length - 1))).fdiv (lc Q))) := by
  obtain ⟨lq, lr, eq, hi, dv, lo⟩ := I
  dsimp only at lq lr eq hi dv lo
  have me := many_eq hl dv (k + (Q.length - 1))
  have dm : (((lc Q).natAbs ^ k : Nat) : Int) ∣ (cf rs (k + (Q.length - 1))).fdiv (lc Q) := by
    have h1 := dv (k + (Q.length - 1))
    rw [← me] at h1
    have h2 := Int.natAbs_dvd_natAbs.mpr h1
    rw [Int.natAbs_natCast, Int.natAbs_mul, Nat.pow_succ, Nat.mul_comm] at h2
    have h3 := Nat.dvd_of_mul_dvd_mul_left (by omega) h2
    exact Int.natAbs_dvd_natAbs.mp (by rw [Int.natAbs_natCast]; exact h3)
  generalize (cf rs (k + (Q.length - 1))).fdiv (lc Q) = many at me dm ⊢
  refine ⟨by rw [List.length_set]; exact lq, by rw [subShift_len]; exact lr, fun j => ?_, fun j hj => ?_, fun j => ?_, fun i hi' => ?_⟩
  · dsimp only
    rw [eq j, cv_set (by omega) (lo k (by omega)), cf_subShift j (by omega)]; omega
  · dsimp only
    rw [cf_subShift j (by omega), if_pos (by omega)]
    by_cases h : j = k + (Q.length - 1)
    · have e2 : j - k = Q.length - 1 := by omega
      have e3 : cf Q (Q.length - 1) = lc Q := rfl
      rw [e2, e3, h, ← me, Int.mul_comm]; omega
    · rw [hi j (by omega), cf_beyond (P := Q) (by omega), Int.mul_zero]; rfl
  · dsimp only
    rw [cf_subShift j (by omega)]
    have d1 : (((lc Q).natAbs ^ k : Nat) : Int) ∣ cf rs j := Int.dvd_trans (Int.ofNat_dvd.mpr (Nat.pow_dvd_pow _ (by omega))) (dv j)
    refine Int.dvd_sub d1 ?_
    split
    · exact Int.dvd_mul_of_dvd_left dm
    · exact Int.dvd_zero _
  · dsimp only
    rw [cf_set (by omega), if_neg (by omega)]
    exact lo i (by omega)
theorem Inv.run {Q : List Int} {F : Nat → Int} {N g : Nat} (hl : lc Q ≠ 0) (hQ : 0 < Q.length) : ∀ (k : Nat) (s : List Int × List Int), k ≤ g → (k = 0 ∨ k - 1 + Q.length ≤ N) → Inv Q F N g k s → Inv Q F N g 0 (dloop Q k s)
  | 0, s, _, _, I => I
  | k + 1, (qs, rs), hk, hN, I => Inv.run hl hQ k _ (by omega) (by omega) (I.step hl hQ (by omega) (by omega))
theorem cv_zero_left {qs Q : List Int} (h : ∀ i, cf qs i = 0) (j : Nat) : cv qs Q j = 0 := sm_zero fun i _ => by rw [h, Int.zero_mul]
theorem lc_ne {Q : List Int} (hT : Trim Q) (h0 : Q ≠ []) : lc Q ≠ 0 := hT.elim (fun e => absurd e h0) id
theorem len_pos {Q : List Int} (h0 : Q ≠ []) : 0 < Q.length := List.length_pos_iff.mpr h0
theorem dstart {P Q : List Int} (hT : Trim Q) (h0 : Q ≠ []) (hg : ¬ P.length < Q.length) : Inv Q (fun j => cf P j * facL P Q) P.length (P.length - Q.length + 1) (P.length - Q.length + 1) (List.replicate (P.length - Q.length + 1) 0, P.map (· * facL P Q)) where
  lq := by simp
  lr := by simp
  eq := fun j => by
    dsimp only
    rw [cv_zero_left (fun i => cf_rep0 _ _), cf_map (f := (· * facL P Q)) (by omega)]; omega
  hi := fun j hj => by
    have := len_pos h0
    exact cf_beyond (by simp; omega)
  dv := fun j => by
    dsimp only
    rw [cf_map (f := (· * facL P Q)) (by omega)]
    refine Int.dvd_mul_of_dvd_right ?_
    unfold facL
    rw [if_neg hg, ← Int.natCast_pow]
    exact Int.dvd_refl _
  lo := fun i _ => cf_rep0 _ _
theorem dend {P Q : List Int} (hT : Trim Q) (h0 : Q ≠ []) (hg : ¬ P.length < Q.length) : Inv Q (fun j => cf P j * facL P Q) P.length (P.length - Q.length + 1) 0 (dloop Q (P.length - Q.length + 1) (List.replicate (P.length - Q.length + 1) 0, P.map (· * facL P Q))) :=
  Inv.run (lc_ne hT h0) (len_pos h0) _ _ (Nat.le_refl _) (.inr (by omega)) (dstart hT h0 hg)
theorem cv_trim_left (P Q : List Int) (j : Nat) : cv (trimL P) Q j = cv P Q j := sm_congr fun i _ => by rw [cf_trimL]
/-- factor times P is quotient times Q, added to the rest -/
theorem div_eq {P Q : List Int} (hT : Trim Q) (h0 : Q ≠ []) (j : Nat) : facL P Q * cf P j = cv (quoL P Q) Q j + cf (remL P Q) j := by
  by_cases hg : P.length < Q.length
  · unfold facL quoL remL
    rw [if_pos hg, if_pos hg, if_pos hg, cv_zero_left (fun i => cf_nil i)]; omega
  · have I := dend hT h0 hg
    unfold quoL remL
    rw [if_neg hg, if_neg hg, cv_trim_left, cf_trimL, Int.mul_comm]
    exact I.eq j
theorem rem_len {P Q : List Int} (hT : Trim Q) (h0 : Q ≠ []) : (remL P Q).length < Q.length := by
  by_cases hg : P.length < Q.length
  · unfold remL; rw [if_pos hg]; exact hg
  · have I := dend hT h0 hg
    have hq := len_pos h0
    have hz : ∀ j, Q.length - 1 ≤ j → cf (remL P Q) j = 0 := fun j hj => by
      unfold remL
      rw [if_neg hg, cf_trimL]
      exact I.hi j (by omega)
    have ht : Trim (remL P Q) := by
      unfold remL; rw [if_neg hg]; exact trim_trimL _
    rcases ht with h | h
    · rw [h]; exact hq
    · apply Nat.lt_of_not_le
      intro hle
      exact h (hz _ (by omega))
theorem trim_rem {P Q : List Int} (h : Trim P) : Trim (remL P Q) := by
  unfold remL
  split
  · exact h
  · exact trim_trimL _
theorem trim_quo (P Q : List Int) : Trim (quoL P Q) := by
  unfold quoL
  split
  · exact .inl rfl
  · exact trim_trimL _
/-! ### sizes -/
theorem abs_sub_lt {a b : Int} {n m : Nat} (ha : a.natAbs < 2 ^ n) (hb : b.natAbs < 2 ^ m) (h : n ≤ m) : (a - b).natAbs < 2 ^ (m + 1) := by
  have h1 : (2 : Nat) ^ n ≤ 2 ^ m := Nat.pow_le_pow_right (by decide) h
  have h2 : (2 : Nat) ^ (m + 1) = 2 ^ m + 2 ^ m := by rw [Nat.pow_succ]; omega
  omega
theorem many_lt {Q rs : List Int} {k n : Nat} (hl : lc Q ≠ 0) (dv : ∀ j, (((lc Q).natAbs ^ (k + 1) : Nat) : Int) ∣ cf rs j) (hs : Sz n rs) (j : Nat) : ((cf rs j).fdiv (lc Q)).natAbs < 2 ^ n := by
  have h1 := many_eq hl dv j
  have h2 := hs.cf j
  rw [← h1, Int.natAbs_mul] at h2
  exact Nat.lt_of_le_of_lt (Nat.le_mul_of_pos_left _ (by omega)) h2
theorem Sz.sub {Q rs : List Int} {k n m : Nat} {many : Int} (hs : Sz n rs) (hq : Sz m Q) (hm : many.natAbs < 2 ^ n) : Sz (n + m + 1) (subShift rs Q k many) := fun x hx => by
  unfold subShift at hx
  obtain ⟨j, _, rfl⟩ := List.mem_map.mp hx
  have h1 := hs.cf j
  have h2 : (many * cf Q (j - k)).natAbs < 2 ^ (n + m) := by
    rw [Int.natAbs_mul, Nat.pow_add]
    exact Nat.mul_lt_mul'' hm (hq.cf _)
  split
  · exact abs_sub_lt h1 h2 (by omega)
  · exact Nat.lt_of_lt_of_le h1 (Nat.pow_le_pow_right (by decide) (by omega))
theorem Sz.setq {qs : List Int} {n k : Nat} {x : Int} (hs : Sz n qs) (hx : x.natAbs < 2 ^ n) : Sz n (qs.set k x) := fun y hy => by
  rcases List.mem_or_eq_of_mem_set hy with h | h
  · exact hs y h
  · rw [h]; exact hx
theorem dloop_sz {Q : List Int} {F : Nat → Int} {N g m : Nat} (hl : lc Q ≠ 0) (hQ : 0 < Q.length) (hq : Sz m Q) : ∀ (k : Nat) (s : List Int × List Int) (n : Nat), k ≤ g → (k = 0 ∨ k - 1 + Q.length ≤ N) → Inv Q F N g k s → Sz n s.1 → Sz n s.2 → Sz (n + k * (m + 1)) (dloop Q k s).1 ∧ Sz (n + k * (m + 1)) (dloop Q k s).2
  | 0, s, n, _, _, _, h1, h2 => ⟨h1.mono (by omega), h2.mono (by omega)⟩
  | k + 1, (qs, rs), n, hk, hN, I, h1, h2 => by
    have hm := many_lt hl I.dv h2 (k + (Q.length - 1))
    have := dloop_sz hl hQ hq k _ (n + m + 1) (by omega) (by omega) (I.step hl hQ (by omega) (by omega)) ((Sz.setq h1 hm).mono (by omega)) (Sz.sub h2 hq hm)
    have e : n + m + 1 + k * (m + 1) = n + (k + 1) * (m + 1) := by rw [Nat.add_mul]; omega
    rw [e] at this
    exact this
theorem facL_lt {P Q : List Int} {m : Nat} (hq : Sz m Q) : (facL P Q).natAbs < 2 ^ (m * (P.length - Q.length + 1) + 1) := by
  unfold facL
  split
  · exact Nat.lt_of_lt_of_le (by decide : (1 : Int).natAbs < 2 ^ 1) (Nat.pow_le_pow_right (by decide) (by omega))
  · have h := hq.cf (Q.length - 1)
    rw [← Int.natCast_pow, Int.natAbs_natCast]
    refine Nat.lt_of_le_of_lt (Nat.pow_le_pow_left (Nat.le_of_lt h) _) ?_
    rw [← Nat.pow_mul]
    exact Nat.pow_lt_pow_right (by decide) (by omega)
/-- how great the quotient and the rest can be -/
theorem div_sz {P Q : List Int} {n m : Nat} (hT : Trim Q) (h0 : Q ≠ []) (hp : Sz n P) (hq : Sz m Q) : Sz (n + (2 * m + 1) * (P.length + 1) + 1) (quoL P Q) ∧ Sz (n + (2 * m + 1) * (P.length + 1) + 1) (remL P Q) := by
  by_cases hg : P.length < Q.length
  · unfold quoL remL
    rw [if_pos hg, if_pos hg]
    exact ⟨Sz.nil _, hp.mono (by omega)⟩
  · have hs0 : Sz (n + (m * (P.length - Q.length + 1) + 1)) (P.map (· * facL P Q)) := fun x hx => by
      obtain ⟨y, hy, rfl⟩ := List.mem_map.mp hx
      rw [Int.natAbs_mul, Nat.pow_add]
      exact Nat.mul_lt_mul'' (hp y hy) (facL_lt hq)
    have h := dloop_sz (lc_ne hT h0) (len_pos h0) hq (P.length - Q.length + 1) _ _ (Nat.le_refl _) (.inr (by omega)) (dstart hT h0 hg) (Sz.rep0 _ _) hs0
    have hle : n + (m * (P.length - Q.length + 1) + 1) + (P.length - Q.length + 1) * (m + 1) ≤ n + (2 * m + 1) * (P.length + 1) + 1 := by
      have e1 : (P.length - Q.length + 1) * (m + 1) = m * (P.length - Q.length + 1) + (P.length - Q.length + 1) := by rw [Nat.mul_add, Nat.mul_comm]; omega
      have e2 : (2 * m + 1) * (P.length + 1) = 2 * (m * (P.length + 1)) + (P.length + 1) := by rw [Nat.add_mul, Nat.mul_assoc]; omega
      have e3 : m * (P.length - Q.length + 1) ≤ m * (P.length + 1) := Nat.mul_le_mul_left m (by omega)
      omega
    unfold quoL remL
    rw [if_neg hg, if_neg hg]
    exact ⟨(h.1.mono hle).trim, (h.2.mono hle).trim⟩
theorem cv_one (f : Int) (P : List Int) (k : Nat) : cv [f] P k = f * cf P k := by
  unfold cv
  rw [sm_single (j := 0) (by omega) fun i _ hn => by rw [cf_beyond (P := [f]) (by simp; omega), Int.zero_mul]]
  rfl
theorem mul_one_trim {f : Int} {P : List Int} (hf : f ≠ 0) (hT : Trim P) : Trim (mulU [f] P) := by
  rcases hT with h | h
  · left; unfold mulU; rw [if_pos (.inr h)]
  · right
    have hP : P ≠ [] := fun e => by rw [e] at h; exact h (cf_nil _)
    have hl : (mulU [f] P).length = P.length := by
      unfold mulU
      rw [if_neg (fun z => z.elim (fun h => by cases h) hP), List.length_map, List.length_range]
      show 1 + P.length - 1 = _
      omega
    rw [hl, cf_mulU, cv_one]
    exact Int.mul_ne_zero hf h
theorem facL_pos {P Q : List Int} (hT : Trim Q) (h0 : Q ≠ []) : 0 < facL P Q := by
  unfold facL
  split
  · decide
  · have := lc_ne hT h0
    exact Int.pow_pos (by omega)
/-- the sentence of a division, as lists -/
theorem div_lists {P Q : List Int} (hP : Trim P) (hT : Trim Q) (h0 : Q ≠ []) : mulU [facL P Q] P = addL (mulU (quoL P Q) Q) (remL P Q) := by
  refine trim_ext (mul_one_trim (by have := facL_pos (P := P) hT h0; omega) hP) (trim_addL _ _) fun k => ?_
  rw [cf_mulU, cv_one, cf_addL, cf_mulU]
  exact div_eq hT h0 k
end MD

set_option linter.all false
/-! The ring of polynomials, by coefficients. -/
namespace MR
open ML MD
theorem cv_comm (P Q : List Int) (k : Nat) : cv P Q k = cv Q P k := by
  unfold cv
  rw [← sm_rev (k + 1) (fun i => cf Q i * cf P (k - i))]
  refine sm_congr fun i hi => ?_
  rw [show k + 1 - 1 - i = k - i by omega, show k - (k - i) = i by omega, Int.mul_comm]
theorem sm_tri (g : Nat → Nat → Int) : ∀ k : Nat, sm (k + 1) (fun i => sm (i + 1) (fun j => g j (i - j))) = sm (k + 1) (fun j => sm (k - j + 1) (fun l => g j l))
  | 0 => rfl
  | k + 1 => by
    rw [sm_succ, sm_tri g k, sm_succ (k + 1) (fun j => g j (k + 1 - j)), sm_succ (k + 1) (fun j => sm (k + 1 - j + 1) (fun l => g j l))]
    have e : sm (k + 1) (fun j => sm (k + 1 - j + 1) (fun l => g j l)) = sm (k + 1) (fun j => sm (k - j + 1) (fun l => g j l) + g j (k + 1 - j)) := sm_congr fun j hj => by
      have : k + 1 - j = k - j + 1 := by omega
      rw [this, sm_succ]
    rw [e, sm_add]
    have e2 : sm (k + 1 - (k + 1) + 1) (fun l => g (k + 1) l) = g (k + 1) (k + 1 - (k + 1)) := by
      rw [Nat.sub_self]; simp [sm]
    rw [e2]; omega
theorem cv_assoc' (P Q R : List Int) (k : Nat) : sm (k + 1) (fun i => cv P Q i * cf R (k - i)) = sm (k + 1) (fun j => cf P j * cv Q R (k - j)) := by
  have h := sm_tri (fun j l => cf P j * cf Q l * cf R (k - j - l)) k
  have e1 : sm (k + 1) (fun i => cv P Q i * cf R (k - i)) = sm (k + 1) (fun i => sm (i + 1) (fun j => cf P j * cf Q (i - j) * cf R (k - j - (i - j)))) := sm_congr fun i hi => by
    unfold cv
    rw [← sm_mul_r]
    exact sm_congr fun j hj => by rw [show k - j - (i - j) = k - i by omega]
  have e2 : sm (k + 1) (fun j => cf P j * cv Q R (k - j)) = sm (k + 1) (fun j => sm (k - j + 1) (fun l => cf P j * cf Q l * cf R (k - j - l))) := sm_congr fun j hj => by
    unfold cv
    rw [← sm_mul]
    exact sm_congr fun l _ => by rw [Int.mul_assoc]
  rw [e1, e2]; exact h
theorem cv_congr {P P' Q Q' : List Int} (h : ∀ i, cf P i = cf P' i) (h' : ∀ i, cf Q i = cf Q' i) (k : Nat) : cv P Q k = cv P' Q' k := sm_congr fun i _ => by rw [h, h']
theorem cv_assoc (P Q R : List Int) (k : Nat) : cv (mulL P Q) R k = cv P (mulL Q R) k := by
  have h := cv_assoc' P Q R k
  unfold cv at h ⊢
  rw [show sm (k + 1) (fun i => cf (mulL P Q) i * cf R (k - i)) = sm (k + 1) (fun i => sm (i + 1) (fun j => cf P j * cf Q (i - j)) * cf R (k - i)) from sm_congr fun i _ => by rw [cf_mulL]; rfl, h]
  exact sm_congr fun i _ => by rw [cf_mulL]; rfl
theorem cv_add_left (P P' Q : List Int) (k : Nat) : cv (addL P P') Q k = cv P Q k + cv P' Q k := by
  unfold cv
  rw [← sm_add]
  exact sm_congr fun i _ => by rw [cf_addL, Int.add_mul]
theorem cv_sub_left (P P' Q : List Int) (k : Nat) : cv (subL P P') Q k = cv P Q k - cv P' Q k := by
  unfold cv
  rw [← sm_sub]
  exact sm_congr fun i _ => by rw [cf_subL, Int.sub_mul]
theorem cv_add_right (P Q Q' : List Int) (k : Nat) : cv P (addL Q Q') k = cv P Q k + cv P Q' k := by
  rw [cv_comm, cv_add_left, cv_comm Q, cv_comm Q']
theorem cv_sub_right (P Q Q' : List Int) (k : Nat) : cv P (subL Q Q') k = cv P Q k - cv P Q' k := by
  rw [cv_comm, cv_sub_left, cv_comm Q, cv_comm Q']
/-- times a number -/
def sclL (c : Int) (P : List Int) : List Int := P.map (c * ·)
theorem cf_sclL (c : Int) (P : List Int) (k : Nat) : cf (sclL c P) k = c * cf P k := cf_map (f := (c * ·)) (by omega) P k
theorem sclL_len (c : Int) (P : List Int) : (sclL c P).length = P.length := by unfold sclL; simp
theorem trim_sclL {c : Int} {P : List Int} (hc : c ≠ 0) (h : Trim P) : Trim (sclL c P) := by
  rcases h with h | h
  · left; rw [h]; rfl
  · right; rw [sclL_len, cf_sclL]; exact Int.mul_ne_zero hc h
theorem cv_scl_left (c : Int) (P Q : List Int) (k : Nat) : cv (sclL c P) Q k = c * cv P Q k := by
  unfold cv
  rw [← sm_mul]
  exact sm_congr fun i _ => by rw [cf_sclL, Int.mul_assoc]
theorem cv_scl_right (c : Int) (P Q : List Int) (k : Nat) : cv P (sclL c Q) k = c * cv P Q k := by
  rw [cv_comm, cv_scl_left, cv_comm]
theorem mulL_comm (P Q : List Int) : mulL P Q = mulL Q P := trim_ext (trim_mulL _ _) (trim_mulL _ _) fun k => by rw [cf_mulL, cf_mulL, cv_comm]
theorem mulL_assoc (P Q R : List Int) : mulL (mulL P Q) R = mulL P (mulL Q R) := trim_ext (trim_mulL _ _) (trim_mulL _ _) fun k => by rw [cf_mulL, cf_mulL, cv_assoc]
theorem mulU_one {c : Int} (P : List Int) : mulU [c] P = sclL c P := by
  by_cases h : P = []
  · subst h; rfl
  · refine ext ?_ fun k _ => ?_
    · unfold mulU
      rw [if_neg (fun z => z.elim (fun h => by cases h) h), List.length_map, List.length_range, sclL_len]
      show 1 + P.length - 1 = _
      omega
    · rw [cf_mulU, cv_one, cf_sclL]
/-- the top of a product -/
theorem cv_top {D Q : List Int} {d e : Nat} (hd : ∀ i, d < i → cf D i = 0) (he : ∀ i, e < i → cf Q i = 0) : cv D Q (d + e) = cf D d * cf Q e := by
  unfold cv
  rw [sm_single (j := d) (by omega) fun i _ hn => ?_]
  · rw [Nat.add_sub_cancel_left]
  · by_cases h : d < i
    · rw [hd i h, Int.zero_mul]
    · rw [he (d + e - i) (by omega), Int.mul_zero]
theorem exists_top {D : List Int} (h : ∃ i, cf D i ≠ 0) : ∃ d, cf D d ≠ 0 ∧ ∀ i, d < i → cf D i = 0 := by
  have ht := trim_trimL D
  rcases ht with e | e
  · obtain ⟨i, hi⟩ := h
    rw [← cf_trimL, e, cf_nil] at hi
    exact absurd rfl hi
  · refine ⟨(trimL D).length - 1, by rw [cf_trimL] at e; exact e, fun i hi => ?_⟩
    rw [← cf_trimL]
    exact cf_beyond (by omega)
theorem top_of {Q : List Int} (hT : Trim Q) (h0 : Q ≠ []) : cf Q (Q.length - 1) ≠ 0 ∧ ∀ i, Q.length - 1 < i → cf Q i = 0 :=
  ⟨lc_ne hT h0, fun i hi => cf_beyond (by omega)⟩
/-- what is times Q and of a lower degree than Q is nought -/
theorem low_zero {D Q : List Int} (hT : Trim Q) (h0 : Q ≠ []) (h : ∀ k, Q.length - 1 ≤ k → cv D Q k = 0) : ∀ i, cf D i = 0 := by
  intro i
  apply Classical.byContradiction
  intro hi
  obtain ⟨d, hd, hd2⟩ := exists_top ⟨i, hi⟩
  obtain ⟨q1, q2⟩ := top_of hT h0
  have := cv_top hd2 q2
  rw [h _ (by omega)] at this
  exact Int.mul_ne_zero hd q1 this.symm
/-- the rest of a division is told by any such sentence -/
theorem rest_unique {P Q A R : List Int} {f : Int} (hT : Trim Q) (h0 : Q ≠ []) (hR : R.length < Q.length) (h : ∀ k, f * cf P k = cv A Q k + cf R k) (k : Nat) : facL P Q * cf R k = f * cf (remL P Q) k ∧ facL P Q * cf A k = f * cf (quoL P Q) k := by
  have hz : ∀ i, cf (subL (sclL (facL P Q) A) (sclL f (quoL P Q))) i = 0 := low_zero hT h0 fun k hk => by
    rw [cv_sub_left, cv_scl_left, cv_scl_left]
    have h1 := h k
    have h2 := div_eq (P := P) hT h0 k
    have hr := rem_len (P := P) hT h0
    rw [cf_beyond (P := R) (by omega)] at h1
    rw [cf_beyond (P := remL P Q) (by omega)] at h2
    rw [show cv A Q k = f * cf P k by omega, show cv (quoL P Q) Q k = facL P Q * cf P k by omega, ← Int.mul_assoc, ← Int.mul_assoc, Int.mul_comm (facL P Q) f]
    omega
  have ha : ∀ i, facL P Q * cf A i = f * cf (quoL P Q) i := fun i => by
    have := hz i
    rw [cf_subL, cf_sclL, cf_sclL] at this
    omega
  refine ⟨?_, ha k⟩
  have h1 := h k
  have h2 := div_eq (P := P) hT h0 k
  have h3 : facL P Q * cv A Q k = f * cv (quoL P Q) Q k := by
    rw [← cv_scl_left, ← cv_scl_left]
    exact cv_congr (fun i => by rw [cf_sclL, cf_sclL, ha]) (fun _ => rfl) k
  have h4 : cf R k = f * cf P k - cv A Q k := by omega
  have h5 : cf (remL P Q) k = facL P Q * cf P k - cv (quoL P Q) Q k := by omega
  rw [h4, h5, Int.mul_sub, Int.mul_sub, h3, ← Int.mul_assoc, ← Int.mul_assoc, Int.mul_comm (facL P Q) f]
theorem trim_mulU {P Q : List Int} (hP : Trim P) (hQ : Trim Q) : Trim (mulU P Q) := by
  by_cases h : P = [] ∨ Q = []
  · left; unfold mulU; rw [if_pos h]
  · right
    have h1 : P ≠ [] := fun e => h (.inl e)
    have h2 : Q ≠ [] := fun e => h (.inr e)
    have e : (mulU P Q).length = P.length + Q.length - 1 := by unfold mulU; rw [if_neg h]; simp
    have l1 := len_pos h1
    have l2 := len_pos h2
    obtain ⟨a1, a2⟩ := top_of hP h1
    obtain ⟨b1, b2⟩ := top_of hQ h2
    rw [e, cf_mulU, show P.length + Q.length - 1 - 1 = (P.length - 1) + (Q.length - 1) by omega, cv_top a2 b2]
    exact Int.mul_ne_zero a1 b1
theorem cf_zero_nil {P : List Int} (hT : Trim P) : P = [] ↔ ∀ k, cf P k = 0 :=
  ⟨fun h k => by rw [h, cf_nil], fun h => hT.elim id fun e => absurd (h _) e⟩
/-- Q divides P just where the rest is [] -/
theorem rem_nil {P Q A R : List Int} {f : Int} (hf : f ≠ 0) (hP : Trim P) (hT : Trim Q) (h0 : Q ≠ []) (hR : R.length < Q.length) (tR : Trim R) (h : ∀ k, f * cf P k = cv A Q k + cf R k) : remL P Q = [] ↔ R = [] := by
  have hp := facL_pos (P := P) hT h0
  rw [cf_zero_nil (trim_rem hP), cf_zero_nil tR]
  constructor
  · intro hz k
    have := (rest_unique hT h0 hR h k).1
    rw [hz k, Int.mul_zero] at this
    rcases Int.mul_eq_zero.mp this with e | e
    · omega
    · exact e
  · intro hz k
    have := (rest_unique hT h0 hR h k).1
    rw [hz k, Int.mul_zero] at this
    rcases Int.mul_eq_zero.mp this.symm with e | e
    · exact absurd e hf
    · exact e
end MR

set_option linter.all false
/-! Shrunk, plain. -/
namespace MP
open MG ML
theorem mem_cf {P : List Int} {d : Int} : (∀ x ∈ P, d ∣ x) ↔ ∀ k, d ∣ cf P k := by
  constructor
  · intro h k
    by_cases hk : k < P.length
    · rw [cf_get hk]; exact h _ (List.getElem_mem hk)
    · rw [cf_beyond (by omega)]; exact Int.dvd_zero d
  · intro h x hx
    obtain ⟨k, hk, rfl⟩ := List.getElem_of_mem hx
    rw [← cf_get hk]; exact h k
theorem gcdN_congr {P Q : List Int} (h : ∀ k, cf P k = cf Q k) : gcdN P = gcdN Q := by
  refine gcdN_eq (mem_cf.mpr fun k => ?_) fun d hd => dvd_gcdN (mem_cf.mpr fun k => ?_)
  · rw [h]; exact mem_cf.mp (fun x hx => gcdN_dvd hx) k
  · rw [← h]; exact mem_cf.mp hd k
theorem gcdN_trim (P : List Int) : gcdN (trimL P) = gcdN P := gcdN_congr (cf_trimL P)
theorem gcdN_cf (P : List Int) (k : Nat) : (gcdN P : Int) ∣ cf P k := mem_cf.mp (fun x hx => gcdN_dvd hx) k
theorem gcdL_cf (P : List Int) (k : Nat) : gcdL P ∣ cf P k := gcdN_cf P k
theorem gcdN_zero {P : List Int} (h : gcdN P = 0) (k : Nat) : cf P k = 0 := by
  have := gcdN_cf P k
  rw [h] at this
  exact Int.zero_dvd.mp this
theorem gcdL_ne {P : List Int} {k : Nat} (h : cf P k ≠ 0) : gcdL P ≠ 0 := fun e => h (gcdN_zero (by unfold gcdL at e; omega) k)
theorem gcdL_nonneg (P : List Int) : 0 ≤ gcdL P := by unfold gcdL; omega
theorem gcdL_pos {P : List Int} {k : Nat} (h : cf P k ≠ 0) : 0 < gcdL P := by
  have := gcdL_ne h; have := gcdL_nonneg P; omega
theorem gcdL_le {P : List Int} {k : Nat} (h : cf P k ≠ 0) : (gcdL P).natAbs ≤ (cf P k).natAbs := Nat.le_of_dvd (by omega) (Int.natAbs_dvd_natAbs.mpr (gcdL_cf P k))
theorem trim_last {P : List Int} (h : Trim P) (h0 : P ≠ []) : cf P (P.length - 1) ≠ 0 := h.elim (fun e => absurd e h0) id
theorem gcdL_trim_pos {P : List Int} (h : Trim P) (h0 : P ≠ []) : 0 < gcdL P := gcdL_pos (trim_last h h0)
theorem gcdL_log {n : Nat} {P : List Int} (hn : 0 < n) (hs : Sz n P) (h : Trim P) (h0 : P ≠ []) : (gcdL P).natAbs < 2 ^ n := Nat.lt_of_le_of_lt (gcdL_le (trim_last h h0)) (hs.cf _)
theorem gcdN_mul (c : Int) (P : List Int) : gcdN (P.map (c * ·)) = c.natAbs * gcdN P := by
  induction P with
  | nil => simp [gcdN_nil]
  | cons x r ih => rw [List.map_cons, gcdN_cons, gcdN_cons, ih, Int.natAbs_mul, Nat.gcd_mul_left]
/-- divided by the shared divisor -/
def shrunkL (P : List Int) : List Int := P.map fun x => x.fdiv (gcdL P)
def negL (P : List Int) : List Int := P.map fun x => -x
def plainL (P : List Int) : List Int := if shrunkL P ≠ [] ∧ cf (shrunkL P) ((shrunkL P).length - 1) < 0 then negL (shrunkL P) else shrunkL P
theorem shrunkL_len (P : List Int) : (shrunkL P).length = P.length := by unfold shrunkL; simp
theorem fdiv_zero (c : Int) : (0 : Int).fdiv c = 0 := by simp
theorem cf_shrunkL (P : List Int) (k : Nat) : cf (shrunkL P) k = (cf P k).fdiv (gcdL P) := cf_map (f := fun x => x.fdiv (gcdL P)) (fdiv_zero _) P k
theorem fdiv_exact {c x : Int} (h : c ∣ x) : c * x.fdiv c = x := by
  rw [Int.fdiv_eq_ediv_of_dvd h, Int.mul_ediv_cancel' h]
theorem mul_shrunkL (P : List Int) (k : Nat) : gcdL P * cf (shrunkL P) k = cf P k := by
  rw [cf_shrunkL]; exact fdiv_exact (gcdL_cf P k)
theorem cf_negL (P : List Int) (k : Nat) : cf (negL P) k = - cf P k := cf_map (f := fun x => -x) (by omega) P k
theorem negL_len (P : List Int) : (negL P).length = P.length := by unfold negL; simp
theorem trim_shrunkL {P : List Int} (h : Trim P) : Trim (shrunkL P) := by
  rcases h with h | h
  · left; rw [h]; rfl
  · right
    rw [shrunkL_len]
    intro e
    apply h
    rw [← mul_shrunkL, e, Int.mul_zero]
theorem trim_negL {P : List Int} (h : Trim P) : Trim (negL P) := by
  rcases h with h | h
  · left; rw [h]; rfl
  · right
    rw [negL_len, cf_negL]; omega
theorem trim_plainL {P : List Int} (h : Trim P) : Trim (plainL P) := by
  unfold plainL
  split
  · exact trim_negL (trim_shrunkL h)
  · exact trim_shrunkL h
theorem plainL_len (P : List Int) : (plainL P).length = P.length := by
  unfold plainL
  split
  · rw [negL_len, shrunkL_len]
  · rw [shrunkL_len]
theorem shrunkL_nil : shrunkL [] = [] := rfl
theorem plainL_nil : plainL [] = [] := by simp [plainL, shrunkL_nil]
/-- what is c times a list whose shared divisor is 1, c above 0 -/
theorem shrunkL_of {P Q : List Int} {c : Int} (hc : 0 < c) (hl : P.length = Q.length) (h : ∀ k, cf P k = c * cf Q k) (h1 : gcdN Q = 1) : shrunkL P = Q := by
  have hP : P = Q.map (c * ·) := ext (by simpa using hl) fun k _ => by rw [h, cf_map (by omega)]
  have hg : gcdL P = c := by
    unfold gcdL
    rw [hP, gcdN_mul, h1, Nat.mul_one]; omega
  refine ext (by rw [shrunkL_len, hl]) fun k _ => ?_
  rw [cf_shrunkL, hg, h, Int.mul_fdiv_cancel_left _ (by omega)]
theorem gcdN_shrunkL {P : List Int} (h : gcdN P ≠ 0) : gcdN (shrunkL P) = 1 := by
  have e : P = (shrunkL P).map (gcdL P * ·) := ext (by simp [shrunkL_len]) fun k _ => by rw [cf_map (by omega), mul_shrunkL]
  have h2 := gcdN_mul (gcdL P) (shrunkL P)
  rw [← e] at h2
  have h3 : (gcdL P).natAbs = gcdN P := by unfold gcdL; omega
  rw [h3] at h2
  exact Nat.eq_of_mul_eq_mul_left (Nat.pos_of_ne_zero h) (by rw [← h2, Nat.mul_one])
theorem gcdN_negL (P : List Int) : gcdN (negL P) = gcdN P := by
  have e : negL P = P.map ((-1) * ·) := by
    unfold negL; apply List.map_congr_left; intro x _; omega
  rw [e, gcdN_mul]; simp
theorem gcdN_plainL {P : List Int} (h : gcdN P ≠ 0) : gcdN (plainL P) = 1 := by
  unfold plainL
  split
  · rw [gcdN_negL, gcdN_shrunkL h]
  · exact gcdN_shrunkL h
/-- a list with 1 as its shared divisor stays -/
theorem shrunkL_one {P : List Int} (h : gcdN P = 1) : shrunkL P = P := shrunkL_of (c := 1) (by decide) rfl (fun k => by omega) h
theorem plainL_last {P : List Int} (h : Trim P) (h0 : P ≠ []) : 0 < cf (plainL P) ((plainL P).length - 1) := by
  have h1 := trim_last (trim_plainL h) (fun e => h0 (by
    have := plainL_len P
    rw [e] at this
    exact List.eq_nil_of_length_eq_zero this.symm))
  have hl := plainL_len P
  unfold plainL at h1 ⊢
  split
  · next hh =>
    rw [cf_negL, negL_len]
    omega
  · next hh =>
    rw [if_neg hh] at h1
    have hs : shrunkL P ≠ [] := fun e => h0 (by
      have := shrunkL_len P
      rw [e] at this
      exact List.eq_nil_of_length_eq_zero this.symm)
    have : ¬ cf (shrunkL P) ((shrunkL P).length - 1) < 0 := fun z => hh ⟨hs, z⟩
    omega
theorem plainL_self {P : List Int} (h1 : gcdN P = 1) (h : P ≠ [] → 0 ≤ cf P (P.length - 1)) : plainL P = P := by
  unfold plainL
  rw [shrunkL_one h1, if_neg]
  rintro ⟨h2, h3⟩
  have := h h2
  omega
theorem plainL_of {P Q : List Int} {c : Int} (hc : c ≠ 0) (hl : P.length = Q.length) (h : ∀ k, cf P k = c * cf Q k) (h1 : gcdN Q = 1) (hq : Q ≠ [] → 0 < cf Q (Q.length - 1)) : plainL P = Q := by
  by_cases hp : 0 < c
  · have e := shrunkL_of hp hl h h1
    unfold plainL
    rw [e, if_neg]
    rintro ⟨h2, h3⟩
    have := hq h2
    omega
  · have e : shrunkL P = negL Q := shrunkL_of (c := -c) (by omega) (by rw [negL_len, hl]) (fun k => by rw [h, cf_negL, Int.neg_mul_neg]) (by rw [gcdN_negL, h1])
    unfold plainL
    rw [e]
    by_cases hn : Q = []
    · subst hn; simp [negL]
    · have := hq hn
      rw [if_pos]
      · unfold negL; rw [List.map_map]
        have : ((fun x : Int => -x) ∘ fun x => -x) = id := by funext x; simp
        rw [this, List.map_id]
      · refine ⟨fun e2 => hn ?_, by rw [negL_len, cf_negL]; omega⟩
        have := negL_len Q
        rw [e2] at this
        exact List.eq_nil_of_length_eq_zero this.symm
theorem Sz.shrunkL {n : Nat} {P : List Int} (h : Sz n P) : Sz n (shrunkL P) := Sz.of fun k _ => by
  have h1 := mul_shrunkL P k
  have h2 := h.cf k
  by_cases h0 : gcdL P = 0
  · rw [cf_shrunkL, h0, Int.fdiv_zero]; exact Nat.two_pow_pos n
  · rw [← h1, Int.natAbs_mul] at h2
    exact Nat.lt_of_le_of_lt (Nat.le_mul_of_pos_left _ (by omega)) h2
theorem Sz.negL {n : Nat} {P : List Int} (h : Sz n P) : Sz n (negL P) := Sz.of fun k _ => by rw [cf_negL, Int.natAbs_neg]; exact h.cf k
theorem Sz.plainL {n : Nat} {P : List Int} (h : Sz n P) : Sz n (plainL P) := by
  unfold MP.plainL
  split
  · exact Sz.negL (Sz.shrunkL h)
  · exact Sz.shrunkL h
end MP

set_option linter.all false
/-! Polynomials that differ by a factor. -/
namespace MQ
open ML MD MP MR MG
theorem plain_mul (A : List Int) : ∃ a : Int, (A ≠ [] → Trim A → a ≠ 0) ∧ ∀ k, cf A k = a * cf (plainL A) k := by
  by_cases h : shrunkL A ≠ [] ∧ cf (shrunkL A) ((shrunkL A).length - 1) < 0
  · refine ⟨-gcdL A, fun h0 ht => ?_, fun k => ?_⟩
    · have := gcdL_trim_pos ht h0; omega
    · unfold plainL
      rw [if_pos h, cf_negL, Int.neg_mul_neg, mul_shrunkL]
  · refine ⟨gcdL A, fun h0 ht => ?_, fun k => ?_⟩
    · have := gcdL_trim_pos ht h0; omega
    · unfold plainL
      rw [if_neg h, mul_shrunkL]
theorem len_le_of {A B : List Int} (tA : Trim A) (h : ∀ k, cf B k = 0 → cf A k = 0) : A.length ≤ B.length := by
  rcases tA with e | e
  · rw [e]; simp
  · apply Classical.byContradiction
    intro hl
    exact e (h _ (cf_beyond (by omega)))
theorem gcd_one_of {p : List Int} {A : List Int} (h0 : A ≠ []) (tA : Trim A) : gcdN (plainL A) = 1 := by
  refine gcdN_plainL fun e => ?_
  have := gcdL_trim_pos tA h0
  unfold gcdL at this
  omega
/-- what divides all of y * p, p of the shared divisor 1, divides y -/
theorem dvd_all {p : List Int} (h : gcdN p = 1) {y z : Int} (hd : ∀ k, y ∣ z * cf p k) : y ∣ z := by
  have h1 := gcdN_mul z p
  rw [h, Nat.mul_one] at h1
  have h2 : y.natAbs ∣ gcdN (p.map (z * ·)) := dvd_gcdN fun x hx => by
    rw [Int.natAbs_dvd]
    obtain ⟨w, hw, rfl⟩ := List.mem_map.mp hx
    obtain ⟨k, hk, e⟩ := List.getElem_of_mem hw
    have := hd k
    rw [cf_get hk, e] at this
    exact this
  rw [h1] at h2
  exact Int.natAbs_dvd_natAbs.mp h2
theorem plain_prop {A B : List Int} {x y : Int} (tA : Trim A) (tB : Trim B) (hx : x ≠ 0) (hy : y ≠ 0) (h : ∀ k, x * cf A k = y * cf B k) : plainL A = plainL B := by
  have ab : ∀ k, cf A k = 0 → cf B k = 0 := fun k e => by
    have := h k
    rw [e, Int.mul_zero] at this
    exact (Int.mul_eq_zero.mp this.symm).resolve_left hy
  have ba : ∀ k, cf B k = 0 → cf A k = 0 := fun k e => by
    have := h k
    rw [e, Int.mul_zero] at this
    exact (Int.mul_eq_zero.mp this).resolve_left hx
  have hl : A.length = B.length := Nat.le_antisymm (len_le_of tA ba) (len_le_of tB ab)
  by_cases h0 : A = []
  · subst h0
    have : B = [] := List.eq_nil_of_length_eq_zero hl.symm
    rw [this]
  obtain ⟨a, ha, hA⟩ := plain_mul A
  have ha := ha h0 tA
  have h1 := gcd_one_of (p := []) h0 tA
  have hlast := plainL_last tA h0
  have hlen := plainL_len A
  generalize plainL A = p at *
  have hd : y ∣ x * a := dvd_all h1 fun k => ⟨cf B k, by rw [Int.mul_assoc, ← hA, h]⟩
  obtain ⟨b, hb⟩ := hd
  have hb0 : b ≠ 0 := fun e => by
    rw [e, Int.mul_zero] at hb
    exact (Int.mul_ne_zero hx ha) hb
  refine (plainL_of (c := b) hb0 (by omega) (fun k => ?_) h1 fun _ => hlast).symm
  have := h k
  rw [hA, ← Int.mul_assoc, hb, Int.mul_assoc] at this
  exact (Int.eq_of_mul_eq_mul_left hy this).symm
end MQ

set_option linter.all false
/-! Rows without an end as a ring: sums and products of polynomials. -/
namespace PS
open ML MR
def S := Nat → Int
namespace S
def con (c : Int) : S := fun k => if k = 0 then c else 0
def add (p q : S) : S := fun k => p k + q k
def neg (p : S) : S := fun k => - p k
def sub (p q : S) : S := fun k => p k - q k
def mul (p q : S) : S := fun k => sm (k + 1) fun i => p i * q (k - i)
def pow (p : S) : Nat → S
  | 0 => con 1
  | n + 1 => mul (pow p n) p
instance : Add S := ⟨add⟩
instance : Mul S := ⟨mul⟩
instance : Neg S := ⟨neg⟩
instance : Sub S := ⟨sub⟩
instance : NatCast S := ⟨fun n => con n⟩
instance : IntCast S := ⟨fun n => con n⟩
instance (n : Nat) : OfNat S n := ⟨con n⟩
instance : SMul Nat S := ⟨fun n p => mul (con n) p⟩
instance : SMul Int S := ⟨fun n p => mul (con n) p⟩
instance : HPow S Nat S := ⟨pow⟩
theorem ext {p q : S} (h : ∀ k, p k = q k) : p = q := funext h
theorem add_at (p q : S) (k : Nat) : (p + q) k = p k + q k := rfl
theorem sub_at (p q : S) (k : Nat) : (p - q) k = p k - q k := rfl
theorem neg_at (p : S) (k : Nat) : (-p) k = - p k := rfl
theorem mul_at (p q : S) (k : Nat) : (p * q) k = sm (k + 1) fun i => p i * q (k - i) := rfl
theorem zero_at (k : Nat) : (0 : S) k = 0 := by show (if k = 0 then (((0 : Nat) : Int)) else 0) = 0; split <;> rfl
theorem con_mul (c : Int) (p : S) (k : Nat) : (con c * p) k = c * p k := by
  rw [mul_at, sm_shift, sm_zero fun i _ => by show con c (i + 1) * _ = 0; unfold con; rw [if_neg (by omega), Int.zero_mul]]
  show con c 0 * p (k - 0) + 0 = _
  unfold con
  rw [if_pos rfl, Nat.sub_zero, Int.add_zero]
theorem mul_comm' (p q : S) : p * q = q * p := ext fun k => by
  rw [mul_at, mul_at, ← sm_rev]
  refine sm_congr fun i hi => ?_
  rw [show k + 1 - 1 - i = k - i by omega, show k - (k - i) = i by omega, Int.mul_comm]
theorem assoc_raw (p q r : Nat → Int) (k : Nat) : sm (k + 1) (fun i => sm (i + 1) (fun j => p j * q (i - j)) * r (k - i)) = sm (k + 1) (fun j => p j * sm (k - j + 1) (fun l => q l * r (k - j - l))) := by
  have h1 : sm (k + 1) (fun i => sm (i + 1) (fun j => p j * q (i - j)) * r (k - i)) = sm (k + 1) (fun i => sm (i + 1) (fun j => (fun (j l : Nat) => p j * q l * r (k - (j + l))) j (i - j))) := sm_congr fun i _ => by
    rw [← sm_mul_r]
    refine sm_congr fun j hj => ?_
    show p j * q (i - j) * r (k - i) = p j * q (i - j) * r (k - (j + (i - j)))
    rw [show j + (i - j) = i by omega]
  refine h1.trans ((sm_tri (fun j l => p j * q l * r (k - (j + l))) k).trans ?_)
  refine sm_congr fun j hj => ?_
  rw [← sm_mul]
  refine sm_congr fun l hl => ?_
  show p j * q l * r (k - (j + l)) = _
  rw [show k - (j + l) = k - j - l by omega, Int.mul_assoc]
theorem mul_assoc' (p q r : S) : p * q * r = p * (q * r) := ext fun k => assoc_raw p q r k
theorem distrib_raw (a b c : Nat → Int) (k : Nat) : sm (k + 1) (fun i => a i * (b (k - i) + c (k - i))) = sm (k + 1) (fun i => a i * b (k - i)) + sm (k + 1) (fun i => a i * c (k - i)) := by
  rw [← sm_add]
  exact sm_congr fun i _ => Int.mul_add _ _ _
theorem left_distrib' (a b c : S) : a * (b + c) = a * b + a * c := ext fun k => distrib_raw a b c k
theorem one_mul' (a : S) : 1 * a = a := ext fun k => by
  show (con ((1 : Nat) : Int) * a) k = a k
  rw [con_mul]; omega
theorem zero_mul' (a : S) : 0 * a = 0 := ext fun k => by
  show (con ((0 : Nat) : Int) * a) k = (0 : S) k
  rw [con_mul, zero_at]; omega
theorem con_zero_at (c : Int) (k : Nat) : con c k = if k = 0 then c else 0 := rfl
instance : Lean.Grind.CommRing S where
  add_zero a := ext fun k => by rw [add_at, zero_at, Int.add_zero]
  add_comm a b := ext fun k => Int.add_comm _ _
  add_assoc a b c := ext fun k => Int.add_assoc _ _ _
  mul_assoc := mul_assoc'
  mul_comm := mul_comm'
  mul_one a := by rw [mul_comm', one_mul']
  one_mul := one_mul'
  left_distrib := left_distrib'
  right_distrib a b c := by rw [mul_comm', left_distrib', mul_comm' c, mul_comm' c]
  zero_mul := zero_mul'
  mul_zero a := by rw [mul_comm', zero_mul']
  pow_zero a := rfl
  pow_succ a n := rfl
  ofNat_succ a := ext fun k => by
    show con ((a + 1 : Nat) : Int) k = con (a : Int) k + con ((1 : Nat) : Int) k
    rw [con_zero_at, con_zero_at, con_zero_at]
    split <;> omega
  ofNat_eq_natCast n := rfl
  nsmul_eq_natCast_mul n a := rfl
  neg_add_cancel a := ext fun k => by rw [add_at, neg_at, zero_at]; omega
  sub_eq_add_neg a b := ext fun k => by rw [sub_at, add_at, neg_at]; omega
  neg_zsmul i a := ext fun k => by
    show (con (-i) * a) k = (-(con i * a)) k
    rw [con_mul, neg_at, con_mul, Int.neg_mul]
  zsmul_natCast_eq_nsmul n a := rfl
  intCast_ofNat n := rfl
  intCast_neg i := ext fun k => by
    show con (-i) k = - con i k
    rw [con_zero_at, con_zero_at]
    split <;> omega
example (a b c : S) : (a + b) * (a - b) * c = a * a * c - b * b * c := by grind
end S
open S
/-- below a place -/
def Lt (p : S) (e : Nat) : Prop := ∀ j, e ≤ j → p j = 0
theorem Lt.mono {p : S} {e f : Nat} (h : Lt p e) (hf : e ≤ f) : Lt p f := fun j hj => h j (by omega)
theorem Lt.zero {p : S} (h : Lt p 0) : p = 0 := S.ext fun k => by rw [h k (by omega), zero_at]
theorem lt_zero (e : Nat) : Lt 0 e := fun j _ => zero_at j
theorem lt_con (c : Int) : Lt (con c) 1 := fun j hj => by rw [con_zero_at, if_neg (by omega)]
theorem Lt.add {p q : S} {e : Nat} (h : Lt p e) (h' : Lt q e) : Lt (p + q) e := fun j hj => by rw [add_at, h j hj, h' j hj]; rfl
theorem Lt.sub {p q : S} {e : Nat} (h : Lt p e) (h' : Lt q e) : Lt (p - q) e := fun j hj => by rw [sub_at, h j hj, h' j hj]; rfl
theorem Lt.mul {p q : S} {a b : Nat} (h : Lt p a) (h' : Lt q (b + 1)) : Lt (p * q) (a + b) := fun j hj => by
  rw [mul_at]
  refine sm_zero fun i hi => ?_
  by_cases hi' : a ≤ i
  · rw [h i hi', Int.zero_mul]
  · rw [h' (j - i) (by omega), Int.mul_zero]
theorem Lt.con_mul {p : S} {a : Nat} (c : Int) (h : Lt p a) : Lt (con c * p) a := fun j hj => by rw [S.con_mul, h j hj, Int.mul_zero]
theorem mul_top {p q : S} {a b : Nat} (h : Lt p (a + 1)) (h' : Lt q (b + 1)) : (p * q) (a + b) = p a * q b := by
  rw [mul_at, sm_single (j := a) (by omega) fun i hi hn => ?_]
  · rw [show a + b - a = b by omega]
  · by_cases hl : i ≤ a
    · rw [h' (a + b - i) (by omega), Int.mul_zero]
    · rw [h i (by omega), Int.zero_mul]
theorem lt_div {q : S} {b : Nat} (hq : Lt q (b + 1)) (h0 : q b ≠ 0) {p : S} {c : Nat} (h : Lt (p * q) (c + b)) : ∀ n, Lt p (c + n) → Lt p c
  | 0, hp => hp
  | n + 1, hp => by
    refine lt_div hq h0 h n fun j hj => ?_
    by_cases hj' : c + (n + 1) ≤ j
    · exact hp j hj'
    · have e : j = c + n := by omega
      subst e
      have h1 := mul_top (p := p) (q := q) (a := c + n) (b := b) (hp.mono (by omega)) hq
      rw [h (c + n + b) (by omega)] at h1
      exact (Int.mul_eq_zero.mp h1.symm).resolve_right h0
/-- a polynomial of a list -/
def of (P : List Int) : S := cf P
theorem of_at (P : List Int) (k : Nat) : of P k = cf P k := rfl
theorem of_lt (P : List Int) : Lt (of P) P.length := fun j hj => cf_beyond hj
theorem of_mul (P Q : List Int) (k : Nat) : (of P * of Q) k = cv P Q k := rfl
theorem con_at0 (c : Int) : con c 0 = c := rfl
theorem con_inj {c d : Int} (h : con c = con d) : c = d := by
  have := congrFun h 0
  exact this
/-- a row below 1 is its first number -/
theorem lt_one {p : S} (h : Lt p 1) : p = con (p 0) := S.ext fun k => by
  rw [con_zero_at]
  split
  · next e => rw [e]
  · exact h k (by omega)
end PS

set_option linter.all false
/-! A system with more unknowns than rows has a small answer that is not nought: by counting. -/
namespace SG
open ML
theorem pigeon : ∀ (m n : Nat) (f : Nat → Nat), (∀ i, i < n → f i < m) → m < n → ∃ i j, i < j ∧ j < n ∧ f i = f j
  | 0, n, f, h, hn => absurd (h 0 hn) (Nat.not_lt_zero _)
  | m + 1, n, f, h, hn => by
    obtain ⟨n', rfl⟩ : ∃ n', n = n' + 1 := ⟨n - 1, by omega⟩
    by_cases hc : ∃ i, i < n' ∧ f i = f n'
    · obtain ⟨i, hi, e⟩ := hc
      exact ⟨i, n', hi, by omega, e⟩
    · have hne : ∀ i, i < n' → f i ≠ f n' := fun i hi e => hc ⟨i, hi, e⟩
      have hl := h n' (by omega)
      obtain ⟨i, j, h1, h2, h3⟩ := pigeon m n' (fun i => if f i < f n' then f i else f i - 1) (fun i hi => by
        have a := h i (by omega)
        have b := hne i hi
        show (if f i < f n' then f i else f i - 1) < m
        split <;> omega) (by omega)
      refine ⟨i, j, h1, by omega, ?_⟩
      have a := hne i (by omega)
      have b := hne j h2
      split at h3 <;> split at h3 <;> omega
/-- the figures of a number -/
def dg (D i k : Nat) : Nat := i / D ^ k % D
theorem dg_succ (D i k : Nat) : dg D i (k + 1) = dg D (i / D) k := by
  unfold dg
  rw [Nat.div_div_eq_div_mul, Nat.pow_succ, Nat.mul_comm]
theorem dg_lt {D : Nat} (h : 0 < D) (i k : Nat) : dg D i k < D := Nat.mod_lt _ h
theorem dg_inj {D : Nat} (h : 0 < D) : ∀ (n i j : Nat), i < D ^ n → j < D ^ n → (∀ k, k < n → dg D i k = dg D j k) → i = j
  | 0, i, j, hi, hj, _ => by rw [Nat.pow_zero] at hi hj; omega
  | n + 1, i, j, hi, hj, hk => by
    have h0 := hk 0 (by omega)
    unfold dg at h0
    rw [Nat.pow_zero, Nat.div_one, Nat.div_one] at h0
    rw [Nat.pow_succ] at hi hj
    have := dg_inj h n (i / D) (j / D) ((Nat.div_lt_iff_lt_mul h).mpr hi) ((Nat.div_lt_iff_lt_mul h).mpr hj) fun k hk' => by
      rw [← dg_succ, ← dg_succ]; exact hk (k + 1) (by omega)
    rw [← Nat.div_add_mod i D, ← Nat.div_add_mod j D, this, h0]
/-- a row of numbers as one -/
def enc (T : Nat) (y : Nat → Nat) : Nat → Nat
  | 0 => 0
  | n + 1 => enc T y n + y n * T ^ n
theorem enc_lt {T : Nat} {y : Nat → Nat} : ∀ n, (∀ k, k < n → y k < T) → enc T y n < T ^ n
  | 0, _ => by show 0 < T ^ 0; rw [Nat.pow_zero]; decide
  | n + 1, h => by
    have h1 := enc_lt n fun k hk => h k (by omega)
    have h2 := h n (by omega)
    show enc T y n + y n * T ^ n < T ^ (n + 1)
    rw [Nat.pow_succ, Nat.mul_comm (T ^ n)]
    have : (y n + 1) * T ^ n ≤ T * T ^ n := Nat.mul_le_mul_right _ h2
    rw [Nat.add_mul, Nat.one_mul] at this
    omega
theorem enc_inj {T : Nat} {y z : Nat → Nat} : ∀ n, (∀ k, k < n → y k < T) → (∀ k, k < n → z k < T) → enc T y n = enc T z n → ∀ k, k < n → y k = z k
  | 0, _, _, _, k, hk => absurd hk (Nat.not_lt_zero _)
  | n + 1, hy, hz, e, k, hk => by
    have l1 := enc_lt n fun k hk => hy k (by omega)
    have l2 := enc_lt n fun k hk => hz k (by omega)
    have e' : enc T y n + y n * T ^ n = enc T z n + z n * T ^ n := e
    have hp : 0 < T ^ n := by omega
    have d : ∀ a b : Nat, a < T ^ n → (a + b * T ^ n) / T ^ n = b := fun a b ha => by
      rw [Nat.add_mul_div_right _ _ hp, Nat.div_eq_of_lt ha, Nat.zero_add]
    have hn : y n = z n := by
      rw [← d _ (y n) l1, ← d _ (z n) l2, e']
    by_cases hk' : k = n
    · rw [hk']; exact hn
    · refine enc_inj n (fun k hk => hy k (by omega)) (fun k hk => hz k (by omega)) ?_ k (by omega)
      rw [hn] at e'
      omega
theorem sm_abs_le {n : Nat} {f : Nat → Int} {B : Nat} (h : ∀ i, i < n → (f i).natAbs ≤ B) : (sm n f).natAbs ≤ n * B := sm_abs h
/-- the small answer -/
theorem siegel {E s t : Nat} (c : Nat → Nat → Int) (hc : ∀ i j, (c i j).natAbs < 2 ^ s) (ht : 2 * ((E + 1) * 2 ^ s) ≤ 2 ^ t) :
    ∃ x : Nat → Int, (∃ j, j ≤ E ∧ x j ≠ 0) ∧ (∀ j, (x j).natAbs < 2 ^ (t * E + 1)) ∧ (∀ j, E < j → x j = 0) ∧ ∀ i, i < E → sm (E + 1) (fun j => c i j * x j) = 0 := by
  let e := t * E + 1
  have he : e = t * E + 1 := rfl
  have D0 : 0 < 2 ^ e := Nat.two_pow_pos e
  -- what a number's figures come to
  let im : Nat → Nat → Int := fun n i => sm (E + 1) fun j => c i j * (dg (2 ^ e) n j : Int)
  let Y : Nat := (E + 1) * 2 ^ s * (2 ^ e - 1)
  have imb : ∀ n i, (im n i).natAbs ≤ Y := fun n i => by
    have := sm_abs_le (n := E + 1) (f := fun j => c i j * (dg (2 ^ e) n j : Int)) (B := 2 ^ s * (2 ^ e - 1)) fun j _ => by
      rw [Int.natAbs_mul, Int.natAbs_natCast]
      exact Nat.mul_le_mul (Nat.le_of_lt (hc i j)) (by have := dg_lt D0 n j; omega)
    rw [← Nat.mul_assoc] at this
    exact this
  have Y2 : 2 * Y < 2 ^ (t + e) := by
    have h1 : 2 * ((E + 1) * 2 ^ s) * (2 ^ e - 1) ≤ 2 ^ t * (2 ^ e - 1) := Nat.mul_le_mul_right _ ht
    have h2 : 2 ^ t * (2 ^ e - 1) < 2 ^ t * 2 ^ e := Nat.mul_lt_mul_of_pos_left (by omega) (Nat.two_pow_pos t)
    rw [Nat.pow_add]
    show 2 * ((E + 1) * 2 ^ s * (2 ^ e - 1)) < _
    rw [← Nat.mul_assoc]
    omega
  let sh : Nat → Nat → Nat := fun n i => (im n i + Y).toNat
  have shb : ∀ n i, sh n i < 2 ^ (t + e) := fun n i => by
    have := imb n i
    show (im n i + Y).toNat < _
    omega
  obtain ⟨a, b, hab, hb, hf⟩ := pigeon ((2 ^ (t + e)) ^ E) ((2 ^ e) ^ (E + 1)) (fun n => enc (2 ^ (t + e)) (sh n) E) (fun n _ => enc_lt E fun k _ => shb n k) (by
    rw [← Nat.pow_mul, ← Nat.pow_mul]
    refine Nat.pow_lt_pow_right (by decide) ?_
    rw [Nat.add_mul, Nat.mul_add, Nat.mul_one]
    omega)
  have hs := enc_inj E (fun k _ => shb a k) (fun k _ => shb b k) hf
  refine ⟨fun j => if j ≤ E then (dg (2 ^ e) a j : Int) - dg (2 ^ e) b j else 0, ?_, fun j => ?_, fun j hj => if_neg (by omega), fun i hi => ?_⟩
  · apply Classical.byContradiction
    intro hh
    have : a = b := dg_inj D0 (E + 1) a b (by omega) hb fun k hk => by
      apply Classical.byContradiction
      intro hne
      exact hh ⟨k, by omega, by show (if k ≤ E then (dg (2 ^ e) a k : Int) - dg (2 ^ e) b k else 0) ≠ 0; rw [if_pos (by omega)]; omega⟩
    omega
  · have h1 := dg_lt D0 a j
    have h2 := dg_lt D0 b j
    show (if j ≤ E then (dg (2 ^ e) a j : Int) - dg (2 ^ e) b j else 0).natAbs < 2 ^ e
    split <;> omega
  · have h1 := hs i hi
    have b1 := imb a i
    have b2 := imb b i
    have h2 : im a i = im b i := by
      have h1' : (im a i + Y).toNat = (im b i + Y).toNat := h1
      omega
    have h3 : sm (E + 1) (fun j => c i j * (if j ≤ E then (dg (2 ^ e) a j : Int) - dg (2 ^ e) b j else 0)) = im a i - im b i := by
      show _ = sm (E + 1) _ - sm (E + 1) _
      rw [← sm_sub]
      refine sm_congr fun j hj => ?_
      rw [if_pos (by omega), Int.mul_sub]
    rw [h3, h2]; omega
end SG

set_option linter.all false
/-! The row of a polynomial. -/
namespace MS
open ML MD MP
def nextL (A B : List Int) : List Int := shrunkL ((remL A B).map fun x => 0 - x)
def rowG : Nat → List Int → List Int → List (List Int)
  | 0, _, _ => []
  | f + 1, A, B => if B = [] then [] else B :: rowG f B (nextL A B)
/-- what the walk asks of each step -/
def RowOk : Nat → List Int → List Int → Prop
  | 0, _, B => B = []
  | f + 1, A, B => B = [] ∨ (Trim B ∧ (∃ n m, Sz n A ∧ Sz m B ∧ A.length ≤ 100000 ∧ B.length ≤ 100000 ∧ 0 < n ∧ 0 < m ∧ m ≤ 9000 ∧ n + (2 * m + 1) * (A.length + 1) ≤ 900000) ∧ (remL A B ≠ [] → MG.gcdL ((remL A B).map fun x => 0 - x) ≠ 0 ∧ (MG.gcdL ((remL A B).map fun x => 0 - x)).natAbs.log2 < 9000) ∧ RowOk f B (nextL A B))
def rowL (f : Nat) (P : List Int) : List (List Int) := if P = [] then [] else shrunkL P :: rowG f (shrunkL P) (shrunkL (slopeL P))
end MS

set_option linter.all false
/-! The rests of a division that goes on and on have small coefficients, where what they share is taken out. -/
namespace CO
open ML MR MP MQ MD PS PS.S MG
variable {P Q A B C : List Int}
/-- how two rests that follow each other are made of P and Q -/
def Cof (P Q A B : List Int) : Prop := ∃ (a b w : Int) (U0 V0 U1 V1 : S), a ≠ 0 ∧ b ≠ 0 ∧ w ≠ 0 ∧ con a * of A = U0 * of P + V0 * of Q ∧ con b * of B = U1 * of P + V1 * of Q ∧ U0 * V1 - U1 * V0 = con w ∧ Lt U0 (Q.length + 1 - B.length) ∧ Lt V0 (P.length - B.length) ∧ Lt U1 (Q.length + 1 - A.length) ∧ Lt V1 (P.length + 1 - A.length) ∧ V1 (P.length - A.length) ≠ 0 ∧ A.length ≤ P.length
theorem con_mul_con (a b : Int) : con a * con b = con (a * b) := S.ext fun k => by
  rw [S.con_mul, con_zero_at, con_zero_at]
  split
  · rfl
  · omega
theorem one_at (k : Nat) : (1 : S) k = if k = 0 then 1 else 0 := rfl
theorem Cof.start {a b : Int} (a0 : a ≠ 0) (b0 : b ≠ 0) (hA : ∀ k, cf P k = a * cf A k) (hB : ∀ k, cf Q k = b * cf B k) (lA : A.length = P.length) (lB : B.length = Q.length) : Cof P Q A B := by
  refine ⟨a, b, 1, 1, 0, 0, 1, a0, b0, by decide, ?_, ?_, ?_, ?_, ?_, ?_, ?_, ?_, by omega⟩
  · have : con a * of A = of P := S.ext fun k => by rw [S.con_mul, of_at, of_at, hA]
    rw [this]; grind
  · have : con b * of B = of Q := S.ext fun k => by rw [S.con_mul, of_at, of_at, hB]
    rw [this]; grind
  · have : con 1 = (1 : S) := rfl
    rw [this]; grind
  · intro j hj; rw [one_at, if_neg (by omega)]
  · exact lt_zero _
  · exact lt_zero _
  · intro j hj; rw [one_at, if_neg (by omega)]
  · rw [lA, Nat.sub_self, one_at, if_pos rfl]; decide
theorem Cof.step {c f : Int} {q : S} (h : Cof P Q A B) (c0 : c ≠ 0) (f0 : f ≠ 0) (hc : con c * of C = con f * of A - q * of B) (hBA : B.length ≤ A.length) (hCB : C.length < B.length) (hq : Lt q (A.length - B.length + 1)) (q0 : q (A.length - B.length) ≠ 0) : Cof P Q B C := by
  obtain ⟨a, b, w, U0, V0, U1, V1, a0, b0, w0, e0, e1, ew, lU0, lV0, lU1, lV1, t1, lA⟩ := h
  have lqU : Lt (q * U1) (Q.length + 1 - B.length) := by
    by_cases hh : Q.length + 1 < A.length
    · have : U1 = 0 := Lt.zero (lU1.mono (by omega))
      rw [this, show q * (0 : S) = 0 by grind]
      exact lt_zero _
    · have := lU1.mul hq
      rw [mul_comm']
      exact this.mono (by omega)
  have lqV : Lt (q * V1) (P.length + 1 - B.length) := by
    have := lV1.mul hq
    rw [mul_comm']
    exact this.mono (by omega)
  refine ⟨b, c * (a * b), -(f * b * w), U1, V1, con (f * b) * U0 - con a * (q * U1), con (f * b) * V0 - con a * (q * V1), b0, Int.mul_ne_zero c0 (Int.mul_ne_zero a0 b0), ?_, e1, ?_, ?_, ?_, ?_, ?_, ?_, ?_, by omega⟩
  · have := Int.mul_ne_zero (Int.mul_ne_zero f0 b0) w0; omega
  · have h1 : con (c * (a * b)) * of C = con (a * b) * (con c * of C) := by rw [← con_mul_con]; grind
    rw [h1, hc, ← con_mul_con, ← con_mul_con]
    have h2 : con a * con b * (con f * of A - q * of B) = con f * con b * (con a * of A) - con a * (q * (con b * of B)) := by grind
    rw [h2, e0, e1]
    grind
  · have h1 : con (-(f * b * w)) = -(con (f * b) * con w) := by
      rw [con_mul_con]
      exact S.ext fun k => by rw [con_zero_at, neg_at, con_zero_at]; split <;> omega
    rw [h1, ← ew]
    grind
  · exact lU1.mono (by omega)
  · exact lV1.mono (by omega)
  · exact (lU0.con_mul _).sub (lqU.con_mul _)
  · exact ((lV0.mono (by omega)).con_mul _).sub (lqV.con_mul _)
  · rw [sub_at, S.con_mul, S.con_mul, lV0 _ (Nat.le_refl _), Int.mul_zero]
    have := mul_top (p := q) (q := V1) (a := A.length - B.length) (b := P.length - A.length) hq (lV1.mono (by omega))
    rw [show A.length - B.length + (P.length - A.length) = P.length - B.length by omega] at this
    rw [this]
    have := Int.mul_ne_zero a0 (Int.mul_ne_zero q0 t1)
    omega
theorem sm_split (f : Nat → Int) (n : Nat) : ∀ m, sm (n + m) f = sm n f + sm m fun j => f (n + j)
  | 0 => by show sm n f = sm n f + 0; omega
  | m + 1 => by
    rw [← Nat.add_assoc, sm_succ, sm_succ, sm_split f n m]; omega
/-- a product, told by the places of the first -/
theorem conv_ext {U p : S} {n : Nat} (h : Lt U n) (d : Nat) : (U * p) d = sm n fun i => U i * (if i ≤ d then p (d - i) else 0) := by
  rw [mul_at]
  have e1 : sm (max n (d + 1)) (fun i => U i * (if i ≤ d then p (d - i) else 0)) = sm n (fun i => U i * (if i ≤ d then p (d - i) else 0)) := sm_ext (by omega) fun i hi _ => by rw [h i hi, Int.zero_mul]
  have e2 : sm (max n (d + 1)) (fun i => U i * (if i ≤ d then p (d - i) else 0)) = sm (d + 1) (fun i => U i * (if i ≤ d then p (d - i) else 0)) := sm_ext (by omega) fun i hi _ => by rw [if_neg (by omega), Int.mul_zero]
  rw [← e1, e2]
  exact sm_congr fun i hi => by rw [if_pos (by omega)]
theorem prod_sz {U p : S} {n x s : Nat} (h : Lt U n) (hU : ∀ j, (U j).natAbs ≤ x) (hp : ∀ j, (p j).natAbs ≤ s) (d : Nat) : ((U * p) d).natAbs ≤ n * (x * s) := by
  rw [conv_ext h]
  refine sm_abs fun i _ => ?_
  rw [Int.natAbs_mul]
  refine Nat.mul_le_mul (hU i) ?_
  split
  · exact hp _
  · exact Nat.zero_le _
/-- the bound -/
theorem Cof.bound {s t : Nat} (h : Cof P Q A B) (hP : Trim P) (nP : P ≠ []) (nQ : Q ≠ []) (sP : Sz s P) (sQ : Sz s Q) (hBA : B.length < A.length) (hAQ : A.length ≤ Q.length + 1) (g1 : gcdN B = 1) (ht : 2 * ((P.length + Q.length) * 2 ^ s) ≤ 2 ^ t) : Sz (t * (P.length + Q.length) + t + 1) B := by
  obtain ⟨a, b, w, U0, V0, U1, V1, a0, b0, w0, e0, e1, ew, lU0, lV0, lU1, lV1, t1, lA⟩ := h
  have lP := List.length_pos_iff.mpr nP
  have lQ := List.length_pos_iff.mpr nQ
  have pT := trim_last hP nP
  -- B is not [], for nothing of no coefficients has the shared divisor 1
  have nB : B ≠ [] := fun z => by rw [z] at g1; exact absurd g1 (by decide)
  have lB := List.length_pos_iff.mpr nB
  obtain ⟨nu, hnu⟩ : ∃ nu, nu = Q.length + 1 - A.length := ⟨_, rfl⟩
  obtain ⟨nv, hnv⟩ : ∃ nv, nv = P.length + 1 - A.length := ⟨_, rfl⟩
  obtain ⟨E, hE⟩ : ∃ E, nu + nv = E + 1 := ⟨nu + nv - 1, by omega⟩
  have hEl : E + 1 ≤ P.length + Q.length := by omega
  obtain ⟨x, ⟨j0, hj0, xj0⟩, xb, xz, xe⟩ := SG.siegel (E := E) (s := s) (t := t) (fun i j => if j < nu then (if j ≤ A.length - 1 + i then cf P (A.length - 1 + i - j) else 0) else (if j - nu ≤ A.length - 1 + i then cf Q (A.length - 1 + i - (j - nu)) else 0)) (fun i j => by
    split
    · split
      · exact sP.cf _
      · exact Nat.two_pow_pos _
    · split
      · exact sQ.cf _
      · exact Nat.two_pow_pos _) (Nat.le_trans (Nat.mul_le_mul_left _ (Nat.mul_le_mul_right _ hEl)) ht)
  let U : S := fun j => if j < nu then x j else 0
  let V : S := fun j => if j < nv then x (nu + j) else 0
  have lU : Lt U nu := fun j hj => if_neg (by omega)
  have lV : Lt V nv := fun j hj => if_neg (by omega)
  obtain ⟨R, hR⟩ : ∃ R, U * of P + V * of Q = R := ⟨_, rfl⟩
  have zero_at' : ∀ i, i < E → R (A.length - 1 + i) = 0 := fun i hi => by
    rw [← hR, add_at, conv_ext lU, conv_ext lV]
    have := xe i hi
    rw [← hE, sm_split] at this
    refine Eq.trans ?_ this
    congr 1
    · refine sm_congr fun j hj => ?_
      rw [if_pos hj]
      show (if j < nu then x j else 0) * _ = _
      rw [if_pos hj, Int.mul_comm]; rfl
    · refine sm_congr fun j hj => ?_
      show (if j < nv then x (nu + j) else 0) * _ = (if nu + j < nu then _ else _) * x (nu + j)
      rw [if_pos hj, if_neg (show ¬ nu + j < nu by omega), Nat.add_sub_cancel_left, Int.mul_comm]; rfl
  have lR : Lt R (A.length - 1) := fun j hj => by
    by_cases hj2 : j < A.length - 1 + E
    · have := zero_at' (j - (A.length - 1)) (by omega)
      rwa [show A.length - 1 + (j - (A.length - 1)) = j by omega] at this
    · rw [← hR]
      have h1 := lU.mul ((of_lt P).mono (show P.length ≤ (P.length - 1) + 1 by omega))
      have h2 := lV.mul ((of_lt Q).mono (show Q.length ≤ (Q.length - 1) + 1 by omega))
      rw [add_at, h1 j (by omega), h2 j (by omega)]; rfl
  -- the two pairs go together
  have al : U * V1 - U1 * V = 0 := by
    have h1 : R * V1 - con b * of B * V = (U * V1 - U1 * V) * of P := by
      rw [← hR, e1]; grind
    have l1 : Lt (R * V1) (P.length - 1) := (lR.mul (lV1.mono (show P.length + 1 - A.length ≤ (P.length - A.length) + 1 by omega))).mono (by omega)
    have l2 : Lt (con b * of B * V) (P.length - 1) := (((of_lt B).con_mul b).mul (lV.mono (show nv ≤ (P.length - A.length) + 1 by omega))).mono (by omega)
    have l3 : Lt ((U * V1 - U1 * V) * of P) (0 + (P.length - 1)) := by
      rw [← h1, Nat.zero_add]
      exact l1.sub l2
    have fin : Lt (U * V1 - U1 * V) (0 + (nu + (P.length + 1) + (Q.length + 1 - A.length + nv))) := by
      refine Lt.sub ((lU.mul (lV1.mono (show P.length + 1 - A.length ≤ P.length + 1 + 1 by omega))).mono (by omega)) ((lU1.mul (lV.mono (show nv ≤ nv + 1 by omega))).mono (by omega))
    exact Lt.zero (lt_div ((of_lt P).mono (by omega)) pT l3 _ fin)
  obtain ⟨be, hbe⟩ : ∃ be, U0 * V - U * V0 = be := ⟨_, rfl⟩
  have wU : con w * U = be * U1 := by
    have : con w * U = U0 * (U * V1 - U1 * V) + (U0 * V - U * V0) * U1 := by rw [← ew]; grind
    rw [this, al, hbe]; grind
  have wV : con w * V = be * V1 := by
    have : con w * V = V0 * (U * V1 - U1 * V) + (U0 * V - U * V0) * V1 := by rw [← ew]; grind
    rw [this, al, hbe]; grind
  have lbe : Lt be 1 := by
    have l1 : Lt (be * V1) (1 + (P.length - A.length)) := by
      rw [← wV]
      exact (lV.con_mul w).mono (by omega)
    have fin : Lt be (1 + ((Q.length + 1 - B.length) + nv + (nu + P.length))) := by
      rw [← hbe]
      exact Lt.sub ((lU0.mul (lV.mono (show nv ≤ nv + 1 by omega))).mono (by omega)) ((lU.mul (lV0.mono (show P.length - B.length ≤ P.length + 1 by omega))).mono (by omega))
    exact lt_div (lV1.mono (by omega)) t1 l1 _ fin
  have cbe := lt_one lbe
  generalize be 0 = y at cbe
  -- y is not 0
  have w_inv : ∀ {p : S}, con w * p = 0 → p = 0 := fun {p} hp => S.ext fun k => by
    have := congrFun hp k
    rw [S.con_mul, zero_at] at this
    rw [zero_at]
    exact (Int.mul_eq_zero.mp this).resolve_left w0
  have y0 : y ≠ 0 := fun z => by
    have hb0 : be = 0 := by rw [cbe, z]; rfl
    have u0 : U = 0 := w_inv (by rw [wU, hb0]; grind)
    have v0 : V = 0 := w_inv (by rw [wV, hb0]; grind)
    by_cases hj : j0 < nu
    · have := congrFun u0 j0
      rw [zero_at] at this
      have h2 : U j0 = x j0 := if_pos hj
      exact xj0 (h2 ▸ this)
    · have := congrFun v0 (j0 - nu)
      rw [zero_at] at this
      have h2 : V (j0 - nu) = x j0 := by
        show (if j0 - nu < nv then x (nu + (j0 - nu)) else 0) = _
        rw [if_pos (by omega), show nu + (j0 - nu) = j0 by omega]
      exact xj0 (h2 ▸ this)
  have rel : ∀ k, w * R k = (y * b) * cf B k := fun k => by
    have : con w * R = con (y * b) * of B := by
      have h1 : con w * R = con w * U * of P + con w * V * of Q := by rw [← hR]; grind
      have h2 : be * U1 * of P + be * V1 * of Q = be * (U1 * of P + V1 * of Q) := by grind
      rw [h1, wU, wV, h2, ← e1, cbe, ← con_mul_con]; grind
    have := congrFun this k
    rw [S.con_mul, S.con_mul] at this
    exact this
  have wd : w ∣ y * b := dvd_all g1 fun k => ⟨R k, (rel k).symm⟩
  obtain ⟨z, hz⟩ := wd
  have z0 : z ≠ 0 := fun e => by
    rw [e, Int.mul_zero] at hz
    exact Int.mul_ne_zero y0 b0 hz
  have Rk : ∀ k, R k = z * cf B k := fun k => by
    have := rel k
    rw [hz, Int.mul_assoc] at this
    exact Int.eq_of_mul_eq_mul_left w0 this
  refine Sz.of fun k _ => ?_
  have le : (cf B k).natAbs ≤ (R k).natAbs := by
    rw [Rk, Int.natAbs_mul]
    exact Nat.le_mul_of_pos_left _ (by omega)
  refine Nat.lt_of_le_of_lt le ?_
  have bU : ∀ j, (U j).natAbs ≤ 2 ^ (t * E + 1) := fun j => by
    show (if j < nu then x j else 0).natAbs ≤ _
    split
    · exact Nat.le_of_lt (xb j)
    · exact Nat.zero_le _
  have bV : ∀ j, (V j).natAbs ≤ 2 ^ (t * E + 1) := fun j => by
    show (if j < nv then x (nu + j) else 0).natAbs ≤ _
    split
    · exact Nat.le_of_lt (xb _)
    · exact Nat.zero_le _
  have q1 := prod_sz lU bU (fun j => Nat.le_of_lt (sP.cf j)) (p := of P) k
  have q2 := prod_sz lV bV (fun j => Nat.le_of_lt (sQ.cf j)) (p := of Q) k
  have q3 : (R k).natAbs ≤ (nu + nv) * (2 ^ (t * E + 1) * 2 ^ s) := by
    rw [← hR, add_at, Nat.add_mul]
    omega
  have q4 : (nu + nv) * (2 ^ (t * E + 1) * 2 ^ s) ≤ (P.length + Q.length) * (2 ^ (t * E + 1) * 2 ^ s) := Nat.mul_le_mul_right _ (by omega)
  have q5 : 2 * ((P.length + Q.length) * (2 ^ (t * E + 1) * 2 ^ s)) ≤ 2 ^ t * 2 ^ (t * E + 1) := by
    have := Nat.mul_le_mul_right (2 ^ (t * E + 1)) ht
    calc 2 * ((P.length + Q.length) * (2 ^ (t * E + 1) * 2 ^ s)) = 2 * ((P.length + Q.length) * 2 ^ s) * 2 ^ (t * E + 1) := by
          rw [Nat.mul_comm (2 ^ (t * E + 1)), ← Nat.mul_assoc (P.length + Q.length), Nat.mul_assoc 2]
      _ ≤ _ := this
  rw [show 2 ^ t * 2 ^ (t * E + 1) = 2 ^ (t + (t * E + 1)) from (Nat.pow_add ..).symm] at q5
  have q6 : 2 ^ (t + (t * E + 1)) ≤ 2 ^ (t * (P.length + Q.length) + t + 1) := Nat.pow_le_pow_right (by decide) (by
    have : t * E ≤ t * (P.length + Q.length) := Nat.mul_le_mul_left _ (by omega)
    omega)
  have q7 : 0 < 2 ^ (t + (t * E + 1)) := Nat.two_pow_pos _
  omega
end CO

set_option linter.all false
set_option exponentiation.threshold 100000
/-! What the walk asks of a row of rests. -/
namespace MS
open ML MD MP MR MQ MG CO PS PS.S
/-- what the walk asks of each step, where a shared divisor can be great -/
def RowOk2 : Nat → List Int → List Int → Prop
  | 0, _, B => B = []
  | f + 1, A, B => B = [] ∨ (Trim B ∧ (∃ n m, Sz n A ∧ Sz m B ∧ A.length ≤ 100000 ∧ B.length ≤ 100000 ∧ 0 < n ∧ 0 < m ∧ m ≤ 9000 ∧ n + (2 * m + 1) * (A.length + 1) ≤ 900000) ∧ (remL A B ≠ [] → gcdL ((remL A B).map fun x => 0 - x) ≠ 0 ∧ Sz 4000 (nextL A B)) ∧ RowOk2 f B (nextL A B))
/-- what is known of P and Q -/
structure Env (P Q : List Int) (s t : Nat) : Prop where
  hP : Trim P
  nP : P ≠ []
  nQ : Q ≠ []
  sP : Sz s P
  sQ : Sz s Q
  ht : 2 * ((P.length + Q.length) * 2 ^ s) ≤ 2 ^ t
  hw : t * (P.length + Q.length) + t + 1 ≤ 4000
  hl : P.length ≤ 100
/-- a pair of rests on the way -/
structure Run (P Q A B : List Int) : Prop where
  c : Cof P Q A B
  tA : Trim A
  nA : A ≠ []
  tB : Trim B
  le : B.length ≤ A.length
  lQ : B.length ≤ Q.length
  lA : A.length ≤ 100
  sA : Sz 4000 A
  sB : Sz 4000 B
variable {P Q A B C : List Int} {s t : Nat}
theorem quo_facts (tA : Trim A) (nA : A ≠ []) (tB : Trim B) (nB : B ≠ []) (le : B.length ≤ A.length) : Lt (of (quoL A B)) (A.length - B.length + 1) ∧ of (quoL A B) (A.length - B.length) ≠ 0 ∧ con (facL A B) * of A - of (quoL A B) * of B = of (remL A B) := by
  have lA := List.length_pos_iff.mpr nA
  have lB := List.length_pos_iff.mpr nB
  have e : con (facL A B) * of A - of (quoL A B) * of B = of (remL A B) := S.ext fun k => by
    rw [sub_at, S.con_mul, of_mul, of_at, of_at, div_eq tB nB]; omega
  have lr := rem_len (P := A) tB nB
  have lr2 : Lt (of (remL A B)) (B.length - 1) := (of_lt _).mono (by omega)
  have tb := trim_last tB nB
  have ta := trim_last tA nA
  have f0 := facL_pos (P := A) tB nB
  have e2 : of (quoL A B) * of B = con (facL A B) * of A - of (remL A B) := by rw [← e]; grind
  have l1 : Lt (of (quoL A B) * of B) ((A.length - B.length + 1) + (B.length - 1)) := by
    rw [e2]
    exact Lt.sub ((Lt.con_mul _ (of_lt A)).mono (by omega)) (lr2.mono (by omega))
  have l2 : Lt (of (quoL A B)) (A.length - B.length + 1) := lt_div ((of_lt B).mono (by omega)) tb l1 (quoL A B).length ((of_lt _).mono (by omega))
  refine ⟨l2, fun hz => ?_, e⟩
  have h1 := mul_top (p := of (quoL A B)) (q := of B) (a := A.length - B.length) (b := B.length - 1) l2 ((of_lt B).mono (by omega))
  rw [hz, Int.zero_mul, e2, sub_at, S.con_mul, lr2 _ (by omega), show A.length - B.length + (B.length - 1) = A.length - 1 by omega] at h1
  have := Int.mul_ne_zero (show facL A B ≠ 0 by omega) ta
  have h2 : facL A B * cf A (A.length - 1) - 0 = 0 := h1
  omega
theorem Run.step {c : Int} (E : Env P Q s t) (h : Run P Q A B) (nB : B ≠ []) (c0 : c ≠ 0) (hc : ∀ k, c * cf C k = cf (remL A B) k) (tC : Trim C) (g1 : C ≠ [] → gcdN C = 1) : Run P Q B C := by
  obtain ⟨q1, q2, q3⟩ := quo_facts h.tA h.nA h.tB nB h.le
  have f0 := facL_pos (P := A) h.tB nB
  have lr := rem_len (P := A) h.tB nB
  have lC : C.length ≤ (remL A B).length := len_le_of tC fun k hk => by
    have := hc k
    rw [hk] at this
    exact (Int.mul_eq_zero.mp this).resolve_left c0
  have cof := h.c.step (C := C) c0 (show facL A B ≠ 0 by omega) (by rw [q3]; exact S.ext fun k => by rw [S.con_mul, of_at, of_at]; exact hc k) h.le (by omega) q1 q2
  have := h.lQ
  have := h.le
  have := h.lA
  refine ⟨cof, h.tB, nB, tC, by omega, by omega, by omega, h.sB, ?_⟩
  by_cases hC : C = []
  · rw [hC]; exact Sz.nil _
  · exact (cof.bound E.hP E.nP E.nQ E.sP E.sQ (by omega) (by omega) (g1 hC) E.ht).mono E.hw
theorem neg_cf (R : List Int) (k : Nat) : cf (R.map fun x => 0 - x) k = - cf R k := by
  rw [cf_map (f := fun x => 0 - x) (by omega)]; omega
theorem neg_trim {R : List Int} (h : Trim R) : Trim (R.map fun x => 0 - x) := by
  rcases h with h | h
  · exact .inl (by rw [h]; rfl)
  · refine .inr ?_
    rw [neg_cf, List.length_map]; omega
theorem next_facts (tA : Trim A) (nB : B ≠ []) : Trim (nextL A B) ∧ (remL A B ≠ [] → gcdL ((remL A B).map fun x => 0 - x) ≠ 0) ∧ (nextL A B ≠ [] → gcdN (nextL A B) = 1) ∧ ∃ c : Int, c ≠ 0 ∧ ∀ k, c * cf (nextL A B) k = cf (remL A B) k := by
  have tr := trim_rem (Q := B) tA
  have tn := neg_trim tr
  have ge : remL A B ≠ [] → gcdL ((remL A B).map fun x => 0 - x) ≠ 0 := fun h => by
    have := gcdL_trim_pos tn (fun z => h (List.map_eq_nil_iff.mp z))
    omega
  refine ⟨trim_shrunkL tn, ge, fun h => ?_, ?_⟩
  · refine gcdN_shrunkL fun z => ?_
    have hr : remL A B ≠ [] := fun e => h (by unfold nextL; rw [e]; rfl)
    have := ge hr
    unfold gcdL at this
    rw [z] at this
    exact this rfl
  · by_cases hr : remL A B = []
    · refine ⟨1, by decide, fun k => ?_⟩
      unfold nextL
      rw [hr]
      show 1 * cf (shrunkL []) k = _
      rw [shrunkL_nil]; omega
    · refine ⟨-gcdL ((remL A B).map fun x => 0 - x), by have := ge hr; omega, fun k => ?_⟩
      unfold nextL
      rw [Int.neg_mul, mul_shrunkL, neg_cf]; omega
theorem div_room {A B : List Int} (lA : A.length ≤ 100) (sA : Sz 4000 A) (sB : Sz 4000 B) (lB : B.length ≤ 100) : ∃ n m, Sz n A ∧ Sz m B ∧ A.length ≤ 100000 ∧ B.length ≤ 100000 ∧ 0 < n ∧ 0 < m ∧ m ≤ 9000 ∧ n + (2 * m + 1) * (A.length + 1) ≤ 900000 := ⟨4000, 4000, sA, sB, by omega, by omega, by omega, by omega, by omega, by omega⟩
theorem Run.row (E : Env P Q s t) : ∀ (f : Nat) {A B : List Int}, Run P Q A B → B.length ≤ f → RowOk2 f A B
  | 0, A, B, h, hf => List.eq_nil_of_length_eq_zero (Nat.le_zero.mp hf)
  | f + 1, A, B, h, hf => by
    by_cases nB : B = []
    · exact .inl nB
    · obtain ⟨tN, ge, g1, c, c0, hc⟩ := next_facts h.tA nB
      have st := h.step E nB c0 hc tN g1
      have lr := rem_len (P := A) h.tB nB
      have lC : (nextL A B).length = (remL A B).length := by unfold nextL; rw [shrunkL_len, List.length_map]
      have := h.le
      have := h.lA
      exact .inr ⟨h.tB, div_room h.lA h.sA h.sB (by omega), fun hr => ⟨ge hr, st.sB⟩, Run.row E f st (by omega)⟩
/-- the first two of a row -/
theorem Run.first (E : Env P Q s t) (hs : s ≤ 4000) (tQ : Trim Q) (le : Q.length ≤ P.length) : Run P Q (shrunkL P) (shrunkL Q) := by
  have gP := gcdL_trim_pos E.hP E.nP
  have gQ := gcdL_trim_pos tQ E.nQ
  have := E.hl
  refine ⟨Cof.start (a := gcdL P) (b := gcdL Q) (by omega) (by omega) (fun k => (mul_shrunkL P k).symm) (fun k => (mul_shrunkL Q k).symm) (shrunkL_len P) (shrunkL_len Q), trim_shrunkL E.hP, fun z => E.nP (List.map_eq_nil_iff.mp z), trim_shrunkL tQ, by rw [shrunkL_len, shrunkL_len]; exact le, by rw [shrunkL_len]; exact Nat.le_refl _, by rw [shrunkL_len]; omega, (MP.Sz.shrunkL E.sP).mono hs, (MP.Sz.shrunkL E.sQ).mono hs⟩
/-- what is known of two rests that follow each other -/
structure PairOk (A B : List Int) : Prop where
  tA : Trim A
  nA : A ≠ []
  tB : Trim B
  nB : B ≠ []
  sA : Sz 4000 A
  sB : Sz 4000 B
  lA : A.length ≤ 100
  lB : B.length ≤ A.length
  nx : remL A B ≠ [] → gcdL ((remL A B).map fun x => 0 - x) ≠ 0 ∧ Sz 4000 (nextL A B)
theorem Run.pair (E : Env P Q s t) (h : Run P Q A B) (nB : B ≠ []) : PairOk A B ∧ Run P Q B (nextL A B) := by
  obtain ⟨tN, ge, g1, c, c0, hc⟩ := next_facts h.tA nB
  have st := h.step E nB c0 hc tN g1
  exact ⟨⟨h.tA, h.nA, h.tB, nB, h.sA, h.sB, h.lA, h.le, fun hr => ⟨ge hr, st.sB⟩⟩, st⟩
theorem next_nil : nextL A B = [] ↔ remL A B = [] := by
  unfold nextL
  constructor
  · intro h
    have := congrArg List.length h
    rw [shrunkL_len, List.length_map] at this
    exact List.eq_nil_of_length_eq_zero this
  · intro h; rw [h]; rfl
theorem next_len : (nextL A B).length = (remL A B).length := by unfold nextL; rw [shrunkL_len, List.length_map]
/-- each place of a row -/
theorem row_get (E : Env P Q s t) : ∀ (f : Nat) {A B : List Int}, Run P Q A B → B.length ≤ f → ∀ (k : Nat) (R1 : List Int), (A :: rowG f A B)[k + 1]? = some R1 → ∃ R0, (A :: rowG f A B)[k]? = some R0 ∧ PairOk R0 R1 ∧ (A :: rowG f A B)[k + 2]? = if nextL R0 R1 = [] then none else some (nextL R0 R1)
  | 0, A, B, h, hf, k, R1, e => by
    have : rowG 0 A B = [] := rfl
    rw [this] at e
    simp at e
  | f + 1, A, B, h, hf, k, R1, e => by
    by_cases nB : B = []
    · have : rowG (f + 1) A B = [] := by show (if B = [] then [] else _) = _; rw [if_pos nB]
      rw [this] at e
      simp at e
    · have er : rowG (f + 1) A B = B :: rowG f B (nextL A B) := by show (if B = [] then [] else _) = _; rw [if_neg nB]
      obtain ⟨pr, st⟩ := h.pair E nB
      have lr := rem_len (P := A) h.tB nB
      have hl : (nextL A B).length ≤ f := by rw [next_len]; omega
      rw [er] at e ⊢
      cases k with
      | zero =>
        simp only [List.getElem?_cons_succ, List.getElem?_cons_zero, Option.some.injEq] at e
        subst e
        refine ⟨A, rfl, pr, ?_⟩
        simp only [List.getElem?_cons_succ]
        by_cases nN : nextL A B = []
        · rw [if_pos nN, nN]
          cases f with
          | zero => rfl
          | succ f => show (if ([] : List Int) = [] then [] else _)[0]? = _; rw [if_pos rfl]; rfl
        · rw [if_neg nN]
          cases f with
          | zero => exact absurd (List.eq_nil_of_length_eq_zero (Nat.le_zero.mp hl)) nN
          | succ f => show (if nextL A B = [] then [] else _)[0]? = _; rw [if_neg nN]; rfl
      | succ k =>
        simp only [List.getElem?_cons_succ] at e
        obtain ⟨R0, h1, h2, h3⟩ := row_get E f st hl k R1 (by simpa using e)
        exact ⟨R0, by simpa using h1, h2, by simpa using h3⟩
/-- what shrunk asks, where the shared divisor can be great -/
def ShrX (P : List Int) : Prop := gcdL P ≠ 0 ∧ ((gcdL P).natAbs.log2 < 9000 ∨ Sz 4000 (shrunkL P))
theorem log_prod {x g y : Int} (e : g * y = x) (hy : y.natAbs < 2 ^ 4000) : x.natAbs.log2 ≤ g.natAbs.log2 + 4400 := by
  by_cases hx : x.natAbs = 0
  · rw [hx]; simp
  · have h1 : g.natAbs < 2 ^ (g.natAbs.log2 + 1) := Nat.lt_log2_self
    have h2 : x.natAbs < 2 ^ (g.natAbs.log2 + 1 + 4000) := by
      rw [← e, Int.natAbs_mul, Nat.pow_add]
      exact Nat.mul_lt_mul'' h1 hy
    have := (Nat.log2_lt hx).mpr h2
    omega
theorem ShrX.div {P : List Int} (h : ShrX P) {x : Int} (hx : x ∈ P) : gcdL P ≠ 0 ∧ ((gcdL P).natAbs.log2 < 9000 ∨ x.natAbs.log2 ≤ (gcdL P).natAbs.log2 + 4400) := by
  refine ⟨h.1, h.2.imp id fun hs => ?_⟩
  obtain ⟨k, hk, e⟩ := List.getElem_of_mem hx
  refine log_prod (y := cf (shrunkL P) k) ?_ (hs.cf k)
  rw [mul_shrunkL, cf_get hk, e]
/-- lists that differ by a factor above 0 -/
theorem shr_prop {X Y : List Int} {x y : Int} (tX : Trim X) (tY : Trim Y) (hx : 0 < x) (hy : 0 < y) (h : ∀ k, x * cf X k = y * cf Y k) : shrunkL Y = shrunkL X := by
  have hl : X.length = Y.length := Nat.le_antisymm (len_le_of tX fun k hk => by
    have := h k
    rw [hk, Int.mul_zero] at this
    exact (Int.mul_eq_zero.mp this).resolve_left (by omega)) (len_le_of tY fun k hk => by
    have := h k
    rw [hk, Int.mul_zero] at this
    exact (Int.mul_eq_zero.mp this.symm).resolve_left (by omega))
  by_cases h0 : X = []
  · subst h0
    rw [List.eq_nil_of_length_eq_zero (l := Y) hl.symm]
  · have g0 := gcdL_trim_pos tX h0
    have g1 : gcdN (shrunkL X) = 1 := gcdN_shrunkL fun z => by
      unfold gcdL at g0
      rw [z] at g0; omega
    obtain ⟨c, hc⟩ : y ∣ x * gcdL X := dvd_all g1 fun k => ⟨cf Y k, by rw [Int.mul_assoc, mul_shrunkL, h]⟩
    have cp : 0 < c := by
      have h1 := Int.mul_pos hx g0
      rw [hc] at h1
      exact Int.pos_of_mul_pos_right h1 hy |> fun z => z
    refine shrunkL_of cp (by rw [shrunkL_len, hl]) (fun k => ?_) g1
    refine Int.eq_of_mul_eq_mul_left (show y ≠ 0 by omega) ?_
    rw [← h, ← Int.mul_assoc, ← hc, Int.mul_assoc, mul_shrunkL]
end MS

set_option linter.all false
set_option maxRecDepth 100000
/-! Lists of lists of ints. -/
namespace RB
open PySem PySem.Spec PyProof.Rows L2
open Evl (Ex rLenS rListS rMax2 tCut pss_cut)
def Rws (H : Hp) : List Addr → List (List Int) → Prop
  | [], [] => True
  | p :: ps, R :: Rs => H p = some (.lst (R.map V.int)) ∧ Rws H ps Rs
  | _, _ => False
theorem Rws.len {H : Hp} : ∀ {ps : List Addr} {Rs : List (List Int)}, Rws H ps Rs → ps.length = Rs.length
  | [], [], _ => rfl
  | p :: ps, R :: Rs, h => by rw [List.length_cons, List.length_cons, Rws.len h.2]
theorem Rws.ex {H H' : Hp} (e : Ex H H') : ∀ {ps : List Addr} {Rs : List (List Int)}, Rws H ps Rs → Rws H' ps Rs
  | [], [], _ => trivial
  | p :: ps, R :: Rs, h => ⟨e _ _ h.1, Rws.ex e h.2⟩
theorem Rws.exb {l : Addr} {H H' : Hp} (e : Exb l H H') : ∀ {ps : List Addr} {Rs : List (List Int)}, l ∉ ps → Rws H ps Rs → Rws H' ps Rs
  | [], [], _, _ => trivial
  | p :: ps, R :: Rs, hn, h => ⟨e _ (fun x => hn (by rw [x]; exact List.mem_cons_self ..)) _ h.1, Rws.exb e (fun x => hn (List.mem_cons_of_mem _ x)) h.2⟩
theorem Rws.append {H : Hp} : ∀ {ps qs : List Addr} {Rs Ss : List (List Int)}, Rws H ps Rs → Rws H qs Ss → Rws H (ps ++ qs) (Rs ++ Ss)
  | [], _, [], _, _, h => h
  | p :: ps, _, R :: Rs, _, h, h' => ⟨h.1, Rws.append h.2 h'⟩
theorem Rws.get {H : Hp} : ∀ {ps : List Addr} {Rs : List (List Int)} {i : Nat} {p : Addr}, Rws H ps Rs → ps[i]? = some p → ∃ R, Rs[i]? = some R ∧ H p = some (.lst (R.map V.int))
  | p :: ps, R :: Rs, 0, q, h, e => by
    simp only [List.getElem?_cons_zero, Option.some.injEq] at e
    exact ⟨R, rfl, by rw [← e]; exact h.1⟩
  | p :: ps, R :: Rs, i + 1, q, h, e => by
    simp only [List.getElem?_cons_succ] at e
    obtain ⟨S, h1, h2⟩ := Rws.get (i := i) h.2 e
    exact ⟨S, by simpa using h1, h2⟩
theorem dp_rows {K : PySem.W.Frag} {H : Hp} : ∀ {ps : List Addr} {Rs : List (List Int)}, Rws H ps Rs → DpAll K H (ps.map V.ref) (Rs.map dI)
  | [], [], _ => .nil
  | p :: ps, R :: Rs, h => .cons (dp_listI (SqL.inj h.1)) (dp_rows h.2)
theorem canLay_rows : ∀ Rs : List (List Int), PyData.canLayAll0 (Rs.map dI) = true
  | [] => by simp [PyData.canLayAll0]
  | n :: r => by
    rw [List.map_cons, PyData.canLayAll0, canLay_rows r]
    show (PyData.canLay0 (dI n) && true) = true
    unfold dI
    rw [PyData.canLay0, canLay_ints]; rfl
theorem depth_dI (n : List Int) : PyData.depth (dI n) ≤ 2 := by
  have := depth_ints n
  unfold dI
  rw [PyData.depth]
  omega
theorem depth_rows : ∀ Rs : List (List Int), PyData.depthAll (Rs.map dI) ≤ 2
  | [] => by simp [PyData.depthAll]
  | n :: r => by
    have h1 := depth_rows r
    have h2 := depth_dI n
    rw [List.map_cons, PyData.depthAll]
    omega
def dR (Rs : List (List Int)) : PyData := .list (Rs.map dI)
theorem shaped_dR (Rs : List (List Int)) : SeqAt.shaped (dR Rs) = true := by
  have h1 := canLay_rows Rs
  have h2 := depth_rows Rs
  unfold SeqAt.shaped dR
  rw [Bool.and_eq_true, PyData.canLay0, PyData.depth]
  exact ⟨h1, decide_eq_true (by omega)⟩
theorem eqvAll_rows : ∀ Rs Ss : List (List Int), PyData.eqvAll (Rs.map dI) (Ss.map dI) = decide (Rs = Ss)
  | [], [] => by simp [PyData.eqvAll]
  | [], m :: r => by simp [PyData.eqvAll]
  | n :: r, [] => by simp [PyData.eqvAll]
  | n :: r, m :: s => by
    rw [List.map_cons, List.map_cons, PyData.eqvAll, eqvAll_rows r s, eqv_dI]
    simp
theorem eqv_dR (Rs Ss : List (List Int)) : PyData.eqv (dR Rs) (dR Ss) = decide (Rs = Ss) := by
  unfold dR
  rw [PyData.eqv, eqvAll_rows]
def RowsK (K : PySem.W.Frag) (H : Hp) (a : Addr) (Rs : List (List Int)) : Prop := ∃ ps, SqL K H a (ps.map V.ref) ∧ Rws H ps Rs
theorem dp_listR {K : PySem.W.Frag} {H : Hp} {a : Addr} {ps : List Addr} {Rs : List (List Int)} (h : SqL K H a (ps.map V.ref)) (h' : Rws H ps Rs) : Dp K H (.ref a) (dR Rs) := .lst h (dp_rows h')
theorem r_eqRows {K : PySem.W.Frag} {H : Hp} {Q : VK} {a b : Addr} {ps qs : List Addr} {Rs Ss : List (List Int)} (h1 : SqL K H a (ps.map V.ref)) (h1' : Rws H ps Rs) (h2 : SqL K H b (qs.map V.ref)) (h2' : Rws H qs Ss) (q : Q (.bl (decide (Rs = Ss))) H) : rEqD K (.ref a) (.ref b) H Q :=
  ⟨_, _, dp_listR h1 h1', dp_listR h2 h2', shaped_dR Rs, shaped_dR Ss, by rw [eqv_dR]; exact q⟩
/-- what a row tells: new lists -/
def RetRow (Rs : List (List Int)) (H : Hp) (Q : VK) : Prop := ∀ (a : Addr) (ps : List Addr) (H' : Hp), H a = none → (∀ p ∈ ps, H p = none) → a ∉ ps → Ex H H' → H' a = some (.lst (ps.map V.ref)) → Rws H' ps Rs → Q (.ref a) H'
/-- the last two items -/
theorem r_ix2 {K : PySem.W.Frag} {H : Hp} {Q : VK} {p : Addr} {xs : List V} {x y : V} (h : SqL K H p (xs ++ [x, y])) (q : Q x H) : rIxL K (.ref p) (.int (-2)) H Q :=
  r_ixL h (by
    unfold atI
    have e : ixN (xs ++ [x, y]).length (-2) = some xs.length := by
      unfold ixN
      rw [if_neg (by decide), if_pos (by simp; omega)]
      simp
      omega
    rw [e]; simp) q
theorem r_ix1 {K : PySem.W.Frag} {H : Hp} {Q : VK} {p : Addr} {xs : List V} {x y : V} (h : SqL K H p (xs ++ [x, y])) (q : Q y H) : rIxL K (.ref p) (.int (-1)) H Q :=
  r_ixL h (by
    have : xs ++ [x, y] = (xs ++ [x]) ++ [y] := by simp
    rw [this]; exact atI_last _ _) q
end RB
namespace RB
open PySem PySem.Spec PyProof.Rows L2
open Evl (Ex)
theorem Rws.take {H : Hp} : ∀ (n : Nat) {ps : List Addr} {Rs : List (List Int)}, Rws H ps Rs → Rws H (ps.take n) (Rs.take n)
  | 0, _, _, _ => by rw [List.take_zero, List.take_zero]; trivial
  | n + 1, [], [], _ => trivial
  | n + 1, p :: ps, R :: Rs, h => ⟨h.1, Rws.take n h.2⟩
theorem Rws.flat {H : Hp} {ps : List Addr} {Rs : List (List Int)} (h : Rws H ps Rs) : ∀ n : Nat, Rws H (List.replicate n ps).flatten (List.replicate n Rs).flatten
  | 0 => trivial
  | n + 1 => by
    rw [List.replicate_succ, List.replicate_succ, List.flatten_cons, List.flatten_cons]
    exact Rws.append h (Rws.flat h n)
theorem flat_map {α β : Type} (f : α → β) (xs : List α) : ∀ n : Nat, (List.replicate n (xs.map f)).flatten = ((List.replicate n xs).flatten).map f
  | 0 => rfl
  | n + 1 => by rw [List.replicate_succ, List.replicate_succ, List.flatten_cons, List.flatten_cons, flat_map f xs n, List.map_append]
theorem flat_len {α : Type} (xs : List α) : ∀ n : Nat, ((List.replicate n xs).flatten).length = n * xs.length
  | 0 => by simp
  | n + 1 => by rw [List.replicate_succ, List.flatten_cons, List.length_append, flat_len xs n, Nat.add_mul]; omega
theorem flat_mem {α : Type} {xs : List α} {x : α} : ∀ {n : Nat}, x ∈ (List.replicate n xs).flatten → x ∈ xs
  | 0, h => by cases h
  | n + 1, h => by
    rw [List.replicate_succ, List.flatten_cons, List.mem_append] at h
    exact h.elim id flat_mem
/-- a list of lists times a number -/
theorem r_repR {H : Hp} {Q : VK} {l : Addr} {ps : List Addr} {k : Int} (h1 : H l = some (.lst (ps.map V.ref))) (hk : k < 2 ^ 63) (z : ps.length * k.toNat ≤ 16777216) (q : ∀ p H', H p = none → Ex H H' → H' p = some (.lst (((List.replicate k.toNat ps).flatten).map V.ref)) → Q (.ref p) H') (h0 : -(2 ^ 63) ≤ k := by omega) : rRep (.ref l) (.int k) H Q :=
  ⟨l, k, ps.map V.ref, rfl, rfl, h1, h0, hk, by rw [List.length_map]; exact small_le z, newL fun p H' hp e h => q p H' hp e (by rw [← flat_map]; exact h)⟩
theorem cutV_to {xs : List V} {n : Int} (h0 : 0 ≤ n) : cutV xs none (some n) = xs.take n.toNat := by
  obtain ⟨k, rfl⟩ : ∃ k : Nat, n = (k : Int) := ⟨n.toNat, by omega⟩
  unfold cutV
  rw [HT.sIx_none, HT.sIx_nat, List.drop_zero, Int.toNat_natCast, Nat.sub_zero]
  by_cases h : k ≤ xs.length
  · rw [Nat.min_eq_left h]
  · rw [Nat.min_eq_right (by omega), List.take_length, List.take_of_length_le (by omega)]
/-- over a list of lists, each giving a new list -/
theorem lc_rowsN {K : PySem.W.Frag} {σ : L2.St} {H : Hp} {te : TE} {Q : VK} {a : Addr} {ps : List Addr} {Rs : List (List Int)} {j : Nat} (f : List Int → List Int) (hx : SqL K H a (ps.map V.ref)) (hW : Rws H ps Rs) (hz : ps.length < 1000000)
    (he : ∀ p R H1, R ∈ Rs → H1 p = some (.lst (R.map V.int)) → Ex H H1 → ∀ Q' : VK, (∀ q H2, H1 q = none → Ex H1 H2 → H2 q = some (.lst ((f R).map V.int)) → Q' (.ref q) H2) → te (σ.set j (some (.ref p))) H1 Q')
    (q : ∀ D H' qs, H D = none → Ex H H' → H' D = some (.lst (qs.map V.ref)) → Rws H' qs (Rs.map f) → D ∉ qs → Q (.ref D) H') : Lc (Itl K a) (gName j) tYes te [j] σ H Q := fun D hD =>
  lc_list (xs := ps.map V.ref) (fun i H' => Ex H H' ∧ ∃ qs : List Addr, H' D = some (.lst (qs.map V.ref)) ∧ Rws H' qs ((Rs.take i).map f) ∧ D ∉ qs ∧ qs.length ≤ i) ⟨Evl.Ex.new hD, [], upd_same, trivial, (fun h => by cases h), Nat.le_refl _⟩ (fun i H' _ p => p.1.l hx)
    (fun i x H' hi p => ⟨by show ((σ.set j none).set j (some x)).set j none = σ.set j none; rw [set_set, set_set], by
      show te ((σ.set j none).set j (some x)) H' _
      rw [set_set]
      rw [List.getElem?_map] at hi
      obtain ⟨p', hp', rfl⟩ := Option.map_eq_some_iff.mp hi
      obtain ⟨e, qs, hq, hR, hn, hl⟩ := p
      obtain ⟨R, hRm, hpR⟩ := hW.get hp'
      have hlt : i < ps.length := (List.getElem?_eq_some_iff.mp hp').1
      refine he p' R H' (List.mem_of_getElem? hRm) (e _ _ hpR) e _ fun r H2 hr e2 hr2 => ⟨_, e2 D _ hq, ?_, Evl.Ex.mut (e.trans e2) hD, qs ++ [r], ?_, ?_, ?_, ?_⟩
      · rw [List.length_map]; exact small_lt (by omega)
      · rw [upd_same, List.map_append]; rfl
      · rw [List.take_add_one, hRm, List.map_append]
        have nD : r ≠ D := fun z => by rw [z, hq] at hr; cases hr
        refine Rws.append ?_ ⟨by rw [upd_ne nD]; exact hr2, trivial⟩
        exact (hR.ex e2).exb (l := D) (fun c n o h => by rw [upd_ne n]; exact h) hn
      · intro h
        rcases List.mem_append.mp h with h | h
        · exact hn h
        · rw [List.mem_singleton] at h
          rw [← h, hq] at hr
          cases hr
      · rw [List.length_append]; simp; omega⟩)
    (fun H' p => by
      obtain ⟨e, qs, hq, hR, hn, hl⟩ := p
      rw [List.length_map, hW.len, List.take_length] at hR
      exact q D H' qs hD e hq hR hn)
theorem lc_rows {K : PySem.W.Frag} {σ : L2.St} {H : Hp} {te : TE} {Q : VK} {a : Addr} {ps : List Addr} {Rs : List (List Int)} {j : Nat} (f : List Int → List Int) (hx : SqL K H a (ps.map V.ref)) (hW : Rws H ps Rs) (hz : ps.length < 1000000)
    (he : ∀ p R H1, R ∈ Rs → H1 p = some (.lst (R.map V.int)) → Ex H H1 → ∀ Q' : VK, (∀ q H2, H1 q = none → Ex H1 H2 → H2 q = some (.lst ((f R).map V.int)) → Q' (.ref q) H2) → te (σ.set j (some (.ref p))) H1 Q')
    (q : ∀ D H' qs, H D = none → Ex H H' → H' D = some (.lst (qs.map V.ref)) → Rws H' qs (Rs.map f) → Q (.ref D) H') : Lc (Itl K a) (gName j) tYes te [j] σ H Q := lc_rowsN f hx hW hz he fun D H' qs h1 h2 h3 h4 _ => q D H' qs h1 h2 h3 h4
theorem Rws.set {H : Hp} {p : Addr} {R : List Int} (hp : H p = some (.lst (R.map V.int))) : ∀ {ps : List Addr} {Rs : List (List Int)} (i : Nat), Rws H ps Rs → Rws H (ps.set i p) (Rs.set i R)
  | [], [], _, _ => trivial
  | _ :: _, _ :: _, 0, h => ⟨hp, h.2⟩
  | _ :: ps, _ :: Rs, i + 1, h => ⟨h.1, Rws.set hp i h.2⟩
end RB
namespace RB
open PySem PySem.Spec PyProof.Rows L2
theorem Rws.notin {H : Hp} {p : Addr} (hp : H p = none) : ∀ {ps : List Addr} {Rs : List (List Int)}, Rws H ps Rs → p ∉ ps
  | [], [], _ => fun h => by cases h
  | r :: ps, R :: Rs, h => fun hm => by
    rcases List.mem_cons.mp hm with e | e
    · have := h.1
      rw [← e, hp] at this
      cases this
    · exact Rws.notin hp h.2 e
end RB
namespace RB
open PySem PySem.Spec PyProof.Rows L2
theorem r_neRows {K : PySem.W.Frag} {H : Hp} {Q : VK} {a b : Addr} {ps qs : List Addr} {Rs Ss : List (List Int)} (h1 : SqL K H a (ps.map V.ref)) (h1' : Rws H ps Rs) (h2 : SqL K H b (qs.map V.ref)) (h2' : Rws H qs Ss) (q : Q (.bl (!decide (Rs = Ss))) H) : rNeD K (.ref a) (.ref b) H Q :=
  ⟨_, _, dp_listR h1 h1', dp_listR h2 h2', shaped_dR Rs, shaped_dR Ss, by rw [eqv_dR]; exact q⟩
end RB
namespace RB
open PySem PySem.Spec PyProof.Rows L2
/-- two pairs of lists of ints, alike -/
theorem r_neT2 {K : PySem.W.Frag} {H : Hp} {Q : VK} {p q a b c d : Addr} {ns ms : List Int} (h1 : SqT K H p [.ref a, .ref b]) (ha : SqL K H a (ns.map V.int)) (hb : SqL K H b (ms.map V.int)) (h2 : SqT K H q [.ref c, .ref d]) (hc : SqL K H c (ns.map V.int)) (hd : SqL K H d (ms.map V.int)) (k : Q (.bl false) H) : rNeD K (.ref p) (.ref q) H Q := by
  have sh : SeqAt.shaped (PyData.tuple [dI ns, dI ms]) = true := by
    have h1 := depth_dI ns
    have h2 := depth_dI ms
    have l1 : PyData.canLay0 (dI ns) = true := by unfold dI; rw [PyData.canLay0, canLay_ints]
    have l2 : PyData.canLay0 (dI ms) = true := by unfold dI; rw [PyData.canLay0, canLay_ints]
    unfold SeqAt.shaped
    rw [Bool.and_eq_true]
    refine ⟨?_, ?_⟩
    · simp [PyData.canLay0, PyData.canLayAll0, l1, l2]
    · refine decide_eq_true ?_
      simp only [PyData.depth, PyData.depthAll]
      omega
  refine ⟨_, _, .tup h1 (.cons (dp_listI ha) (.cons (dp_listI hb) .nil)), .tup h2 (.cons (dp_listI hc) (.cons (dp_listI hd) .nil)), sh, sh, ?_⟩
  have e : PyData.eqv (.tuple [dI ns, dI ms]) (.tuple [dI ns, dI ms]) = true := by
    simp [PyData.eqv, PyData.eqvAll, eqv_dI]
  show Q (.bl (!PyData.eqv (.tuple [dI ns, dI ms]) (.tuple [dI ns, dI ms]))) H
  rw [e]; exact k
end RB

set_option linter.all false
set_option maxRecDepth 100000
/-! A comprehension over enumerate. -/
namespace RB
open PySem PySem.Spec PyProof.Rows L2
open Evl (Ex)
theorem set_swap {α : Type} (l : List α) {i j : Nat} (a b : α) (h : i ≠ j) : (l.set i a).set j b = (l.set j b).set i a := List.set_comm a b h
section
variable {K : PySem.W.Frag} {σ : L2.St} {H : Hp} {te : TE} {Q : VK}
theorem wipe2 {j k : Nat} (u v : Option V) (σ : L2.St) (h : j ≠ k) : wipe (((wipe σ [j, k]).set j u).set k v) [j, k] = wipe σ [j, k] := by
  show ((((((σ.set k none).set j none).set j u).set k v).set k none).set j none) = (σ.set k none).set j none
  rw [set_set (((σ.set k none).set j none).set j u) k v none, set_set (σ.set k none) j none u, set_swap (σ.set k none) u none h, set_set ((σ.set k none).set k none) j u none, set_set σ k none none]
/-- over a list of ints with their places, each giving an int -/
theorem lc_enumI {a : Addr} {ns : List Int} {j k : Nat} (f : Nat → Int → Int) (hjk : j ≠ k) (hx : SqL K H a (ns.map V.int)) (hz : ns.length < 1000000)
    (he : ∀ i x, ns[i]? = some x → ∀ H1, Ex H H1 → ∀ Q' : VK, (∀ H2, Ex H1 H2 → Q' (.int (f i x)) H2) → te (((wipe σ [j, k]).set j (some (.int (i : Int)))).set k (some (.int x))) H1 Q')
    (q : ∀ p H', H p = none → Ex H H' → H' p = some (.lst (((List.range ns.length).map fun i => f i (ML.cf ns i)).map V.int)) → Q (.ref p) H') : Lc (Ite K a) (gTup K 2 (gCons (gName j) (gCons (gName k) gNil))) tYes te [j, k] σ H Q := fun D hD => by
  refine ⟨fun i m H' => m = ns.length - i ∧ i ≤ ns.length ∧ Ex H H' ∧ H' D = some (.lst (((List.range i).map fun i => f i (ML.cf ns i)).map V.int)), ⟨ns.length, by simp, Nat.zero_le _, Evl.Ex.new hD, upd_same⟩, ?_⟩
  rintro i m H1 ⟨rfl, hi, e1, h1⟩
  have hx1 := e1.l hx
  by_cases hlt : i < ns.length
  · have hget : (ns.map V.int)[i]? = some (.int (ML.cf ns i)) := by rw [List.getElem?_map, ML.cf_getElem? hlt]; rfl
    refine .inr ⟨⟨ns.map V.int, _, hx1, hget⟩, fun H' => i + 1 ≤ ns.length ∧ Ex H H' ∧ H' D = some (.lst (((List.range (i + 1)).map fun i => f i (ML.cf ns i)).map V.int)), fun H' p' => ⟨ns.length - (i + 1), by omega, rfl, p'⟩, fun v H' y => ?_⟩
    obtain ⟨T, x, rfl, nT, rfl, y⟩ := y
    have ey := y (ns.map V.int) hx1
    rw [hget] at ey
    cases ey
    have e2 := Evl.Ex.new (o := .tup [.int (i : Int), .int (ML.cf ns i)]) nT
    refine ⟨T, _, rfl, .inl (.inl upd_same), rfl, _, _, rfl, _, [], rfl, rfl, wipe2 _ _ σ hjk, ?_⟩
    refine he i (ML.cf ns i) (ML.cf_getElem? hlt) _ (e1.trans e2) _ fun H2 e3 => ⟨_, e3 D _ (e2 D _ h1), ?_, hlt, Evl.Ex.mut ((e1.trans e2).trans e3) hD, ?_⟩
    · rw [List.length_map, List.length_map, List.length_range]; exact small_lt (by omega)
    · rw [upd_same, List.range_succ, List.map_append, List.map_append]; rfl
  · have e : i = ns.length := by omega
    subst e
    exact .inl ⟨⟨_, hx1, by rw [List.length_map]; exact Nat.le_refl _⟩, q D H1 hD e1 h1⟩
theorem r_cEnumA {a : Addr} {xs : List V} {g : TG} {tt : TT} {vs : List Nat} (h : SqL K H a xs) (q : Lc (Ite K a) g tt te vs σ H Q) : ∃ (a' : Addr) (xs : List V), [V.ref a] = [.ref a'] ∧ SqL K H a' xs ∧ Lc (Ite K a') g tt te vs σ H Q := ⟨a, xs, rfl, h, q⟩
end
end RB

set_option linter.all false
set_option maxRecDepth 100000
set_option maxHeartbeats 4000000
set_option exponentiation.threshold 100000
namespace RP
open PySem PySem.Spec PyProof.Rows L2 RB
open Evl (Ex rLenS rListS rMax2 tCut pss_cut)
local macro_rules | `(tactic| walk_at "ir") => `(tactic| first
  | assumption
  | exact IsR.ex (by assumption) (by walk_at "ir"))
local macro_rules | `(tactic| walk_at "hp") => `(tactic| first
  | assumption
  | exact hx_e (by assumption) (by walk_at "hp")
  | exact hx_b (by assumption) (by walk_at "ne") (by walk_at "hp"))
local macro_rules | `(tactic| walk_at "ne") => `(tactic| first
  | assumption
  | exact Ne.symm (by assumption)
  | exact ne_1 (by assumption) (by walk_at "hp")
  | exact ne_2 (by assumption) (by walk_at "hp"))
local macro_rules | `(tactic| walk_at "sq") => `(tactic| first
  | assumption
  | exact Fx.l (by assumption) (by assumption)
  | exact Evl.Ex.l (by assumption) (by assumption)
  | exact SqL.inj (by walk_at "hp"))
local macro_rules | `(tactic| walk_at "rd") => `(tactic| repeat (first
  | with_reducible refine r_seq ?_
  | with_reducible refine r_asg ?_
  | with_reducible refine r_gn ?_
  | ((with_reducible refine' r_var ?h ?_); (case h => exact rfl))
  | with_reducible refine r_c ?_
  | with_reducible refine r_op ?_
  | with_reducible refine r_un ?_
  | with_reducible refine r_add ?_
  | with_reducible refine r_sub ?_
  | ((with_reducible refine' r_pow ?h ?_); (case h => exact ⟨by decide, by decide, by decide⟩))
  | ((with_reducible refine' r_mod ?h ?_); (case h => first | decide | omega))
  | ((with_reducible refine' r_div ?h ?_); (case h => exact ⟨by decide, by decide⟩))
  | with_reducible refine r_lc ?_
  | ((with_reducible refine' r_cListA ?h ?_); (case h => walk_at "sq"))
  | with_reducible refine r_lt ?_
  | with_reducible refine r_le ?_
  | with_reducible refine r_gt ?_
  | with_reducible refine r_ge ?_
  | with_reducible refine r_eqI ?_
  | with_reducible refine r_neI ?_
  | with_reducible refine r_eqB ?_
  | with_reducible refine r_eqS ?_
  | with_reducible refine r_neg ?_
  | with_reducible refine r_ret ?_
  | with_reducible refine r_ifS ?_
  | with_reducible refine r_test ?_
  | with_reducible refine r_B ?_
  | with_reducible refine r_bl ?_
  | with_reducible refine r_int ?_
  | with_reducible refine r_cb ?_
  | with_reducible refine r_cons ?_
  | with_reducible refine r_nil ?_
  | with_reducible refine r_abs ?_
  | with_reducible refine r_max2 ?_
  | with_reducible refine r_min2 ?_
  | ((with_reducible refine' r_lenI ?h ?_); (case h => walk_at "sq"))
  | ((with_reducible refine' r_len ?h ?_); (case h => walk_at "sq"))
  | with_reducible refine r_tru ?_
  | with_reducible refine r_rev ?_
  | with_reducible refine r_iRng3 ?_
  | ((with_reducible refine' r_ixL ?h ?a ?_); (case h => walk_at "sq"); (case a => assumption))
  | ((with_reducible refine' r_ixT ?h ?a ?_); (case h => walk_at "sq"); (case a => assumption))
  | with_reducible refine r_intI ?_
  | with_reducible refine r_intB ?_
  | with_reducible refine r_call ?_
  | with_reducible refine r_lst ?_
  | with_reducible refine r_tup ?_
  | with_reducible refine r_drop ?_
  | with_reducible refine r_and ?_
  | with_reducible refine r_or ?_
  | with_reducible refine r_not ?_
  | with_reducible refine r_andV ?_
  | with_reducible refine r_orV ?_
  | with_reducible refine r_notV ?_
  | with_reducible refine r_if ?_
  | with_reducible refine r_bm ?_
  | with_reducible refine r_bm0 ?_
  | with_reducible refine r_sub_ ?_
  | with_reducible refine r_sl ?_
  | with_reducible refine r_part ?_
  | with_reducible refine r_nopart ?_
  | with_reducible refine r_par ?_
  | with_reducible refine r_par2 ?_
  | with_reducible refine r_for ?_
  | with_reducible refine r_iList ?_
  | ((with_reducible refine' r_iListA ?h ?_); (case h => walk_at "sq"))
  | with_reducible refine r_iTup ?_
  | ((with_reducible refine' r_iTupA ?h ?_); (case h => walk_at "sq"))
  | with_reducible refine r_iRng1 ?_
  | with_reducible refine r_iRng2 ?_
  | with_reducible refine r_iRev ?_
  | ((with_reducible refine' r_iRevA ?h ?_); (case h => walk_at "sq"))
  | with_reducible refine r_iEnum ?_
  | ((with_reducible refine' r_iEnumA ?h ?_); (case h => walk_at "sq"))
  | with_reducible refine r_iRevR ?_
  | with_reducible refine r_rg1 ?_
  | with_reducible refine r_make ?_
  | with_reducible refine r_fld ?_
  | with_reducible refine r_sfld ?_
  | with_reducible refine r_meth ?_
  | ((with_reducible refine' r_top ?c ?n ?h ?_); (case c => assumption); (case n => assumption); (case h => walk_at "ir"))
  | ((with_reducible refine' r_bottom ?c ?n ?h ?_); (case c => assumption); (case n => assumption); (case h => walk_at "ir"))
  | ((with_reducible refine' r_methR ?h ?h1 ?h2 ?_); (case h => walk_at "ir"); (case h1 => decide +kernel); (case h2 => decide +kernel))
  | with_reducible refine r_next ?_
  | ((with_reducible refine' r_ty ?h ?_); (case h => exact tyL (by walk_at "hp")))
  | with_reducible refine i_t ?_
  | with_reducible refine i_f ?_
  | with_reducible refine i_nt ?_
  | with_reducible refine i_nf ?_
  | walk_at "call"))
/-! #### shared -/
--USE MG
def sp_shared (K : PySem.W.Frag) (Cof : String → Addr) : Sp := fun vs H Q _ => ∃ (a : Addr) (ns : List Int), vs = [.ref a] ∧ SqL K H a (ns.map V.int) ∧ Q (.int (MG.gcdL ns)) H
def t_shared (K : PySem.W.Frag) (Cof : String → Addr) (E : XK) : TS :=
  tSeq (tAsg (tC (.int 0)) (gName 1))
  (tSeq (tFor (iList K (tVar 0)) (gName 2) (tWhile (tTest (tOp rNe (tVar 2) (tC (.int 0)))) (tSeq (tAsg (tOp rMod (tVar 1) (tVar 2)) (gName 3))
  (tSeq (tAsg (tVar 2) (gName 1))
  (tAsg (tVar 3) (gName 2))))))
  (tRet (tCB rAbs (tCons (tVar 1) (tNil)))))

section
variable {K : PySem.W.Frag} {Cof : String → Addr} {vs : List V} {H : Hp} {Q : VK} {E : XK}
theorem len_shared (h : sp_shared K Cof vs H Q E) : vs.length = 1 := by
  obtain ⟨a, ns, rfl, _⟩ := h; rfl
theorem rd_shared (h : sp_shared K Cof vs H Q E) : t_shared K Cof E { nx := fun _ H' => Q .non H', rt := Q } (start ["row", "found", "one", "rest"] vs) H := by
  obtain ⟨a, ns, rfl, hS, q⟩ := h
  unfold t_shared
  walk_at "rd"
  refine loop_ints (ns := ns) (fun i σ' H' => ∃ (f : Int) (u r : Option V), σ' = [some (.ref a), some (.int f), u, r] ∧ H' = H ∧ f.natAbs = MG.gcdN (ns.take i)) ⟨0, none, none, rfl, rfl, rfl⟩ (fun i σ' H' _ hp => ?_) (fun i x σ' H' hx hp => ?_) (fun σ' H' hp => ?_)
  · obtain ⟨f, u, r, rfl, rfl, _⟩ := hp; exact hS
  · obtain ⟨f, u, r, rfl, rfl, hf⟩ := hp
    refine r_while (fun m σ2 H2 => ∃ (f o : Int) (r : Option V), σ2 = [some (.ref a), some (.int f), some (.int o), r] ∧ H2 = H' ∧ m = o.natAbs ∧ Int.gcd f o = MG.gcdN (ns.take (i + 1))) x.natAbs ⟨f, x, r, rfl, rfl, rfl, ?_⟩ (fun m σ2 H2 hw => ?_)
    · rw [MG.gcdN_take hx, ← hf]; rfl
    · obtain ⟨f, o, r, rfl, rfl, rfl, hg⟩ := hw
      walk_at "rd"
      refine ite_nd (fun h => wh_in ?_) (fun h => ?_)
      · walk_at "rd"
        exact ⟨_, MG.fmod_lt h, o, f.fmod o, _, rfl, rfl, rfl, by rw [MG.gcd_fmod]; exact hg⟩
      · refine ⟨f, _, _, rfl, rfl, ?_⟩
        rw [← hg, h, Int.gcd_zero_right]
  · obtain ⟨f, u, r, rfl, rfl, hf⟩ := hp
    walk_at "rd"
    rw [List.take_length] at hf
    have e : (if f < 0 then -f else f) = MG.gcdL ns := by
      unfold MG.gcdL
      rw [← hf]
      split <;> omega
    rw [e]
    exact q
end
theorem c_shared {K : PySem.W.Frag} {Cof : String → Addr} {H : Hp} {Q : VK} {E : XK} {a : Addr} {ns : List Int} (h : SqL K H a (ns.map V.int)) (q : Q (.int (MG.gcdL ns)) H) : sp_shared K Cof [.ref a] H Q E := ⟨a, ns, rfl, h, q⟩
local macro_rules | `(tactic| walk_at "call") => `(tactic| ((with_reducible refine' c_shared ?h ?_); (case h => walk_at "sq")))

/-! #### poly -/
--USE ML
def sp_poly (K : PySem.W.Frag) (Cof : String → Addr) : Sp := fun vs H Q _ => ∃ (a : Addr) (ns : List Int), vs = [.ref a] ∧ SqL K H a (ns.map V.int) ∧ ns.length ≤ 1000000 ∧ RetI (ML.trimL ns) H Q
def t_poly (K : PySem.W.Frag) (Cof : String → Addr) (E : XK) : TS :=
  tSeq (tAsg (tCB (rLenS K) (tCons (tVar 0) (tNil))) (gName 1))
  (tSeq (tWhile (tAnd (tTest (tOp rGt (tVar 1) (tC (.int 0)))) (tTest (tOp rEq (tOp (rIxL K) (tVar 0) (tOp rISub (tVar 1) (tC (.int 1)))) (tC (.int 0))))) (tAsg (tOp rISub (tVar 1) (tC (.int 1))) (gName 1)))
  (tRet (tSl (rSlL K) (tVar 0) (tNoPart) (tPart (tVar 1)))))

section
variable {K : PySem.W.Frag} {Cof : String → Addr} {vs : List V} {H : Hp} {Q : VK} {E : XK}
theorem len_poly (h : sp_poly K Cof vs H Q E) : vs.length = 1 := by
  obtain ⟨a, ns, rfl, _⟩ := h; rfl
theorem rd_poly (h : sp_poly K Cof vs H Q E) : t_poly K Cof E { nx := fun _ H' => Q .non H', rt := Q } (start ["row", "size"] vs) H := by
  obtain ⟨a, ns, rfl, hS, hl, q⟩ := h
  unfold t_poly
  walk_at "rd"
  try rw [List.length_map]
  refine r_while (fun m σ' H' => σ' = [some (.ref a), some (.int (m : Int))] ∧ H' = H ∧ m ≤ ns.length ∧ ∀ k, m ≤ k → ML.cf ns k = 0) ns.length ⟨rfl, rfl, Nat.le_refl _, fun k hk => ML.cf_beyond hk⟩ (fun m σ' H' hw => ?_)
  obtain ⟨rfl, rfl, hm, h0⟩ := hw
  walk_at "rd"
  refine ite_d (fun hp => ?_) (fun hp => ?_)
  · walk_at "rd"
    refine r_ixI hS (by omega) (by omega) ?_
    walk_at "rd"
    have e : ns.getD ((m : Int) - 1).toNat 0 = ML.cf ns (m - 1) := by
      unfold ML.cf; congr 1; omega
    rw [e]
    refine ite_d (fun hz => wh_in ?_) (fun hz => ?_)
    · walk_at "rd"
      have e1 : (m : Int) - 1 = ((m - 1 : Nat) : Int) := by omega
      exact ⟨m - 1, by omega, by rw [e1]; rfl, rfl, by omega, fun k hk => by
        by_cases hk' : k = m - 1
        · rw [hk', hz]
        · exact h0 k (by omega)⟩
    · walk_at "rd"
      refine r_slI hS fun p H' hp e h => q p H' hp e ?_
      rw [ML.trimL_take hm h0 (.inr hz), ← sliceI_to hm]
      exact h
  · walk_at "rd"
    refine r_slI hS fun p H' hp e h => q p H' hp e ?_
    rw [ML.trimL_take hm h0 (.inl (by omega)), ← sliceI_to hm]
    exact h
theorem c_poly {a : Addr} {ns : List Int} (h : SqL K H a (ns.map V.int)) (hl : ns.length ≤ 1000000) (q : ∀ p H', H p = none → Ex H H' → H' p = some (.lst ((ML.trimL ns).map V.int)) → Q (.ref p) H') : sp_poly K Cof [.ref a] H Q E := ⟨a, ns, rfl, h, hl, q⟩
end

/-! #### degree -/
def sp_degree (K : PySem.W.Frag) (Cof : String → Addr) : Sp := fun vs H Q _ => ∃ (a : Addr) (ns : List Int), vs = [.ref a] ∧ SqL K H a (ns.map V.int) ∧ Q (.int ((ns.length : Int) - 1)) H
def t_degree (K : PySem.W.Frag) (Cof : String → Addr) (E : XK) : TS :=
  tRet (tOp rISub (tCB (rLenS K) (tCons (tVar 0) (tNil))) (tC (.int 1)))

section
variable {K : PySem.W.Frag} {Cof : String → Addr} {vs : List V} {H : Hp} {Q : VK} {E : XK}
theorem len_degree (h : sp_degree K Cof vs H Q E) : vs.length = 1 := by
  obtain ⟨a, ns, rfl, _⟩ := h; rfl
theorem rd_degree (h : sp_degree K Cof vs H Q E) : t_degree K Cof E { nx := fun _ H' => Q .non H', rt := Q } (start ["P"] vs) H := by
  obtain ⟨a, ns, rfl, hS, q⟩ := h
  unfold t_degree
  walk_at "rd"
  try rw [List.length_map]
  exact q
theorem c_degree {a : Addr} {ns : List Int} (h : SqL K H a (ns.map V.int)) (q : Q (.int ((ns.length : Int) - 1)) H) : sp_degree K Cof [.ref a] H Q E := ⟨a, ns, rfl, h, q⟩
end
local macro_rules | `(tactic| walk_at "call") => `(tactic| ((with_reducible refine' c_degree ?h ?_); (case h => walk_at "sq")))

/-! #### slope -/
--USE ML
def sp_slope (K : PySem.W.Frag) (Cof : String → Addr) : Sp := fun vs H Q _ => ∃ (a : Addr) (P : List Int) (n : Nat), vs = [.ref a] ∧ SqL K H a (P.map V.int) ∧ P.length ≤ 100000 ∧ ML.Sz n P ∧ (0 < n ∧ n ≤ 100000) ∧ RetI (ML.slopeL P) H Q
def t_slope (K : PySem.W.Frag) (Cof : String → Addr) (E : XK) : TS :=
  tRet (tLc (iRng2 (tCons (tC (.int 1)) (tCons (tCB (rLenS K) (tCons (tVar 0) (tNil))) (tNil)))) (gName 1) (tYes) (tOp rMul (tVar 1) (tOp (rIxL K) (tVar 0) (tVar 1))) [1])

section
variable {K : PySem.W.Frag} {Cof : String → Addr} {vs : List V} {H : Hp} {Q : VK} {E : XK}
theorem len_slope (h : sp_slope K Cof vs H Q E) : vs.length = 1 := by
  obtain ⟨a, P, n, rfl, _⟩ := h; rfl
theorem rd_slope (h : sp_slope K Cof vs H Q E) : t_slope K Cof E { nx := fun _ H' => Q .non H', rt := Q } (start ["P", "k"] vs) H := by
  obtain ⟨a, P, n, rfl, hS, hl, sz, ⟨n0, n1⟩, q⟩ := h
  unfold t_slope
  have f0 := Fx.refl H
  walk_at "rd"
  refine r_cRng2A (by omega) ?_
  refine lc_rangeL (lo := 1) (fun (k : Nat) => ((k : Int) + 1) * ML.cf P (k + 1)) (by omega) (fun i hi H1 e1 Q' k' => ?_) (fun p H1 hp e1 h1 => q p H1 hp e1 ?_)
  · have e : (1 : Int) + (i : Int) = ((i + 1 : Nat) : Int) := by omega
    walk_at "rd"
    rw [e]
    refine r_ixI (e1.l hS) (by omega) (by omega) ?_
    rw [Int.toNat_natCast]
    refine r_mul (wide_mul (a := 18) (by omega) (sz.cf (i + 1)) (by decide) n0 (by omega)) ?_
    exact k' _ (Evl.Ex.refl _)
  · have e : ((P.length : Int) - 1).toNat = P.length - 1 := by omega
    rw [e] at h1
    exact h1
theorem c_slope {a : Addr} {P : List Int} (n : Nat) (h : SqL K H a (P.map V.int)) (hl : P.length ≤ 100000) (sz : ML.Sz n P) (hn : 0 < n ∧ n ≤ 100000) (q : ∀ p H', H p = none → Ex H H' → H' p = some (.lst ((ML.slopeL P).map V.int)) → Q (.ref p) H') : sp_slope K Cof [.ref a] H Q E := ⟨a, P, n, rfl, h, hl, sz, hn, q⟩
end

/-! #### shrunk -/
--USE CR
def sp_shrunk (K : PySem.W.Frag) (Cof : String → Addr) : Sp := fun vs H Q _ => ∃ (a : Addr) (P : List Int), vs = [.ref a] ∧ SqL K H a (P.map V.int) ∧ P.length ≤ 100000 ∧ (P ≠ [] → MS.ShrX P) ∧ RetI (MP.shrunkL P) H Q
def t_shrunk (K : PySem.W.Frag) (Cof : String → Addr) (E : XK) : TS :=
  tSeq (tAsg (tCall (sp_shared K Cof) [] E0 (tCons (tVar 0) (tNil))) (gName 1))
  (tRet (tLc (iList K (tVar 0)) (gName 2) (tYes) (tOp rDiv (tVar 2) (tVar 1)) [2]))

section
variable {K : PySem.W.Frag} {Cof : String → Addr} {vs : List V} {H : Hp} {Q : VK} {E : XK}
theorem len_shrunk (h : sp_shrunk K Cof vs H Q E) : vs.length = 1 := by
  obtain ⟨a, P, rfl, _⟩ := h; rfl
theorem rd_shrunk (h : sp_shrunk K Cof vs H Q E) : t_shrunk K Cof E { nx := fun _ H' => Q .non H', rt := Q } (start ["P", "part", "one"] vs) H := by
  obtain ⟨a, P, rfl, hS, hl, hg, q⟩ := h
  unfold t_shrunk
  walk_at "rd"
  refine lc_ints (fun x => x.fdiv (MG.gcdL P)) hS (by omega) (fun x hx H1 e1 Q' k' => ?_) (fun p H1 hp e1 h1 => q p H1 hp e1 h1)
  have hn : P ≠ [] := fun e => by rw [e] at hx; cases hx
  walk_at "rd"
  refine r_divX ((hg hn).div hx) ?_
  exact k' _ (Evl.Ex.refl _)
theorem c_shrunk {a : Addr} {P : List Int} (h : SqL K H a (P.map V.int)) (hl : P.length ≤ 100000) (hg : P ≠ [] → MS.ShrX P) (q : ∀ p H', H p = none → Ex H H' → H' p = some (.lst ((MP.shrunkL P).map V.int)) → Q (.ref p) H') : sp_shrunk K Cof [.ref a] H Q E := ⟨a, P, rfl, h, hl, hg, q⟩
end
/-- what shrunk asks of a polynomial of coefficients below 2 ^ n -/
theorem shr_ok {P : List Int} {n : Nat} (hn : 0 < n) (h9 : n ≤ 9000) (hs : ML.Sz n P) (h : ML.Trim P) (h0 : P ≠ []) : MS.ShrX P := by
  have h1 := MP.gcdL_trim_pos h h0
  have h2 := MP.gcdL_log hn hs h h0
  exact ⟨by omega, .inl (Nat.lt_of_lt_of_le (PySem.Flt.log2_lt_of hn h2) h9)⟩

/-! #### divided -/
--USE MD
/-- what a division tells: a new tuple of the factor and two new lists -/
def RetDiv (f : Int) (qu re : List Int) (H : Hp) (Q : VK) : Prop := ∀ (t pq pr : Addr) (H' : Hp), H t = none → H pq = none → H pr = none → pq ≠ pr → Ex H H' → H' t = some (.tup [.int f, .ref pq, .ref pr]) → H' pq = some (.lst (qu.map V.int)) → H' pr = some (.lst (re.map V.int)) → Q (.ref t) H'
/-- sizes that a division can take -/
def DivSz (P R : List Int) (n m : Nat) : Prop := ML.Sz n P ∧ ML.Sz m R ∧ P.length ≤ 100000 ∧ R.length ≤ 100000 ∧ 0 < n ∧ 0 < m ∧ m ≤ 9000 ∧ n + (2 * m + 1) * (P.length + 1) ≤ 900000
def sp_divided (K : PySem.W.Frag) (Cof : String → Addr) : Sp := fun vs H Q E => ∃ (a b : Addr) (P R : List Int) (n m : Nat), vs = [.ref a, .ref b] ∧ SqL K H a (P.map V.int) ∧ SqL K H b (R.map V.int) ∧ R ≠ [] ∧ ML.Trim R ∧ DivSz P R n m ∧ RetDiv (MD.facL P R) (MD.quoL P R) (MD.remL P R) H Q
def t_divided (K : PySem.W.Frag) (Cof : String → Addr) (E : XK) : TS :=
  tSeq (tIfS (tTest (tOp (rEqD K) (tVar 1) (tLst (tNil)))) (tNever) (tNext))
  (tSeq (tAsg (tOp rISub (tCall (sp_degree K Cof) [] E0 (tCons (tVar 0) (tNil))) (tCall (sp_degree K Cof) [] E0 (tCons (tVar 1) (tNil)))) (gName 2))
  (tSeq (tIfS (tTest (tOp rLt (tVar 2) (tC (.int 0)))) (tRet (tTup (tCons (tC (.int 1)) (tCons (tLst (tNil)) (tCons (tCB (rListS K) (tCons (tVar 0) (tNil))) (tNil)))))) (tNext))
  (tSeq (tAsg (tC (.int 1)) (gName 3))
  (tSeq (tFor (iRng1 (tCons (tOp rIAdd (tVar 2) (tC (.int 1))) (tNil))) (gName 4) (tAsg (tOp rMul (tVar 3) (tCB rAbs (tCons (tOp (rIxL K) (tVar 1) (tUn rNeg (tC (.int 1)))) (tNil)))) (gName 3)))
  (tSeq (tAsg (tLc (iList K (tVar 0)) (gName 6) (tYes) (tOp rMul (tVar 6) (tVar 3)) [6]) (gName 5))
  (tSeq (tAsg (tLc (iRng1 (tCons (tOp rIAdd (tVar 2) (tC (.int 1))) (tNil))) (gName 4) (tYes) (tC (.int 0)) [4]) (gName 7))
  (tSeq (tFor (iRevR (tRg1 (tOp rIAdd (tVar 2) (tC (.int 1))))) (gName 4) (tSeq (tAsg (tOp rDiv (tOp (rIxL K) (tVar 5) (tOp rIAdd (tVar 4) (tCall (sp_degree K Cof) [] E0 (tCons (tVar 1) (tNil))))) (tOp (rIxL K) (tVar 1) (tUn rNeg (tC (.int 1))))) (gName 8))
  (tSeq (tAsg (tVar 8) (gSub (tVar 7) (tVar 4) rSetL))
  (tFor (iEnum K (tCons (tVar 1) (tNil))) (gTup K 2 (gCons (gName 9) (gCons (gName 6) (gNil)))) (tAsg (tOp rISub (tOp (rIxL K) (tVar 5) (tOp rIAdd (tVar 4) (tVar 9))) (tOp rMul (tVar 8) (tVar 6))) (gSub (tVar 5) (tOp rIAdd (tVar 4) (tVar 9)) rSetL))))))
  (tRet (tTup (tCons (tVar 3) (tCons (tCall (sp_poly K Cof) [] E0 (tCons (tVar 7) (tNil))) (tCons (tCall (sp_poly K Cof) [] E0 (tCons (tVar 5) (tNil))) (tNil)))))))))))))

section
variable {K : PySem.W.Frag} {Cof : String → Addr} {vs : List V} {H : Hp} {Q : VK} {E : XK}
theorem len_divided (h : sp_divided K Cof vs H Q E) : vs.length = 2 := by
  obtain ⟨a, b, P, R, n, m, rfl, _⟩ := h; rfl
theorem rd_divided (h : sp_divided K Cof vs H Q E) : t_divided K Cof E { nx := fun _ H' => Q .non H', rt := Q } (start ["P", "Q", "gap", "factor", "k", "rest", "one", "quotient", "many", "place"] vs) H := by
  obtain ⟨a, b, P, R, n, m, rfl, hA, hB, hne, hT, ⟨sA, sB, lA, lB, n0, m0, m9, hbud⟩, q⟩ := h
  unfold t_divided
  walk_at "rd"
  refine r_lstK fun p0 H0 hp0 e0 h0 => ?_
  have f0 := Fx.of e0
  walk_at "rd"
  refine r_eqInts (ns := R) (ms := []) (f0.l hB) (SqL.inj h0) ?_
  walk_at "rd"
  refine ite_d (fun h => absurd h hne) (fun _ => ?_)
  -- the degrees
  walk_at "rd"
  refine ite_d (fun hlt => ?_) (fun hge => ?_)
  · walk_at "rd"
    refine r_lstK fun p1 H1 hp1 e1 h1 => ?_
    have f1 := f0.ex e1
    walk_at "rd"
    refine r_list (f1.l hA) fun p2 H2 hp2 e2 h2 => ?_
    have f2 := f1.ex e2
    walk_at "rd"
    refine r_tupK fun p3 H3 hp3 e3 h3 => ?_
    have hl : P.length < R.length := by omega
    have ef : MD.facL P R = 1 := by unfold MD.facL; rw [if_pos hl]
    have eq' : MD.quoL P R = [] := by unfold MD.quoL; rw [if_pos hl]
    have er : MD.remL P R = P := by unfold MD.remL; rw [if_pos hl]
    exact q p3 p1 p2 H3 (f2.free hp3) (f0.free hp1) (f1.free hp2) (by walk_at "ne") (f2.ex e3).to (by rw [ef]; exact h3) (by rw [eq']; walk_at "hp") (by rw [er]; walk_at "hp")
  have hl : ¬ P.length < R.length := by omega
  have hR := MD.len_pos hne
  have hlc := MD.lc_ne hT hne
  obtain ⟨g, hg⟩ : ∃ g : Nat, g = P.length - R.length := ⟨_, rfl⟩
  have eg : (P.length : Int) - 1 - ((R.length : Int) - 1) = (g : Int) := by omega
  have eg1 : (g : Int) + 1 = ((g + 1 : Nat) : Int) := by omega
  have bl : (2 * m + 1) * (P.length + 1) = 2 * (m * (P.length + 1)) + (P.length + 1) := by rw [Nat.add_mul, Nat.mul_assoc]; omega
  have bm : m * (g + 1) ≤ m * (P.length + 1) := Nat.mul_le_mul_left m (by omega)
  -- the factor
  walk_at "rd"
  rw [eg, eg1]
  refine r_iRng1A (by omega) (by omega) ?_
  rw [Int.toNat_natCast]
  refine loop_range0 (fun k σ' H' => ∃ u, σ' = [some (.ref a), some (.ref b), some (.int (g : Int)), some (.int (((MD.lc R).natAbs : Int) ^ k)), u, none, none, none, none, none] ∧ H' = H0) ⟨none, by rw [Int.pow_zero]; rfl, rfl⟩ (fun k σ' H' hk hp' => ?_) (fun σ' H' hp' => ?_)
  · obtain ⟨u, rfl, rfl⟩ := hp'
    walk_at "rd"
    refine r_ixLast (f0.l hB) hne ?_
    walk_at "rd"
    have ea : (if R.getD (R.length - 1) 0 < 0 then -R.getD (R.length - 1) 0 else R.getD (R.length - 1) 0) = ((MD.lc R).natAbs : Int) := by
      show (if MD.lc R < 0 then -MD.lc R else MD.lc R) = _
      split <;> omega
    rw [ea]
    have hb := sB.cf (R.length - 1)
    have hk1 : m * k ≤ m * (g + 1) := Nat.mul_le_mul_left m (by omega)
    have hpow : (((MD.lc R).natAbs : Int) ^ k).natAbs < 2 ^ (m * k + 1) := by
      rw [← Int.natCast_pow, Int.natAbs_natCast]
      refine Nat.lt_of_le_of_lt (Nat.pow_le_pow_left (Nat.le_of_lt hb) _) ?_
      rw [← Nat.pow_mul]
      exact Nat.pow_lt_pow_right (by decide) (by omega)
    refine r_mul (wide_mul hpow (b := m) (by rw [Int.natAbs_natCast]; exact hb) (by omega) m0 (by omega)) ?_
    walk_at "rd"
    exact ⟨_, by rw [Int.pow_succ]; rfl, rfl⟩
  obtain ⟨u, rfl, rfl⟩ := hp'
  have ef : ((MD.lc R).natAbs : Int) ^ (g + 1) = MD.facL P R := by unfold MD.facL; rw [if_neg hl, hg]
  rw [ef]
  have hfs := MD.facL_lt (P := P) (Q := R) sB
  rw [← hg] at hfs
  -- the rest
  have hA0 := f0.l hA
  walk_at "rd"
  refine lc_ints (fun x => x * MD.facL P R) hA0 (by omega) (fun x hx H4 e4 Q' k' => ?_) fun p5 H5 hp5 e5 h5 => ?_
  · walk_at "rd"
    refine r_mul (wide_mul (sA x hx) hfs n0 (by omega) (by omega)) ?_
    exact k' _ (Evl.Ex.refl _)
  have f5 := f0.ex e5
  walk_at "rd"
  rw [eg1]
  refine r_cRng1A (by omega) (by omega) ?_
  rw [Int.toNat_natCast]
  refine lc_rangeI (fun _ => 0) (by omega) (fun i hi H4 e4 Q' k' => ?_) fun p6 H6 hp6 e6 h6 => ?_
  · walk_at "rd"
    exact k' _ (Evl.Ex.refl _)
  have f6 := f5.ex e6
  have e0 : (List.range (g + 1)).map (fun _ => (0 : Int)) = List.replicate (g + 1) 0 := by
    rw [List.map_const', List.length_range]
  rw [e0] at h6
  have h5' : H6 p5 = some (.lst ((P.map fun x => x * MD.facL P R).map V.int)) := by walk_at "hp"
  have n56 : p5 ≠ p6 := by walk_at "ne"
  have z5 : H p5 = none := f0.free hp5
  have z6 : H p6 = none := f5.free hp6
  have st := MD.dstart (P := P) hT hne hl
  rw [← hg] at st
  have s0 : ML.Sz (n + (m * (g + 1) + 1)) (P.map fun x => x * MD.facL P R) := fun x hx => by
    obtain ⟨y, hy, rfl⟩ := List.mem_map.mp hx
    exact wide_lt (sA y hy) hfs
  clear hp5 hp6 h5 e5 e6
  walk_at "rd"
  rw [eg1]
  refine r_revRA (by omega) (by omega) ?_
  rw [Int.toNat_natCast]
  refine loop_down (fun k σ' H' => ∃ (qs rs : List Int) (u1 u2 u3 u4 : Option V), σ' = [some (.ref a), some (.ref b), some (.int (g : Int)), some (.int (MD.facL P R)), u1, some (.ref p5), u2, some (.ref p6), u3, u4] ∧ Fx H H' ∧ H' p6 = some (.lst (qs.map V.int)) ∧ H' p5 = some (.lst (rs.map V.int)) ∧
      MD.Inv R (fun j => ML.cf P j * MD.facL P R) P.length (g + 1) k (qs, rs) ∧ MD.dloop R k (qs, rs) = MD.dloop R (g + 1) (List.replicate (g + 1) 0, P.map fun x => x * MD.facL P R) ∧ ML.Sz (n + (m * (g + 1) + 1) + (g + 1 - k) * (m + 1)) rs)
    ⟨_, _, _, _, _, _, rfl, f6, h6, h5', st, rfl, s0.mono (by omega)⟩ (fun k σ' H' hk hp' => ?_) (fun σ' H' hp' => ?_)
  · obtain ⟨qs, rs, u1, u2, u3, u4, rfl, f7, h7, h8, I, hd, sz⟩ := hp'
    have lr := I.lr
    have lq := I.lq
    dsimp only at lr lq
    walk_at "rd"
    have ek : (k : Int) + ((R.length : Int) - 1) = ((k + (R.length - 1) : Nat) : Int) := by omega
    rw [ek]
    refine r_ixI (SqL.inj h8) (by omega) (by omega) ?_
    rw [Int.toNat_natCast]
    walk_at "rd"
    refine r_ixLast (f7.l hB) hne ?_
    refine r_div ⟨hlc, Nat.lt_of_lt_of_le (PySem.Flt.log2_lt_of m0 (sB.cf _)) m9⟩ ?_
    have hmany := MD.many_lt hlc I.dv sz (k + (R.length - 1))
    have hstep := I.step hlc hR (by omega) (by omega)
    have hds : MD.dloop R (k + 1) (qs, rs) = MD.dloop R k (qs.set k ((ML.cf rs (k + (R.length - 1))).fdiv (MD.lc R)), MD.subShift rs R k ((ML.cf rs (k + (R.length - 1))).fdiv (MD.lc R))) := rfl
    rw [hds] at hd
    show _
    have em : (rs.getD (k + (R.length - 1)) 0).fdiv (R.getD (R.length - 1) 0) = (ML.cf rs (k + (R.length - 1))).fdiv (MD.lc R) := rfl
    rw [em]
    generalize (ML.cf rs (k + (R.length - 1))).fdiv (MD.lc R) = many at hmany hstep hd ⊢
    walk_at "rd"
    refine r_setL h7 (Evl.ixN_nat (by rw [List.length_map]; omega)) fun H9 b9 h9 => ?_
    have f9 := f7.mut b9 z6
    have h8' : H9 p5 = some (.lst (rs.map V.int)) := by walk_at "hp"
    have hbk : (g + 1 - (k + 1)) * (m + 1) + (m + 1) = (g + 1 - k) * (m + 1) := by
      have : g + 1 - k = (g + 1 - (k + 1)) + 1 := by omega
      rw [this, Nat.add_mul _ 1]; omega
    have hbb : (g + 1 - k) * (m + 1) ≤ (g + 1) * (m + 1) := Nat.mul_le_mul_right _ (by omega)
    have hbe : (g + 1) * (m + 1) = m * (g + 1) + (g + 1) := by rw [Nat.mul_add, Nat.mul_comm]; omega
    have snew := MD.Sz.sub (k := k) sz sB hmany
    walk_at "rd"
    refine loop_enum (xs := R.map V.int) (fun j σ2 H2 => ∃ (rs2 : List Int) (u2 u4 : Option V), σ2 = [some (.ref a), some (.ref b), some (.int (g : Int)), some (.int (MD.facL P R)), some (.int (k : Int)), some (.ref p5), u2, some (.ref p6), some (.int many), u4] ∧ Fx H H2 ∧ H2 p6 = some (.lst ((qs.set k many).map V.int)) ∧ H2 p5 = some (.lst (rs2.map V.int)) ∧ rs2.length = P.length ∧
        ∀ t, ML.cf rs2 t = if k ≤ t ∧ t - k < j then ML.cf rs t - many * ML.cf R (t - k) else ML.cf rs t)
      ⟨rs, _, _, rfl, f9, by rw [List.map_set]; exact h9, h8', lr, fun t => by rw [if_neg (by omega)]⟩ (fun i σ2 H2 _ hp2 => ?_) (fun j x σ2 H2 H2' hx hp2 e2 => ?_) (fun σ2 H2 hp2 => ?_)
    · obtain ⟨rs2, u2, u4, rfl, f10, _⟩ := hp2
      exact f10.l hB
    · obtain ⟨rs2, u2, u4, rfl, f10, h10, h11, l11, c11⟩ := hp2
      have f10' := f10.ex e2
      obtain ⟨hj, ej⟩ := List.getElem?_eq_some_iff.mp hx
      rw [List.length_map] at hj
      have ex : x = .int (ML.cf R j) := by
        rw [← ej, List.getElem_map, ML.cf_get hj]
      subst ex
      have ekj : (k : Int) + (j : Int) = ((k + j : Nat) : Int) := by omega
      walk_at "rd"
      rw [ekj]
      refine r_ixI (ns := rs2) (by walk_at "sq") (by omega) (by omega) ?_
      rw [Int.toNat_natCast]
      walk_at "rd"
      refine r_mul (wide_mul hmany (sB.cf j) (by omega) m0 (by omega)) ?_
      walk_at "rd"
      rw [ekj]
      refine r_setL (p := p5) (xs := rs2.map V.int) (by walk_at "hp") (Evl.ixN_nat (by rw [List.length_map]; omega)) fun H12 b12 h12 => ?_
      refine ⟨rs2.set (k + j) (ML.cf rs2 (k + j) - many * ML.cf R j), _, _, rfl, f10'.mut b12 z5, by walk_at "hp", by rw [List.map_set]; exact h12, by rw [List.length_set]; exact l11, fun t => ?_⟩
      rw [ML.cf_set (by omega), c11 (k + j), c11 t]
      by_cases ht : t = k + j
      · subst ht
        rw [if_pos (rfl : k + j = k + j), if_neg (by omega), if_pos (by omega), Nat.add_sub_cancel_left]
      · rw [if_neg ht]
        by_cases h3 : k ≤ t ∧ t - k < j
        · rw [if_pos h3, if_pos (by omega)]
        · rw [if_neg h3, if_neg (by omega)]
    · obtain ⟨rs2, u2, u4, rfl, f10, h10, h11, l11, c11⟩ := hp2
      have er : rs2 = MD.subShift rs R k many := ML.ext (by rw [MD.subShift_len, l11, lr]) fun t ht => by
        rw [c11, List.length_map]
        unfold MD.subShift
        rw [ML.cf_range (by omega)]
      subst er
      exact ⟨qs.set k many, _, _, _, _, _, rfl, f10, h10, h11, hstep, hd, snew.mono (by omega)⟩
  obtain ⟨qs, rs, u1, u2, u3, u4, rfl, f7, h7, h8, I, hd, sz⟩ := hp'
  have lr := I.lr
  have lq := I.lq
  dsimp only at lr lq
  have hd' : (qs, rs) = MD.dloop R (g + 1) (List.replicate (g + 1) 0, P.map fun x => x * MD.facL P R) := hd
  have e1 : ML.trimL qs = MD.quoL P R := by
    unfold MD.quoL
    rw [if_neg hl, ← hg, ← hd']
  have e2 : ML.trimL rs = MD.remL P R := by
    unfold MD.remL
    rw [if_neg hl, ← hg, ← hd']
  walk_at "rd"
  refine c_poly (SqL.inj h7) (by omega) fun p10 H10 hp10 e10 h10 => ?_
  have f10 := f7.ex e10
  walk_at "rd"
  refine c_poly (ns := rs) (by walk_at "sq") (by omega) fun p11 H11 hp11 e11 h11 => ?_
  have f11 := f10.ex e11
  walk_at "rd"
  refine r_tupK fun p12 H12 hp12 e12 h12 => ?_
  exact q p12 p10 p11 H12 (f11.free hp12) (f7.free hp10) (f10.free hp11) (by walk_at "ne") (f11.ex e12).to h12 (by rw [← e1]; walk_at "hp") (by rw [← e2]; walk_at "hp")
theorem c_divided {a b : Addr} {P R : List Int} (n m : Nat) (hA : SqL K H a (P.map V.int)) (hB : SqL K H b (R.map V.int)) (hne : R ≠ []) (hT : ML.Trim R) (hs : DivSz P R n m) (q : RetDiv (MD.facL P R) (MD.quoL P R) (MD.remL P R) H Q) : sp_divided K Cof [.ref a, .ref b] H Q E := ⟨a, b, P, R, n, m, rfl, hA, hB, hne, hT, hs, q⟩
end

/-! #### row_of -/
--USE CR RN
def sp_row_of (K : PySem.W.Frag) (Cof : String → Addr) : Sp := fun vs H Q _ => ∃ (a : Addr) (P : List Int) (n f : Nat), vs = [.ref a] ∧ SqL K H a (P.map V.int) ∧ P.length ≤ 100000 ∧ f ≤ 100000 ∧ ML.Sz n P ∧ (0 < n ∧ n ≤ 8900) ∧ ML.Trim P ∧ (P ≠ [] → MS.RowOk2 f (MP.shrunkL P) (MP.shrunkL (ML.slopeL P))) ∧ RetRow (MS.rowL f P) H Q
def t_row_of (K : PySem.W.Frag) (Cof : String → Addr) (E : XK) : TS :=
  tSeq (tIfS (tTest (tOp (rEqD K) (tVar 0) (tLst (tNil)))) (tRet (tLst (tNil))) (tNext))
  (tSeq (tAsg (tLst (tCons (tCall (sp_shrunk K Cof) [] E0 (tCons (tVar 0) (tNil))) (tNil))) (gName 1))
  (tSeq (tAsg (tCall (sp_shrunk K Cof) [] E0 (tCons (tCall (sp_slope K Cof) [] E0 (tCons (tVar 0) (tNil))) (tNil))) (gName 2))
  (tSeq (tWhile (tTest (tOp (rNeD K) (tVar 2) (tLst (tNil)))) (tSeq (tDrop (tBM K "list" rAppend (tVar 1) (tCons (tVar 2) (tNil))))
  (tSeq (tAsg (tOp (rIxT K) (tCall (sp_divided K Cof) [] E0 (tCons (tOp (rIxL K) (tVar 1) (tUn rNeg (tC (.int 2)))) (tCons (tOp (rIxL K) (tVar 1) (tUn rNeg (tC (.int 1)))) (tNil)))) (tC (.int 2))) (gName 3))
  (tAsg (tCall (sp_shrunk K Cof) [] E0 (tCons (tLc (iList K (tVar 3)) (gName 4) (tYes) (tOp rISub (tC (.int 0)) (tVar 4)) [4]) (tNil))) (gName 2)))))
  (tRet (tVar 1)))))

section
variable {K : PySem.W.Frag} {Cof : String → Addr} {vs : List V} {H : Hp} {Q : VK} {E : XK}
theorem len_row_of (h : sp_row_of K Cof vs H Q E) : vs.length = 1 := by
  obtain ⟨a, P, n, f, rfl, _⟩ := h; rfl
theorem slope_top {P : List Int} (hT : ML.Trim P) (hn : ML.slopeL P ≠ []) : ML.cf (ML.slopeL P) (P.length - 2) ≠ 0 := by
  have h1 : P ≠ [] := fun e => hn (by rw [e]; rfl)
  have hl : 1 < P.length := by
    apply Classical.byContradiction
    intro h
    apply hn
    have : P.length - 1 = 0 := by omega
    unfold ML.slopeL
    rw [this]; rfl
  rw [ML.cf_slopeL]
  have h2 := MP.trim_last hT h1
  have e : P.length - 2 + 1 = P.length - 1 := by omega
  rw [e]
  exact Int.mul_ne_zero (by omega) h2
theorem slope_sz {P : List Int} {n : Nat} (h : ML.Sz n P) (hl : P.length ≤ 100000) : ML.Sz (18 + n) (ML.slopeL P) := ML.Sz.of fun k hk => by
  rw [ML.cf_slopeL]
  have hk' : k < P.length - 1 := by unfold ML.slopeL at hk; simpa using hk
  exact wide_lt (show ((k : Int) + 1).natAbs < 2 ^ 18 by omega) (h.cf (k + 1))
theorem slope_shr {P : List Int} {n : Nat} (h : ML.Sz n P) (hl : P.length ≤ 100000) (hn : n ≤ 8900) (hT : ML.Trim P) (h0 : ML.slopeL P ≠ []) : MS.ShrX (ML.slopeL P) := by
  have ht := slope_top hT h0
  have h1 := MP.gcdL_ne ht
  have h2 := MP.gcdL_le ht
  have h3 := (slope_sz h hl).cf (P.length - 2)
  have h4 := PySem.Flt.log2_lt_of (show 0 < 18 + n by omega) (Nat.lt_of_le_of_lt h2 h3)
  exact ⟨h1, .inl (by omega)⟩
theorem rd_row_of (h : sp_row_of K Cof vs H Q E) : t_row_of K Cof E { nx := fun _ H' => Q .non H', rt := Q } (start ["P", "row", "later", "rest", "one"] vs) H := by
  obtain ⟨a, P, n, f, rfl, hS, hl, hf, sz, ⟨n0, n9⟩, hT, hok, q⟩ := h
  unfold t_row_of
  walk_at "rd"
  refine r_lstK fun p0 H0 hp0 e0 h0 => ?_
  have f0 := Fx.of e0
  walk_at "rd"
  refine r_eqInts (ns := P) (ms := []) (f0.l hS) (SqL.inj h0) ?_
  walk_at "rd"
  refine ite_d (fun hn => ?_) (fun hn => ?_)
  · walk_at "rd"
    refine r_lstK fun p1 H1 hp1 e1 h1 => ?_
    have f1 := f0.ex e1
    refine q p1 [] H1 (f0.free hp1) (fun _ h => by cases h) (fun h => by cases h) f1.to h1 ?_
    rw [hn]; exact trivial
  have ok := hok hn
  walk_at "rd"
  refine c_shrunk (f0.l hS) hl (fun hne => by
    have := shr_ok n0 (by omega) sz hT hne
    exact this) fun p1 H1 hp1 e1 h1 => ?_
  have f1 := f0.ex e1
  walk_at "rd"
  refine r_lstK fun p2 H2 hp2 e2 h2 => ?_
  have f2 := f1.ex e2
  walk_at "rd"
  refine c_slope n (f2.l hS) hl sz ⟨n0, by omega⟩ fun p3 H3 hp3 e3 h3 => ?_
  have f3 := f2.ex e3
  walk_at "rd"
  have lsl : (ML.slopeL P).length ≤ 100000 := by unfold ML.slopeL; simp; omega
  refine c_shrunk (SqL.inj h3) lsl (fun hne => slope_shr sz hl n9 hT hne) fun p4 H4 hp4 e4 h4 => ?_
  have f4 := f3.ex e4
  have h2' : H4 p2 = some (.lst [V.ref p1]) := by walk_at "hp"
  have h1' : H4 p1 = some (.lst ((MP.shrunkL P).map V.int)) := by walk_at "hp"
  have z2 : H p2 = none := f1.free hp2
  have z1 : H p1 = none := f0.free hp1
  have z4 : H p4 = none := f3.free hp4
  have n12 : p1 ≠ p2 := ne_1 hp2 h1
  have n42 : p4 ≠ p2 := ne_2 hp4 (e3 _ _ h2)
  have erow : MS.rowL f P = ([] ++ [MP.shrunkL P]) ++ MS.rowG f (MP.shrunkL P) (MP.shrunkL (ML.slopeL P)) := by unfold MS.rowL; rw [if_neg hn]; rfl
  clear h1 h2 h3 e1 e2 e3 e4 hp1 hp2 hp3 hp4 hok f1 f2 f3
  walk_at "rd"
  refine r_while (fun m σ' H' => ∃ (ps : List Addr) (Rs : List (List Int)) (pa pb : Addr) (A B : List Int) (u3 u4 : Option V), σ' = [some (.ref a), some (.ref p2), some (.ref pb), u3, u4] ∧ Fx H H' ∧ H' p2 = some (.lst ((ps ++ [pa]).map V.ref)) ∧ Rws H' ps Rs ∧ H' pa = some (.lst (A.map V.int)) ∧ H' pb = some (.lst (B.map V.int)) ∧
      (∀ p ∈ ps ++ [pa], H p = none ∧ p ≠ p2) ∧ H pb = none ∧ pb ≠ p2 ∧ ps.length + m ≤ f ∧ MS.RowOk2 m A B ∧ MS.rowL f P = (Rs ++ [A]) ++ MS.rowG m A B) f
    ⟨[], [], p1, p4, _, _, _, _, rfl, f4, h2', trivial, h1', h4, fun p hp => by
      rw [List.nil_append, List.mem_singleton] at hp
      rw [hp]; exact ⟨z1, n12⟩, z4, n42, by simp, ok, erow⟩ (fun m σ' H' hw => ?_)
  obtain ⟨ps, Rs, pa, pb, A, B, u3, u4, rfl, f5, h5, hR, hA, hB, hfr, zb, nb, hlen, ok5, er5⟩ := hw
  clear f4 h2' h1' h4 z1 z4 n12 n42 ok erow h0 e0 hp0 f0
  walk_at "rd"
  refine r_lstK fun p6 H6 hp6 e6 h6 => ?_
  have f6 := f5.ex e6
  walk_at "rd"
  refine r_neInts (ns := B) (ms := []) (by walk_at "sq") (SqL.inj h6) ?_
  walk_at "rd"
  refine ite_nd (fun hne => wh_in ?_) (fun he => ?_)
  · obtain ⟨m, rfl⟩ : ∃ m', m = m' + 1 := by
      cases m with
      | zero => exact absurd ok5 hne
      | succ m => exact ⟨m, rfl⟩
    have ok6 : ML.Trim B ∧ (∃ n m, ML.Sz n A ∧ ML.Sz m B ∧ A.length ≤ 100000 ∧ B.length ≤ 100000 ∧ 0 < n ∧ 0 < m ∧ m ≤ 9000 ∧ n + (2 * m + 1) * (A.length + 1) ≤ 900000) ∧ (MD.remL A B ≠ [] → MG.gcdL ((MD.remL A B).map fun x => 0 - x) ≠ 0 ∧ ML.Sz 4000 (MS.nextL A B)) ∧ MS.RowOk2 m B (MS.nextL A B) := by
      rcases ok5 with h | h
      · exact absurd h hne
      · exact h
    obtain ⟨tB, ⟨n', m', ds⟩, hg, ok7⟩ := ok6
    have e7 : MS.rowG (m + 1) A B = B :: MS.rowG m B (MS.nextL A B) := by
      show (if B = [] then [] else _) = _
      rw [if_neg hne]
    have h5' : H6 p2 = some (.lst ((ps ++ [pa]).map V.ref)) := by walk_at "hp"
    have hA6 : H6 pa = some (.lst (A.map V.int)) := by walk_at "hp"
    have hB6 : H6 pb = some (.lst (B.map V.int)) := by walk_at "hp"
    have hR6 := hR.ex e6
    have npa : pa ≠ p2 := (hfr pa (by simp)).2
    have nps : p2 ∉ ps := fun h => (hfr p2 (by simp [h])).2 rfl
    walk_at "rd"
    refine r_append h5' (by
      rw [List.length_map, List.length_append]
      exact small_lt (by simp; omega)) fun H7 b7 h7 => ?_
    have f7 := f6.mut b7 z2
    have h7' : H7 p2 = some (.lst (ps.map V.ref ++ [V.ref pa, V.ref pb])) := by rw [h7]; simp
    have hA7 : H7 pa = some (.lst (A.map V.int)) := by walk_at "hp"
    have hB7 : H7 pb = some (.lst (B.map V.int)) := by walk_at "hp"
    have hR7 := hR6.exb b7 nps
    clear h5 h5' hA hB hA6 hB6 hR hR6 h6 f5 f6 e6 hp6 b7
    walk_at "rd"
    refine r_ix2 (SqL.inj h7') ?_
    walk_at "rd"
    refine r_ix1 (SqL.inj h7') ?_
    walk_at "rd"
    refine c_divided (P := A) (R := B) n' m' (SqL.inj hA7) (SqL.inj hB7) hne tB ds ?_
    intro t pq pr H8 ht hpq hpr npq e8 hT8 hq8 hr8
    have f8 := f7.ex e8
    walk_at "rd"
    refine r_ixT (.inl (.inl hT8)) (atI_nat (j := 2) rfl) ?_
    walk_at "rd"
    have lrem := MD.rem_len (P := A) tB hne
    have lB : B.length ≤ 100000 := ds.2.2.2.1
    refine lc_ints (fun x => 0 - x) (SqL.inj hr8) (by omega) (fun c hc H9 e9 Q' k' => ?_) fun p9 H9 hp9 e9 h9 => ?_
    · walk_at "rd"
      exact k' _ (Evl.Ex.refl _)
    have f9 := f8.ex e9
    walk_at "rd"
    refine c_shrunk (SqL.inj h9) (by rw [List.length_map]; omega) (fun h => (hg fun e => h (by rw [e]; rfl)).imp id .inr) fun p10 H10 hp10 e10 h10 => ?_
    have f10 := f9.ex e10
    refine ⟨m, by omega, ps ++ [pa], Rs ++ [A], pb, p10, B, MS.nextL A B, _, _, rfl, f10, ?_, ?_, by walk_at "hp", h10, ?_, f9.free hp10, ?_, by simp; omega, ok7, by rw [er5, e7]; simp⟩
    · have : H10 p2 = some (.lst (ps.map V.ref ++ [V.ref pa, V.ref pb])) := by walk_at "hp"
      rw [this]; simp
    · exact Rws.append (((hR7.ex e8).ex e9).ex e10) (show Rws H10 [pa] [A] from ⟨by walk_at "hp", trivial⟩)
    · intro p hp
      rcases List.mem_append.mp hp with h | h
      · exact hfr p h
      · rw [List.mem_singleton] at h
        rw [h]; exact ⟨zb, nb⟩
    · have : H9 p2 = some (.lst (ps.map V.ref ++ [V.ref pa, V.ref pb])) := by walk_at "hp"
      exact ne_2 hp10 this
  · walk_at "rd"
    have e7 : MS.rowG m A B = [] := by
      cases m with
      | zero => rfl
      | succ m => show (if B = [] then [] else _) = _; rw [if_pos he]
    rw [e7, List.append_nil] at er5
    refine q p2 (ps ++ [pa]) H6 z2 (fun p hp => (hfr p hp).1) (fun h => (hfr p2 h).2 rfl) f6.to (by walk_at "hp") ?_
    rw [er5]
    exact Rws.append (hR.ex e6) (show Rws H6 [pa] [A] from ⟨by walk_at "hp", trivial⟩)
theorem c_row_of {a : Addr} {P : List Int} (n f : Nat) (h : SqL K H a (P.map V.int)) (hl : P.length ≤ 100000) (hf : f ≤ 100000) (sz : ML.Sz n P) (hn : 0 < n ∧ n ≤ 8900) (hT : ML.Trim P) (hok : P ≠ [] → MS.RowOk2 f (MP.shrunkL P) (MP.shrunkL (ML.slopeL P))) (q : RetRow (MS.rowL f P) H Q) : sp_row_of K Cof [.ref a] H Q E := ⟨a, P, n, f, rfl, h, hl, hf, sz, hn, hT, hok, q⟩
end

/-! #### _law_cell_at -/
/-- the k-th cell, 0 beyond the last one -/
def cellOf (ns : List Int) (k : Int) : Int := ns.getD k.toNat 0
def sp__law_cell_at (K : PySem.W.Frag) (Cof : String → Addr) : Sp := fun vs H Q _ => ∃ (a : Addr) (ns : List Int) (k : Int), vs = [.ref a, .int k] ∧ SqL K H a (ns.map V.int) ∧ 0 ≤ k ∧ Q (.int (cellOf ns k)) H
def t__law_cell_at (K : PySem.W.Frag) (Cof : String → Addr) (E : XK) : TS :=
  tSeq (tIfS (tTest (tOp rLt (tVar 1) (tCB (rLenS K) (tCons (tVar 0) (tNil))))) (tRet (tOp (rIxL K) (tVar 0) (tVar 1))) (tNext))
  (tRet (tC (.int 0)))

section
variable {K : PySem.W.Frag} {Cof : String → Addr} {vs : List V} {H : Hp} {Q : VK} {E : XK}
theorem len__law_cell_at (h : sp__law_cell_at K Cof vs H Q E) : vs.length = 2 := by
  obtain ⟨a, ns, k, rfl, _⟩ := h; rfl
theorem rd__law_cell_at (h : sp__law_cell_at K Cof vs H Q E) : t__law_cell_at K Cof E { nx := fun _ H' => Q .non H', rt := Q } (start ["_law_script", "_law_k"] vs) H := by
  obtain ⟨a, ns, k, rfl, hS, h0, q⟩ := h
  obtain ⟨k, rfl⟩ : ∃ n : Nat, k = (n : Int) := ⟨k.toNat, by omega⟩
  unfold t__law_cell_at
  walk_at "rd"
  try rw [List.length_map]
  refine ite_d (fun h => ?_) (fun h => ?_)
  · walk_at "rd"
    have hk : k < ns.length := by omega
    exact r_ixI hS h0 h q
  · walk_at "rd"
    have e : cellOf ns k = 0 := by
      unfold cellOf
      rw [List.getD_eq_getElem?_getD, List.getElem?_eq_none (by omega)]; rfl
    rw [e] at q
    exact q
theorem c__law_cell_at {a : Addr} {ns : List Int} {k : Int} (h : SqL K H a (ns.map V.int)) (h0 : 0 ≤ k) (q : Q (.int (cellOf ns k)) H) : sp__law_cell_at K Cof [.ref a, .int k] H Q E := ⟨a, ns, k, rfl, h, h0, q⟩
end
local macro_rules | `(tactic| walk_at "call") => `(tactic| ((with_reducible refine' c__law_cell_at ?h ?h0 ?_); (case h => walk_at "sq"); (case h0 => first | decide | omega)))

/-! #### _law_whole -/
def sp__law_whole (K : PySem.W.Frag) (Cof : String → Addr) : Sp := fun vs H Q _ => ∃ i : Int, vs = [.int i] ∧ Q (.bl true) H
def t__law_whole (K : PySem.W.Frag) (Cof : String → Addr) (E : XK) : TS :=
  tRet (tAndV (tCB (rIsi K) (tCons (tVar 0) (tCons (tC (.ty "int")) (tNil)))) (tNotV (tCB (rIsi K) (tCons (tVar 0) (tCons (tC (.ty "bool")) (tNil))))))

section
variable {K : PySem.W.Frag} {Cof : String → Addr} {vs : List V} {H : Hp} {Q : VK} {E : XK}
theorem len__law_whole (h : sp__law_whole K Cof vs H Q E) : vs.length = 1 := by
  obtain ⟨i, rfl, _⟩ := h; rfl
theorem rd__law_whole (h : sp__law_whole K Cof vs H Q E) : t__law_whole K Cof E { nx := fun _ H' => Q .non H', rt := Q } (start ["_law_found"] vs) H := by
  obtain ⟨i, rfl, q⟩ := h
  unfold t__law_whole
  walk_at "rd"
  refine r_isi (.base (.int i)) (.ty _) (kit_ty (r := true) (by decide +kernel)) ?_
  walk_at "rd"
  refine r_isi (.base (.int i)) (.ty _) (kit_ty (r := false) (by decide +kernel)) ?_
  walk_at "rd"
  exact q
end
theorem c__law_whole {K : PySem.W.Frag} {Cof : String → Addr} {H : Hp} {Q : VK} {E : XK} {i : Int} (q : Q (.bl true) H) : sp__law_whole K Cof [.int i] H Q E := ⟨i, rfl, q⟩
local macro_rules | `(tactic| walk_at "call") => `(tactic| with_reducible refine c__law_whole ?_)

/-! #### _law_within -/
/-- a number from -s to s -/
def sgn (c s : Int) : Int := c.fmod (2 * s + 1) - s
theorem sgn_ge {c s : Int} (h : 0 ≤ s) : -s ≤ sgn c s := by
  have := Int.fmod_nonneg_of_pos c (show 0 < 2 * s + 1 by omega)
  unfold sgn; omega
theorem sgn_le {c s : Int} (h : 0 ≤ s) : sgn c s ≤ s := by
  have := Int.fmod_lt_of_pos c (show 0 < 2 * s + 1 by omega)
  unfold sgn; omega
theorem sgn_abs {c s : Int} {n : Nat} (h : 0 ≤ s) (hs : s.natAbs < 2 ^ n) : (sgn c s).natAbs < 2 ^ n := by
  have h1 := sgn_ge (c := c) h
  have h2 := sgn_le (c := c) h
  generalize 2 ^ n = m at hs ⊢
  omega
def sp__law_within (K : PySem.W.Frag) (Cof : String → Addr) : Sp := fun vs H Q _ => ∃ c s : Int, vs = [.int c, .int s] ∧ 0 ≤ s ∧ s.natAbs < 2 ^ 4000 ∧ Q (.int (sgn c s)) H
def t__law_within (K : PySem.W.Frag) (Cof : String → Addr) (E : XK) : TS :=
  tRet (tOp rISub (tOp rMod (tVar 0) (tOp rIAdd (tOp rMul (tC (.int 2)) (tVar 1)) (tC (.int 1)))) (tVar 1))

section
variable {K : PySem.W.Frag} {Cof : String → Addr} {vs : List V} {H : Hp} {Q : VK} {E : XK}
theorem len__law_within (h : sp__law_within K Cof vs H Q E) : vs.length = 2 := by
  obtain ⟨c, s, rfl, _⟩ := h; rfl
theorem rd__law_within (h : sp__law_within K Cof vs H Q E) : t__law_within K Cof E { nx := fun _ H' => Q .non H', rt := Q } (start ["_law_cell", "_law_most"] vs) H := by
  obtain ⟨c, s, rfl, h0, hs, q⟩ := h
  unfold t__law_within
  walk_at "rd"
  refine r_mul (wide_mul (a := 2) (by decide) hs (by decide) (by decide) (by decide)) ?_
  walk_at "rd"
  exact q
end
theorem c__law_within {K : PySem.W.Frag} {Cof : String → Addr} {H : Hp} {Q : VK} {E : XK} {c s : Int} (h0 : 0 ≤ s) (h1 : s.natAbs < 2 ^ 4000) (q : Q (.int (sgn c s)) H) : sp__law_within K Cof [.int c, .int s] H Q E := ⟨c, s, rfl, h0, h1, q⟩

/-! #### _law_trim -/
--USE ML
def sp__law_trim (K : PySem.W.Frag) (Cof : String → Addr) : Sp := fun vs H Q _ => ∃ (a : Addr) (ns : List Int), vs = [.ref a] ∧ SqL K H a (ns.map V.int) ∧ ns.length ≤ 1000000 ∧ RetI (ML.trimL ns) H Q
def t__law_trim (K : PySem.W.Frag) (Cof : String → Addr) (E : XK) : TS :=
  tSeq (tAsg (tCB (rLenS K) (tCons (tVar 0) (tNil))) (gName 1))
  (tSeq (tWhile (tAnd (tTest (tOp rGt (tVar 1) (tC (.int 0)))) (tTest (tOp rEq (tOp (rIxL K) (tVar 0) (tOp rISub (tVar 1) (tC (.int 1)))) (tC (.int 0))))) (tAsg (tOp rISub (tVar 1) (tC (.int 1))) (gName 1)))
  (tRet (tSl (rSlL K) (tVar 0) (tNoPart) (tPart (tVar 1)))))

section
variable {K : PySem.W.Frag} {Cof : String → Addr} {vs : List V} {H : Hp} {Q : VK} {E : XK}
theorem len__law_trim (h : sp__law_trim K Cof vs H Q E) : vs.length = 1 := by
  obtain ⟨a, ns, rfl, _⟩ := h; rfl
theorem rd__law_trim (h : sp__law_trim K Cof vs H Q E) : t__law_trim K Cof E { nx := fun _ H' => Q .non H', rt := Q } (start ["_law_row", "_law_size"] vs) H := by
  obtain ⟨a, ns, rfl, hS, hl, q⟩ := h
  unfold t__law_trim
  walk_at "rd"
  try rw [List.length_map]
  refine r_while (fun m σ' H' => σ' = [some (.ref a), some (.int (m : Int))] ∧ H' = H ∧ m ≤ ns.length ∧ ∀ k, m ≤ k → ML.cf ns k = 0) ns.length ⟨rfl, rfl, Nat.le_refl _, fun k hk => ML.cf_beyond hk⟩ (fun m σ' H' hw => ?_)
  obtain ⟨rfl, rfl, hm, h0⟩ := hw
  walk_at "rd"
  refine ite_d (fun hp => ?_) (fun hp => ?_)
  · walk_at "rd"
    refine r_ixI hS (by omega) (by omega) ?_
    walk_at "rd"
    have e : ns.getD ((m : Int) - 1).toNat 0 = ML.cf ns (m - 1) := by
      unfold ML.cf; congr 1; omega
    rw [e]
    refine ite_d (fun hz => wh_in ?_) (fun hz => ?_)
    · walk_at "rd"
      have e1 : (m : Int) - 1 = ((m - 1 : Nat) : Int) := by omega
      exact ⟨m - 1, by omega, by rw [e1]; rfl, rfl, by omega, fun k hk => by
        by_cases hk' : k = m - 1
        · rw [hk', hz]
        · exact h0 k (by omega)⟩
    · walk_at "rd"
      refine r_slI hS fun p H' hp e h => q p H' hp e ?_
      rw [ML.trimL_take hm h0 (.inr hz), ← sliceI_to hm]
      exact h
  · walk_at "rd"
    refine r_slI hS fun p H' hp e h => q p H' hp e ?_
    rw [ML.trimL_take hm h0 (.inl (by omega)), ← sliceI_to hm]
    exact h
theorem c__law_trim {a : Addr} {ns : List Int} (h : SqL K H a (ns.map V.int)) (hl : ns.length ≤ 1000000) (q : ∀ p H', H p = none → Ex H H' → H' p = some (.lst ((ML.trimL ns).map V.int)) → Q (.ref p) H') : sp__law_trim K Cof [.ref a] H Q E := ⟨a, ns, rfl, h, hl, q⟩
end

/-! #### _law_mul -/
--USE ML
def sp__law_mul (K : PySem.W.Frag) (Cof : String → Addr) : Sp := fun vs H Q _ => ∃ (a b : Addr) (P R : List Int) (n m : Nat), vs = [.ref a, .ref b] ∧ SqL K H a (P.map V.int) ∧ SqL K H b (R.map V.int) ∧ P.length ≤ 100000 ∧ R.length ≤ 100000 ∧ ML.Sz n P ∧ ML.Sz m R ∧ (0 < n ∧ 0 < m ∧ n + m ≤ 1000000) ∧ RetI (ML.mulU P R) H Q
def t__law_mul (K : PySem.W.Frag) (Cof : String → Addr) (E : XK) : TS :=
  tSeq (tIfS (tOr (tTest (tOp rEq (tCB (rLenS K) (tCons (tVar 0) (tNil))) (tC (.int 0)))) (tTest (tOp rEq (tCB (rLenS K) (tCons (tVar 1) (tNil))) (tC (.int 0))))) (tRet (tLst (tNil))) (tNext))
  (tSeq (tAsg (tLc (iRng1 (tCons (tOp rISub (tOp rIAdd (tCB (rLenS K) (tCons (tVar 0) (tNil))) (tCB (rLenS K) (tCons (tVar 1) (tNil)))) (tC (.int 1))) (tNil))) (gName 3) (tYes) (tC (.int 0)) [3]) (gName 2))
  (tSeq (tFor (iEnum K (tCons (tVar 0) (tNil))) (gTup K 2 (gCons (gName 4) (gCons (gName 5) (gNil)))) (tFor (iEnum K (tCons (tVar 1) (tNil))) (gTup K 2 (gCons (gName 6) (gCons (gName 7) (gNil)))) (tAsg (tOp rIAdd (tOp (rIxL K) (tVar 2) (tOp rIAdd (tVar 4) (tVar 6))) (tOp rMul (tVar 5) (tVar 7))) (gSub (tVar 2) (tOp rIAdd (tVar 4) (tVar 6)) rSetL))))
  (tRet (tVar 2))))

section
variable {K : PySem.W.Frag} {Cof : String → Addr} {vs : List V} {H : Hp} {Q : VK} {E : XK}
theorem len__law_mul (h : sp__law_mul K Cof vs H Q E) : vs.length = 2 := by
  obtain ⟨a, b, P, R, n, m, rfl, _⟩ := h; rfl
theorem rd__law_mul (h : sp__law_mul K Cof vs H Q E) : t__law_mul K Cof E { nx := fun _ H' => Q .non H', rt := Q } (start ["_law_kp", "_law_kq", "_law_made", "_law_k", "_law_i", "_law_one", "_law_j", "_law_other"] vs) H := by
  obtain ⟨a, b, P, R, n, m, rfl, hA, hB, lA, lB, sA, sB, ⟨n0, m0, nm⟩, q⟩ := h
  unfold t__law_mul
  have f0 := Fx.refl H
  have nil_ : ∀ {D : Ends} {σ : L2.St}, ML.mulU P R = [] → D.rt = Q → tRet (tLst tNil) D σ H := fun {D σ} e eD => by
    walk_at "rd"
    rw [eD]
    exact r_lstK fun p1 H1 hp1 e1 h1 => q p1 H1 hp1 e1 (by rw [e]; exact h1)
  walk_at "rd"
  refine ite_d (fun h0 => ?_) (fun h0 => ?_)
  · walk_at "rd"
    refine r_lstK fun p1 H1 hp1 e1 h1 => q p1 H1 hp1 e1 ?_
    have : P = [] := List.eq_nil_of_length_eq_zero (by omega)
    unfold ML.mulU
    rw [if_pos (.inl this)]; exact h1
  walk_at "rd"
  refine ite_d (fun h1 => ?_) (fun h1 => ?_)
  · walk_at "rd"
    refine r_lstK fun p1 H1 hp1 e1 hh1 => q p1 H1 hp1 e1 ?_
    have : R = [] := List.eq_nil_of_length_eq_zero (by omega)
    unfold ML.mulU
    rw [if_pos (.inr this)]; exact hh1
  clear nil_
  walk_at "rd"
  refine r_cRng1A (by omega) (by omega) ?_
  have el : ((P.length : Int) + (R.length : Int) - 1).toNat = P.length + R.length - 1 := by omega
  rw [el]
  refine lc_rangeI (fun _ => 0) (by omega) (fun i hi H4 e4 Q' k' => ?_) fun p H1 hp e1 h2 => ?_
  · walk_at "rd"
    exact k' _ (Evl.Ex.refl _)
  have f1 := f0.ex e1
  rw [List.map_const', List.length_range] at h2
  walk_at "rd"
  refine loop_enum (xs := P.map V.int) (fun k σ' H' => ∃ (rs : List Int) (u1 u2 u3 u4 u5 : Option V), σ' = [some (.ref a), some (.ref b), some (.ref p), u1, u2, u3, u4, u5] ∧ Fx H H' ∧ H' p = some (.lst (rs.map V.int)) ∧ rs.length = P.length + R.length - 1 ∧ ∀ j, ML.cf rs j = ML.pcv P R k j)
    ⟨_, _, _, _, _, _, rfl, f1, h2, by rw [List.length_replicate], fun j => by rw [ML.cf_rep0]; rfl⟩ (fun i σ' H' _ hp' => ?_) (fun k x σ' H' H2' hx hp' e2 => ?_) (fun σ' H' hp' => ?_)
  · obtain ⟨rs, u1, u2, u3, u4, u5, rfl, f2, _⟩ := hp'
    exact f2.l hA
  · obtain ⟨rs, u1, u2, u3, u4, u5, rfl, f2, h3, l3, c3⟩ := hp'
    have f2' := f2.ex e2
    obtain ⟨hk, ek⟩ := List.getElem?_eq_some_iff.mp hx
    rw [List.length_map] at hk
    have ex : x = .int (ML.cf P k) := by
      rw [← ek, List.getElem_map, ML.cf_get hk]
    subst ex
    have hB2 := f2'.l hB
    walk_at "rd"
    refine loop_enum (xs := R.map V.int) (fun i σ2 H2 => ∃ (rs : List Int) (u4 u5 : Option V), σ2 = [some (.ref a), some (.ref b), some (.ref p), u1, some (.int (k : Int)), some (.int (ML.cf P k)), u4, u5] ∧ Fx H H2 ∧ H2 p = some (.lst (rs.map V.int)) ∧ rs.length = P.length + R.length - 1 ∧ ∀ j, ML.cf rs j = ML.pcw P R k i j)
      ⟨rs, _, _, rfl, f2', by walk_at "hp", l3, fun j => by rw [ML.pcw_zero]; exact c3 j⟩ (fun i σ2 H2 _ hp2 => ?_) (fun i x σ2 H2 H2' hx hp2 e2 => ?_) (fun σ2 H2 hp2 => ?_)
    · obtain ⟨rs, u4, u5, rfl, f3, _⟩ := hp2
      exact f3.l hB
    · obtain ⟨rs, u4, u5, rfl, f3, h4, l4, c4⟩ := hp2
      have f3' := f3.ex e2
      obtain ⟨hi, ei⟩ := List.getElem?_eq_some_iff.mp hx
      rw [List.length_map] at hi
      have ex : x = .int (ML.cf R i) := by
        rw [← ei, List.getElem_map, ML.cf_get hi]
      subst ex
      have eki : (k : Int) + (i : Int) = ((k + i : Nat) : Int) := by omega
      walk_at "rd"
      rw [eki]
      refine r_ixI (ns := rs) (by walk_at "sq") (by omega) (by omega) ?_
      rw [Int.toNat_natCast]
      walk_at "rd"
      refine r_mul (wide_mul (sA.cf k) (sB.cf i) n0 m0 nm) ?_
      walk_at "rd"
      rw [eki]
      refine r_setL (p := p) (xs := rs.map V.int) (by walk_at "hp") (Evl.ixN_nat (by rw [List.length_map]; omega)) fun H4 b4 h5 => ?_
      refine ⟨rs.set (k + i) (ML.cf rs (k + i) + ML.cf P k * ML.cf R i), _, _, rfl, f3'.mut b4 hp, by rw [List.map_set]; exact h5, by rw [List.length_set]; exact l4, fun j => ?_⟩
      rw [ML.cf_set (by omega), ML.pcw_step, c4]
      by_cases hj : j = k + i
      · rw [if_pos hj, if_pos hj, hj]
      · rw [if_neg hj, if_neg hj, c4]
    · obtain ⟨rs, u4, u5, rfl, f3, h4, l4, c4⟩ := hp2
      exact ⟨rs, _, _, _, _, _, rfl, f3, h4, l4, fun j => by rw [c4, List.length_map, ML.pcw_full]⟩
  · obtain ⟨rs, u1, u2, u3, u4, u5, rfl, f2, h3, l3, c3⟩ := hp'
    walk_at "rd"
    refine q p H' hp f2.to ?_
    have e : rs = ML.mulU P R := by
      have hne : ¬ (P = [] ∨ R = []) := by
        rintro (h | h)
        · subst h; exact h0 rfl
        · subst h; exact h1 rfl
      refine ML.ext (by unfold ML.mulU; rw [if_neg hne]; simpa using l3) fun j _ => ?_
      rw [c3, List.length_map, ML.pcv_full, ML.cf_mulU]
    rw [← e]
    exact h3
theorem c__law_mul {a b : Addr} {P R : List Int} (n m : Nat) (hA : SqL K H a (P.map V.int)) (hB : SqL K H b (R.map V.int)) (lA : P.length ≤ 100000) (lB : R.length ≤ 100000) (sA : ML.Sz n P) (sB : ML.Sz m R) (h0 : 0 < n ∧ 0 < m ∧ n + m ≤ 1000000) (q : ∀ p H', H p = none → Ex H H' → H' p = some (.lst ((ML.mulU P R).map V.int)) → Q (.ref p) H') : sp__law_mul K Cof [.ref a, .ref b] H Q E := ⟨a, b, P, R, n, m, rfl, hA, hB, lA, lB, sA, sB, h0, q⟩
end

/-! #### _law_is_poly -/
--USE ML
def sp__law_is_poly (K : PySem.W.Frag) (Cof : String → Addr) : Sp := fun vs H Q _ => ∃ (a : Addr) (P : List Int), vs = [.ref a] ∧ H a = some (.lst (P.map V.int)) ∧ ML.Trim P ∧ Q (.bl true) H
def t__law_is_poly (K : PySem.W.Frag) (Cof : String → Addr) (E : XK) : TS :=
  tSeq (tIfS (tNot (tB (tCB (rIsi K) (tCons (tVar 0) (tCons (tC (.ty "list")) (tNil)))))) (tRet (tC (.bl false))) (tNext))
  (tSeq (tFor (iList K (tVar 0)) (gName 1) (tIfS (tNot (tB (tCall (sp__law_whole K Cof) [] E0 (tCons (tVar 1) (tNil))))) (tRet (tC (.bl false))) (tNext)))
  (tRet (tOrV (tOp rEq (tCB (rLenS K) (tCons (tVar 0) (tNil))) (tC (.int 0))) (tOp rNe (tOp (rIxL K) (tVar 0) (tUn rNeg (tC (.int 1)))) (tC (.int 0))))))

section
variable {K : PySem.W.Frag} {Cof : String → Addr} {vs : List V} {H : Hp} {Q : VK} {E : XK}
theorem len__law_is_poly (h : sp__law_is_poly K Cof vs H Q E) : vs.length = 1 := by
  obtain ⟨a, P, rfl, _⟩ := h; rfl
theorem rd__law_is_poly (h : sp__law_is_poly K Cof vs H Q E) : t__law_is_poly K Cof E { nx := fun _ H' => Q .non H', rt := Q } (start ["_law_found", "_law_one"] vs) H := by
  obtain ⟨a, P, rfl, hA, hT, q⟩ := h
  unfold t__law_is_poly
  walk_at "rd"
  refine r_isi (.base (.lst hA)) (.ty _) (kit_ty (r := true) (by decide +kernel)) ?_
  walk_at "rd"
  refine loop_ints (ns := P) (fun i σ' H' => ∃ u, σ' = [some (.ref a), u] ∧ H' = H) ⟨_, rfl, rfl⟩ (fun i σ' H' _ hp => ?_) (fun i x σ' H' hx hp => ?_) (fun σ' H' hp => ?_)
  · obtain ⟨u, rfl, rfl⟩ := hp
    exact SqL.inj hA
  · obtain ⟨u, rfl, rfl⟩ := hp
    walk_at "rd"
    exact ⟨_, rfl, rfl⟩
  · obtain ⟨u, rfl, rfl⟩ := hp
    walk_at "rd"
    refine ite_d (fun h => ?_) (fun h => ?_)
    · exact q
    · have hne : P ≠ [] := fun e => h (by rw [e]; rfl)
      walk_at "rd"
      refine r_ixLast (SqL.inj hA) hne ?_
      walk_at "rd"
      have hl : ML.cf P (P.length - 1) ≠ 0 := hT.elim (fun e => absurd e hne) id
      have e : (!decide (P.getD (P.length - 1) 0 = 0)) = true := by
        have e0 : ¬ P.getD (P.length - 1) 0 = 0 := hl
        rw [decide_eq_false e0]; rfl
      rw [e]
      exact q
theorem c__law_is_poly {a : Addr} {P : List Int} (hA : H a = some (.lst (P.map V.int))) (hT : ML.Trim P) (q : Q (.bl true) H) : sp__law_is_poly K Cof [.ref a] H Q E := ⟨a, P, rfl, hA, hT, q⟩
end

/-! #### _law_gcd -/
--USE MG
def sp__law_gcd (K : PySem.W.Frag) (Cof : String → Addr) : Sp := fun vs H Q _ => ∃ x y : Int, vs = [.int x, .int y] ∧ Q (.int (Int.gcd x y)) H
def t__law_gcd (K : PySem.W.Frag) (Cof : String → Addr) (E : XK) : TS :=
  tSeq (tAsg (tCB rAbs (tCons (tVar 0) (tNil))) (gName 0))
  (tSeq (tAsg (tCB rAbs (tCons (tVar 1) (tNil))) (gName 1))
  (tSeq (tWhile (tTest (tOp rGt (tVar 1) (tC (.int 0)))) (tSeq (tAsg (tOp rMod (tVar 0) (tVar 1)) (gName 2))
  (tSeq (tAsg (tVar 1) (gName 0))
  (tAsg (tVar 2) (gName 1)))))
  (tRet (tVar 0))))

section
variable {K : PySem.W.Frag} {Cof : String → Addr} {vs : List V} {H : Hp} {Q : VK} {E : XK}
theorem len__law_gcd (h : sp__law_gcd K Cof vs H Q E) : vs.length = 2 := by
  obtain ⟨x, y, rfl, _⟩ := h; rfl
theorem rd__law_gcd (h : sp__law_gcd K Cof vs H Q E) : t__law_gcd K Cof E { nx := fun _ H' => Q .non H', rt := Q } (start ["_law_a", "_law_b", "_law_rest_here"] vs) H := by
  obtain ⟨x, y, rfl, q⟩ := h
  unfold t__law_gcd
  walk_at "rd"
  have ex : (if x < 0 then -x else x) = (x.natAbs : Int) := by split <;> omega
  have ey : (if y < 0 then -y else y) = (y.natAbs : Int) := by split <;> omega
  rw [ex, ey]
  refine r_while (fun m σ2 H2 => ∃ (f o : Int) (r : Option V), σ2 = [some (.int f), some (.int o), r] ∧ H2 = H ∧ m = o.natAbs ∧ 0 ≤ f ∧ 0 ≤ o ∧ Int.gcd f o = Int.gcd x y) y.natAbs ⟨_, _, _, rfl, rfl, by omega, by omega, by omega, by unfold Int.gcd; rfl⟩ (fun m σ2 H2 hw => ?_)
  obtain ⟨f, o, r, rfl, rfl, rfl, hf, ho, hg⟩ := hw
  walk_at "rd"
  refine ite_d (fun h => wh_in ?_) (fun h => ?_)
  · walk_at "rd"
    exact ⟨_, MG.fmod_lt (by omega), o, f.fmod o, _, rfl, rfl, rfl, ho, Int.fmod_nonneg_of_pos _ h, by rw [MG.gcd_fmod]; exact hg⟩
  · walk_at "rd"
    have : o = 0 := by omega
    rw [this, Int.gcd_zero_right] at hg
    have e : f = (Int.gcd x y : Int) := by omega
    rw [e]
    exact q
theorem c__law_gcd {x y : Int} (q : Q (.int (Int.gcd x y)) H) : sp__law_gcd K Cof [.int x, .int y] H Q E := ⟨x, y, rfl, q⟩
end
local macro_rules | `(tactic| walk_at "call") => `(tactic| with_reducible refine c__law_gcd ?_)

/-! #### _law_shrunk -/
--USE CR
def sp__law_shrunk (K : PySem.W.Frag) (Cof : String → Addr) : Sp := fun vs H Q _ => ∃ (a : Addr) (P : List Int), vs = [.ref a] ∧ SqL K H a (P.map V.int) ∧ P.length ≤ 100000 ∧ ML.Trim P ∧ (P ≠ [] → MS.ShrX P) ∧ RetI (MP.shrunkL P) H Q
def t__law_shrunk (K : PySem.W.Frag) (Cof : String → Addr) (E : XK) : TS :=
  tSeq (tAsg (tC (.int 0)) (gName 1))
  (tSeq (tFor (iList K (tVar 0)) (gName 2) (tAsg (tCall (sp__law_gcd K Cof) [] E0 (tCons (tVar 1) (tCons (tVar 2) (tNil)))) (gName 1)))
  (tSeq (tIfS (tTest (tOp rEq (tVar 1) (tC (.int 0)))) (tRet (tLst (tNil))) (tNext))
  (tRet (tLc (iList K (tVar 0)) (gName 2) (tYes) (tOp rDiv (tVar 2) (tVar 1)) [2]))))

section
variable {K : PySem.W.Frag} {Cof : String → Addr} {vs : List V} {H : Hp} {Q : VK} {E : XK}
theorem len__law_shrunk (h : sp__law_shrunk K Cof vs H Q E) : vs.length = 1 := by
  obtain ⟨a, P, rfl, _⟩ := h; rfl
theorem rd__law_shrunk (h : sp__law_shrunk K Cof vs H Q E) : t__law_shrunk K Cof E { nx := fun _ H' => Q .non H', rt := Q } (start ["_law_kp", "_law_most", "_law_one"] vs) H := by
  obtain ⟨a, P, rfl, hS, hl, hT, hg, q⟩ := h
  unfold t__law_shrunk
  walk_at "rd"
  refine loop_ints (ns := P) (fun i σ' H' => ∃ u, σ' = [some (.ref a), some (.int (MG.gcdN (P.take i))), u] ∧ H' = H) ⟨_, rfl, rfl⟩ (fun i σ' H' _ hp => ?_) (fun i x σ' H' hx hp => ?_) (fun σ' H' hp => ?_)
  · obtain ⟨u, rfl, rfl⟩ := hp
    exact hS
  · obtain ⟨u, rfl, rfl⟩ := hp
    walk_at "rd"
    exact ⟨_, by rw [MG.gcdN_take hx]; rfl, rfl⟩
  obtain ⟨u, rfl, rfl⟩ := hp
  rw [List.take_length]
  walk_at "rd"
  refine ite_d (fun h0 => ?_) (fun h0 => ?_)
  · walk_at "rd"
    refine r_lstK fun p1 H1 hp1 e1 h1 => q p1 H1 hp1 e1 ?_
    have e : P = [] := by
      apply Classical.byContradiction
      intro hn
      exact (hg hn).1 h0
    rw [e]; exact h1
  · walk_at "rd"
    have hn : P ≠ [] := fun e => h0 (by rw [e]; rfl)
    refine lc_ints (fun x => x.fdiv (MG.gcdL P)) hS (by omega) (fun x hx H1 e1 Q' k' => ?_) (fun p H1 hp e1 h1 => q p H1 hp e1 h1)
    walk_at "rd"
    refine r_divX ((hg hn).div hx) ?_
    exact k' _ (Evl.Ex.refl _)
theorem c__law_shrunk {a : Addr} {P : List Int} (h : SqL K H a (P.map V.int)) (hl : P.length ≤ 100000) (hT : ML.Trim P) (hg : P ≠ [] → MS.ShrX P) (q : ∀ p H', H p = none → Ex H H' → H' p = some (.lst ((MP.shrunkL P).map V.int)) → Q (.ref p) H') : sp__law_shrunk K Cof [.ref a] H Q E := ⟨a, P, rfl, h, hl, hT, hg, q⟩
end

/-! #### _law_rest -/
--USE CR MQ
theorem cv_mono (g : Nat) (top : Int) (B : List Int) (k : Nat) : ML.cv (List.replicate g 0 ++ [top]) B k = if g ≤ k then top * ML.cf B (k - g) else 0 := by
  have hc : ∀ i, ML.cf (List.replicate g 0 ++ [top]) i = if i = g then top else 0 := fun i => by
    by_cases h : i < g
    · rw [ML.cf_append_left (by rw [List.length_replicate]; exact h), ML.cf_rep0, if_neg (by omega)]
    · rw [ML.cf_append_right (by rw [List.length_replicate]; omega), List.length_replicate]
      by_cases h2 : i = g
      · rw [if_pos h2, h2, Nat.sub_self]; rfl
      · rw [if_neg h2]
        obtain ⟨j, hj⟩ : ∃ j, i - g = j + 1 := ⟨i - g - 1, by omega⟩
        rw [hj, ML.cf_succ, ML.cf_nil]
  unfold ML.cv
  by_cases h : g ≤ k
  · rw [if_pos h, ML.sm_single (j := g) (by omega) fun i _ hn => by rw [hc, if_neg hn, Int.zero_mul], hc, if_pos rfl]
  · rw [if_neg h]
    exact ML.sm_zero fun i hi => by rw [hc, if_neg (by omega), Int.zero_mul]
/-- where a rest stands -/
structure RestAt (A B L : List Int) : Prop where
  tL : ML.Trim L
  eq : ∃ (f : Int) (qq : List Int), 0 < f ∧ ∀ k, f * ML.cf A k = ML.cv qq B k + ML.cf L k
def sp__law_rest (K : PySem.W.Frag) (Cof : String → Addr) : Sp := fun vs H Q _ => ∃ (a b : Addr) (A B : List Int), vs = [.ref a, .ref b] ∧ SqL K H a (A.map V.int) ∧ SqL K H b (B.map V.int) ∧ ML.Trim A ∧ ML.Trim B ∧ B ≠ [] ∧ ML.Sz 4000 A ∧ ML.Sz 4000 B ∧ A.length ≤ 100 ∧ B.length ≤ 100 ∧
  ∀ (p : Addr) (H' : Hp) (L : List Int), H p = none → Ex H H' → H' p = some (.lst (L.map V.int)) → RestAt A B L → L.length < B.length → Q (.ref p) H'
def t__law_rest (K : PySem.W.Frag) (Cof : String → Addr) (E : XK) : TS :=
  tSeq (tAsg (tCB (rListS K) (tCons (tVar 0) (tNil))) (gName 2))
  (tSeq (tWhile (tTest (tOp rGe (tCB (rLenS K) (tCons (tVar 2) (tNil))) (tCB (rLenS K) (tCons (tVar 1) (tNil))))) (tSeq (tAsg (tOp rISub (tCB (rLenS K) (tCons (tVar 2) (tNil))) (tCB (rLenS K) (tCons (tVar 1) (tNil)))) (gName 3))
  (tSeq (tAsg (tOp (rIxL K) (tVar 2) (tUn rNeg (tC (.int 1)))) (gName 4))
  (tCut (tIfS (tTest (tOp rLt (tOp (rIxL K) (tVar 1) (tUn rNeg (tC (.int 1)))) (tC (.int 0)))) (tAsg (tOp rISub (tC (.int 0)) (tVar 4)) (gName 4)) (tNext))
  (tSeq (tAsg (tLc (iList K (tVar 2)) (gName 5) (tYes) (tOp rMul (tVar 5) (tCB rAbs (tCons (tOp (rIxL K) (tVar 1) (tUn rNeg (tC (.int 1)))) (tNil)))) [5]) (gName 2))
  (tSeq (tFor (iEnum K (tCons (tVar 1) (tNil))) (gTup K 2 (gCons (gName 6) (gCons (gName 5) (gNil)))) (tAsg (tOp rISub (tOp (rIxL K) (tVar 2) (tOp rIAdd (tVar 3) (tVar 6))) (tOp rMul (tVar 4) (tVar 5))) (gSub (tVar 2) (tOp rIAdd (tVar 3) (tVar 6)) rSetL)))
  (tAsg (tCall (sp__law_trim K Cof) [] E0 (tCons (tVar 2) (tNil))) (gName 2))))))))
  (tRet (tVar 2)))

section
variable {K : PySem.W.Frag} {Cof : String → Addr} {vs : List V} {H : Hp} {Q : VK} {E : XK}
theorem len__law_rest (h : sp__law_rest K Cof vs H Q E) : vs.length = 2 := by
  obtain ⟨a, b, A, B, rfl, _⟩ := h; rfl
theorem rd__law_rest (h : sp__law_rest K Cof vs H Q E) : t__law_rest K Cof E { nx := fun _ H' => Q .non H', rt := Q } (start ["_law_kp", "_law_kq", "_law_left", "_law_gap", "_law_top", "_law_one", "_law_k"] vs) H := by
  obtain ⟨a, b, A, B, rfl, hA, hB, tA, tB, nB, sA, sB, lA, lB, q⟩ := h
  have B0 := List.length_pos_iff.mpr nB
  have lcB : ML.cf B (B.length - 1) ≠ 0 := MP.trim_last tB nB
  unfold t__law_rest
  walk_at "rd"
  refine r_list hA fun p1 H1 hp1 e1 h1 => ?_
  walk_at "rd"
  refine r_while (fun m σ' H' => ∃ (p : Addr) (L : List Int) (u3 u4 u5 u6 : Option V), σ' = [some (.ref a), some (.ref b), some (.ref p), u3, u4, u5, u6] ∧ H p = none ∧ Ex H H' ∧ H' p = some (.lst (L.map V.int)) ∧ RestAt A B L ∧ L.length ≤ A.length ∧ ML.Sz (4000 + 4002 * (A.length - L.length)) L ∧ m = L.length) A.length ⟨p1, A, _, _, _, _, rfl, hp1, e1, h1, ⟨tA, 1, [], by decide, fun k => by
    have : ML.cv [] B k = 0 := ML.sm_zero fun i _ => by rw [ML.cf_nil, Int.zero_mul]
    rw [this]; omega⟩, Nat.le_refl _, by rw [Nat.sub_self]; exact sA, rfl⟩ (fun m σ' H' hw => ?_)
  obtain ⟨p, L, u3, u4, u5, u6, rfl, hp, e2, h2, ⟨tL, f, qq, f0, hf⟩, lL, sL, rfl⟩ := hw
  have hB2 := e2.l hB
  walk_at "rd"
  refine ite_d (fun hge => wh_in ?_) (fun hlt => ?_)
  · have hLB : B.length ≤ L.length := by omega
    have nL : L ≠ [] := fun z => by rw [z, List.length_nil] at hLB; omega
    have eg : (L.length : Int) - (B.length : Int) = ((L.length - B.length : Nat) : Int) := by omega
    have bigN : 4000 + 4002 * (A.length - L.length) ≤ 420000 := by omega
    walk_at "rd"
    rw [eg]
    refine r_ixLast (SqL.inj h2) nL ?_
    walk_at "rd"
    obtain ⟨g, hg⟩ : ∃ g, L.length - B.length = g := ⟨_, rfl⟩
    rw [hg]
    refine ⟨fun σ3 H3 => ∃ (top : Int), σ3 = [some (.ref a), some (.ref b), some (.ref p), some (.int (g : Int)), some (.int top), u5, u6] ∧ H' = H3 ∧ top.natAbs = (ML.cf L (L.length - 1)).natAbs ∧ top * ML.cf B (B.length - 1) = ((ML.cf B (B.length - 1)).natAbs : Int) * ML.cf L (L.length - 1), ?_, fun σ3 H3 hM => ?_⟩
    · walk_at "rd"
      refine r_ixLast hB2 nB ?_
      walk_at "rd"
      have eB : B.getD (B.length - 1) 0 = ML.cf B (B.length - 1) := rfl
      have eL : L.getD (L.length - 1) 0 = ML.cf L (L.length - 1) := rfl
      rw [eB, eL]
      refine ite_d (fun hneg => ?_) (fun hpos => ?_)
      · walk_at "rd"
        refine ⟨0 - ML.cf L (L.length - 1), rfl, rfl, by omega, ?_⟩
        rw [show ((ML.cf B (B.length - 1)).natAbs : Int) = - ML.cf B (B.length - 1) by omega, Int.sub_mul, Int.zero_mul, Int.neg_mul, Int.mul_comm]; omega
      · walk_at "rd"
        refine ⟨ML.cf L (L.length - 1), rfl, rfl, rfl, ?_⟩
        rw [show ((ML.cf B (B.length - 1)).natAbs : Int) = ML.cf B (B.length - 1) by omega, Int.mul_comm]
    obtain ⟨top, rfl, rfl, ht1, ht2⟩ := hM
    walk_at "rd"
    have lcs : (((ML.cf B (B.length - 1)).natAbs : Int)).natAbs < 2 ^ 4000 := by
      rw [Int.natAbs_natCast]; exact sB.cf _
    have tops : top.natAbs < 2 ^ (4000 + 4002 * (A.length - L.length)) := by rw [ht1]; exact sL.cf _
    refine lc_ints (fun x => x * ((ML.cf B (B.length - 1)).natAbs : Int)) (SqL.inj h2) (by omega) (fun x hx H4 e4 Q' k' => ?_) (fun p4 H4 hp4 e4 h4 => ?_)
    · walk_at "rd"
      refine r_ixLast (e4.l hB2) nB ?_
      walk_at "rd"
      have eB : (if B.getD (B.length - 1) 0 < 0 then -B.getD (B.length - 1) 0 else B.getD (B.length - 1) 0) = ((ML.cf B (B.length - 1)).natAbs : Int) := by
        show (if ML.cf B (B.length - 1) < 0 then -ML.cf B (B.length - 1) else ML.cf B (B.length - 1)) = _
        split <;> omega
      rw [eB]
      refine r_mul (wide_mul (sL x hx) lcs (by omega) (by decide) (by omega)) ?_
      exact k' _ (Evl.Ex.refl _)
    have hB4 := e4.l hB2
    have c4 : ∀ k, ML.cf (L.map fun x => x * ((ML.cf B (B.length - 1)).natAbs : Int)) k = ML.cf L k * ((ML.cf B (B.length - 1)).natAbs : Int) := fun k => ML.cf_map (f := fun x => x * ((ML.cf B (B.length - 1)).natAbs : Int)) (by omega) L k
    have l4 : (L.map fun x => x * ((ML.cf B (B.length - 1)).natAbs : Int)).length = L.length := List.length_map ..
    have s4 : ML.Sz (4000 + 4002 * (A.length - L.length) + 4000) (L.map fun x => x * ((ML.cf B (B.length - 1)).natAbs : Int)) := ML.Sz.of fun k _ => by
      rw [c4]; exact wide_lt (sL.cf k) lcs
    generalize hM4 : (L.map fun x => x * ((ML.cf B (B.length - 1)).natAbs : Int)) = M at h4 c4 l4 s4
    clear hM4
    walk_at "rd"
    refine loop_enum (xs := B.map V.int) (fun i σ5 H5 => ∃ (rs : List Int) (u5 u6 : Option V), σ5 = [some (.ref a), some (.ref b), some (.ref p4), some (.int (g : Int)), some (.int top), u5, u6] ∧ Ex H' H5 ∧ H5 p4 = some (.lst (rs.map V.int)) ∧ rs.length = L.length ∧ ∀ t, ML.cf rs t = if g ≤ t ∧ t - g < i then ML.cf M t - top * ML.cf B (t - g) else ML.cf M t)
      ⟨M, _, _, rfl, e4, h4, l4, fun t => by rw [if_neg (by omega)]⟩ (fun i σ5 H5 _ hp5 => ?_) (fun j x σ5 H5 H6 hx hp5 e6 => ?_) (fun σ5 H5 hp5 => ?_)
    · obtain ⟨rs, u5, u6, rfl, e5, _⟩ := hp5
      exact e5.l hB2
    · obtain ⟨rs, u5, u6, rfl, e5, h5, l5, c5⟩ := hp5
      have e56 := e5.trans e6
      have h6 := e6 _ _ h5
      obtain ⟨hj, ej⟩ := List.getElem?_eq_some_iff.mp hx
      rw [List.length_map] at hj
      have ex : x = .int (ML.cf B j) := by
        rw [← ej, List.getElem_map, ML.cf_get hj]
      subst ex
      have egj : (g : Int) + (j : Int) = ((g + j : Nat) : Int) := by omega
      walk_at "rd"
      rw [egj]
      refine r_ixI (ns := rs) (SqL.inj h6) (by omega) (by omega) ?_
      rw [Int.toNat_natCast]
      walk_at "rd"
      refine r_mul (wide_mul tops (sB.cf j) (by omega) (by decide) (by omega)) ?_
      walk_at "rd"
      rw [egj]
      refine r_setL (p := p4) (xs := rs.map V.int) h6 (Evl.ixN_nat (by rw [List.length_map]; omega)) fun H7 b7 h7 => ?_
      refine ⟨rs.set (g + j) (ML.cf rs (g + j) - top * ML.cf B j), _, _, rfl, Evl.Ex.mutb e56 b7 hp4, by rw [List.map_set]; exact h7, by rw [List.length_set]; exact l5, fun t => ?_⟩
      rw [ML.cf_set (by omega), c5 (g + j), c5 t]
      by_cases ht : t = g + j
      · subst ht
        rw [if_pos (rfl : g + j = g + j), if_neg (by omega), if_pos (by omega), Nat.add_sub_cancel_left]
      · rw [if_neg ht]
        by_cases h3 : g ≤ t ∧ t - g < j
        · rw [if_pos h3, if_pos (by omega)]
        · rw [if_neg h3, if_neg (by omega)]
    obtain ⟨rs, u5', u6', rfl, e5, h5, l5, c5⟩ := hp5
    rw [List.length_map] at c5
    have c6 : ∀ t, ML.cf rs t = ML.cf M t - (if g ≤ t then top * ML.cf B (t - g) else 0) := fun t => by
      rw [c5]
      by_cases h3 : g ≤ t
      · by_cases h4 : t - g < B.length
        · rw [if_pos ⟨h3, h4⟩, if_pos h3]
        · rw [if_neg (by omega), if_pos h3, ML.cf_beyond (P := B) (by omega)]; omega
      · rw [if_neg (by omega), if_neg h3]; omega
    walk_at "rd"
    refine c__law_trim (SqL.inj h5) (by omega) fun p8 H8 hp8 e8 h8 => ?_
    walk_at "rd"
    have last0 : ML.cf rs (L.length - 1) = 0 := by
      rw [c6, if_pos (by omega), c4, show L.length - 1 - g = B.length - 1 by omega, ht2, Int.mul_comm]; omega
    have lT : (ML.trimL rs).length < L.length := by
      have h1 := ML.trimL_len rs
      apply Classical.byContradiction
      intro hh
      have ne : ML.trimL rs ≠ [] := fun z => by rw [z] at hh; simp at hh; exact nL hh
      have h2 := MP.trim_last (ML.trim_trimL rs) ne
      rw [show (ML.trimL rs).length - 1 = L.length - 1 by omega, ML.cf_trimL, last0] at h2
      exact h2 rfl
    refine ⟨(ML.trimL rs).length, lT, p8, ML.trimL rs, _, _, _, _, rfl, Evl.fresh_back (e2.trans e5) hp8, (e2.trans e5).trans e8, h8, ⟨ML.trim_trimL rs, f * ((ML.cf B (B.length - 1)).natAbs : Int), ML.addL (MR.sclL ((ML.cf B (B.length - 1)).natAbs : Int) qq) (List.replicate g 0 ++ [top]), Int.mul_pos f0 (by omega), fun k => ?_⟩, by omega, ?_, rfl⟩
    · rw [MR.cv_add_left, MR.cv_scl_left, cv_mono, ML.cf_trimL, c6, c4]
      have := hf k
      have h9 : f * ((ML.cf B (B.length - 1)).natAbs : Int) * ML.cf A k = ((ML.cf B (B.length - 1)).natAbs : Int) * (f * ML.cf A k) := by
        rw [Int.mul_comm f, Int.mul_assoc]
      rw [h9, this, Int.mul_add, Int.mul_comm (ML.cf L k)]
      omega
    · refine (ML.Sz.trim (n := 4000 + 4002 * (A.length - L.length) + 4001) (ML.Sz.of fun t _ => ?_)).mono (by omega)
      rw [c6]
      have b1 := s4.cf t
      have b2 := wide_lt tops (sB.cf (t - g))
      rw [show 4000 + 4002 * (A.length - L.length) + 4001 = 4000 + 4002 * (A.length - L.length) + 4000 + 1 by omega, Nat.pow_succ]
      generalize (2 : Nat) ^ (4000 + 4002 * (A.length - L.length) + 4000) = z at b1 b2 ⊢
      split <;> omega
  · walk_at "rd"
    exact q p _ L hp e2 h2 ⟨tL, f, qq, f0, hf⟩ (by omega)
theorem c__law_rest {a b : Addr} {A B : List Int} (hA : SqL K H a (A.map V.int)) (hB : SqL K H b (B.map V.int)) (tA : ML.Trim A) (tB : ML.Trim B) (nB : B ≠ []) (sA : ML.Sz 4000 A) (sB : ML.Sz 4000 B) (lA : A.length ≤ 100) (lB : B.length ≤ 100) (q : ∀ (p : Addr) (H' : Hp) (L : List Int), H p = none → Ex H H' → H' p = some (.lst (L.map V.int)) → RestAt A B L → L.length < B.length → Q (.ref p) H') : sp__law_rest K Cof [.ref a, .ref b] H Q E := ⟨a, b, A, B, rfl, hA, hB, tA, tB, nB, sA, sB, lA, lB, q⟩
/-- the rest of the law and that of the program -/
theorem rest_next {A B L : List Int} (h : RestAt A B L) (tA : ML.Trim A) (tB : ML.Trim B) (nB : B ≠ []) (hl : L.length < B.length) : MP.shrunkL (L.map fun x => 0 - x) = MS.nextL A B ∧ (L = [] ↔ MD.remL A B = []) := by
  obtain ⟨tL, f, qq, f0, hf⟩ := h
  have fp := MD.facL_pos (P := A) tB nB
  have hu : ∀ k, MD.facL A B * ML.cf L k = f * ML.cf (MD.remL A B) k := fun k => (MR.rest_unique tB nB hl hf k).1
  refine ⟨?_, ?_⟩
  · unfold MS.nextL
    refine MS.shr_prop (MS.neg_trim (MD.trim_rem tA)) (MS.neg_trim tL) f0 fp fun k => ?_
    rw [MS.neg_cf, MS.neg_cf, Int.mul_neg, Int.mul_neg, hu]
  · rw [MR.cf_zero_nil tL, MR.cf_zero_nil (MD.trim_rem tA)]
    constructor
    · intro h k
      have := hu k
      rw [h, Int.mul_zero] at this
      exact (Int.mul_eq_zero.mp this.symm).resolve_left (by omega)
    · intro h k
      have := hu k
      rw [h, Int.mul_zero] at this
      exact (Int.mul_eq_zero.mp this).resolve_left (by omega)
end

/-! #### _law_row_holds -/
--USE CR RN RE
/-- what the law knows of its polynomial -/
structure RowEnv (P : List Int) (f s t : Nat) : Prop where
  tP : ML.Trim P
  nP : P ≠ []
  lP : P.length ≤ 41
  sP : ML.Sz 4000 P
  s4 : s ≤ 4000
  lf : P.length ≤ f
  en : ML.slopeL P ≠ [] → MS.Env P (ML.slopeL P) s t
theorem slope_len (P : List Int) : (ML.slopeL P).length = P.length - 1 := by unfold ML.slopeL; rw [List.length_map, List.length_range]
theorem slope_trim {P : List Int} (h : ML.Trim P) : ML.Trim (ML.slopeL P) := by
  by_cases h0 : ML.slopeL P = []
  · exact .inl h0
  · refine .inr ?_
    rw [slope_len, show P.length - 1 - 1 = P.length - 2 by omega]
    exact slope_top h h0
theorem RowEnv.run {P : List Int} {f s t : Nat} (e : RowEnv P f s t) (h : ML.slopeL P ≠ []) : MS.Run P (ML.slopeL P) (MP.shrunkL P) (MP.shrunkL (ML.slopeL P)) := MS.Run.first (e.en h) e.s4 (slope_trim e.tP) (by rw [slope_len]; omega)
theorem RowEnv.ok {P : List Int} {f s t : Nat} (e : RowEnv P f s t) : MS.RowOk2 f (MP.shrunkL P) (MP.shrunkL (ML.slopeL P)) := by
  by_cases h : ML.slopeL P = []
  · rw [h, MP.shrunkL_nil]
    cases f with
    | zero => rfl
    | succ f => exact .inl rfl
  · exact MS.Run.row (e.en h) f (e.run h) (by rw [MP.shrunkL_len, slope_len]; have := e.lf; omega)
theorem row_cons {P : List Int} {f : Nat} (h : P ≠ []) : MS.rowL f P = MP.shrunkL P :: MS.rowG f (MP.shrunkL P) (MP.shrunkL (ML.slopeL P)) := by unfold MS.rowL; rw [if_neg h]
theorem RowEnv.flat {P : List Int} {f s t : Nat} (e : RowEnv P f s t) (h : ML.slopeL P = []) : MS.rowL f P = [MP.shrunkL P] := by
  rw [row_cons e.nP, h, MP.shrunkL_nil]
  cases f with
  | zero => rfl
  | succ f => show _ :: (if ([] : List Int) = [] then [] else _) = _; rw [if_pos rfl]
theorem RowEnv.get {P : List Int} {f s t : Nat} (e : RowEnv P f s t) (h : ML.slopeL P ≠ []) {k : Nat} {R1 : List Int} (hk : (MS.rowL f P)[k + 1]? = some R1) : ∃ R0, (MS.rowL f P)[k]? = some R0 ∧ MS.PairOk R0 R1 ∧ (MS.rowL f P)[k + 2]? = if MS.nextL R0 R1 = [] then none else some (MS.nextL R0 R1) := by
  rw [row_cons e.nP] at hk ⊢
  exact MS.row_get (e.en h) f (e.run h) (by rw [MP.shrunkL_len, slope_len]; have := e.lf; omega) k R1 hk
theorem RowEnv.second {P : List Int} {f s t : Nat} (e : RowEnv P f s t) (h : ML.slopeL P ≠ []) : (MS.rowL f P)[1]? = some (MP.shrunkL (ML.slopeL P)) := by
  rw [row_cons e.nP]
  have ne : MP.shrunkL (ML.slopeL P) ≠ [] := fun z => h (List.eq_nil_of_length_eq_zero (by rw [← MP.shrunkL_len, z]; rfl))
  have lp := List.length_pos_iff.mpr e.nP
  cases f with
  | zero => have := e.lf; omega
  | succ f => show (if MP.shrunkL (ML.slopeL P) = [] then [] else _)[0]? = _; rw [if_neg ne]; rfl
theorem RowEnv.each {P : List Int} {f s t : Nat} (e : RowEnv P f s t) {k : Nat} {R : List Int} (hk : (MS.rowL f P)[k]? = some R) : ML.Trim R ∧ R ≠ [] := by
  cases k with
  | zero =>
    rw [row_cons e.nP] at hk
    cases hk
    exact ⟨MP.trim_shrunkL e.tP, fun z => e.nP (List.map_eq_nil_iff.mp z)⟩
  | succ k =>
    by_cases h : ML.slopeL P = []
    · rw [e.flat h] at hk; simp at hk
    · obtain ⟨R0, _, pr, _⟩ := e.get h hk
      exact ⟨pr.tB, pr.nB⟩
theorem last_two {α : Type} : ∀ (l : List α), 2 ≤ l.length → ∃ qs x y, l = qs ++ [x, y] ∧ l[l.length - 2]? = some x ∧ l[l.length - 1]? = some y := fun l h => by
  obtain ⟨x, hx⟩ : ∃ x, l[l.length - 2]? = some x := ⟨_, List.getElem?_eq_getElem (by omega)⟩
  obtain ⟨y, hy⟩ : ∃ y, l[l.length - 1]? = some y := ⟨_, List.getElem?_eq_getElem (by omega)⟩
  refine ⟨l.take (l.length - 2), x, y, ?_, hx, hy⟩
  have h1 := List.take_append_drop (l.length - 2) l
  have h2 : l.drop (l.length - 2) = [x, y] := by
    apply List.ext_getElem?
    intro i
    rw [List.getElem?_drop]
    match i with
    | 0 => rw [Nat.add_zero, hx]; rfl
    | 1 => rw [show l.length - 2 + 1 = l.length - 1 by omega, hy]; rfl
    | i + 2 => rw [List.getElem?_eq_none (by omega)]; rfl
  rw [h2] at h1
  exact h1.symm
def sp__law_row_holds (K : PySem.W.Frag) (Cof : String → Addr) : Sp := fun vs H Q _ => ∃ (a b : Addr) (ps : List Addr) (P : List Int) (f s t : Nat), vs = [.ref a, .ref b] ∧ SqL K H a (ps.map V.ref) ∧ Rws H ps (MS.rowL f P) ∧ SqL K H b (P.map V.int) ∧ RowEnv P f s t ∧ ps.length ≤ 1000 ∧ ∀ H', Q (.bl true) H'
def t__law_row_holds (K : PySem.W.Frag) (Cof : String → Addr) (E : XK) : TS :=
  tSeq (tAsg (tSl (rSlL K) (tLc (iEnum K (tCons (tVar 1) (tNil))) (gTup K 2 (gCons (gName 3) (gCons (gName 4) (gNil)))) (tYes) (tOp rMul (tVar 3) (tVar 4)) [3, 4]) (tPart (tC (.int 1))) (tNoPart)) (gName 2))
  (tSeq (tIfS (tTest (tOp (rNeD K) (tOp (rIxL K) (tVar 0) (tC (.int 0))) (tCall (sp__law_shrunk K Cof) [] E0 (tCons (tVar 1) (tNil))))) (tRet (tC (.bl false))) (tNext))
  (tSeq (tIfS (tTest (tOp rEq (tCB (rLenS K) (tCons (tVar 2) (tNil))) (tC (.int 0)))) (tRet (tOp rEq (tCB (rLenS K) (tCons (tVar 0) (tNil))) (tC (.int 1)))) (tNext))
  (tSeq (tIfS (tOr (tTest (tOp rLt (tCB (rLenS K) (tCons (tVar 0) (tNil))) (tC (.int 2)))) (tTest (tOp (rNeD K) (tOp (rIxL K) (tVar 0) (tC (.int 1))) (tCall (sp__law_shrunk K Cof) [] E0 (tCons (tVar 2) (tNil)))))) (tRet (tC (.bl false))) (tNext))
  (tSeq (tFor (iRng2 (tCons (tC (.int 2)) (tCons (tCB (rLenS K) (tCons (tVar 0) (tNil))) (tNil)))) (gName 3) (tSeq (tAsg (tCall (sp__law_rest K Cof) [] E0 (tCons (tOp (rIxL K) (tVar 0) (tOp rISub (tVar 3) (tC (.int 2)))) (tCons (tOp (rIxL K) (tVar 0) (tOp rISub (tVar 3) (tC (.int 1)))) (tNil)))) (gName 5))
  (tIfS (tTest (tOp (rNeD K) (tOp (rIxL K) (tVar 0) (tVar 3)) (tCall (sp__law_shrunk K Cof) [] E0 (tCons (tLc (iList K (tVar 5)) (gName 4) (tYes) (tOp rISub (tC (.int 0)) (tVar 4)) [4]) (tNil))))) (tRet (tC (.bl false))) (tNext))))
  (tRet (tOp rEq (tCB (rLenS K) (tCons (tCall (sp__law_rest K Cof) [] E0 (tCons (tOp (rIxL K) (tVar 0) (tUn rNeg (tC (.int 2)))) (tCons (tOp (rIxL K) (tVar 0) (tUn rNeg (tC (.int 1)))) (tNil)))) (tNil))) (tC (.int 0))))))))

section
variable {K : PySem.W.Frag} {Cof : String → Addr} {vs : List V} {H : Hp} {Q : VK} {E : XK}
theorem len__law_row_holds (h : sp__law_row_holds K Cof vs H Q E) : vs.length = 2 := by
  obtain ⟨a, b, ps, P, f, s, t, rfl, _⟩ := h; rfl
theorem rd__law_row_holds (h : sp__law_row_holds K Cof vs H Q E) : t__law_row_holds K Cof E { nx := fun _ H' => Q .non H', rt := Q } (start ["_law_row", "_law_kp", "_law_steep", "_law_k", "_law_one", "_law_rest_here"] vs) H := by
  obtain ⟨a, b, ps, P, f, s, t, rfl, hA, hW, hB, en, lps, q⟩ := h
  have hlen := hW.len
  have lP := List.length_pos_iff.mpr en.nP
  have lP41 := en.lP
  unfold t__law_row_holds
  walk_at "rd"
  refine r_cEnumA hB ?_
  refine lc_enumI (fun i x => (i : Int) * x) (by decide) hB (by omega) (fun i x hx H1 e1 Q' k => ?_) fun p1 H1 hp1 e1 h1 => ?_
  · walk_at "rd"
    refine r_mul (wide_mul (a := 40) (by have := (List.getElem?_eq_some_iff.mp hx).1; omega) (en.sP x (List.mem_of_getElem? hx)) (by decide) (by decide) (by decide)) ?_
    exact k _ (Evl.Ex.refl _)
  walk_at "rd"
  refine r_slI (SqL.inj h1) fun p2 H2 hp2 e2 h2 => ?_
  have es : sliceI ((List.range P.length).map fun i : Nat => (i : Int) * ML.cf P i) (some 1) none = ML.slopeL P := by
    rw [sliceI_fromI (by decide)]
    refine ML.ext ?_ fun k hk => ?_
    · rw [List.length_drop, List.length_map, List.length_range, slope_len]; rfl
    · rw [List.length_drop, List.length_map, List.length_range] at hk
      rw [ML.cf_drop, ML.cf_slopeL, ML.cf_range (by omega), show (1 : Int).toNat + k = k + 1 by omega]
      congr 1
  rw [es] at h2
  have e12 := e1.trans e2
  have hW2 := hW.ex e12
  have hA2 := e12.l hA
  have hB2 := e12.l hB
  have w0 : (MS.rowL f P)[0]? = some (MP.shrunkL P) := by rw [row_cons en.nP]; rfl
  have lW : 0 < (MS.rowL f P).length := by rw [row_cons en.nP]; simp
  obtain ⟨p0, hp0⟩ : ∃ p0, ps[0]? = some p0 := ⟨_, List.getElem?_eq_getElem (by omega)⟩
  obtain ⟨R, hR, hpR⟩ := hW2.get hp0
  rw [w0] at hR
  cases hR
  clear h1 e1 e2 hp1 hW hA hB
  walk_at "rd"
  refine r_ixL hA2 (v := .ref p0) (atI_nat (j := 0) (by rw [List.getElem?_map, hp0]; rfl)) ?_
  walk_at "rd"
  refine c__law_shrunk hB2 (by omega) en.tP (fun h => shr_ok (by decide) (by decide) en.sP en.tP h) fun p3 H3 hp3 e3 h3 => ?_
  walk_at "rd"
  refine r_neInts (SqL.inj (e3 _ _ hpR)) (SqL.inj h3) ?_
  walk_at "rd"
  refine ite_nd (fun h => absurd rfl h) (fun _ => ?_)
  have h2' := e3 _ _ h2
  have hW3 := hW2.ex e3
  have hA3 := e3.l hA2
  clear h2 hW2 hA2 hB2 h3 hp3 e3 e12 hpR
  walk_at "rd"
  try rw [List.length_map]
  refine ite_d (fun h0 => ?_) (fun h0 => ?_)
  · have hs : ML.slopeL P = [] := List.eq_nil_of_length_eq_zero (by omega)
    have fl := en.flat hs
    walk_at "rd"
    try rw [List.length_map]
    rw [fl] at hlen
    rw [show decide ((ps.length : Int) = 1) = true from decide_eq_true (by rw [hlen]; rfl)]
    exact q _
  have hs : ML.slopeL P ≠ [] := fun z => h0 (by rw [z]; rfl)
  have w1 := en.second hs
  have lW2 : 2 ≤ (MS.rowL f P).length := by
    have := (List.getElem?_eq_some_iff.mp w1).1
    omega
  walk_at "rd"
  try rw [List.length_map]
  refine ite_d (fun h => absurd h (by omega)) (fun _ => ?_)
  obtain ⟨p1, hp1⟩ : ∃ p1, ps[1]? = some p1 := ⟨_, List.getElem?_eq_getElem (by omega)⟩
  obtain ⟨R, hR, hpR⟩ := hW3.get hp1
  rw [w1] at hR
  cases hR
  walk_at "rd"
  refine r_ixL hA3 (v := .ref p1) (atI_nat (j := 1) (by rw [List.getElem?_map, hp1]; rfl)) ?_
  walk_at "rd"
  refine c__law_shrunk (SqL.inj h2') (by rw [slope_len]; omega) (slope_trim en.tP) (fun h => shr_ok (n := 4018) (by decide) (by decide) ((slope_sz en.sP (by omega)).mono (by decide)) (slope_trim en.tP) h) fun p4 H4 hp4 e4 h4 => ?_
  walk_at "rd"
  refine r_neInts (SqL.inj (e4 _ _ hpR)) (SqL.inj h4) ?_
  walk_at "rd"
  refine ite_nd (fun h => absurd rfl h) (fun _ => ?_)
  have hW4 := hW3.ex e4
  have hA4 := e4.l hA3
  clear h2' hW3 hA3 h4 hp4 e4 hpR
  walk_at "rd"
  try rw [List.length_map]
  refine r_iRng2A ⟨by omega, by omega, by omega, by omega⟩ ?_
  rw [show ((ps.length : Int) - 2).toNat = ps.length - 2 by omega]
  refine loop_range (fun i σ' H' => ∃ (u3 u4 u5 : Option V), σ' = [some (.ref a), some (.ref b), some (.ref p2), u3, u4, u5] ∧ Ex H4 H') ⟨_, _, _, rfl, Evl.Ex.refl _⟩ (fun i σ' H' hi hp => ?_) (fun σ' H' hp => ?_)
  · obtain ⟨u3, u4, u5, rfl, e5⟩ := hp
    have hA5 := e5.l hA4
    obtain ⟨x0, hx0⟩ : ∃ x0, ps[i]? = some x0 := ⟨_, List.getElem?_eq_getElem (by omega)⟩
    obtain ⟨x1, hx1⟩ : ∃ x1, ps[i + 1]? = some x1 := ⟨_, List.getElem?_eq_getElem (by omega)⟩
    obtain ⟨x2, hx2⟩ : ∃ x2, ps[i + 2]? = some x2 := ⟨_, List.getElem?_eq_getElem (by omega)⟩
    obtain ⟨R0, hR0, hxR0⟩ := (hW4.ex e5).get hx0
    obtain ⟨R1, hR1, hxR1⟩ := (hW4.ex e5).get hx1
    obtain ⟨R2, hR2, hxR2⟩ := (hW4.ex e5).get hx2
    obtain ⟨R0', hR0', pr, hn⟩ := en.get hs hR1
    rw [hR0] at hR0'
    cases hR0'
    rw [hR2] at hn
    have nN : MS.nextL R0 R1 ≠ [] := fun z => by rw [if_pos z] at hn; cases hn
    rw [if_neg nN] at hn
    cases hn
    have lr := MD.rem_len (P := R0) pr.tB pr.nB
    have rn : MD.remL R0 R1 ≠ [] := fun z => nN (MS.next_nil.mpr z)
    have e2' : (2 : Int) + (i : Int) - 2 = ((i : Nat) : Int) := by omega
    have e1' : (2 : Int) + (i : Int) - 1 = ((i + 1 : Nat) : Int) := by omega
    have e0' : (2 : Int) + (i : Int) = ((i + 2 : Nat) : Int) := by omega
    have lA1 := pr.lA
    have lB1 := pr.lB
    walk_at "rd"
    rw [e2']
    refine r_ixL hA5 (v := .ref x0) (atI_nat (j := i) (by rw [List.getElem?_map, hx0]; rfl)) ?_
    walk_at "rd"
    rw [e1']
    refine r_ixL hA5 (v := .ref x1) (atI_nat (j := i + 1) (by rw [List.getElem?_map, hx1]; rfl)) ?_
    walk_at "rd"
    refine c__law_rest (SqL.inj hxR0) (SqL.inj hxR1) pr.tA pr.tB pr.nB pr.sA pr.sB (by omega) (by omega) fun p6 H6 L hp6 e6 h6 at6 l6 => ?_
    obtain ⟨en1, en2⟩ := rest_next at6 pr.tA pr.tB pr.nB l6
    have nL : L ≠ [] := fun z => rn (en2.mp z)
    walk_at "rd"
    rw [e0']
    refine r_ixL (e6.l hA5) (v := .ref x2) (atI_nat (j := i + 2) (by rw [List.getElem?_map, hx2]; rfl)) ?_
    walk_at "rd"
    refine lc_ints (fun x => 0 - x) (SqL.inj h6) (by omega) (fun c hc H7 e7 Q' k' => ?_) fun p7 H7 hp7 e7 h7 => ?_
    · walk_at "rd"
      exact k' _ (Evl.Ex.refl _)
    walk_at "rd"
    refine c__law_shrunk (SqL.inj h7) (by rw [List.length_map]; omega) (MS.neg_trim at6.tL) (fun h => ⟨?_, .inr (by rw [en1]; exact (pr.nx rn).2)⟩) fun p8 H8 hp8 e8 h8 => ?_
    · have := MP.gcdL_trim_pos (MS.neg_trim at6.tL) h; omega
    rw [en1] at h8
    walk_at "rd"
    refine r_neInts (SqL.inj (e8 _ _ (e7 _ _ (e6 _ _ hxR2)))) (SqL.inj h8) ?_
    walk_at "rd"
    refine ite_nd (fun h => absurd rfl h) (fun _ => ?_)
    walk_at "rd"
    exact ⟨_, _, _, rfl, ((e5.trans e6).trans e7).trans e8⟩
  · obtain ⟨u3, u4, u5, rfl, e5⟩ := hp
    have hA5 := e5.l hA4
    obtain ⟨qs, x, y, eps, hx, hy⟩ := last_two ps (by omega)
    have hy' : ps[ps.length - 2 + 1]? = some y := by rw [show ps.length - 2 + 1 = ps.length - 1 by omega]; exact hy
    obtain ⟨R0, hR0, hxR0⟩ := (hW4.ex e5).get hx
    obtain ⟨R1, hR1, hxR1⟩ := (hW4.ex e5).get hy'
    obtain ⟨R0', hR0', pr, hn⟩ := en.get hs hR1
    rw [hR0] at hR0'
    cases hR0'
    have hend : (MS.rowL f P)[ps.length - 2 + 2]? = none := List.getElem?_eq_none (by omega)
    rw [hend] at hn
    have nN : MS.nextL R0 R1 = [] := by
      apply Classical.byContradiction
      intro z
      rw [if_neg z] at hn; cases hn
    have lA1 := pr.lA
    have lB1 := pr.lB
    have hA6 : SqL K H' a (qs.map V.ref ++ [V.ref x, V.ref y]) := by
      have : ps.map V.ref = qs.map V.ref ++ [V.ref x, V.ref y] := by rw [eps, List.map_append]; rfl
      rw [← this]; exact hA5
    walk_at "rd"
    refine r_ix2 hA6 ?_
    walk_at "rd"
    refine r_ix1 hA6 ?_
    walk_at "rd"
    refine c__law_rest (SqL.inj hxR0) (SqL.inj hxR1) pr.tA pr.tB pr.nB pr.sA pr.sB (by omega) (by omega) fun p6 H6 L hp6 e6 h6 at6 l6 => ?_
    obtain ⟨en1, en2⟩ := rest_next at6 pr.tA pr.tB pr.nB l6
    have nL : L = [] := en2.mpr (MS.next_nil.mp nN)
    walk_at "rd"
    try rw [List.length_map]
    rw [nL]
    exact q _
theorem c__law_row_holds {a b : Addr} {ps : List Addr} {P : List Int} {f s t : Nat} (hA : SqL K H a (ps.map V.ref)) (hW : Rws H ps (MS.rowL f P)) (hB : SqL K H b (P.map V.int)) (en : RowEnv P f s t) (lps : ps.length ≤ 1000) (q : ∀ H', Q (.bl true) H') : sp__law_row_holds K Cof [.ref a, .ref b] H Q E := ⟨a, b, ps, P, f, s, t, rfl, hA, hW, hB, en, lps, q⟩
end

/-! #### law -/
--USE CR RN RE
def sp_law (K : PySem.W.Frag) (Cof : String → Addr) : Sp := fun vs H Q _ => ∃ (a : Addr) (ns : List Int), vs = [.ref a] ∧ SqL K H a (ns.map V.int) ∧ ns.length ≤ 63 ∧ ∀ H', Q (.bl true) H'
def t_law (K : PySem.W.Frag) (Cof : String → Addr) (E : XK) : TS :=
  tSeq (tAsg (tOp (rIxL K) (tLst (tCons (tC (.int 3)) (tCons (tC (.int 1000)) (tCons (tOp rPow (tC (.int 10)) (tC (.int 12))) (tNil))))) (tOp rMod (tCall (sp__law_cell_at K Cof) [] E0 (tCons (tVar 0) (tCons (tC (.int 0)) (tNil)))) (tC (.int 3)))) (gName 1))
  (tSeq (tAsg (tCall (sp__law_trim K Cof) [] E0 (tCons (tLc (iList K (tSl (rSlL K) (tVar 0) (tPart (tC (.int 1))) (tPart (tC (.int 10))))) (gName 3) (tYes) (tCall (sp__law_within K Cof) [] E0 (tCons (tVar 3) (tCons (tVar 1) (tNil)))) [3]) (tNil))) (gName 2))
  (tCut (tIfS (tAnd (tTest (tOp rEq (tVar 1) (tC (.int 3)))) (tTest (tOp rEq (tOp rMod (tOp rDiv (tCall (sp__law_cell_at K Cof) [] E0 (tCons (tVar 0) (tCons (tC (.int 0)) (tNil)))) (tC (.int 6))) (tC (.int 4))) (tC (.int 1))))) (tAsg (tCall (sp__law_trim K Cof) [] E0 (tCons (tLc (iList K (tSl (rSlL K) (tVar 0) (tPart (tC (.int 1))) (tPart (tC (.int 42))))) (gName 3) (tYes) (tCall (sp__law_within K Cof) [] E0 (tCons (tVar 3) (tCons (tVar 1) (tNil)))) [3]) (tNil))) (gName 2)) (tNext))
  (tCut (tIfS (tTest (tOp rEq (tOp rMod (tOp rDiv (tCall (sp__law_cell_at K Cof) [] E0 (tCons (tVar 0) (tCons (tC (.int 0)) (tNil)))) (tC (.int 3))) (tC (.int 2))) (tC (.int 1)))) (tSeq (tAsg (tCall (sp__law_trim K Cof) [] E0 (tCons (tSl (rSlL K) (tVar 2) (tNoPart) (tPart (tC (.int 5)))) (tNil))) (gName 2))
  (tAsg (tCall (sp__law_mul K Cof) [] E0 (tCons (tVar 2) (tCons (tVar 2) (tNil)))) (gName 2))) (tNext))
  (tSeq (tAsg (tCB (rListS K) (tCons (tVar 2) (tNil))) (gName 4))
  (tSeq (tAsg (tCall (sp_row_of K Cof) [] E0 (tCons (tVar 4) (tNil))) (gName 5))
  (tSeq (tIfS (tOr (tNot (tB (tCB (rIsi K) (tCons (tVar 5) (tCons (tC (.ty "list")) (tNil)))))) (tTest (tOp (rNeD K) (tVar 4) (tVar 2)))) (tRet (tC (.bl false))) (tNext))
  (tSeq (tFor (iList K (tVar 5)) (gName 6) (tIfS (tOr (tNot (tB (tCall (sp__law_is_poly K Cof) [] E0 (tCons (tVar 6) (tNil))))) (tTest (tOp rEq (tCB (rLenS K) (tCons (tVar 6) (tNil))) (tC (.int 0))))) (tRet (tC (.bl false))) (tNext)))
  (tSeq (tIfS (tTest (tOp rEq (tCB (rLenS K) (tCons (tVar 2) (tNil))) (tC (.int 0)))) (tRet (tOp (rEqD K) (tVar 5) (tLst (tNil)))) (tNext))
  (tRet (tAndV (tOp rGt (tCB (rLenS K) (tCons (tVar 5) (tNil))) (tC (.int 0))) (tCall (sp__law_row_holds K Cof) [] E0 (tCons (tVar 5) (tCons (tVar 2) (tNil))))))))))))))

section
variable {K : PySem.W.Frag} {Cof : String → Addr} {vs : List V} {H : Hp} {Q : VK} {E : XK}
theorem len_law (h : sp_law K Cof vs H Q E) : vs.length = 1 := by
  obtain ⟨a, ns, rfl, _⟩ := h; rfl
theorem pick_most (i : Nat) (h : i < 3) : ([3, 1000, 1000000000000] : List Int).getD i 0 = 3 ∨ (0 ≤ ([3, 1000, 1000000000000] : List Int).getD i 0 ∧ ([3, 1000, 1000000000000] : List Int).getD i 0 ≤ 1000000000000) := by
  rcases i with _ | _ | _ | i
  · exact .inl rfl
  · exact .inr ⟨by decide, by decide⟩
  · exact .inr ⟨by decide, by decide⟩
  · omega
theorem rowG_len : ∀ (f : Nat) (A B : List Int), (MS.rowG f A B).length ≤ f
  | 0, A, B => Nat.le_refl _
  | f + 1, A, B => by
    show (if B = [] then [] else B :: MS.rowG f B (MS.nextL A B)).length ≤ f + 1
    split
    · simp
    · rw [List.length_cons]; have := rowG_len f B (MS.nextL A B); omega
/-- the polynomial of the law -/
def KP (n : Nat) (P : List Int) : Prop := ML.Trim P ∧ ((P.length ≤ 41 ∧ ML.Sz 2 P) ∨ (P.length ≤ 9 ∧ ML.Sz n P))
theorem slope_sz' {P : List Int} {n m : Nat} (h : ML.Sz n P) (hl : P.length ≤ 2 ^ m) : ML.Sz (m + n) (ML.slopeL P) := ML.Sz.of fun k hk => by
  rw [ML.cf_slopeL]
  have hk' : k < P.length - 1 := by rw [slope_len] at hk; exact hk
  exact wide_lt (show ((k : Int) + 1).natAbs < 2 ^ m by omega) (h.cf (k + 1))
theorem KP.env {P : List Int} (h : KP 86 P) (nP : P ≠ []) : ∃ s t, RowEnv P 100 s t := by
  obtain ⟨tP, ⟨l, sz⟩ | ⟨l, sz⟩⟩ := h
  · refine ⟨8, 16, tP, nP, l, sz.mono (by decide), by decide, by omega, fun hn => ⟨tP, nP, hn, sz.mono (by decide), slope_sz' (m := 6) sz (by omega), ?_, ?_, by omega⟩⟩
    · rw [slope_len]; omega
    · rw [slope_len]; omega
  · refine ⟨92, 98, tP, nP, by omega, sz.mono (by decide), by decide, by omega, fun hn => ⟨tP, nP, hn, sz.mono (by decide), (slope_sz' (m := 4) sz (by omega)).mono (by decide), ?_, ?_, by omega⟩⟩
    · rw [slope_len]; omega
    · rw [slope_len]; omega
theorem sgn_nat {c s : Int} (h : 0 ≤ s) : (sgn c s).natAbs ≤ s.natAbs := by
  unfold sgn
  have d0 := Int.fmod_nonneg_of_pos c (show (0 : Int) < 2 * s + 1 by omega)
  have d1 := Int.fmod_lt_of_pos c (show (0 : Int) < 2 * s + 1 by omega)
  omega
theorem rd_law (h : sp_law K Cof vs H Q E) : t_law K Cof E { nx := fun _ H' => Q .non H', rt := Q } (start ["_law_script", "_law_most", "_law_kp", "_law_cell", "_law_handed", "_law_row", "_law_one"] vs) H := by
  obtain ⟨a, ns, rfl, hS, hl, q⟩ := h
  have e12 : (10 : Int) ^ (12 : Int).toNat = 1000000000000 := by decide
  unfold t_law
  walk_at "rd"
  rw [e12]
  refine r_lstK fun p1 H1 hp1 e1 h1 => ?_
  have hS1 := e1.l hS
  walk_at "rd"
  have i0 := Int.fmod_nonneg_of_pos (cellOf ns 0) (show (0 : Int) < 3 by decide)
  have i1 := Int.fmod_lt_of_pos (cellOf ns 0) (show (0 : Int) < 3 by decide)
  refine r_ixI (ns := [3, 1000, 1000000000000]) (SqL.inj h1) i0 i1 ?_
  have hm := pick_most ((cellOf ns 0).fmod 3).toNat (by omega)
  generalize ([3, 1000, 1000000000000] : List Int).getD ((cellOf ns 0).fmod 3).toNat 0 = most at hm ⊢
  have m0 : 0 ≤ most := by omega
  have m1 : most.natAbs < 2 ^ 40 := by omega
  have m4 : most.natAbs < 2 ^ 4000 := Nat.lt_of_lt_of_le m1 (Nat.pow_le_pow_right (by decide) (by decide))
  clear i0 i1 h1
  walk_at "rd"
  refine r_slI hS1 fun p2 H2 hp2 e2 h2 => ?_
  rw [sliceI_bothI (by decide) (by decide)] at h2
  have hS2 := e2.l hS1
  have l2 : ((ns.drop (1 : Int).toNat).take ((10 : Int).toNat - (1 : Int).toNat)).length ≤ 9 := by rw [List.length_take]; exact Nat.min_le_left _ _
  generalize (ns.drop (1 : Int).toNat).take ((10 : Int).toNat - (1 : Int).toNat) = C at h2 l2
  walk_at "rd"
  refine lc_ints (fun c => sgn c most) (SqL.inj h2) (by omega) (fun c hc H3 e3 Q' k' => ?_) fun p3 H3 hp3 e3 h3 => ?_
  · walk_at "rd"
    refine c__law_within m0 m4 ?_
    exact k' _ (Evl.Ex.refl _)
  have hS3 := e3.l hS2
  walk_at "rd"
  refine c__law_trim (SqL.inj h3) (by rw [List.length_map]; omega) fun p4 H4 hp4 e4 h4 => ?_
  have hS4 := e4.l hS3
  have k4 : KP 40 (ML.trimL (C.map fun c => sgn c most)) := by
    refine ⟨ML.trim_trimL _, .inr ⟨Nat.le_trans (ML.trimL_len _) (by rw [List.length_map]; exact l2), ML.Sz.trim fun z hz => ?_⟩⟩
    obtain ⟨c, _, rfl⟩ := List.mem_map.mp hz
    exact Nat.lt_of_le_of_lt (sgn_nat m0) m1
  generalize ML.trimL (C.map fun c => sgn c most) = P at h4 k4
  have e14 := ((e1.trans e2).trans e3).trans e4
  clear h2 h3 e1 e2 e3 e4 hp1 hp2 hp3 hp4 hS1 hS2 hS3 hS l2
  walk_at "rd"
  refine ⟨fun σ' H' => ∃ (p : Addr) (P : List Int), σ' = [some (.ref a), some (.int most), some (.ref p), none, none, none, none] ∧ SqL K H' a (ns.map V.int) ∧ H' p = some (.lst (P.map V.int)) ∧ KP 40 P, ?_, fun σ' H' hM => ?_⟩
  · walk_at "rd"
    have two : ∀ (c : Prop) [Decidable c] (X : Prop), X → X → (if c then X else X) := fun c _ X h1 h2 => by split <;> assumption
    refine ite_d (fun hm3 => ?_) (fun _ => ?_)
    · walk_at "rd"
      refine ite_d (fun _ => ?_) (fun _ => ?_)
      · walk_at "rd"
        refine r_slI hS4 fun p2 H2 hp2 e2 h2 => ?_
        rw [sliceI_bothI (by decide) (by decide)] at h2
        have l2 : ((ns.drop (1 : Int).toNat).take ((42 : Int).toNat - (1 : Int).toNat)).length ≤ 41 := by rw [List.length_take]; exact Nat.min_le_left _ _
        generalize (ns.drop (1 : Int).toNat).take ((42 : Int).toNat - (1 : Int).toNat) = C at h2 l2
        walk_at "rd"
        refine lc_ints (fun c => sgn c most) (SqL.inj h2) (by omega) (fun c hc H3 e3 Q' k' => ?_) fun p3 H3 hp3 e3 h3 => ?_
        · walk_at "rd"
          refine c__law_within m0 m4 ?_
          exact k' _ (Evl.Ex.refl _)
        walk_at "rd"
        refine c__law_trim (SqL.inj h3) (by rw [List.length_map]; omega) fun p5 H5 hp5 e5 h5 => ?_
        walk_at "rd"
        refine ⟨p5, _, rfl, e5.l (e3.l (e2.l hS4)), h5, ML.trim_trimL _, .inl ⟨Nat.le_trans (ML.trimL_len _) (by rw [List.length_map]; exact l2), ML.Sz.trim fun z hz => ?_⟩⟩
        obtain ⟨c, _, rfl⟩ := List.mem_map.mp hz
        have := sgn_nat (c := c) m0
        rw [hm3] at this ⊢
        exact Nat.lt_of_le_of_lt this (by decide)
      · walk_at "rd"
        exact ⟨p4, P, rfl, hS4, h4, k4⟩
    · walk_at "rd"
      exact ⟨p4, P, rfl, hS4, h4, k4⟩
  clear h4 k4 hS4 e14
  obtain ⟨p, P, rfl, hS, hP, kP⟩ := hM
  walk_at "rd"
  refine ⟨fun σ2 H2 => ∃ (p : Addr) (P : List Int), σ2 = [some (.ref a), some (.int most), some (.ref p), none, none, none, none] ∧ H2 p = some (.lst (P.map V.int)) ∧ KP 86 P, ?_, fun σ2 H2 hM => ?_⟩
  · walk_at "rd"
    refine ite_d (fun _ => ?_) (fun _ => ?_)
    · walk_at "rd"
      refine r_slI (SqL.inj hP) fun p2 H2 hp2 e2 h2 => ?_
      rw [sliceI_toI (by decide)] at h2
      have l2 : (P.take (5 : Int).toNat).length ≤ 5 := by rw [List.length_take]; exact Nat.min_le_left _ _
      have s2 : ML.Sz 40 (P.take (5 : Int).toNat) := by
        obtain ⟨_, ⟨_, sz⟩ | ⟨_, sz⟩⟩ := kP
        · exact (sz.mono (by decide)).take _
        · exact sz.take _
      walk_at "rd"
      refine c__law_trim (SqL.inj h2) (by omega) fun p3 H3 hp3 e3 h3 => ?_
      have t3 := ML.trim_trimL (P.take (5 : Int).toNat)
      have l3 := Nat.le_trans (ML.trimL_len (P.take (5 : Int).toNat)) l2
      have s3 := s2.trim
      generalize ML.trimL (P.take (5 : Int).toNat) = R at h3 t3 l3 s3
      walk_at "rd"
      refine c__law_mul 40 40 (SqL.inj h3) (SqL.inj h3) (by omega) (by omega) s3 s3 ⟨by decide, by decide, by decide⟩ fun p4 H4 hp4 e4 h4 => ?_
      walk_at "rd"
      refine ⟨p4, _, rfl, h4, MR.trim_mulU t3 t3, .inr ⟨?_, (ML.Sz.mulU s3 s3).mono (by omega)⟩⟩
      unfold ML.mulU
      split
      · simp
      · rw [List.length_map, List.length_range]; omega
    · walk_at "rd"
      refine ⟨p, P, rfl, hP, kP.1, kP.2.imp id fun h => ⟨h.1, h.2.mono (by decide)⟩⟩
  clear hP kP
  obtain ⟨p, P, rfl, hP, kP⟩ := hM
  have lP : P.length ≤ 41 := by
    obtain ⟨_, ⟨l, _⟩ | ⟨l, _⟩⟩ := kP <;> omega
  have sP : ML.Sz 86 P := by
    obtain ⟨_, ⟨_, s⟩ | ⟨_, s⟩⟩ := kP
    · exact s.mono (by decide)
    · exact s
  walk_at "rd"
  refine r_list (SqL.inj hP) fun p3 H3 hp3 e3 h3 => ?_
  have hP3 := e3 _ _ hP
  walk_at "rd"
  refine c_row_of 86 100 (SqL.inj h3) (by omega) (by decide) sP ⟨by decide, by decide⟩ kP.1 (fun hn => ?_) ?_
  · obtain ⟨s, t, en⟩ := kP.env hn
    exact en.ok
  intro r ps H4 hr hps nr e4 h4 hW4
  have hlen := hW4.len
  have hP4 := e4 _ _ hP3
  have h34 := e4 _ _ h3
  walk_at "rd"
  refine r_isi (.base (.lst h4)) (.ty _) (kit_ty (r := true) (by decide +kernel)) ?_
  walk_at "rd"
  refine r_neInts (SqL.inj h34) (SqL.inj hP4) ?_
  walk_at "rd"
  refine ite_nd (fun h => absurd rfl h) (fun _ => ?_)
  have each : ∀ (k : Nat) (R : List Int), (MS.rowL 100 P)[k]? = some R → ML.Trim R ∧ R ≠ [] := fun k R hR => by
    by_cases hn : P = []
    · have : MS.rowL 100 P = [] := by unfold MS.rowL; rw [if_pos hn]
      rw [this] at hR; simp at hR
    · obtain ⟨s, t, en⟩ := kP.env hn
      exact en.each hR
  have lps : ps.length ≤ 1000 := by
    rw [hlen]
    by_cases hn : P = []
    · have : MS.rowL 100 P = [] := by unfold MS.rowL; rw [if_pos hn]
      rw [this]; exact Nat.zero_le _
    · rw [row_cons hn, List.length_cons]
      have := rowG_len 100 (MP.shrunkL P) (MP.shrunkL (ML.slopeL P))
      omega
  walk_at "rd"
  refine loop_list (xs := ps.map V.ref) (fun i σ' H' => ∃ u, σ' = [some (.ref a), some (.int most), some (.ref p), none, some (.ref p3), some (.ref r), u] ∧ H4 = H') ⟨_, rfl, rfl⟩ (fun i σ' H' _ hp => ?_) (fun i x σ' H' hx hp => ?_) (fun σ' H' hp => ?_)
  · obtain ⟨u, rfl, rfl⟩ := hp
    exact SqL.inj h4
  · obtain ⟨u, rfl, rfl⟩ := hp
    rw [List.getElem?_map] at hx
    obtain ⟨x2, hx2, rfl⟩ := Option.map_eq_some_iff.mp hx
    obtain ⟨R, hR, hxR⟩ := hW4.get hx2
    obtain ⟨tR, nR⟩ := each i R hR
    have lR := List.length_pos_iff.mpr nR
    walk_at "rd"
    refine c__law_is_poly hxR tR ?_
    walk_at "rd"
    try rw [List.length_map]
    refine ite_d (fun h => absurd h (by omega)) (fun _ => ?_)
    walk_at "rd"
    exact ⟨_, rfl, rfl⟩
  obtain ⟨u, rfl, rfl⟩ := hp
  walk_at "rd"
  try rw [List.length_map]
  refine ite_d (fun h0 => ?_) (fun h0 => ?_)
  · have hn : P = [] := List.eq_nil_of_length_eq_zero (by omega)
    have : MS.rowL 100 P = [] := by unfold MS.rowL; rw [if_pos hn]
    rw [this] at hW4 hlen
    walk_at "rd"
    refine r_lstK fun p5 H5 hp5 e5 h5 => ?_
    refine r_eqRows (SqL.inj (e5 _ _ h4)) (hW4.ex e5) (qs := []) (Ss := []) (SqL.inj h5) trivial ?_
    rw [show decide (([] : List (List Int)) = []) = true from rfl]
    exact q _
  · have hn : P ≠ [] := fun z => h0 (by rw [z]; rfl)
    obtain ⟨s, t, en⟩ := kP.env hn
    have l0 : 0 < ps.length := by rw [hlen, row_cons hn]; simp
    walk_at "rd"
    try rw [List.length_map]
    refine ite_d (fun _ => ?_) (fun h => absurd (show (0 : Int) < (ps.length : Int) by omega) h)
    walk_at "rd"
    exact c__law_row_holds (SqL.inj h4) hW4 (SqL.inj hP4) en lps q
theorem c_law {a : Addr} {ns : List Int} (h : SqL K H a (ns.map V.int)) (hl : ns.length ≤ 63) (q : ∀ H', Q (.bl true) H') : sp_law K Cof [.ref a] H Q E := ⟨a, ns, rfl, h, hl, q⟩
end

def topS (i : Nat) : Stmt := PySem.Challenge.pw_rootspan_k22_rows.main.body.getD i (.Pass ⟨0, 0, 0, 0⟩)
abbrev s_shared : Stmt := topS 4
theorem sc_shared : FnScope ["row", "found", "one", "rest"] ["row"] (defScope s_shared) := ⟨rfl, rfl, rfl, by decide +kernel, rfl, by decide +kernel, by decide +kernel⟩
abbrev s_poly : Stmt := topS 6
theorem sc_poly : FnScope ["row", "size"] ["row"] (defScope s_poly) := ⟨rfl, rfl, rfl, by decide +kernel, rfl, by decide +kernel, by decide +kernel⟩
abbrev s_degree : Stmt := topS 7
theorem sc_degree : FnScope ["P"] ["P"] (defScope s_degree) := ⟨rfl, rfl, rfl, by decide +kernel, rfl, by decide +kernel, by decide +kernel⟩
abbrev s_slope : Stmt := topS 8
theorem sc_slope : FnScope ["P", "k"] ["P"] (defScope s_slope) := ⟨rfl, rfl, rfl, by decide +kernel, rfl, by decide +kernel, by decide +kernel⟩
abbrev s_shrunk : Stmt := topS 9
theorem sc_shrunk : FnScope ["P", "part", "one"] ["P"] (defScope s_shrunk) := ⟨rfl, rfl, rfl, by decide +kernel, rfl, by decide +kernel, by decide +kernel⟩
abbrev s_divided : Stmt := topS 11
theorem sc_divided : FnScope ["P", "Q", "gap", "factor", "k", "rest", "one", "quotient", "many", "place"] ["P", "Q"] (defScope s_divided) := ⟨rfl, rfl, rfl, by decide +kernel, rfl, by decide +kernel, by decide +kernel⟩
abbrev s_row_of : Stmt := topS 13
theorem sc_row_of : FnScope ["P", "row", "later", "rest", "one"] ["P"] (defScope s_row_of) := ⟨rfl, rfl, rfl, by decide +kernel, rfl, by decide +kernel, by decide +kernel⟩
abbrev s__law_cell_at : Stmt := topS 15
theorem sc__law_cell_at : FnScope ["_law_script", "_law_k"] ["_law_script", "_law_k"] (defScope s__law_cell_at) := ⟨rfl, rfl, rfl, by decide +kernel, rfl, by decide +kernel, by decide +kernel⟩
abbrev s__law_whole : Stmt := topS 16
theorem sc__law_whole : FnScope ["_law_found"] ["_law_found"] (defScope s__law_whole) := ⟨rfl, rfl, rfl, by decide +kernel, rfl, by decide +kernel, by decide +kernel⟩
abbrev s__law_within : Stmt := topS 17
theorem sc__law_within : FnScope ["_law_cell", "_law_most"] ["_law_cell", "_law_most"] (defScope s__law_within) := ⟨rfl, rfl, rfl, by decide +kernel, rfl, by decide +kernel, by decide +kernel⟩
abbrev s__law_trim : Stmt := topS 18
theorem sc__law_trim : FnScope ["_law_row", "_law_size"] ["_law_row"] (defScope s__law_trim) := ⟨rfl, rfl, rfl, by decide +kernel, rfl, by decide +kernel, by decide +kernel⟩
abbrev s__law_mul : Stmt := topS 19
theorem sc__law_mul : FnScope ["_law_kp", "_law_kq", "_law_made", "_law_k", "_law_i", "_law_one", "_law_j", "_law_other"] ["_law_kp", "_law_kq"] (defScope s__law_mul) := ⟨rfl, rfl, rfl, by decide +kernel, rfl, by decide +kernel, by decide +kernel⟩
abbrev s__law_is_poly : Stmt := topS 20
theorem sc__law_is_poly : FnScope ["_law_found", "_law_one"] ["_law_found"] (defScope s__law_is_poly) := ⟨rfl, rfl, rfl, by decide +kernel, rfl, by decide +kernel, by decide +kernel⟩
abbrev s__law_gcd : Stmt := topS 21
theorem sc__law_gcd : FnScope ["_law_a", "_law_b", "_law_rest_here"] ["_law_a", "_law_b"] (defScope s__law_gcd) := ⟨rfl, rfl, rfl, by decide +kernel, rfl, by decide +kernel, by decide +kernel⟩
abbrev s__law_shrunk : Stmt := topS 22
theorem sc__law_shrunk : FnScope ["_law_kp", "_law_most", "_law_one"] ["_law_kp"] (defScope s__law_shrunk) := ⟨rfl, rfl, rfl, by decide +kernel, rfl, by decide +kernel, by decide +kernel⟩
abbrev s__law_rest : Stmt := topS 23
theorem sc__law_rest : FnScope ["_law_kp", "_law_kq", "_law_left", "_law_gap", "_law_top", "_law_one", "_law_k"] ["_law_kp", "_law_kq"] (defScope s__law_rest) := ⟨rfl, rfl, rfl, by decide +kernel, rfl, by decide +kernel, by decide +kernel⟩
abbrev s__law_row_holds : Stmt := topS 24
theorem sc__law_row_holds : FnScope ["_law_row", "_law_kp", "_law_steep", "_law_k", "_law_one", "_law_rest_here"] ["_law_row", "_law_kp"] (defScope s__law_row_holds) := ⟨rfl, rfl, rfl, by decide +kernel, rfl, by decide +kernel, by decide +kernel⟩
abbrev s_law : Stmt := topS 25
theorem sc_law : FnScope ["_law_script", "_law_most", "_law_kp", "_law_cell", "_law_handed", "_law_row", "_law_one"] ["_law_script"] (defScope s_law) := ⟨rfl, rfl, rfl, by decide +kernel, rfl, by decide +kernel, by decide +kernel⟩
structure Txt (K : PySem.W.Frag) (mg : Str → Option Value) (Cof : String → Addr) (ad : Nat → Addr) (fd : Nat → FuncData) : Prop where
  z_abs : mg "abs" = none
  z_bool : mg "bool" = none
  z_enumerate : mg "enumerate" = none
  z_int : mg "int" = none
  z_isinstance : mg "isinstance" = none
  z_len : mg "len" = none
  z_list : mg "list" = none
  z_range : mg "range" = none
  z_reversed : mg "reversed" = none
  g_shared : mg "shared" = some (.ref (ad 0))
  F_shared : Fun K "shared" "shared" s_shared (ad 0) (fd 0)
  g_poly : mg "poly" = some (.ref (ad 1))
  F_poly : Fun K "poly" "poly" s_poly (ad 1) (fd 1)
  g_degree : mg "degree" = some (.ref (ad 2))
  F_degree : Fun K "degree" "degree" s_degree (ad 2) (fd 2)
  g_slope : mg "slope" = some (.ref (ad 3))
  F_slope : Fun K "slope" "slope" s_slope (ad 3) (fd 3)
  g_shrunk : mg "shrunk" = some (.ref (ad 4))
  F_shrunk : Fun K "shrunk" "shrunk" s_shrunk (ad 4) (fd 4)
  g_divided : mg "divided" = some (.ref (ad 5))
  F_divided : Fun K "divided" "divided" s_divided (ad 5) (fd 5)
  g_row_of : mg "row_of" = some (.ref (ad 6))
  F_row_of : Fun K "row_of" "row_of" s_row_of (ad 6) (fd 6)
  g__law_cell_at : mg "_law_cell_at" = some (.ref (ad 7))
  F__law_cell_at : Fun K "_law_cell_at" "_law_cell_at" s__law_cell_at (ad 7) (fd 7)
  g__law_whole : mg "_law_whole" = some (.ref (ad 8))
  F__law_whole : Fun K "_law_whole" "_law_whole" s__law_whole (ad 8) (fd 8)
  g__law_within : mg "_law_within" = some (.ref (ad 9))
  F__law_within : Fun K "_law_within" "_law_within" s__law_within (ad 9) (fd 9)
  g__law_trim : mg "_law_trim" = some (.ref (ad 10))
  F__law_trim : Fun K "_law_trim" "_law_trim" s__law_trim (ad 10) (fd 10)
  g__law_mul : mg "_law_mul" = some (.ref (ad 11))
  F__law_mul : Fun K "_law_mul" "_law_mul" s__law_mul (ad 11) (fd 11)
  g__law_is_poly : mg "_law_is_poly" = some (.ref (ad 12))
  F__law_is_poly : Fun K "_law_is_poly" "_law_is_poly" s__law_is_poly (ad 12) (fd 12)
  g__law_gcd : mg "_law_gcd" = some (.ref (ad 13))
  F__law_gcd : Fun K "_law_gcd" "_law_gcd" s__law_gcd (ad 13) (fd 13)
  g__law_shrunk : mg "_law_shrunk" = some (.ref (ad 14))
  F__law_shrunk : Fun K "_law_shrunk" "_law_shrunk" s__law_shrunk (ad 14) (fd 14)
  g__law_rest : mg "_law_rest" = some (.ref (ad 15))
  F__law_rest : Fun K "_law_rest" "_law_rest" s__law_rest (ad 15) (fd 15)
  g__law_row_holds : mg "_law_row_holds" = some (.ref (ad 16))
  F__law_row_holds : Fun K "_law_row_holds" "_law_row_holds" s__law_row_holds (ad 16) (fd 16)
  g_law : mg "law" = some (.ref (ad 17))
  F_law : Fun K "law" "law" s_law (ad 17) (fd 17)
section
variable {P : Program} {w : World} {K : PySem.W.Frag} {mg : Str → Option Value} {base : Heap} {Cof : String → Addr} {ad : Nat → Addr} {fd : Nat → FuncData}
theorem B_shared (T : Txt K mg Cof ad fd) : Binds K (fd 0) ["row"] [] := T.F_shared.binds (ps := ["row"]) fun _ _ _ _ _ _ us hl => match us, hl with | [_], _ => rfl
theorem B_poly (T : Txt K mg Cof ad fd) : Binds K (fd 1) ["row"] [] := T.F_poly.binds (ps := ["row"]) fun _ _ _ _ _ _ us hl => match us, hl with | [_], _ => rfl
theorem B_degree (T : Txt K mg Cof ad fd) : Binds K (fd 2) ["P"] [] := T.F_degree.binds (ps := ["P"]) fun _ _ _ _ _ _ us hl => match us, hl with | [_], _ => rfl
theorem B_slope (T : Txt K mg Cof ad fd) : Binds K (fd 3) ["P"] [] := T.F_slope.binds (ps := ["P"]) fun _ _ _ _ _ _ us hl => match us, hl with | [_], _ => rfl
theorem B_shrunk (T : Txt K mg Cof ad fd) : Binds K (fd 4) ["P"] [] := T.F_shrunk.binds (ps := ["P"]) fun _ _ _ _ _ _ us hl => match us, hl with | [_], _ => rfl
theorem B_divided (T : Txt K mg Cof ad fd) : Binds K (fd 5) ["P", "Q"] [] := T.F_divided.binds (ps := ["P", "Q"]) fun _ _ _ _ _ _ us hl => match us, hl with | [_, _], _ => rfl
theorem B_row_of (T : Txt K mg Cof ad fd) : Binds K (fd 6) ["P"] [] := T.F_row_of.binds (ps := ["P"]) fun _ _ _ _ _ _ us hl => match us, hl with | [_], _ => rfl
theorem B__law_cell_at (T : Txt K mg Cof ad fd) : Binds K (fd 7) ["_law_script", "_law_k"] [] := T.F__law_cell_at.binds (ps := ["_law_script", "_law_k"]) fun _ _ _ _ _ _ us hl => match us, hl with | [_, _], _ => rfl
theorem B__law_whole (T : Txt K mg Cof ad fd) : Binds K (fd 8) ["_law_found"] [] := T.F__law_whole.binds (ps := ["_law_found"]) fun _ _ _ _ _ _ us hl => match us, hl with | [_], _ => rfl
theorem B__law_within (T : Txt K mg Cof ad fd) : Binds K (fd 9) ["_law_cell", "_law_most"] [] := T.F__law_within.binds (ps := ["_law_cell", "_law_most"]) fun _ _ _ _ _ _ us hl => match us, hl with | [_, _], _ => rfl
theorem B__law_trim (T : Txt K mg Cof ad fd) : Binds K (fd 10) ["_law_row"] [] := T.F__law_trim.binds (ps := ["_law_row"]) fun _ _ _ _ _ _ us hl => match us, hl with | [_], _ => rfl
theorem B__law_mul (T : Txt K mg Cof ad fd) : Binds K (fd 11) ["_law_kp", "_law_kq"] [] := T.F__law_mul.binds (ps := ["_law_kp", "_law_kq"]) fun _ _ _ _ _ _ us hl => match us, hl with | [_, _], _ => rfl
theorem B__law_is_poly (T : Txt K mg Cof ad fd) : Binds K (fd 12) ["_law_found"] [] := T.F__law_is_poly.binds (ps := ["_law_found"]) fun _ _ _ _ _ _ us hl => match us, hl with | [_], _ => rfl
theorem B__law_gcd (T : Txt K mg Cof ad fd) : Binds K (fd 13) ["_law_a", "_law_b"] [] := T.F__law_gcd.binds (ps := ["_law_a", "_law_b"]) fun _ _ _ _ _ _ us hl => match us, hl with | [_, _], _ => rfl
theorem B__law_shrunk (T : Txt K mg Cof ad fd) : Binds K (fd 14) ["_law_kp"] [] := T.F__law_shrunk.binds (ps := ["_law_kp"]) fun _ _ _ _ _ _ us hl => match us, hl with | [_], _ => rfl
theorem B__law_rest (T : Txt K mg Cof ad fd) : Binds K (fd 15) ["_law_kp", "_law_kq"] [] := T.F__law_rest.binds (ps := ["_law_kp", "_law_kq"]) fun _ _ _ _ _ _ us hl => match us, hl with | [_, _], _ => rfl
theorem B__law_row_holds (T : Txt K mg Cof ad fd) : Binds K (fd 16) ["_law_row", "_law_kp"] [] := T.F__law_row_holds.binds (ps := ["_law_row", "_law_kp"]) fun _ _ _ _ _ _ us hl => match us, hl with | [_, _], _ => rfl
theorem B_law (T : Txt K mg Cof ad fd) : Binds K (fd 17) ["_law_script"] [] := T.F_law.binds (ps := ["_law_script"]) fun _ _ _ _ _ _ us hl => match us, hl with | [_], _ => rfl
theorem ok_shared (T : Txt K mg Cof ad fd) : FnOk P w K mg base CX0 1 (ad 0) (fd 0) ["row"] (sp_shared K Cof) := by
  have nd := sc_shared.nd
  refine T.F_shared.ok sc_shared (fun vs H Q E h => len_shared h) (fun cdv A outer s H vs Q E hr h => ⟨t_shared K Cof E, ?_, rd_shared h⟩)
  exact pss_cons (ps_set (i := 1) nd rfl (by first | exact Or.inl rfl | exact Or.inr rfl) (pe_int))
       (pss_cons (ps_for PassesOwn.never rfl (pi_list (pv 0)) (pg_name (i := 2) nd rfl (by first | exact Or.inl rfl | exact Or.inr rfl)) (pss_one (ps_while PassesOwn.never (pt_cmpR op_ne (pv 2) (pe_int) (nomark _)) (pss_cons (ps_set (i := 3) nd rfl (by first | exact Or.inl rfl | exact Or.inr rfl) (pe_op op_modN (pv 1) (pv 2)))
       (pss_cons (ps_set (i := 1) nd rfl (by first | exact Or.inl rfl | exact Or.inr rfl) (pv 2))
       (pss_one (ps_set (i := 2) nd rfl (by first | exact Or.inl rfl | exact Or.inr rfl) (pv 3))))))))
       (pss_one (ps_ret (pe_callB call_abs (by rfl) T.z_abs (by decide +kernel) (pa_cons (pv 1) (pa_nil))))))
theorem ok_poly (T : Txt K mg Cof ad fd) : FnOk P w K mg base CX0 1 (ad 1) (fd 1) ["row"] (sp_poly K Cof) := by
  have nd := sc_poly.nd
  refine T.F_poly.ok sc_poly (fun vs H Q E h => len_poly h) (fun cdv A outer s H vs Q E hr h => ⟨t_poly K Cof E, ?_, rd_poly h⟩)
  exact pss_cons (ps_set (i := 1) nd rfl (by first | exact Or.inl rfl | exact Or.inr rfl) (pe_callB call_len_seq (by rfl) T.z_len (by decide +kernel) (pa_cons (pv 0) (pa_nil))))
       (pss_cons (ps_while PassesOwn.never (PW.pt (pw_and (pt_cmpR op_gt (pv 1) (pe_int) (nomark _)) (pw_and1 (pt_cmpR op_eq (pe_ix ix_list (pv 0) (pe_op op_sub (pv 1) (pe_int)) (fun _ _ => rfl)) (pe_int) (nomark _))))) (pss_one (ps_set (i := 1) nd rfl (by first | exact Or.inl rfl | exact Or.inr rfl) (pe_op op_sub (pv 1) (pe_int)))))
       (pss_one (ps_ret (pe_slice sl_list (pv 0) (po_none) (po_some (pv 1))))))
theorem ok_degree (T : Txt K mg Cof ad fd) : FnOk P w K mg base CX0 1 (ad 2) (fd 2) ["P"] (sp_degree K Cof) := by
  have nd := sc_degree.nd
  refine T.F_degree.ok sc_degree (fun vs H Q E h => len_degree h) (fun cdv A outer s H vs Q E hr h => ⟨t_degree K Cof E, ?_, rd_degree h⟩)
  exact pss_one (ps_ret (pe_op op_sub (pe_callB call_len_seq (by rfl) T.z_len (by decide +kernel) (pa_cons (pv 0) (pa_nil))) (pe_int)))
theorem ok_slope (T : Txt K mg Cof ad fd) : FnOk P w K mg base CX0 1 (ad 3) (fd 3) ["P"] (sp_slope K Cof) := by
  have nd := sc_slope.nd
  refine T.F_slope.ok sc_slope (fun vs H Q E h => len_slope h) (fun cdv A outer s H vs Q E hr h => ⟨t_slope K Cof E, ?_, rd_slope h⟩)
  exact pss_one (ps_ret (pe_lc (own := [("k", 1)]) (by rfl) nd (pi_range2 (by rfl) T.z_range (pa_cons (pe_int) (pa_cons (pe_callB call_len_seq (by rfl) T.z_len (by decide +kernel) (pa_cons (pv 0) (pa_nil))) (pa_nil)))) (blkOk_by (own := [("k", 1)]) (N := ["P", "k"]) (sc := defScope s_slope) (by decide +kernel)) (fun _ _ _ _ _ => pg_name (i := 1) nd rfl (by first | exact Or.inl rfl | exact Or.inr rfl)) (fun _ _ _ _ _ => pts_nil) (fun _ _ _ _ _ => pe_op op_mulX (pv 1) (pe_ix ix_list (pv 0) (pv 1) (fun _ _ => rfl)))))
theorem ok_shrunk (T : Txt K mg Cof ad fd) : FnOk P w K mg base CX0 2 (ad 4) (fd 4) ["P"] (sp_shrunk K Cof) := by
  have G_shared := ok_shared (P := P) (w := w) (base := base) T
  have B_shared := B_shared T
  have nd := sc_shrunk.nd
  refine T.F_shrunk.ok sc_shrunk (fun vs H Q E h => len_shrunk h) (fun cdv A outer s H vs Q E hr h => ⟨t_shrunk K Cof E, ?_, rd_shrunk h⟩)
  exact pss_cons (ps_set (i := 1) nd rfl (by first | exact Or.inl rfl | exact Or.inr rfl) (pe_call G_shared (hr.mono (by decide)) (by rfl) T.g_shared T.F_shared.kp B_shared .nil pass0 (pa_cons (pv 0) (pa_nil))))
       (pss_one (ps_ret (pe_lc (own := [("one", 2)]) (by rfl) nd (pi_list (pv 0)) (blkOk_by (own := [("one", 2)]) (N := ["P", "part", "one"]) (sc := defScope s_shrunk) (by decide +kernel)) (fun _ _ _ _ _ => pg_name (i := 2) nd rfl (by first | exact Or.inl rfl | exact Or.inr rfl)) (fun _ _ _ _ _ => pts_nil) (fun _ _ _ _ _ => pe_op op_fdivA (pv 2) (pv 1)))))
theorem ok_divided (T : Txt K mg Cof ad fd) : FnOk P w K mg base CX0 2 (ad 5) (fd 5) ["P", "Q"] (sp_divided K Cof) := by
  have G_degree := ok_degree (P := P) (w := w) (base := base) T
  have B_degree := B_degree T
  have G_poly := ok_poly (P := P) (w := w) (base := base) T
  have B_poly := B_poly T
  have nd := sc_divided.nd
  refine T.F_divided.ok sc_divided (fun vs H Q E h => len_divided h) (fun cdv A outer s H vs Q E hr h => ⟨t_divided K Cof E, ?_, rd_divided h⟩)
  exact pss_cons (ps_if (pt_cmpR (op_eqD hr.units) (pv 1) (pe_lst (pa_nil)) (nomark _)) (pss_one (ps_never)) (pss_nil))
       (pss_cons (ps_set (i := 2) nd rfl (by first | exact Or.inl rfl | exact Or.inr rfl) (pe_op op_sub (pe_call G_degree (hr.mono (by decide)) (by rfl) T.g_degree T.F_degree.kp B_degree .nil pass0 (pa_cons (pv 0) (pa_nil))) (pe_call G_degree (hr.mono (by decide)) (by rfl) T.g_degree T.F_degree.kp B_degree .nil pass0 (pa_cons (pv 1) (pa_nil)))))
       (pss_cons (ps_if (pt_cmpR op_lt (pv 2) (pe_int) (nomark _)) (pss_one (ps_ret (pe_tup (pa_cons (pe_int) (pa_cons (pe_lst (pa_nil)) (pa_cons (pe_callTy call_list_of (by rfl) T.z_list (by decide +kernel) (pa_cons (pv 0) (pa_nil))) (pa_nil))))))) (pss_nil))
       (pss_cons (ps_set (i := 3) nd rfl (by first | exact Or.inl rfl | exact Or.inr rfl) (pe_int))
       (pss_cons (ps_for PassesOwn.never rfl (pi_range1 (by rfl) T.z_range (pa_cons (pe_op op_add (pv 2) (pe_int)) (pa_nil))) (pg_name (i := 4) nd rfl (by first | exact Or.inl rfl | exact Or.inr rfl)) (pss_one (ps_set (i := 3) nd rfl (by first | exact Or.inl rfl | exact Or.inr rfl) (pe_op op_mulX (pv 3) (pe_callB call_abs (by rfl) T.z_abs (by decide +kernel) (pa_cons (pe_ix ix_list (pv 1) (pe_un un_neg (pe_int)) (fun _ _ => rfl)) (pa_nil)))))))
       (pss_cons (ps_setLc (i := 5) (own := [("one", 6)]) (by rfl) nd rfl rfl (sw_true rfl rfl rfl (by decide +kernel)) (pi_list (pv 0)) (blkOk_by (own := [("one", 6)]) (N := ["P", "Q", "gap", "factor", "k", "rest", "one", "quotient", "many", "place"]) (sc := defScope s_divided) (by decide +kernel)) (fun _ _ _ _ _ => pg_name (i := 6) nd rfl (by first | exact Or.inl rfl | exact Or.inr rfl)) (fun _ _ _ _ _ => pts_nil) (fun _ _ _ _ _ => pe_op op_mulX (pv 6) (pv 3)))
       (pss_cons (ps_setLc (i := 7) (own := [("k", 4)]) (by rfl) nd rfl rfl (sw_true rfl rfl rfl (by decide +kernel)) (pi_range1 (by rfl) T.z_range (pa_cons (pe_op op_add (pv 2) (pe_int)) (pa_nil))) (blkOk_by (own := [("k", 4)]) (N := ["P", "Q", "gap", "factor", "k", "rest", "one", "quotient", "many", "place"]) (sc := defScope s_divided) (by decide +kernel)) (fun _ _ _ _ _ => pg_name (i := 4) nd rfl (by first | exact Or.inl rfl | exact Or.inr rfl)) (fun _ _ _ _ _ => pts_nil) (fun _ _ _ _ _ => pe_int))
       (pss_cons (ps_for PassesOwn.never rfl (pi_revR (by rfl) T.z_reversed (prg_1 (by rfl) T.z_range (pe_op op_add (pv 2) (pe_int)))) (pg_name (i := 4) nd rfl (by first | exact Or.inl rfl | exact Or.inr rfl)) (pss_cons (ps_set (i := 8) nd rfl (by first | exact Or.inl rfl | exact Or.inr rfl) (pe_op op_fdivA (pe_ix ix_list (pv 5) (pe_op op_add (pv 4) (pe_call G_degree (hr.mono (by decide)) (by rfl) T.g_degree T.F_degree.kp B_degree .nil pass0 (pa_cons (pv 1) (pa_nil)))) (fun _ _ => rfl)) (pe_ix ix_list (pv 1) (pe_un un_neg (pe_int)) (fun _ _ => rfl))))
       (pss_cons (ps_asg (pv 8) (pg_sub (pv 7) (pv 4) set_list))
       (pss_one (ps_for PassesOwn.never rfl (pi_enum (by rfl) T.z_enumerate (pa_cons (pv 1) (pa_nil))) (pg_tup rfl (pgs_cons (pg_name (i := 9) nd rfl (by first | exact Or.inl rfl | exact Or.inr rfl)) (pgs_cons (pg_name (i := 6) nd rfl (by first | exact Or.inl rfl | exact Or.inr rfl)) (pgs_nil)))) (pss_one (ps_asg (pe_op op_sub (pe_ix ix_list (pv 5) (pe_op op_add (pv 4) (pv 9)) (fun _ _ => rfl)) (pe_op op_mulX (pv 8) (pv 6))) (pg_sub (pv 5) (pe_op op_add (pv 4) (pv 9)) set_list))))))))
       (pss_one (ps_ret (pe_tup (pa_cons (pv 3) (pa_cons (pe_call G_poly (hr.mono (by decide)) (by rfl) T.g_poly T.F_poly.kp B_poly .nil pass0 (pa_cons (pv 7) (pa_nil))) (pa_cons (pe_call G_poly (hr.mono (by decide)) (by rfl) T.g_poly T.F_poly.kp B_poly .nil pass0 (pa_cons (pv 5) (pa_nil))) (pa_nil))))))))))))))
theorem ok_row_of (T : Txt K mg Cof ad fd) : FnOk P w K mg base CX0 3 (ad 6) (fd 6) ["P"] (sp_row_of K Cof) := by
  have G_divided := ok_divided (P := P) (w := w) (base := base) T
  have B_divided := B_divided T
  have G_shrunk := ok_shrunk (P := P) (w := w) (base := base) T
  have B_shrunk := B_shrunk T
  have G_slope := ok_slope (P := P) (w := w) (base := base) T
  have B_slope := B_slope T
  have nd := sc_row_of.nd
  refine T.F_row_of.ok sc_row_of (fun vs H Q E h => len_row_of h) (fun cdv A outer s H vs Q E hr h => ⟨t_row_of K Cof E, ?_, rd_row_of h⟩)
  exact pss_cons (ps_if (pt_cmpR (op_eqD hr.units) (pv 0) (pe_lst (pa_nil)) (nomark _)) (pss_one (ps_ret (pe_lst (pa_nil)))) (pss_nil))
       (pss_cons (ps_set (i := 1) nd rfl (by first | exact Or.inl rfl | exact Or.inr rfl) (pe_lst (pa_cons (pe_call G_shrunk (hr.mono (by decide)) (by rfl) T.g_shrunk T.F_shrunk.kp B_shrunk .nil pass0 (pa_cons (pv 0) (pa_nil))) (pa_nil))))
       (pss_cons (ps_set (i := 2) nd rfl (by first | exact Or.inl rfl | exact Or.inr rfl) (pe_call G_shrunk (hr.mono (by decide)) (by rfl) T.g_shrunk T.F_shrunk.kp B_shrunk .nil pass0 (pa_cons (pe_call G_slope (hr.mono (by decide)) (by rfl) T.g_slope T.F_slope.kp B_slope .nil pass0 (pa_cons (pv 0) (pa_nil))) (pa_nil))))
       (pss_cons (ps_while PassesOwn.never (pt_cmpR (op_neD hr.units) (pv 2) (pe_lst (pa_nil)) (nomark _)) (pss_cons (ps_expr (pe_bm PySem.F.plainAttrs_list PySem.F.slot_list_append PySem.F.type_list_append mt_append (pv 1) (pa_cons (pv 2) (pa_nil))))
       (pss_cons (ps_set (i := 3) nd rfl (by first | exact Or.inl rfl | exact Or.inr rfl) (pe_ix ix_tup (pe_call G_divided (hr.mono (by decide)) (by rfl) T.g_divided T.F_divided.kp B_divided .nil pass0 (pa_cons (pe_ix ix_list (pv 1) (pe_un un_neg (pe_int)) (fun _ _ => rfl)) (pa_cons (pe_ix ix_list (pv 1) (pe_un un_neg (pe_int)) (fun _ _ => rfl)) (pa_nil)))) (pe_int) (fun _ _ => rfl)))
       (pss_one (ps_set (i := 2) nd rfl (by first | exact Or.inl rfl | exact Or.inr rfl) (pe_call G_shrunk (hr.mono (by decide)) (by rfl) T.g_shrunk T.F_shrunk.kp B_shrunk .nil pass0 (pa_cons (pe_lc (own := [("one", 4)]) (by rfl) nd (pi_list (pv 3)) (blkOk_by (own := [("one", 4)]) (N := ["P", "row", "later", "rest", "one"]) (sc := defScope s_row_of) (by decide +kernel)) (fun _ _ _ _ _ => pg_name (i := 4) nd rfl (by first | exact Or.inl rfl | exact Or.inr rfl)) (fun _ _ _ _ _ => pts_nil) (fun _ _ _ _ _ => pe_op op_sub (pe_int) (pv 4))) (pa_nil))))))))
       (pss_one (ps_ret (pv 1))))))
theorem ok__law_cell_at (T : Txt K mg Cof ad fd) : FnOk P w K mg base CX0 1 (ad 7) (fd 7) ["_law_script", "_law_k"] (sp__law_cell_at K Cof) := by
  have nd := sc__law_cell_at.nd
  refine T.F__law_cell_at.ok sc__law_cell_at (fun vs H Q E h => len__law_cell_at h) (fun cdv A outer s H vs Q E hr h => ⟨t__law_cell_at K Cof E, ?_, rd__law_cell_at h⟩)
  exact pss_cons (ps_if (pt_cmpR op_lt (pv 1) (pe_callB call_len_seq (by rfl) T.z_len (by decide +kernel) (pa_cons (pv 0) (pa_nil))) (nomark _)) (pss_one (ps_ret (pe_ix ix_list (pv 0) (pv 1) (fun _ _ => rfl)))) (pss_nil))
       (pss_one (ps_ret (pe_int)))
theorem ok__law_whole (T : Txt K mg Cof ad fd) : FnOk P w K mg base CX0 1 (ad 8) (fd 8) ["_law_found"] (sp__law_whole K Cof) := by
  have nd := sc__law_whole.nd
  refine T.F__law_whole.ok sc__law_whole (fun vs H Q E h => len__law_whole h) (fun cdv A outer s H vs Q E hr h => ⟨t__law_whole K Cof E, ?_, rd__law_whole h⟩)
  exact pss_one (ps_ret (pe_and (pe_callB call_isi (by rfl) T.z_isinstance (by decide +kernel) (pa_cons (pv 0) (pa_cons (pe_bltn (v := .ty "int") (by rfl) T.z_int (by decide +kernel) rfl) (pa_nil)))) (pe_one (pe_not (pe_callB call_isi (by rfl) T.z_isinstance (by decide +kernel) (pa_cons (pv 0) (pa_cons (pe_bltn (v := .ty "bool") (by rfl) T.z_bool (by decide +kernel) rfl) (pa_nil))))))))
theorem ok__law_within (T : Txt K mg Cof ad fd) : FnOk P w K mg base CX0 1 (ad 9) (fd 9) ["_law_cell", "_law_most"] (sp__law_within K Cof) := by
  have nd := sc__law_within.nd
  refine T.F__law_within.ok sc__law_within (fun vs H Q E h => len__law_within h) (fun cdv A outer s H vs Q E hr h => ⟨t__law_within K Cof E, ?_, rd__law_within h⟩)
  exact pss_one (ps_ret (pe_op op_sub (pe_op op_modN (pv 0) (pe_op op_add (pe_op op_mulX (pe_int) (pv 1)) (pe_int))) (pv 1)))
theorem ok__law_trim (T : Txt K mg Cof ad fd) : FnOk P w K mg base CX0 1 (ad 10) (fd 10) ["_law_row"] (sp__law_trim K Cof) := by
  have nd := sc__law_trim.nd
  refine T.F__law_trim.ok sc__law_trim (fun vs H Q E h => len__law_trim h) (fun cdv A outer s H vs Q E hr h => ⟨t__law_trim K Cof E, ?_, rd__law_trim h⟩)
  exact pss_cons (ps_set (i := 1) nd rfl (by first | exact Or.inl rfl | exact Or.inr rfl) (pe_callB call_len_seq (by rfl) T.z_len (by decide +kernel) (pa_cons (pv 0) (pa_nil))))
       (pss_cons (ps_while PassesOwn.never (PW.pt (pw_and (pt_cmpR op_gt (pv 1) (pe_int) (nomark _)) (pw_and1 (pt_cmpR op_eq (pe_ix ix_list (pv 0) (pe_op op_sub (pv 1) (pe_int)) (fun _ _ => rfl)) (pe_int) (nomark _))))) (pss_one (ps_set (i := 1) nd rfl (by first | exact Or.inl rfl | exact Or.inr rfl) (pe_op op_sub (pv 1) (pe_int)))))
       (pss_one (ps_ret (pe_slice sl_list (pv 0) (po_none) (po_some (pv 1))))))
theorem ok__law_mul (T : Txt K mg Cof ad fd) : FnOk P w K mg base CX0 1 (ad 11) (fd 11) ["_law_kp", "_law_kq"] (sp__law_mul K Cof) := by
  have nd := sc__law_mul.nd
  refine T.F__law_mul.ok sc__law_mul (fun vs H Q E h => len__law_mul h) (fun cdv A outer s H vs Q E hr h => ⟨t__law_mul K Cof E, ?_, rd__law_mul h⟩)
  exact pss_cons (ps_if (PW.pt (pw_or (pt_cmpR op_eq (pe_callB call_len_seq (by rfl) T.z_len (by decide +kernel) (pa_cons (pv 0) (pa_nil))) (pe_int) (nomark _)) (pw_or1 (pt_cmpR op_eq (pe_callB call_len_seq (by rfl) T.z_len (by decide +kernel) (pa_cons (pv 1) (pa_nil))) (pe_int) (nomark _))))) (pss_one (ps_ret (pe_lst (pa_nil)))) (pss_nil))
       (pss_cons (ps_setLc (i := 2) (own := [("_law_k", 3)]) (by rfl) nd rfl rfl (sw_true rfl rfl rfl (by decide +kernel)) (pi_range1 (by rfl) T.z_range (pa_cons (pe_op op_sub (pe_op op_add (pe_callB call_len_seq (by rfl) T.z_len (by decide +kernel) (pa_cons (pv 0) (pa_nil))) (pe_callB call_len_seq (by rfl) T.z_len (by decide +kernel) (pa_cons (pv 1) (pa_nil)))) (pe_int)) (pa_nil))) (blkOk_by (own := [("_law_k", 3)]) (N := ["_law_kp", "_law_kq", "_law_made", "_law_k", "_law_i", "_law_one", "_law_j", "_law_other"]) (sc := defScope s__law_mul) (by decide +kernel)) (fun _ _ _ _ _ => pg_name (i := 3) nd rfl (by first | exact Or.inl rfl | exact Or.inr rfl)) (fun _ _ _ _ _ => pts_nil) (fun _ _ _ _ _ => pe_int))
       (pss_cons (ps_for PassesOwn.never rfl (pi_enum (by rfl) T.z_enumerate (pa_cons (pv 0) (pa_nil))) (pg_tup rfl (pgs_cons (pg_name (i := 4) nd rfl (by first | exact Or.inl rfl | exact Or.inr rfl)) (pgs_cons (pg_name (i := 5) nd rfl (by first | exact Or.inl rfl | exact Or.inr rfl)) (pgs_nil)))) (pss_one (ps_for PassesOwn.never rfl (pi_enum (by rfl) T.z_enumerate (pa_cons (pv 1) (pa_nil))) (pg_tup rfl (pgs_cons (pg_name (i := 6) nd rfl (by first | exact Or.inl rfl | exact Or.inr rfl)) (pgs_cons (pg_name (i := 7) nd rfl (by first | exact Or.inl rfl | exact Or.inr rfl)) (pgs_nil)))) (pss_one (ps_asg (pe_op op_add (pe_ix ix_list (pv 2) (pe_op op_add (pv 4) (pv 6)) (fun _ _ => rfl)) (pe_op op_mulX (pv 5) (pv 7))) (pg_sub (pv 2) (pe_op op_add (pv 4) (pv 6)) set_list))))))
       (pss_one (ps_ret (pv 2)))))
theorem ok__law_is_poly (T : Txt K mg Cof ad fd) : FnOk P w K mg base CX0 2 (ad 12) (fd 12) ["_law_found"] (sp__law_is_poly K Cof) := by
  have G__law_whole := ok__law_whole (P := P) (w := w) (base := base) T
  have B__law_whole := B__law_whole T
  have nd := sc__law_is_poly.nd
  refine T.F__law_is_poly.ok sc__law_is_poly (fun vs H Q E h => len__law_is_poly h) (fun cdv A outer s H vs Q E hr h => ⟨t__law_is_poly K Cof E, ?_, rd__law_is_poly h⟩)
  exact pss_cons (ps_if (pt_not (pt_val (pe_callB call_isi (by rfl) T.z_isinstance (by decide +kernel) (pa_cons (pv 0) (pa_cons (pe_bltn (v := .ty "list") (by rfl) T.z_list (by decide +kernel) rfl) (pa_nil)))))) (pss_one (ps_ret (pe_bl))) (pss_nil))
       (pss_cons (ps_for PassesOwn.never rfl (pi_list (pv 0)) (pg_name (i := 1) nd rfl (by first | exact Or.inl rfl | exact Or.inr rfl)) (pss_one (ps_if (pt_not (pt_val (pe_call G__law_whole (hr.mono (by decide)) (by rfl) T.g__law_whole T.F__law_whole.kp B__law_whole .nil pass0 (pa_cons (pv 1) (pa_nil))))) (pss_one (ps_ret (pe_bl))) (pss_nil))))
       (pss_one (ps_ret (pe_or (pe_cmpR op_eq (pe_callB call_len_seq (by rfl) T.z_len (by decide +kernel) (pa_cons (pv 0) (pa_nil))) (pe_int) (nomark _)) (pe_one (pe_cmpR op_ne (pe_ix ix_list (pv 0) (pe_un un_neg (pe_int)) (fun _ _ => rfl)) (pe_int) (nomark _)))))))
theorem ok__law_gcd (T : Txt K mg Cof ad fd) : FnOk P w K mg base CX0 1 (ad 13) (fd 13) ["_law_a", "_law_b"] (sp__law_gcd K Cof) := by
  have nd := sc__law_gcd.nd
  refine T.F__law_gcd.ok sc__law_gcd (fun vs H Q E h => len__law_gcd h) (fun cdv A outer s H vs Q E hr h => ⟨t__law_gcd K Cof E, ?_, rd__law_gcd h⟩)
  exact pss_cons (ps_set (i := 0) nd rfl (by first | exact Or.inl rfl | exact Or.inr rfl) (pe_callB call_abs (by rfl) T.z_abs (by decide +kernel) (pa_cons (pv 0) (pa_nil))))
       (pss_cons (ps_set (i := 1) nd rfl (by first | exact Or.inl rfl | exact Or.inr rfl) (pe_callB call_abs (by rfl) T.z_abs (by decide +kernel) (pa_cons (pv 1) (pa_nil))))
       (pss_cons (ps_while PassesOwn.never (pt_cmpR op_gt (pv 1) (pe_int) (nomark _)) (pss_cons (ps_set (i := 2) nd rfl (by first | exact Or.inl rfl | exact Or.inr rfl) (pe_op op_modN (pv 0) (pv 1)))
       (pss_cons (ps_set (i := 0) nd rfl (by first | exact Or.inl rfl | exact Or.inr rfl) (pv 1))
       (pss_one (ps_set (i := 1) nd rfl (by first | exact Or.inl rfl | exact Or.inr rfl) (pv 2))))))
       (pss_one (ps_ret (pv 0)))))
theorem ok__law_shrunk (T : Txt K mg Cof ad fd) : FnOk P w K mg base CX0 2 (ad 14) (fd 14) ["_law_kp"] (sp__law_shrunk K Cof) := by
  have G__law_gcd := ok__law_gcd (P := P) (w := w) (base := base) T
  have B__law_gcd := B__law_gcd T
  have nd := sc__law_shrunk.nd
  refine T.F__law_shrunk.ok sc__law_shrunk (fun vs H Q E h => len__law_shrunk h) (fun cdv A outer s H vs Q E hr h => ⟨t__law_shrunk K Cof E, ?_, rd__law_shrunk h⟩)
  exact pss_cons (ps_set (i := 1) nd rfl (by first | exact Or.inl rfl | exact Or.inr rfl) (pe_int))
       (pss_cons (ps_for PassesOwn.never rfl (pi_list (pv 0)) (pg_name (i := 2) nd rfl (by first | exact Or.inl rfl | exact Or.inr rfl)) (pss_one (ps_set (i := 1) nd rfl (by first | exact Or.inl rfl | exact Or.inr rfl) (pe_call G__law_gcd (hr.mono (by decide)) (by rfl) T.g__law_gcd T.F__law_gcd.kp B__law_gcd .nil pass0 (pa_cons (pv 1) (pa_cons (pv 2) (pa_nil)))))))
       (pss_cons (ps_if (pt_cmpR op_eq (pv 1) (pe_int) (nomark _)) (pss_one (ps_ret (pe_lst (pa_nil)))) (pss_nil))
       (pss_one (ps_ret (pe_lc (own := [("_law_one", 2)]) (by rfl) nd (pi_list (pv 0)) (blkOk_by (own := [("_law_one", 2)]) (N := ["_law_kp", "_law_most", "_law_one"]) (sc := defScope s__law_shrunk) (by decide +kernel)) (fun _ _ _ _ _ => pg_name (i := 2) nd rfl (by first | exact Or.inl rfl | exact Or.inr rfl)) (fun _ _ _ _ _ => pts_nil) (fun _ _ _ _ _ => pe_op op_fdivA (pv 2) (pv 1)))))))
theorem ok__law_rest (T : Txt K mg Cof ad fd) : FnOk P w K mg base CX0 2 (ad 15) (fd 15) ["_law_kp", "_law_kq"] (sp__law_rest K Cof) := by
  have G__law_trim := ok__law_trim (P := P) (w := w) (base := base) T
  have B__law_trim := B__law_trim T
  have nd := sc__law_rest.nd
  refine T.F__law_rest.ok sc__law_rest (fun vs H Q E h => len__law_rest h) (fun cdv A outer s H vs Q E hr h => ⟨t__law_rest K Cof E, ?_, rd__law_rest h⟩)
  exact pss_cons (ps_set (i := 2) nd rfl (by first | exact Or.inl rfl | exact Or.inr rfl) (pe_callTy call_list_of (by rfl) T.z_list (by decide +kernel) (pa_cons (pv 0) (pa_nil))))
       (pss_cons (ps_while PassesOwn.never (pt_cmpR op_ge (pe_callB call_len_seq (by rfl) T.z_len (by decide +kernel) (pa_cons (pv 2) (pa_nil))) (pe_callB call_len_seq (by rfl) T.z_len (by decide +kernel) (pa_cons (pv 1) (pa_nil))) (nomark _)) (pss_cons (ps_set (i := 3) nd rfl (by first | exact Or.inl rfl | exact Or.inr rfl) (pe_op op_sub (pe_callB call_len_seq (by rfl) T.z_len (by decide +kernel) (pa_cons (pv 2) (pa_nil))) (pe_callB call_len_seq (by rfl) T.z_len (by decide +kernel) (pa_cons (pv 1) (pa_nil)))))
       (pss_cons (ps_set (i := 4) nd rfl (by first | exact Or.inl rfl | exact Or.inr rfl) (pe_ix ix_list (pv 2) (pe_un un_neg (pe_int)) (fun _ _ => rfl)))
       (pss_cut (ps_if (pt_cmpR op_lt (pe_ix ix_list (pv 1) (pe_un un_neg (pe_int)) (fun _ _ => rfl)) (pe_int) (nomark _)) (pss_one (ps_set (i := 4) nd rfl (by first | exact Or.inl rfl | exact Or.inr rfl) (pe_op op_sub (pe_int) (pv 4)))) (pss_nil))
       (pss_cons (ps_setLc (i := 2) (own := [("_law_one", 5)]) (by rfl) nd rfl rfl (sw_true rfl rfl rfl (by decide +kernel)) (pi_list (pv 2)) (blkOk_by (own := [("_law_one", 5)]) (N := ["_law_kp", "_law_kq", "_law_left", "_law_gap", "_law_top", "_law_one", "_law_k"]) (sc := defScope s__law_rest) (by decide +kernel)) (fun _ _ _ _ _ => pg_name (i := 5) nd rfl (by first | exact Or.inl rfl | exact Or.inr rfl)) (fun _ _ _ _ _ => pts_nil) (fun _ _ _ _ _ => pe_op op_mulX (pv 5) (pe_callB call_abs (by rfl) T.z_abs (by decide +kernel) (pa_cons (pe_ix ix_list (pv 1) (pe_un un_neg (pe_int)) (fun _ _ => rfl)) (pa_nil)))))
       (pss_cons (ps_for PassesOwn.never rfl (pi_enum (by rfl) T.z_enumerate (pa_cons (pv 1) (pa_nil))) (pg_tup rfl (pgs_cons (pg_name (i := 6) nd rfl (by first | exact Or.inl rfl | exact Or.inr rfl)) (pgs_cons (pg_name (i := 5) nd rfl (by first | exact Or.inl rfl | exact Or.inr rfl)) (pgs_nil)))) (pss_one (ps_asg (pe_op op_sub (pe_ix ix_list (pv 2) (pe_op op_add (pv 3) (pv 6)) (fun _ _ => rfl)) (pe_op op_mulX (pv 4) (pv 5))) (pg_sub (pv 2) (pe_op op_add (pv 3) (pv 6)) set_list))))
       (pss_one (ps_set (i := 2) nd rfl (by first | exact Or.inl rfl | exact Or.inr rfl) (pe_call G__law_trim (hr.mono (by decide)) (by rfl) T.g__law_trim T.F__law_trim.kp B__law_trim .nil pass0 (pa_cons (pv 2) (pa_nil)))))))))))
       (pss_one (ps_ret (pv 2))))
theorem ok__law_row_holds (T : Txt K mg Cof ad fd) : FnOk P w K mg base CX0 3 (ad 16) (fd 16) ["_law_row", "_law_kp"] (sp__law_row_holds K Cof) := by
  have G__law_rest := ok__law_rest (P := P) (w := w) (base := base) T
  have B__law_rest := B__law_rest T
  have G__law_shrunk := ok__law_shrunk (P := P) (w := w) (base := base) T
  have B__law_shrunk := B__law_shrunk T
  have nd := sc__law_row_holds.nd
  refine T.F__law_row_holds.ok sc__law_row_holds (fun vs H Q E h => len__law_row_holds h) (fun cdv A outer s H vs Q E hr h => ⟨t__law_row_holds K Cof E, ?_, rd__law_row_holds h⟩)
  exact pss_cons (ps_set (i := 2) nd rfl (by first | exact Or.inl rfl | exact Or.inr rfl) (pe_slice sl_list (pe_lc (own := [("_law_k", 3), ("_law_one", 4)]) (by rfl) nd (pi_enum (by rfl) T.z_enumerate (pa_cons (pv 1) (pa_nil))) (blkOk_by (own := [("_law_k", 3), ("_law_one", 4)]) (N := ["_law_row", "_law_kp", "_law_steep", "_law_k", "_law_one", "_law_rest_here"]) (sc := defScope s__law_row_holds) (by decide +kernel)) (fun _ _ _ _ _ => pg_tup rfl (pgs_cons (pg_name (i := 3) nd rfl (by first | exact Or.inl rfl | exact Or.inr rfl)) (pgs_cons (pg_name (i := 4) nd rfl (by first | exact Or.inl rfl | exact Or.inr rfl)) (pgs_nil)))) (fun _ _ _ _ _ => pts_nil) (fun _ _ _ _ _ => pe_op op_mulX (pv 3) (pv 4))) (po_some (pe_int)) (po_none)))
       (pss_cons (ps_if (pt_cmpR (op_neD hr.units) (pe_ix ix_list (pv 0) (pe_int) (fun _ _ => rfl)) (pe_call G__law_shrunk (hr.mono (by decide)) (by rfl) T.g__law_shrunk T.F__law_shrunk.kp B__law_shrunk .nil pass0 (pa_cons (pv 1) (pa_nil))) (nomark _)) (pss_one (ps_ret (pe_bl))) (pss_nil))
       (pss_cons (ps_if (pt_cmpR op_eq (pe_callB call_len_seq (by rfl) T.z_len (by decide +kernel) (pa_cons (pv 2) (pa_nil))) (pe_int) (nomark _)) (pss_one (ps_ret (pe_cmpR op_eq (pe_callB call_len_seq (by rfl) T.z_len (by decide +kernel) (pa_cons (pv 0) (pa_nil))) (pe_int) (nomark _)))) (pss_nil))
       (pss_cons (ps_if (PW.pt (pw_or (pt_cmpR op_lt (pe_callB call_len_seq (by rfl) T.z_len (by decide +kernel) (pa_cons (pv 0) (pa_nil))) (pe_int) (nomark _)) (pw_or1 (pt_cmpR (op_neD hr.units) (pe_ix ix_list (pv 0) (pe_int) (fun _ _ => rfl)) (pe_call G__law_shrunk (hr.mono (by decide)) (by rfl) T.g__law_shrunk T.F__law_shrunk.kp B__law_shrunk .nil pass0 (pa_cons (pv 2) (pa_nil))) (nomark _))))) (pss_one (ps_ret (pe_bl))) (pss_nil))
       (pss_cons (ps_for PassesOwn.never rfl (pi_range2 (by rfl) T.z_range (pa_cons (pe_int) (pa_cons (pe_callB call_len_seq (by rfl) T.z_len (by decide +kernel) (pa_cons (pv 0) (pa_nil))) (pa_nil)))) (pg_name (i := 3) nd rfl (by first | exact Or.inl rfl | exact Or.inr rfl)) (pss_cons (ps_set (i := 5) nd rfl (by first | exact Or.inl rfl | exact Or.inr rfl) (pe_call G__law_rest (hr.mono (by decide)) (by rfl) T.g__law_rest T.F__law_rest.kp B__law_rest .nil pass0 (pa_cons (pe_ix ix_list (pv 0) (pe_op op_sub (pv 3) (pe_int)) (fun _ _ => rfl)) (pa_cons (pe_ix ix_list (pv 0) (pe_op op_sub (pv 3) (pe_int)) (fun _ _ => rfl)) (pa_nil)))))
       (pss_one (ps_if (pt_cmpR (op_neD hr.units) (pe_ix ix_list (pv 0) (pv 3) (fun _ _ => rfl)) (pe_call G__law_shrunk (hr.mono (by decide)) (by rfl) T.g__law_shrunk T.F__law_shrunk.kp B__law_shrunk .nil pass0 (pa_cons (pe_lc (own := [("_law_one", 4)]) (by rfl) nd (pi_list (pv 5)) (blkOk_by (own := [("_law_one", 4)]) (N := ["_law_row", "_law_kp", "_law_steep", "_law_k", "_law_one", "_law_rest_here"]) (sc := defScope s__law_row_holds) (by decide +kernel)) (fun _ _ _ _ _ => pg_name (i := 4) nd rfl (by first | exact Or.inl rfl | exact Or.inr rfl)) (fun _ _ _ _ _ => pts_nil) (fun _ _ _ _ _ => pe_op op_sub (pe_int) (pv 4))) (pa_nil))) (nomark _)) (pss_one (ps_ret (pe_bl))) (pss_nil)))))
       (pss_one (ps_ret (pe_cmpR op_eq (pe_callB call_len_seq (by rfl) T.z_len (by decide +kernel) (pa_cons (pe_call G__law_rest (hr.mono (by decide)) (by rfl) T.g__law_rest T.F__law_rest.kp B__law_rest .nil pass0 (pa_cons (pe_ix ix_list (pv 0) (pe_un un_neg (pe_int)) (fun _ _ => rfl)) (pa_cons (pe_ix ix_list (pv 0) (pe_un un_neg (pe_int)) (fun _ _ => rfl)) (pa_nil)))) (pa_nil))) (pe_int) (nomark _))))))))
theorem ok_law (T : Txt K mg Cof ad fd) : FnOk P w K mg base CX0 4 (ad 17) (fd 17) ["_law_script"] (sp_law K Cof) := by
  have G__law_cell_at := ok__law_cell_at (P := P) (w := w) (base := base) T
  have B__law_cell_at := B__law_cell_at T
  have G__law_is_poly := ok__law_is_poly (P := P) (w := w) (base := base) T
  have B__law_is_poly := B__law_is_poly T
  have G__law_mul := ok__law_mul (P := P) (w := w) (base := base) T
  have B__law_mul := B__law_mul T
  have G__law_row_holds := ok__law_row_holds (P := P) (w := w) (base := base) T
  have B__law_row_holds := B__law_row_holds T
  have G__law_trim := ok__law_trim (P := P) (w := w) (base := base) T
  have B__law_trim := B__law_trim T
  have G__law_within := ok__law_within (P := P) (w := w) (base := base) T
  have B__law_within := B__law_within T
  have G_row_of := ok_row_of (P := P) (w := w) (base := base) T
  have B_row_of := B_row_of T
  have nd := sc_law.nd
  refine T.F_law.ok sc_law (fun vs H Q E h => len_law h) (fun cdv A outer s H vs Q E hr h => ⟨t_law K Cof E, ?_, rd_law h⟩)
  exact pss_cons (ps_set (i := 1) nd rfl (by first | exact Or.inl rfl | exact Or.inr rfl) (pe_ix ix_list (pe_lst (pa_cons (pe_int) (pa_cons (pe_int) (pa_cons (pe_op op_pow (pe_int) (pe_int)) (pa_nil))))) (pe_op op_modN (pe_call G__law_cell_at (hr.mono (by decide)) (by rfl) T.g__law_cell_at T.F__law_cell_at.kp B__law_cell_at .nil pass0 (pa_cons (pv 0) (pa_cons (pe_int) (pa_nil)))) (pe_int)) (fun _ _ => rfl)))
       (pss_cons (ps_set (i := 2) nd rfl (by first | exact Or.inl rfl | exact Or.inr rfl) (pe_call G__law_trim (hr.mono (by decide)) (by rfl) T.g__law_trim T.F__law_trim.kp B__law_trim .nil pass0 (pa_cons (pe_lc (own := [("_law_cell", 3)]) (by rfl) nd (pi_list (pe_slice sl_list (pv 0) (po_some (pe_int)) (po_some (pe_int)))) (blkOk_by (own := [("_law_cell", 3)]) (N := ["_law_script", "_law_most", "_law_kp", "_law_cell", "_law_handed", "_law_row", "_law_one"]) (sc := defScope s_law) (by decide +kernel)) (fun _ _ _ _ _ => pg_name (i := 3) nd rfl (by first | exact Or.inl rfl | exact Or.inr rfl)) (fun _ _ _ _ _ => pts_nil) (fun _ _ _ _ _ => pe_call G__law_within (hr.mono (by decide)) (by rfl) T.g__law_within T.F__law_within.kp B__law_within .nil pass0 (pa_cons (pv 3) (pa_cons (pv 1) (pa_nil))))) (pa_nil))))
       (pss_cut (ps_if (PW.pt (pw_and (pt_cmpR op_eq (pv 1) (pe_int) (nomark _)) (pw_and1 (pt_cmpR op_eq (pe_op op_modN (pe_op op_fdivA (pe_call G__law_cell_at (hr.mono (by decide)) (by rfl) T.g__law_cell_at T.F__law_cell_at.kp B__law_cell_at .nil pass0 (pa_cons (pv 0) (pa_cons (pe_int) (pa_nil)))) (pe_int)) (pe_int)) (pe_int) (nomark _))))) (pss_one (ps_set (i := 2) nd rfl (by first | exact Or.inl rfl | exact Or.inr rfl) (pe_call G__law_trim (hr.mono (by decide)) (by rfl) T.g__law_trim T.F__law_trim.kp B__law_trim .nil pass0 (pa_cons (pe_lc (own := [("_law_cell", 3)]) (by rfl) nd (pi_list (pe_slice sl_list (pv 0) (po_some (pe_int)) (po_some (pe_int)))) (blkOk_by (own := [("_law_cell", 3)]) (N := ["_law_script", "_law_most", "_law_kp", "_law_cell", "_law_handed", "_law_row", "_law_one"]) (sc := defScope s_law) (by decide +kernel)) (fun _ _ _ _ _ => pg_name (i := 3) nd rfl (by first | exact Or.inl rfl | exact Or.inr rfl)) (fun _ _ _ _ _ => pts_nil) (fun _ _ _ _ _ => pe_call G__law_within (hr.mono (by decide)) (by rfl) T.g__law_within T.F__law_within.kp B__law_within .nil pass0 (pa_cons (pv 3) (pa_cons (pv 1) (pa_nil))))) (pa_nil))))) (pss_nil))
       (pss_cut (ps_if (pt_cmpR op_eq (pe_op op_modN (pe_op op_fdivA (pe_call G__law_cell_at (hr.mono (by decide)) (by rfl) T.g__law_cell_at T.F__law_cell_at.kp B__law_cell_at .nil pass0 (pa_cons (pv 0) (pa_cons (pe_int) (pa_nil)))) (pe_int)) (pe_int)) (pe_int) (nomark _)) (pss_cons (ps_set (i := 2) nd rfl (by first | exact Or.inl rfl | exact Or.inr rfl) (pe_call G__law_trim (hr.mono (by decide)) (by rfl) T.g__law_trim T.F__law_trim.kp B__law_trim .nil pass0 (pa_cons (pe_slice sl_list (pv 2) (po_none) (po_some (pe_int))) (pa_nil))))
       (pss_one (ps_set (i := 2) nd rfl (by first | exact Or.inl rfl | exact Or.inr rfl) (pe_call G__law_mul (hr.mono (by decide)) (by rfl) T.g__law_mul T.F__law_mul.kp B__law_mul .nil pass0 (pa_cons (pv 2) (pa_cons (pv 2) (pa_nil))))))) (pss_nil))
       (pss_cons (ps_set (i := 4) nd rfl (by first | exact Or.inl rfl | exact Or.inr rfl) (pe_callTy call_list_of (by rfl) T.z_list (by decide +kernel) (pa_cons (pv 2) (pa_nil))))
       (pss_cons (ps_set (i := 5) nd rfl (by first | exact Or.inl rfl | exact Or.inr rfl) (pe_call G_row_of (hr.mono (by decide)) (by rfl) T.g_row_of T.F_row_of.kp B_row_of .nil pass0 (pa_cons (pv 4) (pa_nil))))
       (pss_cons (ps_if (PW.pt (pw_or (pt_not (pt_val (pe_callB call_isi (by rfl) T.z_isinstance (by decide +kernel) (pa_cons (pv 5) (pa_cons (pe_bltn (v := .ty "list") (by rfl) T.z_list (by decide +kernel) rfl) (pa_nil)))))) (pw_or1 (pt_cmpR (op_neD hr.units) (pv 4) (pv 2) (nomark _))))) (pss_one (ps_ret (pe_bl))) (pss_nil))
       (pss_cons (ps_for PassesOwn.never rfl (pi_list (pv 5)) (pg_name (i := 6) nd rfl (by first | exact Or.inl rfl | exact Or.inr rfl)) (pss_one (ps_if (PW.pt (pw_or (pt_not (pt_val (pe_call G__law_is_poly (hr.mono (by decide)) (by rfl) T.g__law_is_poly T.F__law_is_poly.kp B__law_is_poly .nil pass0 (pa_cons (pv 6) (pa_nil))))) (pw_or1 (pt_cmpR op_eq (pe_callB call_len_seq (by rfl) T.z_len (by decide +kernel) (pa_cons (pv 6) (pa_nil))) (pe_int) (nomark _))))) (pss_one (ps_ret (pe_bl))) (pss_nil))))
       (pss_cons (ps_if (pt_cmpR op_eq (pe_callB call_len_seq (by rfl) T.z_len (by decide +kernel) (pa_cons (pv 2) (pa_nil))) (pe_int) (nomark _)) (pss_one (ps_ret (pe_cmpR (op_eqD hr.units) (pv 5) (pe_lst (pa_nil)) (nomark _)))) (pss_nil))
       (pss_one (ps_ret (pe_and (pe_cmpR op_gt (pe_callB call_len_seq (by rfl) T.z_len (by decide +kernel) (pa_cons (pv 5) (pa_nil))) (pe_int) (nomark _)) (pe_one (pe_call G__law_row_holds (hr.mono (by decide)) (by rfl) T.g__law_row_holds T.F__law_row_holds.kp B__law_row_holds .nil pass0 (pa_cons (pv 5) (pa_cons (pv 2) (pa_nil))))))))))))))))
end
theorem all_mk {l : PySem.W.OpenLaw} {w : World} {K : PySem.W.Frag} {h : Heap} {mg : Str → Option Value} {fa : Addr} (X : K.In h) (G : h.Ns mainGlobals mg) (hfa : mg "law" = some (.ref fa))
    {f0 : Addr} {od0 an0 : Option Addr} {sl0 : Array (Option Value)} {oc0 kV0 dc0 pm0 cd0 ct0 : Value}
    {f1 : Addr} {od1 an1 : Option Addr} {sl1 : Array (Option Value)} {oc1 kV1 dc1 pm1 cd1 ct1 : Value}
    {f2 : Addr} {od2 an2 : Option Addr} {sl2 : Array (Option Value)} {oc2 kV2 dc2 pm2 cd2 ct2 : Value}
    {f3 : Addr} {od3 an3 : Option Addr} {sl3 : Array (Option Value)} {oc3 kV3 dc3 pm3 cd3 ct3 : Value}
    {f4 : Addr} {od4 an4 : Option Addr} {sl4 : Array (Option Value)} {oc4 kV4 dc4 pm4 cd4 ct4 : Value}
    {f5 : Addr} {od5 an5 : Option Addr} {sl5 : Array (Option Value)} {oc5 kV5 dc5 pm5 cd5 ct5 : Value}
    {f6 : Addr} {od6 an6 : Option Addr} {sl6 : Array (Option Value)} {oc6 kV6 dc6 pm6 cd6 ct6 : Value}
    {f7 : Addr} {od7 an7 : Option Addr} {sl7 : Array (Option Value)} {oc7 kV7 dc7 pm7 cd7 ct7 : Value}
    {f8 : Addr} {od8 an8 : Option Addr} {sl8 : Array (Option Value)} {oc8 kV8 dc8 pm8 cd8 ct8 : Value}
    {f9 : Addr} {od9 an9 : Option Addr} {sl9 : Array (Option Value)} {oc9 kV9 dc9 pm9 cd9 ct9 : Value}
    {f10 : Addr} {od10 an10 : Option Addr} {sl10 : Array (Option Value)} {oc10 kV10 dc10 pm10 cd10 ct10 : Value}
    {f11 : Addr} {od11 an11 : Option Addr} {sl11 : Array (Option Value)} {oc11 kV11 dc11 pm11 cd11 ct11 : Value}
    {f12 : Addr} {od12 an12 : Option Addr} {sl12 : Array (Option Value)} {oc12 kV12 dc12 pm12 cd12 ct12 : Value}
    {f13 : Addr} {od13 an13 : Option Addr} {sl13 : Array (Option Value)} {oc13 kV13 dc13 pm13 cd13 ct13 : Value}
    {f14 : Addr} {od14 an14 : Option Addr} {sl14 : Array (Option Value)} {oc14 kV14 dc14 pm14 cd14 ct14 : Value}
    {f15 : Addr} {od15 an15 : Option Addr} {sl15 : Array (Option Value)} {oc15 kV15 dc15 pm15 cd15 ct15 : Value}
    {f16 : Addr} {od16 an16 : Option Addr} {sl16 : Array (Option Value)} {oc16 kV16 dc16 pm16 cd16 ct16 : Value}
    {f17 : Addr} {od17 an17 : Option Addr} {sl17 : Array (Option Value)} {oc17 kV17 dc17 pm17 cd17 ct17 : Value}
    (a0 : PySem.W.nsIn K mainGlobals "shared" = some (some (.ref f0))) (l0 : K.lookup f0 = some ⟨oc0, od0, .func (PySem.W.fnOf "shared" "shared" (defArgs s_shared) (defBody s_shared) (defScope s_shared) .none kV0 dc0 pm0 an0 cd0 ct0), sl0⟩) (c0 : PySem.W.codeIn K cd0 "shared" = true) (k0 : PySem.W.keepIn K (.ref f0) = true)
    (a1 : PySem.W.nsIn K mainGlobals "poly" = some (some (.ref f1))) (l1 : K.lookup f1 = some ⟨oc1, od1, .func (PySem.W.fnOf "poly" "poly" (defArgs s_poly) (defBody s_poly) (defScope s_poly) .none kV1 dc1 pm1 an1 cd1 ct1), sl1⟩) (c1 : PySem.W.codeIn K cd1 "poly" = true) (k1 : PySem.W.keepIn K (.ref f1) = true)
    (a2 : PySem.W.nsIn K mainGlobals "degree" = some (some (.ref f2))) (l2 : K.lookup f2 = some ⟨oc2, od2, .func (PySem.W.fnOf "degree" "degree" (defArgs s_degree) (defBody s_degree) (defScope s_degree) .none kV2 dc2 pm2 an2 cd2 ct2), sl2⟩) (c2 : PySem.W.codeIn K cd2 "degree" = true) (k2 : PySem.W.keepIn K (.ref f2) = true)
    (a3 : PySem.W.nsIn K mainGlobals "slope" = some (some (.ref f3))) (l3 : K.lookup f3 = some ⟨oc3, od3, .func (PySem.W.fnOf "slope" "slope" (defArgs s_slope) (defBody s_slope) (defScope s_slope) .none kV3 dc3 pm3 an3 cd3 ct3), sl3⟩) (c3 : PySem.W.codeIn K cd3 "slope" = true) (k3 : PySem.W.keepIn K (.ref f3) = true)
    (a4 : PySem.W.nsIn K mainGlobals "shrunk" = some (some (.ref f4))) (l4 : K.lookup f4 = some ⟨oc4, od4, .func (PySem.W.fnOf "shrunk" "shrunk" (defArgs s_shrunk) (defBody s_shrunk) (defScope s_shrunk) .none kV4 dc4 pm4 an4 cd4 ct4), sl4⟩) (c4 : PySem.W.codeIn K cd4 "shrunk" = true) (k4 : PySem.W.keepIn K (.ref f4) = true)
    (a5 : PySem.W.nsIn K mainGlobals "divided" = some (some (.ref f5))) (l5 : K.lookup f5 = some ⟨oc5, od5, .func (PySem.W.fnOf "divided" "divided" (defArgs s_divided) (defBody s_divided) (defScope s_divided) .none kV5 dc5 pm5 an5 cd5 ct5), sl5⟩) (c5 : PySem.W.codeIn K cd5 "divided" = true) (k5 : PySem.W.keepIn K (.ref f5) = true)
    (a6 : PySem.W.nsIn K mainGlobals "row_of" = some (some (.ref f6))) (l6 : K.lookup f6 = some ⟨oc6, od6, .func (PySem.W.fnOf "row_of" "row_of" (defArgs s_row_of) (defBody s_row_of) (defScope s_row_of) .none kV6 dc6 pm6 an6 cd6 ct6), sl6⟩) (c6 : PySem.W.codeIn K cd6 "row_of" = true) (k6 : PySem.W.keepIn K (.ref f6) = true)
    (a7 : PySem.W.nsIn K mainGlobals "_law_cell_at" = some (some (.ref f7))) (l7 : K.lookup f7 = some ⟨oc7, od7, .func (PySem.W.fnOf "_law_cell_at" "_law_cell_at" (defArgs s__law_cell_at) (defBody s__law_cell_at) (defScope s__law_cell_at) .none kV7 dc7 pm7 an7 cd7 ct7), sl7⟩) (c7 : PySem.W.codeIn K cd7 "_law_cell_at" = true) (k7 : PySem.W.keepIn K (.ref f7) = true)
    (a8 : PySem.W.nsIn K mainGlobals "_law_whole" = some (some (.ref f8))) (l8 : K.lookup f8 = some ⟨oc8, od8, .func (PySem.W.fnOf "_law_whole" "_law_whole" (defArgs s__law_whole) (defBody s__law_whole) (defScope s__law_whole) .none kV8 dc8 pm8 an8 cd8 ct8), sl8⟩) (c8 : PySem.W.codeIn K cd8 "_law_whole" = true) (k8 : PySem.W.keepIn K (.ref f8) = true)
    (a9 : PySem.W.nsIn K mainGlobals "_law_within" = some (some (.ref f9))) (l9 : K.lookup f9 = some ⟨oc9, od9, .func (PySem.W.fnOf "_law_within" "_law_within" (defArgs s__law_within) (defBody s__law_within) (defScope s__law_within) .none kV9 dc9 pm9 an9 cd9 ct9), sl9⟩) (c9 : PySem.W.codeIn K cd9 "_law_within" = true) (k9 : PySem.W.keepIn K (.ref f9) = true)
    (a10 : PySem.W.nsIn K mainGlobals "_law_trim" = some (some (.ref f10))) (l10 : K.lookup f10 = some ⟨oc10, od10, .func (PySem.W.fnOf "_law_trim" "_law_trim" (defArgs s__law_trim) (defBody s__law_trim) (defScope s__law_trim) .none kV10 dc10 pm10 an10 cd10 ct10), sl10⟩) (c10 : PySem.W.codeIn K cd10 "_law_trim" = true) (k10 : PySem.W.keepIn K (.ref f10) = true)
    (a11 : PySem.W.nsIn K mainGlobals "_law_mul" = some (some (.ref f11))) (l11 : K.lookup f11 = some ⟨oc11, od11, .func (PySem.W.fnOf "_law_mul" "_law_mul" (defArgs s__law_mul) (defBody s__law_mul) (defScope s__law_mul) .none kV11 dc11 pm11 an11 cd11 ct11), sl11⟩) (c11 : PySem.W.codeIn K cd11 "_law_mul" = true) (k11 : PySem.W.keepIn K (.ref f11) = true)
    (a12 : PySem.W.nsIn K mainGlobals "_law_is_poly" = some (some (.ref f12))) (l12 : K.lookup f12 = some ⟨oc12, od12, .func (PySem.W.fnOf "_law_is_poly" "_law_is_poly" (defArgs s__law_is_poly) (defBody s__law_is_poly) (defScope s__law_is_poly) .none kV12 dc12 pm12 an12 cd12 ct12), sl12⟩) (c12 : PySem.W.codeIn K cd12 "_law_is_poly" = true) (k12 : PySem.W.keepIn K (.ref f12) = true)
    (a13 : PySem.W.nsIn K mainGlobals "_law_gcd" = some (some (.ref f13))) (l13 : K.lookup f13 = some ⟨oc13, od13, .func (PySem.W.fnOf "_law_gcd" "_law_gcd" (defArgs s__law_gcd) (defBody s__law_gcd) (defScope s__law_gcd) .none kV13 dc13 pm13 an13 cd13 ct13), sl13⟩) (c13 : PySem.W.codeIn K cd13 "_law_gcd" = true) (k13 : PySem.W.keepIn K (.ref f13) = true)
    (a14 : PySem.W.nsIn K mainGlobals "_law_shrunk" = some (some (.ref f14))) (l14 : K.lookup f14 = some ⟨oc14, od14, .func (PySem.W.fnOf "_law_shrunk" "_law_shrunk" (defArgs s__law_shrunk) (defBody s__law_shrunk) (defScope s__law_shrunk) .none kV14 dc14 pm14 an14 cd14 ct14), sl14⟩) (c14 : PySem.W.codeIn K cd14 "_law_shrunk" = true) (k14 : PySem.W.keepIn K (.ref f14) = true)
    (a15 : PySem.W.nsIn K mainGlobals "_law_rest" = some (some (.ref f15))) (l15 : K.lookup f15 = some ⟨oc15, od15, .func (PySem.W.fnOf "_law_rest" "_law_rest" (defArgs s__law_rest) (defBody s__law_rest) (defScope s__law_rest) .none kV15 dc15 pm15 an15 cd15 ct15), sl15⟩) (c15 : PySem.W.codeIn K cd15 "_law_rest" = true) (k15 : PySem.W.keepIn K (.ref f15) = true)
    (a16 : PySem.W.nsIn K mainGlobals "_law_row_holds" = some (some (.ref f16))) (l16 : K.lookup f16 = some ⟨oc16, od16, .func (PySem.W.fnOf "_law_row_holds" "_law_row_holds" (defArgs s__law_row_holds) (defBody s__law_row_holds) (defScope s__law_row_holds) .none kV16 dc16 pm16 an16 cd16 ct16), sl16⟩) (c16 : PySem.W.codeIn K cd16 "_law_row_holds" = true) (k16 : PySem.W.keepIn K (.ref f16) = true)
    (a17 : PySem.W.nsIn K mainGlobals "law" = some (some (.ref f17))) (l17 : K.lookup f17 = some ⟨oc17, od17, .func (PySem.W.fnOf "law" "law" (defArgs s_law) (defBody s_law) (defScope s_law) .none kV17 dc17 pm17 an17 cd17 ct17), sl17⟩) (c17 : PySem.W.codeIn K cd17 "law" = true) (k17 : PySem.W.keepIn K (.ref f17) = true)
    (z_abs : PySem.W.nsIn K mainGlobals "abs" = some none)
    (z_bool : PySem.W.nsIn K mainGlobals "bool" = some none)
    (z_enumerate : PySem.W.nsIn K mainGlobals "enumerate" = some none)
    (z_int : PySem.W.nsIn K mainGlobals "int" = some none)
    (z_isinstance : PySem.W.nsIn K mainGlobals "isinstance" = some none)
    (z_len : PySem.W.nsIn K mainGlobals "len" = some none)
    (z_list : PySem.W.nsIn K mainGlobals "list" = some none)
    (z_range : PySem.W.nsIn K mainGlobals "range" = some none)
    (z_reversed : PySem.W.nsIn K mainGlobals "reversed" = some none)
    : ∃ fd : FuncData, (∀ (s : Shared) (v : Value), BindsTo s fd ⟨[v], []⟩ [("_law_script", v)]) ∧ ∀ base : Heap, K.In base → base.Ns mainGlobals mg → FnOk l.prog w K mg base CX0 4 fa fd ["_law_script"] (sp_law K (fun _ => 0)) := by
  have e := hfa.symm.trans (PySem.W.mg_of X G a17)
  cases e
  have T : Txt K mg (fun _ => 0) (fun i => [f0, f1, f2, f3, f4, f5, f6, f7, f8, f9, f10, f11, f12, f13, f14, f15, f16, fa].getD i 0) (fun i => [PySem.W.fnOf "shared" "shared" (defArgs s_shared) (defBody s_shared) (defScope s_shared) .none kV0 dc0 pm0 an0 cd0 ct0, PySem.W.fnOf "poly" "poly" (defArgs s_poly) (defBody s_poly) (defScope s_poly) .none kV1 dc1 pm1 an1 cd1 ct1, PySem.W.fnOf "degree" "degree" (defArgs s_degree) (defBody s_degree) (defScope s_degree) .none kV2 dc2 pm2 an2 cd2 ct2, PySem.W.fnOf "slope" "slope" (defArgs s_slope) (defBody s_slope) (defScope s_slope) .none kV3 dc3 pm3 an3 cd3 ct3, PySem.W.fnOf "shrunk" "shrunk" (defArgs s_shrunk) (defBody s_shrunk) (defScope s_shrunk) .none kV4 dc4 pm4 an4 cd4 ct4, PySem.W.fnOf "divided" "divided" (defArgs s_divided) (defBody s_divided) (defScope s_divided) .none kV5 dc5 pm5 an5 cd5 ct5, PySem.W.fnOf "row_of" "row_of" (defArgs s_row_of) (defBody s_row_of) (defScope s_row_of) .none kV6 dc6 pm6 an6 cd6 ct6, PySem.W.fnOf "_law_cell_at" "_law_cell_at" (defArgs s__law_cell_at) (defBody s__law_cell_at) (defScope s__law_cell_at) .none kV7 dc7 pm7 an7 cd7 ct7, PySem.W.fnOf "_law_whole" "_law_whole" (defArgs s__law_whole) (defBody s__law_whole) (defScope s__law_whole) .none kV8 dc8 pm8 an8 cd8 ct8, PySem.W.fnOf "_law_within" "_law_within" (defArgs s__law_within) (defBody s__law_within) (defScope s__law_within) .none kV9 dc9 pm9 an9 cd9 ct9, PySem.W.fnOf "_law_trim" "_law_trim" (defArgs s__law_trim) (defBody s__law_trim) (defScope s__law_trim) .none kV10 dc10 pm10 an10 cd10 ct10, PySem.W.fnOf "_law_mul" "_law_mul" (defArgs s__law_mul) (defBody s__law_mul) (defScope s__law_mul) .none kV11 dc11 pm11 an11 cd11 ct11, PySem.W.fnOf "_law_is_poly" "_law_is_poly" (defArgs s__law_is_poly) (defBody s__law_is_poly) (defScope s__law_is_poly) .none kV12 dc12 pm12 an12 cd12 ct12, PySem.W.fnOf "_law_gcd" "_law_gcd" (defArgs s__law_gcd) (defBody s__law_gcd) (defScope s__law_gcd) .none kV13 dc13 pm13 an13 cd13 ct13, PySem.W.fnOf "_law_shrunk" "_law_shrunk" (defArgs s__law_shrunk) (defBody s__law_shrunk) (defScope s__law_shrunk) .none kV14 dc14 pm14 an14 cd14 ct14, PySem.W.fnOf "_law_rest" "_law_rest" (defArgs s__law_rest) (defBody s__law_rest) (defScope s__law_rest) .none kV15 dc15 pm15 an15 cd15 ct15, PySem.W.fnOf "_law_row_holds" "_law_row_holds" (defArgs s__law_row_holds) (defBody s__law_row_holds) (defScope s__law_row_holds) .none kV16 dc16 pm16 an16 cd16 ct16, PySem.W.fnOf "law" "law" (defArgs s_law) (defBody s_law) (defScope s_law) .none kV17 dc17 pm17 an17 cd17 ct17].getD i (PySem.W.fnOf "law" "law" (defArgs s_law) (defBody s_law) (defScope s_law) .none kV17 dc17 pm17 an17 cd17 ct17)) :=
    { z_abs := PySem.W.mg_none_of X G z_abs, z_bool := PySem.W.mg_none_of X G z_bool, z_enumerate := PySem.W.mg_none_of X G z_enumerate, z_int := PySem.W.mg_none_of X G z_int, z_isinstance := PySem.W.mg_none_of X G z_isinstance, z_len := PySem.W.mg_none_of X G z_len, z_list := PySem.W.mg_none_of X G z_list, z_range := PySem.W.mg_none_of X G z_range, z_reversed := PySem.W.mg_none_of X G z_reversed, g_shared := PySem.W.mg_of X G a0, F_shared := fun_mk (st := s_shared) l0 c0 k0, g_poly := PySem.W.mg_of X G a1, F_poly := fun_mk (st := s_poly) l1 c1 k1, g_degree := PySem.W.mg_of X G a2, F_degree := fun_mk (st := s_degree) l2 c2 k2, g_slope := PySem.W.mg_of X G a3, F_slope := fun_mk (st := s_slope) l3 c3 k3, g_shrunk := PySem.W.mg_of X G a4, F_shrunk := fun_mk (st := s_shrunk) l4 c4 k4, g_divided := PySem.W.mg_of X G a5, F_divided := fun_mk (st := s_divided) l5 c5 k5, g_row_of := PySem.W.mg_of X G a6, F_row_of := fun_mk (st := s_row_of) l6 c6 k6, g__law_cell_at := PySem.W.mg_of X G a7, F__law_cell_at := fun_mk (st := s__law_cell_at) l7 c7 k7, g__law_whole := PySem.W.mg_of X G a8, F__law_whole := fun_mk (st := s__law_whole) l8 c8 k8, g__law_within := PySem.W.mg_of X G a9, F__law_within := fun_mk (st := s__law_within) l9 c9 k9, g__law_trim := PySem.W.mg_of X G a10, F__law_trim := fun_mk (st := s__law_trim) l10 c10 k10, g__law_mul := PySem.W.mg_of X G a11, F__law_mul := fun_mk (st := s__law_mul) l11 c11 k11, g__law_is_poly := PySem.W.mg_of X G a12, F__law_is_poly := fun_mk (st := s__law_is_poly) l12 c12 k12, g__law_gcd := PySem.W.mg_of X G a13, F__law_gcd := fun_mk (st := s__law_gcd) l13 c13 k13, g__law_shrunk := PySem.W.mg_of X G a14, F__law_shrunk := fun_mk (st := s__law_shrunk) l14 c14 k14, g__law_rest := PySem.W.mg_of X G a15, F__law_rest := fun_mk (st := s__law_rest) l15 c15 k15, g__law_row_holds := PySem.W.mg_of X G a16, F__law_row_holds := fun_mk (st := s__law_row_holds) l16 c16 k16, g_law := PySem.W.mg_of X G a17, F_law := fun_mk (st := s_law) l17 c17 k17 }
  exact ⟨PySem.W.fnOf "law" "law" (defArgs s_law) (defBody s_law) (defScope s_law) .none kV17 dc17 pm17 an17 cd17 ct17, fun s v => .of_eq rfl, fun base _ _ => ok_law T⟩
end RP
open PySem PySem.W PyProof.Rows
set_option maxHeartbeats 0 in
theorem PySem.Challenge.cw_rootspan_k22_rows_holds : PySem.Challenge.rw_rootspan_k22_rows.Holds := by
  w_on; o_law; k_head; (case hw => w_witness2)
  k_fill
  refine L2.walk_of (l := PySem.Challenge.rw_rootspan_k22_rows) (n := 63) (k := 4) (x := "_law_script") (CX := fun _ => L2.CX0) (sp := fun w => RP.sp_law _ (fun _ => 0)) rfl (by decide) rfl ⟨rfl, by decide, by decide⟩ (fun w h Y => PySem.W.kIn_of Y) ?F (fun _ _ a ns hl _ hS => ⟨a, ns, rfl, hS, hl, fun _ => rfl⟩) (fun _ _ _ _ _ h => h)
  case F =>
    intro w mg fa h KX G hmg
    refine' RP.all_mk KX G hmg ?a0 ?l0 ?c0 ?k0 ?a1 ?l1 ?c1 ?k1 ?a2 ?l2 ?c2 ?k2 ?a3 ?l3 ?c3 ?k3 ?a4 ?l4 ?c4 ?k4 ?a5 ?l5 ?c5 ?k5 ?a6 ?l6 ?c6 ?k6 ?a7 ?l7 ?c7 ?k7 ?a8 ?l8 ?c8 ?k8 ?a9 ?l9 ?c9 ?k9 ?a10 ?l10 ?c10 ?k10 ?a11 ?l11 ?c11 ?k11 ?a12 ?l12 ?c12 ?k12 ?a13 ?l13 ?c13 ?k13 ?a14 ?l14 ?c14 ?k14 ?a15 ?l15 ?c15 ?k15 ?a16 ?l16 ?c16 ?k16 ?a17 ?l17 ?c17 ?k17 ?z_abs ?z_bool ?z_enumerate ?z_int ?z_isinstance ?z_len ?z_list ?z_range ?z_reversed
    (case a0 => k_is); (case l0 => k_is); (case c0 => k_is); (case k0 => k_is); (case a1 => k_is); (case l1 => k_is); (case c1 => k_is); (case k1 => k_is); (case a2 => k_is); (case l2 => k_is); (case c2 => k_is); (case k2 => k_is); (case a3 => k_is); (case l3 => k_is); (case c3 => k_is); (case k3 => k_is); (case a4 => k_is); (case l4 => k_is); (case c4 => k_is); (case k4 => k_is); (case a5 => k_is); (case l5 => k_is); (case c5 => k_is); (case k5 => k_is); (case a6 => k_is); (case l6 => k_is); (case c6 => k_is); (case k6 => k_is); (case a7 => k_is); (case l7 => k_is); (case c7 => k_is); (case k7 => k_is); (case a8 => k_is); (case l8 => k_is); (case c8 => k_is); (case k8 => k_is); (case a9 => k_is); (case l9 => k_is); (case c9 => k_is); (case k9 => k_is); (case a10 => k_is); (case l10 => k_is); (case c10 => k_is); (case k10 => k_is); (case a11 => k_is); (case l11 => k_is); (case c11 => k_is); (case k11 => k_is); (case a12 => k_is); (case l12 => k_is); (case c12 => k_is); (case k12 => k_is); (case a13 => k_is); (case l13 => k_is); (case c13 => k_is); (case k13 => k_is); (case a14 => k_is); (case l14 => k_is); (case c14 => k_is); (case k14 => k_is); (case a15 => k_is); (case l15 => k_is); (case c15 => k_is); (case k15 => k_is); (case a16 => k_is); (case l16 => k_is); (case c16 => k_is); (case k16 => k_is); (case a17 => k_is); (case l17 => k_is); (case c17 => k_is); (case k17 => k_is); (case z_abs => k_is); (case z_bool => k_is); (case z_enumerate => k_is); (case z_int => k_is); (case z_isinstance => k_is); (case z_len => k_is); (case z_list => k_is); (case z_range => k_is); (case z_reversed => k_is)

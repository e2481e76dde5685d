import PyProof.Rows.All
import Wide.All
import OpenK.AllK
import Wide.FinOn
import HandS.ForMost
import HandS.Exc
import HandS.TryOnly
import HandS.ExcOwn
import HandS.WordsExc
import HandS.Wide
import HandS.IsInst
import HandS.Conv
import HandS.RevRange
import HandS.Evl
import HandS.More
import HandS.Style
import HandS.Defaults
import HandS.ExcIs
import HandS.StrMore
import HandS.Text
import PySem.Challenge.RW_rootspan_k72_figures_of_fractions
set_option Elab.async false
set_option linter.all false
set_option maxRecDepth 100000
set_option maxHeartbeats 4000000
set_option exponentiation.threshold 100000
set_option linter.all false
set_option maxRecDepth 100000
set_option maxHeartbeats 4000000
namespace RB
open PySem PySem.Spec PyProof.Rows L2
open Evl (Ex rLenS rListS rMax2 tCut pss_cut)

/-! ### the readings' names -/
def rIAdd : R2 := rI0 fun i j => .int (i + j)
def rISub : R2 := rI0 fun i j => .int (i - j)
/-- * of factors that are not too wide, or of any one and a small one -/
def CMulX (i j : Int) : Prop := CMulW i j ∨ j.natAbs < 2 ^ 60
def rMul : R2 := rI CMulX fun i j => .int (i * j)
def rMod : R2 := rI (fun _ j => j ≠ 0) fun i j => .int (i.fmod j)
def CDivA (_ j : Int) : Prop := j ≠ 0 ∧ j.natAbs.log2 < 9000
def rDiv : R2 := rI CDivA fun i j => .int (i.fdiv j)
def rPow : R2 := rI CPow fun i j => .int (i ^ j.toNat)
def rLt : R2 := rI0 fun i j => .bl (decide (i < j))
def rLe : R2 := rI0 fun i j => .bl (decide (i ≤ j))
def rGt : R2 := rI0 fun i j => .bl (decide (j < i))
def rGe : R2 := rI0 fun i j => .bl (decide (j ≤ i))
def rIsN : R2 := fun x y H Q => y = .non ∧ Q (.bl (decide (x = .non))) H
def rNotN : R2 := fun x y H Q => y = .non ∧ Q (.bl (!decide (x = .non))) H
def rNeg : V → Hp → VK → Prop := rU fun i => .int (-i)
def rAbs : List V → Hp → VK → Prop := fun xs H Q => ∃ i, xs = [.int i] ∧ Q (.int (if i < 0 then -i else i)) H
def rMin2 : List V → Hp → VK → Prop := fun xs H Q => ∃ i j, xs = [.int i, .int j] ∧ Q (.int (if j < i then j else i)) H
def rInt1 : List V → Hp → VK → Prop := fun xs H Q => (∃ i, xs = [.int i] ∧ Q (.int i) H) ∨ ∃ k, xs = [.bl k] ∧ Q (.int (if k then 1 else 0)) H
def rAddS : R2 := fun x y H Q => ∃ i j, x = .str i ∧ y = .str j ∧ i.length + j.length ≤ sizeLine ∧ Q (.str (i ++ j)) H
def rLenStr : List V → Hp → VK → Prop := fun xs H Q => ∃ z, xs = [.str z] ∧ z.length ≤ sizeLine ∧ Q (.int z.length) H
def rStrInt : List V → Hp → VK → Prop := fun xs H Q => ∃ i, xs = [.int i] ∧ i.natAbs.log2 < 1920 ∧ Q (.str (toString i)) H
def rInsert : V → List V → Hp → VK → Prop := fun x vs H Q => ∃ (l : Addr) (xs : List V) (i : Int) (y : V), x = .ref l ∧ vs = [.int i, y] ∧ H l = some (.lst xs) ∧ xs.length < sizeLine ∧ 0 ≤ i ∧ i < 2 ^ 63 ∧ Q .non (upd H l (.lst (xs.take i.toNat ++ [y] ++ xs.drop i.toNat)))
section
variable {X : Cx}
theorem op_fdivA : OpR X (binaryOp .FloorDiv) rDiv := opI fun i j _ _ _ _ _ hc q => floordiv_int hc.1 q (.inl (PyProof.noPylong_of_log2 hc.2))
theorem op_mulX : OpR X (binaryOp .Mult) rMul := opI fun _ _ _ _ _ _ _ hc q => mul_int q (hc.elim CMulW.ok fun h => IntMulOk.of_right (intBits_le_64 (by omega) (by omega)))
theorem op_isN1 : OpR X (compareOp .Is) rIsN := op_isN
theorem op_notN1 : OpR X (compareOp .IsNot) rNotN := op_notN
end

/-! ### heaps -/
def Exb (l : Addr) (H H' : Hp) : Prop := ∀ a, a ≠ l → ∀ o, H a = some o → H' a = some o
theorem _root_.Evl.Ex.mutb {H0 H H' : Hp} {l : Addr} (e : Ex H0 H) (b : Exb l H H') (f : H0 l = none) : Ex H0 H' := fun a o h => b a (ne_of_none h f) o (e a o h)
theorem Exb.trans {l : Addr} {H H1 H2 : Hp} (a : Exb l H H1) (b : Exb l H1 H2) : Exb l H H2 := fun c n o h => b c n o (a c n o h)
theorem Exb.ex {l : Addr} {H H1 H2 : Hp} (a : Exb l H H1) (b : Ex H1 H2) : Exb l H H2 := fun c n o h => b c o (a c n o h)
theorem _root_.Evl.Ex.exb {l : Addr} {H H1 H2 : Hp} (a : Ex H H1) (b : Exb l H1 H2) : Exb l H H2 := fun c n o h => b c n o (a c o h)
/-- a list laid anew -/
theorem newL {H : Hp} {xs : List V} {Q : VK} (k : ∀ p H', H p = none → Ex H H' → H' p = some (.lst xs) → Q (.ref p) H') : ∀ p, H p = none → Q (.ref p) (upd H p (.lst xs)) :=
  fun p hp => k p _ hp (Evl.Ex.new hp) upd_same
theorem newT {H : Hp} {xs : List V} {Q : VK} (k : ∀ p H', H p = none → Ex H H' → H' p = some (.tup xs) → Q (.ref p) H') : ∀ p, H p = none → Q (.ref p) (upd H p (.tup xs)) :=
  fun p hp => k p _ hp (Evl.Ex.new hp) upd_same
/-- an object changed -/
theorem mutL {H : Hp} {l : Addr} {o : HO} {G : Hp → Prop} (k : ∀ H', Exb l H H' → H' l = some o → G H') : G (upd H l o) :=
  k _ (fun a n o h => by rw [upd_ne n]; exact h) upd_same
theorem _root_.Evl.Ex.free {H H' : Hp} (e : Ex H H') {p : Addr} (h : H' p = none) : H p = none := Evl.fresh_back e h
theorem _root_.Evl.Ex.l {K : PySem.W.Frag} {H H' : Hp} {a : Addr} {xs : List V} (e : Ex H H') (h : SqL K H a xs) : SqL K H' a xs := Evl.ex_l e h
theorem SqL.inj {K : PySem.W.Frag} {H : Hp} {a : Addr} {xs : List V} (h : H a = some (.lst xs)) : SqL K H a xs := .inl (.inl h)

def LstK (Q : VK) : List V → Hp → Prop := fun xs H1 => xs.length ≤ sizeLine ∧ ∀ p, H1 p = none → Q (.ref p) (upd H1 p (.lst xs))
def TupK (Q : VK) : List V → Hp → Prop := fun xs H1 => xs.length ≤ sizeLine ∧ ∀ p, H1 p = none → Q (.ref p) (upd H1 p (.tup xs))
theorem small0 {n : Nat} (h : n ≤ 16777216) : n ≤ sizeLine := by rw [sizeLine_eq]; exact h
/-! ### readings, step by step -/
section
variable {K : PySem.W.Frag} {σ : L2.St} {H : Hp} {Q : VK} {D : Ends} {ta tb te to ti : TE} {t u : TS} {tt t1 t2 : TT} {g : TG}
theorem r_seq (h : t { D with nx := u D } σ H) : tSeq t u D σ H := h
theorem r_next (h : D.nx σ H) : tNext D σ H := h
theorem r_var {i : Nat} {v : V} (h : σ[i]? = some (some v)) (q : Q v H) : tVar i σ H Q := ⟨v, h, q⟩
theorem r_c {v : V} (q : Q v H) : tC v σ H Q := q
theorem r_op {r : R2} (h : ta σ H fun x H1 => tb σ H1 fun y H2 => r x y H2 Q) : tOp r ta tb σ H Q := h
theorem r_un {r : V → Hp → VK → Prop} (h : ta σ H fun x H1 => r x H1 Q) : tUn r ta σ H Q := h
theorem r_add {i j : Int} (q : Q (.int (i + j)) H) : rIAdd (.int i) (.int j) H Q := ⟨i, j, rfl, rfl, q⟩
theorem r_sub {i j : Int} (q : Q (.int (i - j)) H) : rISub (.int i) (.int j) H Q := ⟨i, j, rfl, rfl, q⟩
theorem r_mul {i j : Int} (c : CMulW i j) (q : Q (.int (i * j)) H) : rMul (.int i) (.int j) H Q := ⟨i, j, rfl, rfl, .inl c, q⟩
theorem r_mulR {i j : Int} (c : j.natAbs < 2 ^ 60) (q : Q (.int (i * j)) H) : rMul (.int i) (.int j) H Q := ⟨i, j, rfl, rfl, .inr c, q⟩
theorem r_mod {i j : Int} (c : j ≠ 0) (q : Q (.int (i.fmod j)) H) : rMod (.int i) (.int j) H Q := ⟨i, j, rfl, rfl, c, q⟩
theorem r_div {i j : Int} (c : CDivA i j) (q : Q (.int (i.fdiv j)) H) : rDiv (.int i) (.int j) H Q := ⟨i, j, rfl, rfl, c, q⟩
theorem r_pow {i j : Int} (c : CPow i j) (q : Q (.int (i ^ j.toNat)) H) : rPow (.int i) (.int j) H Q := ⟨i, j, rfl, rfl, c, q⟩
theorem r_lt {i j : Int} (q : Q (.bl (decide (i < j))) H) : rLt (.int i) (.int j) H Q := ⟨i, j, rfl, rfl, q⟩
theorem r_le {i j : Int} (q : Q (.bl (decide (i ≤ j))) H) : rLe (.int i) (.int j) H Q := ⟨i, j, rfl, rfl, q⟩
theorem r_gt {i j : Int} (q : Q (.bl (decide (j < i))) H) : rGt (.int i) (.int j) H Q := ⟨i, j, rfl, rfl, q⟩
theorem r_ge {i j : Int} (q : Q (.bl (decide (j ≤ i))) H) : rGe (.int i) (.int j) H Q := ⟨i, j, rfl, rfl, q⟩
theorem r_neg {i : Int} (q : Q (.int (-i)) H) : rNeg (.int i) H Q := ⟨i, rfl, q⟩
theorem d_int (i j : Int) : decide (V.int i = V.int j) = decide (i = j) := by
  by_cases h : i = j
  · rw [h]; simp
  · rw [decide_eq_false h, decide_eq_false (fun z => h (V.int.inj z))]
theorem d_bl (i j : Bool) : decide (V.bl i = V.bl j) = decide (i = j) := by
  by_cases h : i = j
  · rw [h]; simp
  · rw [decide_eq_false h, decide_eq_false (fun z => h (V.bl.inj z))]
theorem d_str (i j : Str) : decide (V.str i = V.str j) = decide (i = j) := by
  by_cases h : i = j
  · rw [h]; simp
  · rw [decide_eq_false h, decide_eq_false (fun z => h (V.str.inj z))]
theorem r_eqI {i j : Int} (q : Q (.bl (decide (i = j))) H) : rEq (.int i) (.int j) H Q := ⟨rfl, by rw [d_int]; exact q⟩
theorem r_neI {i j : Int} (q : Q (.bl (!decide (i = j))) H) : rNe (.int i) (.int j) H Q := ⟨rfl, by rw [d_int]; exact q⟩
theorem r_eqB {i j : Bool} (q : Q (.bl (decide (i = j))) H) : rEq (.bl i) (.bl j) H Q := ⟨rfl, by rw [d_bl]; exact q⟩
theorem r_eqS {i j : Str} (q : Q (.bl (decide (i = j))) H) : rEq (.str i) (.str j) H Q := ⟨rfl, by rw [d_str]; exact q⟩
theorem r_neS {i j : Str} (q : Q (.bl (!decide (i = j))) H) : rNe (.str i) (.str j) H Q := ⟨rfl, by rw [d_str]; exact q⟩
theorem r_isN {x : V} (q : Q (.bl (decide (x = .non))) H) : rIsN x .non H Q := ⟨rfl, q⟩
theorem r_notN {x : V} (q : Q (.bl (!decide (x = .non))) H) : rNotN x .non H Q := ⟨rfl, q⟩
theorem r_ixL {p : Addr} {i : Int} {xs : List V} {v : V} (h : SqL K H p xs) (a : atI xs i = some v) (q : Q v H) : rIxL K (.ref p) (.int i) H Q := ⟨p, xs, i, v, rfl, rfl, h, a, q⟩
theorem r_ixT {p : Addr} {i : Int} {xs : List V} {v : V} (h : SqT K H p xs) (a : atI xs i = some v) (q : Q v H) : rIxT K (.ref p) (.int i) H Q := ⟨p, xs, i, v, rfl, rfl, h, a, q⟩
theorem r_cons {ta : TE} {tr : TA} {Q : List V → Hp → Prop} (h : ta σ H fun x H1 => tr σ H1 fun xs H2 => Q (x :: xs) H2) : tCons ta tr σ H Q := h
theorem r_nil {Q : List V → Hp → Prop} (h : Q [] H) : tNil σ H Q := h
theorem r_cb {r : List V → Hp → VK → Prop} {ta : TA} (h : ta σ H fun vs H1 => r vs H1 Q) : tCB r ta σ H Q := h
theorem r_abs {i : Int} (q : Q (.int (if i < 0 then -i else i)) H) : rAbs [.int i] H Q := ⟨i, rfl, q⟩
theorem r_max2 {i j : Int} (q : Q (.int (if j > i then j else i)) H) : rMax2 [.int i, .int j] H Q := ⟨i, j, rfl, q⟩
theorem r_min2 {i j : Int} (q : Q (.int (if j < i then j else i)) H) : rMin2 [.int i, .int j] H Q := ⟨i, j, rfl, q⟩
theorem r_len {p : Addr} {xs : List V} (h : SqL K H p xs) (q : Q (.int xs.length) H) : rLenS K [.ref p] H Q := ⟨p, xs, rfl, .inl h, q⟩
theorem r_lenT {p : Addr} {xs : List V} (h : SqT K H p xs) (q : Q (.int xs.length) H) : rLenS K [.ref p] H Q := ⟨p, xs, rfl, .inr h, q⟩
theorem r_list {p : Addr} {xs : List V} (h : SqL K H p xs) (q : ∀ l H', H l = none → Ex H H' → H' l = some (.lst xs) → Q (.ref l) H') : rListS K [.ref p] H Q := ⟨p, xs, rfl, .inl h, newL q⟩
theorem r_intI {i : Int} (q : Q (.int i) H) : rInt1 [.int i] H Q := .inl ⟨i, rfl, q⟩
theorem r_intB {b : Bool} (q : Q (.int (if b then 1 else 0)) H) : rInt1 [.bl b] H Q := .inr ⟨b, rfl, q⟩
theorem r_call {sp : Sp} {E : XK} {ta : TA} (h : ta σ H fun vs H1 => sp vs H1 Q E) : tCall sp [] E ta σ H Q := by
  show ta σ H fun vs H1 => sp (vs ++ []) H1 Q E
  have e : (fun vs H1 => sp (vs ++ []) H1 Q E) = fun (vs : List V) H1 => sp vs H1 Q E := by
    funext vs H1; rw [List.append_nil]
  rw [e]; exact h
theorem r_lst {ta : TA} (h : ta σ H (LstK Q)) : tLst ta σ H Q := h
theorem r_lstK {xs : List V} (k : ∀ p H', H p = none → Ex H H' → H' p = some (.lst xs) → Q (.ref p) H') (hz : xs.length ≤ 16777216 := by simp) : LstK Q xs H := ⟨small0 hz, newL k⟩
theorem r_tup {ta : TA} (h : ta σ H (TupK Q)) : tTup ta σ H Q := h
theorem r_tupK {xs : List V} (k : ∀ p H', H p = none → Ex H H' → H' p = some (.tup xs) → Q (.ref p) H') (hz : xs.length ≤ 16777216 := by simp) : TupK Q xs H := ⟨small0 hz, newT k⟩
theorem r_asg (h : te σ H fun x H1 => g x σ H1 D.nx) : tAsg te g D σ H := h
theorem r_gn {i : Nat} {v : V} {Q : L2.St → Hp → Prop} (h : Q (σ.set i (some v)) H) : gName i v σ H Q := h
theorem r_ret (h : te σ H D.rt) : tRet te D σ H := h
theorem r_drop (h : te σ H fun _ H1 => D.nx σ H1) : tDrop te D σ H := h
theorem r_ifS (h : tt σ H fun b H1 => if b = true then t D σ H1 else u D σ H1) : tIfS tt t u D σ H := h
theorem r_test {Q : Bool → Hp → Prop} (h : te σ H fun x H1 => ∃ k, x = .bl k ∧ Q k H1) : tTest te σ H Q := h
theorem r_B {Q : Bool → Hp → Prop} (h : te σ H fun x H1 => ∃ k, x = .bl k ∧ Q k H1) : tB te σ H Q := h
theorem r_bl {k : Bool} {Q : Bool → Prop} (h : Q k) : ∃ k', V.bl k = .bl k' ∧ Q k' := ⟨k, rfl, h⟩
theorem r_and {Q : Bool → Hp → Prop} (h : t1 σ H fun c H1 => if c = true then t2 σ H1 Q else Q false H1) : tAnd t1 t2 σ H Q := h
theorem r_or {Q : Bool → Hp → Prop} (h : t1 σ H fun c H1 => if c = true then Q true H1 else t2 σ H1 Q) : tOr t1 t2 σ H Q := h
theorem r_not {Q : Bool → Hp → Prop} (h : tt σ H fun c H1 => Q (!c) H1) : tNot tt σ H Q := h
theorem r_andV (h : ta σ H fun x H1 => ∃ c, x = .bl c ∧ if c = true then tb σ H1 Q else Q (.bl false) H1) : tAndV ta tb σ H Q := h
theorem r_orV (h : ta σ H fun x H1 => ∃ c, x = .bl c ∧ if c = true then Q (.bl true) H1 else tb σ H1 Q) : tOrV ta tb σ H Q := h
theorem r_notV (h : ta σ H fun x H1 => ∃ c, x = .bl c ∧ Q (.bl (!c)) H1) : tNotV ta σ H Q := h
theorem r_if (h : tt σ H fun c H1 => if c = true then ta σ H1 Q else tb σ H1 Q) : tIf tt ta tb σ H Q := h
theorem r_bm {T : String} {r : V → List V → Hp → VK → Prop} {ta : TA} (h : to σ H fun x H1 => tyV K T x H1 ∧ ta σ H1 fun xs H2 => r x xs H2 Q) : tBM K T r to ta σ H Q := h
theorem r_bm0 {T : String} {r : V → List V → Hp → VK → Prop} (h : to σ H fun x H1 => tyV K T x H1 ∧ r x [] H1 Q) : tBM0 K T r to σ H Q := h
theorem r_append {l : Addr} {xs : List V} {y : V} (h : H l = some (.lst xs)) (z : xs.length < sizeLine) (q : ∀ H', Exb l H H' → H' l = some (.lst (xs ++ [y])) → Q .non H') : rAppend (.ref l) [y] H Q :=
  ⟨l, xs, y, rfl, rfl, h, z, mutL q⟩
theorem r_pop {l : Addr} {xs : List V} {y : V} (h : H l = some (.lst xs)) (z : xs[xs.length - 1]? = some y) (q : ∀ H', Exb l H H' → H' l = some (.lst xs.dropLast) → Q y H') : rPop (.ref l) [] H Q :=
  ⟨l, xs, y, rfl, rfl, h, z, mutL q⟩
theorem r_insert {l : Addr} {xs : List V} {y : V} {i : Int} (h : H l = some (.lst xs)) (z : xs.length < sizeLine) (h0 : 0 ≤ i) (h1 : i < 2 ^ 63) (q : ∀ H', Exb l H H' → H' l = some (.lst (xs.take i.toNat ++ [y] ++ xs.drop i.toNat)) → Q .non H') : rInsert (.ref l) [.int i, y] H Q :=
  ⟨l, xs, i, y, rfl, rfl, h, z, h0, h1, mutL q⟩
theorem tyL {p : Addr} {xs : List V} (h : H p = some (.lst xs)) : tyV K "list" (.ref p) H := .inl ⟨rfl, _, .inl (.inl h)⟩
theorem r_ty {T : String} {x : V} {B : Prop} (h : tyV K T x H) (q : B) : tyV K T x H ∧ B := ⟨h, q⟩
theorem r_sub_ {ts : TSet} {v : V} {Q : L2.St → Hp → Prop} (h : to σ H fun o H1 => ti σ H1 fun i H2 => ts o i v H2 fun H3 => Q σ H3) : gSub to ti ts v σ H Q := h
theorem r_setL {p : Addr} {xs : List V} {k : Int} {j : Nat} {v : V} {Q : Hp → Prop} (h : H p = some (.lst xs)) (hk : ixN xs.length k = some j) (q : ∀ H', Exb p H H' → H' p = some (.lst (xs.set j v)) → Q H') : rSetL (.ref p) (.int k) v H Q :=
  ⟨p, xs, k, j, rfl, rfl, h, hk, mutL q⟩
theorem r_cat {l b : Addr} {xs zs : List V} (h1 : H l = some (.lst xs)) (h2 : H b = some (.lst zs)) (z : xs.length + zs.length ≤ sizeLine) (q : ∀ p H', H p = none → Ex H H' → H' p = some (.lst (xs ++ zs)) → Q (.ref p) H') : rCat (.ref l) (.ref b) H Q :=
  ⟨l, b, xs, zs, rfl, rfl, h1, h2, z, newL q⟩
theorem flat_rep {α : Type} (x : α) : ∀ n : Nat, (List.replicate n [x]).flatten = List.replicate n x
  | 0 => rfl
  | n + 1 => by rw [List.replicate_succ, List.flatten_cons, flat_rep x n, List.replicate_succ]; rfl
/-- [x] * k -/
theorem r_rep1 {l : Addr} {x : V} {k : Int} (h1 : H l = some (.lst [x])) (z : k.toNat ≤ 1000000) (q : ∀ p H', H p = none → Ex H H' → H' p = some (.lst (List.replicate k.toNat x)) → Q (.ref p) H')  (h0 : -(2 ^ 63) ≤ k := by omega) : rRep (.ref l) (.int k) H Q :=
  ⟨l, k, [x], rfl, rfl, h1, h0, by omega, by
    show 1 * k.toNat ≤ sizeLine
    rw [Nat.one_mul]
    exact Nat.le_trans z (by decide), newL fun p H' a b c => q p H' a b (by rw [flat_rep] at c; exact c)⟩
theorem r_sl {r : V → Option Int → Option Int → Hp → VK → Prop} {tl th : TO} (h : te σ H fun x H1 => tl σ H1 fun l H2 => th σ H2 fun u H3 => r x l u H3 Q) : tSl r te tl th σ H Q := h
theorem r_part {Q : Option Int → Hp → Prop} (h : te σ H fun x H1 => ∃ i, x = .int i ∧ Q (some i) H1) : tPart te σ H Q := h
theorem r_int {i : Int} {Q : Int → Prop} (h : Q i) : ∃ j, V.int i = .int j ∧ Q j := ⟨i, rfl, h⟩
theorem r_nopart {Q : Option Int → Hp → Prop} (h : Q none H) : tNoPart σ H Q := h
theorem r_slL {a : Addr} {xs : List V} {lo hi : Option Int} (h : SqL K H a xs) (q : ∀ p H', H p = none → Ex H H' → H' p = some (.lst (cutV xs lo hi)) → Q (.ref p) H') : rSlL K (.ref a) lo hi H Q := ⟨a, xs, rfl, h, newL q⟩
theorem r_par {i j : Nat} {ta : TA} (h : ta σ H fun vs H1 => ∃ v w, vs = [v, w] ∧ D.nx ((σ.set i (some v)).set j (some w)) H1) : tPar i j ta D σ H := h
theorem r_par2 {i j : Nat} {v w : V} (h : D.nx ((σ.set i (some v)).set j (some w)) H) : ∃ v' w', [v, w] = [v', w'] ∧ D.nx ((σ.set i (some v')).set j (some w')) H := ⟨v, w, rfl, h⟩
end
/-- a truth that is decided, both ways -/
theorem ite_d {p A B : Prop} [Decidable p] (h1 : p → A) (h2 : ¬ p → B) : if decide p = true then A else B := by
  by_cases h : p
  · rw [if_pos (decide_eq_true h)]; exact h1 h
  · rw [if_neg (by rw [decide_eq_false h]; decide)]; exact h2 h
theorem ite_nd {p A B : Prop} [Decidable p] (h1 : ¬ p → A) (h2 : p → B) : if (!decide p) = true then A else B := by
  by_cases h : p
  · rw [if_neg (by rw [decide_eq_true h]; decide)]; exact h2 h
  · rw [if_pos (by rw [decide_eq_false h]; rfl)]; exact h1 h
theorem ite_b {b : Bool} {A B : Prop} (h1 : b = true → A) (h2 : b = false → B) : if b = true then A else B := by
  cases b with
  | true => rw [if_pos rfl]; exact h1 rfl
  | false => rw [if_neg (by decide)]; exact h2 rfl

theorem r_isi {K : PySem.W.Frag} {H : Hp} {Q : VK} {x c : V} {t u : Value} {b : Bool} (ht : TyX K H x t) (hc : ClsV c u) (hk : PySem.W.kitOne K t u = some b) (q : Q (.bl b) H) : rIsi K [x, c] H Q := ⟨x, c, t, u, b, rfl, hc, ht, hk, q⟩
theorem iteD {p A B : Prop} [Decidable p] (h : p) (a : A) : if decide p = true then A else B := by rw [if_pos (decide_eq_true h)]; exact a
theorem iteDF {p A B : Prop} [Decidable p] (h : ¬ p) (a : B) : if decide p = true then A else B := by rw [if_neg (by rw [decide_eq_false h]; decide)]; exact a
/-! ### lists of ints, compared -/
theorem dp_ints {K : PySem.W.Frag} {H : Hp} : ∀ ns : List Int, DpAll K H (ns.map V.int) (ns.map PyData.int)
  | [] => .nil
  | n :: r => .cons (.int n) (dp_ints r)
theorem dp_listI {K : PySem.W.Frag} {H : Hp} {a : Addr} {ns : List Int} (h : SqL K H a (ns.map V.int)) : Dp K H (.ref a) (.list (ns.map PyData.int)) := .lst h (dp_ints ns)
def dI (ns : List Int) : PyData := .list (ns.map PyData.int)
theorem canLay_ints : ∀ ns : List Int, PyData.canLayAll0 (ns.map PyData.int) = true
  | [] => by simp [PyData.canLayAll0]
  | n :: r => by
    rw [List.map_cons, PyData.canLayAll0, canLay_ints r]; simp [PyData.canLay0]
theorem depth_ints : ∀ ns : List Int, PyData.depthAll (ns.map PyData.int) ≤ 1
  | [] => by simp [PyData.depthAll]
  | n :: r => by
    have := depth_ints r
    rw [List.map_cons, PyData.depthAll]
    simp [PyData.depth]
    omega
theorem shaped_dI (ns : List Int) : SeqAt.shaped (dI ns) = true := by
  have h1 := canLay_ints ns
  have h2 := depth_ints ns
  unfold SeqAt.shaped dI
  rw [Bool.and_eq_true, PyData.canLay0, PyData.depth]
  exact ⟨h1, decide_eq_true (by omega)⟩
theorem eqvAll_ints : ∀ ns ms : List Int, PyData.eqvAll (ns.map PyData.int) (ms.map PyData.int) = decide (ns = ms)
  | [], [] => by simp [PyData.eqvAll]
  | [], m :: r => by simp [PyData.eqvAll]
  | n :: r, [] => by simp [PyData.eqvAll]
  | n :: r, m :: s => by
    rw [List.map_cons, List.map_cons, PyData.eqvAll, eqvAll_ints r s]
    simp [PyData.eqv, Bool.beq_eq_decide_eq]
theorem eqv_dI (ns ms : List Int) : PyData.eqv (dI ns) (dI ms) = decide (ns = ms) := by
  unfold dI
  rw [PyData.eqv, eqvAll_ints]
theorem r_eqInts {K : PySem.W.Frag} {H : Hp} {Q : VK} {a b : Addr} {ns ms : List Int} (h1 : SqL K H a (ns.map V.int)) (h2 : SqL K H b (ms.map V.int)) (q : Q (.bl (decide (ns = ms))) H) : rEqD K (.ref a) (.ref b) H Q :=
  ⟨_, _, dp_listI h1, dp_listI h2, shaped_dI ns, shaped_dI ms, by rw [show PyData.eqv (.list (ns.map PyData.int)) (.list (ms.map PyData.int)) = decide (ns = ms) from eqv_dI ns ms]; exact q⟩
theorem r_neInts {K : PySem.W.Frag} {H : Hp} {Q : VK} {a b : Addr} {ns ms : List Int} (h1 : SqL K H a (ns.map V.int)) (h2 : SqL K H b (ms.map V.int)) (q : Q (.bl (!decide (ns = ms))) H) : rNeD K (.ref a) (.ref b) H Q :=
  ⟨_, _, dp_listI h1, dp_listI h2, shaped_dI ns, shaped_dI ms, by rw [show PyData.eqv (.list (ns.map PyData.int)) (.list (ms.map PyData.int)) = decide (ns = ms) from eqv_dI ns ms]; exact q⟩
/-! ### loops -/
def Lp (J : It) (g : TG) (tb : TS) (D : Ends) (σ : L2.St) (H : Hp) : Prop := ∃ W : Nat → Nat → L2.St → Hp → Prop, (∃ m, W 0 m σ H) ∧ ∀ i m σ H, W i m σ H →
  (J.stop i H ∧ D.nx σ H) ∨ (J.go i H ∧ ∃ N : L2.St → Hp → Prop, (∀ σ' H', N σ' H' → ∃ m', m' < m ∧ W (i + 1) m' σ' H') ∧ ∀ x H', J.yld i H x H' → g x σ H' fun σ2 H2 => tb { D with nx := N, ct := N, bk := D.nx } σ2 H2)
section
variable {K : PySem.W.Frag} {σ : L2.St} {H : Hp} {D : Ends} {te : TE} {ta : TA} {tb : TS} {g : TG} {wi : TI}
theorem r_for (h : wi σ H fun J H1 => Lp J g tb D σ H1) : tFor wi g tb D σ H := h
theorem r_iList {R : It → Hp → Prop} (h : te σ H fun x H1 => ∃ a, x = .ref a ∧ (∃ xs, SqL K H1 a xs) ∧ R (Itl K a) H1) : iList K te σ H R := h
theorem r_iListA {a : Addr} {xs : List V} (h : SqL K H a xs) (q : Lp (Itl K a) g tb D σ H) : ∃ a', V.ref a = .ref a' ∧ (∃ xs, SqL K H a' xs) ∧ Lp (Itl K a') g tb D σ H := ⟨a, rfl, ⟨xs, h⟩, q⟩
theorem r_iTup {R : It → Hp → Prop} (h : te σ H fun x H1 => ∃ a, x = .ref a ∧ (∃ xs, SqT K H1 a xs) ∧ R (Itt K a) H1) : iTup K te σ H R := h
theorem r_iTupA {a : Addr} {xs : List V} (h : SqT K H a xs) (q : Lp (Itt K a) g tb D σ H) : ∃ a', V.ref a = .ref a' ∧ (∃ xs, SqT K H a' xs) ∧ Lp (Itt K a') g tb D σ H := ⟨a, rfl, ⟨xs, h⟩, q⟩
theorem r_iRng1 {R : It → Hp → Prop} (h : ta σ H fun vs H1 => ∃ j : Int, vs = [.int j] ∧ -(2 ^ 62) ≤ j ∧ j < 2 ^ 62 ∧ R (Itr 0 j.toNat) H1) : iRng1 ta σ H R := h
theorem r_iRng1A {j : Int} (h0 : -(2 ^ 62) ≤ j) (h1 : j < 2 ^ 62) (q : Lp (Itr 0 j.toNat) g tb D σ H) : ∃ j' : Int, [V.int j] = [.int j'] ∧ -(2 ^ 62) ≤ j' ∧ j' < 2 ^ 62 ∧ Lp (Itr 0 j'.toNat) g tb D σ H := ⟨j, rfl, h0, h1, q⟩
theorem r_iRng2 {R : It → Hp → Prop} (h : ta σ H fun vs H1 => ∃ i j : Int, vs = [.int i, .int j] ∧ (-(2 ^ 62) ≤ i ∧ i < 2 ^ 62 ∧ -(2 ^ 62) ≤ j ∧ j < 2 ^ 62) ∧ R (Itr i (j - i).toNat) H1) : iRng2 ta σ H R := h
theorem r_iRng2A {i j : Int} (hb : -(2 ^ 62) ≤ i ∧ i < 2 ^ 62 ∧ -(2 ^ 62) ≤ j ∧ j < 2 ^ 62) (q : Lp (Itr i (j - i).toNat) g tb D σ H) : ∃ i' j' : Int, [V.int i, V.int j] = [.int i', .int j'] ∧ (-(2 ^ 62) ≤ i' ∧ i' < 2 ^ 62 ∧ -(2 ^ 62) ≤ j' ∧ j' < 2 ^ 62) ∧ Lp (Itr i' (j' - i').toNat) g tb D σ H := ⟨i, j, rfl, hb, q⟩
theorem r_iRev {R : It → Hp → Prop} (h : ta σ H fun vs H1 => ∃ (a : Addr) (xs : List V), vs = [.ref a] ∧ SqL K H1 a xs ∧ R (Itv K a xs.length) H1) : iRev K ta σ H R := h
theorem r_iRevA {a : Addr} {xs : List V} (h : SqL K H a xs) (q : Lp (Itv K a xs.length) g tb D σ H) : ∃ (a' : Addr) (xs : List V), [V.ref a] = [.ref a'] ∧ SqL K H a' xs ∧ Lp (Itv K a' xs.length) g tb D σ H := ⟨a, xs, rfl, h, q⟩
theorem r_iEnum {R : It → Hp → Prop} (h : ta σ H fun vs H1 => ∃ a xs, vs = [.ref a] ∧ SqL K H1 a xs ∧ R (Ite K a) H1) : iEnum K ta σ H R := h
theorem r_iEnumA {a : Addr} {xs : List V} (h : SqL K H a xs) (q : Lp (Ite K a) g tb D σ H) : ∃ (a' : Addr) (xs : List V), [V.ref a] = [.ref a'] ∧ SqL K H a' xs ∧ Lp (Ite K a') g tb D σ H := ⟨a, xs, rfl, h, q⟩
theorem r_iRevR {tr : L2.St → Hp → (Int → Int → Hp → Prop) → Prop} {R : It → Hp → Prop} (h : tr σ H fun a b H1 => -(2 ^ 62) ≤ a ∧ a < 2 ^ 62 ∧ -(2 ^ 62) ≤ b ∧ b < 2 ^ 62 ∧ R (Itc (a + (((b - a).toNat : Nat) : Int) - 1) (-1) (b - a).toNat) H1) : iRevR tr σ H R := h

theorem loop_list {a : Addr} {xs : List V} (Pv : Nat → L2.St → Hp → Prop) (h0 : Pv 0 σ H) (hl : ∀ i σ H, i ≤ xs.length → Pv i σ H → SqL K H a xs)
    (hs : ∀ i x σ H, xs[i]? = some x → Pv i σ H → g x σ H fun σ2 H2 => tb { D with nx := Pv (i + 1), ct := Pv (i + 1), bk := D.nx } σ2 H2) (hd : ∀ σ H, Pv xs.length σ H → D.nx σ H) : Lp (Itl K a) g tb D σ H := for_list Pv h0 hl hs hd
/-- a loop over a list of ints -/
theorem loop_ints {a : Addr} {ns : List Int} {j : Nat} (Pv : Nat → L2.St → Hp → Prop) (h0 : Pv 0 σ H) (hl : ∀ i σ H, i ≤ ns.length → Pv i σ H → SqL K H a (ns.map V.int))
    (hs : ∀ i x σ H, ns[i]? = some x → Pv i σ H → tb { D with nx := Pv (i + 1), ct := Pv (i + 1), bk := D.nx } (σ.set j (some (.int x))) H) (hd : ∀ σ H, Pv ns.length σ H → D.nx σ H) : Lp (Itl K a) (gName j) tb D σ H :=
  for_list (xs := ns.map V.int) Pv h0 (fun i σ H h => hl i σ H (by rw [List.length_map] at h; exact h)) (fun i x σ H hx hp => by
    rw [List.getElem?_map] at hx
    cases e : ns[i]? with
    | none => rw [e] at hx; cases hx
    | some z => rw [e] at hx; cases hx; exact hs i z σ H e hp) (fun σ H h => hd σ H (by rw [List.length_map] at h; exact h))
theorem loop_tup {a : Addr} {xs : List V} (Pv : Nat → L2.St → Hp → Prop) (h0 : Pv 0 σ H) (hl : ∀ i σ H, i ≤ xs.length → Pv i σ H → SqT K H a xs)
    (hs : ∀ i x σ H, xs[i]? = some x → Pv i σ H → g x σ H fun σ2 H2 => tb { D with nx := Pv (i + 1), ct := Pv (i + 1), bk := D.nx } σ2 H2) (hd : ∀ σ H, Pv xs.length σ H → D.nx σ H) : Lp (Itt K a) g tb D σ H := for_tup Pv h0 hl hs hd
theorem loop_range {lo : Int} {n : Nat} {j : Nat} (Pv : Nat → L2.St → Hp → Prop) (h0 : Pv 0 σ H)
    (hs : ∀ i σ H, i < n → Pv i σ H → tb { D with nx := Pv (i + 1), ct := Pv (i + 1), bk := D.nx } (σ.set j (some (.int (lo + (i : Int))))) H) (hd : ∀ σ H, Pv n σ H → D.nx σ H) : Lp (Itr lo n) (gName j) tb D σ H := for_range Pv h0 hs hd
theorem loop_range0 {n : Nat} {j : Nat} (Pv : Nat → L2.St → Hp → Prop) (h0 : Pv 0 σ H)
    (hs : ∀ i σ H, i < n → Pv i σ H → tb { D with nx := Pv (i + 1), ct := Pv (i + 1), bk := D.nx } (σ.set j (some (.int (i : Int)))) H) (hd : ∀ σ H, Pv n σ H → D.nx σ H) : Lp (Itr 0 n) (gName j) tb D σ H :=
  for_range Pv h0 (fun i σ H hi hp => by
    have e : (0 : Int) + (i : Int) = (i : Int) := Int.zero_add _
    rw [e]
    exact hs i σ H hi hp) hd
theorem loop_rangeC {lo c : Int} {n : Nat} {j : Nat} (Pv : Nat → L2.St → Hp → Prop) (h0 : Pv 0 σ H)
    (hs : ∀ i σ H, i < n → Pv i σ H → tb { D with nx := Pv (i + 1), ct := Pv (i + 1), bk := D.nx } (σ.set j (some (.int (lo + (i : Int) * c)))) H) (hd : ∀ σ H, Pv n σ H → D.nx σ H) : Lp (Itc lo c n) (gName j) tb D σ H := for_rangeC Pv h0 hs hd
theorem loop_rev {a : Addr} {xs : List V} (Pv : Nat → L2.St → Hp → Prop) (h0 : Pv 0 σ H) (hl : ∀ i σ H, i ≤ xs.length → Pv i σ H → SqL K H a xs)
    (hs : ∀ i x σ H, xs[xs.length - 1 - i]? = some x → i < xs.length → Pv i σ H → g x σ H fun σ2 H2 => tb { D with nx := Pv (i + 1), ct := Pv (i + 1), bk := D.nx } σ2 H2) (hd : ∀ σ H, Pv xs.length σ H → D.nx σ H) : Lp (Itv K a xs.length) g tb D σ H := by
  refine ⟨fun i m σ H => m = xs.length - i ∧ i ≤ xs.length ∧ Pv i σ H, ⟨xs.length, by simp, Nat.zero_le _, h0⟩, ?_⟩
  rintro i m σ H ⟨rfl, hi, p⟩
  have q := hl i σ H hi p
  by_cases hlt : i < xs.length
  · have hk : xs.length - 1 - i < xs.length := by omega
    refine .inr ⟨⟨hlt, xs, xs[xs.length - 1 - i], q, by simp [hk]⟩, Pv (i + 1), fun σ' H' p' => ⟨xs.length - (i + 1), by omega, rfl, hlt, p'⟩, fun x H' y => ?_⟩
    obtain ⟨e, y⟩ := y
    subst e
    exact hs i x σ _ (y xs q) hlt p
  · have e : i = xs.length := by omega
    subst e
    exact .inl ⟨Nat.le_refl _, hd σ H p⟩
theorem loop_enum {a : Addr} {xs : List V} {j k : Nat} (Pv : Nat → L2.St → Hp → Prop) (h0 : Pv 0 σ H) (hl : ∀ i σ H, i ≤ xs.length → Pv i σ H → SqL K H a xs)
    (hs : ∀ i x σ H H', xs[i]? = some x → Pv i σ H → Ex H H' → tb { D with nx := Pv (i + 1), ct := Pv (i + 1), bk := D.nx } ((σ.set j (some (.int (i : Int)))).set k (some x)) H') (hd : ∀ σ H, Pv xs.length σ H → D.nx σ H) :
    Lp (Ite K a) (gTup K 2 (gCons (gName j) (gCons (gName k) gNil))) tb D σ H := by
  refine ⟨fun i m σ H => m = xs.length - i ∧ i ≤ xs.length ∧ Pv i σ H, ⟨xs.length, by simp, Nat.zero_le _, h0⟩, ?_⟩
  rintro i m σ H ⟨rfl, hi, p⟩
  have q := hl i σ H hi p
  by_cases hlt : i < xs.length
  · refine .inr ⟨⟨xs, xs[i], q, by simp [hlt]⟩, Pv (i + 1), fun σ' H' p' => ⟨xs.length - (i + 1), by omega, rfl, hlt, p'⟩, fun v H' y => ?_⟩
    obtain ⟨T, x, rfl, nT, rfl, y⟩ := y
    exact ⟨T, _, rfl, .inl (.inl upd_same), rfl, _, _, rfl, x, [], rfl, rfl, hs i x σ H _ (y xs q) p (Evl.Ex.new nT)⟩
  · have e : i = xs.length := by omega
    subst e
    exact .inl ⟨⟨xs, q, Nat.le_refl _⟩, hd σ H p⟩
theorem r_while {tt : TT} (W : Nat → L2.St → Hp → Prop) (m0 : Nat) (h0 : W m0 σ H)
    (hs : ∀ m σ' H', W m σ' H' → tt σ' H' fun b H1 => if b = true then ∃ N : L2.St → Hp → Prop, (∀ σ2 H2, N σ2 H2 → ∃ m', m' < m ∧ W m' σ2 H2) ∧ tb { D with nx := N, ct := N, bk := D.nx } σ' H1 else D.nx σ' H1) : tWhile tt tb D σ H :=
  ⟨W, ⟨m0, h0⟩, hs⟩
theorem wh_in {W : Nat → L2.St → Hp → Prop} {m : Nat} (h : tb { D with nx := fun σ2 H2 => ∃ m', m' < m ∧ W m' σ2 H2, ct := fun σ2 H2 => ∃ m', m' < m ∧ W m' σ2 H2, bk := D.nx } σ H) :
    ∃ N : L2.St → Hp → Prop, (∀ σ2 H2, N σ2 H2 → ∃ m', m' < m ∧ W m' σ2 H2) ∧ tb { D with nx := N, ct := N, bk := D.nx } σ H := ⟨_, fun _ _ h => h, h⟩
end
/-! ### bounds -/
theorem small_le {n : Nat} (h : n ≤ 16777216) : n ≤ sizeLine := by rw [sizeLine_eq]; exact h
theorem small_lt {n : Nat} (h : n < 16777216) : n < sizeLine := by rw [sizeLine_eq]; exact h
/-! ### comprehensions -/
def Lc (J : It) (g : TG) (tt : TT) (te : TE) (vs : List Nat) (σ : L2.St) (H1 : Hp) (Q : VK) : Prop := ∀ D, H1 D = none → ∃ W : Nat → Nat → Hp → Prop, (∃ m, W 0 m (upd H1 D (.lst []))) ∧ ∀ i m H, W i m H →
  (J.stop i H ∧ Q (.ref D) H) ∨ (J.go i H ∧ ∃ Nx : Hp → Prop, (∀ H', Nx H' → ∃ m', m' < m ∧ W (i + 1) m' H') ∧ ∀ x H', J.yld i H x H' → g x (wipe σ vs) H' fun σ2 H2 => wipe σ2 vs = wipe σ vs ∧ tt σ2 H2 fun b H3 =>
    if b = true then te σ2 H3 fun y H4 => ∃ acc, H4 D = some (.lst acc) ∧ acc.length < sizeLine ∧ Nx (upd H4 D (.lst (acc ++ [y]))) else Nx H3)
theorem r_lc {wi : TI} {g : TG} {tt : TT} {te : TE} {vs : List Nat} {σ : L2.St} {H : Hp} {Q : VK} (h : wi σ H fun J H1 => Lc J g tt te vs σ H1 Q) : tLc wi g tt te vs σ H Q := h
theorem set_set {α : Type} : ∀ (l : List α) (i : Nat) (a b : α), (l.set i a).set i b = l.set i b
  | [], _, _, _ => rfl
  | _ :: _, 0, _, _ => rfl
  | x :: l, i + 1, a, b => by show x :: (l.set i a).set i b = x :: l.set i b; rw [set_set l i a b]
section
variable {K : PySem.W.Frag} {σ : L2.St} {H : Hp} {te : TE} {Q : VK} {g : TG}
theorem r_cListA {a : Addr} {xs : List V} {tt : TT} {vs : List Nat} (h : SqL K H a xs) (q : Lc (Itl K a) g tt te vs σ H Q) : ∃ a', V.ref a = .ref a' ∧ (∃ xs, SqL K H a' xs) ∧ Lc (Itl K a') g tt te vs σ H Q := ⟨a, rfl, ⟨xs, h⟩, q⟩
theorem r_cRng1A {j : Int} {tt : TT} {vs : List Nat} (h0 : -(2 ^ 62) ≤ j) (h1 : j < 2 ^ 62) (q : Lc (Itr 0 j.toNat) g tt te vs σ H Q) : ∃ j' : Int, [V.int j] = [.int j'] ∧ -(2 ^ 62) ≤ j' ∧ j' < 2 ^ 62 ∧ Lc (Itr 0 j'.toNat) g tt te vs σ H Q := ⟨j, rfl, h0, h1, q⟩
theorem r_cRng2A {i j : Int} {tt : TT} {vs : List Nat} (hb : -(2 ^ 62) ≤ i ∧ i < 2 ^ 62 ∧ -(2 ^ 62) ≤ j ∧ j < 2 ^ 62) (q : Lc (Itr i (j - i).toNat) g tt te vs σ H Q) : ∃ i' j' : Int, [V.int i, V.int j] = [.int i', .int j'] ∧ (-(2 ^ 62) ≤ i' ∧ i' < 2 ^ 62 ∧ -(2 ^ 62) ≤ j' ∧ j' < 2 ^ 62) ∧ Lc (Itr i' (j' - i').toNat) g tt te vs σ H Q := ⟨i, j, rfl, hb, q⟩
/-- over a list, each item giving a value by a function -/
theorem lc_map {a : Addr} {xs : List V} {j : Nat} (f : V → V) (hx : SqL K H a xs) (hz : xs.length < 1000000)
    (he : ∀ x, x ∈ xs → ∀ H1, Ex H H1 → ∀ Q' : VK, (∀ H2, Ex H1 H2 → Q' (f x) H2) → te (σ.set j (some x)) H1 Q')
    (q : ∀ p H', H p = none → Ex H H' → H' p = some (.lst (xs.map f)) → Q (.ref p) H') : Lc (Itl K a) (gName j) tYes te [j] σ H Q := fun D hD =>
  lc_list (xs := xs) (fun i H' => Ex H H' ∧ H' D = some (.lst ((xs.take i).map f))) ⟨Evl.Ex.new hD, upd_same⟩ (fun i H' _ p => p.1.l hx)
    (fun i x H' hi p => ⟨by show ((σ.set j none).set j (some x)).set j none = σ.set j none; rw [set_set, set_set], by
      show te ((σ.set j none).set j (some x)) H' _
      rw [set_set]
      refine he x (List.mem_of_getElem? hi) H' p.1 _ fun H2 e2 => ⟨_, e2 D _ p.2, ?_, (Evl.Ex.mut (p.1.trans e2) hD), ?_⟩
      · rw [List.length_map, List.length_take]; exact small_lt (by omega)
      · rw [upd_same, List.take_add_one, hi, List.map_append]; rfl⟩)
    (fun H' p => q D H' hD p.1 (by rw [List.take_length] at p; exact p.2))
/-- over a list of ints, each giving an int -/
theorem lc_ints {a : Addr} {ns : List Int} {j : Nat} (f : Int → Int) (hx : SqL K H a (ns.map V.int)) (hz : ns.length < 1000000)
    (he : ∀ x, x ∈ ns → ∀ H1, Ex H H1 → ∀ Q' : VK, (∀ H2, Ex H1 H2 → Q' (.int (f x)) H2) → te (σ.set j (some (.int x))) H1 Q')
    (q : ∀ p H', H p = none → Ex H H' → H' p = some (.lst ((ns.map f).map V.int)) → Q (.ref p) H') : Lc (Itl K a) (gName j) tYes te [j] σ H Q :=
  lc_map (xs := ns.map V.int) (fun v => match v with | .int x => .int (f x) | v => v) hx (by rw [List.length_map]; exact hz)
    (fun v hv H1 e1 Q' k => by
      obtain ⟨x, hx', rfl⟩ := List.mem_map.mp hv
      exact he x hx' H1 e1 Q' k)
    (fun p H' hp e h => q p H' hp e (by
      rw [List.map_map] at h ⊢
      exact h))
/-- over a range from 0, each giving an int -/
theorem lc_rangeI {n : Nat} {j : Nat} (f : Nat → Int) (hz : n < 1000000)
    (he : ∀ i, i < n → ∀ H1, Ex H H1 → ∀ Q' : VK, (∀ H2, Ex H1 H2 → Q' (.int (f i)) H2) → te (σ.set j (some (.int (i : Int)))) H1 Q')
    (q : ∀ p H', H p = none → Ex H H' → H' p = some (.lst (((List.range n).map f).map V.int)) → Q (.ref p) H') : Lc (Itr 0 n) (gName j) tYes te [j] σ H Q := fun D hD =>
  lc_range (lo := 0) (n := n) (fun i H' => Ex H H' ∧ H' D = some (.lst (((List.range i).map f).map V.int))) ⟨Evl.Ex.new hD, upd_same⟩
    (fun i H' hi p => ⟨by show ((σ.set j none).set j _).set j none = σ.set j none; rw [set_set, set_set], by
      show te ((σ.set j none).set j (some (.int ((0 : Int) + (i : Int))))) H' _
      rw [set_set, show (0 : Int) + (i : Int) = (i : Int) from Int.zero_add _]
      refine he i hi H' p.1 _ fun H2 e2 => ⟨_, e2 D _ p.2, ?_, (Evl.Ex.mut (p.1.trans e2) hD), ?_⟩
      · rw [List.length_map, List.length_map, List.length_range]; exact small_lt (by omega)
      · rw [upd_same, List.range_succ, List.map_append, List.map_append]; rfl⟩)
    (fun H' p => q D H' hD p.1 p.2)
end
/-- an item of a list of ints -/
theorem r_ixI {K : PySem.W.Frag} {H : Hp} {Q : VK} {p : Addr} {i : Int} {ns : List Int} (h : SqL K H p (ns.map V.int)) (h0 : 0 ≤ i) (h1 : i < ns.length) (q : Q (.int (ns.getD i.toNat 0)) H) : rIxL K (.ref p) (.int i) H Q := by
  obtain ⟨k, rfl⟩ : ∃ k : Nat, i = (k : Int) := ⟨i.toNat, by omega⟩
  have hk : k < ns.length := by omega
  refine r_ixL h (atI_nat (j := k) (v := .int ns[k]) ?_) ?_
  · rw [List.getElem?_map, List.getElem?_eq_getElem hk]; rfl
  · rw [Int.toNat_natCast, List.getD_eq_getElem?_getD, List.getElem?_eq_getElem hk] at q
    exact q
/-- a slice of a list of ints, both ends in it -/
theorem cutI (ns : List Int) (lo hi : Option Int) : cutV (ns.map V.int) lo hi = ((ns.drop (HT.sIx ns.length 0 lo)).take (HT.sIx ns.length ns.length hi - HT.sIx ns.length 0 lo)).map V.int := by
  unfold cutV
  rw [List.length_map, List.map_take, List.map_drop]
/-- the part of a list between two bounds -/
def sliceI (ns : List Int) (lo hi : Option Int) : List Int := (ns.drop (HT.sIx ns.length 0 lo)).take (HT.sIx ns.length ns.length hi - HT.sIx ns.length 0 lo)
theorem sliceI_mem {ns : List Int} {lo hi : Option Int} {x : Int} (h : x ∈ sliceI ns lo hi) : x ∈ ns := List.mem_of_mem_drop (List.mem_of_mem_take h)
theorem sliceI_len (ns : List Int) (lo hi : Option Int) : (sliceI ns lo hi).length ≤ ns.length := by
  unfold sliceI
  rw [List.length_take, List.length_drop]; omega
theorem r_slI {K : PySem.W.Frag} {H : Hp} {Q : VK} {a : Addr} {ns : List Int} {lo hi : Option Int} (h : SqL K H a (ns.map V.int)) (q : ∀ p H', H p = none → Ex H H' → H' p = some (.lst ((sliceI ns lo hi).map V.int)) → Q (.ref p) H') : rSlL K (.ref a) lo hi H Q :=
  r_slL h fun p H' hp e hh => q p H' hp e (by rw [cutI] at hh; exact hh)
theorem r_repN {H : Hp} {Q : VK} {l : Addr} {ns : List Int} {k : Int} (h1 : H l = some (.lst (ns.map V.int))) (hk : k < 2 ^ 63) (z : ns.length * k.toNat ≤ 16777216) (q : ∀ p H', H p = none → Ex H H' → H' p = some (.lst (((List.replicate k.toNat ns).flatten).map V.int)) → Q (.ref p) H') (h0 : -(2 ^ 63) ≤ k := by omega) : rRep (.ref l) (.int k) H Q :=
  ⟨l, k, _, rfl, rfl, h1, h0, hk, by rw [List.length_map]; exact small0 z, newL fun p H' a b c => q p H' a b (by rw [List.map_flatten, List.map_replicate]; exact c)⟩
def insI (ns : List Int) (i : Int) (y : Int) : List Int := ns.take i.toNat ++ [y] ++ ns.drop i.toNat
theorem insI_mem {ns : List Int} {i y x : Int} : x ∈ insI ns i y ↔ x = y ∨ x ∈ ns := by
  unfold insI
  have h : x ∈ ns ↔ x ∈ ns.take i.toNat ∨ x ∈ ns.drop i.toNat := by rw [← List.mem_append, List.take_append_drop]
  rw [h, List.mem_append, List.mem_append, List.mem_singleton]
  constructor
  · rintro ((h | h) | h)
    · exact .inr (.inl h)
    · exact .inl h
    · exact .inr (.inr h)
  · rintro (h | h | h)
    · exact .inl (.inr h)
    · exact .inl (.inl h)
    · exact .inr h
theorem insI_len (ns : List Int) (i y : Int) : (insI ns i y).length = ns.length + 1 := by
  unfold insI
  rw [List.length_append, List.length_append, List.length_take, List.length_drop]
  show min i.toNat ns.length + 1 + (ns.length - i.toNat) = _
  omega
theorem r_insertI {H : Hp} {Q : VK} {l : Addr} {ns : List Int} {i y : Int} (h : H l = some (.lst (ns.map V.int))) (z : ns.length < 16777216) (h0 : 0 ≤ i) (h1 : i < 2 ^ 63) (q : ∀ H', Exb l H H' → H' l = some (.lst ((insI ns i y).map V.int)) → Q .non H') : rInsert (.ref l) [.int i, .int y] H Q :=
  r_insert h (by rw [List.length_map]; exact small_lt z) h0 h1 fun H' e hh => q H' e (by
    unfold insI
    rw [List.map_append, List.map_append, List.map_take, List.map_drop]
    exact hh)
theorem r_appendI {H : Hp} {Q : VK} {l : Addr} {ns : List Int} {y : Int} (h : H l = some (.lst (ns.map V.int))) (z : ns.length < 16777216) (q : ∀ H', Exb l H H' → H' l = some (.lst ((ns ++ [y]).map V.int)) → Q .non H') : rAppend (.ref l) [.int y] H Q :=
  r_append h (by rw [List.length_map]; exact small_lt z) fun H' e hh => q H' e (by rw [List.map_append]; exact hh)
theorem r_catI {H : Hp} {Q : VK} {l b : Addr} {ns ms : List Int} (h1 : H l = some (.lst (ns.map V.int))) (h2 : H b = some (.lst (ms.map V.int))) (z : ns.length + ms.length ≤ 16777216) (q : ∀ p H', H p = none → Ex H H' → H' p = some (.lst ((ns ++ ms).map V.int)) → Q (.ref p) H') : rCat (.ref l) (.ref b) H Q :=
  r_cat h1 h2 (by rw [List.length_map, List.length_map]; exact small0 z) fun p H' a e hh => q p H' a e (by rw [List.map_append]; exact hh)
theorem i_t {A B : Prop} (h : A) : if true = true then A else B := iteT h
theorem i_f {A B : Prop} (h : B) : if false = true then A else B := iteF h
theorem i_nt {A B : Prop} (h : B) : if (!true) = true then A else B := iteF h
theorem i_nf {A B : Prop} (h : A) : if (!false) = true then A else B := iteT h
theorem sliceI_to {ns : List Int} {n : Nat} (h : n ≤ ns.length) : sliceI ns none (some (n : Int)) = ns.take n := by
  unfold sliceI
  rw [HT.sIx_none, HT.sIx_nat, List.drop_zero, Nat.min_eq_left h]; rfl
theorem sliceI_toI {ns : List Int} {n : Int} (h0 : 0 ≤ n) : sliceI ns none (some n) = ns.take n.toNat := by
  obtain ⟨k, rfl⟩ : ∃ k : Nat, n = (k : Int) := ⟨n.toNat, by omega⟩
  unfold sliceI
  rw [HT.sIx_none, HT.sIx_nat, List.drop_zero, Int.toNat_natCast, Nat.sub_zero]
  by_cases h : k ≤ ns.length
  · rw [Nat.min_eq_left h]
  · rw [Nat.min_eq_right (by omega), List.take_length, List.take_of_length_le (by omega)]
theorem sliceI_fromI {ns : List Int} {n : Int} (h0 : 0 ≤ n) : sliceI ns (some n) none = ns.drop n.toNat := by
  obtain ⟨k, rfl⟩ : ∃ k : Nat, n = (k : Int) := ⟨n.toNat, by omega⟩
  unfold sliceI
  rw [HT.sIx_none, HT.sIx_nat, Int.toNat_natCast]
  by_cases h : k ≤ ns.length
  · rw [Nat.min_eq_left h, List.take_of_length_le (by rw [List.length_drop]; omega)]
  · rw [Nat.min_eq_right (by omega), List.drop_eq_nil_of_le (by omega : ns.length ≤ k), List.drop_length, List.take_nil]
theorem sliceI_bothI {ns : List Int} {n m : Int} (h0 : 0 ≤ n) (h1 : n ≤ m) : sliceI ns (some n) (some m) = (ns.drop n.toNat).take (m.toNat - n.toNat) := by
  obtain ⟨k, rfl⟩ : ∃ k : Nat, n = (k : Int) := ⟨n.toNat, by omega⟩
  obtain ⟨l, rfl⟩ : ∃ l : Nat, m = (l : Int) := ⟨m.toNat, by omega⟩
  unfold sliceI
  rw [HT.sIx_nat, HT.sIx_nat, Int.toNat_natCast, Int.toNat_natCast]
  by_cases h : k ≤ ns.length
  · rw [Nat.min_eq_left h]
    by_cases h' : l ≤ ns.length
    · rw [Nat.min_eq_left h']
    · rw [Nat.min_eq_right (by omega), List.take_of_length_le (by rw [List.length_drop]; omega), List.take_of_length_le (by rw [List.length_drop]; omega)]
  · rw [Nat.min_eq_right (show ns.length ≤ k by omega), List.drop_length, List.drop_eq_nil_of_le (by omega : ns.length ≤ k)]; simp
/-- what a def that makes a new list of ints promises -/
def RetI (xs : List Int) (H : Hp) (Q : VK) : Prop := ∀ p H', H p = none → Ex H H' → H' p = some (.lst (xs.map V.int)) → Q (.ref p) H'
theorem RetI.go {xs : List Int} {H H1 : Hp} {Q : VK} (k : RetI xs H Q) (e : Ex H H1) {p : Addr} {H2 : Hp} (hp : H1 p = none) (e2 : Ex H1 H2) (h : H2 p = some (.lst (xs.map V.int))) : Q (.ref p) H2 := k p H2 (Evl.fresh_back e hp) (e.trans e2) h
/-! ### the heap since the entry -/
/-- all that stood in H stands in H' (the same as Ex, kept apart) -/
structure Fx (H H' : Hp) : Prop where
  to : Ex H H'
theorem Fx.refl (H : Hp) : Fx H H := ⟨Evl.Ex.refl H⟩
theorem Fx.ex {H H1 H2 : Hp} (f : Fx H H1) (e : Ex H1 H2) : Fx H H2 := ⟨Evl.Ex.trans f.to e⟩
theorem Fx.of {H H1 : Hp} (e : Ex H H1) : Fx H H1 := ⟨e⟩
theorem Fx.mut {H H1 H2 : Hp} {l : Addr} (f : Fx H H1) (b : Exb l H1 H2) (h : H l = none) : Fx H H2 := ⟨Evl.Ex.mutb f.to b h⟩
theorem Fx.free {H H1 : Hp} {p : Addr} (f : Fx H H1) (h : H1 p = none) : H p = none := Evl.fresh_back f.to h
theorem Fx.l {K : PySem.W.Frag} {H H' : Hp} {a : Addr} {xs : List V} (e : Fx H H') (h : SqL K H a xs) : SqL K H' a xs := Evl.ex_l e.to h
theorem hx_e {H H' : Hp} {a : Addr} {o : HO} (e : Ex H H') (h : H a = some o) : H' a = some o := e a o h
theorem hx_b {H H' : Hp} {a l : Addr} {o : HO} (e : Exb l H H') (n : a ≠ l) (h : H a = some o) : H' a = some o := e a n o h
theorem ne_1 {H : Hp} {a l : Addr} {o : HO} (h' : H l = none) (h : H a = some o) : a ≠ l := ne_of_none h h'
theorem ne_2 {H : Hp} {a l : Addr} {o : HO} (h' : H a = none) (h : H l = some o) : a ≠ l := (ne_of_none h h').symm
def tTru (K : PySem.W.Frag) (te : TE) : TT := fun σ H Q => te σ H fun x H' => ∃ k, TruV K x H' k ∧ Q k H'
theorem pt_tru {X : Cx} {a : Expr} {ta : TE} (ha : PE X a ta) (he : ∀ whole, isTrue a X.env whole = (do let v ← whole; standAt a.pos; holding [v] (truthy v)) := by intro _; rfl) : PT X a (tTru X.K ta) := pt_truth ha he
theorem r_tru {K : PySem.W.Frag} {te : TE} {σ : L2.St} {H : Hp} {Q : Bool → Hp → Prop} (h : te σ H fun x H' => ∃ k, TruV K x H' k ∧ Q k H') : tTru K te σ H Q := h
theorem r_truL {K : PySem.W.Frag} {a : Addr} {xs : List V} {H : Hp} {Q : Bool → Prop} (h : SqL K H a xs) (q : Q (!xs.isEmpty)) : ∃ k, TruV K (.ref a) H k ∧ Q k := ⟨_, .inl ⟨xs, h, rfl⟩, q⟩
def RevK (K : PySem.W.Frag) (Q : VK) : V → Hp → Prop := fun x H1 => ∃ a xs, x = .ref a ∧ SqL K H1 a xs ∧ ∀ p, H1 p = none → Q (.ref p) (upd H1 p (.lst xs.reverse))
theorem r_rev {K : PySem.W.Frag} {te : TE} {σ : L2.St} {H : Hp} {Q : VK} (h : te σ H (RevK K Q)) : tRevL K te σ H Q := h
theorem r_revI {K : PySem.W.Frag} {H : Hp} {Q : VK} {a : Addr} {ns : List Int} (h : SqL K H a (ns.map V.int)) (q : ∀ p H', H p = none → Ex H H' → H' p = some (.lst (ns.reverse.map V.int)) → Q (.ref p) H') : RevK K Q (.ref a) H :=
  ⟨a, _, rfl, h, newL fun p H' hp e hh => q p H' hp e (by rw [List.map_reverse]; exact hh)⟩
theorem rg2 {a b : Int} (ha : 0 ≤ a) (ha' : a < 2 ^ 60) (hb : -(2 ^ 60) ≤ b) (hb' : b < 2 ^ 60) : RgC a b 2 ((b - a + 1) / 2).toNat := by
  have e : Builtin.Range.rangeSize a b 2 = (((b - a + 1) / 2).toNat : Int) := by
    unfold Builtin.Range.rangeSize
    rw [if_pos (by decide)]
    split <;> omega
  refine ⟨by decide, by decide, ?_, e⟩
  unfold Builtin.Range.small
  rw [e]
  simp only [Builtin.Range.rangeFitsLong, Bool.and_eq_true, Bool.or_eq_true, decide_eq_true_eq, beq_iff_eq, show ((2 : Int) > 0) by decide, if_true]
  omega
theorem r_iRng3 {ta : TA} {σ : L2.St} {H : Hp} {R : It → Hp → Prop} (h : ta σ H fun vs H1 => ∃ (i j c : Int) (n : Nat), vs = [.int i, .int j, .int c] ∧ RgC i j c n ∧ R (Itc i c n) H1) : iRng3 ta σ H R := h
theorem r_iRng3A {g : TG} {tb : TS} {D : Ends} {σ : L2.St} {H : Hp} {i j c : Int} {n : Nat} (h : RgC i j c n) (q : Lp (Itc i c n) g tb D σ H) : ∃ (i' j' c' : Int) (n : Nat), [V.int i, V.int j, V.int c] = [.int i', .int j', .int c'] ∧ RgC i' j' c' n ∧ Lp (Itc i' c' n) g tb D σ H := ⟨i, j, c, n, rfl, h, q⟩
/-- over a range from lo, each giving an int -/
theorem lc_rangeL {σ : L2.St} {H : Hp} {te : TE} {Q : VK} {lo : Int} {n : Nat} {j : Nat} (f : Nat → Int) (hz : n < 1000000)
    (he : ∀ i, i < n → ∀ H1, Ex H H1 → ∀ Q' : VK, (∀ H2, Ex H1 H2 → Q' (.int (f i)) H2) → te (σ.set j (some (.int (lo + (i : Int))))) H1 Q')
    (q : ∀ p H', H p = none → Ex H H' → H' p = some (.lst (((List.range n).map f).map V.int)) → Q (.ref p) H') : Lc (Itr lo n) (gName j) tYes te [j] σ H Q := fun D hD =>
  lc_range (lo := lo) (n := n) (fun i H' => Ex H H' ∧ H' D = some (.lst (((List.range i).map f).map V.int))) ⟨Evl.Ex.new hD, upd_same⟩
    (fun i H' hi p => ⟨by show ((σ.set j none).set j _).set j none = σ.set j none; rw [set_set, set_set], by
      show te ((σ.set j none).set j (some (.int (lo + (i : Int))))) H' _
      rw [set_set]
      refine he i hi H' p.1 _ fun H2 e2 => ⟨_, e2 D _ p.2, ?_, (Evl.Ex.mut (p.1.trans e2) hD), ?_⟩
      · rw [List.length_map, List.length_map, List.length_range]; exact small_lt (by omega)
      · rw [upd_same, List.range_succ, List.map_append, List.map_append]; rfl⟩)
    (fun H' p => q D H' hD p.1 p.2)
theorem r_lenI {K : PySem.W.Frag} {H : Hp} {Q : VK} {p : Addr} {ns : List Int} (h : SqL K H p (ns.map V.int)) (q : Q (.int ns.length) H) : rLenS K [.ref p] H Q := ⟨p, _, rfl, .inl h, by rw [List.length_map]; exact q⟩
/-- the last item -/
theorem r_ixLast {K : PySem.W.Frag} {H : Hp} {Q : VK} {p : Addr} {ns : List Int} (h : SqL K H p (ns.map V.int)) (h0 : ns ≠ []) (q : Q (.int (ns.getD (ns.length - 1) 0)) H) : rIxL K (.ref p) (.int (-1)) H Q := by
  have e : ns.map V.int = (ns.dropLast.map V.int) ++ [.int (ns.getD (ns.length - 1) 0)] := by
    have e1 : ns.getD (ns.length - 1) 0 = ns.getLast h0 := by
      rw [List.getD_eq_getElem?_getD, ← List.getLast?_eq_getElem?, List.getLast?_eq_some_getLast h0]; rfl
    rw [e1, ← List.map_singleton, ← List.map_append, List.dropLast_concat_getLast]
  exact r_ixL h (by rw [e]; exact atI_last _ _) q
theorem r_truI {K : PySem.W.Frag} {a : Addr} {ns : List Int} {H : Hp} {Q : Bool → Hp → Prop} (h : SqL K H a (ns.map V.int)) (q : Q (!decide (ns = [])) H) : ∃ k, TruV K (.ref a) H k ∧ Q k H := ⟨_, .inl ⟨_, h, rfl⟩, by
  have e : (!(ns.map V.int).isEmpty) = !decide (ns = []) := by
    cases ns with
    | nil => rfl
    | cons x r => rfl
  rw [e]; exact q⟩
theorem r_rg1 {te : TE} {σ : L2.St} {H : Hp} {R : Int → Int → Hp → Prop} (h : te σ H fun x H1 => ∃ b, x = .int b ∧ R 0 b H1) : tRg1 te σ H R := h
theorem r_revRA {g : TG} {tb : TS} {D : Ends} {σ : L2.St} {H : Hp} {b : Int} (h0 : -(2 ^ 62) ≤ b) (h1 : b < 2 ^ 62) (q : Lp (Itc (b.toNat - 1) (-1) b.toNat) g tb D σ H) : -(2 ^ 62) ≤ (0 : Int) ∧ (0 : Int) < 2 ^ 62 ∧ -(2 ^ 62) ≤ b ∧ b < 2 ^ 62 ∧ Lp (Itc (0 + (((b - 0).toNat : Nat) : Int) - 1) (-1) (b - 0).toNat) g tb D σ H := ⟨by decide, by decide, h0, h1, by
  rw [Int.sub_zero, Int.zero_add]; exact q⟩
/-- a loop over range(n), backwards -/
theorem loop_down {n : Nat} {j : Nat} {tb : TS} {D : Ends} {σ : L2.St} {H : Hp} (Pv : Nat → L2.St → Hp → Prop) (h0 : Pv n σ H)
    (hs : ∀ k σ H, k < n → Pv (k + 1) σ H → tb { D with nx := Pv k, ct := Pv k, bk := D.nx } (σ.set j (some (.int (k : Int)))) H) (hd : ∀ σ H, Pv 0 σ H → D.nx σ H) : Lp (Itc ((n : Int) - 1) (-1) n) (gName j) tb D σ H := by
  refine ⟨fun i m σ H => m = n - i ∧ i ≤ n ∧ Pv (n - i) σ H, ⟨n, by simp, Nat.zero_le _, h0⟩, ?_⟩
  rintro i m σ H ⟨rfl, hi, p⟩
  by_cases hlt : i < n
  · refine .inr ⟨hlt, Pv (n - (i + 1)), fun σ' H' p' => ⟨n - (i + 1), by omega, rfl, hlt, p'⟩, fun x H' y => ?_⟩
    obtain ⟨rfl, rfl⟩ := y
    have e1 : (n : Int) - 1 + (i : Int) * -1 = ((n - (i + 1) : Nat) : Int) := by omega
    have e2 : n - i = n - (i + 1) + 1 := by omega
    rw [e1]
    rw [e2] at p
    exact hs (n - (i + 1)) σ _ (by omega) p
  · have e : i = n := by omega
    subst e
    rw [Nat.sub_self] at p
    exact .inl ⟨Nat.le_refl _, hd σ H p⟩
theorem never_ {t : TS} {D : Ends} {σ : L2.St} {H : Hp} (h : False) : t D σ H := h.elim
end RB

set_option linter.all false
/-! Shared divisors. -/
namespace MG
def gcdN (ns : List Int) : Nat := ns.foldl (fun (g : Nat) x => Nat.gcd g x.natAbs) 0
def gcdL (ns : List Int) : Int := (gcdN ns : Int)
theorem fmod_lt {a b : Int} (h : b ≠ 0) : (a.fmod b).natAbs < b.natAbs := by
  by_cases hb : 0 < b
  · have h1 := Int.fmod_nonneg_of_pos a hb
    have h2 := Int.fmod_lt_of_pos a hb
    omega
  · have hb' : 0 < -b := by omega
    have e : a.fmod b = -((-a).fmod (-b)) := by rw [Int.neg_fmod_neg]; omega
    have h1 := Int.fmod_nonneg_of_pos (-a) hb'
    have h2 := Int.fmod_lt_of_pos (-a) hb'
    rw [e]
    omega
theorem gcd_fmod (a b : Int) : Int.gcd b (a.fmod b) = Int.gcd a b := by
  rw [Int.fmod_def, Int.gcd_sub_mul_left_right, Int.gcd_comm]
theorem foldl_gcd (ns : List Int) : ∀ g : Nat, ns.foldl (fun (g : Nat) x => Nat.gcd g x.natAbs) g = Nat.gcd g (gcdN ns) := by
  induction ns with
  | nil => intro g; simp [gcdN]
  | cons x r ih =>
    intro g
    show List.foldl _ (Nat.gcd g x.natAbs) r = _
    rw [ih]
    have e : gcdN (x :: r) = Nat.gcd (x.natAbs) (gcdN r) := by
      show List.foldl _ (Nat.gcd 0 x.natAbs) r = _
      rw [ih, Nat.gcd_zero_left]
    rw [e, Nat.gcd_assoc]
theorem gcdN_cons (x : Int) (r : List Int) : gcdN (x :: r) = Nat.gcd x.natAbs (gcdN r) := by
  show List.foldl _ (Nat.gcd 0 x.natAbs) r = _
  rw [foldl_gcd, Nat.gcd_zero_left]
theorem gcdN_nil : gcdN [] = 0 := rfl
theorem gcdN_append (xs ys : List Int) : gcdN (xs ++ ys) = Nat.gcd (gcdN xs) (gcdN ys) := by
  show List.foldl _ 0 (xs ++ ys) = _
  rw [List.foldl_append, foldl_gcd]; rfl
theorem gcdN_take {ns : List Int} {i : Nat} {x : Int} (h : ns[i]? = some x) : gcdN (ns.take (i + 1)) = Nat.gcd (gcdN (ns.take i)) x.natAbs := by
  rw [List.take_add_one, h, gcdN_append]
  congr 1
  show gcdN [x] = _
  rw [gcdN_cons, gcdN_nil, Nat.gcd_zero_right]
theorem gcdN_dvd {ns : List Int} : ∀ {x : Int}, x ∈ ns → (gcdN ns : Int) ∣ x := by
  induction ns with
  | nil => intro x h; cases h
  | cons y r ih =>
    intro x h
    rw [gcdN_cons]
    rcases List.mem_cons.mp h with rfl | h
    · exact Int.ofNat_dvd_left.mpr (Nat.gcd_dvd_left _ _)
    · exact Int.dvd_trans (Int.ofNat_dvd.mpr (Nat.gcd_dvd_right _ _)) (ih h)
theorem dvd_gcdN {ns : List Int} {d : Nat} (h : ∀ x ∈ ns, (d : Int) ∣ x) : d ∣ gcdN ns := by
  induction ns with
  | nil => exact Nat.dvd_zero _
  | cons y r ih =>
    rw [gcdN_cons]
    exact Nat.dvd_gcd (Int.ofNat_dvd_left.mp (h y (List.mem_cons_self))) (ih fun x hx => h x (List.mem_cons_of_mem _ hx))
theorem gcdN_eq {ns : List Int} {g : Nat} (h1 : ∀ x ∈ ns, (g : Int) ∣ x) (h2 : ∀ d : Nat, (∀ x ∈ ns, (d : Int) ∣ x) → d ∣ g) : gcdN ns = g :=
  Nat.dvd_antisymm (h2 _ fun _ hx => gcdN_dvd hx) (dvd_gcdN h1)
end MG

set_option linter.all false
set_option maxRecDepth 100000
/-! Instances: made, their fields, their methods; the fraction. -/
namespace RB
open PySem PySem.Spec PyProof.Rows L2
open Evl (Ex rLenS rListS rMax2 tCut pss_cut)
def tDead : TS := fun _ _ _ => False
theorem ps_dead {X : Cx} {st : Stmt} : PS X st tDead := ⟨fun _ _ _ _ _ _ h => h.elim⟩
theorem pss_dead {X : Cx} {st : List Stmt} : PSs X st tDead := ⟨fun _ _ _ _ _ _ h => h.elim⟩
theorem okN {P : Program} {w : World} {K : PySem.W.Frag} {mg : Str → Option Value} {base : Heap} {x qual : Str} {params : Arguments} {body : List Stmt} {scope : Scope} {dvs : List V} {kws : List (Str × V)} {f : Addr} {fd : FuncData} {N ps : List Str} {k : Nat} {sp : Sp} (F : FunD K x qual params body scope dvs kws f fd) (S : FnScope N ps scope) (len : ∀ vs H Q E, sp vs H Q E → vs.length = ps.length)
    (hb : ∀ (cdv : Value) (A : Around) (outer : List Env) (s : Shared) (H : Hp) (vs : List V) (Q : VK) (E : XK), Room k (A.deeper (envOfC qual scope s.heap.objs.size f cdv)) → sp vs H Q E →
      ∃ t, PSs (cxOf CX0 P w K mg base N qual scope f cdv A outer s H E).nox body t ∧ t { nx := fun _ H' => Q .non H', rt := Q } (start N vs) H) : FnOk P w K mg base CX0 (k + 1) f fd ps sp :=
  F.ok S len fun cdv A outer s H vs Q E hr h => by
    obtain ⟨t, h1, h2⟩ := hb cdv A outer s H vs Q E hr h
    exact ⟨t, h1.nox, h2⟩
theorem funD_mk {K : PySem.W.Frag} {x qual : Str} {params : Arguments} {body : List Stmt} {scope : Scope} {i : Int} {f T : Addr} {oc : Value} {od an : Option Addr} {osl : Array (Option Value)} {kV doc pm cdv ct oc2 : Value} {od2 : Option Addr} {tk : Tok} {n2 : Nat} {sl2 : Array (Option Value)}
    (l : K.lookup f = some ⟨oc, od, .func (PySem.W.fnOf x qual params body scope (.ref T) kV doc pm an cdv ct), osl⟩) (d : K.lookup T = some ⟨oc2, od2, .seq #[.int i tk] n2, sl2⟩) (c : PySem.W.codeIn K cdv qual = true) (k : PySem.W.keepIn K (.ref f) = true) :
    FunD K x qual params body scope [.int i] [] f (PySem.W.fnOf x qual params body scope (.ref T) kV doc pm an cdv ct) :=
  ⟨⟨oc, od, .ref T, kV, doc, pm, an, cdv, ct, osl, rfl, l, c, .inr ⟨by simp, T, _, [.int i tk], n2, rfl, d, rfl, .cons ⟨tk, rfl⟩ .nil⟩, .inl rfl⟩, k⟩
theorem funD_mkV {K : PySem.W.Frag} {x qual : Str} {params : Arguments} {body : List Stmt} {scope : Scope} {dvs : List V} {its : List Value} {f T : Addr} {oc : Value} {od an : Option Addr} {osl : Array (Option Value)} {kV doc pm cdv ct oc2 : Value} {od2 : Option Addr} {n2 : Nat} {sl2 : Array (Option Value)}
    (l : K.lookup f = some ⟨oc, od, .func (PySem.W.fnOf x qual params body scope (.ref T) kV doc pm an cdv ct), osl⟩) (d : K.lookup T = some ⟨oc2, od2, .seq its.toArray n2, sl2⟩) (c : PySem.W.codeIn K cdv qual = true) (k : PySem.W.keepIn K (.ref f) = true) (ne : dvs ≠ []) (r : Vals dvs its) :
    FunD K x qual params body scope dvs [] f (PySem.W.fnOf x qual params body scope (.ref T) kV doc pm an cdv ct) :=
  ⟨⟨oc, od, .ref T, kV, doc, pm, an, cdv, ct, osl, rfl, l, c, .inr ⟨ne, T, _, its, n2, rfl, d, rfl, r⟩, .inl rfl⟩, k⟩
theorem binds_full {K : PySem.W.Frag} {fd : FuncData} {ps : List Str} (h : ∃ ds, Vals ([] : List V) ds ∧ Binds K fd ps ds) : Binds K fd ps [] := by
  obtain ⟨ds, h1, h2⟩ := h
  cases h1
  exact h2
/-! ### making -/
def MakeK (C : Addr) (sp : Sp) (dvs : List V) (E : XK) (Q : VK) : List V → Hp → Prop := fun vs H1 => ∀ x dx, H1 x = none → H1 dx = none → dx ≠ x →
  sp (.ref x :: (vs ++ dvs)) (upd (upd H1 dx (.own x)) x (.ins C dx [])) (fun v H2 => v = .non ∧ Q (.ref x) H2) E
theorem r_make {C : Addr} {sp : Sp} {dvs : List V} {E : XK} {ta : TA} {σ : L2.St} {H : Hp} {Q : VK} (h : ta σ H (MakeK C sp dvs E Q)) : tMake C sp dvs E ta σ H Q := h
def FldK (K : PySem.W.Frag) (f : Str) (Q : VK) : V → Hp → Prop := fun x H1 => ∃ a C dx fs v, x = .ref a ∧ H1 a = some (.ins C dx fs) ∧ Cls K C ∧ NoAttr K C f ∧ fs.lookup f = some v ∧ Q v H1
theorem r_fld {K : PySem.W.Frag} {te : TE} {f : Str} {σ : L2.St} {H : Hp} {Q : VK} (h : te σ H (FldK K f Q)) : tFld K te f σ H Q := h
def SFldK (K : PySem.W.Frag) (f : Str) (y : V) (G : Hp → Prop) : V → Hp → Prop := fun x H2 => ∃ a C dx fs, x = .ref a ∧ H2 a = some (.ins C dx fs) ∧ Cls K C ∧ NoAttr K C f ∧ fs.length < 1000 ∧ G (upd H2 a (.ins C dx (putF f y fs)))
theorem r_sfld {K : PySem.W.Frag} {ta tv : TE} {f : Str} {D : Ends} {σ : L2.St} {H : Hp} (h : tv σ H fun y H1 => ta σ H1 (SFldK K f y (D.nx σ))) : sFld K ta tv f D σ H := h
def MethK (C : Addr) (m : Str) (sp : Sp) (dvs : List V) (E : XK) (t : TA) (σ : L2.St) (Q : VK) : V → Hp → Prop := fun x H1 => ∃ a dx fs, x = .ref a ∧ H1 a = some (.ins C dx fs) ∧ fs.lookup m = none ∧ t σ H1 fun vs H2 => sp (x :: (vs ++ dvs)) H2 Q E
theorem r_meth {C : Addr} {m : Str} {sp : Sp} {dvs : List V} {E : XK} {ta : TE} {t : TA} {σ : L2.St} {H : Hp} {Q : VK} (h : ta σ H (MethK C m sp dvs E t σ Q)) : tMeth C m sp dvs E ta t σ H Q := h
/-! ### the fraction -/
def rF (t b : Int) : List (Str × V) := [("top", .int t), ("bottom", .int b)]
def IsR (C : Addr) (H : Hp) (a : Addr) (t b : Int) : Prop := ∃ dx, H a = some (.ins C dx (rF t b))
theorem IsR.ex {C : Addr} {H H' : Hp} {a : Addr} {t b : Int} (e : Ex H H') (h : IsR C H a t b) : IsR C H' a t b := h.elim fun dx h => ⟨dx, e _ _ h⟩
theorem IsR.exb {C : Addr} {H H' : Hp} {a l : Addr} {t b : Int} (e : Exb l H H') (n : a ≠ l) (h : IsR C H a t b) : IsR C H' a t b := h.elim fun dx h => ⟨dx, e _ n _ h⟩
theorem rF_top (t b : Int) : (rF t b).lookup ("top" : Str) = some (.int t) := by
  unfold rF
  simp [List.lookup]
theorem rF_bottom (t b : Int) : (rF t b).lookup ("bottom" : Str) = some (.int b) := by
  unfold rF
  have e : (("bottom" : Str) == ("top" : Str)) = false := by decide +kernel
  simp [List.lookup, e]
theorem rF_none (t b : Int) {m : Str} (h1 : (m == ("top" : Str)) = false) (h2 : (m == ("bottom" : Str)) = false) : (rF t b).lookup m = none := by
  unfold rF
  simp [List.lookup, h1, h2]
theorem r_top {K : PySem.W.Frag} {C : Addr} {H : Hp} {Q : VK} {a : Addr} {t b : Int} (c : Cls K C) (n : NoAttr K C "top") (h : IsR C H a t b) (q : Q (.int t) H) : FldK K "top" Q (.ref a) H := by
  obtain ⟨dx, h⟩ := h
  exact ⟨a, C, dx, _, _, rfl, h, c, n, rF_top t b, q⟩
theorem r_bottom {K : PySem.W.Frag} {C : Addr} {H : Hp} {Q : VK} {a : Addr} {t b : Int} (c : Cls K C) (n : NoAttr K C "bottom") (h : IsR C H a t b) (q : Q (.int b) H) : FldK K "bottom" Q (.ref a) H := by
  obtain ⟨dx, h⟩ := h
  exact ⟨a, C, dx, _, _, rfl, h, c, n, rF_bottom t b, q⟩
theorem r_methR {C : Addr} {m : Str} {sp : Sp} {dvs : List V} {E : XK} {ta : TA} {σ : L2.St} {Q : VK} {H : Hp} {a : Addr} {t b : Int} (h : IsR C H a t b) (h1 : (m == ("top" : Str)) = false) (h2 : (m == ("bottom" : Str)) = false) (q : ta σ H fun vs H2 => sp (.ref a :: (vs ++ dvs)) H2 Q E) : MethK C m sp dvs E ta σ Q (.ref a) H := by
  obtain ⟨dx, h⟩ := h
  exact ⟨a, dx, _, rfl, h, rF_none t b h1 h2, q⟩
def RetR (C : Addr) (t b : Int) (H : Hp) (Q : VK) : Prop := ∀ p H', H p = none → Ex H H' → IsR C H' p t b → Q (.ref p) H'
theorem RetR.go {C : Addr} {t b : Int} {H H1 : Hp} {Q : VK} (k : RetR C t b H Q) (e : Ex H H1) : RetR C t b H1 Q := fun p H' hp e2 h => k p H' (Evl.fresh_back e hp) (e.trans e2) h
/-- the shared divisor with the bottom's sign -/
def rG (t b : Int) : Int := if b < 0 then -MG.gcdL [t, b] else MG.gcdL [t, b]
def rT (t b : Int) : Int := t.fdiv (rG t b)
def rB (t b : Int) : Int := b.fdiv (rG t b)
theorem gcdL_pair (t b : Int) : MG.gcdL [t, b] = (Int.gcd t b : Int) := by
  unfold MG.gcdL MG.gcdN Int.gcd
  simp
theorem rG_pos {t b : Int} (hb : b ≠ 0) : 0 < Int.gcd t b := Int.gcd_pos_of_ne_zero_right t hb
theorem rG_ne {t b : Int} (hb : b ≠ 0) : rG t b ≠ 0 := by
  have := rG_pos (t := t) hb
  unfold rG
  rw [gcdL_pair]
  split <;> omega
theorem rG_abs (t b : Int) : (rG t b).natAbs = Int.gcd t b := by
  unfold rG
  rw [gcdL_pair]
  split <;> omega
theorem rG_log {t b : Int} {n : Nat} (hb : b ≠ 0) (h0 : 0 < n) (h : b.natAbs < 2 ^ n) : (rG t b).natAbs.log2 < n := by
  rw [rG_abs]
  exact PySem.Flt.log2_lt_of h0 (Nat.lt_of_le_of_lt (Nat.gcd_le_right _ (by omega)) h)
theorem rG_dvd_t (t b : Int) : rG t b ∣ t := by
  rw [← Int.natAbs_dvd, rG_abs]; exact Int.gcd_dvd_left ..
theorem rG_dvd_b (t b : Int) : rG t b ∣ b := by
  rw [← Int.natAbs_dvd, rG_abs]; exact Int.gcd_dvd_right ..
theorem rT_mul {t b : Int} (hb : b ≠ 0) : rT t b * rG t b = t := by
  obtain ⟨k, hk⟩ := rG_dvd_t t b
  unfold rT
  conv => lhs; arg 1; arg 1; rw [hk]
  rw [Int.mul_fdiv_cancel_left _ (rG_ne hb), Int.mul_comm, ← hk]
theorem rB_mul {t b : Int} (hb : b ≠ 0) : rB t b * rG t b = b := by
  obtain ⟨k, hk⟩ := rG_dvd_b t b
  unfold rB
  conv => lhs; arg 1; arg 1; rw [hk]
  rw [Int.mul_fdiv_cancel_left _ (rG_ne hb), Int.mul_comm, ← hk]
theorem rB_pos {t b : Int} (hb : b ≠ 0) : 0 < rB t b := by
  have h1 := rB_mul (t := t) hb
  have h2 := rG_pos (t := t) hb
  have hs : (b < 0 → rG t b < 0) ∧ (¬ b < 0 → 0 < rG t b) := by
    unfold rG
    rw [gcdL_pair]
    constructor
    · intro h; rw [if_pos h]; omega
    · intro h; rw [if_neg h]; omega
  apply Classical.byContradiction
  intro h
  by_cases hn : b < 0
  · have := Int.mul_nonneg_of_nonpos_of_nonpos (show rB t b ≤ 0 by omega) (show rG t b ≤ 0 by have := hs.1 hn; omega)
    omega
  · have := Int.mul_nonneg (show 0 ≤ -rB t b by omega) (show 0 ≤ rG t b by have := hs.2 hn; omega)
    rw [Int.neg_mul] at this
    omega
theorem r_cross {t b : Int} (hb : b ≠ 0) : rT t b * b = t * rB t b := by
  have h1 := rT_mul (t := t) hb
  have h2 := rB_mul (t := t) hb
  generalize rT t b = p at *
  generalize rB t b = q at *
  generalize rG t b = g at *
  rw [← h1, ← h2, Int.mul_assoc, Int.mul_comm g q]
theorem r_low {t b : Int} (hb : b ≠ 0) : Int.gcd (rT t b) (rB t b) = 1 := by
  have h1 := rT_mul (t := t) hb
  have h2 := rB_mul (t := t) hb
  have h3 := rG_abs t b
  have h4 := rG_pos (t := t) hb
  have h5 := Int.gcd_mul_right (rT t b) (rG t b) (rB t b)
  rw [h1, h2, h3] at h5
  exact Nat.eq_of_mul_eq_mul_right h4 (by omega)
theorem rT_abs {t b : Int} (hb : b ≠ 0) : (rT t b).natAbs ≤ t.natAbs := by
  have h1 := rT_mul (t := t) hb
  have h4 := rG_pos (t := t) hb
  have h3 := rG_abs t b
  have h5 : (rT t b).natAbs * (rG t b).natAbs = t.natAbs := by rw [← Int.natAbs_mul, h1]
  rw [h3] at h5
  rw [← h5]
  exact Nat.le_mul_of_pos_right _ h4
theorem rB_abs {t b : Int} (hb : b ≠ 0) : (rB t b).natAbs ≤ b.natAbs := by
  have h1 := rB_mul (t := t) hb
  have h4 := rG_pos (t := t) hb
  have h3 := rG_abs t b
  have h5 : (rB t b).natAbs * (rG t b).natAbs = b.natAbs := by rw [← Int.natAbs_mul, h1]
  rw [h3] at h5
  rw [← h5]
  exact Nat.le_mul_of_pos_right _ h4
end RB
namespace RB
open PySem PySem.Spec PyProof.Rows L2
/-- what isinstance asks of a class of instances -/
structure InsC (K : PySem.W.Frag) (C : Addr) : Prop where
  ha : PySem.W.findIn K (.ref C) "__class__" = some (some (.builtin "object.__class__"))
  hn : PySem.W.specialIn K (.builtin "object.__class__") "__get__" = some (some (.builtin "getset_descriptor.__get__"))
  ht : PySem.W.takesIn K (.builtin "object.__class__") = some true
  hm : PySem.W.mroIn K C (.type "object") = some true
theorem kit_self (K : PySem.W.Frag) (t : Value) (h : (t == t) = true) : PySem.W.kitOne K t t = some true := by
  unfold PySem.W.kitOne
  rw [if_pos h]
theorem r_isR {K : PySem.W.Frag} {C : Addr} {H : Hp} {Q : VK} {a : Addr} {t b : Int} (c : Cls K C) (i : InsC K C) (h : IsR C H a t b) (q : Q (.bl true) H) : rIsi K [.ref a, .ref C] H Q := by
  obtain ⟨dx, h⟩ := h
  exact ⟨.ref a, .ref C, .ref C, .ref C, true, rfl, .own C, .base (.ins h c i.ha i.hn i.ht i.hm), kit_self K (.ref C) (beq_self_eq_true _), q⟩
end RB

set_option linter.all false
/-! Fractions: order, sign, floor. -/
namespace RB
/-- -1, 0 or 1 -/
def ordI (l r : Int) : Int := if l < r then -1 else if r < l then 1 else 0
theorem ordI_lt {l r : Int} (h : l < r) : ordI l r = -1 := if_pos h
theorem ordI_gt {l r : Int} (h : r < l) : ordI l r = 1 := by
  unfold ordI
  rw [if_neg (by omega), if_pos h]
theorem ordI_self (l : Int) : ordI l l = 0 := by
  unfold ordI
  rw [if_neg (by omega), if_neg (by omega)]
theorem ordI_swap (l r : Int) : ordI r l = - ordI l r := by
  rcases Int.lt_trichotomy l r with h | h | h
  · rw [ordI_lt h, ordI_gt h]; rfl
  · subst h; rw [ordI_self]; rfl
  · rw [ordI_gt h, ordI_lt h]
theorem ordI_scale {c : Int} (hc : 0 < c) (l r : Int) : ordI (l * c) (r * c) = ordI l r := by
  rcases Int.lt_trichotomy l r with h | h | h
  · rw [ordI_lt h, ordI_lt (Int.mul_lt_mul_of_pos_right h hc)]
  · subst h; rw [ordI_self, ordI_self]
  · rw [ordI_gt h, ordI_gt (Int.mul_lt_mul_of_pos_right h hc)]
theorem ordI_sub (l r : Int) : ordI (l - r) 0 = ordI l r := by
  rcases Int.lt_trichotomy l r with h | h | h
  · rw [ordI_lt h, ordI_lt (by omega)]
  · subst h; rw [ordI_self, Int.sub_self, ordI_self]
  · rw [ordI_gt h, ordI_gt (by omega)]
theorem rG_gt {t b : Int} (hb : 0 < b) : 0 < rG t b := by
  have := rG_pos (t := t) (b := b) (by omega)
  unfold rG
  rw [gcdL_pair, if_neg (by omega)]
  omega
/-- the order of two made fractions is that of what they are made of -/
theorem ord_made {t b u v : Int} (hb : 0 < b) (hv : 0 < v) : ordI (rT t b * rB u v) (rT u v * rB t b) = ordI (t * v) (u * b) := by
  have g1 := rG_gt (t := t) hb
  have g2 := rG_gt (t := u) hv
  have e1 := rT_mul (t := t) (b := b) (by omega)
  have e2 := rB_mul (t := t) (b := b) (by omega)
  have e3 := rT_mul (t := u) (b := v) (by omega)
  have e4 := rB_mul (t := u) (b := v) (by omega)
  generalize rT t b = p at *
  generalize rB t b = q at *
  generalize rT u v = p' at *
  generalize rB u v = q' at *
  generalize rG t b = g at *
  generalize rG u v = g' at *
  have hg : 0 < g * g' := Int.mul_pos g1 g2
  have a1 : t * v = (p * q') * (g * g') := by rw [← e1, ← e4]; simp only [Int.mul_assoc, Int.mul_left_comm, Int.mul_comm]
  have a2 : u * b = (p' * q) * (g * g') := by rw [← e3, ← e2]; simp only [Int.mul_assoc, Int.mul_left_comm, Int.mul_comm]
  rw [a1, a2, ordI_scale hg]
theorem sign_made {t b : Int} (hb : 0 < b) : ordI (rT t b) 0 = ordI t 0 := by
  have g1 := rG_gt (t := t) hb
  have e1 := rT_mul (t := t) (b := b) (by omega)
  have := ordI_scale g1 (rT t b) 0
  rw [e1, Int.zero_mul] at this
  exact this.symm
theorem rG_one (t : Int) : rG t 1 = 1 := by
  unfold rG
  rw [gcdL_pair, if_neg (by decide), Int.gcd_one_right]; rfl
theorem rT_one (t : Int) : rT t 1 = t := by
  unfold rT; rw [rG_one, Int.fdiv_one]
theorem rB_one (t : Int) : rB t 1 = 1 := by
  unfold rB; rw [rG_one]; rfl
theorem fdiv_two {p q : Int} (hq : 0 < q) : p.fdiv q * q ≤ p ∧ p < (p.fdiv q + 1) * q := by
  have h1 := Int.mul_fdiv_add_fmod p q
  have h2 := Int.fmod_nonneg_of_pos p hq
  have h3 := Int.fmod_lt_of_pos p hq
  rw [Int.add_mul, Int.one_mul, Int.mul_comm (p.fdiv q) q]
  omega
theorem fdiv_abs {p q : Int} (hq : 0 < q) : (p.fdiv q).natAbs ≤ p.natAbs := by
  obtain ⟨h1, h2⟩ := fdiv_two (p := p) hq
  generalize p.fdiv q = l at *
  by_cases hl : 0 ≤ l
  · have := Int.mul_le_mul_of_nonneg_left (show 1 ≤ q by omega) hl
    rw [Int.mul_one] at this
    omega
  · have := Int.mul_le_mul_of_nonneg_left (show 1 ≤ q by omega) (show 0 ≤ -(l + 1) by omega)
    rw [Int.mul_one, Int.neg_mul] at this
    omega
/-- the floor of a made fraction, told by what it is made of -/
theorem floor_made {t b : Int} (hb : 0 < b) : (rT t b).fdiv (rB t b) * b ≤ t ∧ t < ((rT t b).fdiv (rB t b) + 1) * b := by
  have g1 := rG_gt (t := t) hb
  have e1 := rT_mul (t := t) (b := b) (by omega)
  have e2 := rB_mul (t := t) (b := b) (by omega)
  obtain ⟨h1, h2⟩ := fdiv_two (p := rT t b) (rB_pos (t := t) (b := b) (by omega))
  generalize (rT t b).fdiv (rB t b) = l at *
  generalize rT t b = p at *
  generalize rB t b = q at *
  generalize rG t b = g at *
  have a1 := Int.mul_le_mul_of_nonneg_right h1 (show 0 ≤ g by omega)
  have a2 := Int.mul_lt_mul_of_pos_right h2 g1
  rw [Int.mul_assoc, e2, e1] at a1 a2
  exact ⟨a1, a2⟩
end RB
namespace RB
open PySem PySem.Spec PyProof.Rows L2
theorem r_strI {i : Int} {H : Hp} {Q : VK} (h : i.natAbs.log2 < 1920) (q : Q (.str (toString i)) H) : rStrInt [.int i] H Q := ⟨i, rfl, h, q⟩
theorem r_addS {i j : Str} {H : Hp} {Q : VK} (h : i.length + j.length ≤ sizeLine) (q : Q (.str (i ++ j)) H) : rAddS (.str i) (.str j) H Q := ⟨i, j, rfl, rfl, h, q⟩
theorem rG_low {t b : Int} (hb : 0 < b) (h : Int.gcd t b = 1) : rG t b = 1 := by
  unfold rG
  rw [gcdL_pair, if_neg (by omega), h]; rfl
theorem rT_low {t b : Int} (hb : 0 < b) (h : Int.gcd t b = 1) : rT t b = t := by
  unfold rT; rw [rG_low hb h, Int.fdiv_one]
theorem rB_low {t b : Int} (hb : 0 < b) (h : Int.gcd t b = 1) : rB t b = b := by
  unfold rB; rw [rG_low hb h, Int.fdiv_one]
/-- a fraction's text -/
def textR (t b : Int) : Str := if b = 1 then (toString t : String) else Str.ofString (toString t) ++ "/" ++ Str.ofString (toString b)
theorem text_len {i : Int} (h : i.natAbs.log2 < 1920) : (Str.ofString (toString i)).length ≤ 1921 := PyProof.Rows.int_text_len_1921 h
theorem cat_len (a b : Str) : (a ++ b).length = a.length + b.length := by
  show (a.cps ++ b.cps).size = _
  rw [Array.size_append]; rfl
theorem log_lt {i : Int} {n : Nat} (h0 : 0 < n) (h9 : n ≤ 1920) (h : i.natAbs < 2 ^ n) : i.natAbs.log2 < 1920 := Nat.lt_of_lt_of_le (PySem.Flt.log2_lt_of h0 h) h9
end RB
namespace RB
theorem cross_made {X Y T B : Int} (hY : Y ≠ 0) (h : X * B = T * Y) : rT X Y * B = T * rB X Y := by
  have h1 := rT_mul (t := X) hY
  have h2 := rB_mul (t := X) hY
  have hg := rG_ne (t := X) hY
  generalize rT X Y = p at *
  generalize rB X Y = q at *
  generalize rG X Y = g at *
  apply Int.eq_of_mul_eq_mul_right hg
  rw [Int.mul_assoc, Int.mul_comm B g, ← Int.mul_assoc, h1, h, Int.mul_assoc, h2]
theorem plus_cross {p q p' q' a b c d : Int} (h1 : p * b = a * q) (h2 : p' * d = c * q') : (p * q' + p' * q) * (b * d) = (a * d + c * b) * (q * q') := by grind
theorem minus_cross {p q p' q' a b c d : Int} (h1 : p * b = a * q) (h2 : p' * d = c * q') : (p * q' - p' * q) * (b * d) = (a * d - c * b) * (q * q') := by grind
theorem times_cross {p q p' q' a b c d : Int} (h1 : p * b = a * q) (h2 : p' * d = c * q') : (p * p') * (b * d) = (a * c) * (q * q') := by grind
theorem over_cross {p q p' q' a b c d : Int} (h1 : p * b = a * q) (h2 : p' * d = c * q') : (p * q') * (b * c) = (a * d) * (q * p') := by grind
theorem rT_zero (b : Int) : rT 0 b = 0 := by
  unfold rT; exact Int.zero_fdiv _
end RB

set_option linter.all false
/-! Lists of coefficients. -/
namespace ML
/-- the coefficient at a place, 0 beyond -/
def cf (P : List Int) (k : Nat) : Int := P.getD k 0
theorem cf_nil (k : Nat) : cf [] k = 0 := by simp [cf]
theorem cf_zero (x : Int) (r : List Int) : cf (x :: r) 0 = x := rfl
theorem cf_succ (x : Int) (r : List Int) (k : Nat) : cf (x :: r) (k + 1) = cf r k := by simp [cf]
theorem cf_get {P : List Int} {k : Nat} (h : k < P.length) : cf P k = P[k] := by
  unfold cf; rw [List.getD_eq_getElem?_getD, List.getElem?_eq_getElem h]; rfl
theorem cf_some {P : List Int} {k : Nat} {x : Int} (h : P[k]? = some x) : cf P k = x := by
  unfold cf; rw [List.getD_eq_getElem?_getD, h]; rfl
theorem cf_beyond {P : List Int} {k : Nat} (h : P.length ≤ k) : cf P k = 0 := by
  unfold cf; rw [List.getD_eq_getElem?_getD, List.getElem?_eq_none h]; rfl
theorem cf_getElem? {P : List Int} {k : Nat} (h : k < P.length) : P[k]? = some (cf P k) := by
  rw [cf_get h, List.getElem?_eq_getElem h]
/-- two lists of one length with the same coefficients are alike -/
theorem ext {P Q : List Int} (hl : P.length = Q.length) (h : ∀ k, k < P.length → cf P k = cf Q k) : P = Q := by
  apply List.ext_getElem hl
  intro i h1 h2
  rw [← cf_get h1, ← cf_get h2]
  exact h i h1
/-- without noughts at the end -/
def Trim (P : List Int) : Prop := P = [] ∨ cf P (P.length - 1) ≠ 0
theorem trim_ext {P Q : List Int} (hP : Trim P) (hQ : Trim Q) (h : ∀ k, cf P k = cf Q k) : P = Q := by
  have aux : ∀ {P Q : List Int}, Trim P → (∀ k, cf P k = cf Q k) → P.length ≤ Q.length := fun {P Q} hP h => by
    rcases hP with rfl | hP
    · exact Nat.zero_le _
    · apply Nat.le_of_not_lt
      intro hl
      have := h (P.length - 1)
      rw [cf_beyond (P := Q) (by omega)] at this
      exact hP this
  exact ext (Nat.le_antisymm (aux hP h) (aux hQ fun k => (h k).symm)) fun k _ => h k
def trimL : List Int → List Int
  | [] => []
  | x :: r => match trimL r with
    | [] => if x = 0 then [] else [x]
    | y :: s => x :: y :: s
theorem cf_trimL : ∀ (P : List Int) (k : Nat), cf (trimL P) k = cf P k
  | [], k => rfl
  | x :: r, k => by
    have ih := cf_trimL r
    unfold trimL
    split
    · next e =>
      rw [e] at ih
      split
      · next hx =>
        subst hx
        cases k with
        | zero => rfl
        | succ k => rw [cf_succ, ← ih k, cf_nil, cf_nil]
      · cases k with
        | zero => rfl
        | succ k => rw [cf_succ, cf_succ, ← ih k]
    · next y s e =>
      rw [e] at ih
      cases k with
      | zero => rfl
      | succ k => rw [cf_succ, cf_succ, ← ih k]
theorem trim_trimL : ∀ P : List Int, Trim (trimL P)
  | [] => .inl rfl
  | x :: r => by
    have ih := trim_trimL r
    unfold trimL
    split
    · split
      · exact .inl rfl
      · next hx => exact .inr hx
    · next y s e =>
      rw [e] at ih
      rcases ih with h | h
      · cases h
      · refine .inr ?_
        show cf (x :: y :: s) (s.length + 1) ≠ 0
        rw [cf_succ]
        exact h
theorem trimL_eq {P Q : List Int} (hQ : Trim Q) (h : ∀ k, cf Q k = cf P k) : trimL P = Q := trim_ext (trim_trimL P) hQ fun k => by rw [cf_trimL, h]
theorem trimL_self {P : List Int} (h : Trim P) : trimL P = P := trimL_eq h fun _ => rfl
theorem trimL_trimL (P : List Int) : trimL (trimL P) = trimL P := trimL_self (trim_trimL P)
theorem trimL_len : ∀ P : List Int, (trimL P).length ≤ P.length
  | [] => Nat.le_refl _
  | x :: r => by
    have ih := trimL_len r
    unfold trimL
    split
    · split <;> simp
    · next y s e =>
      rw [e] at ih
      simp only [List.length_cons] at ih ⊢
      omega
theorem trimL_congr {P Q : List Int} (h : ∀ k, cf P k = cf Q k) : trimL P = trimL Q := trim_ext (trim_trimL P) (trim_trimL Q) fun k => by rw [cf_trimL, cf_trimL, h]
/-- what the loop finds -/
theorem trimL_take {P : List Int} {n : Nat} (hn : n ≤ P.length) (h0 : ∀ k, n ≤ k → cf P k = 0) (h1 : n = 0 ∨ cf P (n - 1) ≠ 0) : trimL P = P.take n := by
  have hc : ∀ k, cf (P.take n) k = cf P k := fun k => by
    by_cases hk : k < n
    · unfold cf
      rw [List.getD_eq_getElem?_getD, List.getD_eq_getElem?_getD, List.getElem?_take_of_lt hk]
    · rw [h0 k (by omega), cf_beyond (by rw [List.length_take]; omega)]
  refine trimL_eq ?_ hc
  rcases h1 with h1 | h1
  · left; subst h1; rfl
  · by_cases hz : n = 0
    · left; subst hz; rfl
    · right
      rw [List.length_take, Nat.min_eq_left hn, hc]
      exact h1
/-- all coefficients below 2 ^ n -/
def Sz (n : Nat) (P : List Int) : Prop := ∀ x ∈ P, x.natAbs < 2 ^ n
theorem Sz.cf {n : Nat} {P : List Int} (h : Sz n P) (k : Nat) : (cf P k).natAbs < 2 ^ n := by
  by_cases hk : k < P.length
  · rw [cf_get hk]; exact h _ (List.getElem_mem hk)
  · rw [cf_beyond (by omega)]; exact Nat.two_pow_pos n
theorem Sz.of {n : Nat} {P : List Int} (h : ∀ k, k < P.length → (ML.cf P k).natAbs < 2 ^ n) : Sz n P := fun x hx => by
  obtain ⟨k, hk, rfl⟩ := List.getElem_of_mem hx
  rw [← cf_get hk]; exact h k hk
theorem Sz.mono {n m : Nat} {P : List Int} (h : Sz n P) (hm : n ≤ m) : Sz m P := fun x hx => Nat.lt_of_lt_of_le (h x hx) (Nat.pow_le_pow_right (by decide) hm)
theorem Sz.trim {n : Nat} {P : List Int} (h : Sz n P) : Sz n (trimL P) := Sz.of fun k _ => by rw [cf_trimL]; exact h.cf k
theorem Sz.take {n : Nat} {P : List Int} (h : Sz n P) (k : Nat) : Sz n (P.take k) := fun x hx => h x (List.mem_of_mem_take hx)
theorem Sz.drop {n : Nat} {P : List Int} (h : Sz n P) (k : Nat) : Sz n (P.drop k) := fun x hx => h x (List.mem_of_mem_drop hx)
theorem Sz.append {n : Nat} {P Q : List Int} (h : Sz n P) (h' : Sz n Q) : Sz n (P ++ Q) := fun x hx => (List.mem_append.mp hx).elim (h x) (h' x)
theorem Sz.nil (n : Nat) : Sz n [] := fun x hx => by cases hx
theorem Sz.cons {n : Nat} {x : Int} {P : List Int} (hx : x.natAbs < 2 ^ n) (h : Sz n P) : Sz n (x :: P) := fun y hy => (List.mem_cons.mp hy).elim (fun e => by rw [e]; exact hx) (h y)
theorem Sz.rep0 (n k : Nat) : Sz n (List.replicate k 0) := fun x hx => by
  rw [List.mem_replicate] at hx
  rw [hx.2]; exact Nat.two_pow_pos n
theorem Sz.reverse {n : Nat} {P : List Int} (h : Sz n P) : Sz n P.reverse := fun x hx => h x (List.mem_reverse.mp hx)
theorem cf_map {f : Int → Int} (h0 : f 0 = 0) (P : List Int) (k : Nat) : cf (P.map f) k = f (cf P k) := by
  unfold cf
  rw [List.getD_eq_getElem?_getD, List.getD_eq_getElem?_getD, List.getElem?_map]
  cases P[k]? with
  | none => exact h0.symm
  | some x => rfl
theorem cf_range {n : Nat} {f : Nat → Int} {k : Nat} (h : k < n) : cf ((List.range n).map f) k = f k := by
  rw [cf_get (by simpa using h)]; simp
theorem cf_range_beyond {n : Nat} {f : Nat → Int} {k : Nat} (h : n ≤ k) : cf ((List.range n).map f) k = 0 := cf_beyond (by simpa using h)
theorem cf_set {P : List Int} {i k : Nat} {x : Int} (h : i < P.length) : cf (P.set i x) k = if k = i then x else cf P k := by
  unfold cf
  rw [List.getD_eq_getElem?_getD, List.getElem?_set, List.getD_eq_getElem?_getD]
  by_cases e : i = k
  · subst e; simp [h]
  · rw [if_neg e, if_neg (fun z => e z.symm)]
theorem cf_append_left {P Q : List Int} {k : Nat} (h : k < P.length) : cf (P ++ Q) k = cf P k := by
  unfold cf
  rw [List.getD_eq_getElem?_getD, List.getElem?_append_left h, List.getD_eq_getElem?_getD]
theorem cf_append_right {P Q : List Int} {k : Nat} (h : P.length ≤ k) : cf (P ++ Q) k = cf Q (k - P.length) := by
  unfold cf
  rw [List.getD_eq_getElem?_getD, List.getElem?_append_right h, List.getD_eq_getElem?_getD]
theorem cf_rep0 (n k : Nat) : cf (List.replicate n 0) k = 0 := by
  unfold cf
  rw [List.getD_eq_getElem?_getD, List.getElem?_replicate]
  split <;> rfl
theorem cf_drop (P : List Int) (n k : Nat) : cf (P.drop n) k = cf P (n + k) := by
  unfold cf
  rw [List.getD_eq_getElem?_getD, List.getElem?_drop, List.getD_eq_getElem?_getD]
theorem cf_take {P : List Int} {n k : Nat} (h : k < n) : cf (P.take n) k = cf P k := by
  unfold cf
  rw [List.getD_eq_getElem?_getD, List.getD_eq_getElem?_getD, List.getElem?_take_of_lt h]

/-! ### sums and products -/
def addL (P Q : List Int) : List Int := trimL ((List.range (max P.length Q.length)).map fun k => cf P k + cf Q k)
def subL (P Q : List Int) : List Int := trimL ((List.range (max P.length Q.length)).map fun k => cf P k - cf Q k)
theorem cf_addL (P Q : List Int) (k : Nat) : cf (addL P Q) k = cf P k + cf Q k := by
  unfold addL
  rw [cf_trimL]
  by_cases h : k < max P.length Q.length
  · rw [cf_range h]
  · rw [cf_range_beyond (by omega), cf_beyond (P := P) (by omega), cf_beyond (P := Q) (by omega)]; rfl
theorem cf_subL (P Q : List Int) (k : Nat) : cf (subL P Q) k = cf P k - cf Q k := by
  unfold subL
  rw [cf_trimL]
  by_cases h : k < max P.length Q.length
  · rw [cf_range h]
  · rw [cf_range_beyond (by omega), cf_beyond (P := P) (by omega), cf_beyond (P := Q) (by omega)]; rfl
theorem trim_addL (P Q : List Int) : Trim (addL P Q) := trim_trimL _
theorem trim_subL (P Q : List Int) : Trim (subL P Q) := trim_trimL _
/-- the sum of f over 0 .. n - 1 -/
def sm : Nat → (Nat → Int) → Int
  | 0, _ => 0
  | n + 1, f => sm n f + f n
theorem sm_succ (n : Nat) (f : Nat → Int) : sm (n + 1) f = sm n f + f n := rfl
theorem sm_congr {n : Nat} {f g : Nat → Int} (h : ∀ i, i < n → f i = g i) : sm n f = sm n g := by
  induction n with
  | zero => rfl
  | succ n ih => unfold sm; rw [ih fun i hi => h i (by omega), h n (by omega)]
theorem sm_zero {n : Nat} {f : Nat → Int} (h : ∀ i, i < n → f i = 0) : sm n f = 0 := by
  induction n with
  | zero => rfl
  | succ n ih => unfold sm; rw [ih fun i hi => h i (by omega), h n (by omega)]; rfl
theorem sm_add (n : Nat) (f g : Nat → Int) : sm n (fun i => f i + g i) = sm n f + sm n g := by
  induction n with
  | zero => rfl
  | succ n ih => simp only [sm_succ]; rw [ih]; omega
theorem sm_sub (n : Nat) (f g : Nat → Int) : sm n (fun i => f i - g i) = sm n f - sm n g := by
  induction n with
  | zero => rfl
  | succ n ih => simp only [sm_succ]; rw [ih]; omega
theorem sm_mul (n : Nat) (c : Int) (f : Nat → Int) : sm n (fun i => c * f i) = c * sm n f := by
  induction n with
  | zero => simp [sm]
  | succ n ih => unfold sm; rw [ih, Int.mul_add]
theorem sm_mul_r (n : Nat) (c : Int) (f : Nat → Int) : sm n (fun i => f i * c) = sm n f * c := by
  rw [Int.mul_comm, ← sm_mul]; exact sm_congr fun i _ => Int.mul_comm _ _
theorem sm_neg (n : Nat) (f : Nat → Int) : sm n (fun i => - f i) = - sm n f := by
  induction n with
  | zero => rfl
  | succ n ih => simp only [sm_succ]; rw [ih]; omega
theorem sm_ext {n m : Nat} {f : Nat → Int} (h : n ≤ m) (h0 : ∀ i, n ≤ i → i < m → f i = 0) : sm m f = sm n f := by
  induction m with
  | zero => have : n = 0 := by omega
            subst this; rfl
  | succ m ih =>
    by_cases e : n = m + 1
    · subst e; rfl
    · rw [sm_succ, ih (by omega) fun i h1 h2 => h0 i h1 (by omega), h0 m (by omega) (by omega)]
      omega
theorem sm_single {n : Nat} {f : Nat → Int} {j : Nat} (hj : j < n) (h : ∀ i, i < n → i ≠ j → f i = 0) : sm n f = f j := by
  induction n with
  | zero => omega
  | succ n ih =>
    unfold sm
    by_cases e : j = n
    · subst e
      rw [sm_zero fun i hi => h i (by omega) (by omega)]; omega
    · rw [ih (by omega) fun i hi hn => h i (by omega) hn, h n (by omega) (fun z => e z.symm)]; omega
theorem sm_shift (n : Nat) (f : Nat → Int) : sm (n + 1) f = f 0 + sm n (fun i => f (i + 1)) := by
  induction n with
  | zero => simp [sm]
  | succ n ih =>
    rw [sm, ih]
    show f 0 + sm n (fun i => f (i + 1)) + f (n + 1) = f 0 + (sm n (fun i => f (i + 1)) + f (n + 1))
    omega
theorem sm_rev (n : Nat) (f : Nat → Int) : sm n (fun i => f (n - 1 - i)) = sm n f := by
  induction n generalizing f with
  | zero => rfl
  | succ n ih =>
    rw [sm_shift, sm]
    have e : sm n (fun i => f (n + 1 - 1 - (i + 1))) = sm n f := by
      rw [← ih f]
      exact sm_congr fun i hi => by congr 1; omega
    rw [e]
    show f (n - 0) + sm n f = sm n f + f n
    rw [Nat.sub_zero]; omega
theorem sm_swap (n m : Nat) (f : Nat → Nat → Int) : sm n (fun i => sm m (fun j => f i j)) = sm m (fun j => sm n (fun i => f i j)) := by
  induction n with
  | zero => rw [sm]; exact (sm_zero fun _ _ => rfl).symm
  | succ n ih =>
    rw [sm, ih, ← sm_add]
    exact sm_congr fun j _ => rfl
/-- the coefficient of a product at a place -/
def cv (P Q : List Int) (k : Nat) : Int := sm (k + 1) fun i => cf P i * cf Q (k - i)
def mulL (P Q : List Int) : List Int := trimL ((List.range (P.length + Q.length)).map (cv P Q))
theorem cv_beyond {P Q : List Int} {k : Nat} (h : P.length + Q.length ≤ k + 1) : cv P Q k = 0 := sm_zero fun i hi => by
  by_cases h1 : i < P.length
  · rw [cf_beyond (P := Q) (by omega), Int.mul_zero]
  · rw [cf_beyond (P := P) (by omega), Int.zero_mul]
theorem cf_mulL (P Q : List Int) (k : Nat) : cf (mulL P Q) k = cv P Q k := by
  unfold mulL
  rw [cf_trimL]
  by_cases h : k < P.length + Q.length
  · rw [cf_range h]
  · rw [cf_range_beyond (by omega), cv_beyond (by omega)]
theorem trim_mulL (P Q : List Int) : Trim (mulL P Q) := trim_trimL _
/-- the product as it stands behind k turns of the outer loop and i of the inner one -/
def pcv (P Q : List Int) (k j : Nat) : Int := sm k fun a => if a ≤ j then cf P a * cf Q (j - a) else 0
def pcw (P Q : List Int) (k i j : Nat) : Int := pcv P Q k j + if k ≤ j ∧ j - k < i then cf P k * cf Q (j - k) else 0
theorem pcw_zero (P Q : List Int) (k j : Nat) : pcw P Q k 0 j = pcv P Q k j := by
  unfold pcw
  rw [if_neg (by omega)]; omega
theorem pcw_full (P Q : List Int) (k j : Nat) : pcw P Q k Q.length j = pcv P Q (k + 1) j := by
  unfold pcw
  show _ = pcv P Q k j + (if k ≤ j then cf P k * cf Q (j - k) else 0)
  by_cases h : k ≤ j
  · rw [if_pos h]
    by_cases h2 : j - k < Q.length
    · rw [if_pos ⟨h, h2⟩]
    · rw [if_neg (by omega), cf_beyond (P := Q) (by omega), Int.mul_zero]
  · rw [if_neg h, if_neg (by omega)]
theorem pcw_step (P Q : List Int) (k i j : Nat) : pcw P Q k (i + 1) j = if j = k + i then pcw P Q k i j + cf P k * cf Q i else pcw P Q k i j := by
  unfold pcw
  by_cases h : j = k + i
  · subst h
    rw [if_pos rfl, if_pos (by omega), if_neg (by omega), Nat.add_sub_cancel_left]; omega
  · rw [if_neg h]
    by_cases h2 : k ≤ j ∧ j - k < i
    · rw [if_pos h2, if_pos (by omega)]
    · rw [if_neg h2, if_neg (by omega)]
theorem pcv_full (P Q : List Int) (j : Nat) : pcv P Q P.length j = cv P Q j := by
  unfold pcv cv
  by_cases h : P.length ≤ j + 1
  · rw [sm_ext (f := fun i => cf P i * cf Q (j - i)) h fun i h1 h2 => by rw [cf_beyond (P := P) h1, Int.zero_mul]]
    exact sm_congr fun i hi => if_pos (by omega)
  · rw [sm_ext (n := j + 1) (by omega) fun i h1 h2 => if_neg (by omega)]
    exact sm_congr fun i hi => if_pos (by omega)
theorem mulL_of {P Q R : List Int} (hl : R.length = P.length + Q.length) (h : ∀ j, cf R j = pcv P Q P.length j) : trimL R = mulL P Q := by
  refine trim_ext (trim_trimL _) (trim_mulL P Q) fun j => ?_
  rw [cf_trimL, h, pcv_full, cf_mulL]
def linL (P Q : List Int) (f : Int) : List Int := trimL ((List.range (max P.length Q.length)).map fun k => cf P k + f * cf Q k)
theorem linL_one (P Q : List Int) : linL P Q 1 = addL P Q := by
  unfold linL addL
  congr 1
  apply List.map_congr_left
  intro k _
  rw [Int.one_mul]
theorem linL_neg (P Q : List Int) : linL P Q (-1) = subL P Q := by
  unfold linL subL
  congr 1
  apply List.map_congr_left
  intro k _
  omega
theorem linL_of {P Q R : List Int} {f : Int} (hl : R.length = max P.length Q.length) (h : ∀ j, j < max P.length Q.length → cf R j = cf P j + f * cf Q j) : trimL R = linL P Q f := by
  unfold linL
  congr 1
  refine ext (by simpa using hl) fun k hk => ?_
  rw [h k (by omega), cf_range (by omega)]
/-! ### slope, turned, flipped, lifted -/
def slopeL (P : List Int) : List Int := (List.range (P.length - 1)).map fun (k : Nat) => ((k : Int) + 1) * cf P (k + 1)
def turnL (P : List Int) : List Int := (List.range P.length).map fun k => if k % 2 = 1 then - cf P k else cf P k
def flipL (P : List Int) : List Int := trimL P.reverse
/-- each coefficient at so many times its place -/
def liftL (P : List Int) (m : Nat) : List Int := (List.range (if P.length = 0 then 0 else m * (P.length - 1) + 1)).map fun j => if j % m = 0 then cf P (j / m) else 0
theorem cf_slopeL (P : List Int) (k : Nat) : cf (slopeL P) k = ((k : Int) + 1) * cf P (k + 1) := by
  unfold slopeL
  by_cases h : k < P.length - 1
  · rw [cf_range h]
  · rw [cf_range_beyond (by omega), cf_beyond (P := P) (show P.length ≤ k + 1 by omega), Int.mul_zero]
theorem cf_turnL (P : List Int) (k : Nat) : cf (turnL P) k = if k % 2 = 1 then - cf P k else cf P k := by
  unfold turnL
  by_cases h : k < P.length
  · rw [cf_range h]
  · rw [cf_range_beyond (by omega), cf_beyond (P := P) (by omega)]; split <;> rfl
theorem turnL_len (P : List Int) : (turnL P).length = P.length := by unfold turnL; simp
theorem turnL_turnL (P : List Int) : turnL (turnL P) = P := by
  refine ext (by rw [turnL_len, turnL_len]) fun k _ => ?_
  rw [cf_turnL, cf_turnL]
  by_cases h : k % 2 = 1
  · rw [if_pos h, if_pos h]; omega
  · rw [if_neg h, if_neg h]
theorem cf_reverse {P : List Int} {k : Nat} (h : k < P.length) : cf P.reverse k = cf P (P.length - 1 - k) := by
  unfold cf
  rw [List.getD_eq_getElem?_getD, List.getElem?_reverse h, List.getD_eq_getElem?_getD]
theorem liftL_len (P : List Int) (m : Nat) : (liftL P m).length = if P.length = 0 then 0 else m * (P.length - 1) + 1 := by unfold liftL; simp
theorem div_bound {j m n : Nat} (hm : 0 < m) (h : j < m * n + 1) : j / m ≤ n := by
  rw [← Nat.lt_add_one_iff, Nat.div_lt_iff_lt_mul hm, Nat.add_mul, Nat.mul_comm n m]; omega
theorem liftL_step {P R : List Int} {m i : Nat} (hm : 0 < m) (hi : i < P.length) (hR : R = liftL (P.take i) m) : (if i = 0 then R else R ++ List.replicate (m - 1) 0) ++ [cf P i] = liftL (P.take (i + 1)) m := by
  have lt1 : (P.take i).length = i := by rw [List.length_take]; omega
  have lt2 : (P.take (i + 1)).length = i + 1 := by rw [List.length_take]; omega
  have lR : R.length = if i = 0 then 0 else m * (i - 1) + 1 := by rw [hR, liftL_len, lt1]
  have lL : (if i = 0 then R else R ++ List.replicate (m - 1) 0).length = m * i := by
    by_cases h : i = 0
    · subst h; rw [if_pos rfl, lR, if_pos rfl]; rfl
    · rw [if_neg h, List.length_append, List.length_replicate, lR, if_neg h]
      have : m * i = m * (i - 1) + m := by rw [← Nat.mul_succ]; congr 1; omega
      omega
  refine ext ?_ fun k hk => ?_
  · rw [List.length_append, lL, liftL_len, lt2, if_neg (by omega), Nat.add_sub_cancel]; rfl
  · rw [List.length_append, lL] at hk
    have hk' : k < m * i + 1 := hk
    have hr : cf (liftL (P.take (i + 1)) m) k = if k % m = 0 then cf (P.take (i + 1)) (k / m) else 0 := by
      unfold liftL
      rw [lt2, if_neg (by omega), Nat.add_sub_cancel, cf_range hk']
    rw [hr]
    by_cases hlast : k = m * i
    · rw [cf_append_right (by omega), lL, hlast, Nat.sub_self, Nat.mul_mod_right, if_pos rfl, Nat.mul_div_cancel_left _ hm, cf_take (by omega)]; rfl
    · rw [cf_append_left (by omega)]
      have i0 : i ≠ 0 := by intro e; subst e; omega
      rw [if_neg i0]
      rw [if_neg i0] at lR
      have em : m * i = m * (i - 1) + m := by rw [← Nat.mul_succ]; congr 1; omega
      by_cases hin : k < R.length
      · rw [cf_append_left hin, hR]
        unfold liftL
        rw [lt1, if_neg i0, cf_range (by omega)]
        split
        · have := div_bound hm (show k < m * (i - 1) + 1 by omega)
          rw [cf_take (by omega), cf_take (by omega)]
        · rfl
      · rw [cf_append_right (by omega), cf_rep0]
        have hd : k / m = i - 1 := by
          apply Nat.div_eq_of_lt_le
          · rw [Nat.mul_comm]; omega
          · rw [Nat.succ_mul, Nat.mul_comm]; omega
        have hne : k % m ≠ 0 := fun e => by
          have := Nat.div_add_mod k m
          rw [hd, e] at this
          omega
        rw [if_neg hne]
theorem liftL_all (P : List Int) (m : Nat) : liftL (P.take P.length) m = liftL P m := by rw [List.take_length]
theorem liftL_nil (P : List Int) (m : Nat) : liftL (P.take 0) m = [] := by simp [liftL]
theorem cf_liftL (P : List Int) {m : Nat} (hm : 0 < m) (j : Nat) : cf (liftL P m) j = if j % m = 0 then cf P (j / m) else 0 := by
  unfold liftL
  by_cases h : j < (if P.length = 0 then 0 else m * (P.length - 1) + 1)
  · rw [cf_range h]
  · rw [cf_range_beyond (by omega)]
    split
    · next e =>
      refine (cf_beyond ?_).symm
      by_cases h0 : P.length = 0
      · rw [h0]; exact Nat.zero_le _
      · rw [if_neg h0] at h
        have := Nat.div_add_mod j m
        rw [e] at this
        apply Nat.le_of_not_lt
        intro hlt
        have h2 : m * (j / m) ≤ m * (P.length - 1) := Nat.mul_le_mul_left m (by omega)
        omega
    · rfl
theorem trim_liftL {P : List Int} {m : Nat} (hm : 0 < m) (h : Trim P) : Trim (liftL P m) := by
  by_cases h0 : P.length = 0
  · left; unfold liftL; rw [if_pos h0]; rfl
  · right
    rw [liftL_len, if_neg h0, Nat.add_sub_cancel, cf_liftL P hm, Nat.mul_mod_right, if_pos rfl, Nat.mul_div_cancel_left _ hm]
    rcases h with h | h
    · rw [h] at h0; exact absurd rfl h0
    · exact h
/-- the product with its noughts -/
def mulU (P Q : List Int) : List Int := if P = [] ∨ Q = [] then [] else (List.range (P.length + Q.length - 1)).map (cv P Q)
theorem cf_mulU (P Q : List Int) (k : Nat) : cf (mulU P Q) k = cv P Q k := by
  unfold mulU
  split
  · next h =>
    rw [cf_nil]
    refine (cv_beyond' h k).symm
  · by_cases h : k < P.length + Q.length - 1
    · rw [cf_range h]
    · rw [cf_range_beyond (by omega), cv_beyond (by omega)]
where
  cv_beyond' {P Q : List Int} (h : P = [] ∨ Q = []) (k : Nat) : cv P Q k = 0 := sm_zero fun i _ => by
    rcases h with h | h
    · rw [h, cf_nil, Int.zero_mul]
    · rw [h, cf_nil, Int.mul_zero]
theorem mulU_len (P Q : List Int) : (mulU P Q).length ≤ P.length + Q.length := by
  unfold mulU
  split
  · simp
  · rw [List.length_map, List.length_range]; omega
theorem addL_len (P Q : List Int) : (addL P Q).length ≤ max P.length Q.length := Nat.le_trans (trimL_len _) (by simp)
theorem sm_abs {n : Nat} {f : Nat → Int} {b : Nat} (h : ∀ i, i < n → (f i).natAbs ≤ b) : (sm n f).natAbs ≤ n * b := by
  induction n with
  | zero => simp [sm]
  | succ n ih =>
    rw [sm_succ, Nat.add_mul]
    have := ih fun i hi => h i (by omega)
    have := h n (by omega)
    omega
theorem two_pow_ge (n : Nat) : n + 1 ≤ 2 ^ n := by
  induction n with
  | zero => decide
  | succ n ih => rw [Nat.pow_succ]; omega
theorem cv_sz {P Q : List Int} {n m : Nat} (hp : Sz n P) (hq : Sz m Q) (k : Nat) : (cv P Q k).natAbs < 2 ^ (n + m + P.length + 1) := by
  have h1 : cv P Q k = pcv P Q P.length k := (pcv_full P Q k).symm
  rw [h1]
  have h2 : (pcv P Q P.length k).natAbs ≤ P.length * 2 ^ (n + m) := sm_abs fun i _ => by
    split
    · rw [Int.natAbs_mul, Nat.pow_add]
      exact Nat.mul_le_mul (Nat.le_of_lt (hp.cf _)) (Nat.le_of_lt (hq.cf _))
    · exact Nat.zero_le _
  refine Nat.lt_of_le_of_lt h2 ?_
  have h3 := two_pow_ge P.length
  have h4 : 2 ^ (n + m + P.length + 1) = 2 ^ (P.length + 1) * 2 ^ (n + m) := by rw [← Nat.pow_add]; congr 1; omega
  rw [h4]
  exact Nat.mul_lt_mul_of_pos_right (by rw [Nat.pow_succ]; omega) (Nat.two_pow_pos _)
theorem Sz.mulL {P Q : List Int} {n m : Nat} (hp : Sz n P) (hq : Sz m Q) : Sz (n + m + P.length + 1) (mulL P Q) := Sz.of fun k _ => by rw [cf_mulL]; exact cv_sz hp hq k
theorem Sz.mulU {P Q : List Int} {n m : Nat} (hp : Sz n P) (hq : Sz m Q) : Sz (n + m + P.length + 1) (mulU P Q) := Sz.of fun k _ => by rw [cf_mulU]; exact cv_sz hp hq k
theorem Sz.addL {P Q : List Int} {n : Nat} (hp : Sz n P) (hq : Sz n Q) : Sz (n + 1) (addL P Q) := Sz.of fun k _ => by
  rw [cf_addL]
  have := hp.cf k
  have := hq.cf k
  have : 2 ^ (n + 1) = 2 ^ n + 2 ^ n := by rw [Nat.pow_succ]; omega
  omega
end ML

set_option linter.all false
/-! Shrunk, plain. -/
namespace MP
open MG ML
theorem mem_cf {P : List Int} {d : Int} : (∀ x ∈ P, d ∣ x) ↔ ∀ k, d ∣ cf P k := by
  constructor
  · intro h k
    by_cases hk : k < P.length
    · rw [cf_get hk]; exact h _ (List.getElem_mem hk)
    · rw [cf_beyond (by omega)]; exact Int.dvd_zero d
  · intro h x hx
    obtain ⟨k, hk, rfl⟩ := List.getElem_of_mem hx
    rw [← cf_get hk]; exact h k
theorem gcdN_congr {P Q : List Int} (h : ∀ k, cf P k = cf Q k) : gcdN P = gcdN Q := by
  refine gcdN_eq (mem_cf.mpr fun k => ?_) fun d hd => dvd_gcdN (mem_cf.mpr fun k => ?_)
  · rw [h]; exact mem_cf.mp (fun x hx => gcdN_dvd hx) k
  · rw [← h]; exact mem_cf.mp hd k
theorem gcdN_trim (P : List Int) : gcdN (trimL P) = gcdN P := gcdN_congr (cf_trimL P)
theorem gcdN_cf (P : List Int) (k : Nat) : (gcdN P : Int) ∣ cf P k := mem_cf.mp (fun x hx => gcdN_dvd hx) k
theorem gcdL_cf (P : List Int) (k : Nat) : gcdL P ∣ cf P k := gcdN_cf P k
theorem gcdN_zero {P : List Int} (h : gcdN P = 0) (k : Nat) : cf P k = 0 := by
  have := gcdN_cf P k
  rw [h] at this
  exact Int.zero_dvd.mp this
theorem gcdL_ne {P : List Int} {k : Nat} (h : cf P k ≠ 0) : gcdL P ≠ 0 := fun e => h (gcdN_zero (by unfold gcdL at e; omega) k)
theorem gcdL_nonneg (P : List Int) : 0 ≤ gcdL P := by unfold gcdL; omega
theorem gcdL_pos {P : List Int} {k : Nat} (h : cf P k ≠ 0) : 0 < gcdL P := by
  have := gcdL_ne h; have := gcdL_nonneg P; omega
theorem gcdL_le {P : List Int} {k : Nat} (h : cf P k ≠ 0) : (gcdL P).natAbs ≤ (cf P k).natAbs := Nat.le_of_dvd (by omega) (Int.natAbs_dvd_natAbs.mpr (gcdL_cf P k))
theorem trim_last {P : List Int} (h : Trim P) (h0 : P ≠ []) : cf P (P.length - 1) ≠ 0 := h.elim (fun e => absurd e h0) id
theorem gcdL_trim_pos {P : List Int} (h : Trim P) (h0 : P ≠ []) : 0 < gcdL P := gcdL_pos (trim_last h h0)
theorem gcdL_log {n : Nat} {P : List Int} (hn : 0 < n) (hs : Sz n P) (h : Trim P) (h0 : P ≠ []) : (gcdL P).natAbs < 2 ^ n := Nat.lt_of_le_of_lt (gcdL_le (trim_last h h0)) (hs.cf _)
theorem gcdN_mul (c : Int) (P : List Int) : gcdN (P.map (c * ·)) = c.natAbs * gcdN P := by
  induction P with
  | nil => simp [gcdN_nil]
  | cons x r ih => rw [List.map_cons, gcdN_cons, gcdN_cons, ih, Int.natAbs_mul, Nat.gcd_mul_left]
/-- divided by the shared divisor -/
def shrunkL (P : List Int) : List Int := P.map fun x => x.fdiv (gcdL P)
def negL (P : List Int) : List Int := P.map fun x => -x
def plainL (P : List Int) : List Int := if shrunkL P ≠ [] ∧ cf (shrunkL P) ((shrunkL P).length - 1) < 0 then negL (shrunkL P) else shrunkL P
theorem shrunkL_len (P : List Int) : (shrunkL P).length = P.length := by unfold shrunkL; simp
theorem fdiv_zero (c : Int) : (0 : Int).fdiv c = 0 := by simp
theorem cf_shrunkL (P : List Int) (k : Nat) : cf (shrunkL P) k = (cf P k).fdiv (gcdL P) := cf_map (f := fun x => x.fdiv (gcdL P)) (fdiv_zero _) P k
theorem fdiv_exact {c x : Int} (h : c ∣ x) : c * x.fdiv c = x := by
  rw [Int.fdiv_eq_ediv_of_dvd h, Int.mul_ediv_cancel' h]
theorem mul_shrunkL (P : List Int) (k : Nat) : gcdL P * cf (shrunkL P) k = cf P k := by
  rw [cf_shrunkL]; exact fdiv_exact (gcdL_cf P k)
theorem cf_negL (P : List Int) (k : Nat) : cf (negL P) k = - cf P k := cf_map (f := fun x => -x) (by omega) P k
theorem negL_len (P : List Int) : (negL P).length = P.length := by unfold negL; simp
theorem trim_shrunkL {P : List Int} (h : Trim P) : Trim (shrunkL P) := by
  rcases h with h | h
  · left; rw [h]; rfl
  · right
    rw [shrunkL_len]
    intro e
    apply h
    rw [← mul_shrunkL, e, Int.mul_zero]
theorem trim_negL {P : List Int} (h : Trim P) : Trim (negL P) := by
  rcases h with h | h
  · left; rw [h]; rfl
  · right
    rw [negL_len, cf_negL]; omega
theorem trim_plainL {P : List Int} (h : Trim P) : Trim (plainL P) := by
  unfold plainL
  split
  · exact trim_negL (trim_shrunkL h)
  · exact trim_shrunkL h
theorem plainL_len (P : List Int) : (plainL P).length = P.length := by
  unfold plainL
  split
  · rw [negL_len, shrunkL_len]
  · rw [shrunkL_len]
theorem shrunkL_nil : shrunkL [] = [] := rfl
theorem plainL_nil : plainL [] = [] := by simp [plainL, shrunkL_nil]
/-- what is c times a list whose shared divisor is 1, c above 0 -/
theorem shrunkL_of {P Q : List Int} {c : Int} (hc : 0 < c) (hl : P.length = Q.length) (h : ∀ k, cf P k = c * cf Q k) (h1 : gcdN Q = 1) : shrunkL P = Q := by
  have hP : P = Q.map (c * ·) := ext (by simpa using hl) fun k _ => by rw [h, cf_map (by omega)]
  have hg : gcdL P = c := by
    unfold gcdL
    rw [hP, gcdN_mul, h1, Nat.mul_one]; omega
  refine ext (by rw [shrunkL_len, hl]) fun k _ => ?_
  rw [cf_shrunkL, hg, h, Int.mul_fdiv_cancel_left _ (by omega)]
theorem gcdN_shrunkL {P : List Int} (h : gcdN P ≠ 0) : gcdN (shrunkL P) = 1 := by
  have e : P = (shrunkL P).map (gcdL P * ·) := ext (by simp [shrunkL_len]) fun k _ => by rw [cf_map (by omega), mul_shrunkL]
  have h2 := gcdN_mul (gcdL P) (shrunkL P)
  rw [← e] at h2
  have h3 : (gcdL P).natAbs = gcdN P := by unfold gcdL; omega
  rw [h3] at h2
  exact Nat.eq_of_mul_eq_mul_left (Nat.pos_of_ne_zero h) (by rw [← h2, Nat.mul_one])
theorem gcdN_negL (P : List Int) : gcdN (negL P) = gcdN P := by
  have e : negL P = P.map ((-1) * ·) := by
    unfold negL; apply List.map_congr_left; intro x _; omega
  rw [e, gcdN_mul]; simp
theorem gcdN_plainL {P : List Int} (h : gcdN P ≠ 0) : gcdN (plainL P) = 1 := by
  unfold plainL
  split
  · rw [gcdN_negL, gcdN_shrunkL h]
  · exact gcdN_shrunkL h
/-- a list with 1 as its shared divisor stays -/
theorem shrunkL_one {P : List Int} (h : gcdN P = 1) : shrunkL P = P := shrunkL_of (c := 1) (by decide) rfl (fun k => by omega) h
theorem plainL_last {P : List Int} (h : Trim P) (h0 : P ≠ []) : 0 < cf (plainL P) ((plainL P).length - 1) := by
  have h1 := trim_last (trim_plainL h) (fun e => h0 (by
    have := plainL_len P
    rw [e] at this
    exact List.eq_nil_of_length_eq_zero this.symm))
  have hl := plainL_len P
  unfold plainL at h1 ⊢
  split
  · next hh =>
    rw [cf_negL, negL_len]
    omega
  · next hh =>
    rw [if_neg hh] at h1
    have hs : shrunkL P ≠ [] := fun e => h0 (by
      have := shrunkL_len P
      rw [e] at this
      exact List.eq_nil_of_length_eq_zero this.symm)
    have : ¬ cf (shrunkL P) ((shrunkL P).length - 1) < 0 := fun z => hh ⟨hs, z⟩
    omega
theorem plainL_self {P : List Int} (h1 : gcdN P = 1) (h : P ≠ [] → 0 ≤ cf P (P.length - 1)) : plainL P = P := by
  unfold plainL
  rw [shrunkL_one h1, if_neg]
  rintro ⟨h2, h3⟩
  have := h h2
  omega
theorem plainL_of {P Q : List Int} {c : Int} (hc : c ≠ 0) (hl : P.length = Q.length) (h : ∀ k, cf P k = c * cf Q k) (h1 : gcdN Q = 1) (hq : Q ≠ [] → 0 < cf Q (Q.length - 1)) : plainL P = Q := by
  by_cases hp : 0 < c
  · have e := shrunkL_of hp hl h h1
    unfold plainL
    rw [e, if_neg]
    rintro ⟨h2, h3⟩
    have := hq h2
    omega
  · have e : shrunkL P = negL Q := shrunkL_of (c := -c) (by omega) (by rw [negL_len, hl]) (fun k => by rw [h, cf_negL, Int.neg_mul_neg]) (by rw [gcdN_negL, h1])
    unfold plainL
    rw [e]
    by_cases hn : Q = []
    · subst hn; simp [negL]
    · have := hq hn
      rw [if_pos]
      · unfold negL; rw [List.map_map]
        have : ((fun x : Int => -x) ∘ fun x => -x) = id := by funext x; simp
        rw [this, List.map_id]
      · refine ⟨fun e2 => hn ?_, by rw [negL_len, cf_negL]; omega⟩
        have := negL_len Q
        rw [e2] at this
        exact List.eq_nil_of_length_eq_zero this.symm
theorem Sz.shrunkL {n : Nat} {P : List Int} (h : Sz n P) : Sz n (shrunkL P) := Sz.of fun k _ => by
  have h1 := mul_shrunkL P k
  have h2 := h.cf k
  by_cases h0 : gcdL P = 0
  · rw [cf_shrunkL, h0, Int.fdiv_zero]; exact Nat.two_pow_pos n
  · rw [← h1, Int.natAbs_mul] at h2
    exact Nat.lt_of_le_of_lt (Nat.le_mul_of_pos_left _ (by omega)) h2
theorem Sz.negL {n : Nat} {P : List Int} (h : Sz n P) : Sz n (negL P) := Sz.of fun k _ => by rw [cf_negL, Int.natAbs_neg]; exact h.cf k
theorem Sz.plainL {n : Nat} {P : List Int} (h : Sz n P) : Sz n (plainL P) := by
  unfold MP.plainL
  split
  · exact Sz.negL (Sz.shrunkL h)
  · exact Sz.shrunkL h
end MP

set_option linter.all false
/-! A polynomial at a fraction, by places from the top (top_at), and changes of sign. -/
namespace MH
open ML
/-- the total behind the coefficients (that of the highest power first), the scale -/
def hs (t b : Int) : List Int → Int × Int
  | [] => (0, 1)
  | x :: r => ((hs t b r).1 * t + x * (hs t b r).2, (hs t b r).2 * b)
/-- P at t / b, times b to the power of P's degree; the list's head is the constant, so hs is read from behind -/
def topL (P : List Int) (t b : Int) : Int := (hs t b P).1
theorem hs_cons (t b x : Int) (r : List Int) : hs t b (x :: r) = ((hs t b r).1 * t + x * (hs t b r).2, (hs t b r).2 * b) := rfl
theorem hs_drop {t b : Int} {P : List Int} {i : Nat} {x : Int} (h : P[i]? = some x) : hs t b (P.drop i) = ((hs t b (P.drop (i + 1))).1 * t + x * (hs t b (P.drop (i + 1))).2, (hs t b (P.drop (i + 1))).2 * b) := by
  obtain ⟨hl, e⟩ := List.getElem?_eq_some_iff.mp h
  rw [List.drop_eq_getElem_cons hl, e, hs_cons]
theorem hs_sz {t b : Int} {n m : Nat} (ht : t.natAbs < 2 ^ m) (hb : b.natAbs < 2 ^ m) : ∀ P : List Int, Sz n P → ((hs t b P).1).natAbs < 2 ^ (n + (m + 1) * P.length + 1) ∧ ((hs t b P).2).natAbs < 2 ^ (m * P.length + 1)
  | [], _ => ⟨Nat.two_pow_pos _, by show (1 : Int).natAbs < 2 ^ (m * 0 + 1); simp⟩
  | x :: r, h => by
    obtain ⟨h1, h2⟩ := hs_sz ht hb r (fun y hy => h y (List.mem_cons_of_mem _ hy))
    have hx := h x (List.mem_cons_self ..)
    have a1 : ((hs t b r).1 * t).natAbs < 2 ^ (n + (m + 1) * r.length + 1 + m) := L2.wide_lt h1 ht
    have a2 : (x * (hs t b r).2).natAbs < 2 ^ (n + (m * r.length + 1)) := L2.wide_lt hx h2
    have a3 : ((hs t b r).2 * b).natAbs < 2 ^ (m * r.length + 1 + m) := L2.wide_lt h2 hb
    have e1 : (m + 1) * (r.length + 1) = m * r.length + r.length + m + 1 := by
      rw [Nat.mul_add, Nat.add_mul]; omega
    have e1' : (m + 1) * r.length = m * r.length + r.length := by rw [Nat.add_mul, Nat.one_mul]
    have e2 : m * (r.length + 1) = m * r.length + m := by rw [Nat.mul_add]; omega
    rw [hs_cons, List.length_cons, e1, e2]
    refine ⟨?_, Nat.lt_of_lt_of_le a3 (Nat.pow_le_pow_right (by decide) (by omega))⟩
    have b1 : ((hs t b r).1 * t).natAbs < 2 ^ (n + (m * r.length + r.length + m + 1)) := Nat.lt_of_lt_of_le a1 (Nat.pow_le_pow_right (by decide) (by omega))
    have b2 : (x * (hs t b r).2).natAbs < 2 ^ (n + (m * r.length + r.length + m + 1)) := Nat.lt_of_lt_of_le a2 (Nat.pow_le_pow_right (by decide) (by omega))
    rw [Nat.pow_succ]
    show ((hs t b r).1 * t + x * (hs t b r).2).natAbs < _
    generalize 2 ^ (n + (m * r.length + r.length + m + 1)) = z at b1 b2 ⊢
    omega
theorem hs_scale (p q g : Int) : ∀ P : List Int, (hs (p * g) (q * g) P).1 * g = (hs p q P).1 * g ^ P.length ∧ (hs (p * g) (q * g) P).2 = (hs p q P).2 * g ^ P.length
  | [] => ⟨by show (0 : Int) * g = 0 * g ^ 0; rw [Int.zero_mul, Int.zero_mul], by show (1 : Int) = 1 * g ^ 0; rw [Int.pow_zero]; rfl⟩
  | x :: r => by
    obtain ⟨h1, h2⟩ := hs_scale p q g r
    rw [hs_cons, hs_cons, List.length_cons, Int.pow_succ, h2]
    constructor
    · show ((hs (p * g) (q * g) r).1 * (p * g) + x * ((hs p q r).2 * g ^ r.length)) * g = ((hs p q r).1 * p + x * (hs p q r).2) * (g ^ r.length * g)
      generalize (hs (p * g) (q * g) r).1 = A at *
      generalize (hs p q r).1 = B at *
      generalize g ^ r.length = G at *
      grind
    · show (hs p q r).2 * g ^ r.length * (q * g) = (hs p q r).2 * q * (g ^ r.length * g)
      generalize g ^ r.length = G
      grind
theorem pow_pos {g : Int} (h : 0 < g) : ∀ n : Nat, 0 < g ^ n
  | 0 => by rw [Int.pow_zero]; decide
  | n + 1 => by rw [Int.pow_succ]; exact Int.mul_pos (pow_pos h n) h
/-- the sign at a made fraction is that at what it is made of -/
theorem sign_made (P : List Int) {t b : Int} (hb : 0 < b) : RB.ordI (topL P (RB.rT t b) (RB.rB t b)) 0 = RB.ordI (topL P t b) 0 := by
  have hg := RB.rG_gt (t := t) hb
  have e1 := RB.rT_mul (t := t) (b := b) (by omega)
  have e2 := RB.rB_mul (t := t) (b := b) (by omega)
  have h := (hs_scale (RB.rT t b) (RB.rB t b) (RB.rG t b) P).1
  rw [e1, e2] at h
  have a1 := RB.ordI_scale hg (topL P t b) 0
  have a2 := RB.ordI_scale (pow_pos hg P.length) (topL P (RB.rT t b) (RB.rB t b)) 0
  rw [Int.zero_mul] at a1 a2
  rw [← a1, ← a2]
  unfold topL
  rw [h]
/-- one more sign: how many changes, the last sign -/
def stp (s : Int × Int) (x : Int) : Int × Int := if x ≠ 0 then (if s.2 = 0 - x then s.1 + 1 else s.1, x) else s
def chg (Ps : List (List Int)) (t b : Int) : Int × Int := Ps.foldl (fun s P => stp s (RB.ordI (topL P t b) 0)) (0, 0)
theorem chg_take {Ps : List (List Int)} {t b : Int} {i : Nat} {P : List Int} (h : Ps[i]? = some P) : chg (Ps.take (i + 1)) t b = stp (chg (Ps.take i) t b) (RB.ordI (topL P t b) 0) := by
  unfold chg
  rw [List.take_add_one, h]
  simp [List.foldl_append]
theorem chg_made (Ps : List (List Int)) {t b : Int} (hb : 0 < b) : chg Ps (RB.rT t b) (RB.rB t b) = chg Ps t b := by
  unfold chg
  congr 1
  funext s P
  rw [sign_made P hb]
end MH

namespace RB
structure HSz (n m : Nat) (P : List Int) (t b : Int) : Prop where
  sP : ML.Sz n P
  st : t.natAbs < 2 ^ m
  sb : b.natAbs < 2 ^ m
  n0 : 0 < n
  m0 : 0 < m
  le : n + (m + 1) * (P.length + 1) ≤ 900000
theorem HSz.steps {n m : Nat} {P : List Int} {t b : Int} (s : HSz n m P t b) (k : Nat) : (MH.hs t b (P.drop k)).1.natAbs < 2 ^ (n + (m + 1) * P.length + 1) ∧ (MH.hs t b (P.drop k)).2.natAbs < 2 ^ (m * P.length + 1) := by
  have h := MH.hs_sz s.st s.sb (P.drop k) (s.sP.drop k)
  have hl : (P.drop k).length ≤ P.length := by rw [List.length_drop]; omega
  have h1 := Nat.mul_le_mul_left (m + 1) hl
  have h2 := Nat.mul_le_mul_left m hl
  exact ⟨Nat.lt_of_lt_of_le h.1 (Nat.pow_le_pow_right (by decide) (by omega)), Nat.lt_of_lt_of_le h.2 (Nat.pow_le_pow_right (by decide) (by omega))⟩
end RB

set_option linter.all false
/-! Division with a factor. -/
namespace MD
open ML
/-- the last coefficient -/
def lc (Q : List Int) : Int := cf Q (Q.length - 1)
def subShift (rs Q : List Int) (k : Nat) (many : Int) : List Int := (List.range rs.length).map fun j => if k ≤ j ∧ j - k < Q.length then cf rs j - many * cf Q (j - k) else cf rs j
theorem subShift_len (rs Q : List Int) (k : Nat) (many : Int) : (subShift rs Q k many).length = rs.length := by unfold subShift; simp
theorem cf_subShift {rs Q : List Int} {k : Nat} {many : Int} (j : Nat) (h : k + Q.length ≤ rs.length) : cf (subShift rs Q k many) j = cf rs j - if k ≤ j then many * cf Q (j - k) else 0 := by
  unfold subShift
  by_cases hj : j < rs.length
  · rw [cf_range hj]
    by_cases h1 : k ≤ j
    · rw [if_pos h1]
      by_cases h2 : j - k < Q.length
      · rw [if_pos ⟨h1, h2⟩]
      · rw [if_neg (by omega), cf_beyond (P := Q) (by omega), Int.mul_zero]; omega
    · rw [if_neg (by omega), if_neg h1]; omega
  · rw [cf_range_beyond (by omega), cf_beyond (P := rs) (by omega)]
    split
    · rw [cf_beyond (P := Q) (by omega), Int.mul_zero]; rfl
    · rfl
def dloop (Q : List Int) : Nat → List Int × List Int → List Int × List Int
  | 0, s => s
  | k + 1, (qs, rs) => dloop Q k (qs.set k ((cf rs (k + (Q.length - 1))).fdiv (lc Q)), subShift rs Q k ((cf rs (k + (Q.length - 1))).fdiv (lc Q)))
def facL (P Q : List Int) : Int := if P.length < Q.length then 1 else ((lc Q).natAbs : Int) ^ (P.length - Q.length + 1)
def quoL (P Q : List Int) : List Int := if P.length < Q.length then [] else trimL (dloop Q (P.length - Q.length + 1) (List.replicate (P.length - Q.length + 1) 0, P.map (· * facL P Q))).1
def remL (P Q : List Int) : List Int := if P.length < Q.length then P else trimL (dloop Q (P.length - Q.length + 1) (List.replicate (P.length - Q.length + 1) 0, P.map (· * facL P Q))).2
theorem cv_set {qs Q : List Int} {k : Nat} {x : Int} (hk : k < qs.length) (h0 : cf qs k = 0) (j : Nat) : cv (qs.set k x) Q j = cv qs Q j + if k ≤ j then x * cf Q (j - k) else 0 := by
  unfold cv
  have e : sm (j + 1) (fun i => cf (qs.set k x) i * cf Q (j - i)) = sm (j + 1) (fun i => cf qs i * cf Q (j - i) + if i = k then x * cf Q (j - k) else 0) := sm_congr fun i _ => by
    rw [cf_set hk]
    by_cases h : i = k
    · rw [if_pos h, if_pos h, h, h0, Int.zero_mul]; omega
    · rw [if_neg h, if_neg h]; omega
  rw [e, sm_add]
  congr 1
  by_cases hj : k ≤ j
  · rw [if_pos hj, sm_single (j := k) (by omega) fun i _ hn => if_neg hn, if_pos rfl]
  · rw [if_neg hj]
    exact sm_zero fun i hi => if_neg (by omega)
structure Inv (Q : List Int) (F : Nat → Int) (N g k : Nat) (s : List Int × List Int) : Prop where
  lq : s.1.length = g
  lr : s.2.length = N
  eq : ∀ j, F j = cv s.1 Q j + cf s.2 j
  hi : ∀ j, k + (Q.length - 1) ≤ j → cf s.2 j = 0
  dv : ∀ j, (((lc Q).natAbs ^ k : Nat) : Int) ∣ cf s.2 j
  lo : ∀ i, i < k → cf s.1 i = 0
theorem many_eq {Q rs : List Int} {k : Nat} (hl : lc Q ≠ 0) (dv : ∀ j, (((lc Q).natAbs ^ (k + 1) : Nat) : Int) ∣ cf rs j) (j : Nat) : lc Q * (cf rs j).fdiv (lc Q) = cf rs j := by
  have h1 : lc Q ∣ cf rs j := by
    refine Int.dvd_trans ?_ (dv j)
    refine Int.natAbs_dvd_natAbs.mp ?_
    rw [Int.natAbs_natCast, Nat.pow_succ]
    exact Nat.dvd_mul_left _ _
  rw [Int.fdiv_eq_ediv_of_dvd h1, Int.mul_ediv_cancel' h1]
theorem Inv.step {Q : List Int} {F : Nat → Int} {N g k : Nat} {qs rs : List Int} (I : Inv Q F N g (k + 1) (qs, rs)) (hl : lc Q ≠ 0) (hQ : 0 < Q.length) (hk : k < g) (hN : k + Q.length ≤ N) :
    Inv Q F N g k (qs.set k ((cf rs (k + (Q.length - 1))).fdiv (lc Q)), subShift rs Q k ((cf rs (k + (Q.length - 1))).fdiv (lc Q))) := by
  obtain ⟨lq, lr, eq, hi, dv, lo⟩ := I
  dsimp only at lq lr eq hi dv lo
  have me := many_eq hl dv (k + (Q.length - 1))
  have dm : (((lc Q).natAbs ^ k : Nat) : Int) ∣ (cf rs (k + (Q.length - 1))).fdiv (lc Q) := by
    have h1 := dv (k + (Q.length - 1))
    rw [← me] at h1
    have h2 := Int.natAbs_dvd_natAbs.mpr h1
    rw [Int.natAbs_natCast, Int.natAbs_mul, Nat.pow_succ, Nat.mul_comm] at h2
    have h3 := Nat.dvd_of_mul_dvd_mul_left (by omega) h2
    exact Int.natAbs_dvd_natAbs.mp (by rw [Int.natAbs_natCast]; exact h3)
  generalize (cf rs (k + (Q.length - 1))).fdiv (lc Q) = many at me dm ⊢
  refine ⟨by rw [List.length_set]; exact lq, by rw [subShift_len]; exact lr, fun j => ?_, fun j hj => ?_, fun j => ?_, fun i hi' => ?_⟩
  · dsimp only
    rw [eq j, cv_set (by omega) (lo k (by omega)), cf_subShift j (by omega)]; omega
  · dsimp only
    rw [cf_subShift j (by omega), if_pos (by omega)]
    by_cases h : j = k + (Q.length - 1)
    · have e2 : j - k = Q.length - 1 := by omega
      have e3 : cf Q (Q.length - 1) = lc Q := rfl
      rw [e2, e3, h, ← me, Int.mul_comm]; omega
    · rw [hi j (by omega), cf_beyond (P := Q) (by omega), Int.mul_zero]; rfl
  · dsimp only
    rw [cf_subShift j (by omega)]
    have d1 : (((lc Q).natAbs ^ k : Nat) : Int) ∣ cf rs j := Int.dvd_trans (Int.ofNat_dvd.mpr (Nat.pow_dvd_pow _ (by omega))) (dv j)
    refine Int.dvd_sub d1 ?_
    split
    · exact Int.dvd_mul_of_dvd_left dm
    · exact Int.dvd_zero _
  · dsimp only
    rw [cf_set (by omega), if_neg (by omega)]
    exact lo i (by omega)
theorem Inv.run {Q : List Int} {F : Nat → Int} {N g : Nat} (hl : lc Q ≠ 0) (hQ : 0 < Q.length) : ∀ (k : Nat) (s : List Int × List Int), k ≤ g → (k = 0 ∨ k - 1 + Q.length ≤ N) → Inv Q F N g k s → Inv Q F N g 0 (dloop Q k s)
  | 0, s, _, _, I => I
  | k + 1, (qs, rs), hk, hN, I => Inv.run hl hQ k _ (by omega) (by omega) (I.step hl hQ (by omega) (by omega))
theorem cv_zero_left {qs Q : List Int} (h : ∀ i, cf qs i = 0) (j : Nat) : cv qs Q j = 0 := sm_zero fun i _ => by rw [h, Int.zero_mul]
theorem lc_ne {Q : List Int} (hT : Trim Q) (h0 : Q ≠ []) : lc Q ≠ 0 := hT.elim (fun e => absurd e h0) id
theorem len_pos {Q : List Int} (h0 : Q ≠ []) : 0 < Q.length := List.length_pos_iff.mpr h0
theorem dstart {P Q : List Int} (hT : Trim Q) (h0 : Q ≠ []) (hg : ¬ P.length < Q.length) : Inv Q (fun j => cf P j * facL P Q) P.length (P.length - Q.length + 1) (P.length - Q.length + 1) (List.replicate (P.length - Q.length + 1) 0, P.map (· * facL P Q)) where
  lq := by simp
  lr := by simp
  eq := fun j => by
    dsimp only
    rw [cv_zero_left (fun i => cf_rep0 _ _), cf_map (f := (· * facL P Q)) (by omega)]; omega
  hi := fun j hj => by
    have := len_pos h0
    exact cf_beyond (by simp; omega)
  dv := fun j => by
    dsimp only
    rw [cf_map (f := (· * facL P Q)) (by omega)]
    refine Int.dvd_mul_of_dvd_right ?_
    unfold facL
    rw [if_neg hg, ← Int.natCast_pow]
    exact Int.dvd_refl _
  lo := fun i _ => cf_rep0 _ _
theorem dend {P Q : List Int} (hT : Trim Q) (h0 : Q ≠ []) (hg : ¬ P.length < Q.length) : Inv Q (fun j => cf P j * facL P Q) P.length (P.length - Q.length + 1) 0 (dloop Q (P.length - Q.length + 1) (List.replicate (P.length - Q.length + 1) 0, P.map (· * facL P Q))) :=
  Inv.run (lc_ne hT h0) (len_pos h0) _ _ (Nat.le_refl _) (.inr (by omega)) (dstart hT h0 hg)
theorem cv_trim_left (P Q : List Int) (j : Nat) : cv (trimL P) Q j = cv P Q j := sm_congr fun i _ => by rw [cf_trimL]
/-- factor times P is quotient times Q, added to the rest -/
theorem div_eq {P Q : List Int} (hT : Trim Q) (h0 : Q ≠ []) (j : Nat) : facL P Q * cf P j = cv (quoL P Q) Q j + cf (remL P Q) j := by
  by_cases hg : P.length < Q.length
  · unfold facL quoL remL
    rw [if_pos hg, if_pos hg, if_pos hg, cv_zero_left (fun i => cf_nil i)]; omega
  · have I := dend hT h0 hg
    unfold quoL remL
    rw [if_neg hg, if_neg hg, cv_trim_left, cf_trimL, Int.mul_comm]
    exact I.eq j
theorem rem_len {P Q : List Int} (hT : Trim Q) (h0 : Q ≠ []) : (remL P Q).length < Q.length := by
  by_cases hg : P.length < Q.length
  · unfold remL; rw [if_pos hg]; exact hg
  · have I := dend hT h0 hg
    have hq := len_pos h0
    have hz : ∀ j, Q.length - 1 ≤ j → cf (remL P Q) j = 0 := fun j hj => by
      unfold remL
      rw [if_neg hg, cf_trimL]
      exact I.hi j (by omega)
    have ht : Trim (remL P Q) := by
      unfold remL; rw [if_neg hg]; exact trim_trimL _
    rcases ht with h | h
    · rw [h]; exact hq
    · apply Nat.lt_of_not_le
      intro hle
      exact h (hz _ (by omega))
theorem trim_rem {P Q : List Int} (h : Trim P) : Trim (remL P Q) := by
  unfold remL
  split
  · exact h
  · exact trim_trimL _
theorem trim_quo (P Q : List Int) : Trim (quoL P Q) := by
  unfold quoL
  split
  · exact .inl rfl
  · exact trim_trimL _
/-! ### sizes -/
theorem abs_sub_lt {a b : Int} {n m : Nat} (ha : a.natAbs < 2 ^ n) (hb : b.natAbs < 2 ^ m) (h : n ≤ m) : (a - b).natAbs < 2 ^ (m + 1) := by
  have h1 : (2 : Nat) ^ n ≤ 2 ^ m := Nat.pow_le_pow_right (by decide) h
  have h2 : (2 : Nat) ^ (m + 1) = 2 ^ m + 2 ^ m := by rw [Nat.pow_succ]; omega
  omega
theorem many_lt {Q rs : List Int} {k n : Nat} (hl : lc Q ≠ 0) (dv : ∀ j, (((lc Q).natAbs ^ (k + 1) : Nat) : Int) ∣ cf rs j) (hs : Sz n rs) (j : Nat) : ((cf rs j).fdiv (lc Q)).natAbs < 2 ^ n := by
  have h1 := many_eq hl dv j
  have h2 := hs.cf j
  rw [← h1, Int.natAbs_mul] at h2
  exact Nat.lt_of_le_of_lt (Nat.le_mul_of_pos_left _ (by omega)) h2
theorem Sz.sub {Q rs : List Int} {k n m : Nat} {many : Int} (hs : Sz n rs) (hq : Sz m Q) (hm : many.natAbs < 2 ^ n) : Sz (n + m + 1) (subShift rs Q k many) := fun x hx => by
  unfold subShift at hx
  obtain ⟨j, _, rfl⟩ := List.mem_map.mp hx
  have h1 := hs.cf j
  have h2 : (many * cf Q (j - k)).natAbs < 2 ^ (n + m) := by
    rw [Int.natAbs_mul, Nat.pow_add]
    exact Nat.mul_lt_mul'' hm (hq.cf _)
  split
  · exact abs_sub_lt h1 h2 (by omega)
  · exact Nat.lt_of_lt_of_le h1 (Nat.pow_le_pow_right (by decide) (by omega))
theorem Sz.setq {qs : List Int} {n k : Nat} {x : Int} (hs : Sz n qs) (hx : x.natAbs < 2 ^ n) : Sz n (qs.set k x) := fun y hy => by
  rcases List.mem_or_eq_of_mem_set hy with h | h
  · exact hs y h
  · rw [h]; exact hx
theorem dloop_sz {Q : List Int} {F : Nat → Int} {N g m : Nat} (hl : lc Q ≠ 0) (hQ : 0 < Q.length) (hq : Sz m Q) : ∀ (k : Nat) (s : List Int × List Int) (n : Nat), k ≤ g → (k = 0 ∨ k - 1 + Q.length ≤ N) → Inv Q F N g k s → Sz n s.1 → Sz n s.2 → Sz (n + k * (m + 1)) (dloop Q k s).1 ∧ Sz (n + k * (m + 1)) (dloop Q k s).2
  | 0, s, n, _, _, _, h1, h2 => ⟨h1.mono (by omega), h2.mono (by omega)⟩
  | k + 1, (qs, rs), n, hk, hN, I, h1, h2 => by
    have hm := many_lt hl I.dv h2 (k + (Q.length - 1))
    have := dloop_sz hl hQ hq k _ (n + m + 1) (by omega) (by omega) (I.step hl hQ (by omega) (by omega)) ((Sz.setq h1 hm).mono (by omega)) (Sz.sub h2 hq hm)
    have e : n + m + 1 + k * (m + 1) = n + (k + 1) * (m + 1) := by rw [Nat.add_mul]; omega
    rw [e] at this
    exact this
theorem facL_lt {P Q : List Int} {m : Nat} (hq : Sz m Q) : (facL P Q).natAbs < 2 ^ (m * (P.length - Q.length + 1) + 1) := by
  unfold facL
  split
  · exact Nat.lt_of_lt_of_le (by decide : (1 : Int).natAbs < 2 ^ 1) (Nat.pow_le_pow_right (by decide) (by omega))
  · have h := hq.cf (Q.length - 1)
    rw [← Int.natCast_pow, Int.natAbs_natCast]
    refine Nat.lt_of_le_of_lt (Nat.pow_le_pow_left (Nat.le_of_lt h) _) ?_
    rw [← Nat.pow_mul]
    exact Nat.pow_lt_pow_right (by decide) (by omega)
/-- how great the quotient and the rest can be -/
theorem div_sz {P Q : List Int} {n m : Nat} (hT : Trim Q) (h0 : Q ≠ []) (hp : Sz n P) (hq : Sz m Q) : Sz (n + (2 * m + 1) * (P.length + 1) + 1) (quoL P Q) ∧ Sz (n + (2 * m + 1) * (P.length + 1) + 1) (remL P Q) := by
  by_cases hg : P.length < Q.length
  · unfold quoL remL
    rw [if_pos hg, if_pos hg]
    exact ⟨Sz.nil _, hp.mono (by omega)⟩
  · have hs0 : Sz (n + (m * (P.length - Q.length + 1) + 1)) (P.map (· * facL P Q)) := fun x hx => by
      obtain ⟨y, hy, rfl⟩ := List.mem_map.mp hx
      rw [Int.natAbs_mul, Nat.pow_add]
      exact Nat.mul_lt_mul'' (hp y hy) (facL_lt hq)
    have h := dloop_sz (lc_ne hT h0) (len_pos h0) hq (P.length - Q.length + 1) _ _ (Nat.le_refl _) (.inr (by omega)) (dstart hT h0 hg) (Sz.rep0 _ _) hs0
    have hle : n + (m * (P.length - Q.length + 1) + 1) + (P.length - Q.length + 1) * (m + 1) ≤ n + (2 * m + 1) * (P.length + 1) + 1 := by
      have e1 : (P.length - Q.length + 1) * (m + 1) = m * (P.length - Q.length + 1) + (P.length - Q.length + 1) := by rw [Nat.mul_add, Nat.mul_comm]; omega
      have e2 : (2 * m + 1) * (P.length + 1) = 2 * (m * (P.length + 1)) + (P.length + 1) := by rw [Nat.add_mul, Nat.mul_assoc]; omega
      have e3 : m * (P.length - Q.length + 1) ≤ m * (P.length + 1) := Nat.mul_le_mul_left m (by omega)
      omega
    unfold quoL remL
    rw [if_neg hg, if_neg hg]
    exact ⟨(h.1.mono hle).trim, (h.2.mono hle).trim⟩
theorem cv_one (f : Int) (P : List Int) (k : Nat) : cv [f] P k = f * cf P k := by
  unfold cv
  rw [sm_single (j := 0) (by omega) fun i _ hn => by rw [cf_beyond (P := [f]) (by simp; omega), Int.zero_mul]]
  rfl
theorem mul_one_trim {f : Int} {P : List Int} (hf : f ≠ 0) (hT : Trim P) : Trim (mulU [f] P) := by
  rcases hT with h | h
  · left; unfold mulU; rw [if_pos (.inr h)]
  · right
    have hP : P ≠ [] := fun e => by rw [e] at h; exact h (cf_nil _)
    have hl : (mulU [f] P).length = P.length := by
      unfold mulU
      rw [if_neg (fun z => z.elim (fun h => by cases h) hP), List.length_map, List.length_range]
      show 1 + P.length - 1 = _
      omega
    rw [hl, cf_mulU, cv_one]
    exact Int.mul_ne_zero hf h
theorem facL_pos {P Q : List Int} (hT : Trim Q) (h0 : Q ≠ []) : 0 < facL P Q := by
  unfold facL
  split
  · decide
  · have := lc_ne hT h0
    exact Int.pow_pos (by omega)
/-- the sentence of a division, as lists -/
theorem div_lists {P Q : List Int} (hP : Trim P) (hT : Trim Q) (h0 : Q ≠ []) : mulU [facL P Q] P = addL (mulU (quoL P Q) Q) (remL P Q) := by
  refine trim_ext (mul_one_trim (by have := facL_pos (P := P) hT h0; omega) hP) (trim_addL _ _) fun k => ?_
  rw [cf_mulU, cv_one, cf_addL, cf_mulU]
  exact div_eq hT h0 k
end MD

set_option linter.all false
/-! The row of a polynomial. -/
namespace MS
open ML MD MP
def nextL (A B : List Int) : List Int := shrunkL ((remL A B).map fun x => 0 - x)
def rowG : Nat → List Int → List Int → List (List Int)
  | 0, _, _ => []
  | f + 1, A, B => if B = [] then [] else B :: rowG f B (nextL A B)
/-- what the walk asks of each step -/
def RowOk : Nat → List Int → List Int → Prop
  | 0, _, B => B = []
  | f + 1, A, B => B = [] ∨ (Trim B ∧ (∃ n m, Sz n A ∧ Sz m B ∧ A.length ≤ 100000 ∧ B.length ≤ 100000 ∧ 0 < n ∧ 0 < m ∧ m ≤ 9000 ∧ n + (2 * m + 1) * (A.length + 1) ≤ 900000) ∧ (remL A B ≠ [] → MG.gcdL ((remL A B).map fun x => 0 - x) ≠ 0 ∧ (MG.gcdL ((remL A B).map fun x => 0 - x)).natAbs.log2 < 9000) ∧ RowOk f B (nextL A B))
def rowL (f : Nat) (P : List Int) : List (List Int) := if P = [] then [] else shrunkL P :: rowG f (shrunkL P) (shrunkL (slopeL P))
end MS

set_option linter.all false
/-! The ring of polynomials, by coefficients. -/
namespace MR
open ML MD
theorem cv_comm (P Q : List Int) (k : Nat) : cv P Q k = cv Q P k := by
  unfold cv
  rw [← sm_rev (k + 1) (fun i => cf Q i * cf P (k - i))]
  refine sm_congr fun i hi => ?_
  rw [show k + 1 - 1 - i = k - i by omega, show k - (k - i) = i by omega, Int.mul_comm]
theorem sm_tri (g : Nat → Nat → Int) : ∀ k : Nat, sm (k + 1) (fun i => sm (i + 1) (fun j => g j (i - j))) = sm (k + 1) (fun j => sm (k - j + 1) (fun l => g j l))
  | 0 => rfl
  | k + 1 => by
    rw [sm_succ, sm_tri g k, sm_succ (k + 1) (fun j => g j (k + 1 - j)), sm_succ (k + 1) (fun j => sm (k + 1 - j + 1) (fun l => g j l))]
    have e : sm (k + 1) (fun j => sm (k + 1 - j + 1) (fun l => g j l)) = sm (k + 1) (fun j => sm (k - j + 1) (fun l => g j l) + g j (k + 1 - j)) := sm_congr fun j hj => by
      have : k + 1 - j = k - j + 1 := by omega
      rw [this, sm_succ]
    rw [e, sm_add]
    have e2 : sm (k + 1 - (k + 1) + 1) (fun l => g (k + 1) l) = g (k + 1) (k + 1 - (k + 1)) := by
      rw [Nat.sub_self]; simp [sm]
    rw [e2]; omega
theorem cv_assoc' (P Q R : List Int) (k : Nat) : sm (k + 1) (fun i => cv P Q i * cf R (k - i)) = sm (k + 1) (fun j => cf P j * cv Q R (k - j)) := by
  have h := sm_tri (fun j l => cf P j * cf Q l * cf R (k - j - l)) k
  have e1 : sm (k + 1) (fun i => cv P Q i * cf R (k - i)) = sm (k + 1) (fun i => sm (i + 1) (fun j => cf P j * cf Q (i - j) * cf R (k - j - (i - j)))) := sm_congr fun i hi => by
    unfold cv
    rw [← sm_mul_r]
    exact sm_congr fun j hj => by rw [show k - j - (i - j) = k - i by omega]
  have e2 : sm (k + 1) (fun j => cf P j * cv Q R (k - j)) = sm (k + 1) (fun j => sm (k - j + 1) (fun l => cf P j * cf Q l * cf R (k - j - l))) := sm_congr fun j hj => by
    unfold cv
    rw [← sm_mul]
    exact sm_congr fun l _ => by rw [Int.mul_assoc]
  rw [e1, e2]; exact h
theorem cv_congr {P P' Q Q' : List Int} (h : ∀ i, cf P i = cf P' i) (h' : ∀ i, cf Q i = cf Q' i) (k : Nat) : cv P Q k = cv P' Q' k := sm_congr fun i _ => by rw [h, h']
theorem cv_assoc (P Q R : List Int) (k : Nat) : cv (mulL P Q) R k = cv P (mulL Q R) k := by
  have h := cv_assoc' P Q R k
  unfold cv at h ⊢
  rw [show sm (k + 1) (fun i => cf (mulL P Q) i * cf R (k - i)) = sm (k + 1) (fun i => sm (i + 1) (fun j => cf P j * cf Q (i - j)) * cf R (k - i)) from sm_congr fun i _ => by rw [cf_mulL]; rfl, h]
  exact sm_congr fun i _ => by rw [cf_mulL]; rfl
theorem cv_add_left (P P' Q : List Int) (k : Nat) : cv (addL P P') Q k = cv P Q k + cv P' Q k := by
  unfold cv
  rw [← sm_add]
  exact sm_congr fun i _ => by rw [cf_addL, Int.add_mul]
theorem cv_sub_left (P P' Q : List Int) (k : Nat) : cv (subL P P') Q k = cv P Q k - cv P' Q k := by
  unfold cv
  rw [← sm_sub]
  exact sm_congr fun i _ => by rw [cf_subL, Int.sub_mul]
theorem cv_add_right (P Q Q' : List Int) (k : Nat) : cv P (addL Q Q') k = cv P Q k + cv P Q' k := by
  rw [cv_comm, cv_add_left, cv_comm Q, cv_comm Q']
theorem cv_sub_right (P Q Q' : List Int) (k : Nat) : cv P (subL Q Q') k = cv P Q k - cv P Q' k := by
  rw [cv_comm, cv_sub_left, cv_comm Q, cv_comm Q']
/-- times a number -/
def sclL (c : Int) (P : List Int) : List Int := P.map (c * ·)
theorem cf_sclL (c : Int) (P : List Int) (k : Nat) : cf (sclL c P) k = c * cf P k := cf_map (f := (c * ·)) (by omega) P k
theorem sclL_len (c : Int) (P : List Int) : (sclL c P).length = P.length := by unfold sclL; simp
theorem trim_sclL {c : Int} {P : List Int} (hc : c ≠ 0) (h : Trim P) : Trim (sclL c P) := by
  rcases h with h | h
  · left; rw [h]; rfl
  · right; rw [sclL_len, cf_sclL]; exact Int.mul_ne_zero hc h
theorem cv_scl_left (c : Int) (P Q : List Int) (k : Nat) : cv (sclL c P) Q k = c * cv P Q k := by
  unfold cv
  rw [← sm_mul]
  exact sm_congr fun i _ => by rw [cf_sclL, Int.mul_assoc]
theorem cv_scl_right (c : Int) (P Q : List Int) (k : Nat) : cv P (sclL c Q) k = c * cv P Q k := by
  rw [cv_comm, cv_scl_left, cv_comm]
theorem mulL_comm (P Q : List Int) : mulL P Q = mulL Q P := trim_ext (trim_mulL _ _) (trim_mulL _ _) fun k => by rw [cf_mulL, cf_mulL, cv_comm]
theorem mulL_assoc (P Q R : List Int) : mulL (mulL P Q) R = mulL P (mulL Q R) := trim_ext (trim_mulL _ _) (trim_mulL _ _) fun k => by rw [cf_mulL, cf_mulL, cv_assoc]
theorem mulU_one {c : Int} (P : List Int) : mulU [c] P = sclL c P := by
  by_cases h : P = []
  · subst h; rfl
  · refine ext ?_ fun k _ => ?_
    · unfold mulU
      rw [if_neg (fun z => z.elim (fun h => by cases h) h), List.length_map, List.length_range, sclL_len]
      show 1 + P.length - 1 = _
      omega
    · rw [cf_mulU, cv_one, cf_sclL]
/-- the top of a product -/
theorem cv_top {D Q : List Int} {d e : Nat} (hd : ∀ i, d < i → cf D i = 0) (he : ∀ i, e < i → cf Q i = 0) : cv D Q (d + e) = cf D d * cf Q e := by
  unfold cv
  rw [sm_single (j := d) (by omega) fun i _ hn => ?_]
  · rw [Nat.add_sub_cancel_left]
  · by_cases h : d < i
    · rw [hd i h, Int.zero_mul]
    · rw [he (d + e - i) (by omega), Int.mul_zero]
theorem exists_top {D : List Int} (h : ∃ i, cf D i ≠ 0) : ∃ d, cf D d ≠ 0 ∧ ∀ i, d < i → cf D i = 0 := by
  have ht := trim_trimL D
  rcases ht with e | e
  · obtain ⟨i, hi⟩ := h
    rw [← cf_trimL, e, cf_nil] at hi
    exact absurd rfl hi
  · refine ⟨(trimL D).length - 1, by rw [cf_trimL] at e; exact e, fun i hi => ?_⟩
    rw [← cf_trimL]
    exact cf_beyond (by omega)
theorem top_of {Q : List Int} (hT : Trim Q) (h0 : Q ≠ []) : cf Q (Q.length - 1) ≠ 0 ∧ ∀ i, Q.length - 1 < i → cf Q i = 0 :=
  ⟨lc_ne hT h0, fun i hi => cf_beyond (by omega)⟩
/-- what is times Q and of a lower degree than Q is nought -/
theorem low_zero {D Q : List Int} (hT : Trim Q) (h0 : Q ≠ []) (h : ∀ k, Q.length - 1 ≤ k → cv D Q k = 0) : ∀ i, cf D i = 0 := by
  intro i
  apply Classical.byContradiction
  intro hi
  obtain ⟨d, hd, hd2⟩ := exists_top ⟨i, hi⟩
  obtain ⟨q1, q2⟩ := top_of hT h0
  have := cv_top hd2 q2
  rw [h _ (by omega)] at this
  exact Int.mul_ne_zero hd q1 this.symm
/-- the rest of a division is told by any such sentence -/
theorem rest_unique {P Q A R : List Int} {f : Int} (hT : Trim Q) (h0 : Q ≠ []) (hR : R.length < Q.length) (h : ∀ k, f * cf P k = cv A Q k + cf R k) (k : Nat) : facL P Q * cf R k = f * cf (remL P Q) k ∧ facL P Q * cf A k = f * cf (quoL P Q) k := by
  have hz : ∀ i, cf (subL (sclL (facL P Q) A) (sclL f (quoL P Q))) i = 0 := low_zero hT h0 fun k hk => by
    rw [cv_sub_left, cv_scl_left, cv_scl_left]
    have h1 := h k
    have h2 := div_eq (P := P) hT h0 k
    have hr := rem_len (P := P) hT h0
    rw [cf_beyond (P := R) (by omega)] at h1
    rw [cf_beyond (P := remL P Q) (by omega)] at h2
    rw [show cv A Q k = f * cf P k by omega, show cv (quoL P Q) Q k = facL P Q * cf P k by omega, ← Int.mul_assoc, ← Int.mul_assoc, Int.mul_comm (facL P Q) f]
    omega
  have ha : ∀ i, facL P Q * cf A i = f * cf (quoL P Q) i := fun i => by
    have := hz i
    rw [cf_subL, cf_sclL, cf_sclL] at this
    omega
  refine ⟨?_, ha k⟩
  have h1 := h k
  have h2 := div_eq (P := P) hT h0 k
  have h3 : facL P Q * cv A Q k = f * cv (quoL P Q) Q k := by
    rw [← cv_scl_left, ← cv_scl_left]
    exact cv_congr (fun i => by rw [cf_sclL, cf_sclL, ha]) (fun _ => rfl) k
  have h4 : cf R k = f * cf P k - cv A Q k := by omega
  have h5 : cf (remL P Q) k = facL P Q * cf P k - cv (quoL P Q) Q k := by omega
  rw [h4, h5, Int.mul_sub, Int.mul_sub, h3, ← Int.mul_assoc, ← Int.mul_assoc, Int.mul_comm (facL P Q) f]
theorem trim_mulU {P Q : List Int} (hP : Trim P) (hQ : Trim Q) : Trim (mulU P Q) := by
  by_cases h : P = [] ∨ Q = []
  · left; unfold mulU; rw [if_pos h]
  · right
    have h1 : P ≠ [] := fun e => h (.inl e)
    have h2 : Q ≠ [] := fun e => h (.inr e)
    have e : (mulU P Q).length = P.length + Q.length - 1 := by unfold mulU; rw [if_neg h]; simp
    have l1 := len_pos h1
    have l2 := len_pos h2
    obtain ⟨a1, a2⟩ := top_of hP h1
    obtain ⟨b1, b2⟩ := top_of hQ h2
    rw [e, cf_mulU, show P.length + Q.length - 1 - 1 = (P.length - 1) + (Q.length - 1) by omega, cv_top a2 b2]
    exact Int.mul_ne_zero a1 b1
theorem cf_zero_nil {P : List Int} (hT : Trim P) : P = [] ↔ ∀ k, cf P k = 0 :=
  ⟨fun h k => by rw [h, cf_nil], fun h => hT.elim id fun e => absurd (h _) e⟩
/-- Q divides P just where the rest is [] -/
theorem rem_nil {P Q A R : List Int} {f : Int} (hf : f ≠ 0) (hP : Trim P) (hT : Trim Q) (h0 : Q ≠ []) (hR : R.length < Q.length) (tR : Trim R) (h : ∀ k, f * cf P k = cv A Q k + cf R k) : remL P Q = [] ↔ R = [] := by
  have hp := facL_pos (P := P) hT h0
  rw [cf_zero_nil (trim_rem hP), cf_zero_nil tR]
  constructor
  · intro hz k
    have := (rest_unique hT h0 hR h k).1
    rw [hz k, Int.mul_zero] at this
    rcases Int.mul_eq_zero.mp this with e | e
    · omega
    · exact e
  · intro hz k
    have := (rest_unique hT h0 hR h k).1
    rw [hz k, Int.mul_zero] at this
    rcases Int.mul_eq_zero.mp this.symm with e | e
    · exact absurd e hf
    · exact e
end MR

set_option linter.all false
/-! Polynomials that differ by a factor. -/
namespace MQ
open ML MD MP MR MG
theorem plain_mul (A : List Int) : ∃ a : Int, (A ≠ [] → Trim A → a ≠ 0) ∧ ∀ k, cf A k = a * cf (plainL A) k := by
  by_cases h : shrunkL A ≠ [] ∧ cf (shrunkL A) ((shrunkL A).length - 1) < 0
  · refine ⟨-gcdL A, fun h0 ht => ?_, fun k => ?_⟩
    · have := gcdL_trim_pos ht h0; omega
    · unfold plainL
      rw [if_pos h, cf_negL, Int.neg_mul_neg, mul_shrunkL]
  · refine ⟨gcdL A, fun h0 ht => ?_, fun k => ?_⟩
    · have := gcdL_trim_pos ht h0; omega
    · unfold plainL
      rw [if_neg h, mul_shrunkL]
theorem len_le_of {A B : List Int} (tA : Trim A) (h : ∀ k, cf B k = 0 → cf A k = 0) : A.length ≤ B.length := by
  rcases tA with e | e
  · rw [e]; simp
  · apply Classical.byContradiction
    intro hl
    exact e (h _ (cf_beyond (by omega)))
theorem gcd_one_of {p : List Int} {A : List Int} (h0 : A ≠ []) (tA : Trim A) : gcdN (plainL A) = 1 := by
  refine gcdN_plainL fun e => ?_
  have := gcdL_trim_pos tA h0
  unfold gcdL at this
  omega
/-- what divides all of y * p, p of the shared divisor 1, divides y -/
theorem dvd_all {p : List Int} (h : gcdN p = 1) {y z : Int} (hd : ∀ k, y ∣ z * cf p k) : y ∣ z := by
  have h1 := gcdN_mul z p
  rw [h, Nat.mul_one] at h1
  have h2 : y.natAbs ∣ gcdN (p.map (z * ·)) := dvd_gcdN fun x hx => by
    rw [Int.natAbs_dvd]
    obtain ⟨w, hw, rfl⟩ := List.mem_map.mp hx
    obtain ⟨k, hk, e⟩ := List.getElem_of_mem hw
    have := hd k
    rw [cf_get hk, e] at this
    exact this
  rw [h1] at h2
  exact Int.natAbs_dvd_natAbs.mp h2
theorem plain_prop {A B : List Int} {x y : Int} (tA : Trim A) (tB : Trim B) (hx : x ≠ 0) (hy : y ≠ 0) (h : ∀ k, x * cf A k = y * cf B k) : plainL A = plainL B := by
  have ab : ∀ k, cf A k = 0 → cf B k = 0 := fun k e => by
    have := h k
    rw [e, Int.mul_zero] at this
    exact (Int.mul_eq_zero.mp this.symm).resolve_left hy
  have ba : ∀ k, cf B k = 0 → cf A k = 0 := fun k e => by
    have := h k
    rw [e, Int.mul_zero] at this
    exact (Int.mul_eq_zero.mp this).resolve_left hx
  have hl : A.length = B.length := Nat.le_antisymm (len_le_of tA ba) (len_le_of tB ab)
  by_cases h0 : A = []
  · subst h0
    have : B = [] := List.eq_nil_of_length_eq_zero hl.symm
    rw [this]
  obtain ⟨a, ha, hA⟩ := plain_mul A
  have ha := ha h0 tA
  have h1 := gcd_one_of (p := []) h0 tA
  have hlast := plainL_last tA h0
  have hlen := plainL_len A
  generalize plainL A = p at *
  have hd : y ∣ x * a := dvd_all h1 fun k => ⟨cf B k, by rw [Int.mul_assoc, ← hA, h]⟩
  obtain ⟨b, hb⟩ := hd
  have hb0 : b ≠ 0 := fun e => by
    rw [e, Int.mul_zero] at hb
    exact (Int.mul_ne_zero hx ha) hb
  refine (plainL_of (c := b) hb0 (by omega) (fun k => ?_) h1 fun _ => hlast).symm
  have := h k
  rw [hA, ← Int.mul_assoc, hb, Int.mul_assoc] at this
  exact (Int.eq_of_mul_eq_mul_left hy this).symm
end MQ

set_option linter.all false
set_option exponentiation.threshold 100000
/-! Polynomials of degree one. -/
namespace MN
open ML MD MP
theorem gcd_one (c : Int) : MG.gcdL [c] = (c.natAbs : Int) := by
  unfold MG.gcdL MG.gcdN
  simp
theorem gcd_two (f c : Int) : MG.gcdL [f, c] = (Int.gcd f c : Int) := by
  unfold MG.gcdL MG.gcdN Int.gcd
  simp
/-- what a fraction's polynomial asks -/
structure Frc (n : Nat) (t d : Int) : Prop where
  d0 : 0 < d
  g1 : Int.gcd t d = 1
  st : t.natAbs < 2 ^ n
  sd : d.natAbs < 2 ^ n
  n0 : 0 < n
  n9 : n ≤ 4000
variable {n : Nat} {t d : Int}
theorem gcdN_lin (h : Frc n t d) : MG.gcdN [-t, d] = 1 := by
  have e := gcd_two (-t) d
  rw [Int.neg_gcd, h.g1] at e
  unfold MG.gcdL at e
  omega
theorem plain_lin (h : Frc n t d) : plainL [-t, d] = [-t, d] := plainL_self (gcdN_lin h) fun _ => by
  show 0 ≤ d
  have := h.d0
  omega
theorem shrunk_lin (h : Frc n t d) : shrunkL [-t, d] = [-t, d] := shrunkL_one (gcdN_lin h)
theorem shrunk_one (h : 0 < d) : shrunkL [d] = [1] := shrunkL_of (c := d) h rfl (fun k => by
  cases k with
  | zero => show d = d * 1; omega
  | succ k => show (0 : Int) = d * 0; omega) (by decide)
theorem plain_one (h : 0 < d) : plainL [d] = [1] := plainL_of (c := d) (by omega) rfl (fun k => by
  cases k with
  | zero => show d = d * 1; omega
  | succ k => show (0 : Int) = d * 0; omega) (by decide) (fun _ => by decide)
theorem slope_lin (f c : Int) : slopeL [f, c] = [c] := by
  have e : slopeL [f, c] = [(((0 : Nat) : Int) + 1) * c] := rfl
  rw [e]; simp
theorem rem_one (A : List Int) : remL A [1] = [] := by
  have := rem_len (P := A) (Q := [1]) (.inr (by decide)) (by simp)
  exact List.eq_nil_of_length_eq_zero (Nat.lt_one_iff.mp this)
theorem trim_lin (h : d ≠ 0) : Trim [t, d] := .inr h
theorem cv_one_right (P : List Int) (k : Nat) : cv P [1] k = cf P k := by
  unfold cv
  rw [sm_single (j := k) (by omega) fun i hi hn => by
    have : cf [1] (k - i) = 0 := cf_beyond (by show 1 ≤ k - i; omega)
    rw [this, Int.mul_zero], Nat.sub_self]
  show cf P k * 1 = _
  omega
theorem fac_one (A : List Int) : facL A [1] = 1 := by
  unfold facL
  split
  · rfl
  · show ((1 : Nat) : Int) ^ _ = 1
    exact Int.one_pow
theorem quo_one {A : List Int} (hA : Trim A) : quoL A [1] = A := trim_ext (trim_quo _ _) hA fun k => by
  have h := div_eq (P := A) (Q := [1]) (.inr (by decide)) (by simp) k
  rw [fac_one, cv_one_right, rem_one, cf_nil] at h
  omega
theorem sz_lin (h : Frc n t d) : Sz n [-t, d] := fun x hx => by
  simp only [List.mem_cons, List.not_mem_nil, or_false] at hx
  have h1 := h.st
  have h2 := h.sd
  rcases hx with rfl | rfl
  · rw [Int.natAbs_neg]; exact h1
  · exact h2
theorem row_lin (h : Frc n t d) : MS.rowL 2 [-t, d] = [[-t, d], [1]] := by
  unfold MS.rowL
  rw [if_neg (by simp), slope_lin, shrunk_one h.d0, shrunk_lin h]
  show _ :: (if [1] = [] then [] else [1] :: MS.rowG 1 [1] (MS.nextL _ [1])) = _
  have e : MS.nextL [-t, d] [1] = [] := by unfold MS.nextL; rw [rem_one]; rfl
  rw [if_neg (by simp), e]
  rfl
theorem row_ok (h : Frc n t d) : MS.RowOk 2 (shrunkL [-t, d]) (shrunkL (slopeL [-t, d])) := by
  have n0 := h.n0
  have n9 := h.n9
  rw [slope_lin, shrunk_one h.d0, shrunk_lin h]
  have e : MS.nextL [-t, d] [1] = [] := by unfold MS.nextL; rw [rem_one]; rfl
  refine .inr ⟨.inr (by decide), ⟨n, 1, sz_lin h, fun x hx => ?_, by simp, by simp, n0, by decide, by decide, ?_⟩, fun hn => absurd (rem_one _) hn, .inl e⟩
  · rw [List.mem_singleton] at hx
    rw [hx]; decide
  · show n + (2 * 1 + 1) * (2 + 1) ≤ 900000
    omega
theorem log_gcd (h : Frc n t d) : MG.gcdL [-t, d] ≠ 0 ∧ (MG.gcdL [-t, d]).natAbs.log2 < 9000 := by
  have e := gcd_two (-t) d
  rw [Int.neg_gcd, h.g1] at e
  rw [e]
  exact ⟨by decide, by decide⟩
theorem top_lin (t d x y : Int) : MH.topL [-t, d] x y = d * x - t * y := by
  show (0 * x + d * 1) * x + -t * (1 * y) = _
  grind
theorem top_one (x y : Int) : MH.topL [1] x y = 1 := by
  show 0 * x + 1 * 1 = 1
  omega
/-- one change between what is below and what is not -/
theorem chg_below {x y : Int} (h : d * x < t * y) : (MH.chg [[-t, d], [1]] x y).1 = 1 := by
  show (MH.stp (MH.stp (0, 0) (RB.ordI (MH.topL [-t, d] x y) 0)) (RB.ordI (MH.topL [1] x y) 0)).1 = 1
  rw [top_lin, top_one, RB.ordI_lt (show d * x - t * y < 0 by omega)]
  rfl
theorem chg_above {x y : Int} (h : t * y ≤ d * x) : (MH.chg [[-t, d], [1]] x y).1 = 0 := by
  show (MH.stp (MH.stp (0, 0) (RB.ordI (MH.topL [-t, d] x y) 0)) (RB.ordI (MH.topL [1] x y) 0)).1 = 0
  rw [top_lin, top_one]
  by_cases h1 : d * x - t * y = 0
  · rw [h1]; rfl
  · rw [RB.ordI_gt (show 0 < d * x - t * y by omega)]
    rfl
end MN

set_option linter.all false
set_option maxRecDepth 100000
/-! Lists of lists of ints. -/
namespace RB
open PySem PySem.Spec PyProof.Rows L2
open Evl (Ex rLenS rListS rMax2 tCut pss_cut)
def Rws (H : Hp) : List Addr → List (List Int) → Prop
  | [], [] => True
  | p :: ps, R :: Rs => H p = some (.lst (R.map V.int)) ∧ Rws H ps Rs
  | _, _ => False
theorem Rws.len {H : Hp} : ∀ {ps : List Addr} {Rs : List (List Int)}, Rws H ps Rs → ps.length = Rs.length
  | [], [], _ => rfl
  | p :: ps, R :: Rs, h => by rw [List.length_cons, List.length_cons, Rws.len h.2]
theorem Rws.ex {H H' : Hp} (e : Ex H H') : ∀ {ps : List Addr} {Rs : List (List Int)}, Rws H ps Rs → Rws H' ps Rs
  | [], [], _ => trivial
  | p :: ps, R :: Rs, h => ⟨e _ _ h.1, Rws.ex e h.2⟩
theorem Rws.exb {l : Addr} {H H' : Hp} (e : Exb l H H') : ∀ {ps : List Addr} {Rs : List (List Int)}, l ∉ ps → Rws H ps Rs → Rws H' ps Rs
  | [], [], _, _ => trivial
  | p :: ps, R :: Rs, hn, h => ⟨e _ (fun x => hn (by rw [x]; exact List.mem_cons_self ..)) _ h.1, Rws.exb e (fun x => hn (List.mem_cons_of_mem _ x)) h.2⟩
theorem Rws.append {H : Hp} : ∀ {ps qs : List Addr} {Rs Ss : List (List Int)}, Rws H ps Rs → Rws H qs Ss → Rws H (ps ++ qs) (Rs ++ Ss)
  | [], _, [], _, _, h => h
  | p :: ps, _, R :: Rs, _, h, h' => ⟨h.1, Rws.append h.2 h'⟩
theorem Rws.get {H : Hp} : ∀ {ps : List Addr} {Rs : List (List Int)} {i : Nat} {p : Addr}, Rws H ps Rs → ps[i]? = some p → ∃ R, Rs[i]? = some R ∧ H p = some (.lst (R.map V.int))
  | p :: ps, R :: Rs, 0, q, h, e => by
    simp only [List.getElem?_cons_zero, Option.some.injEq] at e
    exact ⟨R, rfl, by rw [← e]; exact h.1⟩
  | p :: ps, R :: Rs, i + 1, q, h, e => by
    simp only [List.getElem?_cons_succ] at e
    obtain ⟨S, h1, h2⟩ := Rws.get (i := i) h.2 e
    exact ⟨S, by simpa using h1, h2⟩
theorem dp_rows {K : PySem.W.Frag} {H : Hp} : ∀ {ps : List Addr} {Rs : List (List Int)}, Rws H ps Rs → DpAll K H (ps.map V.ref) (Rs.map dI)
  | [], [], _ => .nil
  | p :: ps, R :: Rs, h => .cons (dp_listI (SqL.inj h.1)) (dp_rows h.2)
theorem canLay_rows : ∀ Rs : List (List Int), PyData.canLayAll0 (Rs.map dI) = true
  | [] => by simp [PyData.canLayAll0]
  | n :: r => by
    rw [List.map_cons, PyData.canLayAll0, canLay_rows r]
    show (PyData.canLay0 (dI n) && true) = true
    unfold dI
    rw [PyData.canLay0, canLay_ints]; rfl
theorem depth_dI (n : List Int) : PyData.depth (dI n) ≤ 2 := by
  have := depth_ints n
  unfold dI
  rw [PyData.depth]
  omega
theorem depth_rows : ∀ Rs : List (List Int), PyData.depthAll (Rs.map dI) ≤ 2
  | [] => by simp [PyData.depthAll]
  | n :: r => by
    have h1 := depth_rows r
    have h2 := depth_dI n
    rw [List.map_cons, PyData.depthAll]
    omega
def dR (Rs : List (List Int)) : PyData := .list (Rs.map dI)
theorem shaped_dR (Rs : List (List Int)) : SeqAt.shaped (dR Rs) = true := by
  have h1 := canLay_rows Rs
  have h2 := depth_rows Rs
  unfold SeqAt.shaped dR
  rw [Bool.and_eq_true, PyData.canLay0, PyData.depth]
  exact ⟨h1, decide_eq_true (by omega)⟩
theorem eqvAll_rows : ∀ Rs Ss : List (List Int), PyData.eqvAll (Rs.map dI) (Ss.map dI) = decide (Rs = Ss)
  | [], [] => by simp [PyData.eqvAll]
  | [], m :: r => by simp [PyData.eqvAll]
  | n :: r, [] => by simp [PyData.eqvAll]
  | n :: r, m :: s => by
    rw [List.map_cons, List.map_cons, PyData.eqvAll, eqvAll_rows r s, eqv_dI]
    simp
theorem eqv_dR (Rs Ss : List (List Int)) : PyData.eqv (dR Rs) (dR Ss) = decide (Rs = Ss) := by
  unfold dR
  rw [PyData.eqv, eqvAll_rows]
def RowsK (K : PySem.W.Frag) (H : Hp) (a : Addr) (Rs : List (List Int)) : Prop := ∃ ps, SqL K H a (ps.map V.ref) ∧ Rws H ps Rs
theorem dp_listR {K : PySem.W.Frag} {H : Hp} {a : Addr} {ps : List Addr} {Rs : List (List Int)} (h : SqL K H a (ps.map V.ref)) (h' : Rws H ps Rs) : Dp K H (.ref a) (dR Rs) := .lst h (dp_rows h')
theorem r_eqRows {K : PySem.W.Frag} {H : Hp} {Q : VK} {a b : Addr} {ps qs : List Addr} {Rs Ss : List (List Int)} (h1 : SqL K H a (ps.map V.ref)) (h1' : Rws H ps Rs) (h2 : SqL K H b (qs.map V.ref)) (h2' : Rws H qs Ss) (q : Q (.bl (decide (Rs = Ss))) H) : rEqD K (.ref a) (.ref b) H Q :=
  ⟨_, _, dp_listR h1 h1', dp_listR h2 h2', shaped_dR Rs, shaped_dR Ss, by rw [eqv_dR]; exact q⟩
/-- what a row tells: new lists -/
def RetRow (Rs : List (List Int)) (H : Hp) (Q : VK) : Prop := ∀ (a : Addr) (ps : List Addr) (H' : Hp), H a = none → (∀ p ∈ ps, H p = none) → a ∉ ps → Ex H H' → H' a = some (.lst (ps.map V.ref)) → Rws H' ps Rs → Q (.ref a) H'
/-- the last two items -/
theorem r_ix2 {K : PySem.W.Frag} {H : Hp} {Q : VK} {p : Addr} {xs : List V} {x y : V} (h : SqL K H p (xs ++ [x, y])) (q : Q x H) : rIxL K (.ref p) (.int (-2)) H Q :=
  r_ixL h (by
    unfold atI
    have e : ixN (xs ++ [x, y]).length (-2) = some xs.length := by
      unfold ixN
      rw [if_neg (by decide), if_pos (by simp; omega)]
      simp
      omega
    rw [e]; simp) q
theorem r_ix1 {K : PySem.W.Frag} {H : Hp} {Q : VK} {p : Addr} {xs : List V} {x y : V} (h : SqL K H p (xs ++ [x, y])) (q : Q y H) : rIxL K (.ref p) (.int (-1)) H Q :=
  r_ixL h (by
    have : xs ++ [x, y] = (xs ++ [x]) ++ [y] := by simp
    rw [this]; exact atI_last _ _) q
end RB
namespace RB
open PySem PySem.Spec PyProof.Rows L2
open Evl (Ex)
theorem Rws.take {H : Hp} : ∀ (n : Nat) {ps : List Addr} {Rs : List (List Int)}, Rws H ps Rs → Rws H (ps.take n) (Rs.take n)
  | 0, _, _, _ => by rw [List.take_zero, List.take_zero]; trivial
  | n + 1, [], [], _ => trivial
  | n + 1, p :: ps, R :: Rs, h => ⟨h.1, Rws.take n h.2⟩
theorem Rws.flat {H : Hp} {ps : List Addr} {Rs : List (List Int)} (h : Rws H ps Rs) : ∀ n : Nat, Rws H (List.replicate n ps).flatten (List.replicate n Rs).flatten
  | 0 => trivial
  | n + 1 => by
    rw [List.replicate_succ, List.replicate_succ, List.flatten_cons, List.flatten_cons]
    exact Rws.append h (Rws.flat h n)
theorem flat_map {α β : Type} (f : α → β) (xs : List α) : ∀ n : Nat, (List.replicate n (xs.map f)).flatten = ((List.replicate n xs).flatten).map f
  | 0 => rfl
  | n + 1 => by rw [List.replicate_succ, List.replicate_succ, List.flatten_cons, List.flatten_cons, flat_map f xs n, List.map_append]
theorem flat_len {α : Type} (xs : List α) : ∀ n : Nat, ((List.replicate n xs).flatten).length = n * xs.length
  | 0 => by simp
  | n + 1 => by rw [List.replicate_succ, List.flatten_cons, List.length_append, flat_len xs n, Nat.add_mul]; omega
theorem flat_mem {α : Type} {xs : List α} {x : α} : ∀ {n : Nat}, x ∈ (List.replicate n xs).flatten → x ∈ xs
  | 0, h => by cases h
  | n + 1, h => by
    rw [List.replicate_succ, List.flatten_cons, List.mem_append] at h
    exact h.elim id flat_mem
/-- a list of lists times a number -/
theorem r_repR {H : Hp} {Q : VK} {l : Addr} {ps : List Addr} {k : Int} (h1 : H l = some (.lst (ps.map V.ref))) (hk : k < 2 ^ 63) (z : ps.length * k.toNat ≤ 16777216) (q : ∀ p H', H p = none → Ex H H' → H' p = some (.lst (((List.replicate k.toNat ps).flatten).map V.ref)) → Q (.ref p) H') (h0 : -(2 ^ 63) ≤ k := by omega) : rRep (.ref l) (.int k) H Q :=
  ⟨l, k, ps.map V.ref, rfl, rfl, h1, h0, hk, by rw [List.length_map]; exact small_le z, newL fun p H' hp e h => q p H' hp e (by rw [← flat_map]; exact h)⟩
theorem cutV_to {xs : List V} {n : Int} (h0 : 0 ≤ n) : cutV xs none (some n) = xs.take n.toNat := by
  obtain ⟨k, rfl⟩ : ∃ k : Nat, n = (k : Int) := ⟨n.toNat, by omega⟩
  unfold cutV
  rw [HT.sIx_none, HT.sIx_nat, List.drop_zero, Int.toNat_natCast, Nat.sub_zero]
  by_cases h : k ≤ xs.length
  · rw [Nat.min_eq_left h]
  · rw [Nat.min_eq_right (by omega), List.take_length, List.take_of_length_le (by omega)]
/-- over a list of lists, each giving a new list -/
theorem lc_rowsN {K : PySem.W.Frag} {σ : L2.St} {H : Hp} {te : TE} {Q : VK} {a : Addr} {ps : List Addr} {Rs : List (List Int)} {j : Nat} (f : List Int → List Int) (hx : SqL K H a (ps.map V.ref)) (hW : Rws H ps Rs) (hz : ps.length < 1000000)
    (he : ∀ p R H1, R ∈ Rs → H1 p = some (.lst (R.map V.int)) → Ex H H1 → ∀ Q' : VK, (∀ q H2, H1 q = none → Ex H1 H2 → H2 q = some (.lst ((f R).map V.int)) → Q' (.ref q) H2) → te (σ.set j (some (.ref p))) H1 Q')
    (q : ∀ D H' qs, H D = none → Ex H H' → H' D = some (.lst (qs.map V.ref)) → Rws H' qs (Rs.map f) → D ∉ qs → Q (.ref D) H') : Lc (Itl K a) (gName j) tYes te [j] σ H Q := fun D hD =>
  lc_list (xs := ps.map V.ref) (fun i H' => Ex H H' ∧ ∃ qs : List Addr, H' D = some (.lst (qs.map V.ref)) ∧ Rws H' qs ((Rs.take i).map f) ∧ D ∉ qs ∧ qs.length ≤ i) ⟨Evl.Ex.new hD, [], upd_same, trivial, (fun h => by cases h), Nat.le_refl _⟩ (fun i H' _ p => p.1.l hx)
    (fun i x H' hi p => ⟨by show ((σ.set j none).set j (some x)).set j none = σ.set j none; rw [set_set, set_set], by
      show te ((σ.set j none).set j (some x)) H' _
      rw [set_set]
      rw [List.getElem?_map] at hi
      obtain ⟨p', hp', rfl⟩ := Option.map_eq_some_iff.mp hi
      obtain ⟨e, qs, hq, hR, hn, hl⟩ := p
      obtain ⟨R, hRm, hpR⟩ := hW.get hp'
      have hlt : i < ps.length := (List.getElem?_eq_some_iff.mp hp').1
      refine he p' R H' (List.mem_of_getElem? hRm) (e _ _ hpR) e _ fun r H2 hr e2 hr2 => ⟨_, e2 D _ hq, ?_, Evl.Ex.mut (e.trans e2) hD, qs ++ [r], ?_, ?_, ?_, ?_⟩
      · rw [List.length_map]; exact small_lt (by omega)
      · rw [upd_same, List.map_append]; rfl
      · rw [List.take_add_one, hRm, List.map_append]
        have nD : r ≠ D := fun z => by rw [z, hq] at hr; cases hr
        refine Rws.append ?_ ⟨by rw [upd_ne nD]; exact hr2, trivial⟩
        exact (hR.ex e2).exb (l := D) (fun c n o h => by rw [upd_ne n]; exact h) hn
      · intro h
        rcases List.mem_append.mp h with h | h
        · exact hn h
        · rw [List.mem_singleton] at h
          rw [← h, hq] at hr
          cases hr
      · rw [List.length_append]; simp; omega⟩)
    (fun H' p => by
      obtain ⟨e, qs, hq, hR, hn, hl⟩ := p
      rw [List.length_map, hW.len, List.take_length] at hR
      exact q D H' qs hD e hq hR hn)
theorem lc_rows {K : PySem.W.Frag} {σ : L2.St} {H : Hp} {te : TE} {Q : VK} {a : Addr} {ps : List Addr} {Rs : List (List Int)} {j : Nat} (f : List Int → List Int) (hx : SqL K H a (ps.map V.ref)) (hW : Rws H ps Rs) (hz : ps.length < 1000000)
    (he : ∀ p R H1, R ∈ Rs → H1 p = some (.lst (R.map V.int)) → Ex H H1 → ∀ Q' : VK, (∀ q H2, H1 q = none → Ex H1 H2 → H2 q = some (.lst ((f R).map V.int)) → Q' (.ref q) H2) → te (σ.set j (some (.ref p))) H1 Q')
    (q : ∀ D H' qs, H D = none → Ex H H' → H' D = some (.lst (qs.map V.ref)) → Rws H' qs (Rs.map f) → Q (.ref D) H') : Lc (Itl K a) (gName j) tYes te [j] σ H Q := lc_rowsN f hx hW hz he fun D H' qs h1 h2 h3 h4 _ => q D H' qs h1 h2 h3 h4
theorem Rws.set {H : Hp} {p : Addr} {R : List Int} (hp : H p = some (.lst (R.map V.int))) : ∀ {ps : List Addr} {Rs : List (List Int)} (i : Nat), Rws H ps Rs → Rws H (ps.set i p) (Rs.set i R)
  | [], [], _, _ => trivial
  | _ :: _, _ :: _, 0, h => ⟨hp, h.2⟩
  | _ :: ps, _ :: Rs, i + 1, h => ⟨h.1, Rws.set hp i h.2⟩
end RB
namespace RB
open PySem PySem.Spec PyProof.Rows L2
theorem Rws.notin {H : Hp} {p : Addr} (hp : H p = none) : ∀ {ps : List Addr} {Rs : List (List Int)}, Rws H ps Rs → p ∉ ps
  | [], [], _ => fun h => by cases h
  | r :: ps, R :: Rs, h => fun hm => by
    rcases List.mem_cons.mp hm with e | e
    · have := h.1
      rw [← e, hp] at this
      cases this
    · exact Rws.notin hp h.2 e
end RB
namespace RB
open PySem PySem.Spec PyProof.Rows L2
theorem r_neRows {K : PySem.W.Frag} {H : Hp} {Q : VK} {a b : Addr} {ps qs : List Addr} {Rs Ss : List (List Int)} (h1 : SqL K H a (ps.map V.ref)) (h1' : Rws H ps Rs) (h2 : SqL K H b (qs.map V.ref)) (h2' : Rws H qs Ss) (q : Q (.bl (!decide (Rs = Ss))) H) : rNeD K (.ref a) (.ref b) H Q :=
  ⟨_, _, dp_listR h1 h1', dp_listR h2 h2', shaped_dR Rs, shaped_dR Ss, by rw [eqv_dR]; exact q⟩
end RB
namespace RB
open PySem PySem.Spec PyProof.Rows L2
/-- two pairs of lists of ints, alike -/
theorem r_neT2 {K : PySem.W.Frag} {H : Hp} {Q : VK} {p q a b c d : Addr} {ns ms : List Int} (h1 : SqT K H p [.ref a, .ref b]) (ha : SqL K H a (ns.map V.int)) (hb : SqL K H b (ms.map V.int)) (h2 : SqT K H q [.ref c, .ref d]) (hc : SqL K H c (ns.map V.int)) (hd : SqL K H d (ms.map V.int)) (k : Q (.bl false) H) : rNeD K (.ref p) (.ref q) H Q := by
  have sh : SeqAt.shaped (PyData.tuple [dI ns, dI ms]) = true := by
    have h1 := depth_dI ns
    have h2 := depth_dI ms
    have l1 : PyData.canLay0 (dI ns) = true := by unfold dI; rw [PyData.canLay0, canLay_ints]
    have l2 : PyData.canLay0 (dI ms) = true := by unfold dI; rw [PyData.canLay0, canLay_ints]
    unfold SeqAt.shaped
    rw [Bool.and_eq_true]
    refine ⟨?_, ?_⟩
    · simp [PyData.canLay0, PyData.canLayAll0, l1, l2]
    · refine decide_eq_true ?_
      simp only [PyData.depth, PyData.depthAll]
      omega
  refine ⟨_, _, .tup h1 (.cons (dp_listI ha) (.cons (dp_listI hb) .nil)), .tup h2 (.cons (dp_listI hc) (.cons (dp_listI hd) .nil)), sh, sh, ?_⟩
  have e : PyData.eqv (.tuple [dI ns, dI ms]) (.tuple [dI ns, dI ms]) = true := by
    simp [PyData.eqv, PyData.eqvAll, eqv_dI]
  show Q (.bl (!PyData.eqv (.tuple [dI ns, dI ms]) (.tuple [dI ns, dI ms]))) H
  rw [e]; exact k
end RB

set_option linter.all false
set_option maxRecDepth 100000
/-! Fractions as they are made; figures. -/
namespace RB
theorem low_unique {p q p' q' : Int} (hq : 0 < q) (hq' : 0 < q') (h1 : Int.gcd p q = 1) (h2 : Int.gcd p' q' = 1) (h : p * q' = p' * q) : p = p' ∧ q = q' := by
  have e : p.natAbs * q'.natAbs = p'.natAbs * q.natAbs := by rw [← Int.natAbs_mul, h, Int.natAbs_mul]
  have c1 : Nat.Coprime q.natAbs p.natAbs := by
    show Nat.gcd q.natAbs p.natAbs = 1
    rw [Nat.gcd_comm]; exact h1
  have c2 : Nat.Coprime q'.natAbs p'.natAbs := by
    show Nat.gcd q'.natAbs p'.natAbs = 1
    rw [Nat.gcd_comm]; exact h2
  have d1 : q.natAbs ∣ q'.natAbs := c1.dvd_of_dvd_mul_left (by rw [e]; exact Nat.dvd_mul_left ..)
  have d2 : q'.natAbs ∣ q.natAbs := c2.dvd_of_dvd_mul_left (by rw [← e]; exact Nat.dvd_mul_left ..)
  have d3 := Nat.dvd_antisymm d1 d2
  have eq_ : q = q' := by omega
  subst eq_
  exact ⟨Int.eq_of_mul_eq_mul_right (by omega) h, rfl⟩
theorem made_same {X Y X' Y' : Int} (hY : 0 < Y) (hY' : 0 < Y') (h : X * Y' = X' * Y) : rT X Y = rT X' Y' ∧ rB X Y = rB X' Y' := by
  have e1 := r_cross (t := X) (b := Y) (by omega)
  have e2 := r_cross (t := X') (b := Y') (by omega)
  have b1 := rB_pos (t := X) (b := Y) (by omega)
  have b2 := rB_pos (t := X') (b := Y') (by omega)
  refine low_unique b1 b2 (r_low (by omega)) (r_low (by omega)) ?_
  generalize rT X Y = p at *
  generalize rB X Y = q at *
  generalize rT X' Y' = p' at *
  generalize rB X' Y' = q' at *
  have hYY : Y * Y' ≠ 0 := Int.mul_ne_zero (by omega) (by omega)
  refine Int.eq_of_mul_eq_mul_right hYY ?_
  -- p q' Y Y' = X q q' Y' = X' Y q q' = p' Y' q Y
  have a1 : p * q' * (Y * Y') = (p * Y) * (q' * Y') := by grind
  have a2 : p' * q * (Y * Y') = (p' * Y') * (q * Y) := by grind
  rw [a1, a2, e1, e2]
  have a3 : X * q * (q' * Y') = (X * Y') * (q * q') := by grind
  have a4 : X' * q' * (q * Y) = (X' * Y) * (q * q') := by grind
  rw [a3, a4, h]
theorem IsR.same {C p : PySem.Addr} {H : L2.Hp} {X Y X' Y' : Int} (h : IsR C H p (rT X Y) (rB X Y)) (hY : 0 < Y) (hY' : 0 < Y') (e : X * Y' = X' * Y) : IsR C H p (rT X' Y') (rB X' Y') := by
  obtain ⟨h1, h2⟩ := made_same hY hY' e
  rw [← h1, ← h2]; exact h
theorem ord_le0 {a b : Int} : ordI a b ≤ 0 ↔ a ≤ b := by
  unfold ordI
  split
  · constructor <;> intro <;> omega
  · split
    · constructor <;> intro <;> omega
    · constructor <;> intro <;> omega
theorem ord_gt0 {a b : Int} : ordI a b > 0 ↔ b < a := by
  unfold ordI
  split
  · constructor <;> intro <;> omega
  · split
    · constructor <;> intro <;> omega
    · constructor <;> intro <;> omega
end RB
namespace MX
open RB
theorem fd_eq {x q w : Int} (hq : 0 < q) (h1 : w * q ≤ x) (h2 : x < (w + 1) * q) : x.fdiv q = w := by
  obtain ⟨h3, h4⟩ := fdiv_two (p := x) hq
  generalize x.fdiv q = v at *
  have a1 : v < w + 1 := by
    apply Classical.byContradiction
    intro h
    have := Int.mul_le_mul_of_nonneg_right (show w + 1 ≤ v by omega) (show 0 ≤ q by omega)
    omega
  have a2 : w < v + 1 := by
    apply Classical.byContradiction
    intro h
    have := Int.mul_le_mul_of_nonneg_right (show v + 1 ≤ w by omega) (show 0 ≤ q by omega)
    omega
  omega
/-- halves of a floor -/
theorem half_floor {x d : Int} (hd : 0 < d) : ((2 * x).fdiv d + 1).fdiv 2 = (2 * x + d).fdiv (2 * d) := by
  obtain ⟨h1, h2⟩ := fdiv_two (p := 2 * x) hd
  obtain ⟨h3, h4⟩ := fdiv_two (p := (2 * x).fdiv d + 1) (show (0 : Int) < 2 by decide)
  generalize (2 * x).fdiv d = m at *
  generalize (m + 1).fdiv 2 = w at *
  refine (fd_eq (by omega) ?_ ?_).symm
  · have a := Int.mul_le_mul_of_nonneg_right (show 2 * w - 1 ≤ m by omega) (show 0 ≤ d by omega)
    have e : w * (2 * d) = (2 * w - 1) * d + d := by grind
    omega
  · have a := Int.mul_le_mul_of_nonneg_right (show m + 1 ≤ 2 * w + 1 by omega) (show 0 ≤ d by omega)
    have e : (w + 1) * (2 * d) = (2 * w + 1) * d + d := by grind
    omega
theorem fd_cross {x q x' q' : Int} (hq : 0 < q) (hq' : 0 < q') (h : x * q' = x' * q) : x.fdiv q = x'.fdiv q' := by
  obtain ⟨h1, h2⟩ := fdiv_two (p := x') hq'
  generalize x'.fdiv q' = w at *
  refine fd_eq hq ?_ ?_
  · have a := Int.mul_le_mul_of_nonneg_right h1 (show 0 ≤ q by omega)
    rw [← h] at a
    have e : w * q' * q = (w * q) * q' := by grind
    rw [e] at a
    exact Int.le_of_mul_le_mul_right a hq'
  · have a := Int.mul_lt_mul_of_pos_right h2 hq
    rw [← h] at a
    have e : (w + 1) * q' * q = ((w + 1) * q) * q' := by grind
    rw [e] at a
    exact Int.lt_of_mul_lt_mul_right a (by omega)
/-- the floor, from a fraction that is a little greater -/
theorem steps_eq {A t d b p : Int} (hd : 0 < d) (hp : 0 < p) (hb : 0 < b) (h1 : A < t * p) (h2 : t * p ≤ A + d) (h3 : b ≤ p) {w : Int} (hw1 : w * (d * p) ≤ (A + d) * b) (hw2 : (A + d) * b < (w + 1) * (d * p)) : (if t * b < w * d then w - 1 else w) = (t * b).fdiv d := by
  have dp : 0 < d * p := Int.mul_pos hd hp
  have k1 : (t * b) * p ≤ (A + d) * b := by
    have := Int.mul_le_mul_of_nonneg_right h2 (show 0 ≤ b by omega)
    have e : t * p * b = t * b * p := by grind
    omega
  have k2 : (A + d) * b < (t * b) * p + d * p := by
    have := Int.mul_lt_mul_of_pos_right h1 hb
    have e : t * p * b = t * b * p := by grind
    have e2 : (A + d) * b = A * b + d * b := by grind
    have := Int.mul_le_mul_of_nonneg_left h3 (show 0 ≤ d by omega)
    omega
  have c1 : w * (d * p) = (w * d) * p := by grind
  have c2 : (w + 1) * (d * p) = ((w + 1) * d) * p := by grind
  have c3 : t * b * p + d * p = (t * b + d) * p := by grind
  have l1 : w * d < t * b + d := by
    have : (w * d) * p < (t * b + d) * p := by omega
    exact Int.lt_of_mul_lt_mul_right this (by omega)
  have l2 : t * b < (w + 1) * d := by
    have : (t * b) * p < ((w + 1) * d) * p := by omega
    exact Int.lt_of_mul_lt_mul_right this (by omega)
  have e1 : (w + 1) * d = w * d + d := by grind
  have e2 : (w - 1) * d = w * d - d := by grind
  split
  · next h =>
    refine (fd_eq hd (by omega) ?_).symm
    rw [show w - 1 + 1 = w by omega]; exact h
  · next h => exact (fd_eq hd (by omega) l2).symm
end MX

set_option linter.all false
set_option maxRecDepth 100000
/-! a, b, .. = a list. -/
namespace RB
open PySem PySem.Spec PyProof.Rows L2
open PyProof
section
variable {prog : Program} {w : World} {A : Around} {E : Value → Shared → Prop}
theorem drawn {it l : Addr} {xs : Array Value} (apart : l ≠ it) : ∀ (n i : Nat) (s : Shared) (Q : List Value → Shared → Prop), s.heap.IsListIter it l i → s.heap.IsList l xs → i + n ≤ xs.size →
    (∀ g, g.IsListIter it l (i + n) → Heap.SameBut it s.heap g → Q ((xs.toList.drop i).take n) { s with heap := g }) → wpAny (model prog w) A (draw (.ref it) n) Q E s
  | 0, i, s, Q, h1, _, _, k => by
    show wpAny _ _ (pure []) Q E s
    apply wpAny_pure
    have := k s.heap h1 (Heap.SameBut.refl ..)
    rwa [List.take_zero] at this
  | n + 1, i, s, Q, h1, h2, hle, k => by
    have lt : i < xs.size := by omega
    show wpAny _ _ (pyNext (.ref it) >>= _) Q E s
    apply wpAny_bind
    refine wpAny_pyNext_list_item h1 h2 (x := xs[i]) (by simp [lt]) fun g g1 gs => ?_
    apply wpAny_bind
    apply wpAny_holding
    refine drawn apart n (i + 1) _ _ g1 (h2.extBut gs.extBut apart) (by omega) fun g' g1' gs' => wpAny_pure ?_
    have e : xs.toList.drop i = xs[i] :: xs.toList.drop (i + 1) := by simp [List.drop_eq_getElem_cons, lt]
    have r := k g' (by rw [show i + (n + 1) = i + 1 + n by omega]; exact g1') (gs.trans gs')
    rw [e, List.take_succ_cons] at r
    exact r
theorem unpacked {s : Shared} {l : Addr} {xs : Array Value} {ts : List (Bool × (Value → Sem Unit))} {Q : Unit → Shared → Prop} (calm : A.handled = none) (hl : s.heap.IsList l xs) (hn : ts.length = xs.size) (hst : ts.findIdx? (·.1) = none)
    (k : ∀ g, Heap.ExtBut s.heap.objs.size s.heap g → wpAny (model prog w) A (assignInOrder (ts.map (·.2)) xs.toList) Q E { s with heap := g }) : wpAny (model prog w) A (unpack (.ref l) ts) Q E s := by
  have apart : l ≠ s.heap.objs.size := by
    obtain ⟨o, ho, _⟩ := hl
    exact Nat.ne_of_lt (Heap.lt_size ho)
  unfold unpack
  rw [hn, hst]
  apply wpAny_bind
  apply wpAny_holding
  unfold unpackItems
  apply wpAny_bind
  unfold notIterableAtAll
  apply wpAny_bind
  refine wpAny_specialOf hl.typeIs slot_list_iter.lookup ?_
  apply wpAny_pure
  simp only [Bool.false_eq_true, if_false]
  apply wpAny_bind
  apply wpAny_holding
  apply wpAny_pyIter_list hl
  apply wpAny_bind
  apply wpAny_holding
  refine drawn apart xs.size 0 _ _ ⟨_, Heap.get?_push_size _ rfl, rfl, rfl⟩ (hl.push _) (by omega) fun g g1 gs => ?_
  have all_ : List.take xs.size (List.drop 0 xs.toList) = xs.toList := by
    rw [List.drop_zero]
    exact List.take_of_length_le (by simp)
  rw [all_, if_neg (by simp)]
  apply wpAny_bind
  apply wpAny_holding
  refine wpAny_pyNext_list_end calm g1 ((hl.push _).extBut gs.extBut apart) (by simp) fun g' ge => ?_
  simp only [Option.isSome_none, Bool.false_eq_true, if_false]
  exact wpAny_pure (k g' fun b o hb e => ge b o hb (gs.extBut b o hb (Heap.get?_push_of_some _ e)))
end
/-- (a, b, ..) = a list of that length -/
def gTupL (K : PySem.W.Frag) (n : Nat) (t : TGs) : TG := fun v σ H Q => ∃ a xs, v = .ref a ∧ SqL K H a xs ∧ xs.length = n ∧ t xs σ H Q
theorem pg_tupL {X : Cx} {es : List Expr} {k : Nat} {t : TGs} {n : Nat} {pos : Pos} (hc : X.calm = true) (h : PGs X es t)
    (hn : (assignEach es X.env).length = n := by rfl) (hst : (assignEach es X.env).findIdx? (·.1) = none := by rfl) : PG X (.Tuple es k pos) (gTupL X.K n t) := by
  constructor
  intro pins s σ H v u Q I r hw
  obtain ⟨a, xs, rfl, hq, hl, hw⟩ := hw
  cases r
  obtain ⟨its, rv, pl, hz⟩ := I.list hq
  rw [assign_Tuple]
  apply wpAny_bind
  apply wpAny_standAt
  refine unpacked (I.ok.hd hc) pl.isList (by simp [hn, ← hl, rv.length]) hst fun g hx => ?_
  have J : Inv X pins σ H { s with heap := g } := I.kept (t' := s.toks) fun b o e => hx b o (Nat.ne_of_lt (Heap.lt_size e)) e
  exact h.run pins _ σ H xs _ Q J (by simpa using rv) hw
end RB
namespace RB
open PySem PySem.Spec PyProof.Rows L2
open Evl (Ex)
section
variable {K : PySem.W.Frag} {σ : L2.St} {H : Hp} {te : TE} {Q : VK} {g : TG}
theorem r_cTupA {a : Addr} {xs : List V} {tt : TT} {vs : List Nat} (h : SqT K H a xs) (q : Lc (Itt K a) g tt te vs σ H Q) : ∃ a', V.ref a = .ref a' ∧ (∃ xs, SqT K H a' xs) ∧ Lc (Itt K a') g tt te vs σ H Q := ⟨a, rfl, ⟨xs, h⟩, q⟩
/-- over a tuple of ints, each giving an int -/
theorem lc_intsT {a : Addr} {ns : List Int} {j : Nat} (f : Int → Int) (hx : H a = some (.tup (ns.map V.int))) (hz : ns.length < 1000000)
    (he : ∀ x, x ∈ ns → ∀ H1, Ex H H1 → ∀ Q' : VK, (∀ H2, Ex H1 H2 → Q' (.int (f x)) H2) → te (σ.set j (some (.int x))) H1 Q')
    (q : ∀ p H', H p = none → Ex H H' → H' p = some (.lst ((ns.map f).map V.int)) → Q (.ref p) H') : Lc (Itt K a) (gName j) tYes te [j] σ H Q := fun D hD =>
  lc_tup (xs := ns.map V.int) (fun i H' => Ex H H' ∧ H' D = some (.lst (((ns.take i).map f).map V.int))) ⟨Evl.Ex.new hD, upd_same⟩ (fun i H' _ p => .inl (.inl (p.1 _ _ hx)))
    (fun i x H' hi p => ⟨by show ((σ.set j none).set j (some x)).set j none = σ.set j none; rw [set_set, set_set], by
      show te ((σ.set j none).set j (some x)) H' _
      rw [set_set]
      rw [List.getElem?_map] at hi
      obtain ⟨n, hn, rfl⟩ := Option.map_eq_some_iff.mp hi
      refine he n (List.mem_of_getElem? hn) H' p.1 _ fun H2 e2 => ⟨_, e2 D _ p.2, ?_, (Evl.Ex.mut (p.1.trans e2) hD), ?_⟩
      · rw [List.length_map, List.length_map, List.length_take]; exact small_lt (by omega)
      · rw [upd_same, List.take_add_one, hn, List.map_append, List.map_append]; rfl⟩)
    (fun H' p => q D H' hD p.1 (by
      rw [List.length_map, List.take_length] at p
      exact p.2))
end
theorem r_gtupL {K : PySem.W.Frag} {n : Nat} {t : TGs} {a : Addr} {xs : List V} {σ : L2.St} {H : Hp} {Q : L2.St → Hp → Prop} (h : SqL K H a xs) (hn : xs.length = n) (q : t xs σ H Q) : gTupL K n t (.ref a) σ H Q := ⟨a, xs, rfl, h, hn, q⟩
theorem r_gcons {t : TG} {u : TGs} {v : V} {r : List V} {σ : L2.St} {H : Hp} {Q : L2.St → Hp → Prop} (h : t v σ H fun σ' H' => u r σ' H' Q) : gCons t u (v :: r) σ H Q := ⟨v, r, rfl, h⟩
theorem r_gnil {σ : L2.St} {H : Hp} {Q : L2.St → Hp → Prop} (h : Q σ H) : gNil [] σ H Q := ⟨rfl, h⟩
end RB

set_option linter.all false
set_option maxRecDepth 100000
/-! Own errors: raised without an argument, caught, asked with isinstance. -/
namespace RB
open PySem PySem.Spec PyProof.Rows L2
open Evl (Ex rLenS rListS rMax2 tCut pss_cut)
/-- X() of an own exception class -/
theorem pmk_own0 {X : Cx} {C : Addr} {bmB : List Value} {B newId initId : String} {x : Str} {p pos : Pos} (F : ExcBaseFacts B newId initId bmB) (q : PySem.W.excIn X.K C bmB newId = true) (gC : X.mg x = some (.ref C)) (kC : PySem.W.keepIn X.K (.ref C) = true) (r : Raises X (.ref C)) (hg : Gl X x)
    (hdb : (x == ("__debug__" : Str)) = false := by decide) : PMk X (.Call (.Name x p) [] [] pos) (fun _ H Q => Q (.ref C) none H) := by
  intro pins s σ H Q I h
  refine wpAny_Call_Name_kw (ld_glob I hg gC ?_ hdb)
  refine PySem.W.callWith_K0 (first := []) I.kIn kC ?_
  show wpAny _ _ (call (.ref C) []) _ _ _
  obtain ⟨bm, N, nm, qn, bs, hdct, sn, sub, ab, col, dd, k0, k1, k2, k3, k5, mN, hC, hN, hni, T⟩ := exc_obj I.kIn q
  refine wpAny_call_exc_subT F T hC hN hni (fun h' e hm => ?_) (by show 0 ≤ sizeLine; omega)
  exact mk_of I hm r h (I.hok.gone hm.new)
/-- what a law needs of an own error class that has no __init__ -/
structure OwnE (K : PySem.W.Frag) (mg : Str → Option Value) (nm : Str) (C : Addr) : Prop where
  g : mg nm = some (.ref C)
  x : PySem.W.excIn K C [.type "ValueError", .type "Exception", .type "BaseException", .type "object"] "ValueError.__new__" = true
  k : PySem.W.keepIn K (.ref C) = true
  b : PySem.W.subIn K (.ref C) (.type "BaseException") = some true
  t : PySem.W.typeIn K (.ref C) = some (.type "type")
def tRz (C : Addr) (E : XK) : TS := fun _ _ H => E (.ref C) none H
theorem ps_rz {X : Cx} {W : WX} {C : Addr} {x : Str} {p pos pos2 : Pos} (T : OwnE X.K X.mg x C) (hc : X.calm = true) (tk : Takes X W) (hg : Gl X x) (hdb : (x == ("__debug__" : Str)) = false := by decide) : PS X (.Raise (some (.Call (.Name x p) [] [] pos)) none pos2) (fun _ σ H => W (.ref C) none σ H) :=
  ps_raise hc tk (pmk_own0 PySem.F.excBase_ValueError T.x T.g T.k (raises_own T.b T.t) hg hdb)
theorem r_rz {C : Addr} {E : XK} {D : Ends} {σ : L2.St} {H : Hp} (h : E (.ref C) none H) : tRz C E D σ H := h
/-- isinstance of a caught error -/
def rIsX (K : PySem.W.Frag) (a : Addr) (cls : Value) (d : Option Addr) : List V → Hp → VK → Prop := fun xs H Q => ∃ D : Addr, cls = .ref D ∧ d = none ∧ ExcC K D ∧ rIsE K D a xs H Q
theorem call_isX {X : Cx} {a : Addr} {cls : Value} {d : Option Addr} {oe : Obj} {pn : List (Addr × Obj)} (hz : Zc cls d oe) (hf : ∃ vs, oe.data = .fields vs) : CallR (X.suite a ((a, oe) :: pn)) (.builtin "isinstance") (rIsX X.K a cls d) := by
  intro pins s σ H xs us Q I r h
  obtain ⟨D, rfl, rfl, C, h⟩ := h
  exact call_isE C hz hf pins s σ H xs us Q I r h
theorem r_isX {K : PySem.W.Frag} {a D : Addr} {c : V} {cv : Value} {b : Bool} {H : Hp} {Q : VK} (C : ExcC K D) (hk : PySem.W.kitOne K (.ref D) cv = some b) (hc : ∀ u, RelV c u → u = cv) (q : Q (.bl b) H) : rIsX K a (.ref D) none [.ref a, c] H Q :=
  ⟨D, rfl, rfl, C, c, cv, b, rfl, hc, hk, q⟩
theorem rel_ref (D : Addr) : ∀ u, RelV (.ref D) u → u = .ref D := fun u h => h
theorem rel_ty (T : String) : ∀ u, RelV (.ty T) u → u = .type T := fun u h => h
theorem kit_ref {K : PySem.W.Frag} {C D : Addr} {b : Bool} (hd : PySem.W.hasDictIn K D = true) (ht : PySem.W.typeIn K (.ref D) = some (.type "type")) (hs : PySem.W.subIn K (.ref D) (.ref D) = some true) (h : PySem.W.subIn K (.ref C) (.ref D) = some b) : PySem.W.kitOne K (.ref C) (.ref D) = some b := by
  obtain ⟨cd, hc, _⟩ := PySem.W.any_some hd
  have e2 : ((PySem.W.clsIn K D).isSome && PySem.W.typeIn K (.ref D) == some (.type "type")) = true := by rw [hc, ht] <;> rfl
  unfold PySem.W.kitOne
  by_cases e : (Value.ref C == Value.ref D) = true
  · rw [if_pos e]
    have e' : C = D := Value.ref.inj (beq_iff_eq.mp e)
    subst e'
    rw [hs] at h
    exact h
  · rw [if_neg e]
    show (if ((PySem.W.clsIn K D).isSome && PySem.W.typeIn K (.ref D) == some (.type "type")) = true then PySem.W.subIn K (.ref C) (.ref D) else none) = some b
    rw [if_pos e2]
    exact h
theorem kit_ve {K : PySem.W.Frag} {C : Addr} (h : PySem.W.subIn K (.ref C) (.type "ValueError") = some true) : PySem.W.kitOne K (.ref C) (.type "ValueError") = some true := by
  unfold PySem.W.kitOne
  rw [if_neg (fun h => by have := beq_iff_eq.mp h; cases this)]
  show (if PySem.W.kitMeta "ValueError" = true then PySem.W.subIn K (.ref C) (.type "ValueError") else none) = some true
  rw [if_pos (by decide +kernel)]
  exact h
/-- try: .. except x as n: .. -/
def tTryAs (K : PySem.W.Frag) (c : Value) (i : Nat) (tb : WX → TS) (ts : Addr → Value → Option Addr → TS) : TS := fun D σ H => tb (wAs K c i ts (fun _ _ _ _ => False) D) D σ H
theorem r_tryAs {K : PySem.W.Frag} {c : Value} {i : Nat} {tb : WX → TS} {ts : Addr → Value → Option Addr → TS} {D : Ends} {σ : L2.St} {H : Hp} (h : tb (wAs K c i ts (fun _ _ _ _ => False) D) D σ H) : tTryAs K c i tb ts D σ H := h
/-- the clause takes it -/
theorem w_as {K : PySem.W.Frag} {c cls : Value} {i : Nat} {ts : Addr → Value → Option Addr → TS} {Wout : WX} {D : Ends} {d : Option Addr} {σ : L2.St} {H : Hp} (hm : PySem.W.exmOne K cls c = some true)
    (h : ∀ a, H a = none → ts a cls d { nx := fun σ' H' => D.nx (σ'.set i none) H', rt := D.rt, bk := fun σ' H' => D.bk (σ'.set i none) H', ct := fun σ' H' => D.ct (σ'.set i none) H' } (σ.set i (some (.ref a))) H) : wAs K c i ts Wout D cls d σ H :=
  ⟨true, hm, fun _ => h, fun z => by cases z⟩
theorem w_as_not {K : PySem.W.Frag} {c cls : Value} {i : Nat} {ts : Addr → Value → Option Addr → TS} {Wout : WX} {D : Ends} {d : Option Addr} {σ : L2.St} {H : Hp} (hm : PySem.W.exmOne K cls c = some false) (h : Wout cls d σ H) : wAs K c i ts Wout D cls d σ H :=
  ⟨false, hm, fun z => (by cases z), fun _ => h⟩
def tTryOnly (K : PySem.W.Frag) (c : Value) (tb : WX → TS) (ts : Addr → Value → Option Addr → TS) : TS := fun D σ H => tb (wOnly K c ts (fun _ _ _ _ => False) D) D σ H
theorem r_tryOnly {K : PySem.W.Frag} {c : Value} {tb : WX → TS} {ts : Addr → Value → Option Addr → TS} {D : Ends} {σ : L2.St} {H : Hp} (h : tb (wOnly K c ts (fun _ _ _ _ => False) D) D σ H) : tTryOnly K c tb ts D σ H := h
theorem w_only {K : PySem.W.Frag} {c cls : Value} {ts : Addr → Value → Option Addr → TS} {Wout : WX} {D : Ends} {d : Option Addr} {σ : L2.St} {H : Hp} (hm : PySem.W.exmOne K cls c = some true) (h : ∀ a, H a = none → ts a cls d D σ H) : wOnly K c ts Wout D cls d σ H :=
  ⟨true, hm, fun _ => h, fun z => by cases z⟩
theorem r_callS {sp : Sp} {E : L2.St → XK} {ta : TA} {σ : L2.St} {H : Hp} {Q : VK} (h : ta σ H fun vs H1 => sp vs H1 Q (E σ)) : tCallS sp E ta σ H Q := h
end RB

set_option linter.all false
set_option maxRecDepth 100000
/-! Methods and makings inside a try: what they let out may ask of the slots. -/
namespace RB
open PySem PySem.Spec PyProof.Rows L2
def tMethS (C : Addr) (m : Str) (sp : Sp) (E : L2.St → XK) (ta : TE) (t : TA) : TE := fun τ G Q => ta τ G fun y G1 => ∃ a dx fs, y = .ref a ∧ G1 a = some (.ins C dx fs) ∧ fs.lookup m = none ∧ t τ G1 fun ws G2 => sp (y :: ws) G2 Q (E τ)
def tMakeS (C : Addr) (sp : Sp) (E : L2.St → XK) (t : TA) : TE := fun τ G Q => t τ G fun ws G1 => ∀ x dx, G1 x = none → G1 dx = none → dx ≠ x → sp (.ref x :: ws) (upd (upd G1 dx (.own x)) x (.ins C dx [])) (fun v G2 => v = .non ∧ Q (.ref x) G2) (E τ)
section
variable {X : Cx} {CX : CXT} {k : Nat} {g C : Addr} {fd : FuncData} {ps : List Str} {sp : Sp} {E : L2.St → XK} {x m : Str} {np cp ap : Pos} {a o : Expr} {as : List Expr} {to : TE} {t : TA}
theorem pe_methS {pl : Sem Bool} (ho : PE X o to) (c : Cls X.K C) (hm : Meth X.K C m g) (F : FnOk X.prog X.w X.K X.mg X.base CX k g fd ps sp) (hr : Room k X.A) (hb : Binds X.K fd ps []) (hx : ∀ τ, PassesAt CX X τ (E τ)) (ha : PA X (a :: as) t)
    (h1 : starEach (a :: as) X.env = (false, eval a X.env) :: starEach as X.env := by rfl) (h2 : (backTo cp (starEach as X.env)).any (·.1) = false := by rfl)
    (h3 : eval (.Call (.Attribute o m ap) (a :: as) [] cp) X.env = (do
      let recv ← eval o X.env
      standAt ap.atName
      let (callee, pre) ← holding [recv] (getMethod recv m pl)
      callWith cp callee pre (backTo cp (starEach (a :: as) X.env)) (backToKw cp (keywordEach [] X.env))) := by rfl) :
    PE X (.Call (.Attribute o m ap) (a :: as) [] cp) (tMethS C m sp E to t) := by
  constructor
  intro pins s τ G Q I h
  refine PySem.W.methodCall_KW (pl := pl) (thn (ho.run pins s τ G _ I h) ?_) h3
  rintro u s1 ⟨y, G1, I1, ry, b, dx, fs, rfl, eb, l, q⟩
  cases (show u = Value.ref b from ry)
  apply getmeth_ok I1 eb c hm l
  refine PySem.W.callWith_K (first := [.ref b]) (h₀ := X.base) I.ok.mod.kin hm.kp (thn (ha.run cp pins s1 τ G1 _ I1 q) ?_) h1 h2
  rintro us s2 ⟨ws, G2, I2, rw_, q2⟩
  exact ⟨I2.kIn, run_fnS (us := .ref b :: us) (vs := .ref b :: ws) F hr hb (hx τ) I2 (.cons rfl rw_) q2⟩
theorem pe_makeS (M : Mk X.K C g) (F : FnOk X.prog X.w X.K X.mg X.base CX k g fd ps sp) (hr : Room (k + 1) X.A) (hg : Gl X x) (hm : X.mg x = some (.ref C)) (hb : Binds X.K fd ps []) (hx : ∀ τ, PassesAt CX X τ (E τ)) (ha : PA X (a :: as) t)
    (hdb : (x == ("__debug__" : Str)) = false := by decide) (h1 : starEach (a :: as) X.env = (false, eval a X.env) :: starEach as X.env := by rfl) (h2 : (backTo cp (starEach as X.env)).any (·.1) = false := by rfl) :
    PE X (.Call (.Name x np) (a :: as) [] cp) (tMakeS C sp E t) := by
  constructor
  intro pins s τ G Q I h
  apply wpAny_Call_Name_kw
  refine ld_glob I hg hm ?_ hdb
  refine PySem.W.callWith_K (h₀ := X.base) I.ok.mod.kin M.kp (thn (ha.run cp pins s τ G _ I h) ?_) h1 h2
  rintro us s1 ⟨ws, G1, I1, rw_, q⟩
  refine ⟨I1.kIn, ?_⟩
  show wpAny _ _ (call (.ref C) us) _ _ _
  have z := I1.hok.fresh (a := s1.heap.objs.size) (Nat.le_refl _)
  have z1 := I1.hok.fresh (a := s1.heap.objs.size + 1) (Nat.le_succ _)
  have q1 := q _ _ z1 z (Nat.ne_of_lt (Nat.lt_succ_self _))
  have I2 := Inv.made (C := C) I1
  have rr : Vals (V.ref (s1.heap.objs.size + 1) :: ws) (Value.ref (s1.heap.objs.size + 1) :: us) := .cons rfl rw_
  have len : ((Value.ref (s1.heap.objs.size + 1) :: us) ++ []).length = ps.length := by
    rw [List.append_nil, ← rr.length]
    exact F.len _ _ _ _ q1
  have bd := hb _ (Value.ref (s1.heap.objs.size + 1) :: us) I2.kIn len
  rw [List.append_nil] at bd
  apply wpAny_call
  refine make_map (f := g) I1.kIn M.makes M.init (beq_iff_eq.mp M.fn) (codeAny_mono (F.run _ X.stack _ _ ⟨Value.ref (s1.heap.objs.size + 1) :: us, []⟩ (Value.ref (s1.heap.objs.size + 1) :: us) _ _ (E τ) (hr.make C us []) (I2.env0.make C us []) bd rr q1) ?_)
  intro r s2 hq
  cases r with
  | error e => exact hx τ pins _ _ e s2 I2 hq
  | ok fl =>
    cases fl with
    | ret u =>
      obtain ⟨v, G3, I3, rv, rfl, q3⟩ := I2.after hq
      exact ⟨rv, V.ref (s1.heap.objs.size + 1), G3, I3, rfl, q3⟩
    | next => exact hq.elim
    | brk => exact hq.elim
    | cont => exact hq.elim
end
def MethKS (C : Addr) (m : Str) (sp : Sp) (E : L2.St → XK) (t : TA) (σ : L2.St) (Q : VK) : V → Hp → Prop := fun x H1 => ∃ a dx fs, x = .ref a ∧ H1 a = some (.ins C dx fs) ∧ fs.lookup m = none ∧ t σ H1 fun vs H2 => sp (x :: vs) H2 Q (E σ)
theorem r_methS {C : Addr} {m : Str} {sp : Sp} {E : L2.St → XK} {ta : TE} {t : TA} {σ : L2.St} {H : Hp} {Q : VK} (h : ta σ H (MethKS C m sp E t σ Q)) : tMethS C m sp E ta t σ H Q := h
theorem r_methRS {C : Addr} {m : Str} {sp : Sp} {E : L2.St → XK} {ta : TA} {σ : L2.St} {Q : VK} {H : Hp} {a : Addr} {t b : Int} (h : IsR C H a t b) (h1 : (m == ("top" : Str)) = false) (h2 : (m == ("bottom" : Str)) = false) (q : ta σ H fun vs H2 => sp (.ref a :: vs) H2 Q (E σ)) : MethKS C m sp E ta σ Q (.ref a) H := by
  obtain ⟨dx, h⟩ := h
  exact ⟨a, dx, _, rfl, h, rF_none t b h1 h2, q⟩
def MakeKS (C : Addr) (sp : Sp) (E : XK) (Q : VK) : List V → Hp → Prop := fun vs H1 => ∀ x dx, H1 x = none → H1 dx = none → dx ≠ x → sp (.ref x :: vs) (upd (upd H1 dx (.own x)) x (.ins C dx [])) (fun v H2 => v = .non ∧ Q (.ref x) H2) E
theorem r_makeS {C : Addr} {sp : Sp} {E : L2.St → XK} {ta : TA} {σ : L2.St} {H : Hp} {Q : VK} (h : ta σ H (MakeKS C sp (E σ) Q)) : tMakeS C sp E ta σ H Q := h
end RB

set_option linter.all false
set_option maxRecDepth 100000
/-! Numbers: their fields. -/
namespace RB
open PySem PySem.Spec PyProof.Rows L2
open Evl (Ex rLenS rListS rMax2 tCut pss_cut)
def nF (l a b : Addr) : List (Str × V) := [("poly", .ref l), ("low", .ref a), ("high", .ref b)]
/-- a number: its polynomial's list, its ends -/
def IsN (C : Addr) (H : Hp) (p l a b : Addr) : Prop := ∃ dx, H p = some (.ins C dx (nF l a b))
theorem IsN.ex {C : Addr} {H H' : Hp} {p l a b : Addr} (e : Ex H H') (h : IsN C H p l a b) : IsN C H' p l a b := h.elim fun dx h => ⟨dx, e _ _ h⟩
theorem nF_poly (l a b : Addr) : (nF l a b).lookup ("poly" : Str) = some (.ref l) := by
  unfold nF
  simp [List.lookup]
theorem nF_low (l a b : Addr) : (nF l a b).lookup ("low" : Str) = some (.ref a) := by
  unfold nF
  have e : (("low" : Str) == ("poly" : Str)) = false := by decide +kernel
  simp [List.lookup, e]
theorem nF_high (l a b : Addr) : (nF l a b).lookup ("high" : Str) = some (.ref b) := by
  unfold nF
  have e : (("high" : Str) == ("poly" : Str)) = false := by decide +kernel
  have e2 : (("high" : Str) == ("low" : Str)) = false := by decide +kernel
  simp [List.lookup, e, e2]
theorem n_poly {K : PySem.W.Frag} {C : Addr} {H : Hp} {Q : VK} {p l a b : Addr} (c : Cls K C) (n : NoAttr K C "poly") (h : IsN C H p l a b) (q : Q (.ref l) H) : FldK K "poly" Q (.ref p) H := by
  obtain ⟨dx, h⟩ := h
  exact ⟨p, C, dx, _, _, rfl, h, c, n, nF_poly l a b, q⟩
theorem n_low {K : PySem.W.Frag} {C : Addr} {H : Hp} {Q : VK} {p l a b : Addr} (c : Cls K C) (n : NoAttr K C "low") (h : IsN C H p l a b) (q : Q (.ref a) H) : FldK K "low" Q (.ref p) H := by
  obtain ⟨dx, h⟩ := h
  exact ⟨p, C, dx, _, _, rfl, h, c, n, nF_low l a b, q⟩
theorem n_high {K : PySem.W.Frag} {C : Addr} {H : Hp} {Q : VK} {p l a b : Addr} (c : Cls K C) (n : NoAttr K C "high") (h : IsN C H p l a b) (q : Q (.ref b) H) : FldK K "high" Q (.ref p) H := by
  obtain ⟨dx, h⟩ := h
  exact ⟨p, C, dx, _, _, rfl, h, c, n, nF_high l a b, q⟩
theorem r_isN_ {K : PySem.W.Frag} {C : Addr} {H : Hp} {Q : VK} {p l a b : Addr} (c : Cls K C) (i : InsC K C) (h : IsN C H p l a b) (q : Q (.bl true) H) : rIsi K [.ref p, .ref C] H Q := by
  obtain ⟨dx, h⟩ := h
  exact ⟨.ref p, .ref C, .ref C, .ref C, true, rfl, .own C, .base (.ins h c i.ha i.hn i.ht i.hm), kit_self K (.ref C) (beq_self_eq_true _), q⟩
theorem r_callD {sp : Sp} {dvs : List V} {E : XK} {ta : TA} {σ : L2.St} {H : Hp} {Q : VK} (h : ta σ H fun vs H1 => sp (vs ++ dvs) H1 Q E) : tCall sp dvs E ta σ H Q := h
/-- a number, all of it -/
def IsM (C R : Addr) (H : Hp) (p : Addr) (P : List Int) (t b t2 b2 : Int) : Prop := ∃ l x y, IsN C H p l x y ∧ H l = some (.lst (P.map V.int)) ∧ IsR R H x t b ∧ IsR R H y t2 b2
theorem IsM.ex {C R : Addr} {H H' : Hp} {p : Addr} {P : List Int} {t b t2 b2 : Int} (e : Ex H H') (h : IsM C R H p P t b t2 b2) : IsM C R H' p P t b t2 b2 := by
  obtain ⟨l, x, y, h1, h2, h3, h4⟩ := h
  exact ⟨l, x, y, h1.ex e, e _ _ h2, h3.ex e, h4.ex e⟩
/-- a number that is a fraction, as it is made -/
def FrN (K : PySem.W.Frag) (Cof : String → Addr) (H : Hp) (p : Addr) (t d : Int) : Prop := IsM (Cof "Number") (Cof "Ratio") H p [-t, d] (t - d) d t d
theorem frc_up {n m : Nat} {t d : Int} (h : MN.Frc n t d) (hm : n ≤ m) (h9 : m ≤ 4000) : MN.Frc m t d := ⟨h.d0, h.g1, Nat.lt_of_lt_of_le h.st (Nat.pow_le_pow_right (by decide) hm), Nat.lt_of_lt_of_le h.sd (Nat.pow_le_pow_right (by decide) hm), by have := h.n0; omega, h9⟩
theorem frc_ends {n : Nat} {t d : Int} (h : MN.Frc n t d) : 0 < d ∧ 0 < d ∧ (t - d) * d < t * d ∧ t * d ≤ t * d := ⟨h.d0, h.d0, by
  rw [Int.sub_mul]
  have := Int.mul_pos h.d0 h.d0
  omega, Int.le_refl _⟩
theorem gcd_less {t d : Int} (h : Int.gcd t d = 1) : Int.gcd (t - d) d = 1 := by
  have e : Int.gcd (t - d) d = Int.gcd t d := by
    rw [show t - d = t + (-1) * d by omega]
    simp
  rw [e, h]
/-- a new number is told -/
def RetM (C R : Addr) (P : List Int) (t b t2 b2 : Int) (H : Hp) (Q : VK) : Prop := ∀ p H', H p = none → Ex H H' → IsM C R H' p P t b t2 b2 → Q (.ref p) H'
end RB

set_option linter.all false
set_option maxRecDepth 100000
/-! Figures: texts of whole numbers, filled with noughts, cut. -/
namespace RB
open PySem PySem.Spec PyProof.Rows L2 TL
open PySem.Builtin.Str (tooLong)
def rZfill : V → List V → Hp → VK → Prop := fun x xs H Q => ∃ (a : Str) (i : Int), x = .str a ∧ xs = [.int i] ∧ PadOk i = true ∧ Q (.str (Txt.zfill a i)) H
def numS (W : Nat) : Str := Str.ofString (toString ((W : Nat) : Int))
theorem numS_list (W : Nat) : (numS W).cps.toList = numL W := tl_num W
theorem str_len (z : Str) : z.length = z.cps.toList.length := by
  show z.cps.size = _
  rw [Array.length_toList]
theorem str_ext {a b : Str} (h : a.cps.toList = b.cps.toList) : a = b := by
  cases a; cases b
  simp at h
  rw [h]
theorem app_list (a b : Str) : (a ++ b).cps.toList = a.cps.toList ++ b.cps.toList := by
  show (a.cps ++ b.cps).toList = _
  rw [Array.toList_append]
/-- so many noughts ahead -/
def zs (k : Nat) (t : Str) : Str := ⟨(List.replicate k 48 ++ t.cps.toList).toArray⟩
theorem zs_list (k : Nat) (t : Str) : (zs k t).cps.toList = List.replicate k 48 ++ t.cps.toList := by
  show (List.replicate k 48 ++ t.cps.toList).toArray.toList = _
  rw [List.toList_toArray]
theorem zs_zero (t : Str) : zs 0 t = t := str_ext (by rw [zs_list]; rfl)
theorem zs_succ (k : Nat) (t : Str) : ("0" : Str) ++ zs k t = zs (k + 1) t := str_ext (by rw [app_list, zs_list, zs_list, List.replicate_succ]; rfl)
theorem zs_len (k : Nat) (t : Str) : (zs k t).length = k + t.length := by
  rw [str_len, str_len, zs_list, List.length_append, List.length_replicate]
def padT (t : Str) (n : Nat) : Str := zs (n - t.length) t
theorem padT_len (t : Str) (n : Nat) : (padT t n).length = max n t.length := by
  unfold padT
  rw [zs_len]; omega
theorem zfill_num (W n : Nat) : Txt.zfill (numS W) (n : Int) = padT (numS W) n := by
  unfold Txt.zfill padT
  by_cases h : (n : Int) ≤ ((numS W).length : Int)
  · rw [if_pos h, show n - (numS W).length = 0 by omega, zs_zero]
  · rw [if_neg h, Int.toNat_natCast]
    generalize hk : n - (numS W).length = k
    obtain ⟨c, r, hc⟩ : ∃ c r, numL W = c :: r := by
      cases e : numL W with
      | nil => exact absurd e (numL_ne W)
      | cons c r => exact ⟨c, r, rfl⟩
    have hd : (numS W).cps[0]? = some c := by
      rw [← Array.getElem?_toList, numS_list, hc]; rfl
    have hc0 : 48 ≤ c ∧ c ≤ 57 := by
      have := numL_digits W c (by rw [hc]; exact List.mem_cons_self ..)
      omega
    have e : PySem.zfilled (numS W) k = Builtin.Str.padded (numS W) k 0 48 := by
      unfold PySem.zfilled
      rw [hd]
      split
      · next h1 => cases h1; omega
      · next h1 => cases h1; omega
      · rfl
    first
    | rw [e]
    | (show PySem.zfilled (numS W) k = _; rw [e])
    refine str_ext ?_
    rw [zs_list]
    unfold Builtin.Str.padded
    simp
theorem cut_to {z : Str} {p : Nat} (h1 : 0 < p) (h2 : p ≤ z.length) : cutS z none (some (-(p : Int))) = cutS z none (some ((z.length : Int) - p)) := by
  have e : HT.sIx z.length z.length (some (-(p : Int))) = HT.sIx z.length z.length (some ((z.length : Int) - p)) := by
    show (if -(p : Int) < 0 then (-(p : Int) + (z.length : Int)).toNat else _) = (if (z.length : Int) - p < 0 then _ else min ((z.length : Int) - p).toNat z.length)
    rw [if_pos (by omega), if_neg (by omega)]
    omega
  unfold cutS
  rw [e]
theorem cut_from {z : Str} {p : Nat} (h1 : 0 < p) (h2 : p ≤ z.length) : cutS z (some (-(p : Int))) none = cutS z (some ((z.length : Int) - p)) none := by
  have e : HT.sIx z.length 0 (some (-(p : Int))) = HT.sIx z.length 0 (some ((z.length : Int) - p)) := by
    show (if -(p : Int) < 0 then (-(p : Int) + (z.length : Int)).toNat else _) = (if (z.length : Int) - p < 0 then _ else min ((z.length : Int) - p).toNat z.length)
    rw [if_pos (by omega), if_neg (by omega)]
    omega
  unfold cutS
  rw [e]
theorem cut_len (z : Str) (lo hi : Option Int) : (cutS z lo hi).length ≤ z.length := by
  rw [str_len, str_len]
  unfold cutS
  rw [List.toList_toArray, List.length_take, List.length_drop]
  omega
/-- with the point -/
def ptT (z : Str) (p : Nat) : Str := if 0 < p then cutS z none (some ((z.length : Int) - p)) ++ "." ++ cutS z (some ((z.length : Int) - p)) none else z
/-- the figures -/
def figT (W p : Nat) (neg : Prop) [Decidable neg] : Str := if neg ∧ 0 < W then "-" ++ ptT (padT (numS W) (p + 1)) p else ptT (padT (numS W) (p + 1)) p
theorem r_zfill {z : Str} {n : Nat} {H : Hp} {Q : VK} (h : n ≤ 100000) (q : Q (.str (Txt.zfill z (n : Int))) H) : rZfill (.str z) [.int (n : Int)] H Q := ⟨z, n, rfl, rfl, by
  unfold PadOk
  have h1 : fitsSsize (n : Int) = true := by
    unfold fitsSsize
    simp
    omega
  have h2 : tooLong (n : Int).toNat = false := by
    rw [Int.toNat_natCast]
    unfold tooLong
    exact decide_eq_false (by have := small0 (show n ≤ 16777216 by omega); omega)
  rw [h1, h2]; rfl, q⟩
theorem r_slS {z : Str} {lo hi : Option Int} {H : Hp} {Q : VK} (h : z.length ≤ sizeLine) (q : Q (.str (cutS z lo hi)) H) : rSlS (.str z) lo hi H Q := ⟨z, rfl, h, q⟩
theorem r_lenS {z : Str} {H : Hp} {Q : VK} (h : z.length ≤ sizeLine) (q : Q (.int z.length) H) : rLenStr [.str z] H Q := ⟨z, rfl, h, q⟩
set_option exponentiation.threshold 100000
theorem ten_lt (p : Nat) : ((10 : Int) ^ p).natAbs < 2 ^ (4 * p + 1) := by
  induction p with
  | zero => decide
  | succ p ih =>
    rw [Int.pow_succ, show 4 * (p + 1) + 1 = 4 * p + 1 + 4 by omega]
    exact wide_lt ih (by decide)
theorem ten_pos (p : Nat) : (0 : Int) < 10 ^ p := Int.pow_pos (by decide)
/-- what is rounded -/
def rndV (t d : Int) (p : Nat) : Int := (2 * (t.natAbs : Int) * 10 ^ p + d).fdiv (2 * d)
theorem rnd_nonneg {t d : Int} {p : Nat} (hd : 0 < d) : 0 ≤ rndV t d p := by
  obtain ⟨h1, h2⟩ := fdiv_two (p := 2 * (t.natAbs : Int) * 10 ^ p + d) (show 0 < 2 * d by omega)
  have h3 : 0 ≤ 2 * (t.natAbs : Int) * 10 ^ p := Int.mul_nonneg (by omega) (by have : (0 : Int) < 10 ^ p := Int.pow_pos (by decide); omega)
  unfold rndV
  generalize (2 * (t.natAbs : Int) * 10 ^ p + d).fdiv (2 * d) = w at *
  apply Classical.byContradiction
  intro hh
  have := Int.mul_le_mul_of_nonneg_right (show w + 1 ≤ 0 by omega) (show 0 ≤ 2 * d by omega)
  omega
theorem rnd_lt {t d : Int} {p n : Nat} (hd : 0 < d) (st : t.natAbs < 2 ^ n) (sd : d.natAbs < 2 ^ n) (hp : p ≤ 100) : (2 * (t.natAbs : Int)).natAbs < 2 ^ (n + 1) ∧ (2 * (t.natAbs : Int) * 10 ^ p + d).natAbs < 2 ^ (n + 403) ∧ (rndV t d p).natAbs < 2 ^ (n + 403) := by
  have h1 : (2 * (t.natAbs : Int)).natAbs < 2 ^ (n + 1) := by rw [Nat.pow_succ]; omega
  have h2 := wide_lt h1 (ten_lt p)
  have h3 : (2 : Nat) ^ (n + 1 + (4 * p + 1)) ≤ 2 ^ (n + 402) := Nat.pow_le_pow_right (by decide) (by omega)
  have h4 : (2 : Nat) ^ n ≤ 2 ^ (n + 402) := Nat.pow_le_pow_right (by decide) (by omega)
  have h5 : (2 * (t.natAbs : Int) * 10 ^ p + d).natAbs < 2 ^ (n + 403) := by
    rw [show n + 403 = n + 402 + 1 by omega, Nat.pow_succ]
    omega
  refine ⟨h1, h5, Nat.lt_of_le_of_lt (fdiv_abs (by omega)) h5⟩
theorem num_len {W : Nat} {k : Nat} (h : W < 2 ^ k) (hk : 0 < k ∧ k ≤ 1920) : (numS W).length ≤ 1921 := by
  refine text_len ?_
  have : ((W : Nat) : Int).natAbs = W := by omega
  rw [this]
  exact Nat.lt_of_lt_of_le (PySem.Flt.log2_lt_of hk.1 h) hk.2
theorem figT_congr {W p : Nat} {A B : Prop} [Decidable A] [Decidable B] (h : A ↔ B) : figT W p A = figT W p B := by
  unfold figT
  by_cases ha : A
  · have hb := h.mp ha
    by_cases hW : 0 < W
    · rw [if_pos ⟨ha, hW⟩, if_pos ⟨hb, hW⟩]
    · rw [if_neg fun z => hW z.2, if_neg fun z => hW z.2]
  · have hb : ¬ B := fun z => ha (h.mpr z)
    rw [if_neg fun z => ha z.1, if_neg fun z => hb z.1]
/-- of a fraction as it is made: the same figures -/
theorem fig_made {t b : Int} {p : Nat} (hb : 0 < b) : figT (rndV (rT t b) (rB t b) p).toNat p (rT t b < 0) = figT (rndV t b p).toNat p (t < 0) := by
  have q := rB_pos (t := t) (b := b) (by omega)
  have x := r_cross (t := t) (b := b) (by omega)
  have e : rndV (rT t b) (rB t b) p = rndV t b p := by
    unfold rndV
    have xa : ((rT t b).natAbs : Int) * b = (t.natAbs : Int) * rB t b := by
      have h1 : ((rT t b * b).natAbs : Int) = ((t * rB t b).natAbs : Int) := by rw [x]
      rw [Int.natAbs_mul, Int.natAbs_mul, Int.natCast_mul, Int.natCast_mul] at h1
      have h2 : ((b.natAbs : Nat) : Int) = b := by omega
      have h3 : (((rB t b).natAbs : Nat) : Int) = rB t b := by omega
      rw [h2, h3] at h1
      exact h1
    refine MX.fd_cross (by omega) (by omega) ?_
    generalize rT t b = P at *
    generalize rB t b = S at *
    generalize (10 : Int) ^ p = T
    have f : (2 * (P.natAbs : Int) * T + S) * (2 * b) = 2 * T * 2 * ((P.natAbs : Int) * b) + 2 * S * b := by grind
    rw [f, xa]
    grind
  have hs : rT t b < 0 ↔ t < 0 := by
    constructor
    · intro h
      apply Classical.byContradiction
      intro hh
      have h1 := Int.mul_neg_of_neg_of_pos h hb
      have h2 := Int.mul_nonneg (show 0 ≤ t by omega) (show 0 ≤ rB t b by omega)
      omega
    · intro h
      apply Classical.byContradiction
      intro hh
      have h1 := Int.mul_nonneg (show 0 ≤ rT t b by omega) (show 0 ≤ b by omega)
      have h2 := Int.mul_neg_of_neg_of_pos h q
      omega
  rw [e, figT_congr hs]
theorem tyS (K : PySem.W.Frag) (z : Str) (H : Hp) : tyV K "str" (.str z) H := rfl
end RB

set_option linter.all false
set_option maxRecDepth 100000
set_option maxHeartbeats 4000000
set_option exponentiation.threshold 100000
namespace RP
open PySem PySem.Spec PyProof.Rows L2 RB
open Evl (Ex rLenS rListS rMax2 tCut pss_cut)
local macro_rules | `(tactic| walk_at "ir") => `(tactic| first
  | assumption
  | exact IsR.ex (by assumption) (by walk_at "ir"))
local macro_rules | `(tactic| walk_at "hp") => `(tactic| first
  | assumption
  | exact hx_e (by assumption) (by walk_at "hp")
  | exact hx_b (by assumption) (by walk_at "ne") (by walk_at "hp"))
local macro_rules | `(tactic| walk_at "ne") => `(tactic| first
  | assumption
  | exact Ne.symm (by assumption)
  | exact ne_1 (by assumption) (by walk_at "hp")
  | exact ne_2 (by assumption) (by walk_at "hp"))
local macro_rules | `(tactic| walk_at "sq") => `(tactic| first
  | assumption
  | exact Fx.l (by assumption) (by assumption)
  | exact Evl.Ex.l (by assumption) (by assumption)
  | exact SqL.inj (by walk_at "hp"))
local macro_rules | `(tactic| walk_at "rd") => `(tactic| repeat (first
  | with_reducible refine r_seq ?_
  | with_reducible refine r_asg ?_
  | with_reducible refine r_gn ?_
  | ((with_reducible refine' r_var ?h ?_); (case h => exact rfl))
  | with_reducible refine r_c ?_
  | with_reducible refine r_op ?_
  | with_reducible refine r_un ?_
  | with_reducible refine r_add ?_
  | with_reducible refine r_sub ?_
  | ((with_reducible refine' r_pow ?h ?_); (case h => exact ⟨by decide, by decide, by decide⟩))
  | ((with_reducible refine' r_mod ?h ?_); (case h => first | decide | omega))
  | ((with_reducible refine' r_div ?h ?_); (case h => exact ⟨by decide, by decide⟩))
  | with_reducible refine r_lc ?_
  | ((with_reducible refine' r_cListA ?h ?_); (case h => walk_at "sq"))
  | with_reducible refine r_lt ?_
  | with_reducible refine r_le ?_
  | with_reducible refine r_gt ?_
  | with_reducible refine r_ge ?_
  | with_reducible refine r_eqI ?_
  | with_reducible refine r_neI ?_
  | with_reducible refine r_eqB ?_
  | with_reducible refine r_eqS ?_
  | with_reducible refine r_neg ?_
  | with_reducible refine r_ret ?_
  | with_reducible refine r_ifS ?_
  | with_reducible refine r_test ?_
  | with_reducible refine r_B ?_
  | with_reducible refine r_bl ?_
  | with_reducible refine r_int ?_
  | with_reducible refine r_cb ?_
  | with_reducible refine r_cons ?_
  | with_reducible refine r_nil ?_
  | with_reducible refine r_abs ?_
  | with_reducible refine r_max2 ?_
  | with_reducible refine r_min2 ?_
  | ((with_reducible refine' r_lenI ?h ?_); (case h => walk_at "sq"))
  | ((with_reducible refine' r_len ?h ?_); (case h => walk_at "sq"))
  | with_reducible refine r_tru ?_
  | with_reducible refine r_rev ?_
  | with_reducible refine r_iRng3 ?_
  | ((with_reducible refine' r_ixL ?h ?a ?_); (case h => walk_at "sq"); (case a => assumption))
  | ((with_reducible refine' r_ixT ?h ?a ?_); (case h => walk_at "sq"); (case a => assumption))
  | with_reducible refine r_intI ?_
  | with_reducible refine r_intB ?_
  | with_reducible refine r_call ?_
  | with_reducible refine r_lst ?_
  | with_reducible refine r_tup ?_
  | with_reducible refine r_drop ?_
  | with_reducible refine r_and ?_
  | with_reducible refine r_or ?_
  | with_reducible refine r_not ?_
  | with_reducible refine r_andV ?_
  | with_reducible refine r_orV ?_
  | with_reducible refine r_notV ?_
  | with_reducible refine r_if ?_
  | with_reducible refine r_bm ?_
  | with_reducible refine r_bm0 ?_
  | with_reducible refine r_sub_ ?_
  | with_reducible refine r_sl ?_
  | with_reducible refine r_part ?_
  | with_reducible refine r_nopart ?_
  | with_reducible refine r_par ?_
  | with_reducible refine r_par2 ?_
  | with_reducible refine r_for ?_
  | with_reducible refine r_iList ?_
  | ((with_reducible refine' r_iListA ?h ?_); (case h => walk_at "sq"))
  | with_reducible refine r_iTup ?_
  | ((with_reducible refine' r_iTupA ?h ?_); (case h => walk_at "sq"))
  | with_reducible refine r_iRng1 ?_
  | with_reducible refine r_iRng2 ?_
  | with_reducible refine r_iRev ?_
  | ((with_reducible refine' r_iRevA ?h ?_); (case h => walk_at "sq"))
  | with_reducible refine r_iEnum ?_
  | ((with_reducible refine' r_iEnumA ?h ?_); (case h => walk_at "sq"))
  | with_reducible refine r_iRevR ?_
  | with_reducible refine r_rg1 ?_
  | with_reducible refine r_make ?_
  | with_reducible refine r_fld ?_
  | with_reducible refine r_sfld ?_
  | with_reducible refine r_meth ?_
  | ((with_reducible refine' r_top ?c ?n ?h ?_); (case c => assumption); (case n => assumption); (case h => walk_at "ir"))
  | ((with_reducible refine' r_bottom ?c ?n ?h ?_); (case c => assumption); (case n => assumption); (case h => walk_at "ir"))
  | ((with_reducible refine' r_methR ?h ?h1 ?h2 ?_); (case h => walk_at "ir"); (case h1 => decide +kernel); (case h2 => decide +kernel))
  | with_reducible refine r_next ?_
  | ((with_reducible refine' r_ty ?h ?_); (case h => exact tyL (by walk_at "hp")))
  | with_reducible refine i_t ?_
  | with_reducible refine i_f ?_
  | with_reducible refine i_nt ?_
  | with_reducible refine i_nf ?_
  | walk_at "call"))
structure ExT (K : PySem.W.Frag) (Cof : String → Addr) : Prop where
  cl_Ratio : Cls K (Cof "Ratio")
  is_Ratio : InsC K (Cof "Ratio")
  cl_Number : Cls K (Cof "Number")
  is_Number : InsC K (Cof "Number")
  n_Number_high : NoAttr K (Cof "Number") "high"
  n_Number_low : NoAttr K (Cof "Number") "low"
  n_Number_poly : NoAttr K (Cof "Number") "poly"
  n_Ratio_bottom : NoAttr K (Cof "Ratio") "bottom"
  n_Ratio_top : NoAttr K (Cof "Ratio") "top"

/-! #### shared -/
--USE MG
def sp_shared (K : PySem.W.Frag) (Cof : String → Addr) : Sp := fun vs H Q _ => ∃ (a : Addr) (ns : List Int), vs = [.ref a] ∧ SqL K H a (ns.map V.int) ∧ Q (.int (MG.gcdL ns)) H
def t_shared (K : PySem.W.Frag) (Cof : String → Addr) (E : XK) : TS :=
  tSeq (tAsg (tC (.int 0)) (gName 1))
  (tSeq (tFor (iList K (tVar 0)) (gName 2) (tWhile (tTest (tOp rNe (tVar 2) (tC (.int 0)))) (tSeq (tAsg (tOp rMod (tVar 1) (tVar 2)) (gName 3))
  (tSeq (tAsg (tVar 2) (gName 1))
  (tAsg (tVar 3) (gName 2))))))
  (tRet (tCB rAbs (tCons (tVar 1) (tNil)))))

section
variable {K : PySem.W.Frag} {Cof : String → Addr} {vs : List V} {H : Hp} {Q : VK} {E : XK}
theorem len_shared (h : sp_shared K Cof vs H Q E) : vs.length = 1 := by
  obtain ⟨a, ns, rfl, _⟩ := h; rfl
theorem rd_shared (h : sp_shared K Cof vs H Q E) : t_shared K Cof E { nx := fun _ H' => Q .non H', rt := Q } (start ["row", "found", "one", "rest"] vs) H := by
  obtain ⟨a, ns, rfl, hS, q⟩ := h
  unfold t_shared
  walk_at "rd"
  refine loop_ints (ns := ns) (fun i σ' H' => ∃ (f : Int) (u r : Option V), σ' = [some (.ref a), some (.int f), u, r] ∧ H' = H ∧ f.natAbs = MG.gcdN (ns.take i)) ⟨0, none, none, rfl, rfl, rfl⟩ (fun i σ' H' _ hp => ?_) (fun i x σ' H' hx hp => ?_) (fun σ' H' hp => ?_)
  · obtain ⟨f, u, r, rfl, rfl, _⟩ := hp; exact hS
  · obtain ⟨f, u, r, rfl, rfl, hf⟩ := hp
    refine r_while (fun m σ2 H2 => ∃ (f o : Int) (r : Option V), σ2 = [some (.ref a), some (.int f), some (.int o), r] ∧ H2 = H' ∧ m = o.natAbs ∧ Int.gcd f o = MG.gcdN (ns.take (i + 1))) x.natAbs ⟨f, x, r, rfl, rfl, rfl, ?_⟩ (fun m σ2 H2 hw => ?_)
    · rw [MG.gcdN_take hx, ← hf]; rfl
    · obtain ⟨f, o, r, rfl, rfl, rfl, hg⟩ := hw
      walk_at "rd"
      refine ite_nd (fun h => wh_in ?_) (fun h => ?_)
      · walk_at "rd"
        exact ⟨_, MG.fmod_lt h, o, f.fmod o, _, rfl, rfl, rfl, by rw [MG.gcd_fmod]; exact hg⟩
      · refine ⟨f, _, _, rfl, rfl, ?_⟩
        rw [← hg, h, Int.gcd_zero_right]
  · obtain ⟨f, u, r, rfl, rfl, hf⟩ := hp
    walk_at "rd"
    rw [List.take_length] at hf
    have e : (if f < 0 then -f else f) = MG.gcdL ns := by
      unfold MG.gcdL
      rw [← hf]
      split <;> omega
    rw [e]
    exact q
end
theorem c_shared {K : PySem.W.Frag} {Cof : String → Addr} {H : Hp} {Q : VK} {E : XK} {a : Addr} {ns : List Int} (h : SqL K H a (ns.map V.int)) (q : Q (.int (MG.gcdL ns)) H) : sp_shared K Cof [.ref a] H Q E := ⟨a, ns, rfl, h, q⟩
local macro_rules | `(tactic| walk_at "call") => `(tactic| ((with_reducible refine' c_shared ?h ?_); (case h => walk_at "sq")))

/-! #### told_order -/
--USE MF
def sp_told_order (K : PySem.W.Frag) (Cof : String → Addr) : Sp := fun vs H Q _ => ∃ l r : Int, vs = [.int l, .int r] ∧ Q (.int (ordI l r)) H
def t_told_order (K : PySem.W.Frag) (Cof : String → Addr) (E : XK) : TS :=
  tSeq (tIfS (tTest (tOp rLt (tVar 0) (tVar 1))) (tRet (tUn rNeg (tC (.int 1)))) (tNext))
  (tRet (tCB rInt1 (tCons (tOp rGt (tVar 0) (tVar 1)) (tNil))))

section
variable {K : PySem.W.Frag} {Cof : String → Addr} {vs : List V} {H : Hp} {Q : VK} {E : XK}
theorem len_told_order (h : sp_told_order K Cof vs H Q E) : vs.length = 2 := by
  obtain ⟨l, r, rfl, _⟩ := h; rfl
theorem rd_told_order (h : sp_told_order K Cof vs H Q E) : t_told_order K Cof E { nx := fun _ H' => Q .non H', rt := Q } (start ["left", "right"] vs) H := by
  obtain ⟨l, r, rfl, q⟩ := h
  unfold t_told_order
  unfold ordI at q
  walk_at "rd"
  refine ite_d (fun h => ?_) (fun h => ?_)
  · walk_at "rd"
    rw [if_pos h] at q
    exact q
  · walk_at "rd"
    rw [if_neg h] at q
    by_cases h2 : r < l
    · rw [if_pos h2] at q
      rw [decide_eq_true h2]; exact q
    · rw [if_neg h2] at q
      rw [decide_eq_false h2]; exact q
theorem c_told_order {l r : Int} (q : Q (.int (ordI l r)) H) : sp_told_order K Cof [.int l, .int r] H Q E := ⟨l, r, rfl, q⟩
end
local macro_rules | `(tactic| walk_at "call") => `(tactic| with_reducible refine c_told_order ?_)

/-! #### Ratio.__init__ -/
--USE RC
def sp_Ratio___init__ (K : PySem.W.Frag) (Cof : String → Addr) : Sp := fun vs H Q _ => ∃ (x dx : Addr) (t b : Int) (n : Nat), vs = [.ref x, .int t, .int b] ∧ H x = some (.ins (Cof "Ratio") dx []) ∧ b ≠ 0 ∧ (b.natAbs < 2 ^ n ∧ 0 < n ∧ n ≤ 9000) ∧ ∀ H', Exb x H H' → H' x = some (.ins (Cof "Ratio") dx (rF (rT t b) (rB t b))) → Q .non H'
def t_Ratio___init__ (K : PySem.W.Frag) (Cof : String → Addr) (E : XK) : TS :=
  tSeq (tIfS (tTest (tOp rEq (tVar 2) (tC (.int 0)))) (tNever) (tNext))
  (tSeq (tAsg (tCall (sp_shared K Cof) [] E0 (tCons (tLst (tCons (tVar 1) (tCons (tVar 2) (tNil)))) (tNil))) (gName 3))
  (tCut (tIfS (tTest (tOp rLt (tVar 2) (tC (.int 0)))) (tAsg (tUn rNeg (tVar 3)) (gName 3)) (tNext))
  (tSeq (sFld K (tVar 0) (tOp rDiv (tVar 1) (tVar 3)) "top")
  (sFld K (tVar 0) (tOp rDiv (tVar 2) (tVar 3)) "bottom"))))

section
variable {K : PySem.W.Frag} {Cof : String → Addr} {vs : List V} {H : Hp} {Q : VK} {E : XK}
theorem len_Ratio___init__ (h : sp_Ratio___init__ K Cof vs H Q E) : vs.length = 3 := by
  obtain ⟨x, dx, t, b, n, rfl, _⟩ := h; rfl
theorem rd_Ratio___init__ (X : ExT K Cof) (h : sp_Ratio___init__ K Cof vs H Q E) : t_Ratio___init__ K Cof E { nx := fun _ H' => Q .non H', rt := Q } (start ["self", "top", "bottom", "part"] vs) H := by
  obtain ⟨x, dx, t, b, n, rfl, hx, hb, ⟨bn, n0, n9⟩, q⟩ := h
  unfold t_Ratio___init__
  walk_at "rd"
  refine ite_d (fun h => absurd h hb) (fun _ => ?_)
  walk_at "rd"
  refine r_lstK fun p1 H1 hp1 e1 h1 => ?_
  walk_at "rd"
  refine c_shared (ns := [t, b]) (SqL.inj h1) ?_
  walk_at "rd"
  refine ⟨fun σ' H' => σ' = [some (.ref x), some (.int t), some (.int b), some (.int (rG t b))] ∧ H' = H1, ?_, fun σ' H' hM => ?_⟩
  · walk_at "rd"
    unfold rG
    refine ite_d (fun h => ?_) (fun h => ?_)
    · walk_at "rd"
      rw [if_pos h]
      exact ⟨rfl, rfl⟩
    · walk_at "rd"
      rw [if_neg h]
      exact ⟨rfl, rfl⟩
  obtain ⟨rfl, rfl⟩ := hM
  have hd : CDivA t (rG t b) := ⟨rG_ne hb, Nat.lt_of_lt_of_le (rG_log hb n0 bn) n9⟩
  walk_at "rd"
  refine r_div hd ?_
  walk_at "rd"
  refine ⟨x, Cof "Ratio", dx, [], rfl, e1 _ _ hx, X.cl_Ratio, X.n_Ratio_top, (by show 0 < 1000; decide), ?_⟩
  walk_at "rd"
  refine r_div hd ?_
  walk_at "rd"
  refine ⟨x, Cof "Ratio", dx, _, rfl, upd_same, X.cl_Ratio, X.n_Ratio_bottom, (by show 1 < 1000; decide), ?_⟩
  refine q _ (fun a n o h => ?_) ?_
  · rw [upd_ne n, upd_ne n]
    exact e1 _ _ h
  · rw [upd_same]
    rfl
end
theorem c_Ratio {K : PySem.W.Frag} {Cof : String → Addr} {H : Hp} {Q : VK} {E : XK} {t b : Int} (n : Nat) (hb : b ≠ 0) (bn : b.natAbs < 2 ^ n) (n0 : 0 < n) (n9 : n ≤ 9000) (q : RetR (Cof "Ratio") (rT t b) (rB t b) H Q) : MakeK (Cof "Ratio") (sp_Ratio___init__ K Cof) [] E Q [.int t, .int b] H := fun x dx hx hdx hne =>
  ⟨x, dx, t, b, n, rfl, upd_same, hb, ⟨bn, n0, n9⟩, fun H' e h => ⟨rfl, q x H' hx (fun a o ha => e a (ne_of_none ha hx) o (by
    rw [upd_ne (ne_of_none ha hx), upd_ne (ne_of_none ha hdx)]
    exact ha)) ⟨dx, h⟩⟩⟩
theorem c_Ratio1 {K : PySem.W.Frag} {Cof : String → Addr} {H : Hp} {Q : VK} {E : XK} {t : Int} (q : RetR (Cof "Ratio") (rT t 1) (rB t 1) H Q) : MakeK (Cof "Ratio") (sp_Ratio___init__ K Cof) [.int 1] E Q [.int t] H := fun x dx hx hdx hne =>
  ⟨x, dx, t, 1, 1, rfl, upd_same, by decide, ⟨by decide, by decide, by decide⟩, fun H' e h => ⟨rfl, q x H' hx (fun a o ha => e a (ne_of_none ha hx) o (by
    rw [upd_ne (ne_of_none ha hx), upd_ne (ne_of_none ha hdx)]
    exact ha)) ⟨dx, h⟩⟩⟩
/-- two fractions that a deed can take -/
structure RSz (n : Nat) (t b u v : Int) : Prop where
  st : t.natAbs < 2 ^ n
  sb : b.natAbs < 2 ^ n
  su : u.natAbs < 2 ^ n
  sv : v.natAbs < 2 ^ n
  n0 : 0 < n
  n9 : n ≤ 4400
  b0 : b ≠ 0
  v0 : v ≠ 0

/-! #### Ratio.plus -/
def sp_Ratio_plus (K : PySem.W.Frag) (Cof : String → Addr) : Sp := fun vs H Q _ => ∃ (a c : Addr) (t b u v : Int) (n : Nat), vs = [.ref a, .ref c] ∧ IsR (Cof "Ratio") H a t b ∧ IsR (Cof "Ratio") H c u v ∧ RSz n t b u v ∧ RetR (Cof "Ratio") (rT (t * v + u * b) (b * v)) (rB (t * v + u * b) (b * v)) H Q
def t_Ratio_plus (K : PySem.W.Frag) (Cof : String → Addr) (E : XK) : TS :=
  tRet (tMake (Cof "Ratio") (sp_Ratio___init__ K Cof) [] E0 (tCons (tOp rIAdd (tOp rMul (tFld K (tVar 0) "top") (tFld K (tVar 1) "bottom")) (tOp rMul (tFld K (tVar 1) "top") (tFld K (tVar 0) "bottom"))) (tCons (tOp rMul (tFld K (tVar 0) "bottom") (tFld K (tVar 1) "bottom")) (tNil))))

section
variable {K : PySem.W.Frag} {Cof : String → Addr} {vs : List V} {H : Hp} {Q : VK} {E : XK}
theorem len_Ratio_plus (h : sp_Ratio_plus K Cof vs H Q E) : vs.length = 2 := by
  obtain ⟨a, c, t, b, u, v, n, rfl, _⟩ := h; rfl
theorem rd_Ratio_plus (X : ExT K Cof) (h : sp_Ratio_plus K Cof vs H Q E) : t_Ratio_plus K Cof E { nx := fun _ H' => Q .non H', rt := Q } (start ["self", "other"] vs) H := by
  obtain ⟨a, c, t, b, u, v, n, rfl, hA, hC, s, q⟩ := h
  have cl := X.cl_Ratio
  have nt := X.n_Ratio_top
  have nb := X.n_Ratio_bottom
  have n0 := s.n0
  have n9 := s.n9
  unfold t_Ratio_plus
  walk_at "rd"
  refine r_mul (wide_mul s.st s.sv n0 n0 (by omega)) ?_
  walk_at "rd"
  refine r_mul (wide_mul s.su s.sb n0 n0 (by omega)) ?_
  walk_at "rd"
  refine r_mul (wide_mul s.sb s.sv n0 n0 (by omega)) ?_
  walk_at "rd"
  exact c_Ratio (n + n) (Int.mul_ne_zero s.b0 s.v0) (wide_lt s.sb s.sv) (by omega) (by omega) q
theorem c_Ratio_plus {a c : Addr} {t b u v : Int} (n : Nat) (hA : IsR (Cof "Ratio") H a t b) (hC : IsR (Cof "Ratio") H c u v) (s : RSz n t b u v) (q : RetR (Cof "Ratio") (rT (t * v + u * b) (b * v)) (rB (t * v + u * b) (b * v)) H Q) : sp_Ratio_plus K Cof [.ref a, .ref c] H Q E := ⟨a, c, t, b, u, v, n, rfl, hA, hC, s, q⟩
end

/-! #### Ratio.minus -/
def sp_Ratio_minus (K : PySem.W.Frag) (Cof : String → Addr) : Sp := fun vs H Q _ => ∃ (a c : Addr) (t b u v : Int) (n : Nat), vs = [.ref a, .ref c] ∧ IsR (Cof "Ratio") H a t b ∧ IsR (Cof "Ratio") H c u v ∧ RSz n t b u v ∧ RetR (Cof "Ratio") (rT (t * v - u * b) (b * v)) (rB (t * v - u * b) (b * v)) H Q
def t_Ratio_minus (K : PySem.W.Frag) (Cof : String → Addr) (E : XK) : TS :=
  tRet (tMake (Cof "Ratio") (sp_Ratio___init__ K Cof) [] E0 (tCons (tOp rISub (tOp rMul (tFld K (tVar 0) "top") (tFld K (tVar 1) "bottom")) (tOp rMul (tFld K (tVar 1) "top") (tFld K (tVar 0) "bottom"))) (tCons (tOp rMul (tFld K (tVar 0) "bottom") (tFld K (tVar 1) "bottom")) (tNil))))

section
variable {K : PySem.W.Frag} {Cof : String → Addr} {vs : List V} {H : Hp} {Q : VK} {E : XK}
theorem len_Ratio_minus (h : sp_Ratio_minus K Cof vs H Q E) : vs.length = 2 := by
  obtain ⟨a, c, t, b, u, v, n, rfl, _⟩ := h; rfl
theorem rd_Ratio_minus (X : ExT K Cof) (h : sp_Ratio_minus K Cof vs H Q E) : t_Ratio_minus K Cof E { nx := fun _ H' => Q .non H', rt := Q } (start ["self", "other"] vs) H := by
  obtain ⟨a, c, t, b, u, v, n, rfl, hA, hC, s, q⟩ := h
  have cl := X.cl_Ratio
  have nt := X.n_Ratio_top
  have nb := X.n_Ratio_bottom
  have n0 := s.n0
  have n9 := s.n9
  unfold t_Ratio_minus
  walk_at "rd"
  refine r_mul (wide_mul s.st s.sv n0 n0 (by omega)) ?_
  walk_at "rd"
  refine r_mul (wide_mul s.su s.sb n0 n0 (by omega)) ?_
  walk_at "rd"
  refine r_mul (wide_mul s.sb s.sv n0 n0 (by omega)) ?_
  walk_at "rd"
  exact c_Ratio (n + n) (Int.mul_ne_zero s.b0 s.v0) (wide_lt s.sb s.sv) (by omega) (by omega) q
theorem c_Ratio_minus {a c : Addr} {t b u v : Int} (n : Nat) (hA : IsR (Cof "Ratio") H a t b) (hC : IsR (Cof "Ratio") H c u v) (s : RSz n t b u v) (q : RetR (Cof "Ratio") (rT (t * v - u * b) (b * v)) (rB (t * v - u * b) (b * v)) H Q) : sp_Ratio_minus K Cof [.ref a, .ref c] H Q E := ⟨a, c, t, b, u, v, n, rfl, hA, hC, s, q⟩
end

/-! #### Ratio.times -/
def sp_Ratio_times (K : PySem.W.Frag) (Cof : String → Addr) : Sp := fun vs H Q _ => ∃ (a c : Addr) (t b u v : Int) (n : Nat), vs = [.ref a, .ref c] ∧ IsR (Cof "Ratio") H a t b ∧ IsR (Cof "Ratio") H c u v ∧ RSz n t b u v ∧ RetR (Cof "Ratio") (rT (t * u) (b * v)) (rB (t * u) (b * v)) H Q
def t_Ratio_times (K : PySem.W.Frag) (Cof : String → Addr) (E : XK) : TS :=
  tRet (tMake (Cof "Ratio") (sp_Ratio___init__ K Cof) [] E0 (tCons (tOp rMul (tFld K (tVar 0) "top") (tFld K (tVar 1) "top")) (tCons (tOp rMul (tFld K (tVar 0) "bottom") (tFld K (tVar 1) "bottom")) (tNil))))

section
variable {K : PySem.W.Frag} {Cof : String → Addr} {vs : List V} {H : Hp} {Q : VK} {E : XK}
theorem len_Ratio_times (h : sp_Ratio_times K Cof vs H Q E) : vs.length = 2 := by
  obtain ⟨a, c, t, b, u, v, n, rfl, _⟩ := h; rfl
theorem rd_Ratio_times (X : ExT K Cof) (h : sp_Ratio_times K Cof vs H Q E) : t_Ratio_times K Cof E { nx := fun _ H' => Q .non H', rt := Q } (start ["self", "other"] vs) H := by
  obtain ⟨a, c, t, b, u, v, n, rfl, hA, hC, s, q⟩ := h
  have cl := X.cl_Ratio
  have nt := X.n_Ratio_top
  have nb := X.n_Ratio_bottom
  have n0 := s.n0
  have n9 := s.n9
  unfold t_Ratio_times
  walk_at "rd"
  refine r_mul (wide_mul s.st s.su n0 n0 (by omega)) ?_
  walk_at "rd"
  refine r_mul (wide_mul s.sb s.sv n0 n0 (by omega)) ?_
  walk_at "rd"
  exact c_Ratio (n + n) (Int.mul_ne_zero s.b0 s.v0) (wide_lt s.sb s.sv) (by omega) (by omega) q
theorem c_Ratio_times {a c : Addr} {t b u v : Int} (n : Nat) (hA : IsR (Cof "Ratio") H a t b) (hC : IsR (Cof "Ratio") H c u v) (s : RSz n t b u v) (q : RetR (Cof "Ratio") (rT (t * u) (b * v)) (rB (t * u) (b * v)) H Q) : sp_Ratio_times K Cof [.ref a, .ref c] H Q E := ⟨a, c, t, b, u, v, n, rfl, hA, hC, s, q⟩
end

/-! #### Ratio.over -/
--USE MF
def sp_Ratio_over (K : PySem.W.Frag) (Cof : String → Addr) : Sp := fun vs H Q _ => ∃ (a c : Addr) (t b u v : Int) (n : Nat), vs = [.ref a, .ref c] ∧ IsR (Cof "Ratio") H a t b ∧ IsR (Cof "Ratio") H c u v ∧ RSz n t b u v ∧ u ≠ 0 ∧ RetR (Cof "Ratio") (rT (t * v) (b * u)) (rB (t * v) (b * u)) H Q
def t_Ratio_over (K : PySem.W.Frag) (Cof : String → Addr) (E : XK) : TS :=
  tSeq (tIfS (tTest (tOp rEq (tFld K (tVar 1) "top") (tC (.int 0)))) (tNever) (tNext))
  (tRet (tMake (Cof "Ratio") (sp_Ratio___init__ K Cof) [] E0 (tCons (tOp rMul (tFld K (tVar 0) "top") (tFld K (tVar 1) "bottom")) (tCons (tOp rMul (tFld K (tVar 0) "bottom") (tFld K (tVar 1) "top")) (tNil)))))

section
variable {K : PySem.W.Frag} {Cof : String → Addr} {vs : List V} {H : Hp} {Q : VK} {E : XK}
theorem len_Ratio_over (h : sp_Ratio_over K Cof vs H Q E) : vs.length = 2 := by
  obtain ⟨a, c, t, b, u, v, n, rfl, _⟩ := h; rfl
theorem rd_Ratio_over (X : ExT K Cof) (h : sp_Ratio_over K Cof vs H Q E) : t_Ratio_over K Cof E { nx := fun _ H' => Q .non H', rt := Q } (start ["self", "other"] vs) H := by
  obtain ⟨a, c, t, b, u, v, n, rfl, hA, hC, s, u0, q⟩ := h
  have cl := X.cl_Ratio
  have nt := X.n_Ratio_top
  have nb := X.n_Ratio_bottom
  have n0 := s.n0
  have n9 := s.n9
  unfold t_Ratio_over
  walk_at "rd"
  refine ite_d (fun h => absurd h u0) (fun _ => ?_)
  walk_at "rd"
  refine r_mul (wide_mul s.st s.sv n0 n0 (by omega)) ?_
  walk_at "rd"
  refine r_mul (wide_mul s.sb s.su n0 n0 (by omega)) ?_
  walk_at "rd"
  exact c_Ratio (n + n) (Int.mul_ne_zero s.b0 u0) (wide_lt s.sb s.su) (by omega) (by omega) q
theorem c_Ratio_over {a c : Addr} {t b u v : Int} (n : Nat) (hA : IsR (Cof "Ratio") H a t b) (hC : IsR (Cof "Ratio") H c u v) (s : RSz n t b u v) (u0 : u ≠ 0) (q : RetR (Cof "Ratio") (rT (t * v) (b * u)) (rB (t * v) (b * u)) H Q) : sp_Ratio_over K Cof [.ref a, .ref c] H Q E := ⟨a, c, t, b, u, v, n, rfl, hA, hC, s, u0, q⟩
end

/-! #### Ratio.against -/
--USE MF
def sp_Ratio_against (K : PySem.W.Frag) (Cof : String → Addr) : Sp := fun vs H Q _ => ∃ (a c : Addr) (t b u v : Int) (n : Nat), vs = [.ref a, .ref c] ∧ IsR (Cof "Ratio") H a t b ∧ IsR (Cof "Ratio") H c u v ∧ RSz n t b u v ∧ Q (.int (ordI (t * v) (u * b))) H
def t_Ratio_against (K : PySem.W.Frag) (Cof : String → Addr) (E : XK) : TS :=
  tRet (tCall (sp_told_order K Cof) [] E0 (tCons (tOp rMul (tFld K (tVar 0) "top") (tFld K (tVar 1) "bottom")) (tCons (tOp rMul (tFld K (tVar 1) "top") (tFld K (tVar 0) "bottom")) (tNil))))

section
variable {K : PySem.W.Frag} {Cof : String → Addr} {vs : List V} {H : Hp} {Q : VK} {E : XK}
theorem len_Ratio_against (h : sp_Ratio_against K Cof vs H Q E) : vs.length = 2 := by
  obtain ⟨a, c, t, b, u, v, n, rfl, _⟩ := h; rfl
theorem rd_Ratio_against (X : ExT K Cof) (h : sp_Ratio_against K Cof vs H Q E) : t_Ratio_against K Cof E { nx := fun _ H' => Q .non H', rt := Q } (start ["self", "other"] vs) H := by
  obtain ⟨a, c, t, b, u, v, n, rfl, hA, hC, s, q⟩ := h
  have cl := X.cl_Ratio
  have nt := X.n_Ratio_top
  have nb := X.n_Ratio_bottom
  have n0 := s.n0
  have n9 := s.n9
  unfold t_Ratio_against
  walk_at "rd"
  refine r_mul (wide_mul s.st s.sv n0 n0 (by omega)) ?_
  walk_at "rd"
  refine r_mul (wide_mul s.su s.sb n0 n0 (by omega)) ?_
  walk_at "rd"
  exact q
theorem c_Ratio_against {a c : Addr} {t b u v : Int} (n : Nat) (hA : IsR (Cof "Ratio") H a t b) (hC : IsR (Cof "Ratio") H c u v) (s : RSz n t b u v) (q : Q (.int (ordI (t * v) (u * b))) H) : sp_Ratio_against K Cof [.ref a, .ref c] H Q E := ⟨a, c, t, b, u, v, n, rfl, hA, hC, s, q⟩
end

/-! #### Ratio.floor -/
def sp_Ratio_floor (K : PySem.W.Frag) (Cof : String → Addr) : Sp := fun vs H Q _ => ∃ (a : Addr) (t b : Int) (n : Nat), vs = [.ref a] ∧ IsR (Cof "Ratio") H a t b ∧ b ≠ 0 ∧ (b.natAbs < 2 ^ n ∧ 0 < n ∧ n ≤ 9000) ∧ Q (.int (t.fdiv b)) H
def t_Ratio_floor (K : PySem.W.Frag) (Cof : String → Addr) (E : XK) : TS :=
  tRet (tOp rDiv (tFld K (tVar 0) "top") (tFld K (tVar 0) "bottom"))

section
variable {K : PySem.W.Frag} {Cof : String → Addr} {vs : List V} {H : Hp} {Q : VK} {E : XK}
theorem len_Ratio_floor (h : sp_Ratio_floor K Cof vs H Q E) : vs.length = 1 := by
  obtain ⟨a, t, b, n, rfl, _⟩ := h; rfl
theorem rd_Ratio_floor (X : ExT K Cof) (h : sp_Ratio_floor K Cof vs H Q E) : t_Ratio_floor K Cof E { nx := fun _ H' => Q .non H', rt := Q } (start ["self"] vs) H := by
  obtain ⟨a, t, b, n, rfl, hA, hb, ⟨bn, n0, n9⟩, q⟩ := h
  have cl := X.cl_Ratio
  have nt := X.n_Ratio_top
  have nb := X.n_Ratio_bottom
  unfold t_Ratio_floor
  walk_at "rd"
  refine r_div ⟨hb, Nat.lt_of_lt_of_le (PySem.Flt.log2_lt_of n0 bn) n9⟩ ?_
  exact q
theorem c_Ratio_floor {a : Addr} {t b : Int} (n : Nat) (hA : IsR (Cof "Ratio") H a t b) (hb : b ≠ 0) (bn : b.natAbs < 2 ^ n) (n0 : 0 < n) (n9 : n ≤ 9000) (q : Q (.int (t.fdiv b)) H) : sp_Ratio_floor K Cof [.ref a] H Q E := ⟨a, t, b, n, rfl, hA, hb, ⟨bn, n0, n9⟩, q⟩
end

/-! #### poly -/
--USE ML
def sp_poly (K : PySem.W.Frag) (Cof : String → Addr) : Sp := fun vs H Q _ => ∃ (a : Addr) (ns : List Int), vs = [.ref a] ∧ SqL K H a (ns.map V.int) ∧ ns.length ≤ 1000000 ∧ RetI (ML.trimL ns) H Q
def t_poly (K : PySem.W.Frag) (Cof : String → Addr) (E : XK) : TS :=
  tSeq (tAsg (tCB (rLenS K) (tCons (tVar 0) (tNil))) (gName 1))
  (tSeq (tWhile (tAnd (tTest (tOp rGt (tVar 1) (tC (.int 0)))) (tTest (tOp rEq (tOp (rIxL K) (tVar 0) (tOp rISub (tVar 1) (tC (.int 1)))) (tC (.int 0))))) (tAsg (tOp rISub (tVar 1) (tC (.int 1))) (gName 1)))
  (tRet (tSl (rSlL K) (tVar 0) (tNoPart) (tPart (tVar 1)))))

section
variable {K : PySem.W.Frag} {Cof : String → Addr} {vs : List V} {H : Hp} {Q : VK} {E : XK}
theorem len_poly (h : sp_poly K Cof vs H Q E) : vs.length = 1 := by
  obtain ⟨a, ns, rfl, _⟩ := h; rfl
theorem rd_poly (h : sp_poly K Cof vs H Q E) : t_poly K Cof E { nx := fun _ H' => Q .non H', rt := Q } (start ["row", "size"] vs) H := by
  obtain ⟨a, ns, rfl, hS, hl, q⟩ := h
  unfold t_poly
  walk_at "rd"
  try rw [List.length_map]
  refine r_while (fun m σ' H' => σ' = [some (.ref a), some (.int (m : Int))] ∧ H' = H ∧ m ≤ ns.length ∧ ∀ k, m ≤ k → ML.cf ns k = 0) ns.length ⟨rfl, rfl, Nat.le_refl _, fun k hk => ML.cf_beyond hk⟩ (fun m σ' H' hw => ?_)
  obtain ⟨rfl, rfl, hm, h0⟩ := hw
  walk_at "rd"
  refine ite_d (fun hp => ?_) (fun hp => ?_)
  · walk_at "rd"
    refine r_ixI hS (by omega) (by omega) ?_
    walk_at "rd"
    have e : ns.getD ((m : Int) - 1).toNat 0 = ML.cf ns (m - 1) := by
      unfold ML.cf; congr 1; omega
    rw [e]
    refine ite_d (fun hz => wh_in ?_) (fun hz => ?_)
    · walk_at "rd"
      have e1 : (m : Int) - 1 = ((m - 1 : Nat) : Int) := by omega
      exact ⟨m - 1, by omega, by rw [e1]; rfl, rfl, by omega, fun k hk => by
        by_cases hk' : k = m - 1
        · rw [hk', hz]
        · exact h0 k (by omega)⟩
    · walk_at "rd"
      refine r_slI hS fun p H' hp e h => q p H' hp e ?_
      rw [ML.trimL_take hm h0 (.inr hz), ← sliceI_to hm]
      exact h
  · walk_at "rd"
    refine r_slI hS fun p H' hp e h => q p H' hp e ?_
    rw [ML.trimL_take hm h0 (.inl (by omega)), ← sliceI_to hm]
    exact h
theorem c_poly {a : Addr} {ns : List Int} (h : SqL K H a (ns.map V.int)) (hl : ns.length ≤ 1000000) (q : ∀ p H', H p = none → Ex H H' → H' p = some (.lst ((ML.trimL ns).map V.int)) → Q (.ref p) H') : sp_poly K Cof [.ref a] H Q E := ⟨a, ns, rfl, h, hl, q⟩
end

/-! #### degree -/
def sp_degree (K : PySem.W.Frag) (Cof : String → Addr) : Sp := fun vs H Q _ => ∃ (a : Addr) (ns : List Int), vs = [.ref a] ∧ SqL K H a (ns.map V.int) ∧ Q (.int ((ns.length : Int) - 1)) H
def t_degree (K : PySem.W.Frag) (Cof : String → Addr) (E : XK) : TS :=
  tRet (tOp rISub (tCB (rLenS K) (tCons (tVar 0) (tNil))) (tC (.int 1)))

section
variable {K : PySem.W.Frag} {Cof : String → Addr} {vs : List V} {H : Hp} {Q : VK} {E : XK}
theorem len_degree (h : sp_degree K Cof vs H Q E) : vs.length = 1 := by
  obtain ⟨a, ns, rfl, _⟩ := h; rfl
theorem rd_degree (h : sp_degree K Cof vs H Q E) : t_degree K Cof E { nx := fun _ H' => Q .non H', rt := Q } (start ["P"] vs) H := by
  obtain ⟨a, ns, rfl, hS, q⟩ := h
  unfold t_degree
  walk_at "rd"
  try rw [List.length_map]
  exact q
theorem c_degree {a : Addr} {ns : List Int} (h : SqL K H a (ns.map V.int)) (q : Q (.int ((ns.length : Int) - 1)) H) : sp_degree K Cof [.ref a] H Q E := ⟨a, ns, rfl, h, q⟩
end
local macro_rules | `(tactic| walk_at "call") => `(tactic| ((with_reducible refine' c_degree ?h ?_); (case h => walk_at "sq")))

/-! #### slope -/
--USE ML
def sp_slope (K : PySem.W.Frag) (Cof : String → Addr) : Sp := fun vs H Q _ => ∃ (a : Addr) (P : List Int) (n : Nat), vs = [.ref a] ∧ SqL K H a (P.map V.int) ∧ P.length ≤ 100000 ∧ ML.Sz n P ∧ (0 < n ∧ n ≤ 100000) ∧ RetI (ML.slopeL P) H Q
def t_slope (K : PySem.W.Frag) (Cof : String → Addr) (E : XK) : TS :=
  tRet (tLc (iRng2 (tCons (tC (.int 1)) (tCons (tCB (rLenS K) (tCons (tVar 0) (tNil))) (tNil)))) (gName 1) (tYes) (tOp rMul (tVar 1) (tOp (rIxL K) (tVar 0) (tVar 1))) [1])

section
variable {K : PySem.W.Frag} {Cof : String → Addr} {vs : List V} {H : Hp} {Q : VK} {E : XK}
theorem len_slope (h : sp_slope K Cof vs H Q E) : vs.length = 1 := by
  obtain ⟨a, P, n, rfl, _⟩ := h; rfl
theorem rd_slope (h : sp_slope K Cof vs H Q E) : t_slope K Cof E { nx := fun _ H' => Q .non H', rt := Q } (start ["P", "k"] vs) H := by
  obtain ⟨a, P, n, rfl, hS, hl, sz, ⟨n0, n1⟩, q⟩ := h
  unfold t_slope
  have f0 := Fx.refl H
  walk_at "rd"
  refine r_cRng2A (by omega) ?_
  refine lc_rangeL (lo := 1) (fun (k : Nat) => ((k : Int) + 1) * ML.cf P (k + 1)) (by omega) (fun i hi H1 e1 Q' k' => ?_) (fun p H1 hp e1 h1 => q p H1 hp e1 ?_)
  · have e : (1 : Int) + (i : Int) = ((i + 1 : Nat) : Int) := by omega
    walk_at "rd"
    rw [e]
    refine r_ixI (e1.l hS) (by omega) (by omega) ?_
    rw [Int.toNat_natCast]
    refine r_mul (wide_mul (a := 18) (by omega) (sz.cf (i + 1)) (by decide) n0 (by omega)) ?_
    exact k' _ (Evl.Ex.refl _)
  · have e : ((P.length : Int) - 1).toNat = P.length - 1 := by omega
    rw [e] at h1
    exact h1
theorem c_slope {a : Addr} {P : List Int} (n : Nat) (h : SqL K H a (P.map V.int)) (hl : P.length ≤ 100000) (sz : ML.Sz n P) (hn : 0 < n ∧ n ≤ 100000) (q : ∀ p H', H p = none → Ex H H' → H' p = some (.lst ((ML.slopeL P).map V.int)) → Q (.ref p) H') : sp_slope K Cof [.ref a] H Q E := ⟨a, P, n, rfl, h, hl, sz, hn, q⟩
end

/-! #### shrunk -/
--USE MP
def sp_shrunk (K : PySem.W.Frag) (Cof : String → Addr) : Sp := fun vs H Q _ => ∃ (a : Addr) (P : List Int), vs = [.ref a] ∧ SqL K H a (P.map V.int) ∧ P.length ≤ 100000 ∧ (P ≠ [] → MG.gcdL P ≠ 0 ∧ (MG.gcdL P).natAbs.log2 < 9000) ∧ RetI (MP.shrunkL P) H Q
def t_shrunk (K : PySem.W.Frag) (Cof : String → Addr) (E : XK) : TS :=
  tSeq (tAsg (tCall (sp_shared K Cof) [] E0 (tCons (tVar 0) (tNil))) (gName 1))
  (tRet (tLc (iList K (tVar 0)) (gName 2) (tYes) (tOp rDiv (tVar 2) (tVar 1)) [2]))

section
variable {K : PySem.W.Frag} {Cof : String → Addr} {vs : List V} {H : Hp} {Q : VK} {E : XK}
theorem len_shrunk (h : sp_shrunk K Cof vs H Q E) : vs.length = 1 := by
  obtain ⟨a, P, rfl, _⟩ := h; rfl
theorem rd_shrunk (h : sp_shrunk K Cof vs H Q E) : t_shrunk K Cof E { nx := fun _ H' => Q .non H', rt := Q } (start ["P", "part", "one"] vs) H := by
  obtain ⟨a, P, rfl, hS, hl, hg, q⟩ := h
  unfold t_shrunk
  walk_at "rd"
  refine lc_ints (fun x => x.fdiv (MG.gcdL P)) hS (by omega) (fun x hx H1 e1 Q' k' => ?_) (fun p H1 hp e1 h1 => q p H1 hp e1 h1)
  have hn : P ≠ [] := fun e => by rw [e] at hx; cases hx
  walk_at "rd"
  refine r_div (hg hn) ?_
  exact k' _ (Evl.Ex.refl _)
theorem c_shrunk {a : Addr} {P : List Int} (h : SqL K H a (P.map V.int)) (hl : P.length ≤ 100000) (hg : P ≠ [] → MG.gcdL P ≠ 0 ∧ (MG.gcdL P).natAbs.log2 < 9000) (q : ∀ p H', H p = none → Ex H H' → H' p = some (.lst ((MP.shrunkL P).map V.int)) → Q (.ref p) H') : sp_shrunk K Cof [.ref a] H Q E := ⟨a, P, rfl, h, hl, hg, q⟩
end
/-- what shrunk asks of a polynomial of coefficients below 2 ^ n -/
theorem shr_ok {P : List Int} {n : Nat} (hn : 0 < n) (h9 : n ≤ 9000) (hs : ML.Sz n P) (h : ML.Trim P) (h0 : P ≠ []) : MG.gcdL P ≠ 0 ∧ (MG.gcdL P).natAbs.log2 < 9000 := by
  have h1 := MP.gcdL_trim_pos h h0
  have h2 := MP.gcdL_log hn hs h h0
  exact ⟨by omega, Nat.lt_of_lt_of_le (PySem.Flt.log2_lt_of hn h2) h9⟩

/-! #### plain -/
--USE MP
def sp_plain (K : PySem.W.Frag) (Cof : String → Addr) : Sp := fun vs H Q _ => ∃ (a : Addr) (P : List Int), vs = [.ref a] ∧ SqL K H a (P.map V.int) ∧ P.length ≤ 100000 ∧ (P ≠ [] → MG.gcdL P ≠ 0 ∧ (MG.gcdL P).natAbs.log2 < 9000) ∧ RetI (MP.plainL P) H Q
def t_plain (K : PySem.W.Frag) (Cof : String → Addr) (E : XK) : TS :=
  tSeq (tAsg (tCall (sp_shrunk K Cof) [] E0 (tCons (tVar 0) (tNil))) (gName 1))
  (tSeq (tIfS (tAnd (tTru K (tVar 1)) (tTest (tOp rLt (tOp (rIxL K) (tVar 1) (tUn rNeg (tC (.int 1)))) (tC (.int 0))))) (tRet (tLc (iList K (tVar 1)) (gName 2) (tYes) (tUn rNeg (tVar 2)) [2])) (tNext))
  (tRet (tVar 1)))

section
variable {K : PySem.W.Frag} {Cof : String → Addr} {vs : List V} {H : Hp} {Q : VK} {E : XK}
theorem len_plain (h : sp_plain K Cof vs H Q E) : vs.length = 1 := by
  obtain ⟨a, P, rfl, _⟩ := h; rfl
theorem rd_plain (h : sp_plain K Cof vs H Q E) : t_plain K Cof E { nx := fun _ H' => Q .non H', rt := Q } (start ["P", "row", "one"] vs) H := by
  obtain ⟨a, P, rfl, hS, hl, hg, q⟩ := h
  unfold t_plain
  walk_at "rd"
  refine c_shrunk hS hl hg fun p1 H1 hp1 e1 h1 => ?_
  have hl1 := MP.shrunkL_len P
  walk_at "rd"
  refine ⟨!decide (MP.shrunkL P = []), .inl ⟨_, SqL.inj h1, ?_⟩, ?_⟩
  · cases MP.shrunkL P <;> rfl
  · refine ite_nd (fun hn => ?_) (fun hn => ?_)
    · walk_at "rd"
      refine r_ixLast (SqL.inj h1) hn ?_
      walk_at "rd"
      refine ite_d (fun hneg => ?_) (fun hneg => ?_)
      · walk_at "rd"
        refine lc_ints (fun x => -x) (SqL.inj h1) (by omega) (fun x hx H2 e2 Q' k' => ?_) (fun p2 H2 hp2 e2 h2 => ?_)
        · walk_at "rd"
          exact k' _ (Evl.Ex.refl _)
        · refine q p2 H2 (Evl.fresh_back e1 hp2) (e1.trans e2) ?_
          have e : MP.plainL P = (MP.shrunkL P).map (fun x => -x) := by
            unfold MP.plainL
            rw [if_pos ⟨hn, hneg⟩]; rfl
          rw [e]; exact h2
      · walk_at "rd"
        refine q p1 H1 hp1 e1 ?_
        have e : MP.plainL P = MP.shrunkL P := by
          unfold MP.plainL
          rw [if_neg]
          rintro ⟨_, h3⟩
          exact hneg h3
        rw [e]; exact h1
    · walk_at "rd"
      refine q p1 H1 hp1 e1 ?_
      have e : MP.plainL P = MP.shrunkL P := by
        unfold MP.plainL
        rw [if_neg]
        rintro ⟨h3, _⟩
        exact h3 hn
      rw [e]; exact h1
theorem c_plain {a : Addr} {P : List Int} (h : SqL K H a (P.map V.int)) (hl : P.length ≤ 100000) (hg : P ≠ [] → MG.gcdL P ≠ 0 ∧ (MG.gcdL P).natAbs.log2 < 9000) (q : ∀ p H', H p = none → Ex H H' → H' p = some (.lst ((MP.plainL P).map V.int)) → Q (.ref p) H') : sp_plain K Cof [.ref a] H Q E := ⟨a, P, rfl, h, hl, hg, q⟩
end

/-! #### top_at -/
--USE MH
/-- sizes that a value at a fraction can take -/
def sp_top_at (K : PySem.W.Frag) (Cof : String → Addr) : Sp := fun vs H Q _ => ∃ (a r : Addr) (P : List Int) (t b : Int) (n m : Nat), vs = [.ref a, .ref r] ∧ SqL K H a (P.map V.int) ∧ IsR (Cof "Ratio") H r t b ∧ HSz n m P t b ∧ Q (.int (MH.topL P t b)) H
def t_top_at (K : PySem.W.Frag) (Cof : String → Addr) (E : XK) : TS :=
  tSeq (tAsg (tC (.int 0)) (gName 2))
  (tSeq (tAsg (tC (.int 1)) (gName 3))
  (tSeq (tFor (iRev K (tCons (tVar 0) (tNil))) (gName 4) (tSeq (tAsg (tOp rIAdd (tOp rMul (tVar 2) (tFld K (tVar 1) "top")) (tOp rMul (tVar 4) (tVar 3))) (gName 2))
  (tAsg (tOp rMul (tVar 3) (tFld K (tVar 1) "bottom")) (gName 3))))
  (tRet (tVar 2))))

section
variable {K : PySem.W.Frag} {Cof : String → Addr} {vs : List V} {H : Hp} {Q : VK} {E : XK}
theorem len_top_at (h : sp_top_at K Cof vs H Q E) : vs.length = 2 := by
  obtain ⟨a, r, P, t, b, n, m, rfl, _⟩ := h; rfl
theorem rd_top_at (X : ExT K Cof) (h : sp_top_at K Cof vs H Q E) : t_top_at K Cof E { nx := fun _ H' => Q .non H', rt := Q } (start ["P", "r", "total", "scale", "one"] vs) H := by
  obtain ⟨a, r, P, t, b, n, m, rfl, hA, hR, s, q⟩ := h
  have cl := X.cl_Ratio
  have nt := X.n_Ratio_top
  have nb := X.n_Ratio_bottom
  have n0 := s.n0
  have m0 := s.m0
  have le := s.le
  have e1 : (m + 1) * (P.length + 1) = m * P.length + P.length + m + 1 := by rw [Nat.mul_add, Nat.add_mul]; omega
  have e2 : (m + 1) * P.length = m * P.length + P.length := by rw [Nat.add_mul, Nat.one_mul]
  unfold t_top_at
  walk_at "rd"
  refine loop_rev (xs := P.map V.int) (fun i σ' H' => ∃ u, σ' = [some (.ref a), some (.ref r), some (.int (MH.hs t b (P.drop (P.length - i))).1), some (.int (MH.hs t b (P.drop (P.length - i))).2), u] ∧ H' = H) ⟨none, by rw [Nat.sub_zero, List.drop_length]; rfl, rfl⟩ (fun i σ' H' _ hp => ?_) (fun i x σ' H' hx hi hp => ?_) (fun σ' H' hp => ?_)
  · obtain ⟨u, rfl, rfl⟩ := hp
    exact hA
  · obtain ⟨u, rfl, rfl⟩ := hp
    rw [List.length_map] at hx hi
    rw [List.getElem?_map] at hx
    obtain ⟨c, hc, rfl⟩ := Option.map_eq_some_iff.mp hx
    have hd := MH.hs_drop (t := t) (b := b) hc
    have e3 : P.length - 1 - i + 1 = P.length - i := by omega
    have e4 : P.length - (i + 1) = P.length - 1 - i := by omega
    rw [e3] at hd
    obtain ⟨s1, s2⟩ := s.steps (P.length - i)
    have sc := s.sP c (List.mem_of_getElem? hc)
    rw [e4, hd]
    generalize (MH.hs t b (P.drop (P.length - i))).1 = tot at s1 ⊢
    generalize (MH.hs t b (P.drop (P.length - i))).2 = sca at s2 ⊢
    walk_at "rd"
    refine r_mul (wide_mul s1 s.st (by omega) m0 (by omega)) ?_
    walk_at "rd"
    refine r_mul (wide_mul sc s2 n0 (by omega) (by omega)) ?_
    walk_at "rd"
    refine r_mul (wide_mul s2 s.sb (by omega) m0 (by omega)) ?_
    walk_at "rd"
    exact ⟨_, rfl, rfl⟩
  · obtain ⟨u, rfl, rfl⟩ := hp
    rw [List.length_map, Nat.sub_self, List.drop_zero]
    walk_at "rd"
    exact q
theorem c_top_at {a r : Addr} {P : List Int} {t b : Int} (n m : Nat) (hA : SqL K H a (P.map V.int)) (hR : IsR (Cof "Ratio") H r t b) (s : HSz n m P t b) (q : Q (.int (MH.topL P t b)) H) : sp_top_at K Cof [.ref a, .ref r] H Q E := ⟨a, r, P, t, b, n, m, rfl, hA, hR, s, q⟩
end

/-! #### sign_at -/
def sp_sign_at (K : PySem.W.Frag) (Cof : String → Addr) : Sp := fun vs H Q _ => ∃ (a r : Addr) (P : List Int) (t b : Int) (n m : Nat), vs = [.ref a, .ref r] ∧ SqL K H a (P.map V.int) ∧ IsR (Cof "Ratio") H r t b ∧ HSz n m P t b ∧ Q (.int (ordI (MH.topL P t b) 0)) H
def t_sign_at (K : PySem.W.Frag) (Cof : String → Addr) (E : XK) : TS :=
  tRet (tCall (sp_told_order K Cof) [] E0 (tCons (tCall (sp_top_at K Cof) [] E0 (tCons (tVar 0) (tCons (tVar 1) (tNil)))) (tCons (tC (.int 0)) (tNil))))

section
variable {K : PySem.W.Frag} {Cof : String → Addr} {vs : List V} {H : Hp} {Q : VK} {E : XK}
theorem len_sign_at (h : sp_sign_at K Cof vs H Q E) : vs.length = 2 := by
  obtain ⟨a, r, P, t, b, n, m, rfl, _⟩ := h; rfl
theorem rd_sign_at (h : sp_sign_at K Cof vs H Q E) : t_sign_at K Cof E { nx := fun _ H' => Q .non H', rt := Q } (start ["P", "r"] vs) H := by
  obtain ⟨a, r, P, t, b, n, m, rfl, hA, hR, s, q⟩ := h
  unfold t_sign_at
  walk_at "rd"
  refine c_top_at n m hA hR s ?_
  walk_at "rd"
  exact q
theorem c_sign_at {a r : Addr} {P : List Int} {t b : Int} (n m : Nat) (hA : SqL K H a (P.map V.int)) (hR : IsR (Cof "Ratio") H r t b) (s : HSz n m P t b) (q : Q (.int (ordI (MH.topL P t b) 0)) H) : sp_sign_at K Cof [.ref a, .ref r] H Q E := ⟨a, r, P, t, b, n, m, rfl, hA, hR, s, q⟩
end

/-! #### divided -/
--USE MD
/-- what a division tells: a new tuple of the factor and two new lists -/
def RetDiv (f : Int) (qu re : List Int) (H : Hp) (Q : VK) : Prop := ∀ (t pq pr : Addr) (H' : Hp), H t = none → H pq = none → H pr = none → pq ≠ pr → Ex H H' → H' t = some (.tup [.int f, .ref pq, .ref pr]) → H' pq = some (.lst (qu.map V.int)) → H' pr = some (.lst (re.map V.int)) → Q (.ref t) H'
/-- sizes that a division can take -/
def DivSz (P R : List Int) (n m : Nat) : Prop := ML.Sz n P ∧ ML.Sz m R ∧ P.length ≤ 100000 ∧ R.length ≤ 100000 ∧ 0 < n ∧ 0 < m ∧ m ≤ 9000 ∧ n + (2 * m + 1) * (P.length + 1) ≤ 900000
def sp_divided (K : PySem.W.Frag) (Cof : String → Addr) : Sp := fun vs H Q E => ∃ (a b : Addr) (P R : List Int) (n m : Nat), vs = [.ref a, .ref b] ∧ SqL K H a (P.map V.int) ∧ SqL K H b (R.map V.int) ∧ R ≠ [] ∧ ML.Trim R ∧ DivSz P R n m ∧ RetDiv (MD.facL P R) (MD.quoL P R) (MD.remL P R) H Q
def t_divided (K : PySem.W.Frag) (Cof : String → Addr) (E : XK) : TS :=
  tSeq (tIfS (tTest (tOp (rEqD K) (tVar 1) (tLst (tNil)))) (tDead) (tNext))
  (tSeq (tAsg (tOp rISub (tCall (sp_degree K Cof) [] E0 (tCons (tVar 0) (tNil))) (tCall (sp_degree K Cof) [] E0 (tCons (tVar 1) (tNil)))) (gName 2))
  (tSeq (tIfS (tTest (tOp rLt (tVar 2) (tC (.int 0)))) (tRet (tTup (tCons (tC (.int 1)) (tCons (tLst (tNil)) (tCons (tCB (rListS K) (tCons (tVar 0) (tNil))) (tNil)))))) (tNext))
  (tSeq (tAsg (tC (.int 1)) (gName 3))
  (tSeq (tFor (iRng1 (tCons (tOp rIAdd (tVar 2) (tC (.int 1))) (tNil))) (gName 4) (tAsg (tOp rMul (tVar 3) (tCB rAbs (tCons (tOp (rIxL K) (tVar 1) (tUn rNeg (tC (.int 1)))) (tNil)))) (gName 3)))
  (tSeq (tAsg (tLc (iList K (tVar 0)) (gName 6) (tYes) (tOp rMul (tVar 6) (tVar 3)) [6]) (gName 5))
  (tSeq (tAsg (tLc (iRng1 (tCons (tOp rIAdd (tVar 2) (tC (.int 1))) (tNil))) (gName 4) (tYes) (tC (.int 0)) [4]) (gName 7))
  (tSeq (tFor (iRevR (tRg1 (tOp rIAdd (tVar 2) (tC (.int 1))))) (gName 4) (tSeq (tAsg (tOp rDiv (tOp (rIxL K) (tVar 5) (tOp rIAdd (tVar 4) (tCall (sp_degree K Cof) [] E0 (tCons (tVar 1) (tNil))))) (tOp (rIxL K) (tVar 1) (tUn rNeg (tC (.int 1))))) (gName 8))
  (tSeq (tAsg (tVar 8) (gSub (tVar 7) (tVar 4) rSetL))
  (tFor (iEnum K (tCons (tVar 1) (tNil))) (gTup K 2 (gCons (gName 9) (gCons (gName 6) (gNil)))) (tAsg (tOp rISub (tOp (rIxL K) (tVar 5) (tOp rIAdd (tVar 4) (tVar 9))) (tOp rMul (tVar 8) (tVar 6))) (gSub (tVar 5) (tOp rIAdd (tVar 4) (tVar 9)) rSetL))))))
  (tRet (tTup (tCons (tVar 3) (tCons (tCall (sp_poly K Cof) [] E0 (tCons (tVar 7) (tNil))) (tCons (tCall (sp_poly K Cof) [] E0 (tCons (tVar 5) (tNil))) (tNil)))))))))))))

section
variable {K : PySem.W.Frag} {Cof : String → Addr} {vs : List V} {H : Hp} {Q : VK} {E : XK}
theorem len_divided (h : sp_divided K Cof vs H Q E) : vs.length = 2 := by
  obtain ⟨a, b, P, R, n, m, rfl, _⟩ := h; rfl
theorem rd_divided (h : sp_divided K Cof vs H Q E) : t_divided K Cof E { nx := fun _ H' => Q .non H', rt := Q } (start ["P", "Q", "gap", "factor", "k", "rest", "one", "quotient", "many", "place"] vs) H := by
  obtain ⟨a, b, P, R, n, m, rfl, hA, hB, hne, hT, ⟨sA, sB, lA, lB, n0, m0, m9, hbud⟩, q⟩ := h
  unfold t_divided
  walk_at "rd"
  refine r_lstK fun p0 H0 hp0 e0 h0 => ?_
  have f0 := Fx.of e0
  walk_at "rd"
  refine r_eqInts (ns := R) (ms := []) (f0.l hB) (SqL.inj h0) ?_
  walk_at "rd"
  refine ite_d (fun h => absurd h hne) (fun _ => ?_)
  -- the degrees
  walk_at "rd"
  refine ite_d (fun hlt => ?_) (fun hge => ?_)
  · walk_at "rd"
    refine r_lstK fun p1 H1 hp1 e1 h1 => ?_
    have f1 := f0.ex e1
    walk_at "rd"
    refine r_list (f1.l hA) fun p2 H2 hp2 e2 h2 => ?_
    have f2 := f1.ex e2
    walk_at "rd"
    refine r_tupK fun p3 H3 hp3 e3 h3 => ?_
    have hl : P.length < R.length := by omega
    have ef : MD.facL P R = 1 := by unfold MD.facL; rw [if_pos hl]
    have eq' : MD.quoL P R = [] := by unfold MD.quoL; rw [if_pos hl]
    have er : MD.remL P R = P := by unfold MD.remL; rw [if_pos hl]
    exact q p3 p1 p2 H3 (f2.free hp3) (f0.free hp1) (f1.free hp2) (by walk_at "ne") (f2.ex e3).to (by rw [ef]; exact h3) (by rw [eq']; walk_at "hp") (by rw [er]; walk_at "hp")
  have hl : ¬ P.length < R.length := by omega
  have hR := MD.len_pos hne
  have hlc := MD.lc_ne hT hne
  obtain ⟨g, hg⟩ : ∃ g : Nat, g = P.length - R.length := ⟨_, rfl⟩
  have eg : (P.length : Int) - 1 - ((R.length : Int) - 1) = (g : Int) := by omega
  have eg1 : (g : Int) + 1 = ((g + 1 : Nat) : Int) := by omega
  have bl : (2 * m + 1) * (P.length + 1) = 2 * (m * (P.length + 1)) + (P.length + 1) := by rw [Nat.add_mul, Nat.mul_assoc]; omega
  have bm : m * (g + 1) ≤ m * (P.length + 1) := Nat.mul_le_mul_left m (by omega)
  -- the factor
  walk_at "rd"
  rw [eg, eg1]
  refine r_iRng1A (by omega) (by omega) ?_
  rw [Int.toNat_natCast]
  refine loop_range0 (fun k σ' H' => ∃ u, σ' = [some (.ref a), some (.ref b), some (.int (g : Int)), some (.int (((MD.lc R).natAbs : Int) ^ k)), u, none, none, none, none, none] ∧ H' = H0) ⟨none, by rw [Int.pow_zero]; rfl, rfl⟩ (fun k σ' H' hk hp' => ?_) (fun σ' H' hp' => ?_)
  · obtain ⟨u, rfl, rfl⟩ := hp'
    walk_at "rd"
    refine r_ixLast (f0.l hB) hne ?_
    walk_at "rd"
    have ea : (if R.getD (R.length - 1) 0 < 0 then -R.getD (R.length - 1) 0 else R.getD (R.length - 1) 0) = ((MD.lc R).natAbs : Int) := by
      show (if MD.lc R < 0 then -MD.lc R else MD.lc R) = _
      split <;> omega
    rw [ea]
    have hb := sB.cf (R.length - 1)
    have hk1 : m * k ≤ m * (g + 1) := Nat.mul_le_mul_left m (by omega)
    have hpow : (((MD.lc R).natAbs : Int) ^ k).natAbs < 2 ^ (m * k + 1) := by
      rw [← Int.natCast_pow, Int.natAbs_natCast]
      refine Nat.lt_of_le_of_lt (Nat.pow_le_pow_left (Nat.le_of_lt hb) _) ?_
      rw [← Nat.pow_mul]
      exact Nat.pow_lt_pow_right (by decide) (by omega)
    refine r_mul (wide_mul hpow (b := m) (by rw [Int.natAbs_natCast]; exact hb) (by omega) m0 (by omega)) ?_
    walk_at "rd"
    exact ⟨_, by rw [Int.pow_succ]; rfl, rfl⟩
  obtain ⟨u, rfl, rfl⟩ := hp'
  have ef : ((MD.lc R).natAbs : Int) ^ (g + 1) = MD.facL P R := by unfold MD.facL; rw [if_neg hl, hg]
  rw [ef]
  have hfs := MD.facL_lt (P := P) (Q := R) sB
  rw [← hg] at hfs
  -- the rest
  have hA0 := f0.l hA
  walk_at "rd"
  refine lc_ints (fun x => x * MD.facL P R) hA0 (by omega) (fun x hx H4 e4 Q' k' => ?_) fun p5 H5 hp5 e5 h5 => ?_
  · walk_at "rd"
    refine r_mul (wide_mul (sA x hx) hfs n0 (by omega) (by omega)) ?_
    exact k' _ (Evl.Ex.refl _)
  have f5 := f0.ex e5
  walk_at "rd"
  rw [eg1]
  refine r_cRng1A (by omega) (by omega) ?_
  rw [Int.toNat_natCast]
  refine lc_rangeI (fun _ => 0) (by omega) (fun i hi H4 e4 Q' k' => ?_) fun p6 H6 hp6 e6 h6 => ?_
  · walk_at "rd"
    exact k' _ (Evl.Ex.refl _)
  have f6 := f5.ex e6
  have e0 : (List.range (g + 1)).map (fun _ => (0 : Int)) = List.replicate (g + 1) 0 := by
    rw [List.map_const', List.length_range]
  rw [e0] at h6
  have h5' : H6 p5 = some (.lst ((P.map fun x => x * MD.facL P R).map V.int)) := by walk_at "hp"
  have n56 : p5 ≠ p6 := by walk_at "ne"
  have z5 : H p5 = none := f0.free hp5
  have z6 : H p6 = none := f5.free hp6
  have st := MD.dstart (P := P) hT hne hl
  rw [← hg] at st
  have s0 : ML.Sz (n + (m * (g + 1) + 1)) (P.map fun x => x * MD.facL P R) := fun x hx => by
    obtain ⟨y, hy, rfl⟩ := List.mem_map.mp hx
    exact wide_lt (sA y hy) hfs
  clear hp5 hp6 h5 e5 e6
  walk_at "rd"
  rw [eg1]
  refine r_revRA (by omega) (by omega) ?_
  rw [Int.toNat_natCast]
  refine loop_down (fun k σ' H' => ∃ (qs rs : List Int) (u1 u2 u3 u4 : Option V), σ' = [some (.ref a), some (.ref b), some (.int (g : Int)), some (.int (MD.facL P R)), u1, some (.ref p5), u2, some (.ref p6), u3, u4] ∧ Fx H H' ∧ H' p6 = some (.lst (qs.map V.int)) ∧ H' p5 = some (.lst (rs.map V.int)) ∧
      MD.Inv R (fun j => ML.cf P j * MD.facL P R) P.length (g + 1) k (qs, rs) ∧ MD.dloop R k (qs, rs) = MD.dloop R (g + 1) (List.replicate (g + 1) 0, P.map fun x => x * MD.facL P R) ∧ ML.Sz (n + (m * (g + 1) + 1) + (g + 1 - k) * (m + 1)) rs)
    ⟨_, _, _, _, _, _, rfl, f6, h6, h5', st, rfl, s0.mono (by omega)⟩ (fun k σ' H' hk hp' => ?_) (fun σ' H' hp' => ?_)
  · obtain ⟨qs, rs, u1, u2, u3, u4, rfl, f7, h7, h8, I, hd, sz⟩ := hp'
    have lr := I.lr
    have lq := I.lq
    dsimp only at lr lq
    walk_at "rd"
    have ek : (k : Int) + ((R.length : Int) - 1) = ((k + (R.length - 1) : Nat) : Int) := by omega
    rw [ek]
    refine r_ixI (SqL.inj h8) (by omega) (by omega) ?_
    rw [Int.toNat_natCast]
    walk_at "rd"
    refine r_ixLast (f7.l hB) hne ?_
    refine r_div ⟨hlc, Nat.lt_of_lt_of_le (PySem.Flt.log2_lt_of m0 (sB.cf _)) m9⟩ ?_
    have hmany := MD.many_lt hlc I.dv sz (k + (R.length - 1))
    have hstep := I.step hlc hR (by omega) (by omega)
    have hds : MD.dloop R (k + 1) (qs, rs) = MD.dloop R k (qs.set k ((ML.cf rs (k + (R.length - 1))).fdiv (MD.lc R)), MD.subShift rs R k ((ML.cf rs (k + (R.length - 1))).fdiv (MD.lc R))) := rfl
    rw [hds] at hd
    show _
    have em : (rs.getD (k + (R.length - 1)) 0).fdiv (R.getD (R.length - 1) 0) = (ML.cf rs (k + (R.length - 1))).fdiv (MD.lc R) := rfl
    rw [em]
    generalize (ML.cf rs (k + (R.length - 1))).fdiv (MD.lc R) = many at hmany hstep hd ⊢
    walk_at "rd"
    refine r_setL h7 (Evl.ixN_nat (by rw [List.length_map]; omega)) fun H9 b9 h9 => ?_
    have f9 := f7.mut b9 z6
    have h8' : H9 p5 = some (.lst (rs.map V.int)) := by walk_at "hp"
    have hbk : (g + 1 - (k + 1)) * (m + 1) + (m + 1) = (g + 1 - k) * (m + 1) := by
      have : g + 1 - k = (g + 1 - (k + 1)) + 1 := by omega
      rw [this, Nat.add_mul _ 1]; omega
    have hbb : (g + 1 - k) * (m + 1) ≤ (g + 1) * (m + 1) := Nat.mul_le_mul_right _ (by omega)
    have hbe : (g + 1) * (m + 1) = m * (g + 1) + (g + 1) := by rw [Nat.mul_add, Nat.mul_comm]; omega
    have snew := MD.Sz.sub (k := k) sz sB hmany
    walk_at "rd"
    refine loop_enum (xs := R.map V.int) (fun j σ2 H2 => ∃ (rs2 : List Int) (u2 u4 : Option V), σ2 = [some (.ref a), some (.ref b), some (.int (g : Int)), some (.int (MD.facL P R)), some (.int (k : Int)), some (.ref p5), u2, some (.ref p6), some (.int many), u4] ∧ Fx H H2 ∧ H2 p6 = some (.lst ((qs.set k many).map V.int)) ∧ H2 p5 = some (.lst (rs2.map V.int)) ∧ rs2.length = P.length ∧
        ∀ t, ML.cf rs2 t = if k ≤ t ∧ t - k < j then ML.cf rs t - many * ML.cf R (t - k) else ML.cf rs t)
      ⟨rs, _, _, rfl, f9, by rw [List.map_set]; exact h9, h8', lr, fun t => by rw [if_neg (by omega)]⟩ (fun i σ2 H2 _ hp2 => ?_) (fun j x σ2 H2 H2' hx hp2 e2 => ?_) (fun σ2 H2 hp2 => ?_)
    · obtain ⟨rs2, u2, u4, rfl, f10, _⟩ := hp2
      exact f10.l hB
    · obtain ⟨rs2, u2, u4, rfl, f10, h10, h11, l11, c11⟩ := hp2
      have f10' := f10.ex e2
      obtain ⟨hj, ej⟩ := List.getElem?_eq_some_iff.mp hx
      rw [List.length_map] at hj
      have ex : x = .int (ML.cf R j) := by
        rw [← ej, List.getElem_map, ML.cf_get hj]
      subst ex
      have ekj : (k : Int) + (j : Int) = ((k + j : Nat) : Int) := by omega
      walk_at "rd"
      rw [ekj]
      refine r_ixI (ns := rs2) (by walk_at "sq") (by omega) (by omega) ?_
      rw [Int.toNat_natCast]
      walk_at "rd"
      refine r_mul (wide_mul hmany (sB.cf j) (by omega) m0 (by omega)) ?_
      walk_at "rd"
      rw [ekj]
      refine r_setL (p := p5) (xs := rs2.map V.int) (by walk_at "hp") (Evl.ixN_nat (by rw [List.length_map]; omega)) fun H12 b12 h12 => ?_
      refine ⟨rs2.set (k + j) (ML.cf rs2 (k + j) - many * ML.cf R j), _, _, rfl, f10'.mut b12 z5, by walk_at "hp", by rw [List.map_set]; exact h12, by rw [List.length_set]; exact l11, fun t => ?_⟩
      rw [ML.cf_set (by omega), c11 (k + j), c11 t]
      by_cases ht : t = k + j
      · subst ht
        rw [if_pos (rfl : k + j = k + j), if_neg (by omega), if_pos (by omega), Nat.add_sub_cancel_left]
      · rw [if_neg ht]
        by_cases h3 : k ≤ t ∧ t - k < j
        · rw [if_pos h3, if_pos (by omega)]
        · rw [if_neg h3, if_neg (by omega)]
    · obtain ⟨rs2, u2, u4, rfl, f10, h10, h11, l11, c11⟩ := hp2
      have er : rs2 = MD.subShift rs R k many := ML.ext (by rw [MD.subShift_len, l11, lr]) fun t ht => by
        rw [c11, List.length_map]
        unfold MD.subShift
        rw [ML.cf_range (by omega)]
      subst er
      exact ⟨qs.set k many, _, _, _, _, _, rfl, f10, h10, h11, hstep, hd, snew.mono (by omega)⟩
  obtain ⟨qs, rs, u1, u2, u3, u4, rfl, f7, h7, h8, I, hd, sz⟩ := hp'
  have lr := I.lr
  have lq := I.lq
  dsimp only at lr lq
  have hd' : (qs, rs) = MD.dloop R (g + 1) (List.replicate (g + 1) 0, P.map fun x => x * MD.facL P R) := hd
  have e1 : ML.trimL qs = MD.quoL P R := by
    unfold MD.quoL
    rw [if_neg hl, ← hg, ← hd']
  have e2 : ML.trimL rs = MD.remL P R := by
    unfold MD.remL
    rw [if_neg hl, ← hg, ← hd']
  walk_at "rd"
  refine c_poly (SqL.inj h7) (by omega) fun p10 H10 hp10 e10 h10 => ?_
  have f10 := f7.ex e10
  walk_at "rd"
  refine c_poly (ns := rs) (by walk_at "sq") (by omega) fun p11 H11 hp11 e11 h11 => ?_
  have f11 := f10.ex e11
  walk_at "rd"
  refine r_tupK fun p12 H12 hp12 e12 h12 => ?_
  exact q p12 p10 p11 H12 (f11.free hp12) (f7.free hp10) (f10.free hp11) (by walk_at "ne") (f11.ex e12).to h12 (by rw [← e1]; walk_at "hp") (by rw [← e2]; walk_at "hp")
theorem c_divided {a b : Addr} {P R : List Int} (n m : Nat) (hA : SqL K H a (P.map V.int)) (hB : SqL K H b (R.map V.int)) (hne : R ≠ []) (hT : ML.Trim R) (hs : DivSz P R n m) (q : RetDiv (MD.facL P R) (MD.quoL P R) (MD.remL P R) H Q) : sp_divided K Cof [.ref a, .ref b] H Q E := ⟨a, b, P, R, n, m, rfl, hA, hB, hne, hT, hs, q⟩
end

/-! #### common -/
--USE MN
def sp_common (K : PySem.W.Frag) (Cof : String → Addr) : Sp := fun vs H Q _ => ∃ (a b : Addr) (t d : Int) (n : Nat), vs = [.ref a, .ref b] ∧ SqL K H a (([-t, d] : List Int).map V.int) ∧ SqL K H b (([d] : List Int).map V.int) ∧ MN.Frc n t d ∧ RetI [1] H Q
def t_common (K : PySem.W.Frag) (Cof : String → Addr) (E : XK) : TS :=
  tSeq (tAsg (tCall (sp_plain K Cof) [] E0 (tCons (tVar 0) (tNil))) (gName 2))
  (tSeq (tAsg (tCall (sp_plain K Cof) [] E0 (tCons (tVar 1) (tNil))) (gName 3))
  (tSeq (tWhile (tTest (tOp (rNeD K) (tVar 3) (tLst (tNil)))) (tSeq (tAsg (tOp (rIxT K) (tCall (sp_divided K Cof) [] E0 (tCons (tVar 2) (tCons (tVar 3) (tNil)))) (tC (.int 2))) (gName 4))
  (tSeq (tAsg (tVar 3) (gName 2))
  (tAsg (tCall (sp_plain K Cof) [] E0 (tCons (tVar 4) (tNil))) (gName 3)))))
  (tRet (tVar 2))))

section
variable {K : PySem.W.Frag} {Cof : String → Addr} {vs : List V} {H : Hp} {Q : VK} {E : XK}
theorem len_common (h : sp_common K Cof vs H Q E) : vs.length = 2 := by
  obtain ⟨a, b, t, d, n, rfl, _⟩ := h; rfl
theorem one_log {d : Int} {n : Nat} (h : MN.Frc n t d) : MG.gcdL [d] ≠ 0 ∧ (MG.gcdL [d]).natAbs.log2 < 9000 := by
  have d0 := h.d0
  have n9 := h.n9
  rw [MN.gcd_one]
  refine ⟨by omega, ?_⟩
  have : d.natAbs.log2 < n := (Nat.log2_lt (by omega)).mpr h.sd
  rw [Int.natAbs_natCast]
  omega
theorem rd_common (h : sp_common K Cof vs H Q E) : t_common K Cof E { nx := fun _ H' => Q .non H', rt := Q } (start ["P", "Q", "ahead", "behind", "rest"] vs) H := by
  obtain ⟨a, b, t, d, n, rfl, hA, hB, fr, q⟩ := h
  unfold t_common
  have n0 := fr.n0
  have n9 := fr.n9
  walk_at "rd"
  refine c_plain (P := [-t, d]) hA (by simp) (fun _ => MN.log_gcd fr) fun p1 H1 hp1 e1 h1 => ?_
  rw [MN.plain_lin fr] at h1
  have hB1 := e1.l hB
  walk_at "rd"
  refine c_plain (P := [d]) hB1 (by simp) (fun _ => one_log fr) fun p2 H2 hp2 e2 h2 => ?_
  rw [MN.plain_one fr.d0] at h2
  have h1' := e2 _ _ h1
  have e12 := e1.trans e2
  have hp2H := Evl.fresh_back e1 hp2
  walk_at "rd"
  refine r_while (fun k σ' H' => ∃ (x y : Addr) (A B : List Int) (u : Option V), σ' = [some (.ref a), some (.ref b), some (.ref x), some (.ref y), u] ∧ Ex H H' ∧ H' x = some (.lst (A.map V.int)) ∧ H' y = some (.lst (B.map V.int)) ∧ ((k = 1 ∧ A = [-t, d] ∧ B = [1]) ∨ (k = 0 ∧ A = [1] ∧ B = [] ∧ H x = none))
    ∧ (k = 1 → H y = none)) 1 ⟨p1, p2, _, _, _, rfl, e12, h1', h2, .inl ⟨rfl, rfl, rfl⟩, fun _ => hp2H⟩ (fun k σ' H' hw => ?_)
  obtain ⟨x, y, A, B, u, rfl, e3, hx, hy, hc, hf⟩ := hw
  walk_at "rd"
  refine r_lstK fun p3 H3 hp3 e4 h3 => ?_
  have hx3 := e4 _ _ hx
  have hy3 := e4 _ _ hy
  walk_at "rd"
  refine r_neInts (ns := B) (ms := []) (SqL.inj hy3) (SqL.inj h3) ?_
  walk_at "rd"
  rcases hc with ⟨rfl, rfl, rfl⟩ | ⟨rfl, rfl, rfl, hxf⟩
  · refine ite_nd (fun _ => ?_) (fun h => absurd h (by simp))
    refine wh_in ?_
    walk_at "rd"
    refine c_divided (P := [-t, d]) (R := [1]) n 1 (SqL.inj hx3) (SqL.inj hy3) (by simp) (.inr (by decide)) ⟨MN.sz_lin fr, fun z hz => by rw [List.mem_singleton.mp hz]; decide, by simp, by simp, n0, by decide, by decide, by show n + (2 * 1 + 1) * (2 + 1) ≤ 900000; omega⟩ ?_
    intro tt pq pr H4 ht hpq hpr npq e5 hT4 hq4 hr4
    rw [MN.rem_one] at hr4
    walk_at "rd"
    refine r_ixT (.inl (.inl hT4)) (atI_nat (j := 2) rfl) ?_
    have hy4 := e5 _ _ hy3
    walk_at "rd"
    refine c_plain (P := []) (SqL.inj hr4) (by simp) (fun h => absurd rfl h) fun p5 H5 hp5 e6 h5 => ?_
    rw [MP.plainL_nil] at h5
    walk_at "rd"
    exact ⟨0, by decide, y, p5, [1], [], _, rfl, ((e3.trans e4).trans e5).trans e6, e6 _ _ hy4, h5, .inr ⟨rfl, rfl, rfl, hf rfl⟩, fun h => by cases h⟩
  · refine ite_nd (fun h => absurd rfl h) (fun _ => ?_)
    walk_at "rd"
    exact q x _ hxf (e3.trans e4) hx3
theorem c_common {a b : Addr} {t d : Int} (n : Nat) (hA : SqL K H a (([-t, d] : List Int).map V.int)) (hB : SqL K H b (([d] : List Int).map V.int)) (fr : MN.Frc n t d) (q : ∀ p H', H p = none → Ex H H' → H' p = some (.lst (([1] : List Int).map V.int)) → Q (.ref p) H') : sp_common K Cof [.ref a, .ref b] H Q E := ⟨a, b, t, d, n, rfl, hA, hB, fr, q⟩
end

/-! #### part -/
--USE MN
def sp_part (K : PySem.W.Frag) (Cof : String → Addr) : Sp := fun vs H Q _ => ∃ (a b : Addr) (t d : Int) (n : Nat), vs = [.ref a, .ref b] ∧ SqL K H a (([-t, d] : List Int).map V.int) ∧ SqL K H b (([1] : List Int).map V.int) ∧ MN.Frc n t d ∧ RetI [-t, d] H Q
def t_part (K : PySem.W.Frag) (Cof : String → Addr) (E : XK) : TS :=
  tSeq (tAsg (tCall (sp_divided K Cof) [] E0 (tCons (tVar 0) (tCons (tVar 1) (tNil)))) (gName 2))
  (tSeq (tIfS (tTest (tOp (rNeD K) (tOp (rIxT K) (tVar 2) (tC (.int 2))) (tLst (tNil)))) (tDead) (tNext))
  (tRet (tCall (sp_plain K Cof) [] E0 (tCons (tOp (rIxT K) (tVar 2) (tC (.int 1))) (tNil)))))

section
variable {K : PySem.W.Frag} {Cof : String → Addr} {vs : List V} {H : Hp} {Q : VK} {E : XK}
theorem len_part (h : sp_part K Cof vs H Q E) : vs.length = 2 := by
  obtain ⟨a, b, t, d, n, rfl, _⟩ := h; rfl
theorem rd_part (h : sp_part K Cof vs H Q E) : t_part K Cof E { nx := fun _ H' => Q .non H', rt := Q } (start ["P", "Q", "found"] vs) H := by
  obtain ⟨a, b, t, d, n, rfl, hA, hB, fr, q⟩ := h
  unfold t_part
  have n0 := fr.n0
  have n9 := fr.n9
  have d0 := fr.d0
  walk_at "rd"
  refine c_divided (P := [-t, d]) (R := [1]) n 1 hA hB (by simp) (.inr (by decide)) ⟨MN.sz_lin fr, fun z hz => by rw [List.mem_singleton.mp hz]; decide, by simp, by simp, n0, by decide, by decide, by show n + (2 * 1 + 1) * (2 + 1) ≤ 900000; omega⟩ ?_
  intro tt pq pr H1 ht hpq hpr npq e1 hT1 hq1 hr1
  rw [MN.rem_one] at hr1
  rw [MN.quo_one (MN.trim_lin (by omega))] at hq1
  walk_at "rd"
  refine r_ixT (.inl (.inl hT1)) (atI_nat (j := 2) rfl) ?_
  walk_at "rd"
  refine r_lstK fun p2 H2 hp2 e2 h2 => ?_
  walk_at "rd"
  refine r_neInts (ns := []) (ms := []) (SqL.inj (e2 _ _ hr1)) (SqL.inj h2) ?_
  walk_at "rd"
  refine ite_nd (fun h => absurd rfl h) (fun _ => ?_)
  walk_at "rd"
  refine r_ixT (xs := [.int (MD.facL [-t, d] [1]), .ref pq, .ref pr]) (.inl (.inl (e2 _ _ hT1))) (atI_nat (j := 1) rfl) ?_
  walk_at "rd"
  refine c_plain (P := [-t, d]) (SqL.inj (e2 _ _ hq1)) (by simp) (fun _ => MN.log_gcd fr) fun p3 H3 hp3 e3 h3 => ?_
  rw [MN.plain_lin fr] at h3
  exact q p3 H3 (Evl.fresh_back (e1.trans e2) hp3) ((e1.trans e2).trans e3) h3
theorem c_part {a b : Addr} {t d : Int} (n : Nat) (hA : SqL K H a (([-t, d] : List Int).map V.int)) (hB : SqL K H b (([1] : List Int).map V.int)) (fr : MN.Frc n t d) (q : ∀ p H', H p = none → Ex H H' → H' p = some (.lst (([-t, d] : List Int).map V.int)) → Q (.ref p) H') : sp_part K Cof [.ref a, .ref b] H Q E := ⟨a, b, t, d, n, rfl, hA, hB, fr, q⟩
end

/-! #### without_squares -/
--USE MN
def sp_without_squares (K : PySem.W.Frag) (Cof : String → Addr) : Sp := fun vs H Q _ => ∃ (a : Addr) (t d : Int) (n : Nat), vs = [.ref a] ∧ SqL K H a (([-t, d] : List Int).map V.int) ∧ MN.Frc n t d ∧ RetI [-t, d] H Q
def t_without_squares (K : PySem.W.Frag) (Cof : String → Addr) (E : XK) : TS :=
  tSeq (tIfS (tTest (tOp (rEqD K) (tVar 0) (tLst (tNil)))) (tRet (tLst (tNil))) (tNext))
  (tRet (tCall (sp_part K Cof) [] E0 (tCons (tVar 0) (tCons (tCall (sp_common K Cof) [] E0 (tCons (tVar 0) (tCons (tCall (sp_slope K Cof) [] E0 (tCons (tVar 0) (tNil))) (tNil)))) (tNil)))))

section
variable {K : PySem.W.Frag} {Cof : String → Addr} {vs : List V} {H : Hp} {Q : VK} {E : XK}
theorem len_without_squares (h : sp_without_squares K Cof vs H Q E) : vs.length = 1 := by
  obtain ⟨a, t, d, n, rfl, _⟩ := h; rfl
theorem rd_without_squares (h : sp_without_squares K Cof vs H Q E) : t_without_squares K Cof E { nx := fun _ H' => Q .non H', rt := Q } (start ["P"] vs) H := by
  obtain ⟨a, t, d, n, rfl, hA, fr, q⟩ := h
  unfold t_without_squares
  have n0 := fr.n0
  have n9 := fr.n9
  walk_at "rd"
  refine r_lstK fun p0 H0 hp0 e0 h0 => ?_
  have hA0 := e0.l hA
  walk_at "rd"
  refine r_eqInts (ns := [-t, d]) (ms := []) hA0 (SqL.inj h0) ?_
  walk_at "rd"
  refine ite_d (fun h => absurd h (by simp)) (fun _ => ?_)
  walk_at "rd"
  refine c_slope (P := [-t, d]) n hA0 (by simp) (MN.sz_lin fr) ⟨n0, by omega⟩ fun p1 H1 hp1 e1 h1 => ?_
  rw [MN.slope_lin] at h1
  have hA1 := e1.l hA0
  walk_at "rd"
  refine c_common n hA1 (SqL.inj h1) fr fun p2 H2 hp2 e2 h2 => ?_
  have hA2 := e2.l hA1
  walk_at "rd"
  refine c_part n hA2 (SqL.inj h2) fr fun p3 H3 hp3 e3 h3 => ?_
  have e02 := (e0.trans e1).trans e2
  exact q p3 H3 (Evl.fresh_back e02 hp3) (e02.trans e3) h3
theorem c_without_squares {a : Addr} {t d : Int} (n : Nat) (hA : SqL K H a (([-t, d] : List Int).map V.int)) (fr : MN.Frc n t d) (q : ∀ p H', H p = none → Ex H H' → H' p = some (.lst (([-t, d] : List Int).map V.int)) → Q (.ref p) H') : sp_without_squares K Cof [.ref a] H Q E := ⟨a, t, d, n, rfl, hA, fr, q⟩
end

/-! #### row_of -/
--USE MS RN
def sp_row_of (K : PySem.W.Frag) (Cof : String → Addr) : Sp := fun vs H Q _ => ∃ (a : Addr) (P : List Int) (n f : Nat), vs = [.ref a] ∧ SqL K H a (P.map V.int) ∧ P.length ≤ 100000 ∧ f ≤ 100000 ∧ ML.Sz n P ∧ (0 < n ∧ n ≤ 8900) ∧ ML.Trim P ∧ (P ≠ [] → MS.RowOk f (MP.shrunkL P) (MP.shrunkL (ML.slopeL P))) ∧ RetRow (MS.rowL f P) H Q
def t_row_of (K : PySem.W.Frag) (Cof : String → Addr) (E : XK) : TS :=
  tSeq (tIfS (tTest (tOp (rEqD K) (tVar 0) (tLst (tNil)))) (tRet (tLst (tNil))) (tNext))
  (tSeq (tAsg (tLst (tCons (tCall (sp_shrunk K Cof) [] E0 (tCons (tVar 0) (tNil))) (tNil))) (gName 1))
  (tSeq (tAsg (tCall (sp_shrunk K Cof) [] E0 (tCons (tCall (sp_slope K Cof) [] E0 (tCons (tVar 0) (tNil))) (tNil))) (gName 2))
  (tSeq (tWhile (tTest (tOp (rNeD K) (tVar 2) (tLst (tNil)))) (tSeq (tDrop (tBM K "list" rAppend (tVar 1) (tCons (tVar 2) (tNil))))
  (tSeq (tAsg (tOp (rIxT K) (tCall (sp_divided K Cof) [] E0 (tCons (tOp (rIxL K) (tVar 1) (tUn rNeg (tC (.int 2)))) (tCons (tOp (rIxL K) (tVar 1) (tUn rNeg (tC (.int 1)))) (tNil)))) (tC (.int 2))) (gName 3))
  (tAsg (tCall (sp_shrunk K Cof) [] E0 (tCons (tLc (iList K (tVar 3)) (gName 4) (tYes) (tOp rISub (tC (.int 0)) (tVar 4)) [4]) (tNil))) (gName 2)))))
  (tRet (tVar 1)))))

section
variable {K : PySem.W.Frag} {Cof : String → Addr} {vs : List V} {H : Hp} {Q : VK} {E : XK}
theorem len_row_of (h : sp_row_of K Cof vs H Q E) : vs.length = 1 := by
  obtain ⟨a, P, n, f, rfl, _⟩ := h; rfl
theorem slope_top {P : List Int} (hT : ML.Trim P) (hn : ML.slopeL P ≠ []) : ML.cf (ML.slopeL P) (P.length - 2) ≠ 0 := by
  have h1 : P ≠ [] := fun e => hn (by rw [e]; rfl)
  have hl : 1 < P.length := by
    apply Classical.byContradiction
    intro h
    apply hn
    have : P.length - 1 = 0 := by omega
    unfold ML.slopeL
    rw [this]; rfl
  rw [ML.cf_slopeL]
  have h2 := MP.trim_last hT h1
  have e : P.length - 2 + 1 = P.length - 1 := by omega
  rw [e]
  exact Int.mul_ne_zero (by omega) h2
theorem slope_sz {P : List Int} {n : Nat} (h : ML.Sz n P) (hl : P.length ≤ 100000) : ML.Sz (18 + n) (ML.slopeL P) := ML.Sz.of fun k hk => by
  rw [ML.cf_slopeL]
  have hk' : k < P.length - 1 := by unfold ML.slopeL at hk; simpa using hk
  exact wide_lt (show ((k : Int) + 1).natAbs < 2 ^ 18 by omega) (h.cf (k + 1))
theorem slope_shr {P : List Int} {n : Nat} (h : ML.Sz n P) (hl : P.length ≤ 100000) (hn : n ≤ 8900) (hT : ML.Trim P) (h0 : ML.slopeL P ≠ []) : MG.gcdL (ML.slopeL P) ≠ 0 ∧ (MG.gcdL (ML.slopeL P)).natAbs.log2 < 9000 := by
  have ht := slope_top hT h0
  have h1 := MP.gcdL_ne ht
  have h2 := MP.gcdL_le ht
  have h3 := (slope_sz h hl).cf (P.length - 2)
  have h4 := PySem.Flt.log2_lt_of (show 0 < 18 + n by omega) (Nat.lt_of_le_of_lt h2 h3)
  exact ⟨h1, by omega⟩
theorem rd_row_of (h : sp_row_of K Cof vs H Q E) : t_row_of K Cof E { nx := fun _ H' => Q .non H', rt := Q } (start ["P", "row", "later", "rest", "one"] vs) H := by
  obtain ⟨a, P, n, f, rfl, hS, hl, hf, sz, ⟨n0, n9⟩, hT, hok, q⟩ := h
  unfold t_row_of
  walk_at "rd"
  refine r_lstK fun p0 H0 hp0 e0 h0 => ?_
  have f0 := Fx.of e0
  walk_at "rd"
  refine r_eqInts (ns := P) (ms := []) (f0.l hS) (SqL.inj h0) ?_
  walk_at "rd"
  refine ite_d (fun hn => ?_) (fun hn => ?_)
  · walk_at "rd"
    refine r_lstK fun p1 H1 hp1 e1 h1 => ?_
    have f1 := f0.ex e1
    refine q p1 [] H1 (f0.free hp1) (fun _ h => by cases h) (fun h => by cases h) f1.to h1 ?_
    rw [hn]; exact trivial
  have ok := hok hn
  walk_at "rd"
  refine c_shrunk (f0.l hS) hl (fun hne => by
    have := shr_ok n0 (by omega) sz hT hne
    exact this) fun p1 H1 hp1 e1 h1 => ?_
  have f1 := f0.ex e1
  walk_at "rd"
  refine r_lstK fun p2 H2 hp2 e2 h2 => ?_
  have f2 := f1.ex e2
  walk_at "rd"
  refine c_slope n (f2.l hS) hl sz ⟨n0, by omega⟩ fun p3 H3 hp3 e3 h3 => ?_
  have f3 := f2.ex e3
  walk_at "rd"
  have lsl : (ML.slopeL P).length ≤ 100000 := by unfold ML.slopeL; simp; omega
  refine c_shrunk (SqL.inj h3) lsl (fun hne => slope_shr sz hl n9 hT hne) fun p4 H4 hp4 e4 h4 => ?_
  have f4 := f3.ex e4
  have h2' : H4 p2 = some (.lst [V.ref p1]) := by walk_at "hp"
  have h1' : H4 p1 = some (.lst ((MP.shrunkL P).map V.int)) := by walk_at "hp"
  have z2 : H p2 = none := f1.free hp2
  have z1 : H p1 = none := f0.free hp1
  have z4 : H p4 = none := f3.free hp4
  have n12 : p1 ≠ p2 := ne_1 hp2 h1
  have n42 : p4 ≠ p2 := ne_2 hp4 (e3 _ _ h2)
  have erow : MS.rowL f P = ([] ++ [MP.shrunkL P]) ++ MS.rowG f (MP.shrunkL P) (MP.shrunkL (ML.slopeL P)) := by unfold MS.rowL; rw [if_neg hn]; rfl
  clear h1 h2 h3 e1 e2 e3 e4 hp1 hp2 hp3 hp4 hok f1 f2 f3
  walk_at "rd"
  refine r_while (fun m σ' H' => ∃ (ps : List Addr) (Rs : List (List Int)) (pa pb : Addr) (A B : List Int) (u3 u4 : Option V), σ' = [some (.ref a), some (.ref p2), some (.ref pb), u3, u4] ∧ Fx H H' ∧ H' p2 = some (.lst ((ps ++ [pa]).map V.ref)) ∧ Rws H' ps Rs ∧ H' pa = some (.lst (A.map V.int)) ∧ H' pb = some (.lst (B.map V.int)) ∧
      (∀ p ∈ ps ++ [pa], H p = none ∧ p ≠ p2) ∧ H pb = none ∧ pb ≠ p2 ∧ ps.length + m ≤ f ∧ MS.RowOk m A B ∧ MS.rowL f P = (Rs ++ [A]) ++ MS.rowG m A B) f
    ⟨[], [], p1, p4, _, _, _, _, rfl, f4, h2', trivial, h1', h4, fun p hp => by
      rw [List.nil_append, List.mem_singleton] at hp
      rw [hp]; exact ⟨z1, n12⟩, z4, n42, by simp, ok, erow⟩ (fun m σ' H' hw => ?_)
  obtain ⟨ps, Rs, pa, pb, A, B, u3, u4, rfl, f5, h5, hR, hA, hB, hfr, zb, nb, hlen, ok5, er5⟩ := hw
  clear f4 h2' h1' h4 z1 z4 n12 n42 ok erow h0 e0 hp0 f0
  walk_at "rd"
  refine r_lstK fun p6 H6 hp6 e6 h6 => ?_
  have f6 := f5.ex e6
  walk_at "rd"
  refine r_neInts (ns := B) (ms := []) (by walk_at "sq") (SqL.inj h6) ?_
  walk_at "rd"
  refine ite_nd (fun hne => wh_in ?_) (fun he => ?_)
  · obtain ⟨m, rfl⟩ : ∃ m', m = m' + 1 := by
      cases m with
      | zero => exact absurd ok5 hne
      | succ m => exact ⟨m, rfl⟩
    have ok6 : ML.Trim B ∧ (∃ n m, ML.Sz n A ∧ ML.Sz m B ∧ A.length ≤ 100000 ∧ B.length ≤ 100000 ∧ 0 < n ∧ 0 < m ∧ m ≤ 9000 ∧ n + (2 * m + 1) * (A.length + 1) ≤ 900000) ∧ (MD.remL A B ≠ [] → MG.gcdL ((MD.remL A B).map fun x => 0 - x) ≠ 0 ∧ (MG.gcdL ((MD.remL A B).map fun x => 0 - x)).natAbs.log2 < 9000) ∧ MS.RowOk m B (MS.nextL A B) := by
      rcases ok5 with h | h
      · exact absurd h hne
      · exact h
    obtain ⟨tB, ⟨n', m', ds⟩, hg, ok7⟩ := ok6
    have e7 : MS.rowG (m + 1) A B = B :: MS.rowG m B (MS.nextL A B) := by
      show (if B = [] then [] else _) = _
      rw [if_neg hne]
    have h5' : H6 p2 = some (.lst ((ps ++ [pa]).map V.ref)) := by walk_at "hp"
    have hA6 : H6 pa = some (.lst (A.map V.int)) := by walk_at "hp"
    have hB6 : H6 pb = some (.lst (B.map V.int)) := by walk_at "hp"
    have hR6 := hR.ex e6
    have npa : pa ≠ p2 := (hfr pa (by simp)).2
    have nps : p2 ∉ ps := fun h => (hfr p2 (by simp [h])).2 rfl
    walk_at "rd"
    refine r_append h5' (by
      rw [List.length_map, List.length_append]
      exact small_lt (by simp; omega)) fun H7 b7 h7 => ?_
    have f7 := f6.mut b7 z2
    have h7' : H7 p2 = some (.lst (ps.map V.ref ++ [V.ref pa, V.ref pb])) := by rw [h7]; simp
    have hA7 : H7 pa = some (.lst (A.map V.int)) := by walk_at "hp"
    have hB7 : H7 pb = some (.lst (B.map V.int)) := by walk_at "hp"
    have hR7 := hR6.exb b7 nps
    clear h5 h5' hA hB hA6 hB6 hR hR6 h6 f5 f6 e6 hp6 b7
    walk_at "rd"
    refine r_ix2 (SqL.inj h7') ?_
    walk_at "rd"
    refine r_ix1 (SqL.inj h7') ?_
    walk_at "rd"
    refine c_divided (P := A) (R := B) n' m' (SqL.inj hA7) (SqL.inj hB7) hne tB ds ?_
    intro t pq pr H8 ht hpq hpr npq e8 hT8 hq8 hr8
    have f8 := f7.ex e8
    walk_at "rd"
    refine r_ixT (.inl (.inl hT8)) (atI_nat (j := 2) rfl) ?_
    walk_at "rd"
    have lrem := MD.rem_len (P := A) tB hne
    have lB : B.length ≤ 100000 := ds.2.2.2.1
    refine lc_ints (fun x => 0 - x) (SqL.inj hr8) (by omega) (fun c hc H9 e9 Q' k' => ?_) fun p9 H9 hp9 e9 h9 => ?_
    · walk_at "rd"
      exact k' _ (Evl.Ex.refl _)
    have f9 := f8.ex e9
    walk_at "rd"
    refine c_shrunk (SqL.inj h9) (by rw [List.length_map]; omega) (fun h => hg fun e => h (by rw [e]; rfl)) fun p10 H10 hp10 e10 h10 => ?_
    have f10 := f9.ex e10
    refine ⟨m, by omega, ps ++ [pa], Rs ++ [A], pb, p10, B, MS.nextL A B, _, _, rfl, f10, ?_, ?_, by walk_at "hp", h10, ?_, f9.free hp10, ?_, by simp; omega, ok7, by rw [er5, e7]; simp⟩
    · have : H10 p2 = some (.lst (ps.map V.ref ++ [V.ref pa, V.ref pb])) := by walk_at "hp"
      rw [this]; simp
    · exact Rws.append (((hR7.ex e8).ex e9).ex e10) (show Rws H10 [pa] [A] from ⟨by walk_at "hp", trivial⟩)
    · intro p hp
      rcases List.mem_append.mp hp with h | h
      · exact hfr p h
      · rw [List.mem_singleton] at h
        rw [h]; exact ⟨zb, nb⟩
    · have : H9 p2 = some (.lst (ps.map V.ref ++ [V.ref pa, V.ref pb])) := by walk_at "hp"
      exact ne_2 hp10 this
  · walk_at "rd"
    have e7 : MS.rowG m A B = [] := by
      cases m with
      | zero => rfl
      | succ m => show (if B = [] then [] else _) = _; rw [if_pos he]
    rw [e7, List.append_nil] at er5
    refine q p2 (ps ++ [pa]) H6 z2 (fun p hp => (hfr p hp).1) (fun h => (hfr p2 h).2 rfl) f6.to (by walk_at "hp") ?_
    rw [er5]
    exact Rws.append (hR.ex e6) (show Rws H6 [pa] [A] from ⟨by walk_at "hp", trivial⟩)
theorem c_row_of {a : Addr} {P : List Int} (n f : Nat) (h : SqL K H a (P.map V.int)) (hl : P.length ≤ 100000) (hf : f ≤ 100000) (sz : ML.Sz n P) (hn : 0 < n ∧ n ≤ 8900) (hT : ML.Trim P) (hok : P ≠ [] → MS.RowOk f (MP.shrunkL P) (MP.shrunkL (ML.slopeL P))) (q : RetRow (MS.rowL f P) H Q) : sp_row_of K Cof [.ref a] H Q E := ⟨a, P, n, f, rfl, h, hl, hf, sz, hn, hT, hok, q⟩
end

/-! #### changes -/
--USE RN
def sp_changes (K : PySem.W.Frag) (Cof : String → Addr) : Sp := fun vs H Q _ => ∃ (a r : Addr) (ps : List Addr) (Rs : List (List Int)) (t b : Int) (n m : Nat), vs = [.ref a, .ref r] ∧ SqL K H a (ps.map V.ref) ∧ Rws H ps Rs ∧ IsR (Cof "Ratio") H r t b ∧ (∀ P ∈ Rs, HSz n m P t b) ∧ Q (.int (MH.chg Rs t b).1) H
def t_changes (K : PySem.W.Frag) (Cof : String → Addr) (E : XK) : TS :=
  tSeq (tAsg (tC (.int 0)) (gName 2))
  (tSeq (tAsg (tC (.int 0)) (gName 3))
  (tSeq (tFor (iList K (tVar 0)) (gName 4) (tSeq (tAsg (tCall (sp_sign_at K Cof) [] E0 (tCons (tVar 4) (tCons (tVar 1) (tNil)))) (gName 5))
  (tIfS (tTest (tOp rNe (tVar 5) (tC (.int 0)))) (tCut (tIfS (tTest (tOp rEq (tVar 3) (tOp rISub (tC (.int 0)) (tVar 5)))) (tAsg (tOp rIAdd (tVar 2) (tC (.int 1))) (gName 2)) (tNext))
  (tAsg (tVar 5) (gName 3))) (tNext))))
  (tRet (tVar 2))))

section
variable {K : PySem.W.Frag} {Cof : String → Addr} {vs : List V} {H : Hp} {Q : VK} {E : XK}
theorem len_changes (h : sp_changes K Cof vs H Q E) : vs.length = 2 := by
  obtain ⟨a, r, ps, Rs, t, b, n, m, rfl, _⟩ := h; rfl
theorem rd_changes (h : sp_changes K Cof vs H Q E) : t_changes K Cof E { nx := fun _ H' => Q .non H', rt := Q } (start ["row", "r", "many", "last", "P", "sign"] vs) H := by
  obtain ⟨a, r, ps, Rs, t, b, n, m, rfl, hA, hW, hR, s, q⟩ := h
  unfold t_changes
  walk_at "rd"
  refine loop_list (xs := ps.map V.ref) (fun i σ' H' => ∃ u v, σ' = [some (.ref a), some (.ref r), some (.int (MH.chg (Rs.take i) t b).1), some (.int (MH.chg (Rs.take i) t b).2), u, v] ∧ H' = H) ⟨_, _, rfl, rfl⟩ (fun i σ' H' _ hp => ?_) (fun i x σ' H' hx hp => ?_) (fun σ' H' hp => ?_)
  · obtain ⟨u, v, rfl, rfl⟩ := hp
    exact hA
  · obtain ⟨u, v, rfl, rfl⟩ := hp
    rw [List.getElem?_map] at hx
    obtain ⟨p, hp, rfl⟩ := Option.map_eq_some_iff.mp hx
    obtain ⟨P, hP, hpP⟩ := hW.get hp
    rw [MH.chg_take hP]
    generalize MH.chg (Rs.take i) t b = st
    walk_at "rd"
    refine c_sign_at n m (SqL.inj hpP) hR (s P (List.mem_of_getElem? hP)) ?_
    generalize ordI (MH.topL P t b) 0 = sg
    walk_at "rd"
    unfold MH.stp
    refine ite_nd (fun h => ?_) (fun h => ?_)
    · walk_at "rd"
      refine ⟨fun σ2 H2 => σ2 = [some (.ref a), some (.ref r), some (.int (if st.2 = 0 - sg then st.1 + 1 else st.1)), some (.int st.2), some (.ref p), some (.int sg)] ∧ H' = H2, ?_, fun σ2 H2 hM => ?_⟩
      · walk_at "rd"
        refine ite_d (fun h2 => ?_) (fun h2 => ?_)
        · walk_at "rd"
          rw [if_pos h2]
          exact ⟨rfl, rfl⟩
        · walk_at "rd"
          rw [if_neg h2]
          exact ⟨rfl, rfl⟩
      obtain ⟨rfl, rfl⟩ := hM
      walk_at "rd"
      rw [if_pos h]
      exact ⟨_, _, rfl, rfl⟩
    · walk_at "rd"
      rw [if_neg (fun z => z h)]
      exact ⟨_, _, rfl, rfl⟩
  · obtain ⟨u, v, rfl, rfl⟩ := hp
    have el := hW.len
    rw [List.length_map, el, List.take_length]
    walk_at "rd"
    exact q
theorem c_changes {a r : Addr} {ps : List Addr} {Rs : List (List Int)} {t b : Int} (n m : Nat) (hA : SqL K H a (ps.map V.ref)) (hW : Rws H ps Rs) (hR : IsR (Cof "Ratio") H r t b) (s : ∀ P ∈ Rs, HSz n m P t b) (q : Q (.int (MH.chg Rs t b).1) H) : sp_changes K Cof [.ref a, .ref r] H Q E := ⟨a, r, ps, Rs, t, b, n, m, rfl, hA, hW, hR, s, q⟩
end

/-! #### count -/
def sp_count (K : PySem.W.Frag) (Cof : String → Addr) : Sp := fun vs H Q _ => ∃ (a r r2 : Addr) (ps : List Addr) (Rs : List (List Int)) (t b t2 b2 : Int) (n m : Nat), vs = [.ref a, .ref r, .ref r2] ∧ SqL K H a (ps.map V.ref) ∧ Rws H ps Rs ∧ IsR (Cof "Ratio") H r t b ∧ IsR (Cof "Ratio") H r2 t2 b2 ∧ (∀ P ∈ Rs, HSz n m P t b) ∧ (∀ P ∈ Rs, HSz n m P t2 b2) ∧ Q (.int ((MH.chg Rs t b).1 - (MH.chg Rs t2 b2).1)) H
def t_count (K : PySem.W.Frag) (Cof : String → Addr) (E : XK) : TS :=
  tRet (tOp rISub (tCall (sp_changes K Cof) [] E0 (tCons (tVar 0) (tCons (tVar 1) (tNil)))) (tCall (sp_changes K Cof) [] E0 (tCons (tVar 0) (tCons (tVar 2) (tNil)))))

section
variable {K : PySem.W.Frag} {Cof : String → Addr} {vs : List V} {H : Hp} {Q : VK} {E : XK}
theorem len_count (h : sp_count K Cof vs H Q E) : vs.length = 3 := by
  obtain ⟨a, r, r2, ps, Rs, t, b, t2, b2, n, m, rfl, _⟩ := h; rfl
theorem rd_count (h : sp_count K Cof vs H Q E) : t_count K Cof E { nx := fun _ H' => Q .non H', rt := Q } (start ["row", "low", "high"] vs) H := by
  obtain ⟨a, r, r2, ps, Rs, t, b, t2, b2, n, m, rfl, hA, hW, hR, hR2, s, s2, q⟩ := h
  unfold t_count
  walk_at "rd"
  refine c_changes n m hA hW hR s ?_
  walk_at "rd"
  refine c_changes n m hA hW hR2 s2 ?_
  walk_at "rd"
  exact q
theorem c_count {a r r2 : Addr} {ps : List Addr} {Rs : List (List Int)} {t b t2 b2 : Int} (n m : Nat) (hA : SqL K H a (ps.map V.ref)) (hW : Rws H ps Rs) (hR : IsR (Cof "Ratio") H r t b) (hR2 : IsR (Cof "Ratio") H r2 t2 b2) (s : ∀ P ∈ Rs, HSz n m P t b) (s2 : ∀ P ∈ Rs, HSz n m P t2 b2) (q : Q (.int ((MH.chg Rs t b).1 - (MH.chg Rs t2 b2).1)) H) : sp_count K Cof [.ref a, .ref r, .ref r2] H Q E := ⟨a, r, r2, ps, Rs, t, b, t2, b2, n, m, rfl, hA, hW, hR, hR2, s, s2, q⟩
end

/-! #### bound -/
--USE ML
/-- what the bound is -/
structure Bnd (P : List Int) (j : Nat) : Prop where
  le : ∀ c ∈ P.dropLast, (c.natAbs : Int) ≤ ((2 : Int) ^ j - 1) * ((P.getD (P.length - 1) 0).natAbs : Int)
  ge : j = 0 ∨ ∃ c ∈ P.dropLast, ((2 : Int) ^ (j - 1) - 1) * ((P.getD (P.length - 1) 0).natAbs : Int) < (c.natAbs : Int)
def sp_bound (K : PySem.W.Frag) (Cof : String → Addr) : Sp := fun vs H Q _ => ∃ (a : Addr) (P : List Int) (n : Nat), vs = [.ref a] ∧ SqL K H a (P.map V.int) ∧ (P ≠ [] ∧ P.getD (P.length - 1) 0 ≠ 0) ∧ ML.Sz n P ∧ (0 < n ∧ n ≤ 100000) ∧ ∀ (j : Nat) H', Ex H H' → Bnd P j → j ≤ n → Q (.int ((2 : Int) ^ j)) H'
def t_bound (K : PySem.W.Frag) (Cof : String → Addr) (E : XK) : TS :=
  tSeq (tAsg (tC (.int 0)) (gName 1))
  (tSeq (tFor (iList K (tSl (rSlL K) (tVar 0) (tNoPart) (tPart (tUn rNeg (tC (.int 1)))))) (gName 2) (tAsg (tCB rMax2 (tCons (tVar 1) (tCons (tCB rAbs (tCons (tVar 2) (tNil))) (tNil)))) (gName 1)))
  (tSeq (tAsg (tC (.int 1)) (gName 3))
  (tSeq (tWhile (tTest (tOp rLt (tOp rMul (tOp rISub (tVar 3) (tC (.int 1))) (tCB rAbs (tCons (tOp (rIxL K) (tVar 0) (tUn rNeg (tC (.int 1)))) (tNil)))) (tVar 1))) (tAsg (tOp rMul (tC (.int 2)) (tVar 3)) (gName 3)))
  (tRet (tVar 3)))))

section
variable {K : PySem.W.Frag} {Cof : String → Addr} {vs : List V} {H : Hp} {Q : VK} {E : XK}
theorem len_bound (h : sp_bound K Cof vs H Q E) : vs.length = 1 := by
  obtain ⟨a, P, n, rfl, _⟩ := h; rfl
theorem abs_if (x : Int) : (if x < 0 then -x else x) = (x.natAbs : Int) := by split <;> omega
theorem slice_last (P : List Int) : sliceI P none (some (-1)) = P.dropLast := by
  unfold sliceI
  rw [HT.sIx_none, List.drop_zero, Nat.sub_zero, List.dropLast_eq_take]
  congr 1
  unfold HT.sIx
  simp
  omega
theorem pow2_cast (j : Nat) : ((2 : Int) ^ j) = ((2 ^ j : Nat) : Int) := by norm_cast
theorem pow_pos2 (j : Nat) : (0 : Int) < 2 ^ j := Int.pow_pos (by decide)
theorem rd_bound (h : sp_bound K Cof vs H Q E) : t_bound K Cof E { nx := fun _ H' => Q .non H', rt := Q } (start ["P", "most", "one", "found"] vs) H := by
  obtain ⟨a, P, n, rfl, hA, ⟨hP, hlast⟩, sz, ⟨n0, n9⟩, q⟩ := h
  unfold t_bound
  walk_at "rd"
  refine r_slI hA fun p1 H1 hp1 e1 h1 => ?_
  rw [slice_last] at h1
  have hA1 := e1.l hA
  walk_at "rd"
  refine loop_ints (ns := P.dropLast) (fun i σ' H' => ∃ (m : Nat) (u : Option V), σ' = [some (.ref a), some (.int (m : Int)), u, none] ∧ H1 = H' ∧ (∀ c ∈ P.dropLast.take i, c.natAbs ≤ m) ∧ (m = 0 ∨ ∃ c ∈ P.dropLast, m = c.natAbs)) ⟨0, _, rfl, rfl, (fun c hc => by cases hc), .inl rfl⟩ (fun i σ' H' _ hp => ?_) (fun i x σ' H' hx hp => ?_) (fun σ' H' hp => ?_)
  · obtain ⟨m, u, rfl, rfl, _⟩ := hp
    exact SqL.inj h1
  · obtain ⟨m, u, rfl, rfl, h2, h3⟩ := hp
    walk_at "rd"
    rw [abs_if]
    by_cases hgt : (x.natAbs : Int) > (m : Int)
    · rw [if_pos hgt]
      refine ⟨x.natAbs, _, rfl, rfl, fun c hc => ?_, .inr ⟨x, List.mem_of_getElem? hx, rfl⟩⟩
      rw [List.take_add_one, hx] at hc
      rcases List.mem_append.mp hc with hc | hc
      · have := h2 c hc; omega
      · rw [List.mem_singleton.mp hc]; exact Nat.le_refl _
    · rw [if_neg hgt]
      refine ⟨m, _, rfl, rfl, fun c hc => ?_, h3⟩
      rw [List.take_add_one, hx] at hc
      rcases List.mem_append.mp hc with hc | hc
      · exact h2 c hc
      · rw [List.mem_singleton.mp hc]; omega
  obtain ⟨m, u, rfl, rfl, h2, h3⟩ := hp
  rw [List.take_of_length_le (Nat.le_refl _)] at h2
  have hm : m < 2 ^ n := by
    rcases h3 with rfl | ⟨c, hc, rfl⟩
    · exact Nat.two_pow_pos _
    · exact sz c (List.dropLast_subset _ hc)
  generalize eL : P.getD (P.length - 1) 0 = L at hlast
  have hL : L.natAbs < 2 ^ n := by
    rw [← eL]; exact sz.cf (P.length - 1)
  have hL1 : (1 : Int) ≤ (L.natAbs : Int) := by omega
  have hmi : (m : Int) < 2 ^ n := by exact_mod_cast hm
  have big : ∀ j, ((2 : Int) ^ j - 1) * (L.natAbs : Int) < (m : Int) → j < n := fun j h => by
    apply Classical.byContradiction
    intro hj
    have h5 : (2 : Int) ^ n ≤ 2 ^ j := by
      have := Nat.pow_le_pow_right (show 0 < 2 by decide) (show n ≤ j by omega)
      exact_mod_cast this
    have h6 : ((2 : Int) ^ j - 1) * 1 ≤ ((2 : Int) ^ j - 1) * (L.natAbs : Int) := Int.mul_le_mul_of_nonneg_left hL1 (by have := pow_pos2 j; omega)
    omega
  walk_at "rd"
  refine r_while (fun k σ' H' => ∃ j : Nat, σ' = [some (.ref a), some (.int (m : Int)), u, some (.int ((2 : Int) ^ j))] ∧ H1 = H' ∧ k = n - j ∧ j ≤ n ∧ (j = 0 ∨ ((2 : Int) ^ (j - 1) - 1) * (L.natAbs : Int) < (m : Int))) n ⟨0, rfl, rfl, rfl, Nat.zero_le _, .inl rfl⟩ (fun k σ' H' hw => ?_)
  obtain ⟨j, rfl, rfl, rfl, hj, hb⟩ := hw
  walk_at "rd"
  refine r_ixLast hA1 hP ?_
  rw [eL]
  walk_at "rd"
  rw [abs_if]
  have s1 : ((2 : Int) ^ j - 1).natAbs < 2 ^ (n + 1) := by
    have h5 := Nat.pow_le_pow_right (show 0 < 2 by decide) hj
    have h6 : ((2 : Int) ^ j) = ((2 ^ j : Nat) : Int) := by norm_cast
    have h7 := Nat.two_pow_pos j
    rw [h6, Nat.pow_succ]
    omega
  refine r_mul (wide_mul s1 (show ((L.natAbs : Nat) : Int).natAbs < 2 ^ n by omega) (by omega) n0 (by omega)) ?_
  walk_at "rd"
  refine ite_d (fun hlt => ?_) (fun hge => ?_)
  · have hjn := big j hlt
    refine wh_in ?_
    walk_at "rd"
    refine r_mul (wide_mul (a := 2) (b := n + 1) (by decide) (by
      have h5 := Nat.pow_le_pow_right (show 0 < 2 by decide) hj
      have h6 : ((2 : Int) ^ j) = ((2 ^ j : Nat) : Int) := by norm_cast
      rw [h6, Nat.pow_succ]
      have := Nat.two_pow_pos n
      omega) (by decide) (by omega) (by omega)) ?_
    walk_at "rd"
    refine ⟨n - (j + 1), by omega, j + 1, ?_, rfl, rfl, by omega, .inr ?_⟩
    · rw [Int.pow_succ, Int.mul_comm]; rfl
    · rw [Nat.add_sub_cancel]; exact hlt
  · walk_at "rd"
    refine q j _ e1 ⟨fun c hc => ?_, ?_⟩ hj
    · rw [eL]
      have := h2 c hc
      omega
    · rcases hb with hb | hb
      · exact .inl hb
      · rcases h3 with rfl | ⟨c, hc, rfl⟩
        · exfalso
          have := pow_pos2 (j - 1)
          have h7 : (0 : Int) ≤ ((2 : Int) ^ (j - 1) - 1) * (L.natAbs : Int) := Int.mul_nonneg (by omega) (by omega)
          omega
        · rw [eL]; exact .inr ⟨c, hc, hb⟩
theorem c_bound {a : Addr} {P : List Int} (n : Nat) (hA : SqL K H a (P.map V.int)) (hP : P ≠ [] ∧ P.getD (P.length - 1) 0 ≠ 0) (sz : ML.Sz n P) (hn : 0 < n ∧ n ≤ 100000) (q : ∀ (j : Nat) H', Ex H H' → Bnd P j → j ≤ n → Q (.int ((2 : Int) ^ j)) H') : sp_bound K Cof [.ref a] H Q E := ⟨a, P, n, rfl, hA, hP, sz, hn, q⟩
end

/-! #### halfway -/
--USE MX
def sp_halfway (K : PySem.W.Frag) (Cof : String → Addr) : Sp := fun vs H Q _ => ∃ (a c : Addr) (A B D : Int) (n : Nat), vs = [.ref a, .ref c] ∧ IsR (Cof "Ratio") H a (rT A D) (rB A D) ∧ IsR (Cof "Ratio") H c (rT B D) (rB B D) ∧ (0 < D ∧ A.natAbs < 2 ^ n ∧ B.natAbs < 2 ^ n ∧ D.natAbs < 2 ^ n ∧ 0 < n ∧ n ≤ 2000) ∧ RetR (Cof "Ratio") (rT (A + B) (2 * D)) (rB (A + B) (2 * D)) H Q
def t_halfway (K : PySem.W.Frag) (Cof : String → Addr) (E : XK) : TS :=
  tRet (tMeth (Cof "Ratio") "over" (sp_Ratio_over K Cof) [] E0 (tMeth (Cof "Ratio") "plus" (sp_Ratio_plus K Cof) [] E0 (tVar 0) (tCons (tVar 1) (tNil))) (tCons (tMake (Cof "Ratio") (sp_Ratio___init__ K Cof) [.int 1] E0 (tCons (tC (.int 2)) (tNil))) (tNil)))

section
variable {K : PySem.W.Frag} {Cof : String → Addr} {vs : List V} {H : Hp} {Q : VK} {E : XK}
theorem len_halfway (h : sp_halfway K Cof vs H Q E) : vs.length = 2 := by
  obtain ⟨a, c, A, B, D, n, rfl, _⟩ := h; rfl
theorem rd_halfway (h : sp_halfway K Cof vs H Q E) : t_halfway K Cof E { nx := fun _ H' => Q .non H', rt := Q } (start ["low", "high"] vs) H := by
  obtain ⟨a, c, A, B, D, n, rfl, hA, hB, ⟨D0, sA, sB, sD, n0, n9⟩, q⟩ := h
  have q1 := rB_pos (t := A) (b := D) (by omega)
  have q2 := rB_pos (t := B) (b := D) (by omega)
  have x1 := r_cross (t := A) (b := D) (by omega)
  have x2 := r_cross (t := B) (b := D) (by omega)
  have s1 := Nat.lt_of_le_of_lt (rT_abs (t := A) (b := D) (by omega)) sA
  have s2 := Nat.lt_of_le_of_lt (rB_abs (t := A) (b := D) (by omega)) sD
  have s3 := Nat.lt_of_le_of_lt (rT_abs (t := B) (b := D) (by omega)) sB
  have s4 := Nat.lt_of_le_of_lt (rB_abs (t := B) (b := D) (by omega)) sD
  generalize rT A D = p at *
  generalize rB A D = u at *
  generalize rT B D = r at *
  generalize rB B D = v at *
  unfold t_halfway
  walk_at "rd"
  refine c_Ratio_plus n hA hB ⟨s1, s2, s3, s4, n0, by omega, by omega, by omega⟩ fun p1 H1 hp1 e1 h1 => ?_
  walk_at "rd"
  refine c_Ratio1 fun p2 H2 hp2 e2 h2 => ?_
  rw [rT_one, rB_one] at h2
  have uv : 0 < u * v := Int.mul_pos q1 q2
  have S1 := Nat.lt_of_le_of_lt (rT_abs (t := p * v + r * u) (b := u * v) (by omega)) (show (p * v + r * u).natAbs < 2 ^ (n + n + 1) by
    have a1 := wide_lt s1 s4
    have a2 := wide_lt s3 s2
    rw [Nat.pow_succ]
    generalize (2 : Nat) ^ (n + n) = t at a1 a2
    omega)
  have S2 := Nat.lt_of_le_of_lt (rB_abs (t := p * v + r * u) (b := u * v) (by omega)) (show (u * v).natAbs < 2 ^ (n + n + 1) from Nat.lt_of_lt_of_le (wide_lt s2 s4) (Nat.pow_le_pow_right (by decide) (by omega)))
  have two_ : (2 : Int).natAbs < 2 ^ (n + n + 1) := by
    have : 2 ^ 1 < 2 ^ (n + n + 1) := Nat.pow_lt_pow_right (by decide) (by omega)
    exact this
  have one_ : (1 : Int).natAbs < 2 ^ (n + n + 1) := Nat.one_lt_two_pow (by omega)
  have b1 := rB_pos (t := p * v + r * u) (b := u * v) (by omega)
  walk_at "rd"
  refine c_Ratio_over (n + n + 1) (h1.ex e2) h2 ⟨S1, S2, two_, one_, by omega, by omega, by omega, by decide⟩ (by decide) fun p3 H3 hp3 e3 h3 => ?_
  have c1 := r_cross (t := p * v + r * u) (b := u * v) (by omega)
  refine q p3 H3 (Evl.fresh_back (e1.trans e2) hp3) ((e1.trans e2).trans e3) (h3.same (by omega) (by omega) ?_)
  generalize rT (p * v + r * u) (u * v) = s at *
  generalize rB (p * v + r * u) (u * v) = w at *
  -- s / w = (A + B) / D
  have k : s * D = (A + B) * w := by
    refine Int.eq_of_mul_eq_mul_right (show u * v ≠ 0 by omega) ?_
    have e1 : s * D * (u * v) = (s * (u * v)) * D := by grind
    rw [e1, c1]
    have e2 : (p * v + r * u) * w * D = ((p * D) * v + (r * D) * u) * w := by grind
    rw [e2, x1, x2]
    grind
  have e3 : s * 1 * (2 * D) = 2 * (s * D) := by grind
  rw [e3, k]
  grind
theorem c_halfway {a c : Addr} {A B D : Int} (n : Nat) (hA : IsR (Cof "Ratio") H a (rT A D) (rB A D)) (hB : IsR (Cof "Ratio") H c (rT B D) (rB B D)) (s : 0 < D ∧ A.natAbs < 2 ^ n ∧ B.natAbs < 2 ^ n ∧ D.natAbs < 2 ^ n ∧ 0 < n ∧ n ≤ 2000) (q : RetR (Cof "Ratio") (rT (A + B) (2 * D)) (rB (A + B) (2 * D)) H Q) : sp_halfway K Cof [.ref a, .ref c] H Q E := ⟨a, c, A, B, D, n, rfl, hA, hB, s, q⟩
end

/-! #### narrowed -/
--USE RI MX
/-- where a halved span stands: from A to A + d, over d times 2 ^ k -/
structure Spn (t d A : Int) (k : Nat) : Prop where
  lo : A < t * 2 ^ k
  hi : t * 2 ^ k ≤ A + d
def sp_narrowed (K : PySem.W.Frag) (Cof : String → Addr) : Sp := fun vs H Q _ => ∃ (l lo hi w : Addr) (t d W : Int) (n m : Nat), vs = [.ref l, .ref lo, .ref hi, .ref w] ∧ SqL K H l (([-t, d] : List Int).map V.int) ∧ IsR (Cof "Ratio") H lo (t - d) d ∧ IsR (Cof "Ratio") H hi t d ∧ IsR (Cof "Ratio") H w 1 W ∧ MN.Frc n t d ∧ (0 < W ∧ W < 2 ^ m ∧ 0 < m ∧ n + m ≤ 900) ∧
  ∀ (tp a b : Addr) (H' : Hp) (A : Int) (k : Nat), H tp = none → Ex H H' → H' tp = some (.tup [.ref a, .ref b]) → IsR (Cof "Ratio") H' a (rT A (d * 2 ^ k)) (rB A (d * 2 ^ k)) → IsR (Cof "Ratio") H' b (rT (A + d) (d * 2 ^ k)) (rB (A + d) (d * 2 ^ k)) → Spn t d A k → W ≤ 2 ^ k → k ≤ m → Q (.ref tp) H'
def t_narrowed (K : PySem.W.Frag) (Cof : String → Addr) (E : XK) : TS :=
  tSeq (tAsg (tCall (sp_sign_at K Cof) [] E0 (tCons (tVar 0) (tCons (tVar 2) (tNil)))) (gName 4))
  (tSeq (tWhile (tTest (tOp rGt (tMeth (Cof "Ratio") "against" (sp_Ratio_against K Cof) [] E0 (tMeth (Cof "Ratio") "minus" (sp_Ratio_minus K Cof) [] E0 (tVar 2) (tCons (tVar 1) (tNil))) (tCons (tVar 3) (tNil))) (tC (.int 0)))) (tSeq (tAsg (tCall (sp_halfway K Cof) [] E0 (tCons (tVar 1) (tCons (tVar 2) (tNil)))) (gName 5))
  (tSeq (tAsg (tCall (sp_sign_at K Cof) [] E0 (tCons (tVar 0) (tCons (tVar 5) (tNil)))) (gName 6))
  (tIfS (tAnd (tTest (tOp rNe (tVar 4) (tC (.int 0)))) (tTest (tOp rNe (tVar 6) (tOp rISub (tC (.int 0)) (tVar 4))))) (tSeq (tAsg (tVar 5) (gName 2))
  (tAsg (tVar 6) (gName 4))) (tAsg (tVar 5) (gName 1))))))
  (tRet (tTup (tCons (tVar 1) (tCons (tVar 2) (tNil))))))

section
variable {K : PySem.W.Frag} {Cof : String → Addr} {vs : List V} {H : Hp} {Q : VK} {E : XK}
theorem len_narrowed (h : sp_narrowed K Cof vs H Q E) : vs.length = 4 := by
  obtain ⟨l, lo, hi, w, t, d, W, n, m, rfl, _⟩ := h; rfl
theorem spn_sz {n m : Nat} {t d A : Int} {k : Nat} (fr : MN.Frc n t d) (s : Spn t d A k) (hk : k ≤ m) : A.natAbs < 2 ^ (n + m + 2) ∧ (A + d).natAbs < 2 ^ (n + m + 2) ∧ (d * 2 ^ k).natAbs < 2 ^ (n + m + 2) ∧ 0 < d * (2 : Int) ^ k := by
  have st := fr.st
  have sd := fr.sd
  have d0 := fr.d0
  have lo := s.lo
  have hi := s.hi
  have p0 := pow_pos2 k
  have hp : ((2 : Int) ^ k).natAbs ≤ 2 ^ m := by
    rw [pow2_cast, Int.natAbs_natCast]
    exact Nat.pow_le_pow_right (by decide) hk
  have a1 : (t * 2 ^ k).natAbs < 2 ^ (n + m) := by
    rw [Int.natAbs_mul, Nat.pow_add]
    exact Nat.lt_of_le_of_lt (Nat.mul_le_mul_left _ hp) (Nat.mul_lt_mul_of_pos_right st (Nat.two_pow_pos _))
  have a2 : (d * 2 ^ k).natAbs < 2 ^ (n + m) := by
    rw [Int.natAbs_mul, Nat.pow_add]
    exact Nat.lt_of_le_of_lt (Nat.mul_le_mul_left _ hp) (Nat.mul_lt_mul_of_pos_right sd (Nat.two_pow_pos _))
  have a3 : d.natAbs < 2 ^ (n + m) := Nat.lt_of_lt_of_le sd (Nat.pow_le_pow_right (by decide) (by omega))
  have e : (2 : Nat) ^ (n + m + 2) = 4 * 2 ^ (n + m) := by rw [Nat.pow_add]; omega
  have d1 : 0 < d * (2 : Int) ^ k := Int.mul_pos d0 p0
  rw [e]
  generalize t * 2 ^ k = x at *
  generalize d * 2 ^ k = y at *
  generalize (2 : Nat) ^ (n + m) = B at *
  omega
theorem rd_narrowed (X : ExT K Cof) (h : sp_narrowed K Cof vs H Q E) : t_narrowed K Cof E { nx := fun _ H' => Q .non H', rt := Q } (start ["P", "low", "high", "width", "last", "middle", "here"] vs) H := by
  obtain ⟨l, lo, hi, w, t, d, W, n, m, rfl, hl, hlo, hhi, hw, fr, ⟨W0, Wm, m0, nm⟩, q⟩ := h
  have d0 := fr.d0
  have n0 := fr.n0
  have n9 := fr.n9
  have g1 := fr.g1
  have zN : ∀ {x y : Int}, x.natAbs < 2 ^ (n + m + 2) → y.natAbs < 2 ^ (n + m + 2) → HSz n (n + m + 2) [-t, d] x y := fun hx hy => ⟨MN.sz_lin fr, hx, hy, n0, by omega, by show n + (n + m + 2 + 1) * (2 + 1) ≤ 900000; omega⟩
  have upn : ∀ {x : Nat}, x < 2 ^ n → x < 2 ^ (n + m + 2) := fun h => Nat.lt_of_lt_of_le h (Nat.pow_le_pow_right (by decide) (by omega))
  have hWs : W.natAbs < 2 ^ (n + m + 2) := by
    have : (W.natAbs : Int) < 2 ^ m := by omega
    have h2 : W.natAbs < 2 ^ m := by exact_mod_cast this
    exact Nat.lt_of_lt_of_le h2 (Nat.pow_le_pow_right (by decide) (by omega))
  have one_ : (1 : Int).natAbs < 2 ^ (n + m + 2) := Nat.one_lt_two_pow (by omega)
  unfold t_narrowed
  walk_at "rd"
  refine c_sign_at (P := [-t, d]) n (n + m + 2) hl hhi (zN (upn fr.st) (upn fr.sd)) ?_
  rw [MN.top_lin, show d * t - t * d = 0 by rw [Int.mul_comm]; omega]
  walk_at "rd"
  refine r_while (fun z σ' H' => ∃ (a b : Addr) (A : Int) (k : Nat) (u5 u6 : Option V), σ' = [some (.ref l), some (.ref a), some (.ref b), some (.ref w), some (.int (ordI (A + d) (t * 2 ^ k))), u5, u6] ∧ Ex H H' ∧ IsR (Cof "Ratio") H' a (rT A (d * 2 ^ k)) (rB A (d * 2 ^ k)) ∧ IsR (Cof "Ratio") H' b (rT (A + d) (d * 2 ^ k)) (rB (A + d) (d * 2 ^ k)) ∧ Spn t d A k ∧ k ≤ m ∧ z = m - k) m ⟨lo, hi, t - d, 0, none, none, ?_, Evl.Ex.refl _, ?_, ?_, ⟨by simp; omega, by simp⟩, Nat.zero_le _, rfl⟩ (fun z σ' H' hw' => ?_)
  · have e : ordI (t - d + d) (t * 2 ^ 0) = ordI 0 0 := by
      rw [show t - d + d = t by omega, Int.pow_zero, Int.mul_one, ordI_self, ordI_self]
    rw [e]; rfl
  · rw [Int.pow_zero, Int.mul_one, rT_low d0 (gcd_less g1), rB_low d0 (gcd_less g1)]; exact hlo
  · rw [Int.pow_zero, Int.mul_one, show t - d + d = t by omega, rT_low d0 g1, rB_low d0 g1]; exact hhi
  obtain ⟨a, b, A, k, u5, u6, rfl, e1, ha, hb, sp, hk, rfl⟩ := hw'
  obtain ⟨sA, sB, sD, D0⟩ := spn_sz fr sp hk
  have p0 := pow_pos2 k
  have qa := rB_pos (t := A) (b := d * 2 ^ k) (by omega)
  have qb := rB_pos (t := A + d) (b := d * 2 ^ k) (by omega)
  have xa := r_cross (t := A) (b := d * 2 ^ k) (by omega)
  have xb := r_cross (t := A + d) (b := d * 2 ^ k) (by omega)
  have s1 := Nat.lt_of_le_of_lt (rT_abs (t := A) (b := d * 2 ^ k) (by omega)) sA
  have s2 := Nat.lt_of_le_of_lt (rB_abs (t := A) (b := d * 2 ^ k) (by omega)) sD
  have s3 := Nat.lt_of_le_of_lt (rT_abs (t := A + d) (b := d * 2 ^ k) (by omega)) sB
  have s4 := Nat.lt_of_le_of_lt (rB_abs (t := A + d) (b := d * 2 ^ k) (by omega)) sD
  walk_at "rd"
  refine c_Ratio_minus (n + m + 2) hb ha ⟨s3, s4, s1, s2, by omega, by omega, by omega, by omega⟩ fun p1 H1 hp1 e2 h1 => ?_
  -- the width is 1 / 2 ^ k
  have wd : IsR (Cof "Ratio") H1 p1 1 ((2 : Int) ^ k) := by
    have e : (rT (A + d) (d * 2 ^ k) * rB A (d * 2 ^ k) - rT A (d * 2 ^ k) * rB (A + d) (d * 2 ^ k)) * 2 ^ k = 1 * (rB (A + d) (d * 2 ^ k) * rB A (d * 2 ^ k)) := by
      generalize rT (A + d) (d * 2 ^ k) = r at *
      generalize rB (A + d) (d * 2 ^ k) = v at *
      generalize rT A (d * 2 ^ k) = p at *
      generalize rB A (d * 2 ^ k) = u at *
      refine Int.eq_of_mul_eq_mul_right (show d ≠ 0 by omega) ?_
      have f1 : (r * u - p * v) * 2 ^ k * d = (r * (d * 2 ^ k)) * u - (p * (d * 2 ^ k)) * v := by grind
      rw [f1, xa, xb]
      grind
    have h9 := h1.same (X' := 1) (Y' := (2 : Int) ^ k) (Int.mul_pos qb qa) p0 e
    have gk : Int.gcd 1 ((2 : Int) ^ k) = 1 := by simp
    rw [rT_low p0 gk, rB_low p0 gk] at h9
    exact h9
  have sk : ((2 : Int) ^ k).natAbs < 2 ^ (n + m + 2) := by
    rw [pow2_cast, Int.natAbs_natCast]
    exact Nat.pow_lt_pow_right (by decide) (by omega)
  walk_at "rd"
  refine c_Ratio_against (n + m + 2) wd (hw.ex (e1.trans e2)) ⟨one_, sk, one_, hWs, by omega, by omega, by omega, by omega⟩ ?_
  walk_at "rd"
  have ha2 := ha.ex e2
  have hb2 := hb.ex e2
  refine ite_d (fun hgt => ?_) (fun hle => ?_)
  · have hlt : (2 : Int) ^ k < W := by have := ord_gt0.mp hgt; omega
    have hkm : k < m := by
      apply Classical.byContradiction
      intro hh
      have : (2 : Int) ^ m ≤ 2 ^ k := by
        have := Nat.pow_le_pow_right (show 0 < 2 by decide) (show m ≤ k by omega)
        exact_mod_cast this
      omega
    refine wh_in ?_
    walk_at "rd"
    refine c_halfway (n + m + 2) ha2 hb2 ⟨D0, sA, sB, sD, by omega, by omega⟩ fun p2 H2 hp2 e3 h2 => ?_
    have e13 := (e1.trans e2).trans e3
    have k2 : 2 * (d * (2 : Int) ^ k) = d * 2 ^ (k + 1) := by rw [Int.pow_succ]; grind
    have eA : A + (A + d) = 2 * A + d := by omega
    rw [k2, eA] at h2
    have lo_ := sp.lo
    have hi_ := sp.hi
    have t2 : t * (2 : Int) ^ (k + 1) = 2 * (t * 2 ^ k) := by rw [Int.pow_succ]; grind
    have D1 : 0 < d * (2 : Int) ^ (k + 1) := by rw [← k2]; omega
    have sM : (rT (2 * A + d) (d * 2 ^ (k + 1))).natAbs < 2 ^ (n + m + 2) ∧ (rB (2 * A + d) (d * 2 ^ (k + 1))).natAbs < 2 ^ (n + m + 2) := by
      by_cases hc : 2 * A + d < t * 2 ^ (k + 1)
      · have sp2 : Spn t d (2 * A + d) (k + 1) := ⟨hc, by rw [t2]; omega⟩
        obtain ⟨z1, z2, z3, _⟩ := spn_sz fr sp2 (show k + 1 ≤ m by omega)
        exact ⟨Nat.lt_of_le_of_lt (rT_abs (by omega)) z1, Nat.lt_of_le_of_lt (rB_abs (by omega)) z3⟩
      · have sp2 : Spn t d (2 * A) (k + 1) := ⟨by rw [t2]; omega, by omega⟩
        obtain ⟨z1, z2, z3, _⟩ := spn_sz fr sp2 (show k + 1 ≤ m by omega)
        exact ⟨Nat.lt_of_le_of_lt (rT_abs (by omega)) z2, Nat.lt_of_le_of_lt (rB_abs (by omega)) z3⟩
    walk_at "rd"
    refine c_sign_at (P := [-t, d]) n (n + m + 2) (e13.l hl) h2 (zN sM.1 sM.2) ?_
    rw [MH.sign_made _ D1, MN.top_lin]
    have es : ordI (d * (2 * A + d) - t * (d * 2 ^ (k + 1))) 0 = ordI (2 * A + d) (t * 2 ^ (k + 1)) := by
      rw [ordI_sub, show d * (2 * A + d) = (2 * A + d) * d by rw [Int.mul_comm], show t * (d * 2 ^ (k + 1)) = (t * 2 ^ (k + 1)) * d by grind, ordI_scale d0]
    rw [es]
    walk_at "rd"
    have ha3 : IsR (Cof "Ratio") H2 a (rT (2 * A) (d * 2 ^ (k + 1))) (rB (2 * A) (d * 2 ^ (k + 1))) := (ha2.ex e3).same D0 D1 (by rw [← k2]; grind)
    have hb3 : IsR (Cof "Ratio") H2 b (rT (2 * A + 2 * d) (d * 2 ^ (k + 1))) (rB (2 * A + 2 * d) (d * 2 ^ (k + 1))) := (hb2.ex e3).same D0 D1 (by rw [← k2]; grind)
    have el : ordI (2 * A + 2 * d) (t * 2 ^ (k + 1)) = ordI (A + d) (t * 2 ^ k) := by
      rw [t2, show 2 * A + 2 * d = (A + d) * 2 by omega, show 2 * (t * 2 ^ k) = (t * 2 ^ k) * 2 by rw [Int.mul_comm], ordI_scale (by decide)]
    have low_ : IsR (Cof "Ratio") H2 p2 (rT (2 * A + d) (d * 2 ^ (k + 1))) (rB (2 * A + d) (d * 2 ^ (k + 1))) := h2
    refine ite_nd (fun hne => ?_) (fun heq => ?_)
    · walk_at "rd"
      have hA1 : ordI (A + d) (t * 2 ^ k) = 1 := by
        have : t * 2 ^ k < A + d := by
          apply Classical.byContradiction
          intro hh
          have : A + d = t * 2 ^ k := by omega
          rw [this, ordI_self] at hne
          exact hne rfl
        exact ordI_gt this
      rw [hA1]
      walk_at "rd"
      refine ite_nd (fun hne2 => ?_) (fun heq2 => ?_)
      · walk_at "rd"
        refine ⟨m - (k + 1), by omega, a, p2, 2 * A, k + 1, _, _, rfl, e13, ha3, low_, ⟨by rw [t2]; omega, ?_⟩, by omega, rfl⟩
        apply Classical.byContradiction
        intro hh
        rw [ordI_lt (show 2 * A + d < t * 2 ^ (k + 1) by omega)] at hne2
        exact hne2 rfl
      · walk_at "rd"
        refine ⟨m - (k + 1), by omega, p2, b, 2 * A + d, k + 1, some (.ref p2), some (.int (ordI (2 * A + d) (t * 2 ^ (k + 1)))), ?_, e13, low_, ?_, ⟨?_, by rw [t2]; omega⟩, by omega, rfl⟩
        · rw [show 2 * A + d + d = 2 * A + 2 * d by omega, el, hA1]; rfl
        · rw [show 2 * A + d + d = 2 * A + 2 * d by omega]; exact hb3
        · apply Classical.byContradiction
          intro hh
          by_cases h5 : 2 * A + d = t * 2 ^ (k + 1)
          · rw [h5, ordI_self] at heq2
            exact absurd heq2 (by decide)
          · rw [ordI_gt (show t * 2 ^ (k + 1) < 2 * A + d by omega)] at heq2
            exact absurd heq2 (by decide)
    · walk_at "rd"
      refine ⟨m - (k + 1), by omega, p2, b, 2 * A + d, k + 1, some (.ref p2), some (.int (ordI (2 * A + d) (t * 2 ^ (k + 1)))), ?_, e13, low_, ?_, ⟨?_, by rw [t2]; omega⟩, by omega, rfl⟩
      · rw [show 2 * A + d + d = 2 * A + 2 * d by omega, el]; rfl
      · rw [show 2 * A + d + d = 2 * A + 2 * d by omega]; exact hb3
      · have : A + d = t * 2 ^ k := by
          apply Classical.byContradiction
          intro hh
          rw [ordI_gt (show t * 2 ^ k < A + d by omega)] at heq
          exact absurd heq (by decide)
        rw [t2]; omega
  · walk_at "rd"
    have hge : W ≤ (2 : Int) ^ k := by
      apply Classical.byContradiction
      intro hh
      exact hle (ord_gt0.mpr (by omega))
    refine r_tupK fun tp H3 htp e3 h3 => ?_
    exact q tp a b H3 A k (Evl.fresh_back (e1.trans e2) htp) ((e1.trans e2).trans e3) h3 (ha2.ex e3) (hb2.ex e3) sp hge hk
theorem c_narrowed {l lo hi w : Addr} {t d W : Int} (n m : Nat) (hl : SqL K H l (([-t, d] : List Int).map V.int)) (h1 : IsR (Cof "Ratio") H lo (t - d) d) (h2 : IsR (Cof "Ratio") H hi t d) (h3 : IsR (Cof "Ratio") H w 1 W) (fr : MN.Frc n t d) (hs : 0 < W ∧ W < 2 ^ m ∧ 0 < m ∧ n + m ≤ 900) (q : ∀ (tp a b : Addr) (H' : Hp) (A : Int) (k : Nat), H tp = none → Ex H H' → H' tp = some (.tup [.ref a, .ref b]) → IsR (Cof "Ratio") H' a (rT A (d * 2 ^ k)) (rB A (d * 2 ^ k)) → IsR (Cof "Ratio") H' b (rT (A + d) (d * 2 ^ k)) (rB (A + d) (d * 2 ^ k)) → Spn t d A k → W ≤ 2 ^ k → k ≤ m → Q (.ref tp) H') : sp_narrowed K Cof [.ref l, .ref lo, .ref hi, .ref w] H Q E := ⟨l, lo, hi, w, t, d, W, n, m, rfl, hl, h1, h2, h3, fr, hs, q⟩
end

/-! #### least -/
--USE MN
def sp_least (K : PySem.W.Frag) (Cof : String → Addr) : Sp := fun vs H Q _ => ∃ (a : Addr) (lo hi : V) (t d : Int) (n : Nat), vs = [.ref a, lo, hi] ∧ SqL K H a (([-t, d] : List Int).map V.int) ∧ MN.Frc n t d ∧ RetI [-t, d] H Q
def t_least (K : PySem.W.Frag) (Cof : String → Addr) (E : XK) : TS :=
  tSeq (tIfS (tTest (tOp rEq (tCall (sp_degree K Cof) [] E0 (tCons (tVar 0) (tNil))) (tC (.int 1)))) (tRet (tCall (sp_plain K Cof) [] E0 (tCons (tVar 0) (tNil)))) (tNext))
  (tDead)

section
variable {K : PySem.W.Frag} {Cof : String → Addr} {vs : List V} {H : Hp} {Q : VK} {E : XK}
theorem len_least (h : sp_least K Cof vs H Q E) : vs.length = 3 := by
  obtain ⟨a, lo, hi, t, d, n, rfl, _⟩ := h; rfl
theorem rd_least (h : sp_least K Cof vs H Q E) : t_least K Cof E { nx := fun _ H' => Q .non H', rt := Q } (start ["P", "low", "high", "found", "width", "mine", "cell"] vs) H := by
  obtain ⟨a, lo, hi, t, d, n, rfl, hA, fr, q⟩ := h
  unfold t_least
  walk_at "rd"
  refine ite_d (fun _ => ?_) (fun h => absurd (by simp) h)
  walk_at "rd"
  refine c_plain (P := [-t, d]) hA (by simp) (fun _ => MN.log_gcd fr) fun p1 H1 hp1 e1 h1 => ?_
  rw [MN.plain_lin fr] at h1
  exact q p1 H1 hp1 e1 h1
theorem c_least {a : Addr} {lo hi : V} {t d : Int} (n : Nat) (hA : SqL K H a (([-t, d] : List Int).map V.int)) (fr : MN.Frc n t d) (q : ∀ p H', H p = none → Ex H H' → H' p = some (.lst (([-t, d] : List Int).map V.int)) → Q (.ref p) H') : sp_least K Cof [.ref a, lo, hi] H Q E := ⟨a, lo, hi, t, d, n, rfl, hA, fr, q⟩
end

/-! #### Number.__init__ -/
--USE RI
def sp_Number___init__ (K : PySem.W.Frag) (Cof : String → Addr) : Sp := fun vs H Q _ => ∃ (x dx a lo hi : Addr) (P : List Int), vs = [.ref x, .ref a, .ref lo, .ref hi] ∧ H x = some (.ins (Cof "Number") dx []) ∧ SqL K H a (P.map V.int) ∧ ∀ l H', H l = none → Exb x H H' → H' x = some (.ins (Cof "Number") dx (nF l lo hi)) → H' l = some (.lst (P.map V.int)) → Q .non H'
def t_Number___init__ (K : PySem.W.Frag) (Cof : String → Addr) (E : XK) : TS :=
  tSeq (sFld K (tVar 0) (tCB (rListS K) (tCons (tVar 1) (tNil))) "poly")
  (tSeq (sFld K (tVar 0) (tVar 2) "low")
  (sFld K (tVar 0) (tVar 3) "high"))

section
variable {K : PySem.W.Frag} {Cof : String → Addr} {vs : List V} {H : Hp} {Q : VK} {E : XK}
theorem len_Number___init__ (h : sp_Number___init__ K Cof vs H Q E) : vs.length = 4 := by
  obtain ⟨x, dx, a, lo, hi, P, rfl, _⟩ := h; rfl
theorem rd_Number___init__ (X : ExT K Cof) (h : sp_Number___init__ K Cof vs H Q E) : t_Number___init__ K Cof E { nx := fun _ H' => Q .non H', rt := Q } (start ["self", "poly", "low", "high"] vs) H := by
  obtain ⟨x, dx, a, lo, hi, P, rfl, hx, hA, q⟩ := h
  unfold t_Number___init__
  walk_at "rd"
  refine r_list hA fun l H1 hl e1 h1 => ?_
  have nlx : l ≠ x := fun z => by rw [z, hx] at hl; cases hl
  walk_at "rd"
  refine ⟨x, Cof "Number", dx, [], rfl, e1 _ _ hx, X.cl_Number, X.n_Number_poly, (by show 0 < 1000; decide), ?_⟩
  walk_at "rd"
  refine ⟨x, Cof "Number", dx, _, rfl, upd_same, X.cl_Number, X.n_Number_low, (by show 1 < 1000; decide), ?_⟩
  walk_at "rd"
  refine ⟨x, Cof "Number", dx, _, rfl, upd_same, X.cl_Number, X.n_Number_high, (by show 2 < 1000; decide), ?_⟩
  refine q l _ hl (fun a n o h => ?_) ?_ ?_
  · rw [upd_ne n, upd_ne n, upd_ne n]
    exact e1 _ _ h
  · rw [upd_same]
    rfl
  · rw [upd_ne nlx, upd_ne nlx, upd_ne nlx]
    exact h1
end
theorem c_Number {K : PySem.W.Frag} {Cof : String → Addr} {H : Hp} {Q : VK} {E : XK} {a lo hi : Addr} {P : List Int} {t b t2 b2 : Int} (hA : SqL K H a (P.map V.int)) (h1 : IsR (Cof "Ratio") H lo t b) (h2 : IsR (Cof "Ratio") H hi t2 b2) (q : RetM (Cof "Number") (Cof "Ratio") P t b t2 b2 H Q) : MakeK (Cof "Number") (sp_Number___init__ K Cof) [] E Q [.ref a, .ref lo, .ref hi] H := fun x dx hx hdx hne => by
  have eu : Ex H (upd (upd H dx (.own x)) x (.ins (Cof "Number") dx [])) := fun y o ho => by
    rw [upd_ne (ne_of_none ho hx), upd_ne (ne_of_none ho hdx)]
    exact ho
  refine ⟨x, dx, a, lo, hi, P, rfl, upd_same, eu.l hA, fun l H' hl e h3 h4 => ⟨rfl, ?_⟩⟩
  have eH : Ex H H' := fun y o ho => e y (ne_of_none ho hx) o (eu _ _ ho)
  exact q x H' hx eH ⟨l, lo, hi, ⟨dx, h3⟩, h4, h1.ex eH, h2.ex eH⟩

/-! #### look_at_size -/
--USE MN
def sp_look_at_size (K : PySem.W.Frag) (Cof : String → Addr) : Sp := fun vs H Q _ => ∃ (a : Addr) (P : List Int), vs = [.ref a] ∧ SqL K H a (P.map V.int) ∧ (∀ c ∈ P, (c.natAbs : Int) < (10 : Int) ^ 120) ∧ Q .non H
def t_look_at_size (K : PySem.W.Frag) (Cof : String → Addr) (E : XK) : TS :=
  tFor (iList K (tVar 0)) (gName 1) (tIfS (tTest (tOp rGe (tCB rAbs (tCons (tVar 1) (tNil))) (tOp rMul (tC (.int (1000000000000000000000000000000000000000000000000000000000000))) (tC (.int (1000000000000000000000000000000000000000000000000000000000000)))))) (tDead) (tNext))

section
variable {K : PySem.W.Frag} {Cof : String → Addr} {vs : List V} {H : Hp} {Q : VK} {E : XK}
theorem len_look_at_size (h : sp_look_at_size K Cof vs H Q E) : vs.length = 1 := by
  obtain ⟨a, P, rfl, _⟩ := h; rfl
theorem rd_look_at_size (h : sp_look_at_size K Cof vs H Q E) : t_look_at_size K Cof E { nx := fun _ H' => Q .non H', rt := Q } (start ["P", "one"] vs) H := by
  obtain ⟨a, P, rfl, hA, hs, q⟩ := h
  unfold t_look_at_size
  walk_at "rd"
  refine loop_ints (ns := P) (fun i σ' H' => ∃ u, σ' = [some (.ref a), u] ∧ H = H') ⟨_, rfl, rfl⟩ (fun i σ' H' _ hp => ?_) (fun i x σ' H' hx hp => ?_) (fun σ' H' hp => ?_)
  · obtain ⟨u, rfl, rfl⟩ := hp
    exact hA
  · obtain ⟨u, rfl, rfl⟩ := hp
    have hx := hs x (List.mem_of_getElem? hx)
    walk_at "rd"
    rw [abs_if]
    refine r_mul (wide_mul (a := 200) (b := 200) (by decide) (by decide) (by decide) (by decide) (by decide)) ?_
    walk_at "rd"
    have e : (1000000000000000000000000000000000000000000000000000000000000 : Int) * 1000000000000000000000000000000000000000000000000000000000000 = (10 : Int) ^ 120 := by decide
    rw [e]
    refine ite_d (fun h => ?_) (fun _ => ?_)
    · exfalso; omega
    · walk_at "rd"
      exact ⟨_, rfl, rfl⟩
  · obtain ⟨u, rfl, rfl⟩ := hp
    exact q
theorem c_look_at_size {a : Addr} {P : List Int} (hA : SqL K H a (P.map V.int)) (hs : ∀ c ∈ P, (c.natAbs : Int) < (10 : Int) ^ 120) (q : Q .non H) : sp_look_at_size K Cof [.ref a] H Q E := ⟨a, P, rfl, hA, hs, q⟩
end

/-! #### settled -/
--USE RI
def sp_settled (K : PySem.W.Frag) (Cof : String → Addr) : Sp := fun vs H Q _ => ∃ (a : Addr) (lo hi : V) (t d : Int) (n : Nat), vs = [.ref a, lo, hi] ∧ SqL K H a (([-t, d] : List Int).map V.int) ∧ MN.Frc n t d ∧ RetM (Cof "Number") (Cof "Ratio") [-t, d] (t - d) d t d H Q
def t_settled (K : PySem.W.Frag) (Cof : String → Addr) (E : XK) : TS :=
  tSeq (tIfS (tTest (tOp rEq (tCall (sp_degree K Cof) [] E0 (tCons (tVar 0) (tNil))) (tC (.int 1)))) (tSeq (tAsg (tMake (Cof "Ratio") (sp_Ratio___init__ K Cof) [] E0 (tCons (tUn rNeg (tOp (rIxL K) (tVar 0) (tC (.int 0)))) (tCons (tOp (rIxL K) (tVar 0) (tC (.int 1))) (tNil)))) (gName 3))
  (tRet (tMake (Cof "Number") (sp_Number___init__ K Cof) [] E0 (tCons (tVar 0) (tCons (tMeth (Cof "Ratio") "minus" (sp_Ratio_minus K Cof) [] E0 (tVar 3) (tCons (tMake (Cof "Ratio") (sp_Ratio___init__ K Cof) [.int 1] E0 (tCons (tC (.int 1)) (tNil))) (tNil))) (tCons (tVar 3) (tNil))))))) (tNext))
  (tDead)

section
variable {K : PySem.W.Frag} {Cof : String → Addr} {vs : List V} {H : Hp} {Q : VK} {E : XK}
theorem len_settled (h : sp_settled K Cof vs H Q E) : vs.length = 3 := by
  obtain ⟨a, lo, hi, t, d, n, rfl, _⟩ := h; rfl
theorem rd_settled (h : sp_settled K Cof vs H Q E) : t_settled K Cof E { nx := fun _ H' => Q .non H', rt := Q } (start ["P", "low", "high", "spot", "row", "bottom", "whole", "begin", "end"] vs) H := by
  obtain ⟨a, lo, hi, t, d, n, rfl, hA, fr, q⟩ := h
  have d0 := fr.d0
  have n0 := fr.n0
  have n9 := fr.n9
  unfold t_settled
  walk_at "rd"
  refine ite_d (fun _ => ?_) (fun h => absurd (by simp) h)
  walk_at "rd"
  refine r_ixI (ns := [-t, d]) hA (by decide) (by simp) ?_
  walk_at "rd"
  refine r_ixI (ns := [-t, d]) hA (by decide) (by simp) ?_
  walk_at "rd"
  have e0 : -(([-t, d] : List Int).getD (0 : Int).toNat 0) = t := by show - -t = t; omega
  have e1' : ([-t, d] : List Int).getD (1 : Int).toNat 0 = d := rfl
  rw [e0, e1']
  refine c_Ratio n (by omega) fr.sd n0 (by omega) fun p1 H1 hp1 e1 h1 => ?_
  rw [rT_low d0 fr.g1, rB_low d0 fr.g1] at h1
  have hA1 := e1.l hA
  walk_at "rd"
  refine c_Ratio1 fun p2 H2 hp2 e2 h2 => ?_
  rw [rT_one, rB_one] at h2
  have h1' := h1.ex e2
  have hA2 := e2.l hA1
  walk_at "rd"
  have st := fr.st
  have sd := fr.sd
  have h1n : (1 : Int).natAbs < 2 ^ n := by show 1 < 2 ^ n; exact Nat.one_lt_two_pow (by omega)
  refine c_Ratio_minus n h1' h2 ⟨st, sd, h1n, h1n, n0, by omega, by omega, by decide⟩ fun p3 H3 hp3 e3 h3 => ?_
  rw [show t * 1 - 1 * d = t - d by omega, show d * 1 = d by omega, rT_low d0 (gcd_less fr.g1), rB_low d0 (gcd_less fr.g1)] at h3
  walk_at "rd"
  refine c_Number (P := [-t, d]) (e3.l hA2) h3 (h1'.ex e3) fun p4 H4 hp4 e4 h4 => ?_
  have e13 := (e1.trans e2).trans e3
  exact q p4 H4 (Evl.fresh_back e13 hp4) (e13.trans e4) h4
theorem c_settled {a : Addr} {lo hi : V} {t d : Int} (n : Nat) (hA : SqL K H a (([-t, d] : List Int).map V.int)) (fr : MN.Frc n t d) (q : RetM (Cof "Number") (Cof "Ratio") [-t, d] (t - d) d t d H Q) : sp_settled K Cof [.ref a, lo, hi] H Q E := ⟨a, lo, hi, t, d, n, rfl, hA, fr, q⟩
end

/-! #### number -/
--USE RI
def sp_number (K : PySem.W.Frag) (Cof : String → Addr) : Sp := fun vs H Q _ => ∃ (a : Addr) (t d : Int) (n : Nat), vs = [.ref a, .non, .non] ∧ SqL K H a (([-t, d] : List Int).map V.int) ∧ MN.Frc n t d ∧ ((t.natAbs : Int) < (10 : Int) ^ 120 ∧ d < (10 : Int) ^ 120) ∧ RetM (Cof "Number") (Cof "Ratio") [-t, d] (t - d) d t d H Q
def t_number (K : PySem.W.Frag) (Cof : String → Addr) (E : XK) : TS :=
  tSeq (tIfS (tTest (tOp rGt (tCall (sp_degree K Cof) [] E0 (tCons (tVar 0) (tNil))) (tC (.int (8))))) (tDead) (tNext))
  (tSeq (tIfS (tTest (tOp rLt (tCall (sp_degree K Cof) [] E0 (tCons (tVar 0) (tNil))) (tC (.int 1)))) (tDead) (tNext))
  (tCut (tIfS (tTest (tOp rIsN (tVar 1) (tC .non))) (tAsg (tMake (Cof "Ratio") (sp_Ratio___init__ K Cof) [.int 1] E0 (tCons (tUn rNeg (tCall (sp_bound K Cof) [] E0 (tCons (tVar 0) (tNil)))) (tNil))) (gName 1)) (tNext))
  (tCut (tIfS (tTest (tOp rIsN (tVar 2) (tC .non))) (tAsg (tMake (Cof "Ratio") (sp_Ratio___init__ K Cof) [.int 1] E0 (tCons (tCall (sp_bound K Cof) [] E0 (tCons (tVar 0) (tNil))) (tNil))) (gName 2)) (tNext))
  (tSeq (tIfS (tTest (tOp rGe (tMeth (Cof "Ratio") "against" (sp_Ratio_against K Cof) [] E0 (tVar 1) (tCons (tVar 2) (tNil))) (tC (.int 0)))) (tDead) (tNext))
  (tSeq (tAsg (tCall (sp_without_squares K Cof) [] E0 (tCons (tVar 0) (tNil))) (gName 3))
  (tSeq (tAsg (tCall (sp_count K Cof) [] E0 (tCons (tCall (sp_row_of K Cof) [] E0 (tCons (tVar 3) (tNil))) (tCons (tVar 1) (tCons (tVar 2) (tNil))))) (gName 4))
  (tSeq (tIfS (tTest (tOp rNe (tVar 4) (tC (.int 1)))) (tDead) (tNext))
  (tSeq (tDrop (tCall (sp_look_at_size K Cof) [] E0 (tCons (tVar 3) (tNil))))
  (tRet (tCall (sp_settled K Cof) [] E0 (tCons (tCall (sp_least K Cof) [] E0 (tCons (tVar 3) (tCons (tVar 1) (tCons (tVar 2) (tNil))))) (tCons (tVar 1) (tCons (tVar 2) (tNil))))))))))))))

section
variable {K : PySem.W.Frag} {Cof : String → Addr} {vs : List V} {H : Hp} {Q : VK} {E : XK}
theorem len_number (h : sp_number K Cof vs H Q E) : vs.length = 3 := by
  obtain ⟨a, t, d, n, rfl, _⟩ := h; rfl
theorem rd_number (h : sp_number K Cof vs H Q E) : t_number K Cof E { nx := fun _ H' => Q .non H', rt := Q } (start ["P", "low", "high", "S", "many"] vs) H := by
  obtain ⟨a, t, d, n, rfl, hA, fr, ⟨bt, bd⟩, q⟩ := h
  have d0 := fr.d0
  have n0 := fr.n0
  have n9 := fr.n9
  have st := fr.st
  have sd := fr.sd
  unfold t_number
  walk_at "rd"
  refine ite_d (fun h => absurd h (by simp)) (fun _ => ?_)
  walk_at "rd"
  refine ite_d (fun h => absurd h (by simp)) (fun _ => ?_)
  walk_at "rd"
  have low_ : ∀ j : Nat, Bnd [-t, d] j → -(d * (2 : Int) ^ j) < t ∧ t < d * (2 : Int) ^ j := fun j hb => by
    have h1 := hb.le (-t) (by simp [List.dropLast])
    have h2 : ([-t, d] : List Int).getD (([-t, d] : List Int).length - 1) 0 = d := rfl
    rw [h2] at h1
    have h3 : ((d.natAbs : Nat) : Int) = d := by omega
    rw [h3, Int.sub_mul, Int.mul_comm _ d] at h1
    omega
  refine ⟨fun σ' H' => ∃ (lo : Addr) (j : Nat), σ' = [some (.ref a), some (.ref lo), some .non, none, none] ∧ Ex H H' ∧ IsR (Cof "Ratio") H' lo (-(2 : Int) ^ j) 1 ∧ -(d * (2 : Int) ^ j) < t ∧ j ≤ n, ?_, fun σ' H' hM => ?_⟩
  · walk_at "rd"
    refine r_isN ?_
    walk_at "rd"
    refine ite_d (fun _ => ?_) (fun h => absurd rfl h)
    walk_at "rd"
    refine c_bound (P := [-t, d]) n hA ⟨by simp, by show d ≠ 0; omega⟩ (MN.sz_lin fr) ⟨n0, by omega⟩ fun j H1 e1 hb hj => ?_
    walk_at "rd"
    refine c_Ratio1 fun p1 H2 hp1 e2 h1 => ?_
    rw [rT_one, rB_one] at h1
    exact ⟨p1, j, rfl, e1.trans e2, h1, (low_ j hb).1, hj⟩
  obtain ⟨lo, j1, rfl, e1, hlo, hl1, hj1⟩ := hM
  have hA1 := e1.l hA
  walk_at "rd"
  refine ⟨fun σ' H2 => ∃ (hi : Addr) (j : Nat), σ' = [some (.ref a), some (.ref lo), some (.ref hi), none, none] ∧ Ex H' H2 ∧ IsR (Cof "Ratio") H2 hi ((2 : Int) ^ j) 1 ∧ t < d * (2 : Int) ^ j ∧ j ≤ n, ?_, fun σ' H2 hM => ?_⟩
  · walk_at "rd"
    refine r_isN ?_
    walk_at "rd"
    refine ite_d (fun _ => ?_) (fun h => absurd rfl h)
    walk_at "rd"
    refine c_bound (P := [-t, d]) n hA1 ⟨by simp, by show d ≠ 0; omega⟩ (MN.sz_lin fr) ⟨n0, by omega⟩ fun j H1 e1 hb hj => ?_
    walk_at "rd"
    refine c_Ratio1 fun p1 H2 hp1 e2 h1 => ?_
    rw [rT_one, rB_one] at h1
    exact ⟨p1, j, rfl, e1.trans e2, h1, (low_ j hb).2, hj⟩
  obtain ⟨hi, j2, rfl, e2, hhi, hl2, hj2⟩ := hM
  have hlo2 := hlo.ex e2
  have hA2 := e2.l hA1
  have pj : ∀ {j : Nat}, j ≤ n → ((2 : Int) ^ j).natAbs < 2 ^ (n + 1) := fun {j} hj => by
    have h5 := Nat.pow_le_pow_right (show 0 < 2 by decide) hj
    rw [pow2_cast, Int.natAbs_natCast, Nat.pow_succ]
    have := Nat.two_pow_pos n
    omega
  have p1 := pow_pos2 j1
  have p2 := pow_pos2 j2
  have b1 := pj hj1
  have b2 := pj hj2
  have one_ : (1 : Int).natAbs < 2 ^ (n + 1) := by show 1 < 2 ^ (n + 1); exact Nat.one_lt_two_pow (by omega)
  generalize (2 : Int) ^ j1 = B1 at *
  generalize (2 : Int) ^ j2 = B2 at *
  walk_at "rd"
  refine c_Ratio_against (n + 1) hlo2 hhi ⟨by rw [Int.natAbs_neg]; exact b1, one_, b2, one_, by omega, by omega, by decide, by decide⟩ ?_
  rw [ordI_lt (show -B1 * 1 < B2 * 1 by omega)]
  walk_at "rd"
  refine ite_d (fun h => absurd h (by decide)) (fun _ => ?_)
  walk_at "rd"
  refine c_without_squares n hA2 fr fun p3 H3 hp3 e3 h3 => ?_
  have hlo3 := hlo2.ex e3
  have hhi3 := hhi.ex e3
  walk_at "rd"
  refine c_row_of (P := [-t, d]) n 2 (SqL.inj h3) (by simp) (by decide) (MN.sz_lin fr) ⟨n0, by omega⟩ (MN.trim_lin (by omega)) (fun _ => MN.row_ok fr) ?_
  intro pr ps H4 hpr hps hn e4 h4 hW
  rw [MN.row_lin fr] at hW
  have hlo4 := hlo3.ex e4
  have hhi4 := hhi3.ex e4
  walk_at "rd"
  have hz : ∀ P ∈ ([[-t, d], [1]] : List (List Int)), ∀ {x : Int}, x.natAbs < 2 ^ (n + 1) → HSz n (n + 1) P x 1 := fun P hP x hx => by
    simp only [List.mem_cons, List.not_mem_nil, or_false] at hP
    rcases hP with rfl | rfl
    · exact ⟨MN.sz_lin fr, hx, one_, n0, by omega, by show n + (n + 1 + 1) * (2 + 1) ≤ 900000; omega⟩
    · exact ⟨fun z hz => by rw [List.mem_singleton.mp hz]; exact Nat.one_lt_two_pow (by omega), hx, one_, n0, by omega, by show n + (n + 1 + 1) * (1 + 1) ≤ 900000; omega⟩
  refine c_count n (n + 1) (SqL.inj h4) hW hlo4 hhi4 (fun P hP => hz P hP (by rw [Int.natAbs_neg]; exact b1)) (fun P hP => hz P hP b2) ?_
  rw [MN.chg_below (show d * -B1 < t * 1 by rw [Int.mul_neg]; omega), MN.chg_above (show t * 1 ≤ d * B2 by omega)]
  walk_at "rd"
  refine ite_nd (fun h => absurd rfl h) (fun _ => ?_)
  have h3' := e4 _ _ h3
  walk_at "rd"
  refine c_look_at_size (P := [-t, d]) (SqL.inj h3') (fun c hc => ?_) ?_
  · simp only [List.mem_cons, List.not_mem_nil, or_false] at hc
    rcases hc with rfl | rfl
    · rw [Int.natAbs_neg]; exact bt
    · omega
  walk_at "rd"
  refine c_least n (SqL.inj h3') fr fun p5 H5 hp5 e5 h5 => ?_
  walk_at "rd"
  refine c_settled n (SqL.inj h5) fr fun p6 H6 hp6 e6 h6 => ?_
  have e15 := (((e1.trans e2).trans e3).trans e4).trans e5
  exact q p6 H6 (Evl.fresh_back e15 hp6) (e15.trans e6) h6
theorem c_number {a : Addr} {t d : Int} (n : Nat) (hA : SqL K H a (([-t, d] : List Int).map V.int)) (fr : MN.Frc n t d) (hb : (t.natAbs : Int) < (10 : Int) ^ 120 ∧ d < (10 : Int) ^ 120) (q : RetM (Cof "Number") (Cof "Ratio") [-t, d] (t - d) d t d H Q) : sp_number K Cof [.ref a, .non, .non] H Q E := ⟨a, t, d, n, rfl, hA, fr, hb, q⟩
end

/-! #### fraction -/
--USE RI
def sp_fraction (K : PySem.W.Frag) (Cof : String → Addr) : Sp := fun vs H Q _ => ∃ (r : Addr) (t d : Int) (n : Nat), vs = [.ref r] ∧ IsR (Cof "Ratio") H r t d ∧ MN.Frc n t d ∧ ((t.natAbs : Int) < (10 : Int) ^ 120 ∧ d < (10 : Int) ^ 120) ∧ RetM (Cof "Number") (Cof "Ratio") [-t, d] (t - d) d t d H Q
def t_fraction (K : PySem.W.Frag) (Cof : String → Addr) (E : XK) : TS :=
  tRet (tCall (sp_number K Cof) [.non, .non] E0 (tCons (tLst (tCons (tUn rNeg (tFld K (tVar 0) "top")) (tCons (tFld K (tVar 0) "bottom") (tNil)))) (tNil)))

section
variable {K : PySem.W.Frag} {Cof : String → Addr} {vs : List V} {H : Hp} {Q : VK} {E : XK}
theorem len_fraction (h : sp_fraction K Cof vs H Q E) : vs.length = 1 := by
  obtain ⟨r, t, d, n, rfl, _⟩ := h; rfl
theorem rd_fraction (X : ExT K Cof) (h : sp_fraction K Cof vs H Q E) : t_fraction K Cof E { nx := fun _ H' => Q .non H', rt := Q } (start ["r"] vs) H := by
  obtain ⟨r, t, d, n, rfl, hR, fr, hb, q⟩ := h
  have cl := X.cl_Ratio
  have nt := X.n_Ratio_top
  have nb := X.n_Ratio_bottom
  unfold t_fraction
  walk_at "rd"
  refine r_callD ?_
  walk_at "rd"
  refine r_lstK fun p1 H1 hp1 e1 h1 => ?_
  have h1' : H1 p1 = some (.lst (([-t, d] : List Int).map V.int)) := h1
  walk_at "rd"
  refine c_number n (SqL.inj h1') fr hb fun p6 H6 hp6 e6 h6 => ?_
  exact q p6 H6 (Evl.fresh_back e1 hp6) (e1.trans e6) h6
theorem c_fraction {r : Addr} {t d : Int} (n : Nat) (hR : IsR (Cof "Ratio") H r t d) (fr : MN.Frc n t d) (hb : (t.natAbs : Int) < (10 : Int) ^ 120 ∧ d < (10 : Int) ^ 120) (q : RetM (Cof "Number") (Cof "Ratio") [-t, d] (t - d) d t d H Q) : sp_fraction K Cof [.ref r] H Q E := ⟨r, t, d, n, rfl, hR, fr, hb, q⟩
end

/-! #### narrow -/
--USE RI MX
def sp_narrow (K : PySem.W.Frag) (Cof : String → Addr) : Sp := fun vs H Q _ => ∃ (p w : Addr) (t d W : Int) (n m : Nat), vs = [.ref p, .ref w] ∧ FrN K Cof H p t d ∧ IsR (Cof "Ratio") H w 1 W ∧ MN.Frc n t d ∧ (0 < W ∧ W < 2 ^ m ∧ 0 < m ∧ n + m ≤ 900) ∧
  ∀ (p' : Addr) (H' : Hp) (A : Int) (k : Nat), H p' = none → Ex H H' → IsM (Cof "Number") (Cof "Ratio") H' p' [-t, d] (rT A (d * 2 ^ k)) (rB A (d * 2 ^ k)) (rT (A + d) (d * 2 ^ k)) (rB (A + d) (d * 2 ^ k)) → Spn t d A k → W ≤ 2 ^ k → k ≤ m → Q (.ref p') H'
def t_narrow (K : PySem.W.Frag) (Cof : String → Addr) (E : XK) : TS :=
  tSeq (tAsg (tCall (sp_narrowed K Cof) [] E0 (tCons (tFld K (tVar 0) "poly") (tCons (tFld K (tVar 0) "low") (tCons (tFld K (tVar 0) "high") (tCons (tVar 1) (tNil)))))) (gName 2))
  (tRet (tMake (Cof "Number") (sp_Number___init__ K Cof) [] E0 (tCons (tFld K (tVar 0) "poly") (tCons (tOp (rIxT K) (tVar 2) (tC (.int 0))) (tCons (tOp (rIxT K) (tVar 2) (tC (.int 1))) (tNil))))))

section
variable {K : PySem.W.Frag} {Cof : String → Addr} {vs : List V} {H : Hp} {Q : VK} {E : XK}
theorem len_narrow (h : sp_narrow K Cof vs H Q E) : vs.length = 2 := by
  obtain ⟨p, w, t, d, W, n, m, rfl, _⟩ := h; rfl
theorem rd_narrow (X : ExT K Cof) (h : sp_narrow K Cof vs H Q E) : t_narrow K Cof E { nx := fun _ H' => Q .non H', rt := Q } (start ["n", "width", "span"] vs) H := by
  obtain ⟨p, w, t, d, W, n, m, rfl, ⟨l, a, b, hN, hl, ha, hb⟩, hw, fr, hs, q⟩ := h
  unfold t_narrow
  walk_at "rd"
  refine n_poly X.cl_Number X.n_Number_poly hN ?_
  walk_at "rd"
  refine n_low X.cl_Number X.n_Number_low hN ?_
  walk_at "rd"
  refine n_high X.cl_Number X.n_Number_high hN ?_
  walk_at "rd"
  refine c_narrowed n m (SqL.inj hl) ha hb hw fr hs fun tp a' b' H1 A k htp e1 h1 ha1 hb1 sp hW hk => ?_
  have hN1 := hN.ex e1
  have hl1 := e1 _ _ hl
  walk_at "rd"
  refine n_poly X.cl_Number X.n_Number_poly hN1 ?_
  walk_at "rd"
  refine r_ixT (xs := [.ref a', .ref b']) (.inl (.inl h1)) (atI_nat (j := 0) rfl) ?_
  walk_at "rd"
  refine r_ixT (xs := [.ref a', .ref b']) (.inl (.inl h1)) (atI_nat (j := 1) rfl) ?_
  walk_at "rd"
  refine c_Number (P := [-t, d]) (SqL.inj hl1) ha1 hb1 fun p4 H4 hp4 e4 h4 => ?_
  exact q p4 H4 A k (Evl.fresh_back e1 hp4) (e1.trans e4) h4 sp hW hk
theorem c_narrow {p w : Addr} {t d W : Int} (n m : Nat) (hM : FrN K Cof H p t d) (h3 : IsR (Cof "Ratio") H w 1 W) (fr : MN.Frc n t d) (hs : 0 < W ∧ W < 2 ^ m ∧ 0 < m ∧ n + m ≤ 900) (q : ∀ (p' : Addr) (H' : Hp) (A : Int) (k : Nat), H p' = none → Ex H H' → IsM (Cof "Number") (Cof "Ratio") H' p' [-t, d] (rT A (d * 2 ^ k)) (rB A (d * 2 ^ k)) (rT (A + d) (d * 2 ^ k)) (rB (A + d) (d * 2 ^ k)) → Spn t d A k → W ≤ 2 ^ k → k ≤ m → Q (.ref p') H') : sp_narrow K Cof [.ref p, .ref w] H Q E := ⟨p, w, t, d, W, n, m, rfl, hM, h3, fr, hs, q⟩
end

/-! #### against -/
--USE RI MX
def sp_against (K : PySem.W.Frag) (Cof : String → Addr) : Sp := fun vs H Q _ => ∃ (p r : Addr) (t d lt lb ht hb x y : Int) (n : Nat), vs = [.ref p, .ref r] ∧ IsM (Cof "Number") (Cof "Ratio") H p [-t, d] lt lb ht hb ∧ MN.Frc n t d ∧ IsR (Cof "Ratio") H r x y ∧ (0 < y ∧ 0 < lb ∧ 0 < hb ∧ lt * d < t * lb ∧ t * hb ≤ ht * d) ∧ (x.natAbs < 2 ^ n ∧ y.natAbs < 2 ^ n ∧ lt.natAbs < 2 ^ n ∧ lb.natAbs < 2 ^ n ∧ ht.natAbs < 2 ^ n ∧ hb.natAbs < 2 ^ n) ∧ Q (.int (ordI (t * y) (x * d))) H
def t_against (K : PySem.W.Frag) (Cof : String → Addr) (E : XK) : TS :=
  tSeq (tIfS (tTest (tOp rLe (tMeth (Cof "Ratio") "against" (sp_Ratio_against K Cof) [] E0 (tVar 1) (tCons (tFld K (tVar 0) "low") (tNil))) (tC (.int 0)))) (tRet (tC (.int 1))) (tNext))
  (tSeq (tIfS (tTest (tOp rGt (tMeth (Cof "Ratio") "against" (sp_Ratio_against K Cof) [] E0 (tVar 1) (tCons (tFld K (tVar 0) "high") (tNil))) (tC (.int 0)))) (tRet (tUn rNeg (tC (.int 1)))) (tNext))
  (tSeq (tAsg (tCall (sp_sign_at K Cof) [] E0 (tCons (tFld K (tVar 0) "poly") (tCons (tVar 1) (tNil)))) (gName 2))
  (tSeq (tIfS (tTest (tOp rEq (tVar 2) (tC (.int 0)))) (tRet (tC (.int 0))) (tNext))
  (tSeq (tIfS (tTest (tOp rEq (tVar 2) (tCall (sp_sign_at K Cof) [] E0 (tCons (tFld K (tVar 0) "poly") (tCons (tFld K (tVar 0) "low") (tNil)))))) (tRet (tC (.int 1))) (tNext))
  (tRet (tUn rNeg (tC (.int 1))))))))

section
variable {K : PySem.W.Frag} {Cof : String → Addr} {vs : List V} {H : Hp} {Q : VK} {E : XK}
theorem len_against (h : sp_against K Cof vs H Q E) : vs.length = 2 := by
  obtain ⟨p, r, t, d, lt, lb, ht, hb, x, y, n, rfl, _⟩ := h; rfl
theorem cross_lt {a b c d e f : Int} (hb : 0 < b) (hd : 0 < d) (hf : 0 < f) (h1 : a * d ≤ c * b) (h2 : c * f < e * d) : a * f < e * b := by
  have k1 := Int.mul_le_mul_of_nonneg_right h1 (show 0 ≤ f by omega)
  have k2 := Int.mul_lt_mul_of_pos_right h2 hb
  have e1 : a * d * f = (a * f) * d := by grind
  have e2 : c * b * f = c * f * b := by grind
  have e3 : e * d * b = (e * b) * d := by grind
  have : (a * f) * d < (e * b) * d := by omega
  exact Int.lt_of_mul_lt_mul_right this (by omega)
theorem cross_lt' {a b c d e f : Int} (hb : 0 < b) (hd : 0 < d) (hf : 0 < f) (h1 : a * d < c * b) (h2 : c * f ≤ e * d) : a * f < e * b := by
  have k1 := Int.mul_lt_mul_of_pos_right h1 hf
  have k2 := Int.mul_le_mul_of_nonneg_right h2 (show 0 ≤ b by omega)
  have e1 : a * d * f = (a * f) * d := by grind
  have e2 : c * b * f = c * f * b := by grind
  have e3 : e * d * b = (e * b) * d := by grind
  have : (a * f) * d < (e * b) * d := by omega
  exact Int.lt_of_mul_lt_mul_right this (by omega)
theorem rd_against (X : ExT K Cof) (h : sp_against K Cof vs H Q E) : t_against K Cof E { nx := fun _ H' => Q .non H', rt := Q } (start ["n", "r", "side_there"] vs) H := by
  obtain ⟨p, r, t, d, lt, lb, ht, hb, x, y, n, rfl, ⟨l, a, b, hN, hl, ha, hbr⟩, fr, hR, ⟨y0, lb0, hb0, hlo, hhi⟩, ⟨sx, sy, s1, s2, s3, s4⟩, q⟩ := h
  have cl := X.cl_Ratio
  have nt := X.n_Ratio_top
  have nb := X.n_Ratio_bottom
  have d0 := fr.d0
  have n0 := fr.n0
  have n9 := fr.n9
  unfold t_against
  walk_at "rd"
  refine n_low X.cl_Number X.n_Number_low hN ?_
  walk_at "rd"
  refine c_Ratio_against n hR ha ⟨sx, sy, s1, s2, n0, by omega, by omega, by omega⟩ ?_
  walk_at "rd"
  refine ite_d (fun h => ?_) (fun h => ?_)
  · walk_at "rd"
    have k := cross_lt y0 lb0 d0 (ord_le0.mp h) hlo
    rw [ordI_gt k] at q
    exact q
  walk_at "rd"
  refine n_high X.cl_Number X.n_Number_high hN ?_
  walk_at "rd"
  refine c_Ratio_against n hR hbr ⟨sx, sy, s3, s4, n0, by omega, by omega, by omega⟩ ?_
  walk_at "rd"
  refine ite_d (fun h2 => ?_) (fun h2 => ?_)
  · walk_at "rd"
    have k : t * y < x * d := by
      have k1 := ord_gt0.mp h2
      have k2 := Int.mul_le_mul_of_nonneg_right hhi (show 0 ≤ y by omega)
      have k3 := Int.mul_lt_mul_of_pos_right k1 d0
      have e1 : t * hb * y = (t * y) * hb := by grind
      have e2 : ht * d * y = ht * y * d := by grind
      have e3 : x * hb * d = (x * d) * hb := by grind
      have : (t * y) * hb < (x * d) * hb := by omega
      exact Int.lt_of_mul_lt_mul_right this (by omega)
    rw [ordI_lt k] at q
    exact q
  walk_at "rd"
  refine n_poly X.cl_Number X.n_Number_poly hN ?_
  walk_at "rd"
  refine c_sign_at (P := [-t, d]) n n (SqL.inj hl) hR ⟨MN.sz_lin fr, sx, sy, n0, n0, by show n + (n + 1) * (2 + 1) ≤ 900000; omega⟩ ?_
  rw [MN.top_lin]
  walk_at "rd"
  have eo : ordI (d * x - t * y) 0 = - ordI (t * y) (x * d) := by
    rw [ordI_sub, ← ordI_swap, Int.mul_comm d x]
  rw [eo]
  refine ite_d (fun h3 => ?_) (fun h3 => ?_)
  · walk_at "rd"
    have : ordI (t * y) (x * d) = 0 := by omega
    rw [this] at q
    exact q
  walk_at "rd"
  refine n_poly X.cl_Number X.n_Number_poly hN ?_
  walk_at "rd"
  refine n_low X.cl_Number X.n_Number_low hN ?_
  walk_at "rd"
  refine c_sign_at (P := [-t, d]) n n (SqL.inj hl) ha ⟨MN.sz_lin fr, s1, s2, n0, n0, by show n + (n + 1) * (2 + 1) ≤ 900000; omega⟩ ?_
  rw [MN.top_lin, ordI_lt (show d * lt - t * lb < 0 by rw [Int.mul_comm d lt]; omega)]
  walk_at "rd"
  have o3 : ordI (t * y) (x * d) = 1 ∨ ordI (t * y) (x * d) = -1 := by
    unfold ordI at h3 ⊢
    split
    · exact .inr rfl
    · next h4 =>
      split
      · exact .inl rfl
      · next h5 =>
        rw [if_neg h4, if_neg h5] at h3
        exact absurd rfl h3
  refine ite_d (fun h4 => ?_) (fun h4 => ?_)
  · walk_at "rd"
    have : ordI (t * y) (x * d) = 1 := by omega
    rw [this] at q
    exact q
  · walk_at "rd"
    have : ordI (t * y) (x * d) = -1 := by omega
    rw [this] at q
    exact q
theorem c_against {p r : Addr} {t d lt lb ht hb x y : Int} (n : Nat) (hM : IsM (Cof "Number") (Cof "Ratio") H p [-t, d] lt lb ht hb) (fr : MN.Frc n t d) (hR : IsR (Cof "Ratio") H r x y) (hs : 0 < y ∧ 0 < lb ∧ 0 < hb ∧ lt * d < t * lb ∧ t * hb ≤ ht * d) (hz : x.natAbs < 2 ^ n ∧ y.natAbs < 2 ^ n ∧ lt.natAbs < 2 ^ n ∧ lb.natAbs < 2 ^ n ∧ ht.natAbs < 2 ^ n ∧ hb.natAbs < 2 ^ n) (q : Q (.int (ordI (t * y) (x * d))) H) : sp_against K Cof [.ref p, .ref r] H Q E := ⟨p, r, t, d, lt, lb, ht, hb, x, y, n, rfl, hM, fr, hR, hs, hz, q⟩
end

/-! #### sign_of -/
--USE RI MX
def sp_sign_of (K : PySem.W.Frag) (Cof : String → Addr) : Sp := fun vs H Q _ => ∃ (p : Addr) (t d : Int) (n : Nat), vs = [.ref p] ∧ FrN K Cof H p t d ∧ MN.Frc n t d ∧ n ≤ 2000 ∧ ∀ H', Ex H H' → Q (.int (ordI t 0)) H'
def t_sign_of (K : PySem.W.Frag) (Cof : String → Addr) (E : XK) : TS :=
  tRet (tCall (sp_against K Cof) [] E0 (tCons (tVar 0) (tCons (tMake (Cof "Ratio") (sp_Ratio___init__ K Cof) [.int 1] E0 (tCons (tC (.int 0)) (tNil))) (tNil))))

section
variable {K : PySem.W.Frag} {Cof : String → Addr} {vs : List V} {H : Hp} {Q : VK} {E : XK}
theorem len_sign_of (h : sp_sign_of K Cof vs H Q E) : vs.length = 1 := by
  obtain ⟨p, t, d, n, rfl, _⟩ := h; rfl
theorem rd_sign_of (h : sp_sign_of K Cof vs H Q E) : t_sign_of K Cof E { nx := fun _ H' => Q .non H', rt := Q } (start ["n"] vs) H := by
  obtain ⟨p, t, d, n, rfl, hM, fr, n9, q⟩ := h
  have n0 := fr.n0
  have st := fr.st
  have sd := fr.sd
  unfold t_sign_of
  walk_at "rd"
  refine c_Ratio1 fun p1 H1 hp1 e1 h1 => ?_
  rw [rT_one, rB_one] at h1
  obtain ⟨k1, k2, k3, k4⟩ := frc_ends fr
  have up : ∀ {x : Nat}, x < 2 ^ n → x < 2 ^ (n + 1) := fun h => by rw [Nat.pow_succ]; omega
  have := c_against (K := K) (E := E0) (Q := Q) (n + 1) (hM.ex e1) (frc_up fr (by omega) (by omega)) h1 ⟨by decide, k1, k2, k3, k4⟩ ⟨Nat.two_pow_pos _, Nat.one_lt_two_pow (by omega), by rw [Nat.pow_succ]; omega, up sd, up st, up sd⟩ (by
    rw [Int.mul_one, Int.zero_mul]; exact q _ e1)
  exact this
theorem c_sign_of {p : Addr} {t d : Int} (n : Nat) (hM : FrN K Cof H p t d) (fr : MN.Frc n t d) (n9 : n ≤ 2000) (q : ∀ H', Ex H H' → Q (.int (ordI t 0)) H') : sp_sign_of K Cof [.ref p] H Q E := ⟨p, t, d, n, rfl, hM, fr, n9, q⟩
end

/-! #### of_a_fraction_reckon -/
--USE RI MX
def sp_of_a_fraction_reckon (K : PySem.W.Frag) (Cof : String → Addr) : Sp := fun vs H Q _ => ∃ (r : Addr) (t d : Int) (n : Nat), vs = [.ref r] ∧ IsR (Cof "Ratio") H r t d ∧ MN.Frc n t d ∧ RetM (Cof "Number") (Cof "Ratio") [-t, d] (t - d) d t d H Q
def t_of_a_fraction_reckon (K : PySem.W.Frag) (Cof : String → Addr) (E : XK) : TS :=
  tRet (tMake (Cof "Number") (sp_Number___init__ K Cof) [] E0 (tCons (tLst (tCons (tUn rNeg (tFld K (tVar 0) "top")) (tCons (tFld K (tVar 0) "bottom") (tNil)))) (tCons (tMeth (Cof "Ratio") "minus" (sp_Ratio_minus K Cof) [] E0 (tVar 0) (tCons (tMake (Cof "Ratio") (sp_Ratio___init__ K Cof) [.int 1] E0 (tCons (tC (.int 1)) (tNil))) (tNil))) (tCons (tVar 0) (tNil)))))

section
variable {K : PySem.W.Frag} {Cof : String → Addr} {vs : List V} {H : Hp} {Q : VK} {E : XK}
theorem len_of_a_fraction_reckon (h : sp_of_a_fraction_reckon K Cof vs H Q E) : vs.length = 1 := by
  obtain ⟨r, t, d, n, rfl, _⟩ := h; rfl
theorem rd_of_a_fraction_reckon (X : ExT K Cof) (h : sp_of_a_fraction_reckon K Cof vs H Q E) : t_of_a_fraction_reckon K Cof E { nx := fun _ H' => Q .non H', rt := Q } (start ["r"] vs) H := by
  obtain ⟨r, t, d, n, rfl, hR, fr, q⟩ := h
  have cl := X.cl_Ratio
  have nt := X.n_Ratio_top
  have nb := X.n_Ratio_bottom
  have d0 := fr.d0
  have n0 := fr.n0
  have n9 := fr.n9
  unfold t_of_a_fraction_reckon
  walk_at "rd"
  refine r_lstK fun p1 H1 hp1 e1 h1 => ?_
  have h1' : H1 p1 = some (.lst (([-t, d] : List Int).map V.int)) := h1
  have hR1 := hR.ex e1
  walk_at "rd"
  refine c_Ratio1 fun p2 H2 hp2 e2 h2 => ?_
  rw [rT_one, rB_one] at h2
  have hR2 := hR1.ex e2
  have h1n : (1 : Int).natAbs < 2 ^ n := by show 1 < 2 ^ n; exact Nat.one_lt_two_pow (by omega)
  walk_at "rd"
  refine c_Ratio_minus n hR2 h2 ⟨fr.st, fr.sd, h1n, h1n, n0, by omega, by omega, by decide⟩ fun p3 H3 hp3 e3 h3 => ?_
  rw [show t * 1 - 1 * d = t - d by omega, show d * 1 = d by omega, rT_low d0 (gcd_less fr.g1), rB_low d0 (gcd_less fr.g1)] at h3
  walk_at "rd"
  refine c_Number (P := [-t, d]) (SqL.inj (e3 _ _ (e2 _ _ h1'))) h3 (hR2.ex e3) fun p4 H4 hp4 e4 h4 => ?_
  have e13 := (e1.trans e2).trans e3
  exact q p4 H4 (Evl.fresh_back e13 hp4) (e13.trans e4) h4
theorem c_of_a_fraction_reckon {r : Addr} {t d : Int} (n : Nat) (hR : IsR (Cof "Ratio") H r t d) (fr : MN.Frc n t d) (q : RetM (Cof "Number") (Cof "Ratio") [-t, d] (t - d) d t d H Q) : sp_of_a_fraction_reckon K Cof [.ref r] H Q E := ⟨r, t, d, n, rfl, hR, fr, q⟩
end

/-! #### fraction_of -/
--USE RI MX
def sp_fraction_of (K : PySem.W.Frag) (Cof : String → Addr) : Sp := fun vs H Q _ => ∃ (p : Addr) (t d lt lb ht hb : Int) (n : Nat), vs = [.ref p] ∧ IsM (Cof "Number") (Cof "Ratio") H p [-t, d] lt lb ht hb ∧ MN.Frc n t d ∧ RetR (Cof "Ratio") t d H Q
def t_fraction_of (K : PySem.W.Frag) (Cof : String → Addr) (E : XK) : TS :=
  tRet (tMake (Cof "Ratio") (sp_Ratio___init__ K Cof) [] E0 (tCons (tUn rNeg (tOp (rIxL K) (tFld K (tVar 0) "poly") (tC (.int 0)))) (tCons (tOp (rIxL K) (tFld K (tVar 0) "poly") (tC (.int 1))) (tNil))))

section
variable {K : PySem.W.Frag} {Cof : String → Addr} {vs : List V} {H : Hp} {Q : VK} {E : XK}
theorem len_fraction_of (h : sp_fraction_of K Cof vs H Q E) : vs.length = 1 := by
  obtain ⟨p, t, d, lt, lb, ht, hb, n, rfl, _⟩ := h; rfl
theorem rd_fraction_of (X : ExT K Cof) (h : sp_fraction_of K Cof vs H Q E) : t_fraction_of K Cof E { nx := fun _ H' => Q .non H', rt := Q } (start ["n"] vs) H := by
  obtain ⟨p, t, d, lt, lb, ht, hb, n, rfl, ⟨l, a, b, hN, hl, ha, hbr⟩, fr, q⟩ := h
  have d0 := fr.d0
  have n0 := fr.n0
  have n9 := fr.n9
  unfold t_fraction_of
  walk_at "rd"
  refine n_poly X.cl_Number X.n_Number_poly hN ?_
  walk_at "rd"
  refine r_ixI (ns := [-t, d]) (SqL.inj hl) (by decide) (by simp) ?_
  walk_at "rd"
  refine n_poly X.cl_Number X.n_Number_poly hN ?_
  walk_at "rd"
  refine r_ixI (ns := [-t, d]) (SqL.inj hl) (by decide) (by simp) ?_
  walk_at "rd"
  have e0 : -(([-t, d] : List Int).getD (0 : Int).toNat 0) = t := by show - -t = t; omega
  have e1' : ([-t, d] : List Int).getD (1 : Int).toNat 0 = d := rfl
  rw [e0, e1']
  refine c_Ratio n (by omega) fr.sd n0 (by omega) fun p1 H1 hp1 e1 h1 => ?_
  rw [rT_low d0 fr.g1, rB_low d0 fr.g1] at h1
  exact q p1 H1 hp1 e1 h1
theorem c_fraction_of {p : Addr} {t d lt lb ht hb : Int} (n : Nat) (hM : IsM (Cof "Number") (Cof "Ratio") H p [-t, d] lt lb ht hb) (fr : MN.Frc n t d) (q : RetR (Cof "Ratio") t d H Q) : sp_fraction_of K Cof [.ref p] H Q E := ⟨p, t, d, lt, lb, ht, hb, n, rfl, hM, fr, q⟩
end

/-! #### opposite -/
--USE RI MX
def sp_opposite (K : PySem.W.Frag) (Cof : String → Addr) : Sp := fun vs H Q _ => ∃ (p : Addr) (t d lt lb ht hb : Int) (n : Nat), vs = [.ref p] ∧ IsM (Cof "Number") (Cof "Ratio") H p [-t, d] lt lb ht hb ∧ MN.Frc n t d ∧ RetM (Cof "Number") (Cof "Ratio") [-(-t), d] (-t - d) d (-t) d H Q
def t_opposite (K : PySem.W.Frag) (Cof : String → Addr) (E : XK) : TS :=
  tSeq (tIfS (tTest (tOp rEq (tCall (sp_degree K Cof) [] E0 (tCons (tFld K (tVar 0) "poly") (tNil))) (tC (.int 1)))) (tRet (tCall (sp_of_a_fraction_reckon K Cof) [] E0 (tCons (tMeth (Cof "Ratio") "minus" (sp_Ratio_minus K Cof) [] E0 (tMake (Cof "Ratio") (sp_Ratio___init__ K Cof) [.int 1] E0 (tCons (tC (.int 0)) (tNil))) (tCons (tCall (sp_fraction_of K Cof) [] E0 (tCons (tVar 0) (tNil))) (tNil))) (tNil)))) (tNext))
  (tDead)

section
variable {K : PySem.W.Frag} {Cof : String → Addr} {vs : List V} {H : Hp} {Q : VK} {E : XK}
theorem len_opposite (h : sp_opposite K Cof vs H Q E) : vs.length = 1 := by
  obtain ⟨p, t, d, lt, lb, ht, hb, n, rfl, _⟩ := h; rfl
theorem frc_neg {n : Nat} {t d : Int} (h : MN.Frc n t d) : MN.Frc n (-t) d := ⟨h.d0, by rw [Int.neg_gcd]; exact h.g1, by rw [Int.natAbs_neg]; exact h.st, h.sd, h.n0, h.n9⟩
theorem rd_opposite (X : ExT K Cof) (h : sp_opposite K Cof vs H Q E) : t_opposite K Cof E { nx := fun _ H' => Q .non H', rt := Q } (start ["a", "nought"] vs) H := by
  obtain ⟨p, t, d, lt, lb, ht, hb, n, rfl, hM, fr, q⟩ := h
  have hM0 := hM
  obtain ⟨l, a, b, hN, hl, ha, hbr⟩ := hM0
  have d0 := fr.d0
  have n0 := fr.n0
  have n9 := fr.n9
  unfold t_opposite
  walk_at "rd"
  refine n_poly X.cl_Number X.n_Number_poly hN ?_
  walk_at "rd"
  refine ite_d (fun _ => ?_) (fun h => absurd (by simp) h)
  walk_at "rd"
  refine c_Ratio1 fun p1 H1 hp1 e1 h1 => ?_
  rw [rT_one, rB_one] at h1
  walk_at "rd"
  refine c_fraction_of n (hM.ex e1) fr fun p2 H2 hp2 e2 h2 => ?_
  have h1n : (1 : Int).natAbs < 2 ^ n := by show 1 < 2 ^ n; exact Nat.one_lt_two_pow (by omega)
  walk_at "rd"
  refine c_Ratio_minus n (h1.ex e2) h2 ⟨Nat.two_pow_pos _, h1n, fr.st, fr.sd, n0, by omega, by decide, by omega⟩ fun p3 H3 hp3 e3 h3 => ?_
  have fn := frc_neg fr
  rw [show 0 * d - t * 1 = -t by omega, show 1 * d = d by omega, rT_low d0 fn.g1, rB_low d0 fn.g1] at h3
  walk_at "rd"
  refine c_of_a_fraction_reckon n h3 fn fun p4 H4 hp4 e4 h4 => ?_
  have e13 := (e1.trans e2).trans e3
  exact q p4 H4 (Evl.fresh_back e13 hp4) (e13.trans e4) h4
theorem c_opposite {p : Addr} {t d lt lb ht hb : Int} (n : Nat) (hM : IsM (Cof "Number") (Cof "Ratio") H p [-t, d] lt lb ht hb) (fr : MN.Frc n t d) (q : RetM (Cof "Number") (Cof "Ratio") [-(-t), d] (-t - d) d (-t) d H Q) : sp_opposite K Cof [.ref p] H Q E := ⟨p, t, d, lt, lb, ht, hb, n, rfl, hM, fr, q⟩
end

/-! #### steps -/
--USE RI MX
def sp_steps (K : PySem.W.Frag) (Cof : String → Addr) : Sp := fun vs H Q _ => ∃ (p : Addr) (t d W : Int) (n m : Nat), vs = [.ref p, .int W] ∧ FrN K Cof H p t d ∧ MN.Frc n t d ∧ (0 < W ∧ W < 2 ^ m ∧ 0 < m ∧ n + m ≤ 900) ∧ ∀ H', Ex H H' → Q (.int ((t * W).fdiv d)) H'
def t_steps (K : PySem.W.Frag) (Cof : String → Addr) (E : XK) : TS :=
  tSeq (tAsg (tMeth (Cof "Ratio") "floor" (sp_Ratio_floor K Cof) [] E0 (tMeth (Cof "Ratio") "times" (sp_Ratio_times K Cof) [] E0 (tFld K (tCall (sp_narrow K Cof) [] E0 (tCons (tVar 0) (tCons (tMake (Cof "Ratio") (sp_Ratio___init__ K Cof) [] E0 (tCons (tC (.int 1)) (tCons (tVar 1) (tNil)))) (tNil)))) "high") (tCons (tMake (Cof "Ratio") (sp_Ratio___init__ K Cof) [.int 1] E0 (tCons (tVar 1) (tNil))) (tNil))) tNil) (gName 2))
  (tSeq (tIfS (tTest (tOp rLt (tCall (sp_against K Cof) [] E0 (tCons (tVar 0) (tCons (tMake (Cof "Ratio") (sp_Ratio___init__ K Cof) [] E0 (tCons (tVar 2) (tCons (tVar 1) (tNil)))) (tNil)))) (tC (.int 0)))) (tRet (tOp rISub (tVar 2) (tC (.int 1)))) (tNext))
  (tRet (tVar 2)))

section
variable {K : PySem.W.Frag} {Cof : String → Addr} {vs : List V} {H : Hp} {Q : VK} {E : XK}
theorem len_steps (h : sp_steps K Cof vs H Q E) : vs.length = 2 := by
  obtain ⟨p, t, d, W, n, m, rfl, _⟩ := h; rfl
theorem rd_steps (X : ExT K Cof) (h : sp_steps K Cof vs H Q E) : t_steps K Cof E { nx := fun _ H' => Q .non H', rt := Q } (start ["n", "bottom", "whole"] vs) H := by
  obtain ⟨p, t, d, W, n, m, rfl, hM, fr, hs, q⟩ := h
  have hs0 := hs
  obtain ⟨W0, Wm, m0, nm⟩ := hs0
  have d0 := fr.d0
  have n0 := fr.n0
  have n9 := fr.n9
  have Ws : W.natAbs < 2 ^ m := by
    have : (W.natAbs : Int) < 2 ^ m := by omega
    exact_mod_cast this
  have g1W : Int.gcd 1 W = 1 := by simp
  unfold t_steps
  walk_at "rd"
  refine c_Ratio m (by omega) Ws m0 (by omega) fun p1 H1 hp1 e1 h1 => ?_
  rw [rT_low W0 g1W, rB_low W0 g1W] at h1
  walk_at "rd"
  refine c_narrow n m (hM.ex e1) h1 fr hs fun p2 H2 A k hp2 e2 h2 sp hW hk => ?_
  obtain ⟨l, a, b, hN, hl, ha, hb⟩ := h2
  obtain ⟨sA, sB, sD, D0⟩ := spn_sz fr sp hk
  walk_at "rd"
  refine n_high X.cl_Number X.n_Number_high hN ?_
  walk_at "rd"
  refine c_Ratio1 fun p3 H3 hp3 e3 h3 => ?_
  rw [rT_one, rB_one] at h3
  have qb := rB_pos (t := A + d) (b := d * 2 ^ k) (by omega)
  have xb := r_cross (t := A + d) (b := d * 2 ^ k) (by omega)
  have s3 := Nat.lt_of_le_of_lt (rT_abs (t := A + d) (b := d * 2 ^ k) (by omega)) sB
  have s4 := Nat.lt_of_le_of_lt (rB_abs (t := A + d) (b := d * 2 ^ k) (by omega)) sD
  have one_ : (1 : Int).natAbs < 2 ^ (n + m + 2) := Nat.one_lt_two_pow (by omega)
  have hWs : W.natAbs < 2 ^ (n + m + 2) := Nat.lt_of_lt_of_le Ws (Nat.pow_le_pow_right (by decide) (by omega))
  walk_at "rd"
  refine c_Ratio_times (n + m + 2) (hb.ex e3) h3 ⟨s3, s4, hWs, one_, by omega, by omega, by omega, by decide⟩ fun p4 H4 hp4 e4 h4 => ?_
  have h4' := h4.same (X' := (A + d) * W) (Y' := d * 2 ^ k) (by rw [Int.mul_one]; exact qb) D0 (by
    have f : rT (A + d) (d * 2 ^ k) * W * (d * 2 ^ k) = (rT (A + d) (d * 2 ^ k) * (d * 2 ^ k)) * W := by grind
    rw [f, xb]; grind)
  have q5 := rB_pos (t := (A + d) * W) (b := d * 2 ^ k) (by omega)
  have s5 := Nat.lt_of_le_of_lt (rB_abs (t := (A + d) * W) (b := d * 2 ^ k) (by omega)) sD
  walk_at "rd"
  refine c_Ratio_floor (n + m + 2) h4' (by omega) s5 (by omega) (by omega) ?_
  have fl := floor_made (t := (A + d) * W) (b := d * 2 ^ k) D0
  have fa := fdiv_abs (p := rT ((A + d) * W) (d * 2 ^ k)) (q := rB ((A + d) * W) (d * 2 ^ k)) q5
  have ra := rT_abs (t := (A + d) * W) (b := d * 2 ^ k) (by omega)
  have sW : ((A + d) * W).natAbs < 2 ^ (n + m + 2 + m) := wide_lt sB Ws
  generalize (rT ((A + d) * W) (d * 2 ^ k)).fdiv (rB ((A + d) * W) (d * 2 ^ k)) = w at fl fa ⊢
  have sw : w.natAbs < 2 ^ (n + m + 2 + m) := by omega
  have fin := MX.steps_eq d0 (pow_pos2 k) W0 sp.lo sp.hi hW fl.1 fl.2
  have e14 := ((e1.trans e2).trans e3).trans e4
  walk_at "rd"
  refine c_Ratio m (by omega) Ws m0 (by omega) fun p5 H5 hp5 e5 h5 => ?_
  have e15 := e14.trans e5
  obtain ⟨k1, k2, k3, k4⟩ := frc_ends fr
  have frN : MN.Frc (n + m + 2 + m) t d := frc_up fr (by omega) (by omega)
  have up : ∀ {x : Nat}, x < 2 ^ n → x < 2 ^ (n + m + 2 + m) := fun h => Nat.lt_of_lt_of_le h (Nat.pow_le_pow_right (by decide) (by omega))
  have upW : W.natAbs < 2 ^ (n + m + 2 + m) := Nat.lt_of_lt_of_le Ws (Nat.pow_le_pow_right (by decide) (by omega))
  have std : (t - d).natAbs < 2 ^ (n + m + 2 + m) := by
    have h1 := fr.st
    have h2 := fr.sd
    have h3 : (2 : Nat) ^ (n + 1) ≤ 2 ^ (n + m + 2 + m) := Nat.pow_le_pow_right (by decide) (by omega)
    rw [Nat.pow_succ] at h3
    omega
  have bw := rB_pos (t := w) (b := W) (by omega)
  walk_at "rd"
  refine c_against (n + m + 2 + m) (hM.ex e15) frN h5 ⟨bw, k1, k2, k3, k4⟩ ⟨Nat.lt_of_le_of_lt (rT_abs (by omega)) sw, Nat.lt_of_le_of_lt (rB_abs (by omega)) upW, std, up fr.sd, up fr.st, up fr.sd⟩ ?_
  have eo : ordI (t * rB w W) (rT w W * d) = ordI (t * W) (w * d) := by
    have := ord_made (t := t) (b := d) (u := w) (v := W) d0 W0
    rw [rT_low d0 fr.g1, rB_low d0 fr.g1] at this
    exact this
  rw [eo]
  walk_at "rd"
  have lt0 : ordI (t * W) (w * d) < 0 ↔ t * W < w * d := by
    unfold ordI
    split
    · constructor <;> intro <;> omega
    · split
      · constructor <;> intro <;> omega
      · constructor <;> intro <;> omega
  refine ite_d (fun h => ?_) (fun h => ?_)
  · walk_at "rd"
    rw [if_pos (lt0.mp h)] at fin
    rw [fin]
    exact q _ e15
  · walk_at "rd"
    rw [if_neg (fun z => h (lt0.mpr z))] at fin
    rw [fin]
    exact q _ e15
theorem c_steps {p : Addr} {t d W : Int} (n m : Nat) (hM : FrN K Cof H p t d) (fr : MN.Frc n t d) (hs : 0 < W ∧ W < 2 ^ m ∧ 0 < m ∧ n + m ≤ 900) (q : ∀ H', Ex H H' → Q (.int ((t * W).fdiv d)) H') : sp_steps K Cof [.ref p, .int W] H Q E := ⟨p, t, d, W, n, m, rfl, hM, fr, hs, q⟩
end

/-! #### figures -/
--USE RZ MX RI
def sp_figures (K : PySem.W.Frag) (Cof : String → Addr) : Sp := fun vs H Q _ => ∃ (x : Addr) (t d : Int) (p n : Nat), vs = [.ref x, .int (p : Int)] ∧ FrN K Cof H x t d ∧ MN.Frc n t d ∧ (n ≤ 400 ∧ p ≤ 100) ∧ ∀ H', Ex H H' → Q (.str (figT (rndV t d p).toNat p (t < 0))) H'
def t_figures (K : PySem.W.Frag) (Cof : String → Addr) (E : XK) : TS :=
  tSeq (tAsg (tC (.int 1)) (gName 2))
  (tSeq (tFor (iRng1 (tCons (tVar 1) (tNil))) (gName 3) (tAsg (tOp rMul (tVar 2) (tC (.int 10))) (gName 2)))
  (tSeq (tAsg (tOp rLt (tCall (sp_sign_of K Cof) [] E0 (tCons (tVar 0) (tNil))) (tC (.int 0))) (gName 4))
  (tCut (tIfS (tB (tVar 4)) (tAsg (tCall (sp_opposite K Cof) [] E0 (tCons (tVar 0) (tNil))) (gName 0)) (tNext))
  (tSeq (tAsg (tOp rDiv (tOp rIAdd (tCall (sp_steps K Cof) [] E0 (tCons (tVar 0) (tCons (tOp rMul (tC (.int 2)) (tVar 2)) (tNil)))) (tC (.int 1))) (tC (.int 2))) (gName 5))
  (tSeq (tAsg (tBM K "str" rZfill (tCB rStrInt (tCons (tVar 5) (tNil))) (tCons (tOp rIAdd (tVar 1) (tC (.int 1))) (tNil))) (gName 6))
  (tCut (tIfS (tTest (tOp rGt (tVar 1) (tC (.int 0)))) (tAsg (tOp rAddS (tOp rAddS (tSl rSlS (tVar 6) (tNoPart) (tPart (tUn rNeg (tVar 1)))) (tC (.str "."))) (tSl rSlS (tVar 6) (tPart (tUn rNeg (tVar 1))) (tNoPart))) (gName 6)) (tNext))
  (tSeq (tIfS (tAnd (tB (tVar 4)) (tTest (tOp rGt (tVar 5) (tC (.int 0))))) (tRet (tOp rAddS (tC (.str "-")) (tVar 6))) (tNext))
  (tRet (tVar 6)))))))))

section
variable {K : PySem.W.Frag} {Cof : String → Addr} {vs : List V} {H : Hp} {Q : VK} {E : XK}
theorem len_figures (h : sp_figures K Cof vs H Q E) : vs.length = 2 := by
  obtain ⟨x, t, d, p, n, rfl, _⟩ := h; rfl
theorem rd_figures (h : sp_figures K Cof vs H Q E) : t_figures K Cof E { nx := fun _ H' => Q .non H', rt := Q } (start ["n", "places", "base", "k", "below", "whole", "text"] vs) H := by
  obtain ⟨x, t, d, p, n, rfl, hM, fr, ⟨n9, hp⟩, q⟩ := h
  have d0 := fr.d0
  have n0 := fr.n0
  obtain ⟨r1, r2, r3⟩ := rnd_lt d0 fr.st fr.sd hp
  have rn := rnd_nonneg (t := t) (p := p) d0
  unfold t_figures
  walk_at "rd"
  refine r_iRng1A (by omega) (by omega) ?_
  rw [Int.toNat_natCast]
  refine loop_range0 (fun k σ' H' => ∃ u, σ' = [some (.ref x), some (.int (p : Int)), some (.int ((10 : Int) ^ k)), u, none, none, none] ∧ H = H') ⟨_, rfl, rfl⟩ (fun k σ' H' hk hp' => ?_) (fun σ' H' hp' => ?_)
  · obtain ⟨u, rfl, rfl⟩ := hp'
    walk_at "rd"
    refine r_mul (wide_mul (ten_lt k) (show (10 : Int).natAbs < 2 ^ 4 by decide) (by omega) (by decide) (by omega)) ?_
    walk_at "rd"
    exact ⟨_, by rw [Int.pow_succ]; rfl, rfl⟩
  obtain ⟨u, rfl, rfl⟩ := hp'
  walk_at "rd"
  refine c_sign_of n hM fr (by omega) fun H1 e1 => ?_
  have hM1 := hM.ex e1
  walk_at "rd"
  have ng : decide (ordI t 0 < 0) = decide (t < 0) := by
    unfold ordI
    by_cases h : t < 0
    · rw [if_pos h, decide_eq_true h]; rfl
    · rw [if_neg h, decide_eq_false h]
      split <;> rfl
  rw [ng]
  refine ⟨fun σ' H' => ∃ (y : Addr), σ' = [some (.ref y), some (.int (p : Int)), some (.int ((10 : Int) ^ p)), u, some (.bl (decide (t < 0))), none, none] ∧ Ex H1 H' ∧ FrN K Cof H' y (t.natAbs : Int) d, ?_, fun σ' H' hM => ?_⟩
  · walk_at "rd"
    refine ite_d (fun h => ?_) (fun h => ?_)
    · walk_at "rd"
      refine c_opposite n hM1 fr fun y H2 hy e2 h2 => ?_
      refine ⟨y, rfl, e2, ?_⟩
      have : (t.natAbs : Int) = -t := by omega
      unfold FrN
      rw [this]
      exact h2
    · walk_at "rd"
      refine ⟨x, rfl, Evl.Ex.refl _, ?_⟩
      have : (t.natAbs : Int) = t := by omega
      rw [this]
      exact hM1
  obtain ⟨y, rfl, e2, hM2⟩ := hM
  have e12 := e1.trans e2
  have frA : MN.Frc n (t.natAbs : Int) d := ⟨d0, by
    have := fr.g1
    unfold Int.gcd at this ⊢
    rw [Int.natAbs_natCast]; exact this, by rw [Int.natAbs_natCast]; exact fr.st, fr.sd, n0, fr.n9⟩
  have t10 := ten_lt p
  have p10 := ten_pos p
  walk_at "rd"
  refine r_mul (wide_mul (a := 2) (b := 4 * p + 1) (by decide) t10 (by decide) (by omega) (by omega)) ?_
  walk_at "rd"
  have bW : 2 * (10 : Int) ^ p < 2 ^ (4 * p + 3) := by
    have h1 : ((10 : Int) ^ p).natAbs < 2 ^ (4 * p + 1) := t10
    have h2 : (((10 : Int) ^ p).natAbs : Int) < 2 ^ (4 * p + 1) := by exact_mod_cast h1
    have h3 : (2 : Int) ^ (4 * p + 3) = 4 * 2 ^ (4 * p + 1) := by rw [show 4 * p + 3 = 4 * p + 1 + 2 by omega, Int.pow_add]; omega
    omega
  refine c_steps n (4 * p + 3) hM2 frA ⟨by omega, bW, by omega, by omega⟩ fun H3 e3 => ?_
  have e13 := e12.trans e3
  walk_at "rd"
  have eW0 : (((t.natAbs : Int) * (2 * 10 ^ p)).fdiv d + 1).fdiv 2 = rndV t d p := by
    have := MX.half_floor (x := (t.natAbs : Int) * 10 ^ p) d0
    unfold rndV
    rw [show (t.natAbs : Int) * (2 * 10 ^ p) = 2 * ((t.natAbs : Int) * 10 ^ p) by grind, this, show 2 * ((t.natAbs : Int) * 10 ^ p) = 2 * (t.natAbs : Int) * 10 ^ p by grind]
  rw [eW0]
  obtain ⟨W, eW⟩ : ∃ W : Nat, rndV t d p = (W : Int) := ⟨(rndV t d p).toNat, by rw [Int.toNat_of_nonneg rn]⟩
  have eW2 : (rndV t d p).toNat = W := by omega
  have sW : W < 2 ^ (n + 403) := by omega
  rw [eW2] at q
  rw [eW]
  have lW := num_len sW ⟨by omega, by omega⟩
  walk_at "rd"
  refine r_strI (log_lt (by omega) (show n + 403 ≤ 1920 by omega) (show ((W : Nat) : Int).natAbs < 2 ^ (n + 403) by omega)) ?_
  refine r_ty (tyS _ _ _) ?_
  walk_at "rd"
  change rZfill (.str (numS W)) _ _ _
  rw [show (p : Int) + 1 = ((p + 1 : Nat) : Int) by omega]
  refine r_zfill (by omega) ?_
  rw [zfill_num]
  have lp := padT_len (numS W) (p + 1)
  generalize hz : padT (numS W) (p + 1) = Z at lp
  have lZ : Z.length ≤ 2100 := by omega
  have lc1 := cut_len Z none (some ((Z.length : Int) - p))
  have lc2 := cut_len Z (some ((Z.length : Int) - p)) none
  walk_at "rd"
  refine ⟨fun σ' H' => σ' = [some (.ref y), some (.int (p : Int)), some (.int ((10 : Int) ^ p)), u, some (.bl (decide (t < 0))), some (.int (W : Int)), some (.str (ptT Z p))] ∧ H3 = H', ?_, fun σ' H' hM => ?_⟩
  · walk_at "rd"
    unfold ptT
    refine ite_d (fun hpp => ?_) (fun hpp => ?_)
    · have hpp : 0 < p := by omega
      rw [if_pos hpp]
      walk_at "rd"
      refine r_slS (small0 (by omega)) ?_
      rw [cut_to hpp (by omega)]
      walk_at "rd"
      refine r_addS (small0 (by show _ + 1 ≤ 16777216; omega)) ?_
      walk_at "rd"
      refine r_slS (small0 (by omega)) ?_
      rw [cut_from hpp (by omega)]
      refine r_addS (small0 (by rw [cat_len]; show _ + 1 + _ ≤ 16777216; omega)) ?_
      walk_at "rd"
      exact ⟨rfl, rfl⟩
    · rw [if_neg (show ¬ 0 < p by omega)]
      walk_at "rd"
      exact ⟨rfl, rfl⟩
  obtain ⟨rfl, rfl⟩ := hM
  have lpt : (ptT Z p).length ≤ 5000 := by
    unfold ptT
    split
    · rw [cat_len, cat_len]
      show _ + 1 + _ ≤ 5000
      omega
    · omega
  have q := q _ e13
  unfold figT at q
  rw [hz] at q
  walk_at "rd"
  refine ite_d (fun ht => ?_) (fun ht => ?_)
  · walk_at "rd"
    refine ite_d (fun hW => ?_) (fun hW => ?_)
    · walk_at "rd"
      rw [if_pos ⟨ht, by omega⟩] at q
      exact r_addS (small0 (by show 1 + _ ≤ 16777216; omega)) q
    · walk_at "rd"
      rw [if_neg (fun z => hW (by have := z.2; omega))] at q
      exact q
  · walk_at "rd"
    rw [if_neg (fun z => ht z.1)] at q
    exact q
theorem c_figures {x : Addr} {t d : Int} {p : Nat} (n : Nat) (hM : FrN K Cof H x t d) (fr : MN.Frc n t d) (hs : n ≤ 400 ∧ p ≤ 100) (q : ∀ H', Ex H H' → Q (.str (figT (rndV t d p).toNat p (t < 0))) H') : sp_figures K Cof [.ref x, .int (p : Int)] H Q E := ⟨x, t, d, p, n, rfl, hM, fr, hs, q⟩
end

/-! #### _law_cell_at -/
/-- the k-th cell, 0 beyond the last one -/
def cellOf (ns : List Int) (k : Int) : Int := ns.getD k.toNat 0
def sp__law_cell_at (K : PySem.W.Frag) (Cof : String → Addr) : Sp := fun vs H Q _ => ∃ (a : Addr) (ns : List Int) (k : Int), vs = [.ref a, .int k] ∧ SqL K H a (ns.map V.int) ∧ 0 ≤ k ∧ Q (.int (cellOf ns k)) H
def t__law_cell_at (K : PySem.W.Frag) (Cof : String → Addr) (E : XK) : TS :=
  tSeq (tIfS (tTest (tOp rLt (tVar 1) (tCB (rLenS K) (tCons (tVar 0) (tNil))))) (tRet (tOp (rIxL K) (tVar 0) (tVar 1))) (tNext))
  (tRet (tC (.int 0)))

section
variable {K : PySem.W.Frag} {Cof : String → Addr} {vs : List V} {H : Hp} {Q : VK} {E : XK}
theorem len__law_cell_at (h : sp__law_cell_at K Cof vs H Q E) : vs.length = 2 := by
  obtain ⟨a, ns, k, rfl, _⟩ := h; rfl
theorem rd__law_cell_at (h : sp__law_cell_at K Cof vs H Q E) : t__law_cell_at K Cof E { nx := fun _ H' => Q .non H', rt := Q } (start ["_law_script", "_law_k"] vs) H := by
  obtain ⟨a, ns, k, rfl, hS, h0, q⟩ := h
  obtain ⟨k, rfl⟩ : ∃ n : Nat, k = (n : Int) := ⟨k.toNat, by omega⟩
  unfold t__law_cell_at
  walk_at "rd"
  try rw [List.length_map]
  refine ite_d (fun h => ?_) (fun h => ?_)
  · walk_at "rd"
    have hk : k < ns.length := by omega
    exact r_ixI hS h0 h q
  · walk_at "rd"
    have e : cellOf ns k = 0 := by
      unfold cellOf
      rw [List.getD_eq_getElem?_getD, List.getElem?_eq_none (by omega)]; rfl
    rw [e] at q
    exact q
theorem c__law_cell_at {a : Addr} {ns : List Int} {k : Int} (h : SqL K H a (ns.map V.int)) (h0 : 0 ≤ k) (q : Q (.int (cellOf ns k)) H) : sp__law_cell_at K Cof [.ref a, .int k] H Q E := ⟨a, ns, k, rfl, h, h0, q⟩
end
local macro_rules | `(tactic| walk_at "call") => `(tactic| ((with_reducible refine' c__law_cell_at ?h ?h0 ?_); (case h => walk_at "sq"); (case h0 => first | decide | omega)))

/-! #### _law_power -/
--USE RZ
def sp__law_power (K : PySem.W.Frag) (Cof : String → Addr) : Sp := fun vs H Q _ => ∃ (p : Nat), vs = [.int (p : Int)] ∧ p ≤ 100 ∧ Q (.int ((10 : Int) ^ p)) H
def t__law_power (K : PySem.W.Frag) (Cof : String → Addr) (E : XK) : TS :=
  tSeq (tAsg (tC (.int 1)) (gName 1))
  (tSeq (tFor (iRng1 (tCons (tVar 0) (tNil))) (gName 2) (tAsg (tOp rMul (tVar 1) (tC (.int 10))) (gName 1)))
  (tRet (tVar 1)))

section
variable {K : PySem.W.Frag} {Cof : String → Addr} {vs : List V} {H : Hp} {Q : VK} {E : XK}
theorem len__law_power (h : sp__law_power K Cof vs H Q E) : vs.length = 1 := by
  obtain ⟨p, rfl, _⟩ := h; rfl
theorem rd__law_power (h : sp__law_power K Cof vs H Q E) : t__law_power K Cof E { nx := fun _ H' => Q .non H', rt := Q } (start ["_law_places", "_law_base", "_law_k"] vs) H := by
  obtain ⟨p, rfl, hp, q⟩ := h
  unfold t__law_power
  walk_at "rd"
  refine r_iRng1A (by omega) (by omega) ?_
  rw [Int.toNat_natCast]
  refine loop_range0 (fun k σ' H' => ∃ u, σ' = [some (.int (p : Int)), some (.int ((10 : Int) ^ k)), u] ∧ H = H') ⟨_, rfl, rfl⟩ (fun k σ' H' hk hp' => ?_) (fun σ' H' hp' => ?_)
  · obtain ⟨u, rfl, rfl⟩ := hp'
    walk_at "rd"
    refine r_mul (wide_mul (ten_lt k) (show (10 : Int).natAbs < 2 ^ 4 by decide) (by omega) (by decide) (by omega)) ?_
    walk_at "rd"
    exact ⟨_, by rw [Int.pow_succ]; rfl, rfl⟩
  · obtain ⟨u, rfl, rfl⟩ := hp'
    walk_at "rd"
    exact q
theorem c__law_power {p : Nat} (hp : p ≤ 100) (q : Q (.int ((10 : Int) ^ p)) H) : sp__law_power K Cof [.int (p : Int)] H Q E := ⟨p, rfl, hp, q⟩
end

/-! #### _law_text -/
--USE RZ MX
def sp__law_text (K : PySem.W.Frag) (Cof : String → Addr) : Sp := fun vs H Q _ => ∃ (t d : Int) (p n : Nat), vs = [.int t, .int d, .int (p : Int)] ∧ (0 < d ∧ t.natAbs < 2 ^ n ∧ d.natAbs < 2 ^ n ∧ 0 < n ∧ n ≤ 600 ∧ p ≤ 100) ∧ Q (.str (figT (rndV t d p).toNat p (t < 0))) H
def t__law_text (K : PySem.W.Frag) (Cof : String → Addr) (E : XK) : TS :=
  tSeq (tAsg (tOp rDiv (tOp rIAdd (tOp rMul (tOp rMul (tC (.int 2)) (tCB rAbs (tCons (tVar 0) (tNil)))) (tCall (sp__law_power K Cof) [] E0 (tCons (tVar 2) (tNil)))) (tVar 1)) (tOp rMul (tC (.int 2)) (tVar 1))) (gName 3))
  (tSeq (tAsg (tCB rStrInt (tCons (tVar 3) (tNil))) (gName 4))
  (tSeq (tWhile (tTest (tOp rLt (tCB rLenStr (tCons (tVar 4) (tNil))) (tOp rIAdd (tVar 2) (tC (.int 1))))) (tAsg (tOp rAddS (tC (.str "0")) (tVar 4)) (gName 4)))
  (tCut (tIfS (tTest (tOp rGt (tVar 2) (tC (.int 0)))) (tSeq (tAsg (tOp rISub (tCB rLenStr (tCons (tVar 4) (tNil))) (tVar 2)) (gName 5))
  (tAsg (tOp rAddS (tOp rAddS (tSl rSlS (tVar 4) (tNoPart) (tPart (tVar 5))) (tC (.str "."))) (tSl rSlS (tVar 4) (tPart (tVar 5)) (tNoPart))) (gName 4))) (tNext))
  (tSeq (tIfS (tAnd (tTest (tOp rLt (tVar 0) (tC (.int 0)))) (tTest (tOp rGt (tVar 3) (tC (.int 0))))) (tRet (tOp rAddS (tC (.str "-")) (tVar 4))) (tNext))
  (tRet (tVar 4))))))

section
variable {K : PySem.W.Frag} {Cof : String → Addr} {vs : List V} {H : Hp} {Q : VK} {E : XK}
theorem len__law_text (h : sp__law_text K Cof vs H Q E) : vs.length = 3 := by
  obtain ⟨t, d, p, n, rfl, _⟩ := h; rfl
theorem rd__law_text (h : sp__law_text K Cof vs H Q E) : t__law_text K Cof E { nx := fun _ H' => Q .non H', rt := Q } (start ["_law_top", "_law_bottom", "_law_places", "_law_whole", "_law_text_here", "_law_at"] vs) H := by
  obtain ⟨t, d, p, n, rfl, ⟨hd, st, sd, n0, n9, hp⟩, q⟩ := h
  obtain ⟨r1, r2, r3⟩ := rnd_lt hd st sd hp
  have rn := rnd_nonneg (t := t) (p := p) hd
  unfold t__law_text
  walk_at "rd"
  rw [show (if t < 0 then -t else t) = (t.natAbs : Int) by split <;> omega]
  refine r_mul (wide_mul (a := 2) (b := n) (by decide) (show ((t.natAbs : Nat) : Int).natAbs < 2 ^ n by omega) (by decide) n0 (by omega)) ?_
  walk_at "rd"
  refine c__law_power hp ?_
  walk_at "rd"
  refine r_mul (wide_mul r1 (ten_lt p) (by omega) (by omega) (by omega)) ?_
  walk_at "rd"
  refine r_mul (wide_mul (a := 2) (b := n) (by decide) sd (by decide) n0 (by omega)) ?_
  walk_at "rd"
  have hcd : CDivA (2 * (t.natAbs : Int) * 10 ^ p + d) (2 * d) := ⟨by omega, by
    have : (2 * d).natAbs < 2 ^ (n + 1) := by rw [Nat.pow_succ]; omega
    exact Nat.lt_of_lt_of_le (PySem.Flt.log2_lt_of (by omega) this) (by omega)⟩
  refine r_div hcd ?_
  obtain ⟨W, eW⟩ : ∃ W : Nat, (2 * (t.natAbs : Int) * 10 ^ p + d).fdiv (2 * d) = (W : Int) := ⟨(rndV t d p).toNat, by rw [Int.toNat_of_nonneg rn]; rfl⟩
  have eW2 : (rndV t d p).toNat = W := by
    have : rndV t d p = (W : Int) := eW
    omega
  have sW : W < 2 ^ (n + 403) := by
    have : rndV t d p = (W : Int) := eW
    omega
  rw [eW2] at q
  rw [eW]
  have lW := num_len sW ⟨by omega, by omega⟩
  walk_at "rd"
  refine r_strI (log_lt (by omega) (show n + 403 ≤ 1920 by omega) (show ((W : Nat) : Int).natAbs < 2 ^ (n + 403) by omega)) ?_
  walk_at "rd"
  change tWhile _ _ _ (List.set _ 4 (some (.str (numS W)))) _
  refine r_while (fun z σ' H' => ∃ k : Nat, σ' = [some (.int t), some (.int d), some (.int (p : Int)), some (.int (W : Int)), some (.str (zs k (numS W))), none] ∧ H = H' ∧ z = p + 1 - (numS W).length - k ∧ k ≤ p + 1 - (numS W).length) (p + 1 - (numS W).length) ⟨0, by rw [zs_zero]; rfl, rfl, rfl, Nat.zero_le _⟩ (fun z σ' H' hw => ?_)
  obtain ⟨k, rfl, rfl, rfl, hk⟩ := hw
  have lz := zs_len k (numS W)
  walk_at "rd"
  refine r_lenS (small0 (by omega)) ?_
  walk_at "rd"
  refine ite_d (fun hlt => ?_) (fun hge => ?_)
  · refine wh_in ?_
    walk_at "rd"
    refine r_addS (small0 (by show 1 + (zs k (numS W)).length ≤ 16777216; omega)) ?_
    walk_at "rd"
    refine ⟨p + 1 - (numS W).length - (k + 1), by omega, k + 1, ?_, rfl, rfl, by omega⟩
    rw [← zs_succ]; rfl
  have ek : k = p + 1 - (numS W).length := by omega
  subst ek
  change tCut _ _ _ [_, _, _, _, some (.str (padT (numS W) (p + 1))), _] _
  have lp := padT_len (numS W) (p + 1)
  generalize hz : padT (numS W) (p + 1) = Z at lp
  have lZ : Z.length ≤ 2100 := by omega
  have lc1 := cut_len Z none (some ((Z.length : Int) - p))
  have lc2 := cut_len Z (some ((Z.length : Int) - p)) none
  walk_at "rd"
  refine ⟨fun σ' H' => ∃ u5, σ' = [some (.int t), some (.int d), some (.int (p : Int)), some (.int (W : Int)), some (.str (ptT Z p)), u5] ∧ H = H', ?_, fun σ' H' hM => ?_⟩
  · walk_at "rd"
    unfold ptT
    refine ite_d (fun hpp => ?_) (fun hpp => ?_)
    · rw [if_pos (show 0 < p by omega)]
      walk_at "rd"
      refine r_lenS (small0 (by omega)) ?_
      walk_at "rd"
      refine r_slS (small0 (by omega)) ?_
      walk_at "rd"
      refine r_addS (small0 (by show _ + 1 ≤ 16777216; omega)) ?_
      walk_at "rd"
      refine r_slS (small0 (by omega)) ?_
      refine r_addS (small0 (by rw [cat_len]; show _ + 1 + _ ≤ 16777216; omega)) ?_
      walk_at "rd"
      exact ⟨_, rfl, rfl⟩
    · rw [if_neg (show ¬ 0 < p by omega)]
      walk_at "rd"
      exact ⟨_, rfl, rfl⟩
  obtain ⟨u5, rfl, rfl⟩ := hM
  have lpt : (ptT Z p).length ≤ 5000 := by
    unfold ptT
    split
    · rw [cat_len, cat_len]
      show _ + 1 + _ ≤ 5000
      omega
    · omega
  unfold figT at q
  rw [hz] at q
  walk_at "rd"
  refine ite_d (fun ht => ?_) (fun ht => ?_)
  · walk_at "rd"
    refine ite_d (fun hW => ?_) (fun hW => ?_)
    · walk_at "rd"
      rw [if_pos ⟨ht, by omega⟩] at q
      exact r_addS (small0 (by show 1 + _ ≤ 16777216; omega)) q
    · walk_at "rd"
      rw [if_neg (fun z => hW (by have := z.2; omega))] at q
      exact q
  · walk_at "rd"
    rw [if_neg (fun z => ht z.1)] at q
    exact q
theorem c__law_text {t d : Int} {p : Nat} (n : Nat) (hs : 0 < d ∧ t.natAbs < 2 ^ n ∧ d.natAbs < 2 ^ n ∧ 0 < n ∧ n ≤ 600 ∧ p ≤ 100) (q : Q (.str (figT (rndV t d p).toNat p (t < 0))) H) : sp__law_text K Cof [.int t, .int d, .int (p : Int)] H Q E := ⟨t, d, p, n, rfl, hs, q⟩
end

/-! #### law -/
--USE RI RZ MX
def sp_law (K : PySem.W.Frag) (Cof : String → Addr) : Sp := fun vs H Q _ => ∃ (a : Addr) (ns : List Int), vs = [.ref a] ∧ SqL K H a (ns.map V.int) ∧ ns.length ≤ 63 ∧ ∀ H', Q (.bl true) H'
def t_law (K : PySem.W.Frag) (Cof : String → Addr) (E : XK) : TS :=
  tSeq (tAsg (tCall (sp__law_cell_at K Cof) [] E0 (tCons (tVar 0) (tCons (tC (.int 0)) (tNil)))) (gName 1))
  (tSeq (tAsg (tOp (rIxL K) (tLst (tCons (tC (.int 6)) (tCons (tOp rMod (tCall (sp__law_cell_at K Cof) [] E0 (tCons (tVar 0) (tCons (tC (.int 1)) (tNil)))) (tC (.int 41))) (tNil)))) (tOp rMod (tVar 1) (tC (.int 2)))) (gName 2))
  (tSeq (tAsg (tOp (rIxL K) (tLst (tCons (tC (.int 50)) (tCons (tOp rPow (tC (.int 10)) (tC (.int 9))) (tCons (tOp rPow (tC (.int 10)) (tC (.int 40))) (tNil))))) (tOp rMod (tOp rDiv (tVar 1) (tC (.int 2))) (tC (.int 3)))) (gName 3))
  (tSeq (tAsg (tOp rISub (tOp rMod (tCall (sp__law_cell_at K Cof) [] E0 (tCons (tVar 0) (tCons (tC (.int 2)) (tNil)))) (tOp rMul (tC (.int 2)) (tVar 3))) (tVar 3)) (gName 4))
  (tSeq (tAsg (tOp rIAdd (tC (.int 1)) (tOp rMod (tCall (sp__law_cell_at K Cof) [] E0 (tCons (tVar 0) (tCons (tC (.int 3)) (tNil)))) (tOp (rIxL K) (tLst (tCons (tC (.int 20)) (tCons (tOp rPow (tC (.int 10)) (tC (.int 9))) (tNil)))) (tOp rMod (tOp rDiv (tVar 1) (tC (.int 6))) (tC (.int 2)))))) (gName 5))
  (tCut (tIfS (tTest (tOp rEq (tOp rMod (tOp rDiv (tVar 1) (tC (.int 12))) (tC (.int 3))) (tC (.int 1)))) (tSeq (tAsg (tOp rIAdd (tOp rMul (tC (.int 2)) (tVar 4)) (tC (.int 1))) (gName 4))
  (tAsg (tOp rMul (tC (.int 2)) (tCall (sp__law_power K Cof) [] E0 (tCons (tVar 2) (tNil)))) (gName 5))) (tNext))
  (tSeq (tAsg (tCall (sp_fraction K Cof) [] E0 (tCons (tMake (Cof "Ratio") (sp_Ratio___init__ K Cof) [] E0 (tCons (tVar 4) (tCons (tVar 5) (tNil)))) (tNil))) (gName 6))
  (tCut (tIfS (tTest (tOp rEq (tOp rMod (tVar 1) (tC (.int 2))) (tC (.int 0)))) (tAsg (tCall (sp_figures K Cof) [.int 6] E0 (tCons (tVar 6) (tNil))) (gName 7)) (tAsg (tCall (sp_figures K Cof) [] E0 (tCons (tVar 6) (tCons (tVar 2) (tNil)))) (gName 7)))
  (tSeq (tIfS (tOr (tNot (tB (tCB (rIsi K) (tCons (tVar 7) (tCons (tC (.ty "str")) (tNil)))))) (tTest (tOp rNe (tVar 7) (tCall (sp__law_text K Cof) [] E0 (tCons (tVar 4) (tCons (tVar 5) (tCons (tVar 2) (tNil)))))))) (tRet (tC (.bl false))) (tNext))
  (tRet (tAndV (tOp rEq (tCall (sp_figures K Cof) [] E0 (tCons (tVar 6) (tCons (tC (.int 0)) (tNil)))) (tCall (sp__law_text K Cof) [] E0 (tCons (tVar 4) (tCons (tVar 5) (tCons (tC (.int 0)) (tNil)))))) (tOp rEq (tCall (sp_figures K Cof) [.int 6] E0 (tCons (tVar 6) (tNil))) (tCall (sp__law_text K Cof) [] E0 (tCons (tVar 4) (tCons (tVar 5) (tCons (tC (.int 6)) (tNil))))))))))))))))

section
variable {K : PySem.W.Frag} {Cof : String → Addr} {vs : List V} {H : Hp} {Q : VK} {E : XK}
theorem len_law (h : sp_law K Cof vs H Q E) : vs.length = 1 := by
  obtain ⟨a, ns, rfl, _⟩ := h; rfl
theorem three_far (i : Nat) (h0 : i < 3) : 0 < ([50, 10 ^ 9, 10 ^ 40] : List Int).getD i 0 ∧ ([50, 10 ^ 9, 10 ^ 40] : List Int).getD i 0 ≤ 10 ^ 40 := by
  rcases i with _ | _ | _ | i
  · exact ⟨by decide, by decide⟩
  · exact ⟨by decide, by decide⟩
  · exact ⟨by decide, by decide⟩
  · omega
theorem two_bot (i : Nat) (h0 : i < 2) : 0 < ([20, 10 ^ 9] : List Int).getD i 0 ∧ ([20, 10 ^ 9] : List Int).getD i 0 ≤ 10 ^ 9 := by
  rcases i with _ | _ | i
  · exact ⟨by decide, by decide⟩
  · exact ⟨by decide, by decide⟩
  · omega
theorem rd_law (X : ExT K Cof) (h : sp_law K Cof vs H Q E) : t_law K Cof E { nx := fun _ H' => Q .non H', rt := Q } (start ["_law_script", "_law_cell", "_law_places", "_law_far", "_law_top", "_law_bottom", "_law_n", "_law_found"] vs) H := by
  obtain ⟨a, ns, rfl, hS, hl, q⟩ := h
  unfold t_law
  have e9 : (10 : Int) ^ 9 = 1000000000 := by decide
  have e40 : (10 : Int) ^ 40 = 10000000000000000000000000000000000000000 := by decide
  walk_at "rd"
  refine r_lstK fun p1 H1 hp1 e1 h1 => ?_
  have hS1 := e1.l hS
  walk_at "rd"
  generalize ec : cellOf ns 0 = c
  have i0 := Int.fmod_nonneg_of_pos c (show (0 : Int) < 2 by decide)
  have i1 := Int.fmod_lt_of_pos c (show (0 : Int) < 2 by decide)
  have v0 := Int.fmod_nonneg_of_pos (cellOf ns 1) (show (0 : Int) < 41 by decide)
  have v1 := Int.fmod_lt_of_pos (cellOf ns 1) (show (0 : Int) < 41 by decide)
  refine r_ixI (ns := [6, (cellOf ns 1).fmod 41]) (SqL.inj h1) i0 (by show c.fmod 2 < 2; exact i1) ?_
  obtain ⟨p, ep, hp, hp6⟩ : ∃ p : Nat, ([6, (cellOf ns 1).fmod 41] : List Int).getD (c.fmod 2).toNat 0 = (p : Int) ∧ p ≤ 40 ∧ (c.fmod 2 = 0 → p = 6) := by
    by_cases hc : c.fmod 2 = 0
    · rw [hc]; exact ⟨6, rfl, by decide, fun _ => rfl⟩
    · have : c.fmod 2 = 1 := by omega
      rw [this]
      exact ⟨((cellOf ns 1).fmod 41).toNat, by show (cellOf ns 1).fmod 41 = _; omega, by omega, fun z => absurd z (by decide)⟩
  rw [ep]
  clear v0 v1 ep h1
  walk_at "rd"
  refine r_lstK fun p2 H2 hp2 e2 h2 => ?_
  have hS2 := e2.l hS1
  walk_at "rd"
  have j0 := Int.fmod_nonneg_of_pos (c.fdiv 2) (show (0 : Int) < 3 by decide)
  have j1 := Int.fmod_lt_of_pos (c.fdiv 2) (show (0 : Int) < 3 by decide)
  refine r_ixI (ns := [50, 10 ^ 9, 10 ^ 40]) (SqL.inj h2) j0 (by show (c.fdiv 2).fmod 3 < 3; exact j1) ?_
  have hz := three_far ((c.fdiv 2).fmod 3).toNat (by omega)
  generalize ([50, 10 ^ 9, 10 ^ 40] : List Int).getD ((c.fdiv 2).fmod 3).toNat 0 = far at hz ⊢
  obtain ⟨f0, f1⟩ := hz
  rw [e40] at f1
  clear j0 j1 h2
  walk_at "rd"
  refine r_mul (wide_mul (a := 2) (b := 200) (by decide) (by omega) (by decide) (by decide) (by decide)) ?_
  walk_at "rd"
  have t0 := Int.fmod_nonneg_of_pos (cellOf ns 2) (show (0 : Int) < 2 * far by omega)
  have t1 := Int.fmod_lt_of_pos (cellOf ns 2) (show (0 : Int) < 2 * far by omega)
  obtain ⟨t, et, ht⟩ : ∃ t : Int, (cellOf ns 2).fmod (2 * far) - far = t ∧ t.natAbs ≤ 10000000000000000000000000000000000000000 := ⟨_, rfl, by omega⟩
  rw [et]
  clear t0 t1 et f0 f1
  refine r_lstK fun p3 H3 hp3 e3 h3 => ?_
  have hS3 := e3.l hS2
  walk_at "rd"
  have k0 := Int.fmod_nonneg_of_pos (c.fdiv 6) (show (0 : Int) < 2 by decide)
  have k1 := Int.fmod_lt_of_pos (c.fdiv 6) (show (0 : Int) < 2 by decide)
  refine r_ixI (ns := [20, 10 ^ 9]) (SqL.inj h3) k0 (by show (c.fdiv 6).fmod 2 < 2; exact k1) ?_
  have hz := two_bot ((c.fdiv 6).fmod 2).toNat (by omega)
  generalize ([20, 10 ^ 9] : List Int).getD ((c.fdiv 6).fmod 2).toNat 0 = lim at hz ⊢
  obtain ⟨g0, g1⟩ := hz
  rw [e9] at g1
  clear k0 k1 h3
  walk_at "rd"
  have b0 := Int.fmod_nonneg_of_pos (cellOf ns 3) g0
  have b1 := Int.fmod_lt_of_pos (cellOf ns 3) g0
  obtain ⟨b, eb, hb, hb1⟩ : ∃ b : Int, 1 + (cellOf ns 3).fmod lim = b ∧ 0 < b ∧ b ≤ 2000000000 := ⟨_, rfl, by omega, by omega⟩
  rw [eb]
  clear b0 b1 eb g0 g1
  have e13 := (e1.trans e2).trans e3
  have t10 := ten_lt p
  have p10 := ten_pos p
  refine ⟨fun σ' H' => ∃ (t b : Int), σ' = [some (.ref a), some (.int c), some (.int (p : Int)), some (.int far), some (.int t), some (.int b), none, none] ∧ H3 = H' ∧ t.natAbs < 2 ^ 200 ∧ b.natAbs < 2 ^ 200 ∧ 0 < b, ?_, fun σ' H' hM => ?_⟩
  · walk_at "rd"
    refine ite_d (fun _ => ?_) (fun _ => ?_)
    · walk_at "rd"
      refine r_mul (wide_mul (a := 2) (b := 200) (by decide) (by omega) (by decide) (by decide) (by decide)) ?_
      walk_at "rd"
      refine c__law_power (by omega) ?_
      walk_at "rd"
      refine r_mul (wide_mul (a := 2) (b := 4 * p + 1) (by decide) t10 (by decide) (by omega) (by omega)) ?_
      walk_at "rd"
      have h5 : (2 * (10 : Int) ^ p).natAbs < 2 ^ 200 := Nat.lt_of_lt_of_le (wide_lt (a := 2) (b := 4 * p + 1) (by decide) t10) (Nat.pow_le_pow_right (by decide) (by omega))
      exact ⟨2 * t + 1, _, rfl, rfl, by omega, h5, by omega⟩
    · walk_at "rd"
      exact ⟨t, b, rfl, rfl, by omega, by omega, hb⟩
  clear ht hb hb1
  obtain ⟨t, b, rfl, rfl, st, sb, hb⟩ := hM
  have fr : MN.Frc 200 (rT t b) (rB t b) := ⟨rB_pos (by omega), r_low (by omega), Nat.lt_of_le_of_lt (rT_abs (by omega)) st, Nat.lt_of_le_of_lt (rB_abs (by omega)) sb, by decide, by decide⟩
  have big : (2 : Nat) ^ 200 < 10 ^ 120 := by decide
  have hB : ((rT t b).natAbs : Int) < (10 : Int) ^ 120 ∧ rB t b < (10 : Int) ^ 120 := by
    have h1 := fr.st
    have h2 := fr.sd
    have h3 := fr.d0
    have e120 : (10 : Int) ^ 120 = ((10 ^ 120 : Nat) : Int) := by decide
    rw [e120]
    omega
  walk_at "rd"
  refine c_Ratio 200 (by omega) sb (by decide) (by decide) fun p4 H4 hp4 e4 h4 => ?_
  walk_at "rd"
  refine c_fraction 200 h4 fr hB fun x H5 hx e5 h5 => ?_
  have tx : ∀ {P : Nat}, P ≤ 100 → 0 < b ∧ t.natAbs < 2 ^ 200 ∧ b.natAbs < 2 ^ 200 ∧ 0 < 200 ∧ 200 ≤ 600 ∧ P ≤ 100 := fun h => ⟨hb, st, sb, by decide, by decide, h⟩
  walk_at "rd"
  refine ⟨fun σ' H' => σ' = [some (.ref a), some (.int c), some (.int (p : Int)), some (.int far), some (.int t), some (.int b), some (.ref x), some (.str (figT (rndV t b p).toNat p (t < 0)))] ∧ Ex H5 H', ?_, fun σ' H' hM => ?_⟩
  · walk_at "rd"
    refine ite_d (fun hc => ?_) (fun hc => ?_)
    · have p6 := hp6 hc
      walk_at "rd"
      refine r_callD ?_
      walk_at "rd"
      refine c_figures (p := 6) 200 h5 fr ⟨by decide, by decide⟩ fun H6 e6 => ?_
      rw [fig_made hb]
      subst p6
      exact ⟨rfl, e6⟩
    · walk_at "rd"
      refine c_figures (p := p) 200 h5 fr ⟨by decide, by omega⟩ fun H6 e6 => ?_
      rw [fig_made hb]
      exact ⟨rfl, e6⟩
  obtain ⟨rfl, e6⟩ := hM
  have h6 : FrN K Cof H' x (rT t b) (rB t b) := IsM.ex e6 h5
  walk_at "rd"
  refine r_isi (.base (.str _)) (.ty _) (kit_ty (r := true) (by decide +kernel)) ?_
  walk_at "rd"
  refine c__law_text 200 (tx (by omega)) ?_
  refine r_neS ?_
  rw [decide_eq_true rfl]
  walk_at "rd"
  refine c_figures (p := 0) 200 h6 fr ⟨by decide, by decide⟩ fun H7 e7 => ?_
  rw [fig_made hb]
  walk_at "rd"
  refine c__law_text (p := 0) 200 (tx (by decide)) ?_
  walk_at "rd"
  refine ite_d (fun _ => ?_) (fun h => absurd rfl h)
  walk_at "rd"
  refine r_callD ?_
  walk_at "rd"
  have h7 : FrN K Cof H7 x (rT t b) (rB t b) := IsM.ex e7 h6
  refine c_figures (p := 6) 200 h7 fr ⟨by decide, by decide⟩ fun H8 e8 => ?_
  rw [fig_made hb]
  walk_at "rd"
  refine c__law_text (p := 6) 200 (tx (by decide)) ?_
  walk_at "rd"
  rw [decide_eq_true rfl]
  exact q _
theorem c_law {a : Addr} {ns : List Int} (h : SqL K H a (ns.map V.int)) (hl : ns.length ≤ 63) (q : ∀ H', Q (.bl true) H') : sp_law K Cof [.ref a] H Q E := ⟨a, ns, rfl, h, hl, q⟩
end

def topS (i : Nat) : Stmt := PySem.Challenge.pw_rootspan_k72_figures_of_fractions.main.body.getD i (.Pass ⟨0, 0, 0, 0⟩)
abbrev s_shared : Stmt := topS 9
theorem sc_shared : FnScope ["row", "found", "one", "rest"] ["row"] (defScope s_shared) := ⟨rfl, rfl, rfl, by decide +kernel, rfl, by decide +kernel, by decide +kernel⟩
abbrev s_told_order : Stmt := topS 10
theorem sc_told_order : FnScope ["left", "right"] ["left", "right"] (defScope s_told_order) := ⟨rfl, rfl, rfl, by decide +kernel, rfl, by decide +kernel, by decide +kernel⟩
abbrev s_Ratio___init__ : Stmt := inClass (topS 11) 0
theorem sc_Ratio___init__ : FnScope ["self", "top", "bottom", "part"] ["self", "top", "bottom"] (defScope s_Ratio___init__) := ⟨rfl, rfl, rfl, by decide +kernel, rfl, by decide +kernel, by decide +kernel⟩
abbrev s_Ratio_plus : Stmt := inClass (topS 11) 1
theorem sc_Ratio_plus : FnScope ["self", "other"] ["self", "other"] (defScope s_Ratio_plus) := ⟨rfl, rfl, rfl, by decide +kernel, rfl, by decide +kernel, by decide +kernel⟩
abbrev s_Ratio_minus : Stmt := inClass (topS 11) 2
theorem sc_Ratio_minus : FnScope ["self", "other"] ["self", "other"] (defScope s_Ratio_minus) := ⟨rfl, rfl, rfl, by decide +kernel, rfl, by decide +kernel, by decide +kernel⟩
abbrev s_Ratio_times : Stmt := inClass (topS 11) 3
theorem sc_Ratio_times : FnScope ["self", "other"] ["self", "other"] (defScope s_Ratio_times) := ⟨rfl, rfl, rfl, by decide +kernel, rfl, by decide +kernel, by decide +kernel⟩
abbrev s_Ratio_over : Stmt := inClass (topS 11) 4
theorem sc_Ratio_over : FnScope ["self", "other"] ["self", "other"] (defScope s_Ratio_over) := ⟨rfl, rfl, rfl, by decide +kernel, rfl, by decide +kernel, by decide +kernel⟩
abbrev s_Ratio_against : Stmt := inClass (topS 11) 5
theorem sc_Ratio_against : FnScope ["self", "other"] ["self", "other"] (defScope s_Ratio_against) := ⟨rfl, rfl, rfl, by decide +kernel, rfl, by decide +kernel, by decide +kernel⟩
abbrev s_Ratio_floor : Stmt := inClass (topS 11) 7
theorem sc_Ratio_floor : FnScope ["self"] ["self"] (defScope s_Ratio_floor) := ⟨rfl, rfl, rfl, by decide +kernel, rfl, by decide +kernel, by decide +kernel⟩
abbrev s_poly : Stmt := topS 13
theorem sc_poly : FnScope ["row", "size"] ["row"] (defScope s_poly) := ⟨rfl, rfl, rfl, by decide +kernel, rfl, by decide +kernel, by decide +kernel⟩
abbrev s_degree : Stmt := topS 14
theorem sc_degree : FnScope ["P"] ["P"] (defScope s_degree) := ⟨rfl, rfl, rfl, by decide +kernel, rfl, by decide +kernel, by decide +kernel⟩
abbrev s_slope : Stmt := topS 15
theorem sc_slope : FnScope ["P", "k"] ["P"] (defScope s_slope) := ⟨rfl, rfl, rfl, by decide +kernel, rfl, by decide +kernel, by decide +kernel⟩
abbrev s_shrunk : Stmt := topS 17
theorem sc_shrunk : FnScope ["P", "part", "one"] ["P"] (defScope s_shrunk) := ⟨rfl, rfl, rfl, by decide +kernel, rfl, by decide +kernel, by decide +kernel⟩
abbrev s_plain : Stmt := topS 18
theorem sc_plain : FnScope ["P", "row", "one"] ["P"] (defScope s_plain) := ⟨rfl, rfl, rfl, by decide +kernel, rfl, by decide +kernel, by decide +kernel⟩
abbrev s_top_at : Stmt := topS 19
theorem sc_top_at : FnScope ["P", "r", "total", "scale", "one"] ["P", "r"] (defScope s_top_at) := ⟨rfl, rfl, rfl, by decide +kernel, rfl, by decide +kernel, by decide +kernel⟩
abbrev s_sign_at : Stmt := topS 20
theorem sc_sign_at : FnScope ["P", "r"] ["P", "r"] (defScope s_sign_at) := ⟨rfl, rfl, rfl, by decide +kernel, rfl, by decide +kernel, by decide +kernel⟩
abbrev s_divided : Stmt := topS 22
theorem sc_divided : FnScope ["P", "Q", "gap", "factor", "k", "rest", "one", "quotient", "many", "place"] ["P", "Q"] (defScope s_divided) := ⟨rfl, rfl, rfl, by decide +kernel, rfl, by decide +kernel, by decide +kernel⟩
abbrev s_common : Stmt := topS 25
theorem sc_common : FnScope ["P", "Q", "ahead", "behind", "rest"] ["P", "Q"] (defScope s_common) := ⟨rfl, rfl, rfl, by decide +kernel, rfl, by decide +kernel, by decide +kernel⟩
abbrev s_part : Stmt := topS 26
theorem sc_part : FnScope ["P", "Q", "found"] ["P", "Q"] (defScope s_part) := ⟨rfl, rfl, rfl, by decide +kernel, rfl, by decide +kernel, by decide +kernel⟩
abbrev s_without_squares : Stmt := topS 27
theorem sc_without_squares : FnScope ["P"] ["P"] (defScope s_without_squares) := ⟨rfl, rfl, rfl, by decide +kernel, rfl, by decide +kernel, by decide +kernel⟩
abbrev s_row_of : Stmt := topS 29
theorem sc_row_of : FnScope ["P", "row", "later", "rest", "one"] ["P"] (defScope s_row_of) := ⟨rfl, rfl, rfl, by decide +kernel, rfl, by decide +kernel, by decide +kernel⟩
abbrev s_changes : Stmt := topS 30
theorem sc_changes : FnScope ["row", "r", "many", "last", "P", "sign"] ["row", "r"] (defScope s_changes) := ⟨rfl, rfl, rfl, by decide +kernel, rfl, by decide +kernel, by decide +kernel⟩
abbrev s_count : Stmt := topS 31
theorem sc_count : FnScope ["row", "low", "high"] ["row", "low", "high"] (defScope s_count) := ⟨rfl, rfl, rfl, by decide +kernel, rfl, by decide +kernel, by decide +kernel⟩
abbrev s_bound : Stmt := topS 33
theorem sc_bound : FnScope ["P", "most", "one", "found"] ["P"] (defScope s_bound) := ⟨rfl, rfl, rfl, by decide +kernel, rfl, by decide +kernel, by decide +kernel⟩
abbrev s_halfway : Stmt := topS 34
theorem sc_halfway : FnScope ["low", "high"] ["low", "high"] (defScope s_halfway) := ⟨rfl, rfl, rfl, by decide +kernel, rfl, by decide +kernel, by decide +kernel⟩
abbrev s_narrowed : Stmt := topS 36
theorem sc_narrowed : FnScope ["P", "low", "high", "width", "last", "middle", "here"] ["P", "low", "high", "width"] (defScope s_narrowed) := ⟨rfl, rfl, rfl, by decide +kernel, rfl, by decide +kernel, by decide +kernel⟩
abbrev s_least : Stmt := topS 42
theorem sc_least : FnScope ["P", "low", "high", "found", "width", "mine", "cell"] ["P", "low", "high"] (defScope s_least) := ⟨rfl, rfl, rfl, by decide +kernel, rfl, by decide +kernel, by decide +kernel⟩
abbrev s_Number___init__ : Stmt := inClass (topS 46) 0
theorem sc_Number___init__ : FnScope ["self", "poly", "low", "high"] ["self", "poly", "low", "high"] (defScope s_Number___init__) := ⟨rfl, rfl, rfl, by decide +kernel, rfl, by decide +kernel, by decide +kernel⟩
abbrev s_look_at_size : Stmt := topS 47
theorem sc_look_at_size : FnScope ["P", "one"] ["P"] (defScope s_look_at_size) := ⟨rfl, rfl, rfl, by decide +kernel, rfl, by decide +kernel, by decide +kernel⟩
abbrev s_settled : Stmt := topS 48
theorem sc_settled : FnScope ["P", "low", "high", "spot", "row", "bottom", "whole", "begin", "end"] ["P", "low", "high"] (defScope s_settled) := ⟨rfl, rfl, rfl, by decide +kernel, rfl, by decide +kernel, by decide +kernel⟩
abbrev s_number : Stmt := topS 49
theorem sc_number : FnScope ["P", "low", "high", "S", "many"] ["P", "low", "high"] (defScope s_number) := ⟨rfl, rfl, rfl, by decide +kernel, rfl, by decide +kernel, by decide +kernel⟩
abbrev s_fraction : Stmt := topS 50
theorem sc_fraction : FnScope ["r"] ["r"] (defScope s_fraction) := ⟨rfl, rfl, rfl, by decide +kernel, rfl, by decide +kernel, by decide +kernel⟩
abbrev s_narrow : Stmt := topS 51
theorem sc_narrow : FnScope ["n", "width", "span"] ["n", "width"] (defScope s_narrow) := ⟨rfl, rfl, rfl, by decide +kernel, rfl, by decide +kernel, by decide +kernel⟩
abbrev s_against : Stmt := topS 52
theorem sc_against : FnScope ["n", "r", "side_there"] ["n", "r"] (defScope s_against) := ⟨rfl, rfl, rfl, by decide +kernel, rfl, by decide +kernel, by decide +kernel⟩
abbrev s_sign_of : Stmt := topS 53
theorem sc_sign_of : FnScope ["n"] ["n"] (defScope s_sign_of) := ⟨rfl, rfl, rfl, by decide +kernel, rfl, by decide +kernel, by decide +kernel⟩
abbrev s_of_a_fraction_reckon : Stmt := topS 55
theorem sc_of_a_fraction_reckon : FnScope ["r"] ["r"] (defScope s_of_a_fraction_reckon) := ⟨rfl, rfl, rfl, by decide +kernel, rfl, by decide +kernel, by decide +kernel⟩
abbrev s_fraction_of : Stmt := topS 57
theorem sc_fraction_of : FnScope ["n"] ["n"] (defScope s_fraction_of) := ⟨rfl, rfl, rfl, by decide +kernel, rfl, by decide +kernel, by decide +kernel⟩
abbrev s_opposite : Stmt := topS 58
theorem sc_opposite : FnScope ["a", "nought"] ["a"] (defScope s_opposite) := ⟨rfl, rfl, rfl, by decide +kernel, rfl, by decide +kernel, by decide +kernel⟩
abbrev s_steps : Stmt := topS 60
theorem sc_steps : FnScope ["n", "bottom", "whole"] ["n", "bottom"] (defScope s_steps) := ⟨rfl, rfl, rfl, by decide +kernel, rfl, by decide +kernel, by decide +kernel⟩
abbrev s_figures : Stmt := topS 61
theorem sc_figures : FnScope ["n", "places", "base", "k", "below", "whole", "text"] ["n", "places"] (defScope s_figures) := ⟨rfl, rfl, rfl, by decide +kernel, rfl, by decide +kernel, by decide +kernel⟩
abbrev s__law_cell_at : Stmt := topS 63
theorem sc__law_cell_at : FnScope ["_law_script", "_law_k"] ["_law_script", "_law_k"] (defScope s__law_cell_at) := ⟨rfl, rfl, rfl, by decide +kernel, rfl, by decide +kernel, by decide +kernel⟩
abbrev s__law_power : Stmt := topS 64
theorem sc__law_power : FnScope ["_law_places", "_law_base", "_law_k"] ["_law_places"] (defScope s__law_power) := ⟨rfl, rfl, rfl, by decide +kernel, rfl, by decide +kernel, by decide +kernel⟩
abbrev s__law_text : Stmt := topS 65
theorem sc__law_text : FnScope ["_law_top", "_law_bottom", "_law_places", "_law_whole", "_law_text_here", "_law_at"] ["_law_top", "_law_bottom", "_law_places"] (defScope s__law_text) := ⟨rfl, rfl, rfl, by decide +kernel, rfl, by decide +kernel, by decide +kernel⟩
abbrev s_law : Stmt := topS 66
theorem sc_law : FnScope ["_law_script", "_law_cell", "_law_places", "_law_far", "_law_top", "_law_bottom", "_law_n", "_law_found"] ["_law_script"] (defScope s_law) := ⟨rfl, rfl, rfl, by decide +kernel, rfl, by decide +kernel, by decide +kernel⟩
structure Txt (K : PySem.W.Frag) (mg : Str → Option Value) (Cof : String → Addr) (ad : Nat → Addr) (fd : Nat → FuncData) : Prop where
  z_abs : mg "abs" = none
  z_enumerate : mg "enumerate" = none
  z_int : mg "int" = none
  z_isinstance : mg "isinstance" = none
  z_len : mg "len" = none
  z_list : mg "list" = none
  z_max : mg "max" = none
  z_range : mg "range" = none
  z_reversed : mg "reversed" = none
  z_str : mg "str" = none
  g_shared : mg "shared" = some (.ref (ad 0))
  F_shared : Fun K "shared" "shared" s_shared (ad 0) (fd 0)
  g_told_order : mg "told_order" = some (.ref (ad 1))
  F_told_order : Fun K "told_order" "told_order" s_told_order (ad 1) (fd 1)
  F_Ratio___init__ : FunD K "__init__" "Ratio.__init__" (defArgs s_Ratio___init__) (defBody s_Ratio___init__) (defScope s_Ratio___init__) [.int 1] [] (ad 2) (fd 2)
  mk_Ratio : Mk K (Cof "Ratio") (ad 2)
  F_Ratio_plus : Fun K "plus" "Ratio.plus" s_Ratio_plus (ad 3) (fd 3)
  meth_Ratio_plus : Meth K (Cof "Ratio") "plus" (ad 3)
  F_Ratio_minus : Fun K "minus" "Ratio.minus" s_Ratio_minus (ad 4) (fd 4)
  meth_Ratio_minus : Meth K (Cof "Ratio") "minus" (ad 4)
  F_Ratio_times : Fun K "times" "Ratio.times" s_Ratio_times (ad 5) (fd 5)
  meth_Ratio_times : Meth K (Cof "Ratio") "times" (ad 5)
  F_Ratio_over : Fun K "over" "Ratio.over" s_Ratio_over (ad 6) (fd 6)
  meth_Ratio_over : Meth K (Cof "Ratio") "over" (ad 6)
  F_Ratio_against : Fun K "against" "Ratio.against" s_Ratio_against (ad 7) (fd 7)
  meth_Ratio_against : Meth K (Cof "Ratio") "against" (ad 7)
  F_Ratio_floor : Fun K "floor" "Ratio.floor" s_Ratio_floor (ad 8) (fd 8)
  meth_Ratio_floor : Meth K (Cof "Ratio") "floor" (ad 8)
  g_poly : mg "poly" = some (.ref (ad 9))
  F_poly : Fun K "poly" "poly" s_poly (ad 9) (fd 9)
  g_degree : mg "degree" = some (.ref (ad 10))
  F_degree : Fun K "degree" "degree" s_degree (ad 10) (fd 10)
  g_slope : mg "slope" = some (.ref (ad 11))
  F_slope : Fun K "slope" "slope" s_slope (ad 11) (fd 11)
  g_shrunk : mg "shrunk" = some (.ref (ad 12))
  F_shrunk : Fun K "shrunk" "shrunk" s_shrunk (ad 12) (fd 12)
  g_plain : mg "plain" = some (.ref (ad 13))
  F_plain : Fun K "plain" "plain" s_plain (ad 13) (fd 13)
  g_top_at : mg "top_at" = some (.ref (ad 14))
  F_top_at : Fun K "top_at" "top_at" s_top_at (ad 14) (fd 14)
  g_sign_at : mg "sign_at" = some (.ref (ad 15))
  F_sign_at : Fun K "sign_at" "sign_at" s_sign_at (ad 15) (fd 15)
  g_divided : mg "divided" = some (.ref (ad 16))
  F_divided : Fun K "divided" "divided" s_divided (ad 16) (fd 16)
  g_common : mg "common" = some (.ref (ad 17))
  F_common : Fun K "common" "common" s_common (ad 17) (fd 17)
  g_part : mg "part" = some (.ref (ad 18))
  F_part : Fun K "part" "part" s_part (ad 18) (fd 18)
  g_without_squares : mg "without_squares" = some (.ref (ad 19))
  F_without_squares : Fun K "without_squares" "without_squares" s_without_squares (ad 19) (fd 19)
  g_row_of : mg "row_of" = some (.ref (ad 20))
  F_row_of : Fun K "row_of" "row_of" s_row_of (ad 20) (fd 20)
  g_changes : mg "changes" = some (.ref (ad 21))
  F_changes : Fun K "changes" "changes" s_changes (ad 21) (fd 21)
  g_count : mg "count" = some (.ref (ad 22))
  F_count : Fun K "count" "count" s_count (ad 22) (fd 22)
  g_bound : mg "bound" = some (.ref (ad 23))
  F_bound : Fun K "bound" "bound" s_bound (ad 23) (fd 23)
  g_halfway : mg "halfway" = some (.ref (ad 24))
  F_halfway : Fun K "halfway" "halfway" s_halfway (ad 24) (fd 24)
  g_narrowed : mg "narrowed" = some (.ref (ad 25))
  F_narrowed : Fun K "narrowed" "narrowed" s_narrowed (ad 25) (fd 25)
  g_least : mg "least" = some (.ref (ad 26))
  F_least : Fun K "least" "least" s_least (ad 26) (fd 26)
  F_Number___init__ : Fun K "__init__" "Number.__init__" s_Number___init__ (ad 27) (fd 27)
  mk_Number : Mk K (Cof "Number") (ad 27)
  g_look_at_size : mg "look_at_size" = some (.ref (ad 28))
  F_look_at_size : Fun K "look_at_size" "look_at_size" s_look_at_size (ad 28) (fd 28)
  g_settled : mg "settled" = some (.ref (ad 29))
  F_settled : Fun K "settled" "settled" s_settled (ad 29) (fd 29)
  g_number : mg "number" = some (.ref (ad 30))
  F_number : FunD K "number" "number" (defArgs s_number) (defBody s_number) (defScope s_number) [.non, .non] [] (ad 30) (fd 30)
  g_fraction : mg "fraction" = some (.ref (ad 31))
  F_fraction : Fun K "fraction" "fraction" s_fraction (ad 31) (fd 31)
  g_narrow : mg "narrow" = some (.ref (ad 32))
  F_narrow : Fun K "narrow" "narrow" s_narrow (ad 32) (fd 32)
  g_against : mg "against" = some (.ref (ad 33))
  F_against : Fun K "against" "against" s_against (ad 33) (fd 33)
  g_sign_of : mg "sign_of" = some (.ref (ad 34))
  F_sign_of : Fun K "sign_of" "sign_of" s_sign_of (ad 34) (fd 34)
  g_of_a_fraction_reckon : mg "of_a_fraction_reckon" = some (.ref (ad 35))
  F_of_a_fraction_reckon : Fun K "of_a_fraction" "of_a_fraction" s_of_a_fraction_reckon (ad 35) (fd 35)
  g_fraction_of : mg "fraction_of" = some (.ref (ad 36))
  F_fraction_of : Fun K "fraction_of" "fraction_of" s_fraction_of (ad 36) (fd 36)
  g_opposite : mg "opposite" = some (.ref (ad 37))
  F_opposite : Fun K "opposite" "opposite" s_opposite (ad 37) (fd 37)
  g_steps : mg "steps" = some (.ref (ad 38))
  F_steps : Fun K "steps" "steps" s_steps (ad 38) (fd 38)
  g_figures : mg "figures" = some (.ref (ad 39))
  F_figures : FunD K "figures" "figures" (defArgs s_figures) (defBody s_figures) (defScope s_figures) [.int 6] [] (ad 39) (fd 39)
  g__law_cell_at : mg "_law_cell_at" = some (.ref (ad 40))
  F__law_cell_at : Fun K "_law_cell_at" "_law_cell_at" s__law_cell_at (ad 40) (fd 40)
  g__law_power : mg "_law_power" = some (.ref (ad 41))
  F__law_power : Fun K "_law_power" "_law_power" s__law_power (ad 41) (fd 41)
  g__law_text : mg "_law_text" = some (.ref (ad 42))
  F__law_text : Fun K "_law_text" "_law_text" s__law_text (ad 42) (fd 42)
  g_law : mg "law" = some (.ref (ad 43))
  F_law : Fun K "law" "law" s_law (ad 43) (fd 43)
  u_GREATEST : ∃ tk, mg "GREATEST" = some (.int 1000000000000000000000000000000000000000000000000000000000000 tk)
  u_HIGHEST : ∃ tk, mg "HIGHEST" = some (.int 8 tk)
  q_Ratio : mg "Ratio" = some (.ref (Cof "Ratio"))
  cls_Ratio : Cls K (Cof "Ratio")
  q_Number : mg "Number" = some (.ref (Cof "Number"))
  cls_Number : Cls K (Cof "Number")
  ex : ExT K Cof
section
variable {P : Program} {w : World} {K : PySem.W.Frag} {mg : Str → Option Value} {base : Heap} {Cof : String → Addr} {ad : Nat → Addr} {fd : Nat → FuncData}
theorem B_shared (T : Txt K mg Cof ad fd) : Binds K (fd 0) ["row"] [] := T.F_shared.binds (ps := ["row"]) fun _ _ _ _ _ _ us hl => match us, hl with | [_], _ => rfl
theorem B_told_order (T : Txt K mg Cof ad fd) : Binds K (fd 1) ["left", "right"] [] := T.F_told_order.binds (ps := ["left", "right"]) fun _ _ _ _ _ _ us hl => match us, hl with | [_, _], _ => rfl
theorem B_Ratio___init__ (T : Txt K mg Cof ad fd) : Binds K (fd 2) ["self", "top", "bottom"] [] := binds_full (T.F_Ratio___init__.binds1 (ps := ["self", "top", "bottom"]) 3 1 (by simp) rfl fun _ _ _ _ _ _ _ us its h1 h2 => match us, its, h1, h2 with | [_, _, _], [_], _, _ => ⟨_, rfl, rfl⟩)
theorem D_Ratio___init__ (T : Txt K mg Cof ad fd) : ∃ ds, Vals [.int 1] ds ∧ Binds K (fd 2) ["self", "top", "bottom"] ds := T.F_Ratio___init__.binds1 (ps := ["self", "top", "bottom"]) 2 0 (by simp) rfl fun _ _ _ _ _ _ _ us its h1 h2 => match us, its, h1, h2 with | [_, _], [_], _, _ => ⟨_, rfl, rfl⟩
theorem B_Ratio_plus (T : Txt K mg Cof ad fd) : Binds K (fd 3) ["self", "other"] [] := T.F_Ratio_plus.binds (ps := ["self", "other"]) fun _ _ _ _ _ _ us hl => match us, hl with | [_, _], _ => rfl
theorem B_Ratio_minus (T : Txt K mg Cof ad fd) : Binds K (fd 4) ["self", "other"] [] := T.F_Ratio_minus.binds (ps := ["self", "other"]) fun _ _ _ _ _ _ us hl => match us, hl with | [_, _], _ => rfl
theorem B_Ratio_times (T : Txt K mg Cof ad fd) : Binds K (fd 5) ["self", "other"] [] := T.F_Ratio_times.binds (ps := ["self", "other"]) fun _ _ _ _ _ _ us hl => match us, hl with | [_, _], _ => rfl
theorem B_Ratio_over (T : Txt K mg Cof ad fd) : Binds K (fd 6) ["self", "other"] [] := T.F_Ratio_over.binds (ps := ["self", "other"]) fun _ _ _ _ _ _ us hl => match us, hl with | [_, _], _ => rfl
theorem B_Ratio_against (T : Txt K mg Cof ad fd) : Binds K (fd 7) ["self", "other"] [] := T.F_Ratio_against.binds (ps := ["self", "other"]) fun _ _ _ _ _ _ us hl => match us, hl with | [_, _], _ => rfl
theorem B_Ratio_floor (T : Txt K mg Cof ad fd) : Binds K (fd 8) ["self"] [] := T.F_Ratio_floor.binds (ps := ["self"]) fun _ _ _ _ _ _ us hl => match us, hl with | [_], _ => rfl
theorem B_poly (T : Txt K mg Cof ad fd) : Binds K (fd 9) ["row"] [] := T.F_poly.binds (ps := ["row"]) fun _ _ _ _ _ _ us hl => match us, hl with | [_], _ => rfl
theorem B_degree (T : Txt K mg Cof ad fd) : Binds K (fd 10) ["P"] [] := T.F_degree.binds (ps := ["P"]) fun _ _ _ _ _ _ us hl => match us, hl with | [_], _ => rfl
theorem B_slope (T : Txt K mg Cof ad fd) : Binds K (fd 11) ["P"] [] := T.F_slope.binds (ps := ["P"]) fun _ _ _ _ _ _ us hl => match us, hl with | [_], _ => rfl
theorem B_shrunk (T : Txt K mg Cof ad fd) : Binds K (fd 12) ["P"] [] := T.F_shrunk.binds (ps := ["P"]) fun _ _ _ _ _ _ us hl => match us, hl with | [_], _ => rfl
theorem B_plain (T : Txt K mg Cof ad fd) : Binds K (fd 13) ["P"] [] := T.F_plain.binds (ps := ["P"]) fun _ _ _ _ _ _ us hl => match us, hl with | [_], _ => rfl
theorem B_top_at (T : Txt K mg Cof ad fd) : Binds K (fd 14) ["P", "r"] [] := T.F_top_at.binds (ps := ["P", "r"]) fun _ _ _ _ _ _ us hl => match us, hl with | [_, _], _ => rfl
theorem B_sign_at (T : Txt K mg Cof ad fd) : Binds K (fd 15) ["P", "r"] [] := T.F_sign_at.binds (ps := ["P", "r"]) fun _ _ _ _ _ _ us hl => match us, hl with | [_, _], _ => rfl
theorem B_divided (T : Txt K mg Cof ad fd) : Binds K (fd 16) ["P", "Q"] [] := T.F_divided.binds (ps := ["P", "Q"]) fun _ _ _ _ _ _ us hl => match us, hl with | [_, _], _ => rfl
theorem B_common (T : Txt K mg Cof ad fd) : Binds K (fd 17) ["P", "Q"] [] := T.F_common.binds (ps := ["P", "Q"]) fun _ _ _ _ _ _ us hl => match us, hl with | [_, _], _ => rfl
theorem B_part (T : Txt K mg Cof ad fd) : Binds K (fd 18) ["P", "Q"] [] := T.F_part.binds (ps := ["P", "Q"]) fun _ _ _ _ _ _ us hl => match us, hl with | [_, _], _ => rfl
theorem B_without_squares (T : Txt K mg Cof ad fd) : Binds K (fd 19) ["P"] [] := T.F_without_squares.binds (ps := ["P"]) fun _ _ _ _ _ _ us hl => match us, hl with | [_], _ => rfl
theorem B_row_of (T : Txt K mg Cof ad fd) : Binds K (fd 20) ["P"] [] := T.F_row_of.binds (ps := ["P"]) fun _ _ _ _ _ _ us hl => match us, hl with | [_], _ => rfl
theorem B_changes (T : Txt K mg Cof ad fd) : Binds K (fd 21) ["row", "r"] [] := T.F_changes.binds (ps := ["row", "r"]) fun _ _ _ _ _ _ us hl => match us, hl with | [_, _], _ => rfl
theorem B_count (T : Txt K mg Cof ad fd) : Binds K (fd 22) ["row", "low", "high"] [] := T.F_count.binds (ps := ["row", "low", "high"]) fun _ _ _ _ _ _ us hl => match us, hl with | [_, _, _], _ => rfl
theorem B_bound (T : Txt K mg Cof ad fd) : Binds K (fd 23) ["P"] [] := T.F_bound.binds (ps := ["P"]) fun _ _ _ _ _ _ us hl => match us, hl with | [_], _ => rfl
theorem B_halfway (T : Txt K mg Cof ad fd) : Binds K (fd 24) ["low", "high"] [] := T.F_halfway.binds (ps := ["low", "high"]) fun _ _ _ _ _ _ us hl => match us, hl with | [_, _], _ => rfl
theorem B_narrowed (T : Txt K mg Cof ad fd) : Binds K (fd 25) ["P", "low", "high", "width"] [] := T.F_narrowed.binds (ps := ["P", "low", "high", "width"]) fun _ _ _ _ _ _ us hl => match us, hl with | [_, _, _, _], _ => rfl
theorem B_least (T : Txt K mg Cof ad fd) : Binds K (fd 26) ["P", "low", "high"] [] := T.F_least.binds (ps := ["P", "low", "high"]) fun _ _ _ _ _ _ us hl => match us, hl with | [_, _, _], _ => rfl
theorem B_Number___init__ (T : Txt K mg Cof ad fd) : Binds K (fd 27) ["self", "poly", "low", "high"] [] := T.F_Number___init__.binds (ps := ["self", "poly", "low", "high"]) fun _ _ _ _ _ _ us hl => match us, hl with | [_, _, _, _], _ => rfl
theorem B_look_at_size (T : Txt K mg Cof ad fd) : Binds K (fd 28) ["P"] [] := T.F_look_at_size.binds (ps := ["P"]) fun _ _ _ _ _ _ us hl => match us, hl with | [_], _ => rfl
theorem B_settled (T : Txt K mg Cof ad fd) : Binds K (fd 29) ["P", "low", "high"] [] := T.F_settled.binds (ps := ["P", "low", "high"]) fun _ _ _ _ _ _ us hl => match us, hl with | [_, _, _], _ => rfl
theorem B_number (T : Txt K mg Cof ad fd) : Binds K (fd 30) ["P", "low", "high"] [] := binds_full (T.F_number.binds1 (ps := ["P", "low", "high"]) 3 2 (by simp) rfl fun _ _ _ _ _ _ _ us its h1 h2 => match us, its, h1, h2 with | [_, _, _], [_, _], _, _ => ⟨_, rfl, rfl⟩)
theorem D_number (T : Txt K mg Cof ad fd) : ∃ ds, Vals [.non, .non] ds ∧ Binds K (fd 30) ["P", "low", "high"] ds := T.F_number.binds1 (ps := ["P", "low", "high"]) 1 0 (by simp) rfl fun _ _ _ _ _ _ _ us its h1 h2 => match us, its, h1, h2 with | [_], [_, _], _, _ => ⟨_, rfl, rfl⟩
theorem B_fraction (T : Txt K mg Cof ad fd) : Binds K (fd 31) ["r"] [] := T.F_fraction.binds (ps := ["r"]) fun _ _ _ _ _ _ us hl => match us, hl with | [_], _ => rfl
theorem B_narrow (T : Txt K mg Cof ad fd) : Binds K (fd 32) ["n", "width"] [] := T.F_narrow.binds (ps := ["n", "width"]) fun _ _ _ _ _ _ us hl => match us, hl with | [_, _], _ => rfl
theorem B_against (T : Txt K mg Cof ad fd) : Binds K (fd 33) ["n", "r"] [] := T.F_against.binds (ps := ["n", "r"]) fun _ _ _ _ _ _ us hl => match us, hl with | [_, _], _ => rfl
theorem B_sign_of (T : Txt K mg Cof ad fd) : Binds K (fd 34) ["n"] [] := T.F_sign_of.binds (ps := ["n"]) fun _ _ _ _ _ _ us hl => match us, hl with | [_], _ => rfl
theorem B_of_a_fraction_reckon (T : Txt K mg Cof ad fd) : Binds K (fd 35) ["r"] [] := T.F_of_a_fraction_reckon.binds (ps := ["r"]) fun _ _ _ _ _ _ us hl => match us, hl with | [_], _ => rfl
theorem B_fraction_of (T : Txt K mg Cof ad fd) : Binds K (fd 36) ["n"] [] := T.F_fraction_of.binds (ps := ["n"]) fun _ _ _ _ _ _ us hl => match us, hl with | [_], _ => rfl
theorem B_opposite (T : Txt K mg Cof ad fd) : Binds K (fd 37) ["a"] [] := T.F_opposite.binds (ps := ["a"]) fun _ _ _ _ _ _ us hl => match us, hl with | [_], _ => rfl
theorem B_steps (T : Txt K mg Cof ad fd) : Binds K (fd 38) ["n", "bottom"] [] := T.F_steps.binds (ps := ["n", "bottom"]) fun _ _ _ _ _ _ us hl => match us, hl with | [_, _], _ => rfl
theorem B_figures (T : Txt K mg Cof ad fd) : Binds K (fd 39) ["n", "places"] [] := binds_full (T.F_figures.binds1 (ps := ["n", "places"]) 2 1 (by simp) rfl fun _ _ _ _ _ _ _ us its h1 h2 => match us, its, h1, h2 with | [_, _], [_], _, _ => ⟨_, rfl, rfl⟩)
theorem D_figures (T : Txt K mg Cof ad fd) : ∃ ds, Vals [.int 6] ds ∧ Binds K (fd 39) ["n", "places"] ds := T.F_figures.binds1 (ps := ["n", "places"]) 1 0 (by simp) rfl fun _ _ _ _ _ _ _ us its h1 h2 => match us, its, h1, h2 with | [_], [_], _, _ => ⟨_, rfl, rfl⟩
theorem B__law_cell_at (T : Txt K mg Cof ad fd) : Binds K (fd 40) ["_law_script", "_law_k"] [] := T.F__law_cell_at.binds (ps := ["_law_script", "_law_k"]) fun _ _ _ _ _ _ us hl => match us, hl with | [_, _], _ => rfl
theorem B__law_power (T : Txt K mg Cof ad fd) : Binds K (fd 41) ["_law_places"] [] := T.F__law_power.binds (ps := ["_law_places"]) fun _ _ _ _ _ _ us hl => match us, hl with | [_], _ => rfl
theorem B__law_text (T : Txt K mg Cof ad fd) : Binds K (fd 42) ["_law_top", "_law_bottom", "_law_places"] [] := T.F__law_text.binds (ps := ["_law_top", "_law_bottom", "_law_places"]) fun _ _ _ _ _ _ us hl => match us, hl with | [_, _, _], _ => rfl
theorem B_law (T : Txt K mg Cof ad fd) : Binds K (fd 43) ["_law_script"] [] := T.F_law.binds (ps := ["_law_script"]) fun _ _ _ _ _ _ us hl => match us, hl with | [_], _ => rfl
theorem ok_shared (T : Txt K mg Cof ad fd) : FnOk P w K mg base CX0 1 (ad 0) (fd 0) ["row"] (sp_shared K Cof) := by
  have nd := sc_shared.nd
  refine T.F_shared.ok sc_shared (fun vs H Q E h => len_shared h) (fun cdv A outer s H vs Q E hr h => ⟨t_shared K Cof E, ?_, rd_shared h⟩)
  exact pss_cons (ps_set (i := 1) nd rfl (by first | exact Or.inl rfl | exact Or.inr rfl) (pe_int))
       (pss_cons (ps_for PassesOwn.never rfl (pi_list (pv 0)) (pg_name (i := 2) nd rfl (by first | exact Or.inl rfl | exact Or.inr rfl)) (pss_one (ps_while PassesOwn.never (pt_cmpR op_ne (pv 2) (pe_int) (nomark _)) (pss_cons (ps_set (i := 3) nd rfl (by first | exact Or.inl rfl | exact Or.inr rfl) (pe_op op_modN (pv 1) (pv 2)))
       (pss_cons (ps_set (i := 1) nd rfl (by first | exact Or.inl rfl | exact Or.inr rfl) (pv 2))
       (pss_one (ps_set (i := 2) nd rfl (by first | exact Or.inl rfl | exact Or.inr rfl) (pv 3))))))))
       (pss_one (ps_ret (pe_callB call_abs (by rfl) T.z_abs (by decide +kernel) (pa_cons (pv 1) (pa_nil))))))
theorem ok_told_order (T : Txt K mg Cof ad fd) : FnOk P w K mg base CX0 1 (ad 1) (fd 1) ["left", "right"] (sp_told_order K Cof) := by
  have nd := sc_told_order.nd
  refine T.F_told_order.ok sc_told_order (fun vs H Q E h => len_told_order h) (fun cdv A outer s H vs Q E hr h => ⟨t_told_order K Cof E, ?_, rd_told_order h⟩)
  exact pss_cons (ps_if (pt_cmpR op_lt (pv 0) (pv 1) (nomark _)) (pss_one (ps_ret (pe_un un_neg (pe_int)))) (pss_nil))
       (pss_one (ps_ret (pe_callTy call_int1 (by rfl) T.z_int (by decide +kernel) (pa_cons (pe_cmpR op_gt (pv 0) (pv 1) (nomark _)) (pa_nil)))))
theorem ok_Ratio___init__ (T : Txt K mg Cof ad fd) : FnOk P w K mg base CX0 2 (ad 2) (fd 2) ["self", "top", "bottom"] (sp_Ratio___init__ K Cof) := by
  have G_shared := ok_shared (P := P) (w := w) (base := base) T
  have B_shared := B_shared T
  have nd := sc_Ratio___init__.nd
  refine okN T.F_Ratio___init__ sc_Ratio___init__ (fun vs H Q E h => len_Ratio___init__ h) (fun cdv A outer s H vs Q E hr h => ⟨t_Ratio___init__ K Cof E, ?_, rd_Ratio___init__ T.ex h⟩)
  exact pss_cons (ps_if (pt_cmpR op_eq (pv 2) (pe_int) (nomark _)) (pss_one (ps_never)) (pss_nil))
       (pss_cons (ps_set (i := 3) nd rfl (by first | exact Or.inl rfl | exact Or.inr rfl) (pe_call G_shared (hr.mono (by decide)) (by rfl) T.g_shared T.F_shared.kp B_shared .nil pass0 (pa_cons (pe_lst (pa_cons (pv 1) (pa_cons (pv 2) (pa_nil)))) (pa_nil))))
       (pss_cut (ps_if (pt_cmpR op_lt (pv 2) (pe_int) (nomark _)) (pss_one (ps_set (i := 3) nd rfl (by first | exact Or.inl rfl | exact Or.inr rfl) (pe_un un_neg (pv 3)))) (pss_nil))
       (pss_cons (ps_fld (pv 0) (pe_op op_fdivA (pv 1) (pv 3)) rfl)
       (pss_one (ps_fld (pv 0) (pe_op op_fdivA (pv 2) (pv 3)) rfl)))))
theorem ok_Ratio_plus (T : Txt K mg Cof ad fd) : FnOk P w K mg base CX0 4 (ad 3) (fd 3) ["self", "other"] (sp_Ratio_plus K Cof) := by
  have G_Ratio___init__ := ok_Ratio___init__ (P := P) (w := w) (base := base) T
  have B_Ratio___init__ := B_Ratio___init__ T
  have nd := sc_Ratio_plus.nd
  refine T.F_Ratio_plus.ok sc_Ratio_plus (fun vs H Q E h => len_Ratio_plus h) (fun cdv A outer s H vs Q E hr h => ⟨t_Ratio_plus K Cof E, ?_, rd_Ratio_plus T.ex h⟩)
  exact pss_one (ps_ret (pe_make T.mk_Ratio G_Ratio___init__ (hr.mono (by decide)) (by rfl) T.q_Ratio B_Ratio___init__ .nil pass0 (pa_cons (pe_op op_add (pe_op op_mulX (pe_fld (pv 0) rfl) (pe_fld (pv 1) rfl)) (pe_op op_mulX (pe_fld (pv 1) rfl) (pe_fld (pv 0) rfl))) (pa_cons (pe_op op_mulX (pe_fld (pv 0) rfl) (pe_fld (pv 1) rfl)) (pa_nil)))))
theorem ok_Ratio_minus (T : Txt K mg Cof ad fd) : FnOk P w K mg base CX0 4 (ad 4) (fd 4) ["self", "other"] (sp_Ratio_minus K Cof) := by
  have G_Ratio___init__ := ok_Ratio___init__ (P := P) (w := w) (base := base) T
  have B_Ratio___init__ := B_Ratio___init__ T
  have nd := sc_Ratio_minus.nd
  refine T.F_Ratio_minus.ok sc_Ratio_minus (fun vs H Q E h => len_Ratio_minus h) (fun cdv A outer s H vs Q E hr h => ⟨t_Ratio_minus K Cof E, ?_, rd_Ratio_minus T.ex h⟩)
  exact pss_one (ps_ret (pe_make T.mk_Ratio G_Ratio___init__ (hr.mono (by decide)) (by rfl) T.q_Ratio B_Ratio___init__ .nil pass0 (pa_cons (pe_op op_sub (pe_op op_mulX (pe_fld (pv 0) rfl) (pe_fld (pv 1) rfl)) (pe_op op_mulX (pe_fld (pv 1) rfl) (pe_fld (pv 0) rfl))) (pa_cons (pe_op op_mulX (pe_fld (pv 0) rfl) (pe_fld (pv 1) rfl)) (pa_nil)))))
theorem ok_Ratio_times (T : Txt K mg Cof ad fd) : FnOk P w K mg base CX0 4 (ad 5) (fd 5) ["self", "other"] (sp_Ratio_times K Cof) := by
  have G_Ratio___init__ := ok_Ratio___init__ (P := P) (w := w) (base := base) T
  have B_Ratio___init__ := B_Ratio___init__ T
  have nd := sc_Ratio_times.nd
  refine T.F_Ratio_times.ok sc_Ratio_times (fun vs H Q E h => len_Ratio_times h) (fun cdv A outer s H vs Q E hr h => ⟨t_Ratio_times K Cof E, ?_, rd_Ratio_times T.ex h⟩)
  exact pss_one (ps_ret (pe_make T.mk_Ratio G_Ratio___init__ (hr.mono (by decide)) (by rfl) T.q_Ratio B_Ratio___init__ .nil pass0 (pa_cons (pe_op op_mulX (pe_fld (pv 0) rfl) (pe_fld (pv 1) rfl)) (pa_cons (pe_op op_mulX (pe_fld (pv 0) rfl) (pe_fld (pv 1) rfl)) (pa_nil)))))
theorem ok_Ratio_over (T : Txt K mg Cof ad fd) : FnOk P w K mg base CX0 4 (ad 6) (fd 6) ["self", "other"] (sp_Ratio_over K Cof) := by
  have G_Ratio___init__ := ok_Ratio___init__ (P := P) (w := w) (base := base) T
  have B_Ratio___init__ := B_Ratio___init__ T
  have nd := sc_Ratio_over.nd
  refine T.F_Ratio_over.ok sc_Ratio_over (fun vs H Q E h => len_Ratio_over h) (fun cdv A outer s H vs Q E hr h => ⟨t_Ratio_over K Cof E, ?_, rd_Ratio_over T.ex h⟩)
  exact pss_cons (ps_if (pt_cmpR op_eq (pe_fld (pv 1) rfl) (pe_int) (nomark _)) (pss_one (ps_never)) (pss_nil))
       (pss_one (ps_ret (pe_make T.mk_Ratio G_Ratio___init__ (hr.mono (by decide)) (by rfl) T.q_Ratio B_Ratio___init__ .nil pass0 (pa_cons (pe_op op_mulX (pe_fld (pv 0) rfl) (pe_fld (pv 1) rfl)) (pa_cons (pe_op op_mulX (pe_fld (pv 0) rfl) (pe_fld (pv 1) rfl)) (pa_nil))))))
theorem ok_Ratio_against (T : Txt K mg Cof ad fd) : FnOk P w K mg base CX0 2 (ad 7) (fd 7) ["self", "other"] (sp_Ratio_against K Cof) := by
  have G_told_order := ok_told_order (P := P) (w := w) (base := base) T
  have B_told_order := B_told_order T
  have nd := sc_Ratio_against.nd
  refine T.F_Ratio_against.ok sc_Ratio_against (fun vs H Q E h => len_Ratio_against h) (fun cdv A outer s H vs Q E hr h => ⟨t_Ratio_against K Cof E, ?_, rd_Ratio_against T.ex h⟩)
  exact pss_one (ps_ret (pe_call G_told_order (hr.mono (by decide)) (by rfl) T.g_told_order T.F_told_order.kp B_told_order .nil pass0 (pa_cons (pe_op op_mulX (pe_fld (pv 0) rfl) (pe_fld (pv 1) rfl)) (pa_cons (pe_op op_mulX (pe_fld (pv 1) rfl) (pe_fld (pv 0) rfl)) (pa_nil)))))
theorem ok_Ratio_floor (T : Txt K mg Cof ad fd) : FnOk P w K mg base CX0 1 (ad 8) (fd 8) ["self"] (sp_Ratio_floor K Cof) := by
  have nd := sc_Ratio_floor.nd
  refine T.F_Ratio_floor.ok sc_Ratio_floor (fun vs H Q E h => len_Ratio_floor h) (fun cdv A outer s H vs Q E hr h => ⟨t_Ratio_floor K Cof E, ?_, rd_Ratio_floor T.ex h⟩)
  exact pss_one (ps_ret (pe_op op_fdivA (pe_fld (pv 0) rfl) (pe_fld (pv 0) rfl)))
theorem ok_poly (T : Txt K mg Cof ad fd) : FnOk P w K mg base CX0 1 (ad 9) (fd 9) ["row"] (sp_poly K Cof) := by
  have nd := sc_poly.nd
  refine T.F_poly.ok sc_poly (fun vs H Q E h => len_poly h) (fun cdv A outer s H vs Q E hr h => ⟨t_poly K Cof E, ?_, rd_poly h⟩)
  exact pss_cons (ps_set (i := 1) nd rfl (by first | exact Or.inl rfl | exact Or.inr rfl) (pe_callB call_len_seq (by rfl) T.z_len (by decide +kernel) (pa_cons (pv 0) (pa_nil))))
       (pss_cons (ps_while PassesOwn.never (PW.pt (pw_and (pt_cmpR op_gt (pv 1) (pe_int) (nomark _)) (pw_and1 (pt_cmpR op_eq (pe_ix ix_list (pv 0) (pe_op op_sub (pv 1) (pe_int)) (fun _ _ => rfl)) (pe_int) (nomark _))))) (pss_one (ps_set (i := 1) nd rfl (by first | exact Or.inl rfl | exact Or.inr rfl) (pe_op op_sub (pv 1) (pe_int)))))
       (pss_one (ps_ret (pe_slice sl_list (pv 0) (po_none) (po_some (pv 1))))))
theorem ok_degree (T : Txt K mg Cof ad fd) : FnOk P w K mg base CX0 1 (ad 10) (fd 10) ["P"] (sp_degree K Cof) := by
  have nd := sc_degree.nd
  refine T.F_degree.ok sc_degree (fun vs H Q E h => len_degree h) (fun cdv A outer s H vs Q E hr h => ⟨t_degree K Cof E, ?_, rd_degree h⟩)
  exact pss_one (ps_ret (pe_op op_sub (pe_callB call_len_seq (by rfl) T.z_len (by decide +kernel) (pa_cons (pv 0) (pa_nil))) (pe_int)))
theorem ok_slope (T : Txt K mg Cof ad fd) : FnOk P w K mg base CX0 1 (ad 11) (fd 11) ["P"] (sp_slope K Cof) := by
  have nd := sc_slope.nd
  refine T.F_slope.ok sc_slope (fun vs H Q E h => len_slope h) (fun cdv A outer s H vs Q E hr h => ⟨t_slope K Cof E, ?_, rd_slope h⟩)
  exact pss_one (ps_ret (pe_lc (own := [("k", 1)]) (by rfl) nd (pi_range2 (by rfl) T.z_range (pa_cons (pe_int) (pa_cons (pe_callB call_len_seq (by rfl) T.z_len (by decide +kernel) (pa_cons (pv 0) (pa_nil))) (pa_nil)))) (blkOk_by (own := [("k", 1)]) (N := ["P", "k"]) (sc := defScope s_slope) (by decide +kernel)) (fun _ _ _ _ _ => pg_name (i := 1) nd rfl (by first | exact Or.inl rfl | exact Or.inr rfl)) (fun _ _ _ _ _ => pts_nil) (fun _ _ _ _ _ => pe_op op_mulX (pv 1) (pe_ix ix_list (pv 0) (pv 1) (fun _ _ => rfl)))))
theorem ok_shrunk (T : Txt K mg Cof ad fd) : FnOk P w K mg base CX0 2 (ad 12) (fd 12) ["P"] (sp_shrunk K Cof) := by
  have G_shared := ok_shared (P := P) (w := w) (base := base) T
  have B_shared := B_shared T
  have nd := sc_shrunk.nd
  refine T.F_shrunk.ok sc_shrunk (fun vs H Q E h => len_shrunk h) (fun cdv A outer s H vs Q E hr h => ⟨t_shrunk K Cof E, ?_, rd_shrunk h⟩)
  exact pss_cons (ps_set (i := 1) nd rfl (by first | exact Or.inl rfl | exact Or.inr rfl) (pe_call G_shared (hr.mono (by decide)) (by rfl) T.g_shared T.F_shared.kp B_shared .nil pass0 (pa_cons (pv 0) (pa_nil))))
       (pss_one (ps_ret (pe_lc (own := [("one", 2)]) (by rfl) nd (pi_list (pv 0)) (blkOk_by (own := [("one", 2)]) (N := ["P", "part", "one"]) (sc := defScope s_shrunk) (by decide +kernel)) (fun _ _ _ _ _ => pg_name (i := 2) nd rfl (by first | exact Or.inl rfl | exact Or.inr rfl)) (fun _ _ _ _ _ => pts_nil) (fun _ _ _ _ _ => pe_op op_fdivA (pv 2) (pv 1)))))
theorem ok_plain (T : Txt K mg Cof ad fd) : FnOk P w K mg base CX0 3 (ad 13) (fd 13) ["P"] (sp_plain K Cof) := by
  have G_shrunk := ok_shrunk (P := P) (w := w) (base := base) T
  have B_shrunk := B_shrunk T
  have nd := sc_plain.nd
  refine T.F_plain.ok sc_plain (fun vs H Q E h => len_plain h) (fun cdv A outer s H vs Q E hr h => ⟨t_plain K Cof E, ?_, rd_plain h⟩)
  exact pss_cons (ps_set (i := 1) nd rfl (by first | exact Or.inl rfl | exact Or.inr rfl) (pe_call G_shrunk (hr.mono (by decide)) (by rfl) T.g_shrunk T.F_shrunk.kp B_shrunk .nil pass0 (pa_cons (pv 0) (pa_nil))))
       (pss_cons (ps_if (PW.pt (pw_and (pt_tru (pv 1)) (pw_and1 (pt_cmpR op_lt (pe_ix ix_list (pv 1) (pe_un un_neg (pe_int)) (fun _ _ => rfl)) (pe_int) (nomark _))))) (pss_one (ps_ret (pe_lc (own := [("one", 2)]) (by rfl) nd (pi_list (pv 1)) (blkOk_by (own := [("one", 2)]) (N := ["P", "row", "one"]) (sc := defScope s_plain) (by decide +kernel)) (fun _ _ _ _ _ => pg_name (i := 2) nd rfl (by first | exact Or.inl rfl | exact Or.inr rfl)) (fun _ _ _ _ _ => pts_nil) (fun _ _ _ _ _ => pe_un un_neg (pv 2))))) (pss_nil))
       (pss_one (ps_ret (pv 1))))
theorem ok_top_at (T : Txt K mg Cof ad fd) : FnOk P w K mg base CX0 1 (ad 14) (fd 14) ["P", "r"] (sp_top_at K Cof) := by
  have nd := sc_top_at.nd
  refine T.F_top_at.ok sc_top_at (fun vs H Q E h => len_top_at h) (fun cdv A outer s H vs Q E hr h => ⟨t_top_at K Cof E, ?_, rd_top_at T.ex h⟩)
  exact pss_cons (ps_set (i := 2) nd rfl (by first | exact Or.inl rfl | exact Or.inr rfl) (pe_int))
       (pss_cons (ps_set (i := 3) nd rfl (by first | exact Or.inl rfl | exact Or.inr rfl) (pe_int))
       (pss_cons (ps_for PassesOwn.never rfl (pi_reversed (by rfl) T.z_reversed (pa_cons (pv 0) (pa_nil))) (pg_name (i := 4) nd rfl (by first | exact Or.inl rfl | exact Or.inr rfl)) (pss_cons (ps_set (i := 2) nd rfl (by first | exact Or.inl rfl | exact Or.inr rfl) (pe_op op_add (pe_op op_mulX (pv 2) (pe_fld (pv 1) rfl)) (pe_op op_mulX (pv 4) (pv 3))))
       (pss_one (ps_set (i := 3) nd rfl (by first | exact Or.inl rfl | exact Or.inr rfl) (pe_op op_mulX (pv 3) (pe_fld (pv 1) rfl))))))
       (pss_one (ps_ret (pv 2)))))
theorem ok_sign_at (T : Txt K mg Cof ad fd) : FnOk P w K mg base CX0 2 (ad 15) (fd 15) ["P", "r"] (sp_sign_at K Cof) := by
  have G_told_order := ok_told_order (P := P) (w := w) (base := base) T
  have B_told_order := B_told_order T
  have G_top_at := ok_top_at (P := P) (w := w) (base := base) T
  have B_top_at := B_top_at T
  have nd := sc_sign_at.nd
  refine T.F_sign_at.ok sc_sign_at (fun vs H Q E h => len_sign_at h) (fun cdv A outer s H vs Q E hr h => ⟨t_sign_at K Cof E, ?_, rd_sign_at h⟩)
  exact pss_one (ps_ret (pe_call G_told_order (hr.mono (by decide)) (by rfl) T.g_told_order T.F_told_order.kp B_told_order .nil pass0 (pa_cons (pe_call G_top_at (hr.mono (by decide)) (by rfl) T.g_top_at T.F_top_at.kp B_top_at .nil pass0 (pa_cons (pv 0) (pa_cons (pv 1) (pa_nil)))) (pa_cons (pe_int) (pa_nil)))))
theorem ok_divided (T : Txt K mg Cof ad fd) : FnOk P w K mg base CX0 2 (ad 16) (fd 16) ["P", "Q"] (sp_divided K Cof) := by
  have G_degree := ok_degree (P := P) (w := w) (base := base) T
  have B_degree := B_degree T
  have G_poly := ok_poly (P := P) (w := w) (base := base) T
  have B_poly := B_poly T
  have nd := sc_divided.nd
  refine T.F_divided.ok sc_divided (fun vs H Q E h => len_divided h) (fun cdv A outer s H vs Q E hr h => ⟨t_divided K Cof E, ?_, rd_divided h⟩)
  exact pss_cons (ps_if (pt_cmpR (op_eqD hr.units) (pv 1) (pe_lst (pa_nil)) (nomark _)) (pss_dead) (pss_nil))
       (pss_cons (ps_set (i := 2) nd rfl (by first | exact Or.inl rfl | exact Or.inr rfl) (pe_op op_sub (pe_call G_degree (hr.mono (by decide)) (by rfl) T.g_degree T.F_degree.kp B_degree .nil pass0 (pa_cons (pv 0) (pa_nil))) (pe_call G_degree (hr.mono (by decide)) (by rfl) T.g_degree T.F_degree.kp B_degree .nil pass0 (pa_cons (pv 1) (pa_nil)))))
       (pss_cons (ps_if (pt_cmpR op_lt (pv 2) (pe_int) (nomark _)) (pss_one (ps_ret (pe_tup (pa_cons (pe_int) (pa_cons (pe_lst (pa_nil)) (pa_cons (pe_callTy call_list_of (by rfl) T.z_list (by decide +kernel) (pa_cons (pv 0) (pa_nil))) (pa_nil))))))) (pss_nil))
       (pss_cons (ps_set (i := 3) nd rfl (by first | exact Or.inl rfl | exact Or.inr rfl) (pe_int))
       (pss_cons (ps_for PassesOwn.never rfl (pi_range1 (by rfl) T.z_range (pa_cons (pe_op op_add (pv 2) (pe_int)) (pa_nil))) (pg_name (i := 4) nd rfl (by first | exact Or.inl rfl | exact Or.inr rfl)) (pss_one (ps_set (i := 3) nd rfl (by first | exact Or.inl rfl | exact Or.inr rfl) (pe_op op_mulX (pv 3) (pe_callB call_abs (by rfl) T.z_abs (by decide +kernel) (pa_cons (pe_ix ix_list (pv 1) (pe_un un_neg (pe_int)) (fun _ _ => rfl)) (pa_nil)))))))
       (pss_cons (ps_setLc (i := 5) (own := [("one", 6)]) (by rfl) nd rfl rfl (sw_true rfl rfl rfl (by decide +kernel)) (pi_list (pv 0)) (blkOk_by (own := [("one", 6)]) (N := ["P", "Q", "gap", "factor", "k", "rest", "one", "quotient", "many", "place"]) (sc := defScope s_divided) (by decide +kernel)) (fun _ _ _ _ _ => pg_name (i := 6) nd rfl (by first | exact Or.inl rfl | exact Or.inr rfl)) (fun _ _ _ _ _ => pts_nil) (fun _ _ _ _ _ => pe_op op_mulX (pv 6) (pv 3)))
       (pss_cons (ps_setLc (i := 7) (own := [("k", 4)]) (by rfl) nd rfl rfl (sw_true rfl rfl rfl (by decide +kernel)) (pi_range1 (by rfl) T.z_range (pa_cons (pe_op op_add (pv 2) (pe_int)) (pa_nil))) (blkOk_by (own := [("k", 4)]) (N := ["P", "Q", "gap", "factor", "k", "rest", "one", "quotient", "many", "place"]) (sc := defScope s_divided) (by decide +kernel)) (fun _ _ _ _ _ => pg_name (i := 4) nd rfl (by first | exact Or.inl rfl | exact Or.inr rfl)) (fun _ _ _ _ _ => pts_nil) (fun _ _ _ _ _ => pe_int))
       (pss_cons (ps_for PassesOwn.never rfl (pi_revR (by rfl) T.z_reversed (prg_1 (by rfl) T.z_range (pe_op op_add (pv 2) (pe_int)))) (pg_name (i := 4) nd rfl (by first | exact Or.inl rfl | exact Or.inr rfl)) (pss_cons (ps_set (i := 8) nd rfl (by first | exact Or.inl rfl | exact Or.inr rfl) (pe_op op_fdivA (pe_ix ix_list (pv 5) (pe_op op_add (pv 4) (pe_call G_degree (hr.mono (by decide)) (by rfl) T.g_degree T.F_degree.kp B_degree .nil pass0 (pa_cons (pv 1) (pa_nil)))) (fun _ _ => rfl)) (pe_ix ix_list (pv 1) (pe_un un_neg (pe_int)) (fun _ _ => rfl))))
       (pss_cons (ps_asg (pv 8) (pg_sub (pv 7) (pv 4) set_list))
       (pss_one (ps_for PassesOwn.never rfl (pi_enum (by rfl) T.z_enumerate (pa_cons (pv 1) (pa_nil))) (pg_tup rfl (pgs_cons (pg_name (i := 9) nd rfl (by first | exact Or.inl rfl | exact Or.inr rfl)) (pgs_cons (pg_name (i := 6) nd rfl (by first | exact Or.inl rfl | exact Or.inr rfl)) (pgs_nil)))) (pss_one (ps_asg (pe_op op_sub (pe_ix ix_list (pv 5) (pe_op op_add (pv 4) (pv 9)) (fun _ _ => rfl)) (pe_op op_mulX (pv 8) (pv 6))) (pg_sub (pv 5) (pe_op op_add (pv 4) (pv 9)) set_list))))))))
       (pss_one (ps_ret (pe_tup (pa_cons (pv 3) (pa_cons (pe_call G_poly (hr.mono (by decide)) (by rfl) T.g_poly T.F_poly.kp B_poly .nil pass0 (pa_cons (pv 7) (pa_nil))) (pa_cons (pe_call G_poly (hr.mono (by decide)) (by rfl) T.g_poly T.F_poly.kp B_poly .nil pass0 (pa_cons (pv 5) (pa_nil))) (pa_nil))))))))))))))
theorem ok_common (T : Txt K mg Cof ad fd) : FnOk P w K mg base CX0 4 (ad 17) (fd 17) ["P", "Q"] (sp_common K Cof) := by
  have G_divided := ok_divided (P := P) (w := w) (base := base) T
  have B_divided := B_divided T
  have G_plain := ok_plain (P := P) (w := w) (base := base) T
  have B_plain := B_plain T
  have nd := sc_common.nd
  refine T.F_common.ok sc_common (fun vs H Q E h => len_common h) (fun cdv A outer s H vs Q E hr h => ⟨t_common K Cof E, ?_, rd_common h⟩)
  exact pss_cons (ps_set (i := 2) nd rfl (by first | exact Or.inl rfl | exact Or.inr rfl) (pe_call G_plain (hr.mono (by decide)) (by rfl) T.g_plain T.F_plain.kp B_plain .nil pass0 (pa_cons (pv 0) (pa_nil))))
       (pss_cons (ps_set (i := 3) nd rfl (by first | exact Or.inl rfl | exact Or.inr rfl) (pe_call G_plain (hr.mono (by decide)) (by rfl) T.g_plain T.F_plain.kp B_plain .nil pass0 (pa_cons (pv 1) (pa_nil))))
       (pss_cons (ps_while PassesOwn.never (pt_cmpR (op_neD hr.units) (pv 3) (pe_lst (pa_nil)) (nomark _)) (pss_cons (ps_set (i := 4) nd rfl (by first | exact Or.inl rfl | exact Or.inr rfl) (pe_ix ix_tup (pe_call G_divided (hr.mono (by decide)) (by rfl) T.g_divided T.F_divided.kp B_divided .nil pass0 (pa_cons (pv 2) (pa_cons (pv 3) (pa_nil)))) (pe_int) (fun _ _ => rfl)))
       (pss_cons (ps_set (i := 2) nd rfl (by first | exact Or.inl rfl | exact Or.inr rfl) (pv 3))
       (pss_one (ps_set (i := 3) nd rfl (by first | exact Or.inl rfl | exact Or.inr rfl) (pe_call G_plain (hr.mono (by decide)) (by rfl) T.g_plain T.F_plain.kp B_plain .nil pass0 (pa_cons (pv 4) (pa_nil))))))))
       (pss_one (ps_ret (pv 2)))))
theorem ok_part (T : Txt K mg Cof ad fd) : FnOk P w K mg base CX0 4 (ad 18) (fd 18) ["P", "Q"] (sp_part K Cof) := by
  have G_divided := ok_divided (P := P) (w := w) (base := base) T
  have B_divided := B_divided T
  have G_plain := ok_plain (P := P) (w := w) (base := base) T
  have B_plain := B_plain T
  have nd := sc_part.nd
  refine T.F_part.ok sc_part (fun vs H Q E h => len_part h) (fun cdv A outer s H vs Q E hr h => ⟨t_part K Cof E, ?_, rd_part h⟩)
  exact pss_cons (ps_set (i := 2) nd rfl (by first | exact Or.inl rfl | exact Or.inr rfl) (pe_call G_divided (hr.mono (by decide)) (by rfl) T.g_divided T.F_divided.kp B_divided .nil pass0 (pa_cons (pv 0) (pa_cons (pv 1) (pa_nil)))))
       (pss_cons (ps_if (pt_cmpR (op_neD hr.units) (pe_ix ix_tup (pv 2) (pe_int) (fun _ _ => rfl)) (pe_lst (pa_nil)) (nomark _)) (pss_dead) (pss_nil))
       (pss_one (ps_ret (pe_call G_plain (hr.mono (by decide)) (by rfl) T.g_plain T.F_plain.kp B_plain .nil pass0 (pa_cons (pe_ix ix_tup (pv 2) (pe_int) (fun _ _ => rfl)) (pa_nil))))))
theorem ok_without_squares (T : Txt K mg Cof ad fd) : FnOk P w K mg base CX0 5 (ad 19) (fd 19) ["P"] (sp_without_squares K Cof) := by
  have G_common := ok_common (P := P) (w := w) (base := base) T
  have B_common := B_common T
  have G_part := ok_part (P := P) (w := w) (base := base) T
  have B_part := B_part T
  have G_slope := ok_slope (P := P) (w := w) (base := base) T
  have B_slope := B_slope T
  have nd := sc_without_squares.nd
  refine T.F_without_squares.ok sc_without_squares (fun vs H Q E h => len_without_squares h) (fun cdv A outer s H vs Q E hr h => ⟨t_without_squares K Cof E, ?_, rd_without_squares h⟩)
  exact pss_cons (ps_if (pt_cmpR (op_eqD hr.units) (pv 0) (pe_lst (pa_nil)) (nomark _)) (pss_one (ps_ret (pe_lst (pa_nil)))) (pss_nil))
       (pss_one (ps_ret (pe_call G_part (hr.mono (by decide)) (by rfl) T.g_part T.F_part.kp B_part .nil pass0 (pa_cons (pv 0) (pa_cons (pe_call G_common (hr.mono (by decide)) (by rfl) T.g_common T.F_common.kp B_common .nil pass0 (pa_cons (pv 0) (pa_cons (pe_call G_slope (hr.mono (by decide)) (by rfl) T.g_slope T.F_slope.kp B_slope .nil pass0 (pa_cons (pv 0) (pa_nil))) (pa_nil)))) (pa_nil))))))
theorem ok_row_of (T : Txt K mg Cof ad fd) : FnOk P w K mg base CX0 3 (ad 20) (fd 20) ["P"] (sp_row_of K Cof) := by
  have G_divided := ok_divided (P := P) (w := w) (base := base) T
  have B_divided := B_divided T
  have G_shrunk := ok_shrunk (P := P) (w := w) (base := base) T
  have B_shrunk := B_shrunk T
  have G_slope := ok_slope (P := P) (w := w) (base := base) T
  have B_slope := B_slope T
  have nd := sc_row_of.nd
  refine T.F_row_of.ok sc_row_of (fun vs H Q E h => len_row_of h) (fun cdv A outer s H vs Q E hr h => ⟨t_row_of K Cof E, ?_, rd_row_of h⟩)
  exact pss_cons (ps_if (pt_cmpR (op_eqD hr.units) (pv 0) (pe_lst (pa_nil)) (nomark _)) (pss_one (ps_ret (pe_lst (pa_nil)))) (pss_nil))
       (pss_cons (ps_set (i := 1) nd rfl (by first | exact Or.inl rfl | exact Or.inr rfl) (pe_lst (pa_cons (pe_call G_shrunk (hr.mono (by decide)) (by rfl) T.g_shrunk T.F_shrunk.kp B_shrunk .nil pass0 (pa_cons (pv 0) (pa_nil))) (pa_nil))))
       (pss_cons (ps_set (i := 2) nd rfl (by first | exact Or.inl rfl | exact Or.inr rfl) (pe_call G_shrunk (hr.mono (by decide)) (by rfl) T.g_shrunk T.F_shrunk.kp B_shrunk .nil pass0 (pa_cons (pe_call G_slope (hr.mono (by decide)) (by rfl) T.g_slope T.F_slope.kp B_slope .nil pass0 (pa_cons (pv 0) (pa_nil))) (pa_nil))))
       (pss_cons (ps_while PassesOwn.never (pt_cmpR (op_neD hr.units) (pv 2) (pe_lst (pa_nil)) (nomark _)) (pss_cons (ps_expr (pe_bm PySem.F.plainAttrs_list PySem.F.slot_list_append PySem.F.type_list_append mt_append (pv 1) (pa_cons (pv 2) (pa_nil))))
       (pss_cons (ps_set (i := 3) nd rfl (by first | exact Or.inl rfl | exact Or.inr rfl) (pe_ix ix_tup (pe_call G_divided (hr.mono (by decide)) (by rfl) T.g_divided T.F_divided.kp B_divided .nil pass0 (pa_cons (pe_ix ix_list (pv 1) (pe_un un_neg (pe_int)) (fun _ _ => rfl)) (pa_cons (pe_ix ix_list (pv 1) (pe_un un_neg (pe_int)) (fun _ _ => rfl)) (pa_nil)))) (pe_int) (fun _ _ => rfl)))
       (pss_one (ps_set (i := 2) nd rfl (by first | exact Or.inl rfl | exact Or.inr rfl) (pe_call G_shrunk (hr.mono (by decide)) (by rfl) T.g_shrunk T.F_shrunk.kp B_shrunk .nil pass0 (pa_cons (pe_lc (own := [("one", 4)]) (by rfl) nd (pi_list (pv 3)) (blkOk_by (own := [("one", 4)]) (N := ["P", "row", "later", "rest", "one"]) (sc := defScope s_row_of) (by decide +kernel)) (fun _ _ _ _ _ => pg_name (i := 4) nd rfl (by first | exact Or.inl rfl | exact Or.inr rfl)) (fun _ _ _ _ _ => pts_nil) (fun _ _ _ _ _ => pe_op op_sub (pe_int) (pv 4))) (pa_nil))))))))
       (pss_one (ps_ret (pv 1))))))
theorem ok_changes (T : Txt K mg Cof ad fd) : FnOk P w K mg base CX0 3 (ad 21) (fd 21) ["row", "r"] (sp_changes K Cof) := by
  have G_sign_at := ok_sign_at (P := P) (w := w) (base := base) T
  have B_sign_at := B_sign_at T
  have nd := sc_changes.nd
  refine T.F_changes.ok sc_changes (fun vs H Q E h => len_changes h) (fun cdv A outer s H vs Q E hr h => ⟨t_changes K Cof E, ?_, rd_changes h⟩)
  exact pss_cons (ps_set (i := 2) nd rfl (by first | exact Or.inl rfl | exact Or.inr rfl) (pe_int))
       (pss_cons (ps_set (i := 3) nd rfl (by first | exact Or.inl rfl | exact Or.inr rfl) (pe_int))
       (pss_cons (ps_for PassesOwn.never rfl (pi_list (pv 0)) (pg_name (i := 4) nd rfl (by first | exact Or.inl rfl | exact Or.inr rfl)) (pss_cons (ps_set (i := 5) nd rfl (by first | exact Or.inl rfl | exact Or.inr rfl) (pe_call G_sign_at (hr.mono (by decide)) (by rfl) T.g_sign_at T.F_sign_at.kp B_sign_at .nil pass0 (pa_cons (pv 4) (pa_cons (pv 1) (pa_nil)))))
       (pss_one (ps_if (pt_cmpR op_ne (pv 5) (pe_int) (nomark _)) (pss_cut (ps_if (pt_cmpR op_eq (pv 3) (pe_op op_sub (pe_int) (pv 5)) (nomark _)) (pss_one (ps_set (i := 2) nd rfl (by first | exact Or.inl rfl | exact Or.inr rfl) (pe_op op_add (pv 2) (pe_int)))) (pss_nil))
       (pss_one (ps_set (i := 3) nd rfl (by first | exact Or.inl rfl | exact Or.inr rfl) (pv 5)))) (pss_nil)))))
       (pss_one (ps_ret (pv 2)))))
theorem ok_count (T : Txt K mg Cof ad fd) : FnOk P w K mg base CX0 4 (ad 22) (fd 22) ["row", "low", "high"] (sp_count K Cof) := by
  have G_changes := ok_changes (P := P) (w := w) (base := base) T
  have B_changes := B_changes T
  have nd := sc_count.nd
  refine T.F_count.ok sc_count (fun vs H Q E h => len_count h) (fun cdv A outer s H vs Q E hr h => ⟨t_count K Cof E, ?_, rd_count h⟩)
  exact pss_one (ps_ret (pe_op op_sub (pe_call G_changes (hr.mono (by decide)) (by rfl) T.g_changes T.F_changes.kp B_changes .nil pass0 (pa_cons (pv 0) (pa_cons (pv 1) (pa_nil)))) (pe_call G_changes (hr.mono (by decide)) (by rfl) T.g_changes T.F_changes.kp B_changes .nil pass0 (pa_cons (pv 0) (pa_cons (pv 2) (pa_nil))))))
theorem ok_bound (T : Txt K mg Cof ad fd) : FnOk P w K mg base CX0 1 (ad 23) (fd 23) ["P"] (sp_bound K Cof) := by
  have nd := sc_bound.nd
  refine T.F_bound.ok sc_bound (fun vs H Q E h => len_bound h) (fun cdv A outer s H vs Q E hr h => ⟨t_bound K Cof E, ?_, rd_bound h⟩)
  exact pss_cons (ps_set (i := 1) nd rfl (by first | exact Or.inl rfl | exact Or.inr rfl) (pe_int))
       (pss_cons (ps_for PassesOwn.never rfl (pi_list (pe_slice sl_list (pv 0) (po_none) (po_some (pe_un un_neg (pe_int))))) (pg_name (i := 2) nd rfl (by first | exact Or.inl rfl | exact Or.inr rfl)) (pss_one (ps_set (i := 1) nd rfl (by first | exact Or.inl rfl | exact Or.inr rfl) (pe_callB (call_max2 (by rfl)) (by rfl) T.z_max (by decide +kernel) (pa_cons (pv 1) (pa_cons (pe_callB call_abs (by rfl) T.z_abs (by decide +kernel) (pa_cons (pv 2) (pa_nil))) (pa_nil)))))))
       (pss_cons (ps_set (i := 3) nd rfl (by first | exact Or.inl rfl | exact Or.inr rfl) (pe_int))
       (pss_cons (ps_while PassesOwn.never (pt_cmpR op_lt (pe_op op_mulX (pe_op op_sub (pv 3) (pe_int)) (pe_callB call_abs (by rfl) T.z_abs (by decide +kernel) (pa_cons (pe_ix ix_list (pv 0) (pe_un un_neg (pe_int)) (fun _ _ => rfl)) (pa_nil)))) (pv 1) (nomark _)) (pss_one (ps_set (i := 3) nd rfl (by first | exact Or.inl rfl | exact Or.inr rfl) (pe_op op_mulX (pe_int) (pv 3)))))
       (pss_one (ps_ret (pv 3))))))
theorem ok_halfway (T : Txt K mg Cof ad fd) : FnOk P w K mg base CX0 5 (ad 24) (fd 24) ["low", "high"] (sp_halfway K Cof) := by
  have G_Ratio___init__ := ok_Ratio___init__ (P := P) (w := w) (base := base) T
  have B_Ratio___init__ := B_Ratio___init__ T
  have G_Ratio_over := ok_Ratio_over (P := P) (w := w) (base := base) T
  have B_Ratio_over := B_Ratio_over T
  have G_Ratio_plus := ok_Ratio_plus (P := P) (w := w) (base := base) T
  have B_Ratio_plus := B_Ratio_plus T
  obtain ⟨_, dv_Ratio___init__, db_Ratio___init__⟩ := D_Ratio___init__ T
  have nd := sc_halfway.nd
  refine T.F_halfway.ok sc_halfway (fun vs H Q E h => len_halfway h) (fun cdv A outer s H vs Q E hr h => ⟨t_halfway K Cof E, ?_, rd_halfway h⟩)
  exact pss_one (ps_ret (pe_meth (pe_meth (pv 0) T.cls_Ratio T.meth_Ratio_plus G_Ratio_plus (hr.mono (by decide)) B_Ratio_plus .nil pass0 (pa_cons (pv 1) (pa_nil))) T.cls_Ratio T.meth_Ratio_over G_Ratio_over (hr.mono (by decide)) B_Ratio_over .nil pass0 (pa_cons (pe_make T.mk_Ratio G_Ratio___init__ (hr.mono (by decide)) (by rfl) T.q_Ratio db_Ratio___init__ dv_Ratio___init__ pass0 (pa_cons (pe_int) (pa_nil))) (pa_nil))))
theorem ok_narrowed (T : Txt K mg Cof ad fd) : FnOk P w K mg base CX0 6 (ad 25) (fd 25) ["P", "low", "high", "width"] (sp_narrowed K Cof) := by
  have G_Ratio_against := ok_Ratio_against (P := P) (w := w) (base := base) T
  have B_Ratio_against := B_Ratio_against T
  have G_Ratio_minus := ok_Ratio_minus (P := P) (w := w) (base := base) T
  have B_Ratio_minus := B_Ratio_minus T
  have G_halfway := ok_halfway (P := P) (w := w) (base := base) T
  have B_halfway := B_halfway T
  have G_sign_at := ok_sign_at (P := P) (w := w) (base := base) T
  have B_sign_at := B_sign_at T
  have nd := sc_narrowed.nd
  refine T.F_narrowed.ok sc_narrowed (fun vs H Q E h => len_narrowed h) (fun cdv A outer s H vs Q E hr h => ⟨t_narrowed K Cof E, ?_, rd_narrowed T.ex h⟩)
  exact pss_cons (ps_set (i := 4) nd rfl (by first | exact Or.inl rfl | exact Or.inr rfl) (pe_call G_sign_at (hr.mono (by decide)) (by rfl) T.g_sign_at T.F_sign_at.kp B_sign_at .nil pass0 (pa_cons (pv 0) (pa_cons (pv 2) (pa_nil)))))
       (pss_cons (ps_while PassesOwn.never (pt_cmpR op_gt (pe_meth (pe_meth (pv 2) T.cls_Ratio T.meth_Ratio_minus G_Ratio_minus (hr.mono (by decide)) B_Ratio_minus .nil pass0 (pa_cons (pv 1) (pa_nil))) T.cls_Ratio T.meth_Ratio_against G_Ratio_against (hr.mono (by decide)) B_Ratio_against .nil pass0 (pa_cons (pv 3) (pa_nil))) (pe_int) (nomark _)) (pss_cons (ps_set (i := 5) nd rfl (by first | exact Or.inl rfl | exact Or.inr rfl) (pe_call G_halfway (hr.mono (by decide)) (by rfl) T.g_halfway T.F_halfway.kp B_halfway .nil pass0 (pa_cons (pv 1) (pa_cons (pv 2) (pa_nil)))))
       (pss_cons (ps_set (i := 6) nd rfl (by first | exact Or.inl rfl | exact Or.inr rfl) (pe_call G_sign_at (hr.mono (by decide)) (by rfl) T.g_sign_at T.F_sign_at.kp B_sign_at .nil pass0 (pa_cons (pv 0) (pa_cons (pv 5) (pa_nil)))))
       (pss_one (ps_if (PW.pt (pw_and (pt_cmpR op_ne (pv 4) (pe_int) (nomark _)) (pw_and1 (pt_cmpR op_ne (pv 6) (pe_op op_sub (pe_int) (pv 4)) (nomark _))))) (pss_cons (ps_set (i := 2) nd rfl (by first | exact Or.inl rfl | exact Or.inr rfl) (pv 5))
       (pss_one (ps_set (i := 4) nd rfl (by first | exact Or.inl rfl | exact Or.inr rfl) (pv 6)))) (pss_one (ps_set (i := 1) nd rfl (by first | exact Or.inl rfl | exact Or.inr rfl) (pv 5))))))))
       (pss_one (ps_ret (pe_tup (pa_cons (pv 1) (pa_cons (pv 2) (pa_nil)))))))
theorem ok_least (T : Txt K mg Cof ad fd) : FnOk P w K mg base CX0 4 (ad 26) (fd 26) ["P", "low", "high"] (sp_least K Cof) := by
  have G_degree := ok_degree (P := P) (w := w) (base := base) T
  have B_degree := B_degree T
  have G_plain := ok_plain (P := P) (w := w) (base := base) T
  have B_plain := B_plain T
  have nd := sc_least.nd
  refine T.F_least.ok sc_least (fun vs H Q E h => len_least h) (fun cdv A outer s H vs Q E hr h => ⟨t_least K Cof E, ?_, rd_least h⟩)
  exact pss_cons (ps_if (pt_cmpR op_eq (pe_call G_degree (hr.mono (by decide)) (by rfl) T.g_degree T.F_degree.kp B_degree .nil pass0 (pa_cons (pv 0) (pa_nil))) (pe_int) (nomark _)) (pss_one (ps_ret (pe_call G_plain (hr.mono (by decide)) (by rfl) T.g_plain T.F_plain.kp B_plain .nil pass0 (pa_cons (pv 0) (pa_nil))))) (pss_nil))
       (pss_dead)
theorem ok_Number___init__ (T : Txt K mg Cof ad fd) : FnOk P w K mg base CX0 1 (ad 27) (fd 27) ["self", "poly", "low", "high"] (sp_Number___init__ K Cof) := by
  have nd := sc_Number___init__.nd
  refine T.F_Number___init__.ok sc_Number___init__ (fun vs H Q E h => len_Number___init__ h) (fun cdv A outer s H vs Q E hr h => ⟨t_Number___init__ K Cof E, ?_, rd_Number___init__ T.ex h⟩)
  exact pss_cons (ps_fld (pv 0) (pe_callTy call_list_of (by rfl) T.z_list (by decide +kernel) (pa_cons (pv 1) (pa_nil))) rfl)
       (pss_cons (ps_fld (pv 0) (pv 2) rfl)
       (pss_one (ps_fld (pv 0) (pv 3) rfl)))
theorem ok_look_at_size (T : Txt K mg Cof ad fd) : FnOk P w K mg base CX0 1 (ad 28) (fd 28) ["P"] (sp_look_at_size K Cof) := by
  obtain ⟨_, hk_GREATEST⟩ := T.u_GREATEST
  have nd := sc_look_at_size.nd
  refine T.F_look_at_size.ok sc_look_at_size (fun vs H Q E h => len_look_at_size h) (fun cdv A outer s H vs Q E hr h => ⟨t_look_at_size K Cof E, ?_, rd_look_at_size h⟩)
  exact pss_one (ps_for PassesOwn.never rfl (pi_list (pv 0)) (pg_name (i := 1) nd rfl (by first | exact Or.inl rfl | exact Or.inr rfl)) (pss_one (ps_if (pt_cmpR op_ge (pe_callB call_abs (by rfl) T.z_abs (by decide +kernel) (pa_cons (pv 1) (pa_nil))) (pe_op op_mulX ((pe_glob (by rfl) hk_GREATEST ⟨_, rfl⟩)) ((pe_glob (by rfl) hk_GREATEST ⟨_, rfl⟩))) (nomark _)) (pss_dead) (pss_nil))))
theorem ok_settled (T : Txt K mg Cof ad fd) : FnOk P w K mg base CX0 5 (ad 29) (fd 29) ["P", "low", "high"] (sp_settled K Cof) := by
  have G_Number___init__ := ok_Number___init__ (P := P) (w := w) (base := base) T
  have B_Number___init__ := B_Number___init__ T
  have G_Ratio___init__ := ok_Ratio___init__ (P := P) (w := w) (base := base) T
  have B_Ratio___init__ := B_Ratio___init__ T
  have G_Ratio_minus := ok_Ratio_minus (P := P) (w := w) (base := base) T
  have B_Ratio_minus := B_Ratio_minus T
  have G_degree := ok_degree (P := P) (w := w) (base := base) T
  have B_degree := B_degree T
  obtain ⟨_, dv_Ratio___init__, db_Ratio___init__⟩ := D_Ratio___init__ T
  have nd := sc_settled.nd
  refine T.F_settled.ok sc_settled (fun vs H Q E h => len_settled h) (fun cdv A outer s H vs Q E hr h => ⟨t_settled K Cof E, ?_, rd_settled h⟩)
  exact pss_cons (ps_if (pt_cmpR op_eq (pe_call G_degree (hr.mono (by decide)) (by rfl) T.g_degree T.F_degree.kp B_degree .nil pass0 (pa_cons (pv 0) (pa_nil))) (pe_int) (nomark _)) (pss_cons (ps_set (i := 3) nd rfl (by first | exact Or.inl rfl | exact Or.inr rfl) (pe_make T.mk_Ratio G_Ratio___init__ (hr.mono (by decide)) (by rfl) T.q_Ratio B_Ratio___init__ .nil pass0 (pa_cons (pe_un un_neg (pe_ix ix_list (pv 0) (pe_int) (fun _ _ => rfl))) (pa_cons (pe_ix ix_list (pv 0) (pe_int) (fun _ _ => rfl)) (pa_nil)))))
       (pss_one (ps_ret (pe_make T.mk_Number G_Number___init__ (hr.mono (by decide)) (by rfl) T.q_Number B_Number___init__ .nil pass0 (pa_cons (pv 0) (pa_cons (pe_meth (pv 3) T.cls_Ratio T.meth_Ratio_minus G_Ratio_minus (hr.mono (by decide)) B_Ratio_minus .nil pass0 (pa_cons (pe_make T.mk_Ratio G_Ratio___init__ (hr.mono (by decide)) (by rfl) T.q_Ratio db_Ratio___init__ dv_Ratio___init__ pass0 (pa_cons (pe_int) (pa_nil))) (pa_nil))) (pa_cons (pv 3) (pa_nil)))))))) (pss_nil))
       (pss_dead)
theorem ok_number (T : Txt K mg Cof ad fd) : FnOk P w K mg base CX0 6 (ad 30) (fd 30) ["P", "low", "high"] (sp_number K Cof) := by
  have G_Ratio___init__ := ok_Ratio___init__ (P := P) (w := w) (base := base) T
  have B_Ratio___init__ := B_Ratio___init__ T
  have G_Ratio_against := ok_Ratio_against (P := P) (w := w) (base := base) T
  have B_Ratio_against := B_Ratio_against T
  have G_bound := ok_bound (P := P) (w := w) (base := base) T
  have B_bound := B_bound T
  have G_count := ok_count (P := P) (w := w) (base := base) T
  have B_count := B_count T
  have G_degree := ok_degree (P := P) (w := w) (base := base) T
  have B_degree := B_degree T
  have G_least := ok_least (P := P) (w := w) (base := base) T
  have B_least := B_least T
  have G_look_at_size := ok_look_at_size (P := P) (w := w) (base := base) T
  have B_look_at_size := B_look_at_size T
  have G_row_of := ok_row_of (P := P) (w := w) (base := base) T
  have B_row_of := B_row_of T
  have G_settled := ok_settled (P := P) (w := w) (base := base) T
  have B_settled := B_settled T
  have G_without_squares := ok_without_squares (P := P) (w := w) (base := base) T
  have B_without_squares := B_without_squares T
  obtain ⟨_, dv_Ratio___init__, db_Ratio___init__⟩ := D_Ratio___init__ T
  obtain ⟨_, hk_HIGHEST⟩ := T.u_HIGHEST
  have nd := sc_number.nd
  refine okN T.F_number sc_number (fun vs H Q E h => len_number h) (fun cdv A outer s H vs Q E hr h => ⟨t_number K Cof E, ?_, rd_number h⟩)
  exact pss_cons (ps_if (pt_cmpR op_gt (pe_call G_degree (hr.mono (by decide)) (by rfl) T.g_degree T.F_degree.kp B_degree .nil pass0 (pa_cons (pv 0) (pa_nil))) ((pe_glob (by rfl) hk_HIGHEST ⟨_, rfl⟩)) (nomark _)) (pss_dead) (pss_nil))
       (pss_cons (ps_if (pt_cmpR op_lt (pe_call G_degree (hr.mono (by decide)) (by rfl) T.g_degree T.F_degree.kp B_degree .nil pass0 (pa_cons (pv 0) (pa_nil))) (pe_int) (nomark _)) (pss_dead) (pss_nil))
       (pss_cut (ps_if (pt_cmpR op_isN1 (pv 1) (pe_non) (nomark _)) (pss_one (ps_set (i := 1) nd rfl (by first | exact Or.inl rfl | exact Or.inr rfl) (pe_make T.mk_Ratio G_Ratio___init__ (hr.mono (by decide)) (by rfl) T.q_Ratio db_Ratio___init__ dv_Ratio___init__ pass0 (pa_cons (pe_un un_neg (pe_call G_bound (hr.mono (by decide)) (by rfl) T.g_bound T.F_bound.kp B_bound .nil pass0 (pa_cons (pv 0) (pa_nil)))) (pa_nil))))) (pss_nil))
       (pss_cut (ps_if (pt_cmpR op_isN1 (pv 2) (pe_non) (nomark _)) (pss_one (ps_set (i := 2) nd rfl (by first | exact Or.inl rfl | exact Or.inr rfl) (pe_make T.mk_Ratio G_Ratio___init__ (hr.mono (by decide)) (by rfl) T.q_Ratio db_Ratio___init__ dv_Ratio___init__ pass0 (pa_cons (pe_call G_bound (hr.mono (by decide)) (by rfl) T.g_bound T.F_bound.kp B_bound .nil pass0 (pa_cons (pv 0) (pa_nil))) (pa_nil))))) (pss_nil))
       (pss_cons (ps_if (pt_cmpR op_ge (pe_meth (pv 1) T.cls_Ratio T.meth_Ratio_against G_Ratio_against (hr.mono (by decide)) B_Ratio_against .nil pass0 (pa_cons (pv 2) (pa_nil))) (pe_int) (nomark _)) (pss_dead) (pss_nil))
       (pss_cons (ps_set (i := 3) nd rfl (by first | exact Or.inl rfl | exact Or.inr rfl) (pe_call G_without_squares (hr.mono (by decide)) (by rfl) T.g_without_squares T.F_without_squares.kp B_without_squares .nil pass0 (pa_cons (pv 0) (pa_nil))))
       (pss_cons (ps_set (i := 4) nd rfl (by first | exact Or.inl rfl | exact Or.inr rfl) (pe_call G_count (hr.mono (by decide)) (by rfl) T.g_count T.F_count.kp B_count .nil pass0 (pa_cons (pe_call G_row_of (hr.mono (by decide)) (by rfl) T.g_row_of T.F_row_of.kp B_row_of .nil pass0 (pa_cons (pv 3) (pa_nil))) (pa_cons (pv 1) (pa_cons (pv 2) (pa_nil))))))
       (pss_cons (ps_if (pt_cmpR op_ne (pv 4) (pe_int) (nomark _)) (pss_dead) (pss_nil))
       (pss_cons (ps_expr (pe_call G_look_at_size (hr.mono (by decide)) (by rfl) T.g_look_at_size T.F_look_at_size.kp B_look_at_size .nil pass0 (pa_cons (pv 3) (pa_nil))))
       (pss_one (ps_ret (pe_call G_settled (hr.mono (by decide)) (by rfl) T.g_settled T.F_settled.kp B_settled .nil pass0 (pa_cons (pe_call G_least (hr.mono (by decide)) (by rfl) T.g_least T.F_least.kp B_least .nil pass0 (pa_cons (pv 3) (pa_cons (pv 1) (pa_cons (pv 2) (pa_nil))))) (pa_cons (pv 1) (pa_cons (pv 2) (pa_nil)))))))))))))))
theorem ok_fraction (T : Txt K mg Cof ad fd) : FnOk P w K mg base CX0 7 (ad 31) (fd 31) ["r"] (sp_fraction K Cof) := by
  have G_number := ok_number (P := P) (w := w) (base := base) T
  have B_number := B_number T
  obtain ⟨_, dv_number, db_number⟩ := D_number T
  have nd := sc_fraction.nd
  refine T.F_fraction.ok sc_fraction (fun vs H Q E h => len_fraction h) (fun cdv A outer s H vs Q E hr h => ⟨t_fraction K Cof E, ?_, rd_fraction T.ex h⟩)
  exact pss_one (ps_ret (pe_call G_number (hr.mono (by decide)) (by rfl) T.g_number T.F_number.kp db_number dv_number pass0 (pa_cons (pe_lst (pa_cons (pe_un un_neg (pe_fld (pv 0) rfl)) (pa_cons (pe_fld (pv 0) rfl) (pa_nil)))) (pa_nil))))
theorem ok_narrow (T : Txt K mg Cof ad fd) : FnOk P w K mg base CX0 7 (ad 32) (fd 32) ["n", "width"] (sp_narrow K Cof) := by
  have G_Number___init__ := ok_Number___init__ (P := P) (w := w) (base := base) T
  have B_Number___init__ := B_Number___init__ T
  have G_narrowed := ok_narrowed (P := P) (w := w) (base := base) T
  have B_narrowed := B_narrowed T
  have nd := sc_narrow.nd
  refine T.F_narrow.ok sc_narrow (fun vs H Q E h => len_narrow h) (fun cdv A outer s H vs Q E hr h => ⟨t_narrow K Cof E, ?_, rd_narrow T.ex h⟩)
  exact pss_cons (ps_set (i := 2) nd rfl (by first | exact Or.inl rfl | exact Or.inr rfl) (pe_call G_narrowed (hr.mono (by decide)) (by rfl) T.g_narrowed T.F_narrowed.kp B_narrowed .nil pass0 (pa_cons (pe_fld (pv 0) rfl) (pa_cons (pe_fld (pv 0) rfl) (pa_cons (pe_fld (pv 0) rfl) (pa_cons (pv 1) (pa_nil)))))))
       (pss_one (ps_ret (pe_make T.mk_Number G_Number___init__ (hr.mono (by decide)) (by rfl) T.q_Number B_Number___init__ .nil pass0 (pa_cons (pe_fld (pv 0) rfl) (pa_cons (pe_ix ix_tup (pv 2) (pe_int) (fun _ _ => rfl)) (pa_cons (pe_ix ix_tup (pv 2) (pe_int) (fun _ _ => rfl)) (pa_nil)))))))
theorem ok_against (T : Txt K mg Cof ad fd) : FnOk P w K mg base CX0 3 (ad 33) (fd 33) ["n", "r"] (sp_against K Cof) := by
  have G_Ratio_against := ok_Ratio_against (P := P) (w := w) (base := base) T
  have B_Ratio_against := B_Ratio_against T
  have G_sign_at := ok_sign_at (P := P) (w := w) (base := base) T
  have B_sign_at := B_sign_at T
  have nd := sc_against.nd
  refine T.F_against.ok sc_against (fun vs H Q E h => len_against h) (fun cdv A outer s H vs Q E hr h => ⟨t_against K Cof E, ?_, rd_against T.ex h⟩)
  exact pss_cons (ps_if (pt_cmpR op_le (pe_meth (pv 1) T.cls_Ratio T.meth_Ratio_against G_Ratio_against (hr.mono (by decide)) B_Ratio_against .nil pass0 (pa_cons (pe_fld (pv 0) rfl) (pa_nil))) (pe_int) (nomark _)) (pss_one (ps_ret (pe_int))) (pss_nil))
       (pss_cons (ps_if (pt_cmpR op_gt (pe_meth (pv 1) T.cls_Ratio T.meth_Ratio_against G_Ratio_against (hr.mono (by decide)) B_Ratio_against .nil pass0 (pa_cons (pe_fld (pv 0) rfl) (pa_nil))) (pe_int) (nomark _)) (pss_one (ps_ret (pe_un un_neg (pe_int)))) (pss_nil))
       (pss_cons (ps_set (i := 2) nd rfl (by first | exact Or.inl rfl | exact Or.inr rfl) (pe_call G_sign_at (hr.mono (by decide)) (by rfl) T.g_sign_at T.F_sign_at.kp B_sign_at .nil pass0 (pa_cons (pe_fld (pv 0) rfl) (pa_cons (pv 1) (pa_nil)))))
       (pss_cons (ps_if (pt_cmpR op_eq (pv 2) (pe_int) (nomark _)) (pss_one (ps_ret (pe_int))) (pss_nil))
       (pss_cons (ps_if (pt_cmpR op_eq (pv 2) (pe_call G_sign_at (hr.mono (by decide)) (by rfl) T.g_sign_at T.F_sign_at.kp B_sign_at .nil pass0 (pa_cons (pe_fld (pv 0) rfl) (pa_cons (pe_fld (pv 0) rfl) (pa_nil)))) (nomark _)) (pss_one (ps_ret (pe_int))) (pss_nil))
       (pss_one (ps_ret (pe_un un_neg (pe_int))))))))
theorem ok_sign_of (T : Txt K mg Cof ad fd) : FnOk P w K mg base CX0 4 (ad 34) (fd 34) ["n"] (sp_sign_of K Cof) := by
  have G_Ratio___init__ := ok_Ratio___init__ (P := P) (w := w) (base := base) T
  have B_Ratio___init__ := B_Ratio___init__ T
  have G_against := ok_against (P := P) (w := w) (base := base) T
  have B_against := B_against T
  obtain ⟨_, dv_Ratio___init__, db_Ratio___init__⟩ := D_Ratio___init__ T
  have nd := sc_sign_of.nd
  refine T.F_sign_of.ok sc_sign_of (fun vs H Q E h => len_sign_of h) (fun cdv A outer s H vs Q E hr h => ⟨t_sign_of K Cof E, ?_, rd_sign_of h⟩)
  exact pss_one (ps_ret (pe_call G_against (hr.mono (by decide)) (by rfl) T.g_against T.F_against.kp B_against .nil pass0 (pa_cons (pv 0) (pa_cons (pe_make T.mk_Ratio G_Ratio___init__ (hr.mono (by decide)) (by rfl) T.q_Ratio db_Ratio___init__ dv_Ratio___init__ pass0 (pa_cons (pe_int) (pa_nil))) (pa_nil)))))
theorem ok_of_a_fraction_reckon (T : Txt K mg Cof ad fd) : FnOk P w K mg base CX0 5 (ad 35) (fd 35) ["r"] (sp_of_a_fraction_reckon K Cof) := by
  have G_Number___init__ := ok_Number___init__ (P := P) (w := w) (base := base) T
  have B_Number___init__ := B_Number___init__ T
  have G_Ratio___init__ := ok_Ratio___init__ (P := P) (w := w) (base := base) T
  have B_Ratio___init__ := B_Ratio___init__ T
  have G_Ratio_minus := ok_Ratio_minus (P := P) (w := w) (base := base) T
  have B_Ratio_minus := B_Ratio_minus T
  obtain ⟨_, dv_Ratio___init__, db_Ratio___init__⟩ := D_Ratio___init__ T
  have nd := sc_of_a_fraction_reckon.nd
  refine T.F_of_a_fraction_reckon.ok sc_of_a_fraction_reckon (fun vs H Q E h => len_of_a_fraction_reckon h) (fun cdv A outer s H vs Q E hr h => ⟨t_of_a_fraction_reckon K Cof E, ?_, rd_of_a_fraction_reckon T.ex h⟩)
  exact pss_one (ps_ret (pe_make T.mk_Number G_Number___init__ (hr.mono (by decide)) (by rfl) T.q_Number B_Number___init__ .nil pass0 (pa_cons (pe_lst (pa_cons (pe_un un_neg (pe_fld (pv 0) rfl)) (pa_cons (pe_fld (pv 0) rfl) (pa_nil)))) (pa_cons (pe_meth (pv 0) T.cls_Ratio T.meth_Ratio_minus G_Ratio_minus (hr.mono (by decide)) B_Ratio_minus .nil pass0 (pa_cons (pe_make T.mk_Ratio G_Ratio___init__ (hr.mono (by decide)) (by rfl) T.q_Ratio db_Ratio___init__ dv_Ratio___init__ pass0 (pa_cons (pe_int) (pa_nil))) (pa_nil))) (pa_cons (pv 0) (pa_nil))))))
theorem ok_fraction_of (T : Txt K mg Cof ad fd) : FnOk P w K mg base CX0 4 (ad 36) (fd 36) ["n"] (sp_fraction_of K Cof) := by
  have G_Ratio___init__ := ok_Ratio___init__ (P := P) (w := w) (base := base) T
  have B_Ratio___init__ := B_Ratio___init__ T
  have nd := sc_fraction_of.nd
  refine T.F_fraction_of.ok sc_fraction_of (fun vs H Q E h => len_fraction_of h) (fun cdv A outer s H vs Q E hr h => ⟨t_fraction_of K Cof E, ?_, rd_fraction_of T.ex h⟩)
  exact pss_one (ps_ret (pe_make T.mk_Ratio G_Ratio___init__ (hr.mono (by decide)) (by rfl) T.q_Ratio B_Ratio___init__ .nil pass0 (pa_cons (pe_un un_neg (pe_ix ix_list (pe_fld (pv 0) rfl) (pe_int) (fun _ _ => rfl))) (pa_cons (pe_ix ix_list (pe_fld (pv 0) rfl) (pe_int) (fun _ _ => rfl)) (pa_nil)))))
theorem ok_opposite (T : Txt K mg Cof ad fd) : FnOk P w K mg base CX0 6 (ad 37) (fd 37) ["a"] (sp_opposite K Cof) := by
  have G_Ratio___init__ := ok_Ratio___init__ (P := P) (w := w) (base := base) T
  have B_Ratio___init__ := B_Ratio___init__ T
  have G_Ratio_minus := ok_Ratio_minus (P := P) (w := w) (base := base) T
  have B_Ratio_minus := B_Ratio_minus T
  have G_degree := ok_degree (P := P) (w := w) (base := base) T
  have B_degree := B_degree T
  have G_fraction_of := ok_fraction_of (P := P) (w := w) (base := base) T
  have B_fraction_of := B_fraction_of T
  have G_of_a_fraction_reckon := ok_of_a_fraction_reckon (P := P) (w := w) (base := base) T
  have B_of_a_fraction_reckon := B_of_a_fraction_reckon T
  obtain ⟨_, dv_Ratio___init__, db_Ratio___init__⟩ := D_Ratio___init__ T
  have nd := sc_opposite.nd
  refine T.F_opposite.ok sc_opposite (fun vs H Q E h => len_opposite h) (fun cdv A outer s H vs Q E hr h => ⟨t_opposite K Cof E, ?_, rd_opposite T.ex h⟩)
  exact pss_cons (ps_if (pt_cmpR op_eq (pe_call G_degree (hr.mono (by decide)) (by rfl) T.g_degree T.F_degree.kp B_degree .nil pass0 (pa_cons (pe_fld (pv 0) rfl) (pa_nil))) (pe_int) (nomark _)) (pss_one (ps_ret (pe_call G_of_a_fraction_reckon (hr.mono (by decide)) (by rfl) T.g_of_a_fraction_reckon T.F_of_a_fraction_reckon.kp B_of_a_fraction_reckon .nil pass0 (pa_cons (pe_meth (pe_make T.mk_Ratio G_Ratio___init__ (hr.mono (by decide)) (by rfl) T.q_Ratio db_Ratio___init__ dv_Ratio___init__ pass0 (pa_cons (pe_int) (pa_nil))) T.cls_Ratio T.meth_Ratio_minus G_Ratio_minus (hr.mono (by decide)) B_Ratio_minus .nil pass0 (pa_cons (pe_call G_fraction_of (hr.mono (by decide)) (by rfl) T.g_fraction_of T.F_fraction_of.kp B_fraction_of .nil pass0 (pa_cons (pv 0) (pa_nil))) (pa_nil))) (pa_nil))))) (pss_nil))
       (pss_dead)
theorem ok_steps (T : Txt K mg Cof ad fd) : FnOk P w K mg base CX0 8 (ad 38) (fd 38) ["n", "bottom"] (sp_steps K Cof) := by
  have G_Ratio___init__ := ok_Ratio___init__ (P := P) (w := w) (base := base) T
  have B_Ratio___init__ := B_Ratio___init__ T
  have G_Ratio_floor := ok_Ratio_floor (P := P) (w := w) (base := base) T
  have B_Ratio_floor := B_Ratio_floor T
  have G_Ratio_times := ok_Ratio_times (P := P) (w := w) (base := base) T
  have B_Ratio_times := B_Ratio_times T
  have G_against := ok_against (P := P) (w := w) (base := base) T
  have B_against := B_against T
  have G_narrow := ok_narrow (P := P) (w := w) (base := base) T
  have B_narrow := B_narrow T
  obtain ⟨_, dv_Ratio___init__, db_Ratio___init__⟩ := D_Ratio___init__ T
  have nd := sc_steps.nd
  refine T.F_steps.ok sc_steps (fun vs H Q E h => len_steps h) (fun cdv A outer s H vs Q E hr h => ⟨t_steps K Cof E, ?_, rd_steps T.ex h⟩)
  exact pss_cons (ps_set (i := 2) nd rfl (by first | exact Or.inl rfl | exact Or.inr rfl) (pe_meth0 (pe_meth (pe_fld (pe_call G_narrow (hr.mono (by decide)) (by rfl) T.g_narrow T.F_narrow.kp B_narrow .nil pass0 (pa_cons (pv 0) (pa_cons (pe_make T.mk_Ratio G_Ratio___init__ (hr.mono (by decide)) (by rfl) T.q_Ratio B_Ratio___init__ .nil pass0 (pa_cons (pe_int) (pa_cons (pv 1) (pa_nil)))) (pa_nil)))) rfl) T.cls_Ratio T.meth_Ratio_times G_Ratio_times (hr.mono (by decide)) B_Ratio_times .nil pass0 (pa_cons (pe_make T.mk_Ratio G_Ratio___init__ (hr.mono (by decide)) (by rfl) T.q_Ratio db_Ratio___init__ dv_Ratio___init__ pass0 (pa_cons (pv 1) (pa_nil))) (pa_nil))) T.cls_Ratio T.meth_Ratio_floor G_Ratio_floor (hr.mono (by decide)) B_Ratio_floor .nil pass0))
       (pss_cons (ps_if (pt_cmpR op_lt (pe_call G_against (hr.mono (by decide)) (by rfl) T.g_against T.F_against.kp B_against .nil pass0 (pa_cons (pv 0) (pa_cons (pe_make T.mk_Ratio G_Ratio___init__ (hr.mono (by decide)) (by rfl) T.q_Ratio B_Ratio___init__ .nil pass0 (pa_cons (pv 2) (pa_cons (pv 1) (pa_nil)))) (pa_nil)))) (pe_int) (nomark _)) (pss_one (ps_ret (pe_op op_sub (pv 2) (pe_int)))) (pss_nil))
       (pss_one (ps_ret (pv 2))))
theorem ok_figures (T : Txt K mg Cof ad fd) : FnOk P w K mg base CX0 9 (ad 39) (fd 39) ["n", "places"] (sp_figures K Cof) := by
  have G_opposite := ok_opposite (P := P) (w := w) (base := base) T
  have B_opposite := B_opposite T
  have G_sign_of := ok_sign_of (P := P) (w := w) (base := base) T
  have B_sign_of := B_sign_of T
  have G_steps := ok_steps (P := P) (w := w) (base := base) T
  have B_steps := B_steps T
  have nd := sc_figures.nd
  refine okN T.F_figures sc_figures (fun vs H Q E h => len_figures h) (fun cdv A outer s H vs Q E hr h => ⟨t_figures K Cof E, ?_, rd_figures h⟩)
  exact pss_cons (ps_set (i := 2) nd rfl (by first | exact Or.inl rfl | exact Or.inr rfl) (pe_int))
       (pss_cons (ps_for PassesOwn.never rfl (pi_range1 (by rfl) T.z_range (pa_cons (pv 1) (pa_nil))) (pg_name (i := 3) nd rfl (by first | exact Or.inl rfl | exact Or.inr rfl)) (pss_one (ps_set (i := 2) nd rfl (by first | exact Or.inl rfl | exact Or.inr rfl) (pe_op op_mulX (pv 2) (pe_int)))))
       (pss_cons (ps_set (i := 4) nd rfl (by first | exact Or.inl rfl | exact Or.inr rfl) (pe_cmpR op_lt (pe_call G_sign_of (hr.mono (by decide)) (by rfl) T.g_sign_of T.F_sign_of.kp B_sign_of .nil pass0 (pa_cons (pv 0) (pa_nil))) (pe_int) (nomark _)))
       (pss_cut (ps_if (pt_val (pv 4)) (pss_one (ps_set (i := 0) nd rfl (by first | exact Or.inl rfl | exact Or.inr rfl) (pe_call G_opposite (hr.mono (by decide)) (by rfl) T.g_opposite T.F_opposite.kp B_opposite .nil pass0 (pa_cons (pv 0) (pa_nil))))) (pss_nil))
       (pss_cons (ps_set (i := 5) nd rfl (by first | exact Or.inl rfl | exact Or.inr rfl) (pe_op op_fdivA (pe_op op_add (pe_call G_steps (hr.mono (by decide)) (by rfl) T.g_steps T.F_steps.kp B_steps .nil pass0 (pa_cons (pv 0) (pa_cons (pe_op op_mulX (pe_int) (pv 2)) (pa_nil)))) (pe_int)) (pe_int)))
       (pss_cons (ps_set (i := 6) nd rfl (by first | exact Or.inl rfl | exact Or.inr rfl) (pe_bm PySem.F.plainAttrs_str PySem.F.slot_str_zfill PySem.F.type_str_zfill mt_zfill (pe_callTy call_str_int (by rfl) T.z_str (by decide +kernel) (pa_cons (pv 5) (pa_nil))) (pa_cons (pe_op op_add (pv 1) (pe_int)) (pa_nil))))
       (pss_cut (ps_if (pt_cmpR op_gt (pv 1) (pe_int) (nomark _)) (pss_one (ps_set (i := 6) nd rfl (by first | exact Or.inl rfl | exact Or.inr rfl) (pe_op op_add_str (pe_op op_add_str (pe_slice sl_str (pv 6) (po_none) (po_some (pe_un un_neg (pv 1)))) (pe_str)) (pe_slice sl_str (pv 6) (po_some (pe_un un_neg (pv 1))) (po_none))))) (pss_nil))
       (pss_cons (ps_if (PW.pt (pw_and (pt_val (pv 4)) (pw_and1 (pt_cmpR op_gt (pv 5) (pe_int) (nomark _))))) (pss_one (ps_ret (pe_op op_add_str (pe_str) (pv 6)))) (pss_nil))
       (pss_one (ps_ret (pv 6))))))))))
theorem ok__law_cell_at (T : Txt K mg Cof ad fd) : FnOk P w K mg base CX0 1 (ad 40) (fd 40) ["_law_script", "_law_k"] (sp__law_cell_at K Cof) := by
  have nd := sc__law_cell_at.nd
  refine T.F__law_cell_at.ok sc__law_cell_at (fun vs H Q E h => len__law_cell_at h) (fun cdv A outer s H vs Q E hr h => ⟨t__law_cell_at K Cof E, ?_, rd__law_cell_at h⟩)
  exact pss_cons (ps_if (pt_cmpR op_lt (pv 1) (pe_callB call_len_seq (by rfl) T.z_len (by decide +kernel) (pa_cons (pv 0) (pa_nil))) (nomark _)) (pss_one (ps_ret (pe_ix ix_list (pv 0) (pv 1) (fun _ _ => rfl)))) (pss_nil))
       (pss_one (ps_ret (pe_int)))
theorem ok__law_power (T : Txt K mg Cof ad fd) : FnOk P w K mg base CX0 1 (ad 41) (fd 41) ["_law_places"] (sp__law_power K Cof) := by
  have nd := sc__law_power.nd
  refine T.F__law_power.ok sc__law_power (fun vs H Q E h => len__law_power h) (fun cdv A outer s H vs Q E hr h => ⟨t__law_power K Cof E, ?_, rd__law_power h⟩)
  exact pss_cons (ps_set (i := 1) nd rfl (by first | exact Or.inl rfl | exact Or.inr rfl) (pe_int))
       (pss_cons (ps_for PassesOwn.never rfl (pi_range1 (by rfl) T.z_range (pa_cons (pv 0) (pa_nil))) (pg_name (i := 2) nd rfl (by first | exact Or.inl rfl | exact Or.inr rfl)) (pss_one (ps_set (i := 1) nd rfl (by first | exact Or.inl rfl | exact Or.inr rfl) (pe_op op_mulX (pv 1) (pe_int)))))
       (pss_one (ps_ret (pv 1))))
theorem ok__law_text (T : Txt K mg Cof ad fd) : FnOk P w K mg base CX0 2 (ad 42) (fd 42) ["_law_top", "_law_bottom", "_law_places"] (sp__law_text K Cof) := by
  have G__law_power := ok__law_power (P := P) (w := w) (base := base) T
  have B__law_power := B__law_power T
  have nd := sc__law_text.nd
  refine T.F__law_text.ok sc__law_text (fun vs H Q E h => len__law_text h) (fun cdv A outer s H vs Q E hr h => ⟨t__law_text K Cof E, ?_, rd__law_text h⟩)
  exact pss_cons (ps_set (i := 3) nd rfl (by first | exact Or.inl rfl | exact Or.inr rfl) (pe_op op_fdivA (pe_op op_add (pe_op op_mulX (pe_op op_mulX (pe_int) (pe_callB call_abs (by rfl) T.z_abs (by decide +kernel) (pa_cons (pv 0) (pa_nil)))) (pe_call G__law_power (hr.mono (by decide)) (by rfl) T.g__law_power T.F__law_power.kp B__law_power .nil pass0 (pa_cons (pv 2) (pa_nil)))) (pv 1)) (pe_op op_mulX (pe_int) (pv 1))))
       (pss_cons (ps_set (i := 4) nd rfl (by first | exact Or.inl rfl | exact Or.inr rfl) (pe_callTy call_str_int (by rfl) T.z_str (by decide +kernel) (pa_cons (pv 3) (pa_nil))))
       (pss_cons (ps_while PassesOwn.never (pt_cmpR op_lt (pe_callB call_len_str (by rfl) T.z_len (by decide +kernel) (pa_cons (pv 4) (pa_nil))) (pe_op op_add (pv 2) (pe_int)) (nomark _)) (pss_one (ps_set (i := 4) nd rfl (by first | exact Or.inl rfl | exact Or.inr rfl) (pe_op op_add_str (pe_str) (pv 4)))))
       (pss_cut (ps_if (pt_cmpR op_gt (pv 2) (pe_int) (nomark _)) (pss_cons (ps_set (i := 5) nd rfl (by first | exact Or.inl rfl | exact Or.inr rfl) (pe_op op_sub (pe_callB call_len_str (by rfl) T.z_len (by decide +kernel) (pa_cons (pv 4) (pa_nil))) (pv 2)))
       (pss_one (ps_set (i := 4) nd rfl (by first | exact Or.inl rfl | exact Or.inr rfl) (pe_op op_add_str (pe_op op_add_str (pe_slice sl_str (pv 4) (po_none) (po_some (pv 5))) (pe_str)) (pe_slice sl_str (pv 4) (po_some (pv 5)) (po_none)))))) (pss_nil))
       (pss_cons (ps_if (PW.pt (pw_and (pt_cmpR op_lt (pv 0) (pe_int) (nomark _)) (pw_and1 (pt_cmpR op_gt (pv 3) (pe_int) (nomark _))))) (pss_one (ps_ret (pe_op op_add_str (pe_str) (pv 4)))) (pss_nil))
       (pss_one (ps_ret (pv 4)))))))
theorem ok_law (T : Txt K mg Cof ad fd) : FnOk P w K mg base CX0 10 (ad 43) (fd 43) ["_law_script"] (sp_law K Cof) := by
  have G_Ratio___init__ := ok_Ratio___init__ (P := P) (w := w) (base := base) T
  have B_Ratio___init__ := B_Ratio___init__ T
  have G__law_cell_at := ok__law_cell_at (P := P) (w := w) (base := base) T
  have B__law_cell_at := B__law_cell_at T
  have G__law_power := ok__law_power (P := P) (w := w) (base := base) T
  have B__law_power := B__law_power T
  have G__law_text := ok__law_text (P := P) (w := w) (base := base) T
  have B__law_text := B__law_text T
  have G_figures := ok_figures (P := P) (w := w) (base := base) T
  have B_figures := B_figures T
  have G_fraction := ok_fraction (P := P) (w := w) (base := base) T
  have B_fraction := B_fraction T
  obtain ⟨_, dv_figures, db_figures⟩ := D_figures T
  have nd := sc_law.nd
  refine T.F_law.ok sc_law (fun vs H Q E h => len_law h) (fun cdv A outer s H vs Q E hr h => ⟨t_law K Cof E, ?_, rd_law T.ex h⟩)
  exact pss_cons (ps_set (i := 1) nd rfl (by first | exact Or.inl rfl | exact Or.inr rfl) (pe_call G__law_cell_at (hr.mono (by decide)) (by rfl) T.g__law_cell_at T.F__law_cell_at.kp B__law_cell_at .nil pass0 (pa_cons (pv 0) (pa_cons (pe_int) (pa_nil)))))
       (pss_cons (ps_set (i := 2) nd rfl (by first | exact Or.inl rfl | exact Or.inr rfl) (pe_ix ix_list (pe_lst (pa_cons (pe_int) (pa_cons (pe_op op_modN (pe_call G__law_cell_at (hr.mono (by decide)) (by rfl) T.g__law_cell_at T.F__law_cell_at.kp B__law_cell_at .nil pass0 (pa_cons (pv 0) (pa_cons (pe_int) (pa_nil)))) (pe_int)) (pa_nil)))) (pe_op op_modN (pv 1) (pe_int)) (fun _ _ => rfl)))
       (pss_cons (ps_set (i := 3) nd rfl (by first | exact Or.inl rfl | exact Or.inr rfl) (pe_ix ix_list (pe_lst (pa_cons (pe_int) (pa_cons (pe_op op_pow (pe_int) (pe_int)) (pa_cons (pe_op op_pow (pe_int) (pe_int)) (pa_nil))))) (pe_op op_modN (pe_op op_fdivA (pv 1) (pe_int)) (pe_int)) (fun _ _ => rfl)))
       (pss_cons (ps_set (i := 4) nd rfl (by first | exact Or.inl rfl | exact Or.inr rfl) (pe_op op_sub (pe_op op_modN (pe_call G__law_cell_at (hr.mono (by decide)) (by rfl) T.g__law_cell_at T.F__law_cell_at.kp B__law_cell_at .nil pass0 (pa_cons (pv 0) (pa_cons (pe_int) (pa_nil)))) (pe_op op_mulX (pe_int) (pv 3))) (pv 3)))
       (pss_cons (ps_set (i := 5) nd rfl (by first | exact Or.inl rfl | exact Or.inr rfl) (pe_op op_add (pe_int) (pe_op op_modN (pe_call G__law_cell_at (hr.mono (by decide)) (by rfl) T.g__law_cell_at T.F__law_cell_at.kp B__law_cell_at .nil pass0 (pa_cons (pv 0) (pa_cons (pe_int) (pa_nil)))) (pe_ix ix_list (pe_lst (pa_cons (pe_int) (pa_cons (pe_op op_pow (pe_int) (pe_int)) (pa_nil)))) (pe_op op_modN (pe_op op_fdivA (pv 1) (pe_int)) (pe_int)) (fun _ _ => rfl)))))
       (pss_cut (ps_if (pt_cmpR op_eq (pe_op op_modN (pe_op op_fdivA (pv 1) (pe_int)) (pe_int)) (pe_int) (nomark _)) (pss_cons (ps_set (i := 4) nd rfl (by first | exact Or.inl rfl | exact Or.inr rfl) (pe_op op_add (pe_op op_mulX (pe_int) (pv 4)) (pe_int)))
       (pss_one (ps_set (i := 5) nd rfl (by first | exact Or.inl rfl | exact Or.inr rfl) (pe_op op_mulX (pe_int) (pe_call G__law_power (hr.mono (by decide)) (by rfl) T.g__law_power T.F__law_power.kp B__law_power .nil pass0 (pa_cons (pv 2) (pa_nil))))))) (pss_nil))
       (pss_cons (ps_set (i := 6) nd rfl (by first | exact Or.inl rfl | exact Or.inr rfl) (pe_call G_fraction (hr.mono (by decide)) (by rfl) T.g_fraction T.F_fraction.kp B_fraction .nil pass0 (pa_cons (pe_make T.mk_Ratio G_Ratio___init__ (hr.mono (by decide)) (by rfl) T.q_Ratio B_Ratio___init__ .nil pass0 (pa_cons (pv 4) (pa_cons (pv 5) (pa_nil)))) (pa_nil))))
       (pss_cut (ps_if (pt_cmpR op_eq (pe_op op_modN (pv 1) (pe_int)) (pe_int) (nomark _)) (pss_one (ps_set (i := 7) nd rfl (by first | exact Or.inl rfl | exact Or.inr rfl) (pe_call G_figures (hr.mono (by decide)) (by rfl) T.g_figures T.F_figures.kp db_figures dv_figures pass0 (pa_cons (pv 6) (pa_nil))))) (pss_one (ps_set (i := 7) nd rfl (by first | exact Or.inl rfl | exact Or.inr rfl) (pe_call G_figures (hr.mono (by decide)) (by rfl) T.g_figures T.F_figures.kp B_figures .nil pass0 (pa_cons (pv 6) (pa_cons (pv 2) (pa_nil)))))))
       (pss_cons (ps_if (PW.pt (pw_or (pt_not (pt_val (pe_callB call_isi (by rfl) T.z_isinstance (by decide +kernel) (pa_cons (pv 7) (pa_cons (pe_bltn (v := .ty "str") (by rfl) T.z_str (by decide +kernel) rfl) (pa_nil)))))) (pw_or1 (pt_cmpR op_ne (pv 7) (pe_call G__law_text (hr.mono (by decide)) (by rfl) T.g__law_text T.F__law_text.kp B__law_text .nil pass0 (pa_cons (pv 4) (pa_cons (pv 5) (pa_cons (pv 2) (pa_nil))))) (nomark _))))) (pss_one (ps_ret (pe_bl))) (pss_nil))
       (pss_one (ps_ret (pe_and (pe_cmpR op_eq (pe_call G_figures (hr.mono (by decide)) (by rfl) T.g_figures T.F_figures.kp B_figures .nil pass0 (pa_cons (pv 6) (pa_cons (pe_int) (pa_nil)))) (pe_call G__law_text (hr.mono (by decide)) (by rfl) T.g__law_text T.F__law_text.kp B__law_text .nil pass0 (pa_cons (pv 4) (pa_cons (pv 5) (pa_cons (pe_int) (pa_nil))))) (nomark _)) (pe_one (pe_cmpR op_eq (pe_call G_figures (hr.mono (by decide)) (by rfl) T.g_figures T.F_figures.kp db_figures dv_figures pass0 (pa_cons (pv 6) (pa_nil))) (pe_call G__law_text (hr.mono (by decide)) (by rfl) T.g__law_text T.F__law_text.kp B__law_text .nil pass0 (pa_cons (pv 4) (pa_cons (pv 5) (pa_cons (pe_int) (pa_nil))))) (nomark _))))))))))))))
end
theorem all_mk {l : PySem.W.OpenLaw} {w : World} {K : PySem.W.Frag} {h : Heap} {mg : Str → Option Value} {fa : Addr} (X : K.In h) (G : h.Ns mainGlobals mg) (hfa : mg "law" = some (.ref fa))
    {CRatio : Addr} (aCRatio : PySem.W.nsIn K mainGlobals "Ratio" = some (some (.ref CRatio))) (kCRatio : PySem.W.keepIn K (.ref CRatio) = true)
    (pCRatio : PySem.W.plainGet K CRatio Str.empty = true) (hCRatio : PySem.W.hasDictIn K CRatio = true) (oCRatio : PySem.W.plainOver K CRatio = true) (yCRatio : PySem.W.findIn K (.ref CRatio) "__setattr__" = some (some (.builtin "object.__setattr__"))) (wCRatio : PySem.W.makesIn K CRatio = true)
    (lCRatio : PySem.W.findIn K (.ref CRatio) "__class__" = some (some (.builtin "object.__class__"))) (mCRatio : PySem.W.mroIn K CRatio (.type "object") = some true)
    {CNumber : Addr} (aCNumber : PySem.W.nsIn K mainGlobals "Number" = some (some (.ref CNumber))) (kCNumber : PySem.W.keepIn K (.ref CNumber) = true)
    (pCNumber : PySem.W.plainGet K CNumber Str.empty = true) (hCNumber : PySem.W.hasDictIn K CNumber = true) (oCNumber : PySem.W.plainOver K CNumber = true) (yCNumber : PySem.W.findIn K (.ref CNumber) "__setattr__" = some (some (.builtin "object.__setattr__"))) (wCNumber : PySem.W.makesIn K CNumber = true)
    (lCNumber : PySem.W.findIn K (.ref CNumber) "__class__" = some (some (.builtin "object.__class__"))) (mCNumber : PySem.W.mroIn K CNumber (.type "object") = some true)
    (nNumber_high : PySem.W.findIn K (.ref CNumber) "high" = some none)
    (nNumber_low : PySem.W.findIn K (.ref CNumber) "low" = some none)
    (nNumber_poly : PySem.W.findIn K (.ref CNumber) "poly" = some none)
    (nRatio_bottom : PySem.W.findIn K (.ref CRatio) "bottom" = some none)
    (nRatio_top : PySem.W.findIn K (.ref CRatio) "top" = some none)
    {f0 : Addr} {od0 an0 : Option Addr} {sl0 : Array (Option Value)} {oc0 kV0 dc0 pm0 cd0 ct0 : Value}
    {f1 : Addr} {od1 an1 : Option Addr} {sl1 : Array (Option Value)} {oc1 kV1 dc1 pm1 cd1 ct1 : Value}
    {f2 : Addr} {od2 an2 : Option Addr} {sl2 : Array (Option Value)} {oc2 kV2 dc2 pm2 cd2 ct2 : Value}
    {f3 : Addr} {od3 an3 : Option Addr} {sl3 : Array (Option Value)} {oc3 kV3 dc3 pm3 cd3 ct3 : Value}
    {f4 : Addr} {od4 an4 : Option Addr} {sl4 : Array (Option Value)} {oc4 kV4 dc4 pm4 cd4 ct4 : Value}
    {f5 : Addr} {od5 an5 : Option Addr} {sl5 : Array (Option Value)} {oc5 kV5 dc5 pm5 cd5 ct5 : Value}
    {f6 : Addr} {od6 an6 : Option Addr} {sl6 : Array (Option Value)} {oc6 kV6 dc6 pm6 cd6 ct6 : Value}
    {f7 : Addr} {od7 an7 : Option Addr} {sl7 : Array (Option Value)} {oc7 kV7 dc7 pm7 cd7 ct7 : Value}
    {f8 : Addr} {od8 an8 : Option Addr} {sl8 : Array (Option Value)} {oc8 kV8 dc8 pm8 cd8 ct8 : Value}
    {f9 : Addr} {od9 an9 : Option Addr} {sl9 : Array (Option Value)} {oc9 kV9 dc9 pm9 cd9 ct9 : Value}
    {f10 : Addr} {od10 an10 : Option Addr} {sl10 : Array (Option Value)} {oc10 kV10 dc10 pm10 cd10 ct10 : Value}
    {f11 : Addr} {od11 an11 : Option Addr} {sl11 : Array (Option Value)} {oc11 kV11 dc11 pm11 cd11 ct11 : Value}
    {f12 : Addr} {od12 an12 : Option Addr} {sl12 : Array (Option Value)} {oc12 kV12 dc12 pm12 cd12 ct12 : Value}
    {f13 : Addr} {od13 an13 : Option Addr} {sl13 : Array (Option Value)} {oc13 kV13 dc13 pm13 cd13 ct13 : Value}
    {f14 : Addr} {od14 an14 : Option Addr} {sl14 : Array (Option Value)} {oc14 kV14 dc14 pm14 cd14 ct14 : Value}
    {f15 : Addr} {od15 an15 : Option Addr} {sl15 : Array (Option Value)} {oc15 kV15 dc15 pm15 cd15 ct15 : Value}
    {f16 : Addr} {od16 an16 : Option Addr} {sl16 : Array (Option Value)} {oc16 kV16 dc16 pm16 cd16 ct16 : Value}
    {f17 : Addr} {od17 an17 : Option Addr} {sl17 : Array (Option Value)} {oc17 kV17 dc17 pm17 cd17 ct17 : Value}
    {f18 : Addr} {od18 an18 : Option Addr} {sl18 : Array (Option Value)} {oc18 kV18 dc18 pm18 cd18 ct18 : Value}
    {f19 : Addr} {od19 an19 : Option Addr} {sl19 : Array (Option Value)} {oc19 kV19 dc19 pm19 cd19 ct19 : Value}
    {f20 : Addr} {od20 an20 : Option Addr} {sl20 : Array (Option Value)} {oc20 kV20 dc20 pm20 cd20 ct20 : Value}
    {f21 : Addr} {od21 an21 : Option Addr} {sl21 : Array (Option Value)} {oc21 kV21 dc21 pm21 cd21 ct21 : Value}
    {f22 : Addr} {od22 an22 : Option Addr} {sl22 : Array (Option Value)} {oc22 kV22 dc22 pm22 cd22 ct22 : Value}
    {f23 : Addr} {od23 an23 : Option Addr} {sl23 : Array (Option Value)} {oc23 kV23 dc23 pm23 cd23 ct23 : Value}
    {f24 : Addr} {od24 an24 : Option Addr} {sl24 : Array (Option Value)} {oc24 kV24 dc24 pm24 cd24 ct24 : Value}
    {f25 : Addr} {od25 an25 : Option Addr} {sl25 : Array (Option Value)} {oc25 kV25 dc25 pm25 cd25 ct25 : Value}
    {f26 : Addr} {od26 an26 : Option Addr} {sl26 : Array (Option Value)} {oc26 kV26 dc26 pm26 cd26 ct26 : Value}
    {f27 : Addr} {od27 an27 : Option Addr} {sl27 : Array (Option Value)} {oc27 kV27 dc27 pm27 cd27 ct27 : Value}
    {f28 : Addr} {od28 an28 : Option Addr} {sl28 : Array (Option Value)} {oc28 kV28 dc28 pm28 cd28 ct28 : Value}
    {f29 : Addr} {od29 an29 : Option Addr} {sl29 : Array (Option Value)} {oc29 kV29 dc29 pm29 cd29 ct29 : Value}
    {f30 : Addr} {od30 an30 : Option Addr} {sl30 : Array (Option Value)} {oc30 kV30 dc30 pm30 cd30 ct30 : Value}
    {f31 : Addr} {od31 an31 : Option Addr} {sl31 : Array (Option Value)} {oc31 kV31 dc31 pm31 cd31 ct31 : Value}
    {f32 : Addr} {od32 an32 : Option Addr} {sl32 : Array (Option Value)} {oc32 kV32 dc32 pm32 cd32 ct32 : Value}
    {f33 : Addr} {od33 an33 : Option Addr} {sl33 : Array (Option Value)} {oc33 kV33 dc33 pm33 cd33 ct33 : Value}
    {f34 : Addr} {od34 an34 : Option Addr} {sl34 : Array (Option Value)} {oc34 kV34 dc34 pm34 cd34 ct34 : Value}
    {f35 : Addr} {od35 an35 : Option Addr} {sl35 : Array (Option Value)} {oc35 kV35 dc35 pm35 cd35 ct35 : Value}
    {f36 : Addr} {od36 an36 : Option Addr} {sl36 : Array (Option Value)} {oc36 kV36 dc36 pm36 cd36 ct36 : Value}
    {f37 : Addr} {od37 an37 : Option Addr} {sl37 : Array (Option Value)} {oc37 kV37 dc37 pm37 cd37 ct37 : Value}
    {f38 : Addr} {od38 an38 : Option Addr} {sl38 : Array (Option Value)} {oc38 kV38 dc38 pm38 cd38 ct38 : Value}
    {f39 : Addr} {od39 an39 : Option Addr} {sl39 : Array (Option Value)} {oc39 kV39 dc39 pm39 cd39 ct39 : Value}
    {f40 : Addr} {od40 an40 : Option Addr} {sl40 : Array (Option Value)} {oc40 kV40 dc40 pm40 cd40 ct40 : Value}
    {f41 : Addr} {od41 an41 : Option Addr} {sl41 : Array (Option Value)} {oc41 kV41 dc41 pm41 cd41 ct41 : Value}
    {f42 : Addr} {od42 an42 : Option Addr} {sl42 : Array (Option Value)} {oc42 kV42 dc42 pm42 cd42 ct42 : Value}
    {f43 : Addr} {od43 an43 : Option Addr} {sl43 : Array (Option Value)} {oc43 kV43 dc43 pm43 cd43 ct43 : Value}
    (a0 : PySem.W.nsIn K mainGlobals "shared" = some (some (.ref f0))) (l0 : K.lookup f0 = some ⟨oc0, od0, .func (PySem.W.fnOf "shared" "shared" (defArgs s_shared) (defBody s_shared) (defScope s_shared) .none kV0 dc0 pm0 an0 cd0 ct0), sl0⟩) (c0 : PySem.W.codeIn K cd0 "shared" = true) (k0 : PySem.W.keepIn K (.ref f0) = true)
    (a1 : PySem.W.nsIn K mainGlobals "told_order" = some (some (.ref f1))) (l1 : K.lookup f1 = some ⟨oc1, od1, .func (PySem.W.fnOf "told_order" "told_order" (defArgs s_told_order) (defBody s_told_order) (defScope s_told_order) .none kV1 dc1 pm1 an1 cd1 ct1), sl1⟩) (c1 : PySem.W.codeIn K cd1 "told_order" = true) (k1 : PySem.W.keepIn K (.ref f1) = true)
    {T2 : Addr} {ocd2 : Value} {odd2 : Option Addr} {nd2 : Nat} {sld2 : Array (Option Value)}
    {tkd2_0 : Tok}
    (a2 : PySem.W.findIn K (.ref CRatio) "__init__" = some (some (.ref f2))) (i2 : PySem.W.isFn K (.ref f2) = true) (l2 : K.lookup f2 = some ⟨oc2, od2, .func (PySem.W.fnOf "__init__" "Ratio.__init__" (defArgs s_Ratio___init__) (defBody s_Ratio___init__) (defScope s_Ratio___init__) (.ref T2) kV2 dc2 pm2 an2 cd2 ct2), sl2⟩) (c2 : PySem.W.codeIn K cd2 "Ratio.__init__" = true) (k2 : PySem.W.keepIn K (.ref f2) = true)
    (d2 : K.lookup T2 = some ⟨ocd2, odd2, .seq #[.int 1 tkd2_0] nd2, sld2⟩)
    (a3 : PySem.W.findIn K (.ref CRatio) "plus" = some (some (.ref f3))) (i3 : PySem.W.isFn K (.ref f3) = true) (l3 : K.lookup f3 = some ⟨oc3, od3, .func (PySem.W.fnOf "plus" "Ratio.plus" (defArgs s_Ratio_plus) (defBody s_Ratio_plus) (defScope s_Ratio_plus) .none kV3 dc3 pm3 an3 cd3 ct3), sl3⟩) (c3 : PySem.W.codeIn K cd3 "Ratio.plus" = true) (k3 : PySem.W.keepIn K (.ref f3) = true)
    (a4 : PySem.W.findIn K (.ref CRatio) "minus" = some (some (.ref f4))) (i4 : PySem.W.isFn K (.ref f4) = true) (l4 : K.lookup f4 = some ⟨oc4, od4, .func (PySem.W.fnOf "minus" "Ratio.minus" (defArgs s_Ratio_minus) (defBody s_Ratio_minus) (defScope s_Ratio_minus) .none kV4 dc4 pm4 an4 cd4 ct4), sl4⟩) (c4 : PySem.W.codeIn K cd4 "Ratio.minus" = true) (k4 : PySem.W.keepIn K (.ref f4) = true)
    (a5 : PySem.W.findIn K (.ref CRatio) "times" = some (some (.ref f5))) (i5 : PySem.W.isFn K (.ref f5) = true) (l5 : K.lookup f5 = some ⟨oc5, od5, .func (PySem.W.fnOf "times" "Ratio.times" (defArgs s_Ratio_times) (defBody s_Ratio_times) (defScope s_Ratio_times) .none kV5 dc5 pm5 an5 cd5 ct5), sl5⟩) (c5 : PySem.W.codeIn K cd5 "Ratio.times" = true) (k5 : PySem.W.keepIn K (.ref f5) = true)
    (a6 : PySem.W.findIn K (.ref CRatio) "over" = some (some (.ref f6))) (i6 : PySem.W.isFn K (.ref f6) = true) (l6 : K.lookup f6 = some ⟨oc6, od6, .func (PySem.W.fnOf "over" "Ratio.over" (defArgs s_Ratio_over) (defBody s_Ratio_over) (defScope s_Ratio_over) .none kV6 dc6 pm6 an6 cd6 ct6), sl6⟩) (c6 : PySem.W.codeIn K cd6 "Ratio.over" = true) (k6 : PySem.W.keepIn K (.ref f6) = true)
    (a7 : PySem.W.findIn K (.ref CRatio) "against" = some (some (.ref f7))) (i7 : PySem.W.isFn K (.ref f7) = true) (l7 : K.lookup f7 = some ⟨oc7, od7, .func (PySem.W.fnOf "against" "Ratio.against" (defArgs s_Ratio_against) (defBody s_Ratio_against) (defScope s_Ratio_against) .none kV7 dc7 pm7 an7 cd7 ct7), sl7⟩) (c7 : PySem.W.codeIn K cd7 "Ratio.against" = true) (k7 : PySem.W.keepIn K (.ref f7) = true)
    (a8 : PySem.W.findIn K (.ref CRatio) "floor" = some (some (.ref f8))) (i8 : PySem.W.isFn K (.ref f8) = true) (l8 : K.lookup f8 = some ⟨oc8, od8, .func (PySem.W.fnOf "floor" "Ratio.floor" (defArgs s_Ratio_floor) (defBody s_Ratio_floor) (defScope s_Ratio_floor) .none kV8 dc8 pm8 an8 cd8 ct8), sl8⟩) (c8 : PySem.W.codeIn K cd8 "Ratio.floor" = true) (k8 : PySem.W.keepIn K (.ref f8) = true)
    (a9 : PySem.W.nsIn K mainGlobals "poly" = some (some (.ref f9))) (l9 : K.lookup f9 = some ⟨oc9, od9, .func (PySem.W.fnOf "poly" "poly" (defArgs s_poly) (defBody s_poly) (defScope s_poly) .none kV9 dc9 pm9 an9 cd9 ct9), sl9⟩) (c9 : PySem.W.codeIn K cd9 "poly" = true) (k9 : PySem.W.keepIn K (.ref f9) = true)
    (a10 : PySem.W.nsIn K mainGlobals "degree" = some (some (.ref f10))) (l10 : K.lookup f10 = some ⟨oc10, od10, .func (PySem.W.fnOf "degree" "degree" (defArgs s_degree) (defBody s_degree) (defScope s_degree) .none kV10 dc10 pm10 an10 cd10 ct10), sl10⟩) (c10 : PySem.W.codeIn K cd10 "degree" = true) (k10 : PySem.W.keepIn K (.ref f10) = true)
    (a11 : PySem.W.nsIn K mainGlobals "slope" = some (some (.ref f11))) (l11 : K.lookup f11 = some ⟨oc11, od11, .func (PySem.W.fnOf "slope" "slope" (defArgs s_slope) (defBody s_slope) (defScope s_slope) .none kV11 dc11 pm11 an11 cd11 ct11), sl11⟩) (c11 : PySem.W.codeIn K cd11 "slope" = true) (k11 : PySem.W.keepIn K (.ref f11) = true)
    (a12 : PySem.W.nsIn K mainGlobals "shrunk" = some (some (.ref f12))) (l12 : K.lookup f12 = some ⟨oc12, od12, .func (PySem.W.fnOf "shrunk" "shrunk" (defArgs s_shrunk) (defBody s_shrunk) (defScope s_shrunk) .none kV12 dc12 pm12 an12 cd12 ct12), sl12⟩) (c12 : PySem.W.codeIn K cd12 "shrunk" = true) (k12 : PySem.W.keepIn K (.ref f12) = true)
    (a13 : PySem.W.nsIn K mainGlobals "plain" = some (some (.ref f13))) (l13 : K.lookup f13 = some ⟨oc13, od13, .func (PySem.W.fnOf "plain" "plain" (defArgs s_plain) (defBody s_plain) (defScope s_plain) .none kV13 dc13 pm13 an13 cd13 ct13), sl13⟩) (c13 : PySem.W.codeIn K cd13 "plain" = true) (k13 : PySem.W.keepIn K (.ref f13) = true)
    (a14 : PySem.W.nsIn K mainGlobals "top_at" = some (some (.ref f14))) (l14 : K.lookup f14 = some ⟨oc14, od14, .func (PySem.W.fnOf "top_at" "top_at" (defArgs s_top_at) (defBody s_top_at) (defScope s_top_at) .none kV14 dc14 pm14 an14 cd14 ct14), sl14⟩) (c14 : PySem.W.codeIn K cd14 "top_at" = true) (k14 : PySem.W.keepIn K (.ref f14) = true)
    (a15 : PySem.W.nsIn K mainGlobals "sign_at" = some (some (.ref f15))) (l15 : K.lookup f15 = some ⟨oc15, od15, .func (PySem.W.fnOf "sign_at" "sign_at" (defArgs s_sign_at) (defBody s_sign_at) (defScope s_sign_at) .none kV15 dc15 pm15 an15 cd15 ct15), sl15⟩) (c15 : PySem.W.codeIn K cd15 "sign_at" = true) (k15 : PySem.W.keepIn K (.ref f15) = true)
    (a16 : PySem.W.nsIn K mainGlobals "divided" = some (some (.ref f16))) (l16 : K.lookup f16 = some ⟨oc16, od16, .func (PySem.W.fnOf "divided" "divided" (defArgs s_divided) (defBody s_divided) (defScope s_divided) .none kV16 dc16 pm16 an16 cd16 ct16), sl16⟩) (c16 : PySem.W.codeIn K cd16 "divided" = true) (k16 : PySem.W.keepIn K (.ref f16) = true)
    (a17 : PySem.W.nsIn K mainGlobals "common" = some (some (.ref f17))) (l17 : K.lookup f17 = some ⟨oc17, od17, .func (PySem.W.fnOf "common" "common" (defArgs s_common) (defBody s_common) (defScope s_common) .none kV17 dc17 pm17 an17 cd17 ct17), sl17⟩) (c17 : PySem.W.codeIn K cd17 "common" = true) (k17 : PySem.W.keepIn K (.ref f17) = true)
    (a18 : PySem.W.nsIn K mainGlobals "part" = some (some (.ref f18))) (l18 : K.lookup f18 = some ⟨oc18, od18, .func (PySem.W.fnOf "part" "part" (defArgs s_part) (defBody s_part) (defScope s_part) .none kV18 dc18 pm18 an18 cd18 ct18), sl18⟩) (c18 : PySem.W.codeIn K cd18 "part" = true) (k18 : PySem.W.keepIn K (.ref f18) = true)
    (a19 : PySem.W.nsIn K mainGlobals "without_squares" = some (some (.ref f19))) (l19 : K.lookup f19 = some ⟨oc19, od19, .func (PySem.W.fnOf "without_squares" "without_squares" (defArgs s_without_squares) (defBody s_without_squares) (defScope s_without_squares) .none kV19 dc19 pm19 an19 cd19 ct19), sl19⟩) (c19 : PySem.W.codeIn K cd19 "without_squares" = true) (k19 : PySem.W.keepIn K (.ref f19) = true)
    (a20 : PySem.W.nsIn K mainGlobals "row_of" = some (some (.ref f20))) (l20 : K.lookup f20 = some ⟨oc20, od20, .func (PySem.W.fnOf "row_of" "row_of" (defArgs s_row_of) (defBody s_row_of) (defScope s_row_of) .none kV20 dc20 pm20 an20 cd20 ct20), sl20⟩) (c20 : PySem.W.codeIn K cd20 "row_of" = true) (k20 : PySem.W.keepIn K (.ref f20) = true)
    (a21 : PySem.W.nsIn K mainGlobals "changes" = some (some (.ref f21))) (l21 : K.lookup f21 = some ⟨oc21, od21, .func (PySem.W.fnOf "changes" "changes" (defArgs s_changes) (defBody s_changes) (defScope s_changes) .none kV21 dc21 pm21 an21 cd21 ct21), sl21⟩) (c21 : PySem.W.codeIn K cd21 "changes" = true) (k21 : PySem.W.keepIn K (.ref f21) = true)
    (a22 : PySem.W.nsIn K mainGlobals "count" = some (some (.ref f22))) (l22 : K.lookup f22 = some ⟨oc22, od22, .func (PySem.W.fnOf "count" "count" (defArgs s_count) (defBody s_count) (defScope s_count) .none kV22 dc22 pm22 an22 cd22 ct22), sl22⟩) (c22 : PySem.W.codeIn K cd22 "count" = true) (k22 : PySem.W.keepIn K (.ref f22) = true)
    (a23 : PySem.W.nsIn K mainGlobals "bound" = some (some (.ref f23))) (l23 : K.lookup f23 = some ⟨oc23, od23, .func (PySem.W.fnOf "bound" "bound" (defArgs s_bound) (defBody s_bound) (defScope s_bound) .none kV23 dc23 pm23 an23 cd23 ct23), sl23⟩) (c23 : PySem.W.codeIn K cd23 "bound" = true) (k23 : PySem.W.keepIn K (.ref f23) = true)
    (a24 : PySem.W.nsIn K mainGlobals "halfway" = some (some (.ref f24))) (l24 : K.lookup f24 = some ⟨oc24, od24, .func (PySem.W.fnOf "halfway" "halfway" (defArgs s_halfway) (defBody s_halfway) (defScope s_halfway) .none kV24 dc24 pm24 an24 cd24 ct24), sl24⟩) (c24 : PySem.W.codeIn K cd24 "halfway" = true) (k24 : PySem.W.keepIn K (.ref f24) = true)
    (a25 : PySem.W.nsIn K mainGlobals "narrowed" = some (some (.ref f25))) (l25 : K.lookup f25 = some ⟨oc25, od25, .func (PySem.W.fnOf "narrowed" "narrowed" (defArgs s_narrowed) (defBody s_narrowed) (defScope s_narrowed) .none kV25 dc25 pm25 an25 cd25 ct25), sl25⟩) (c25 : PySem.W.codeIn K cd25 "narrowed" = true) (k25 : PySem.W.keepIn K (.ref f25) = true)
    (a26 : PySem.W.nsIn K mainGlobals "least" = some (some (.ref f26))) (l26 : K.lookup f26 = some ⟨oc26, od26, .func (PySem.W.fnOf "least" "least" (defArgs s_least) (defBody s_least) (defScope s_least) .none kV26 dc26 pm26 an26 cd26 ct26), sl26⟩) (c26 : PySem.W.codeIn K cd26 "least" = true) (k26 : PySem.W.keepIn K (.ref f26) = true)
    (a27 : PySem.W.findIn K (.ref CNumber) "__init__" = some (some (.ref f27))) (i27 : PySem.W.isFn K (.ref f27) = true) (l27 : K.lookup f27 = some ⟨oc27, od27, .func (PySem.W.fnOf "__init__" "Number.__init__" (defArgs s_Number___init__) (defBody s_Number___init__) (defScope s_Number___init__) .none kV27 dc27 pm27 an27 cd27 ct27), sl27⟩) (c27 : PySem.W.codeIn K cd27 "Number.__init__" = true) (k27 : PySem.W.keepIn K (.ref f27) = true)
    (a28 : PySem.W.nsIn K mainGlobals "look_at_size" = some (some (.ref f28))) (l28 : K.lookup f28 = some ⟨oc28, od28, .func (PySem.W.fnOf "look_at_size" "look_at_size" (defArgs s_look_at_size) (defBody s_look_at_size) (defScope s_look_at_size) .none kV28 dc28 pm28 an28 cd28 ct28), sl28⟩) (c28 : PySem.W.codeIn K cd28 "look_at_size" = true) (k28 : PySem.W.keepIn K (.ref f28) = true)
    (a29 : PySem.W.nsIn K mainGlobals "settled" = some (some (.ref f29))) (l29 : K.lookup f29 = some ⟨oc29, od29, .func (PySem.W.fnOf "settled" "settled" (defArgs s_settled) (defBody s_settled) (defScope s_settled) .none kV29 dc29 pm29 an29 cd29 ct29), sl29⟩) (c29 : PySem.W.codeIn K cd29 "settled" = true) (k29 : PySem.W.keepIn K (.ref f29) = true)
    {T30 : Addr} {ocd30 : Value} {odd30 : Option Addr} {nd30 : Nat} {sld30 : Array (Option Value)}
    (a30 : PySem.W.nsIn K mainGlobals "number" = some (some (.ref f30))) (l30 : K.lookup f30 = some ⟨oc30, od30, .func (PySem.W.fnOf "number" "number" (defArgs s_number) (defBody s_number) (defScope s_number) (.ref T30) kV30 dc30 pm30 an30 cd30 ct30), sl30⟩) (c30 : PySem.W.codeIn K cd30 "number" = true) (k30 : PySem.W.keepIn K (.ref f30) = true)
    (d30 : K.lookup T30 = some ⟨ocd30, odd30, .seq #[.none, .none] nd30, sld30⟩)
    (a31 : PySem.W.nsIn K mainGlobals "fraction" = some (some (.ref f31))) (l31 : K.lookup f31 = some ⟨oc31, od31, .func (PySem.W.fnOf "fraction" "fraction" (defArgs s_fraction) (defBody s_fraction) (defScope s_fraction) .none kV31 dc31 pm31 an31 cd31 ct31), sl31⟩) (c31 : PySem.W.codeIn K cd31 "fraction" = true) (k31 : PySem.W.keepIn K (.ref f31) = true)
    (a32 : PySem.W.nsIn K mainGlobals "narrow" = some (some (.ref f32))) (l32 : K.lookup f32 = some ⟨oc32, od32, .func (PySem.W.fnOf "narrow" "narrow" (defArgs s_narrow) (defBody s_narrow) (defScope s_narrow) .none kV32 dc32 pm32 an32 cd32 ct32), sl32⟩) (c32 : PySem.W.codeIn K cd32 "narrow" = true) (k32 : PySem.W.keepIn K (.ref f32) = true)
    (a33 : PySem.W.nsIn K mainGlobals "against" = some (some (.ref f33))) (l33 : K.lookup f33 = some ⟨oc33, od33, .func (PySem.W.fnOf "against" "against" (defArgs s_against) (defBody s_against) (defScope s_against) .none kV33 dc33 pm33 an33 cd33 ct33), sl33⟩) (c33 : PySem.W.codeIn K cd33 "against" = true) (k33 : PySem.W.keepIn K (.ref f33) = true)
    (a34 : PySem.W.nsIn K mainGlobals "sign_of" = some (some (.ref f34))) (l34 : K.lookup f34 = some ⟨oc34, od34, .func (PySem.W.fnOf "sign_of" "sign_of" (defArgs s_sign_of) (defBody s_sign_of) (defScope s_sign_of) .none kV34 dc34 pm34 an34 cd34 ct34), sl34⟩) (c34 : PySem.W.codeIn K cd34 "sign_of" = true) (k34 : PySem.W.keepIn K (.ref f34) = true)
    (a35 : PySem.W.nsIn K mainGlobals "of_a_fraction_reckon" = some (some (.ref f35))) (l35 : K.lookup f35 = some ⟨oc35, od35, .func (PySem.W.fnOf "of_a_fraction" "of_a_fraction" (defArgs s_of_a_fraction_reckon) (defBody s_of_a_fraction_reckon) (defScope s_of_a_fraction_reckon) .none kV35 dc35 pm35 an35 cd35 ct35), sl35⟩) (c35 : PySem.W.codeIn K cd35 "of_a_fraction" = true) (k35 : PySem.W.keepIn K (.ref f35) = true)
    (a36 : PySem.W.nsIn K mainGlobals "fraction_of" = some (some (.ref f36))) (l36 : K.lookup f36 = some ⟨oc36, od36, .func (PySem.W.fnOf "fraction_of" "fraction_of" (defArgs s_fraction_of) (defBody s_fraction_of) (defScope s_fraction_of) .none kV36 dc36 pm36 an36 cd36 ct36), sl36⟩) (c36 : PySem.W.codeIn K cd36 "fraction_of" = true) (k36 : PySem.W.keepIn K (.ref f36) = true)
    (a37 : PySem.W.nsIn K mainGlobals "opposite" = some (some (.ref f37))) (l37 : K.lookup f37 = some ⟨oc37, od37, .func (PySem.W.fnOf "opposite" "opposite" (defArgs s_opposite) (defBody s_opposite) (defScope s_opposite) .none kV37 dc37 pm37 an37 cd37 ct37), sl37⟩) (c37 : PySem.W.codeIn K cd37 "opposite" = true) (k37 : PySem.W.keepIn K (.ref f37) = true)
    (a38 : PySem.W.nsIn K mainGlobals "steps" = some (some (.ref f38))) (l38 : K.lookup f38 = some ⟨oc38, od38, .func (PySem.W.fnOf "steps" "steps" (defArgs s_steps) (defBody s_steps) (defScope s_steps) .none kV38 dc38 pm38 an38 cd38 ct38), sl38⟩) (c38 : PySem.W.codeIn K cd38 "steps" = true) (k38 : PySem.W.keepIn K (.ref f38) = true)
    {T39 : Addr} {ocd39 : Value} {odd39 : Option Addr} {nd39 : Nat} {sld39 : Array (Option Value)}
    {tkd39_0 : Tok}
    (a39 : PySem.W.nsIn K mainGlobals "figures" = some (some (.ref f39))) (l39 : K.lookup f39 = some ⟨oc39, od39, .func (PySem.W.fnOf "figures" "figures" (defArgs s_figures) (defBody s_figures) (defScope s_figures) (.ref T39) kV39 dc39 pm39 an39 cd39 ct39), sl39⟩) (c39 : PySem.W.codeIn K cd39 "figures" = true) (k39 : PySem.W.keepIn K (.ref f39) = true)
    (d39 : K.lookup T39 = some ⟨ocd39, odd39, .seq #[.int 6 tkd39_0] nd39, sld39⟩)
    (a40 : PySem.W.nsIn K mainGlobals "_law_cell_at" = some (some (.ref f40))) (l40 : K.lookup f40 = some ⟨oc40, od40, .func (PySem.W.fnOf "_law_cell_at" "_law_cell_at" (defArgs s__law_cell_at) (defBody s__law_cell_at) (defScope s__law_cell_at) .none kV40 dc40 pm40 an40 cd40 ct40), sl40⟩) (c40 : PySem.W.codeIn K cd40 "_law_cell_at" = true) (k40 : PySem.W.keepIn K (.ref f40) = true)
    (a41 : PySem.W.nsIn K mainGlobals "_law_power" = some (some (.ref f41))) (l41 : K.lookup f41 = some ⟨oc41, od41, .func (PySem.W.fnOf "_law_power" "_law_power" (defArgs s__law_power) (defBody s__law_power) (defScope s__law_power) .none kV41 dc41 pm41 an41 cd41 ct41), sl41⟩) (c41 : PySem.W.codeIn K cd41 "_law_power" = true) (k41 : PySem.W.keepIn K (.ref f41) = true)
    (a42 : PySem.W.nsIn K mainGlobals "_law_text" = some (some (.ref f42))) (l42 : K.lookup f42 = some ⟨oc42, od42, .func (PySem.W.fnOf "_law_text" "_law_text" (defArgs s__law_text) (defBody s__law_text) (defScope s__law_text) .none kV42 dc42 pm42 an42 cd42 ct42), sl42⟩) (c42 : PySem.W.codeIn K cd42 "_law_text" = true) (k42 : PySem.W.keepIn K (.ref f42) = true)
    (a43 : PySem.W.nsIn K mainGlobals "law" = some (some (.ref f43))) (l43 : K.lookup f43 = some ⟨oc43, od43, .func (PySem.W.fnOf "law" "law" (defArgs s_law) (defBody s_law) (defScope s_law) .none kV43 dc43 pm43 an43 cd43 ct43), sl43⟩) (c43 : PySem.W.codeIn K cd43 "law" = true) (k43 : PySem.W.keepIn K (.ref f43) = true)
    (spC : PySem.W.specialIn K (.builtin "object.__class__") "__get__" = some (some (.builtin "getset_descriptor.__get__"))) (tkC : PySem.W.takesIn K (.builtin "object.__class__") = some true)
    {tk_GREATEST : Tok} (u_GREATEST : PySem.W.nsIn K mainGlobals "GREATEST" = some (some (.int 1000000000000000000000000000000000000000000000000000000000000 tk_GREATEST)))
    {tk_HIGHEST : Tok} (u_HIGHEST : PySem.W.nsIn K mainGlobals "HIGHEST" = some (some (.int 8 tk_HIGHEST)))
    (z_abs : PySem.W.nsIn K mainGlobals "abs" = some none)
    (z_enumerate : PySem.W.nsIn K mainGlobals "enumerate" = some none)
    (z_int : PySem.W.nsIn K mainGlobals "int" = some none)
    (z_isinstance : PySem.W.nsIn K mainGlobals "isinstance" = some none)
    (z_len : PySem.W.nsIn K mainGlobals "len" = some none)
    (z_list : PySem.W.nsIn K mainGlobals "list" = some none)
    (z_max : PySem.W.nsIn K mainGlobals "max" = some none)
    (z_range : PySem.W.nsIn K mainGlobals "range" = some none)
    (z_reversed : PySem.W.nsIn K mainGlobals "reversed" = some none)
    (z_str : PySem.W.nsIn K mainGlobals "str" = some none)
    : ∃ fd : FuncData, (∀ (s : Shared) (v : Value), BindsTo s fd ⟨[v], []⟩ [("_law_script", v)]) ∧ ∀ base : Heap, K.In base → base.Ns mainGlobals mg → FnOk l.prog w K mg base CX0 10 fa fd ["_law_script"] (sp_law K (fun _ => 0)) := by
  have e := hfa.symm.trans (PySem.W.mg_of X G a43)
  cases e
  have T : Txt K mg (fun s => if s = "Ratio" then CRatio else if s = "Number" then CNumber else 0) (fun i => [f0, f1, f2, f3, f4, f5, f6, f7, f8, f9, f10, f11, f12, f13, f14, f15, f16, f17, f18, f19, f20, f21, f22, f23, f24, f25, f26, f27, f28, f29, f30, f31, f32, f33, f34, f35, f36, f37, f38, f39, f40, f41, f42, fa].getD i 0) (fun i => [PySem.W.fnOf "shared" "shared" (defArgs s_shared) (defBody s_shared) (defScope s_shared) .none kV0 dc0 pm0 an0 cd0 ct0, PySem.W.fnOf "told_order" "told_order" (defArgs s_told_order) (defBody s_told_order) (defScope s_told_order) .none kV1 dc1 pm1 an1 cd1 ct1, PySem.W.fnOf "__init__" "Ratio.__init__" (defArgs s_Ratio___init__) (defBody s_Ratio___init__) (defScope s_Ratio___init__) (.ref T2) kV2 dc2 pm2 an2 cd2 ct2, PySem.W.fnOf "plus" "Ratio.plus" (defArgs s_Ratio_plus) (defBody s_Ratio_plus) (defScope s_Ratio_plus) .none kV3 dc3 pm3 an3 cd3 ct3, PySem.W.fnOf "minus" "Ratio.minus" (defArgs s_Ratio_minus) (defBody s_Ratio_minus) (defScope s_Ratio_minus) .none kV4 dc4 pm4 an4 cd4 ct4, PySem.W.fnOf "times" "Ratio.times" (defArgs s_Ratio_times) (defBody s_Ratio_times) (defScope s_Ratio_times) .none kV5 dc5 pm5 an5 cd5 ct5, PySem.W.fnOf "over" "Ratio.over" (defArgs s_Ratio_over) (defBody s_Ratio_over) (defScope s_Ratio_over) .none kV6 dc6 pm6 an6 cd6 ct6, PySem.W.fnOf "against" "Ratio.against" (defArgs s_Ratio_against) (defBody s_Ratio_against) (defScope s_Ratio_against) .none kV7 dc7 pm7 an7 cd7 ct7, PySem.W.fnOf "floor" "Ratio.floor" (defArgs s_Ratio_floor) (defBody s_Ratio_floor) (defScope s_Ratio_floor) .none kV8 dc8 pm8 an8 cd8 ct8, PySem.W.fnOf "poly" "poly" (defArgs s_poly) (defBody s_poly) (defScope s_poly) .none kV9 dc9 pm9 an9 cd9 ct9, PySem.W.fnOf "degree" "degree" (defArgs s_degree) (defBody s_degree) (defScope s_degree) .none kV10 dc10 pm10 an10 cd10 ct10, PySem.W.fnOf "slope" "slope" (defArgs s_slope) (defBody s_slope) (defScope s_slope) .none kV11 dc11 pm11 an11 cd11 ct11, PySem.W.fnOf "shrunk" "shrunk" (defArgs s_shrunk) (defBody s_shrunk) (defScope s_shrunk) .none kV12 dc12 pm12 an12 cd12 ct12, PySem.W.fnOf "plain" "plain" (defArgs s_plain) (defBody s_plain) (defScope s_plain) .none kV13 dc13 pm13 an13 cd13 ct13, PySem.W.fnOf "top_at" "top_at" (defArgs s_top_at) (defBody s_top_at) (defScope s_top_at) .none kV14 dc14 pm14 an14 cd14 ct14, PySem.W.fnOf "sign_at" "sign_at" (defArgs s_sign_at) (defBody s_sign_at) (defScope s_sign_at) .none kV15 dc15 pm15 an15 cd15 ct15, PySem.W.fnOf "divided" "divided" (defArgs s_divided) (defBody s_divided) (defScope s_divided) .none kV16 dc16 pm16 an16 cd16 ct16, PySem.W.fnOf "common" "common" (defArgs s_common) (defBody s_common) (defScope s_common) .none kV17 dc17 pm17 an17 cd17 ct17, PySem.W.fnOf "part" "part" (defArgs s_part) (defBody s_part) (defScope s_part) .none kV18 dc18 pm18 an18 cd18 ct18, PySem.W.fnOf "without_squares" "without_squares" (defArgs s_without_squares) (defBody s_without_squares) (defScope s_without_squares) .none kV19 dc19 pm19 an19 cd19 ct19, PySem.W.fnOf "row_of" "row_of" (defArgs s_row_of) (defBody s_row_of) (defScope s_row_of) .none kV20 dc20 pm20 an20 cd20 ct20, PySem.W.fnOf "changes" "changes" (defArgs s_changes) (defBody s_changes) (defScope s_changes) .none kV21 dc21 pm21 an21 cd21 ct21, PySem.W.fnOf "count" "count" (defArgs s_count) (defBody s_count) (defScope s_count) .none kV22 dc22 pm22 an22 cd22 ct22, PySem.W.fnOf "bound" "bound" (defArgs s_bound) (defBody s_bound) (defScope s_bound) .none kV23 dc23 pm23 an23 cd23 ct23, PySem.W.fnOf "halfway" "halfway" (defArgs s_halfway) (defBody s_halfway) (defScope s_halfway) .none kV24 dc24 pm24 an24 cd24 ct24, PySem.W.fnOf "narrowed" "narrowed" (defArgs s_narrowed) (defBody s_narrowed) (defScope s_narrowed) .none kV25 dc25 pm25 an25 cd25 ct25, PySem.W.fnOf "least" "least" (defArgs s_least) (defBody s_least) (defScope s_least) .none kV26 dc26 pm26 an26 cd26 ct26, PySem.W.fnOf "__init__" "Number.__init__" (defArgs s_Number___init__) (defBody s_Number___init__) (defScope s_Number___init__) .none kV27 dc27 pm27 an27 cd27 ct27, PySem.W.fnOf "look_at_size" "look_at_size" (defArgs s_look_at_size) (defBody s_look_at_size) (defScope s_look_at_size) .none kV28 dc28 pm28 an28 cd28 ct28, PySem.W.fnOf "settled" "settled" (defArgs s_settled) (defBody s_settled) (defScope s_settled) .none kV29 dc29 pm29 an29 cd29 ct29, PySem.W.fnOf "number" "number" (defArgs s_number) (defBody s_number) (defScope s_number) (.ref T30) kV30 dc30 pm30 an30 cd30 ct30, PySem.W.fnOf "fraction" "fraction" (defArgs s_fraction) (defBody s_fraction) (defScope s_fraction) .none kV31 dc31 pm31 an31 cd31 ct31, PySem.W.fnOf "narrow" "narrow" (defArgs s_narrow) (defBody s_narrow) (defScope s_narrow) .none kV32 dc32 pm32 an32 cd32 ct32, PySem.W.fnOf "against" "against" (defArgs s_against) (defBody s_against) (defScope s_against) .none kV33 dc33 pm33 an33 cd33 ct33, PySem.W.fnOf "sign_of" "sign_of" (defArgs s_sign_of) (defBody s_sign_of) (defScope s_sign_of) .none kV34 dc34 pm34 an34 cd34 ct34, PySem.W.fnOf "of_a_fraction" "of_a_fraction" (defArgs s_of_a_fraction_reckon) (defBody s_of_a_fraction_reckon) (defScope s_of_a_fraction_reckon) .none kV35 dc35 pm35 an35 cd35 ct35, PySem.W.fnOf "fraction_of" "fraction_of" (defArgs s_fraction_of) (defBody s_fraction_of) (defScope s_fraction_of) .none kV36 dc36 pm36 an36 cd36 ct36, PySem.W.fnOf "opposite" "opposite" (defArgs s_opposite) (defBody s_opposite) (defScope s_opposite) .none kV37 dc37 pm37 an37 cd37 ct37, PySem.W.fnOf "steps" "steps" (defArgs s_steps) (defBody s_steps) (defScope s_steps) .none kV38 dc38 pm38 an38 cd38 ct38, PySem.W.fnOf "figures" "figures" (defArgs s_figures) (defBody s_figures) (defScope s_figures) (.ref T39) kV39 dc39 pm39 an39 cd39 ct39, PySem.W.fnOf "_law_cell_at" "_law_cell_at" (defArgs s__law_cell_at) (defBody s__law_cell_at) (defScope s__law_cell_at) .none kV40 dc40 pm40 an40 cd40 ct40, PySem.W.fnOf "_law_power" "_law_power" (defArgs s__law_power) (defBody s__law_power) (defScope s__law_power) .none kV41 dc41 pm41 an41 cd41 ct41, PySem.W.fnOf "_law_text" "_law_text" (defArgs s__law_text) (defBody s__law_text) (defScope s__law_text) .none kV42 dc42 pm42 an42 cd42 ct42, PySem.W.fnOf "law" "law" (defArgs s_law) (defBody s_law) (defScope s_law) .none kV43 dc43 pm43 an43 cd43 ct43].getD i (PySem.W.fnOf "law" "law" (defArgs s_law) (defBody s_law) (defScope s_law) .none kV43 dc43 pm43 an43 cd43 ct43)) :=
    { u_GREATEST := ⟨_, PySem.W.mg_of X G u_GREATEST⟩, u_HIGHEST := ⟨_, PySem.W.mg_of X G u_HIGHEST⟩, z_abs := PySem.W.mg_none_of X G z_abs, z_enumerate := PySem.W.mg_none_of X G z_enumerate, z_int := PySem.W.mg_none_of X G z_int, z_isinstance := PySem.W.mg_none_of X G z_isinstance, z_len := PySem.W.mg_none_of X G z_len, z_list := PySem.W.mg_none_of X G z_list, z_max := PySem.W.mg_none_of X G z_max, z_range := PySem.W.mg_none_of X G z_range, z_reversed := PySem.W.mg_none_of X G z_reversed, z_str := PySem.W.mg_none_of X G z_str, g_shared := PySem.W.mg_of X G a0, F_shared := fun_mk (st := s_shared) l0 c0 k0, g_told_order := PySem.W.mg_of X G a1, F_told_order := fun_mk (st := s_told_order) l1 c1 k1, F_Ratio___init__ := funD_mkV (dvs := [.int 1]) (its := [.int 1 tkd2_0]) l2 d2 c2 k2 (by simp) (.cons ⟨_, rfl⟩ .nil), mk_Ratio := ⟨wCRatio, a2, i2, kCRatio⟩, F_Ratio_plus := fun_mk (st := s_Ratio_plus) l3 c3 k3, meth_Ratio_plus := ⟨a3, i3, k3⟩, F_Ratio_minus := fun_mk (st := s_Ratio_minus) l4 c4 k4, meth_Ratio_minus := ⟨a4, i4, k4⟩, F_Ratio_times := fun_mk (st := s_Ratio_times) l5 c5 k5, meth_Ratio_times := ⟨a5, i5, k5⟩, F_Ratio_over := fun_mk (st := s_Ratio_over) l6 c6 k6, meth_Ratio_over := ⟨a6, i6, k6⟩, F_Ratio_against := fun_mk (st := s_Ratio_against) l7 c7 k7, meth_Ratio_against := ⟨a7, i7, k7⟩, F_Ratio_floor := fun_mk (st := s_Ratio_floor) l8 c8 k8, meth_Ratio_floor := ⟨a8, i8, k8⟩, g_poly := PySem.W.mg_of X G a9, F_poly := fun_mk (st := s_poly) l9 c9 k9, g_degree := PySem.W.mg_of X G a10, F_degree := fun_mk (st := s_degree) l10 c10 k10, g_slope := PySem.W.mg_of X G a11, F_slope := fun_mk (st := s_slope) l11 c11 k11, g_shrunk := PySem.W.mg_of X G a12, F_shrunk := fun_mk (st := s_shrunk) l12 c12 k12, g_plain := PySem.W.mg_of X G a13, F_plain := fun_mk (st := s_plain) l13 c13 k13, g_top_at := PySem.W.mg_of X G a14, F_top_at := fun_mk (st := s_top_at) l14 c14 k14, g_sign_at := PySem.W.mg_of X G a15, F_sign_at := fun_mk (st := s_sign_at) l15 c15 k15, g_divided := PySem.W.mg_of X G a16, F_divided := fun_mk (st := s_divided) l16 c16 k16, g_common := PySem.W.mg_of X G a17, F_common := fun_mk (st := s_common) l17 c17 k17, g_part := PySem.W.mg_of X G a18, F_part := fun_mk (st := s_part) l18 c18 k18, g_without_squares := PySem.W.mg_of X G a19, F_without_squares := fun_mk (st := s_without_squares) l19 c19 k19, g_row_of := PySem.W.mg_of X G a20, F_row_of := fun_mk (st := s_row_of) l20 c20 k20, g_changes := PySem.W.mg_of X G a21, F_changes := fun_mk (st := s_changes) l21 c21 k21, g_count := PySem.W.mg_of X G a22, F_count := fun_mk (st := s_count) l22 c22 k22, g_bound := PySem.W.mg_of X G a23, F_bound := fun_mk (st := s_bound) l23 c23 k23, g_halfway := PySem.W.mg_of X G a24, F_halfway := fun_mk (st := s_halfway) l24 c24 k24, g_narrowed := PySem.W.mg_of X G a25, F_narrowed := fun_mk (st := s_narrowed) l25 c25 k25, g_least := PySem.W.mg_of X G a26, F_least := fun_mk (st := s_least) l26 c26 k26, F_Number___init__ := fun_mk (st := s_Number___init__) l27 c27 k27, mk_Number := ⟨wCNumber, a27, i27, kCNumber⟩, g_look_at_size := PySem.W.mg_of X G a28, F_look_at_size := fun_mk (st := s_look_at_size) l28 c28 k28, g_settled := PySem.W.mg_of X G a29, F_settled := fun_mk (st := s_settled) l29 c29 k29, g_number := PySem.W.mg_of X G a30, F_number := funD_mkV (dvs := [.non, .non]) (its := [.none, .none]) l30 d30 c30 k30 (by simp) (.cons rfl (.cons rfl .nil)), g_fraction := PySem.W.mg_of X G a31, F_fraction := fun_mk (st := s_fraction) l31 c31 k31, g_narrow := PySem.W.mg_of X G a32, F_narrow := fun_mk (st := s_narrow) l32 c32 k32, g_against := PySem.W.mg_of X G a33, F_against := fun_mk (st := s_against) l33 c33 k33, g_sign_of := PySem.W.mg_of X G a34, F_sign_of := fun_mk (st := s_sign_of) l34 c34 k34, g_of_a_fraction_reckon := PySem.W.mg_of X G a35, F_of_a_fraction_reckon := fun_mk (st := s_of_a_fraction_reckon) l35 c35 k35, g_fraction_of := PySem.W.mg_of X G a36, F_fraction_of := fun_mk (st := s_fraction_of) l36 c36 k36, g_opposite := PySem.W.mg_of X G a37, F_opposite := fun_mk (st := s_opposite) l37 c37 k37, g_steps := PySem.W.mg_of X G a38, F_steps := fun_mk (st := s_steps) l38 c38 k38, g_figures := PySem.W.mg_of X G a39, F_figures := funD_mkV (dvs := [.int 6]) (its := [.int 6 tkd39_0]) l39 d39 c39 k39 (by simp) (.cons ⟨_, rfl⟩ .nil), g__law_cell_at := PySem.W.mg_of X G a40, F__law_cell_at := fun_mk (st := s__law_cell_at) l40 c40 k40, g__law_power := PySem.W.mg_of X G a41, F__law_power := fun_mk (st := s__law_power) l41 c41 k41, g__law_text := PySem.W.mg_of X G a42, F__law_text := fun_mk (st := s__law_text) l42 c42 k42, g_law := PySem.W.mg_of X G a43, F_law := fun_mk (st := s_law) l43 c43 k43, q_Ratio := PySem.W.mg_of X G aCRatio, cls_Ratio := ⟨pCRatio, hCRatio, oCRatio, yCRatio⟩, q_Number := PySem.W.mg_of X G aCNumber, cls_Number := ⟨pCNumber, hCNumber, oCNumber, yCNumber⟩, ex := { cl_Ratio := ⟨pCRatio, hCRatio, oCRatio, yCRatio⟩, is_Ratio := ⟨lCRatio, spC, tkC, mCRatio⟩, cl_Number := ⟨pCNumber, hCNumber, oCNumber, yCNumber⟩, is_Number := ⟨lCNumber, spC, tkC, mCNumber⟩, n_Number_high := nNumber_high, n_Number_low := nNumber_low, n_Number_poly := nNumber_poly, n_Ratio_bottom := nRatio_bottom, n_Ratio_top := nRatio_top } }
  exact ⟨PySem.W.fnOf "law" "law" (defArgs s_law) (defBody s_law) (defScope s_law) .none kV43 dc43 pm43 an43 cd43 ct43, fun s v => .of_eq rfl, fun base _ _ => ok_law T⟩
end RP
open PySem PySem.W PyProof.Rows
set_option maxHeartbeats 0 in
theorem PySem.Challenge.cw_rootspan_k72_figures_of_fractions_holds : PySem.Challenge.rw_rootspan_k72_figures_of_fractions.Holds := by
  w_on; o_law; k_head; (case hw => w_witness2)
  k_fill
  refine L2.walk_of (l := PySem.Challenge.rw_rootspan_k72_figures_of_fractions) (n := 63) (k := 10) (x := "_law_script") (CX := fun _ => L2.CX0) (sp := fun w => RP.sp_law _ (fun _ => 0)) rfl (by decide) rfl ⟨rfl, by decide, by decide⟩ (fun w h Y => PySem.W.kIn_of Y) ?F (fun _ _ a ns hl _ hS => ⟨a, ns, rfl, hS, hl, fun _ => rfl⟩) (fun _ _ _ _ _ h => h)
  case F =>
    intro w mg fa h KX G hmg
    refine' RP.all_mk KX G hmg ?aCRatio ?kCRatio ?pCRatio ?hCRatio ?oCRatio ?yCRatio ?wCRatio ?lCRatio ?mCRatio ?aCNumber ?kCNumber ?pCNumber ?hCNumber ?oCNumber ?yCNumber ?wCNumber ?lCNumber ?mCNumber ?nNumber_high ?nNumber_low ?nNumber_poly ?nRatio_bottom ?nRatio_top ?a0 ?l0 ?c0 ?k0 ?a1 ?l1 ?c1 ?k1 ?a2 ?i2 ?l2 ?c2 ?k2 ?d2 ?a3 ?i3 ?l3 ?c3 ?k3 ?a4 ?i4 ?l4 ?c4 ?k4 ?a5 ?i5 ?l5 ?c5 ?k5 ?a6 ?i6 ?l6 ?c6 ?k6 ?a7 ?i7 ?l7 ?c7 ?k7 ?a8 ?i8 ?l8 ?c8 ?k8 ?a9 ?l9 ?c9 ?k9 ?a10 ?l10 ?c10 ?k10 ?a11 ?l11 ?c11 ?k11 ?a12 ?l12 ?c12 ?k12 ?a13 ?l13 ?c13 ?k13 ?a14 ?l14 ?c14 ?k14 ?a15 ?l15 ?c15 ?k15 ?a16 ?l16 ?c16 ?k16 ?a17 ?l17 ?c17 ?k17 ?a18 ?l18 ?c18 ?k18 ?a19 ?l19 ?c19 ?k19 ?a20 ?l20 ?c20 ?k20 ?a21 ?l21 ?c21 ?k21 ?a22 ?l22 ?c22 ?k22 ?a23 ?l23 ?c23 ?k23 ?a24 ?l24 ?c24 ?k24 ?a25 ?l25 ?c25 ?k25 ?a26 ?l26 ?c26 ?k26 ?a27 ?i27 ?l27 ?c27 ?k27 ?a28 ?l28 ?c28 ?k28 ?a29 ?l29 ?c29 ?k29 ?a30 ?l30 ?c30 ?k30 ?d30 ?a31 ?l31 ?c31 ?k31 ?a32 ?l32 ?c32 ?k32 ?a33 ?l33 ?c33 ?k33 ?a34 ?l34 ?c34 ?k34 ?a35 ?l35 ?c35 ?k35 ?a36 ?l36 ?c36 ?k36 ?a37 ?l37 ?c37 ?k37 ?a38 ?l38 ?c38 ?k38 ?a39 ?l39 ?c39 ?k39 ?d39 ?a40 ?l40 ?c40 ?k40 ?a41 ?l41 ?c41 ?k41 ?a42 ?l42 ?c42 ?k42 ?a43 ?l43 ?c43 ?k43 ?spC ?tkC ?u_GREATEST ?u_HIGHEST ?z_abs ?z_enumerate ?z_int ?z_isinstance ?z_len ?z_list ?z_max ?z_range ?z_reversed ?z_str
    (case aCRatio => k_is); (case kCRatio => k_is); (case pCRatio => k_is); (case hCRatio => k_is); (case oCRatio => k_is); (case yCRatio => k_is); (case wCRatio => k_is); (case lCRatio => k_is); (case mCRatio => k_is); (case aCNumber => k_is); (case kCNumber => k_is); (case pCNumber => k_is); (case hCNumber => k_is); (case oCNumber => k_is); (case yCNumber => k_is); (case wCNumber => k_is); (case lCNumber => k_is); (case mCNumber => k_is); (case nNumber_high => k_is); (case nNumber_low => k_is); (case nNumber_poly => k_is); (case nRatio_bottom => k_is); (case nRatio_top => k_is); (case a0 => k_is); (case l0 => k_is); (case c0 => k_is); (case k0 => k_is); (case a1 => k_is); (case l1 => k_is); (case c1 => k_is); (case k1 => k_is); (case a2 => k_is); (case i2 => k_is); (case l2 => k_is); (case c2 => k_is); (case k2 => k_is); (case d2 => k_is); (case a3 => k_is); (case i3 => k_is); (case l3 => k_is); (case c3 => k_is); (case k3 => k_is); (case a4 => k_is); (case i4 => k_is); (case l4 => k_is); (case c4 => k_is); (case k4 => k_is); (case a5 => k_is); (case i5 => k_is); (case l5 => k_is); (case c5 => k_is); (case k5 => k_is); (case a6 => k_is); (case i6 => k_is); (case l6 => k_is); (case c6 => k_is); (case k6 => k_is); (case a7 => k_is); (case i7 => k_is); (case l7 => k_is); (case c7 => k_is); (case k7 => k_is); (case a8 => k_is); (case i8 => k_is); (case l8 => k_is); (case c8 => k_is); (case k8 => k_is); (case a9 => k_is); (case l9 => k_is); (case c9 => k_is); (case k9 => k_is); (case a10 => k_is); (case l10 => k_is); (case c10 => k_is); (case k10 => k_is); (case a11 => k_is); (case l11 => k_is); (case c11 => k_is); (case k11 => k_is); (case a12 => k_is); (case l12 => k_is); (case c12 => k_is); (case k12 => k_is); (case a13 => k_is); (case l13 => k_is); (case c13 => k_is); (case k13 => k_is); (case a14 => k_is); (case l14 => k_is); (case c14 => k_is); (case k14 => k_is); (case a15 => k_is); (case l15 => k_is); (case c15 => k_is); (case k15 => k_is); (case a16 => k_is); (case l16 => k_is); (case c16 => k_is); (case k16 => k_is); (case a17 => k_is); (case l17 => k_is); (case c17 => k_is); (case k17 => k_is); (case a18 => k_is); (case l18 => k_is); (case c18 => k_is); (case k18 => k_is); (case a19 => k_is); (case l19 => k_is); (case c19 => k_is); (case k19 => k_is); (case a20 => k_is); (case l20 => k_is); (case c20 => k_is); (case k20 => k_is); (case a21 => k_is); (case l21 => k_is); (case c21 => k_is); (case k21 => k_is); (case a22 => k_is); (case l22 => k_is); (case c22 => k_is); (case k22 => k_is); (case a23 => k_is); (case l23 => k_is); (case c23 => k_is); (case k23 => k_is); (case a24 => k_is); (case l24 => k_is); (case c24 => k_is); (case k24 => k_is); (case a25 => k_is); (case l25 => k_is); (case c25 => k_is); (case k25 => k_is); (case a26 => k_is); (case l26 => k_is); (case c26 => k_is); (case k26 => k_is); (case a27 => k_is); (case i27 => k_is); (case l27 => k_is); (case c27 => k_is); (case k27 => k_is); (case a28 => k_is); (case l28 => k_is); (case c28 => k_is); (case k28 => k_is); (case a29 => k_is); (case l29 => k_is); (case c29 => k_is); (case k29 => k_is); (case a30 => k_is); (case l30 => k_is); (case c30 => k_is); (case k30 => k_is); (case d30 => k_is); (case a31 => k_is); (case l31 => k_is); (case c31 => k_is); (case k31 => k_is); (case a32 => k_is); (case l32 => k_is); (case c32 => k_is); (case k32 => k_is); (case a33 => k_is); (case l33 => k_is); (case c33 => k_is); (case k33 => k_is); (case a34 => k_is); (case l34 => k_is); (case c34 => k_is); (case k34 => k_is); (case a35 => k_is); (case l35 => k_is); (case c35 => k_is); (case k35 => k_is); (case a36 => k_is); (case l36 => k_is); (case c36 => k_is); (case k36 => k_is); (case a37 => k_is); (case l37 => k_is); (case c37 => k_is); (case k37 => k_is); (case a38 => k_is); (case l38 => k_is); (case c38 => k_is); (case k38 => k_is); (case a39 => k_is); (case l39 => k_is); (case c39 => k_is); (case k39 => k_is); (case d39 => k_is); (case a40 => k_is); (case l40 => k_is); (case c40 => k_is); (case k40 => k_is); (case a41 => k_is); (case l41 => k_is); (case c41 => k_is); (case k41 => k_is); (case a42 => k_is); (case l42 => k_is); (case c42 => k_is); (case k42 => k_is); (case a43 => k_is); (case l43 => k_is); (case c43 => k_is); (case k43 => k_is); (case spC => first | k_is | rfl | decide +kernel); (case tkC => first | k_is | rfl | decide +kernel); (case u_GREATEST => k_is); (case u_HIGHEST => k_is); (case z_abs => k_is); (case z_enumerate => k_is); (case z_int => k_is); (case z_isinstance => k_is); (case z_len => k_is); (case z_list => k_is); (case z_max => k_is); (case z_range => k_is); (case z_reversed => k_is); (case z_str => k_is)

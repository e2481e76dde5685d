import PyProof.Rows.All
import Wide.All
import OpenK.AllK
import Wide.FinOn
import HandS.ForMost
import HandS.Exc
import HandS.TryOnly
import HandS.ExcOwn
import HandS.WordsExc
import HandS.Wide
import HandS.IsInst
import HandS.Conv
import HandS.RevRange
import HandS.Evl
import HandS.More
import HandS.Style
import HandS.Rev
import PyProof.ListNew
import HandS.Defaults
import PySem.Challenge.RW_rootspan_k37_roots_known
set_option Elab.async false
set_option linter.all false
set_option maxRecDepth 100000
set_option maxHeartbeats 4000000
set_option exponentiation.threshold 100000
set_option linter.all false
set_option maxRecDepth 100000
set_option maxHeartbeats 4000000
namespace RB
open PySem PySem.Spec PyProof.Rows L2
open Evl (Ex rLenS rListS rMax2 tCut pss_cut)

/-! ### the readings' names -/
def rIAdd : R2 := rI0 fun i j => .int (i + j)
def rISub : R2 := rI0 fun i j => .int (i - j)
/-- * of factors that are not too wide, or of any one and a small one -/
def CMulX (i j : Int) : Prop := CMulW i j ∨ j.natAbs < 2 ^ 60
def rMul : R2 := rI CMulX fun i j => .int (i * j)
def rMod : R2 := rI (fun _ j => j ≠ 0) fun i j => .int (i.fmod j)
def CDivA (_ j : Int) : Prop := j ≠ 0 ∧ j.natAbs.log2 < 9000
def rDiv : R2 := rI CDivA fun i j => .int (i.fdiv j)
def rPow : R2 := rI CPow fun i j => .int (i ^ j.toNat)
def rLt : R2 := rI0 fun i j => .bl (decide (i < j))
def rLe : R2 := rI0 fun i j => .bl (decide (i ≤ j))
def rGt : R2 := rI0 fun i j => .bl (decide (j < i))
def rGe : R2 := rI0 fun i j => .bl (decide (j ≤ i))
def rIsN : R2 := fun x y H Q => y = .non ∧ Q (.bl (decide (x = .non))) H
def rNotN : R2 := fun x y H Q => y = .non ∧ Q (.bl (!decide (x = .non))) H
def rNeg : V → Hp → VK → Prop := rU fun i => .int (-i)
def rAbs : List V → Hp → VK → Prop := fun xs H Q => ∃ i, xs = [.int i] ∧ Q (.int (if i < 0 then -i else i)) H
def rMin2 : List V → Hp → VK → Prop := fun xs H Q => ∃ i j, xs = [.int i, .int j] ∧ Q (.int (if j < i then j else i)) H
def rInt1 : List V → Hp → VK → Prop := fun xs H Q => (∃ i, xs = [.int i] ∧ Q (.int i) H) ∨ ∃ k, xs = [.bl k] ∧ Q (.int (if k then 1 else 0)) H
def rAddS : R2 := fun x y H Q => ∃ i j, x = .str i ∧ y = .str j ∧ i.length + j.length ≤ sizeLine ∧ Q (.str (i ++ j)) H
def rLenStr : List V → Hp → VK → Prop := fun xs H Q => ∃ z, xs = [.str z] ∧ z.length ≤ sizeLine ∧ Q (.int z.length) H
def rStrInt : List V → Hp → VK → Prop := fun xs H Q => ∃ i, xs = [.int i] ∧ i.natAbs.log2 < 1920 ∧ Q (.str (toString i)) H
def rInsert : V → List V → Hp → VK → Prop := fun x vs H Q => ∃ (l : Addr) (xs : List V) (i : Int) (y : V), x = .ref l ∧ vs = [.int i, y] ∧ H l = some (.lst xs) ∧ xs.length < sizeLine ∧ 0 ≤ i ∧ i < 2 ^ 63 ∧ Q .non (upd H l (.lst (xs.take i.toNat ++ [y] ++ xs.drop i.toNat)))
section
variable {X : Cx}
theorem op_fdivA : OpR X (binaryOp .FloorDiv) rDiv := opI fun i j _ _ _ _ _ hc q => floordiv_int hc.1 q (.inl (PyProof.noPylong_of_log2 hc.2))
theorem op_mulX : OpR X (binaryOp .Mult) rMul := opI fun _ _ _ _ _ _ _ hc q => mul_int q (hc.elim CMulW.ok fun h => IntMulOk.of_right (intBits_le_64 (by omega) (by omega)))
theorem op_isN1 : OpR X (compareOp .Is) rIsN := op_isN
theorem op_notN1 : OpR X (compareOp .IsNot) rNotN := op_notN
end

/-! ### heaps -/
def Exb (l : Addr) (H H' : Hp) : Prop := ∀ a, a ≠ l → ∀ o, H a = some o → H' a = some o
theorem _root_.Evl.Ex.mutb {H0 H H' : Hp} {l : Addr} (e : Ex H0 H) (b : Exb l H H') (f : H0 l = none) : Ex H0 H' := fun a o h => b a (ne_of_none h f) o (e a o h)
theorem Exb.trans {l : Addr} {H H1 H2 : Hp} (a : Exb l H H1) (b : Exb l H1 H2) : Exb l H H2 := fun c n o h => b c n o (a c n o h)
theorem Exb.ex {l : Addr} {H H1 H2 : Hp} (a : Exb l H H1) (b : Ex H1 H2) : Exb l H H2 := fun c n o h => b c o (a c n o h)
theorem _root_.Evl.Ex.exb {l : Addr} {H H1 H2 : Hp} (a : Ex H H1) (b : Exb l H1 H2) : Exb l H H2 := fun c n o h => b c n o (a c o h)
/-- a list laid anew -/
theorem newL {H : Hp} {xs : List V} {Q : VK} (k : ∀ p H', H p = none → Ex H H' → H' p = some (.lst xs) → Q (.ref p) H') : ∀ p, H p = none → Q (.ref p) (upd H p (.lst xs)) :=
  fun p hp => k p _ hp (Evl.Ex.new hp) upd_same
theorem newT {H : Hp} {xs : List V} {Q : VK} (k : ∀ p H', H p = none → Ex H H' → H' p = some (.tup xs) → Q (.ref p) H') : ∀ p, H p = none → Q (.ref p) (upd H p (.tup xs)) :=
  fun p hp => k p _ hp (Evl.Ex.new hp) upd_same
/-- an object changed -/
theorem mutL {H : Hp} {l : Addr} {o : HO} {G : Hp → Prop} (k : ∀ H', Exb l H H' → H' l = some o → G H') : G (upd H l o) :=
  k _ (fun a n o h => by rw [upd_ne n]; exact h) upd_same
theorem _root_.Evl.Ex.free {H H' : Hp} (e : Ex H H') {p : Addr} (h : H' p = none) : H p = none := Evl.fresh_back e h
theorem _root_.Evl.Ex.l {K : PySem.W.Frag} {H H' : Hp} {a : Addr} {xs : List V} (e : Ex H H') (h : SqL K H a xs) : SqL K H' a xs := Evl.ex_l e h
theorem SqL.inj {K : PySem.W.Frag} {H : Hp} {a : Addr} {xs : List V} (h : H a = some (.lst xs)) : SqL K H a xs := .inl (.inl h)

def LstK (Q : VK) : List V → Hp → Prop := fun xs H1 => xs.length ≤ sizeLine ∧ ∀ p, H1 p = none → Q (.ref p) (upd H1 p (.lst xs))
def TupK (Q : VK) : List V → Hp → Prop := fun xs H1 => xs.length ≤ sizeLine ∧ ∀ p, H1 p = none → Q (.ref p) (upd H1 p (.tup xs))
theorem small0 {n : Nat} (h : n ≤ 16777216) : n ≤ sizeLine := by rw [sizeLine_eq]; exact h
/-! ### readings, step by step -/
section
variable {K : PySem.W.Frag} {σ : L2.St} {H : Hp} {Q : VK} {D : Ends} {ta tb te to ti : TE} {t u : TS} {tt t1 t2 : TT} {g : TG}
theorem r_seq (h : t { D with nx := u D } σ H) : tSeq t u D σ H := h
theorem r_next (h : D.nx σ H) : tNext D σ H := h
theorem r_var {i : Nat} {v : V} (h : σ[i]? = some (some v)) (q : Q v H) : tVar i σ H Q := ⟨v, h, q⟩
theorem r_c {v : V} (q : Q v H) : tC v σ H Q := q
theorem r_op {r : R2} (h : ta σ H fun x H1 => tb σ H1 fun y H2 => r x y H2 Q) : tOp r ta tb σ H Q := h
theorem r_un {r : V → Hp → VK → Prop} (h : ta σ H fun x H1 => r x H1 Q) : tUn r ta σ H Q := h
theorem r_add {i j : Int} (q : Q (.int (i + j)) H) : rIAdd (.int i) (.int j) H Q := ⟨i, j, rfl, rfl, q⟩
theorem r_sub {i j : Int} (q : Q (.int (i - j)) H) : rISub (.int i) (.int j) H Q := ⟨i, j, rfl, rfl, q⟩
theorem r_mul {i j : Int} (c : CMulW i j) (q : Q (.int (i * j)) H) : rMul (.int i) (.int j) H Q := ⟨i, j, rfl, rfl, .inl c, q⟩
theorem r_mulR {i j : Int} (c : j.natAbs < 2 ^ 60) (q : Q (.int (i * j)) H) : rMul (.int i) (.int j) H Q := ⟨i, j, rfl, rfl, .inr c, q⟩
theorem r_mod {i j : Int} (c : j ≠ 0) (q : Q (.int (i.fmod j)) H) : rMod (.int i) (.int j) H Q := ⟨i, j, rfl, rfl, c, q⟩
theorem r_div {i j : Int} (c : CDivA i j) (q : Q (.int (i.fdiv j)) H) : rDiv (.int i) (.int j) H Q := ⟨i, j, rfl, rfl, c, q⟩
theorem r_pow {i j : Int} (c : CPow i j) (q : Q (.int (i ^ j.toNat)) H) : rPow (.int i) (.int j) H Q := ⟨i, j, rfl, rfl, c, q⟩
theorem r_lt {i j : Int} (q : Q (.bl (decide (i < j))) H) : rLt (.int i) (.int j) H Q := ⟨i, j, rfl, rfl, q⟩
theorem r_le {i j : Int} (q : Q (.bl (decide (i ≤ j))) H) : rLe (.int i) (.int j) H Q := ⟨i, j, rfl, rfl, q⟩
theorem r_gt {i j : Int} (q : Q (.bl (decide (j < i))) H) : rGt (.int i) (.int j) H Q := ⟨i, j, rfl, rfl, q⟩
theorem r_ge {i j : Int} (q : Q (.bl (decide (j ≤ i))) H) : rGe (.int i) (.int j) H Q := ⟨i, j, rfl, rfl, q⟩
theorem r_neg {i : Int} (q : Q (.int (-i)) H) : rNeg (.int i) H Q := ⟨i, rfl, q⟩
theorem d_int (i j : Int) : decide (V.int i = V.int j) = decide (i = j) := by
  by_cases h : i = j
  · rw [h]; simp
  · rw [decide_eq_false h, decide_eq_false (fun z => h (V.int.inj z))]
theorem d_bl (i j : Bool) : decide (V.bl i = V.bl j) = decide (i = j) := by
  by_cases h : i = j
  · rw [h]; simp
  · rw [decide_eq_false h, decide_eq_false (fun z => h (V.bl.inj z))]
theorem d_str (i j : Str) : decide (V.str i = V.str j) = decide (i = j) := by
  by_cases h : i = j
  · rw [h]; simp
  · rw [decide_eq_false h, decide_eq_false (fun z => h (V.str.inj z))]
theorem r_eqI {i j : Int} (q : Q (.bl (decide (i = j))) H) : rEq (.int i) (.int j) H Q := ⟨rfl, by rw [d_int]; exact q⟩
theorem r_neI {i j : Int} (q : Q (.bl (!decide (i = j))) H) : rNe (.int i) (.int j) H Q := ⟨rfl, by rw [d_int]; exact q⟩
theorem r_eqB {i j : Bool} (q : Q (.bl (decide (i = j))) H) : rEq (.bl i) (.bl j) H Q := ⟨rfl, by rw [d_bl]; exact q⟩
theorem r_eqS {i j : Str} (q : Q (.bl (decide (i = j))) H) : rEq (.str i) (.str j) H Q := ⟨rfl, by rw [d_str]; exact q⟩
theorem r_neS {i j : Str} (q : Q (.bl (!decide (i = j))) H) : rNe (.str i) (.str j) H Q := ⟨rfl, by rw [d_str]; exact q⟩
theorem r_isN {x : V} (q : Q (.bl (decide (x = .non))) H) : rIsN x .non H Q := ⟨rfl, q⟩
theorem r_notN {x : V} (q : Q (.bl (!decide (x = .non))) H) : rNotN x .non H Q := ⟨rfl, q⟩
theorem r_ixL {p : Addr} {i : Int} {xs : List V} {v : V} (h : SqL K H p xs) (a : atI xs i = some v) (q : Q v H) : rIxL K (.ref p) (.int i) H Q := ⟨p, xs, i, v, rfl, rfl, h, a, q⟩
theorem r_ixT {p : Addr} {i : Int} {xs : List V} {v : V} (h : SqT K H p xs) (a : atI xs i = some v) (q : Q v H) : rIxT K (.ref p) (.int i) H Q := ⟨p, xs, i, v, rfl, rfl, h, a, q⟩
theorem r_cons {ta : TE} {tr : TA} {Q : List V → Hp → Prop} (h : ta σ H fun x H1 => tr σ H1 fun xs H2 => Q (x :: xs) H2) : tCons ta tr σ H Q := h
theorem r_nil {Q : List V → Hp → Prop} (h : Q [] H) : tNil σ H Q := h
theorem r_cb {r : List V → Hp → VK → Prop} {ta : TA} (h : ta σ H fun vs H1 => r vs H1 Q) : tCB r ta σ H Q := h
theorem r_abs {i : Int} (q : Q (.int (if i < 0 then -i else i)) H) : rAbs [.int i] H Q := ⟨i, rfl, q⟩
theorem r_max2 {i j : Int} (q : Q (.int (if j > i then j else i)) H) : rMax2 [.int i, .int j] H Q := ⟨i, j, rfl, q⟩
theorem r_min2 {i j : Int} (q : Q (.int (if j < i then j else i)) H) : rMin2 [.int i, .int j] H Q := ⟨i, j, rfl, q⟩
theorem r_len {p : Addr} {xs : List V} (h : SqL K H p xs) (q : Q (.int xs.length) H) : rLenS K [.ref p] H Q := ⟨p, xs, rfl, .inl h, q⟩
theorem r_lenT {p : Addr} {xs : List V} (h : SqT K H p xs) (q : Q (.int xs.length) H) : rLenS K [.ref p] H Q := ⟨p, xs, rfl, .inr h, q⟩
theorem r_list {p : Addr} {xs : List V} (h : SqL K H p xs) (q : ∀ l H', H l = none → Ex H H' → H' l = some (.lst xs) → Q (.ref l) H') : rListS K [.ref p] H Q := ⟨p, xs, rfl, .inl h, newL q⟩
theorem r_intI {i : Int} (q : Q (.int i) H) : rInt1 [.int i] H Q := .inl ⟨i, rfl, q⟩
theorem r_intB {b : Bool} (q : Q (.int (if b then 1 else 0)) H) : rInt1 [.bl b] H Q := .inr ⟨b, rfl, q⟩
theorem r_call {sp : Sp} {E : XK} {ta : TA} (h : ta σ H fun vs H1 => sp vs H1 Q E) : tCall sp [] E ta σ H Q := by
  show ta σ H fun vs H1 => sp (vs ++ []) H1 Q E
  have e : (fun vs H1 => sp (vs ++ []) H1 Q E) = fun (vs : List V) H1 => sp vs H1 Q E := by
    funext vs H1; rw [List.append_nil]
  rw [e]; exact h
theorem r_lst {ta : TA} (h : ta σ H (LstK Q)) : tLst ta σ H Q := h
theorem r_lstK {xs : List V} (k : ∀ p H', H p = none → Ex H H' → H' p = some (.lst xs) → Q (.ref p) H') (hz : xs.length ≤ 16777216 := by simp) : LstK Q xs H := ⟨small0 hz, newL k⟩
theorem r_tup {ta : TA} (h : ta σ H (TupK Q)) : tTup ta σ H Q := h
theorem r_tupK {xs : List V} (k : ∀ p H', H p = none → Ex H H' → H' p = some (.tup xs) → Q (.ref p) H') (hz : xs.length ≤ 16777216 := by simp) : TupK Q xs H := ⟨small0 hz, newT k⟩
theorem r_asg (h : te σ H fun x H1 => g x σ H1 D.nx) : tAsg te g D σ H := h
theorem r_gn {i : Nat} {v : V} {Q : L2.St → Hp → Prop} (h : Q (σ.set i (some v)) H) : gName i v σ H Q := h
theorem r_ret (h : te σ H D.rt) : tRet te D σ H := h
theorem r_drop (h : te σ H fun _ H1 => D.nx σ H1) : tDrop te D σ H := h
theorem r_ifS (h : tt σ H fun b H1 => if b = true then t D σ H1 else u D σ H1) : tIfS tt t u D σ H := h
theorem r_test {Q : Bool → Hp → Prop} (h : te σ H fun x H1 => ∃ k, x = .bl k ∧ Q k H1) : tTest te σ H Q := h
theorem r_B {Q : Bool → Hp → Prop} (h : te σ H fun x H1 => ∃ k, x = .bl k ∧ Q k H1) : tB te σ H Q := h
theorem r_bl {k : Bool} {Q : Bool → Prop} (h : Q k) : ∃ k', V.bl k = .bl k' ∧ Q k' := ⟨k, rfl, h⟩
theorem r_and {Q : Bool → Hp → Prop} (h : t1 σ H fun c H1 => if c = true then t2 σ H1 Q else Q false H1) : tAnd t1 t2 σ H Q := h
theorem r_or {Q : Bool → Hp → Prop} (h : t1 σ H fun c H1 => if c = true then Q true H1 else t2 σ H1 Q) : tOr t1 t2 σ H Q := h
theorem r_not {Q : Bool → Hp → Prop} (h : tt σ H fun c H1 => Q (!c) H1) : tNot tt σ H Q := h
theorem r_andV (h : ta σ H fun x H1 => ∃ c, x = .bl c ∧ if c = true then tb σ H1 Q else Q (.bl false) H1) : tAndV ta tb σ H Q := h
theorem r_orV (h : ta σ H fun x H1 => ∃ c, x = .bl c ∧ if c = true then Q (.bl true) H1 else tb σ H1 Q) : tOrV ta tb σ H Q := h
theorem r_notV (h : ta σ H fun x H1 => ∃ c, x = .bl c ∧ Q (.bl (!c)) H1) : tNotV ta σ H Q := h
theorem r_if (h : tt σ H fun c H1 => if c = true then ta σ H1 Q else tb σ H1 Q) : tIf tt ta tb σ H Q := h
theorem r_bm {T : String} {r : V → List V → Hp → VK → Prop} {ta : TA} (h : to σ H fun x H1 => tyV K T x H1 ∧ ta σ H1 fun xs H2 => r x xs H2 Q) : tBM K T r to ta σ H Q := h
theorem r_bm0 {T : String} {r : V → List V → Hp → VK → Prop} (h : to σ H fun x H1 => tyV K T x H1 ∧ r x [] H1 Q) : tBM0 K T r to σ H Q := h
theorem r_append {l : Addr} {xs : List V} {y : V} (h : H l = some (.lst xs)) (z : xs.length < sizeLine) (q : ∀ H', Exb l H H' → H' l = some (.lst (xs ++ [y])) → Q .non H') : rAppend (.ref l) [y] H Q :=
  ⟨l, xs, y, rfl, rfl, h, z, mutL q⟩
theorem r_pop {l : Addr} {xs : List V} {y : V} (h : H l = some (.lst xs)) (z : xs[xs.length - 1]? = some y) (q : ∀ H', Exb l H H' → H' l = some (.lst xs.dropLast) → Q y H') : rPop (.ref l) [] H Q :=
  ⟨l, xs, y, rfl, rfl, h, z, mutL q⟩
theorem r_insert {l : Addr} {xs : List V} {y : V} {i : Int} (h : H l = some (.lst xs)) (z : xs.length < sizeLine) (h0 : 0 ≤ i) (h1 : i < 2 ^ 63) (q : ∀ H', Exb l H H' → H' l = some (.lst (xs.take i.toNat ++ [y] ++ xs.drop i.toNat)) → Q .non H') : rInsert (.ref l) [.int i, y] H Q :=
  ⟨l, xs, i, y, rfl, rfl, h, z, h0, h1, mutL q⟩
theorem tyL {p : Addr} {xs : List V} (h : H p = some (.lst xs)) : tyV K "list" (.ref p) H := .inl ⟨rfl, _, .inl (.inl h)⟩
theorem r_ty {T : String} {x : V} {B : Prop} (h : tyV K T x H) (q : B) : tyV K T x H ∧ B := ⟨h, q⟩
theorem r_sub_ {ts : TSet} {v : V} {Q : L2.St → Hp → Prop} (h : to σ H fun o H1 => ti σ H1 fun i H2 => ts o i v H2 fun H3 => Q σ H3) : gSub to ti ts v σ H Q := h
theorem r_setL {p : Addr} {xs : List V} {k : Int} {j : Nat} {v : V} {Q : Hp → Prop} (h : H p = some (.lst xs)) (hk : ixN xs.length k = some j) (q : ∀ H', Exb p H H' → H' p = some (.lst (xs.set j v)) → Q H') : rSetL (.ref p) (.int k) v H Q :=
  ⟨p, xs, k, j, rfl, rfl, h, hk, mutL q⟩
theorem r_cat {l b : Addr} {xs zs : List V} (h1 : H l = some (.lst xs)) (h2 : H b = some (.lst zs)) (z : xs.length + zs.length ≤ sizeLine) (q : ∀ p H', H p = none → Ex H H' → H' p = some (.lst (xs ++ zs)) → Q (.ref p) H') : rCat (.ref l) (.ref b) H Q :=
  ⟨l, b, xs, zs, rfl, rfl, h1, h2, z, newL q⟩
theorem flat_rep {α : Type} (x : α) : ∀ n : Nat, (List.replicate n [x]).flatten = List.replicate n x
  | 0 => rfl
  | n + 1 => by rw [List.replicate_succ, List.flatten_cons, flat_rep x n, List.replicate_succ]; rfl
/-- [x] * k -/
theorem r_rep1 {l : Addr} {x : V} {k : Int} (h1 : H l = some (.lst [x])) (z : k.toNat ≤ 1000000) (q : ∀ p H', H p = none → Ex H H' → H' p = some (.lst (List.replicate k.toNat x)) → Q (.ref p) H')  (h0 : -(2 ^ 63) ≤ k := by omega) : rRep (.ref l) (.int k) H Q :=
  ⟨l, k, [x], rfl, rfl, h1, h0, by omega, by
    show 1 * k.toNat ≤ sizeLine
    rw [Nat.one_mul]
    exact Nat.le_trans z (by decide), newL fun p H' a b c => q p H' a b (by rw [flat_rep] at c; exact c)⟩
theorem r_sl {r : V → Option Int → Option Int → Hp → VK → Prop} {tl th : TO} (h : te σ H fun x H1 => tl σ H1 fun l H2 => th σ H2 fun u H3 => r x l u H3 Q) : tSl r te tl th σ H Q := h
theorem r_part {Q : Option Int → Hp → Prop} (h : te σ H fun x H1 => ∃ i, x = .int i ∧ Q (some i) H1) : tPart te σ H Q := h
theorem r_int {i : Int} {Q : Int → Prop} (h : Q i) : ∃ j, V.int i = .int j ∧ Q j := ⟨i, rfl, h⟩
theorem r_nopart {Q : Option Int → Hp → Prop} (h : Q none H) : tNoPart σ H Q := h
theorem r_slL {a : Addr} {xs : List V} {lo hi : Option Int} (h : SqL K H a xs) (q : ∀ p H', H p = none → Ex H H' → H' p = some (.lst (cutV xs lo hi)) → Q (.ref p) H') : rSlL K (.ref a) lo hi H Q := ⟨a, xs, rfl, h, newL q⟩
theorem r_par {i j : Nat} {ta : TA} (h : ta σ H fun vs H1 => ∃ v w, vs = [v, w] ∧ D.nx ((σ.set i (some v)).set j (some w)) H1) : tPar i j ta D σ H := h
theorem r_par2 {i j : Nat} {v w : V} (h : D.nx ((σ.set i (some v)).set j (some w)) H) : ∃ v' w', [v, w] = [v', w'] ∧ D.nx ((σ.set i (some v')).set j (some w')) H := ⟨v, w, rfl, h⟩
end
/-- a truth that is decided, both ways -/
theorem ite_d {p A B : Prop} [Decidable p] (h1 : p → A) (h2 : ¬ p → B) : if decide p = true then A else B := by
  by_cases h : p
  · rw [if_pos (decide_eq_true h)]; exact h1 h
  · rw [if_neg (by rw [decide_eq_false h]; decide)]; exact h2 h
theorem ite_nd {p A B : Prop} [Decidable p] (h1 : ¬ p → A) (h2 : p → B) : if (!decide p) = true then A else B := by
  by_cases h : p
  · rw [if_neg (by rw [decide_eq_true h]; decide)]; exact h2 h
  · rw [if_pos (by rw [decide_eq_false h]; rfl)]; exact h1 h
theorem ite_b {b : Bool} {A B : Prop} (h1 : b = true → A) (h2 : b = false → B) : if b = true then A else B := by
  cases b with
  | true => rw [if_pos rfl]; exact h1 rfl
  | false => rw [if_neg (by decide)]; exact h2 rfl

theorem r_isi {K : PySem.W.Frag} {H : Hp} {Q : VK} {x c : V} {t u : Value} {b : Bool} (ht : TyX K H x t) (hc : ClsV c u) (hk : PySem.W.kitOne K t u = some b) (q : Q (.bl b) H) : rIsi K [x, c] H Q := ⟨x, c, t, u, b, rfl, hc, ht, hk, q⟩
theorem iteD {p A B : Prop} [Decidable p] (h : p) (a : A) : if decide p = true then A else B := by rw [if_pos (decide_eq_true h)]; exact a
theorem iteDF {p A B : Prop} [Decidable p] (h : ¬ p) (a : B) : if decide p = true then A else B := by rw [if_neg (by rw [decide_eq_false h]; decide)]; exact a
/-! ### lists of ints, compared -/
theorem dp_ints {K : PySem.W.Frag} {H : Hp} : ∀ ns : List Int, DpAll K H (ns.map V.int) (ns.map PyData.int)
  | [] => .nil
  | n :: r => .cons (.int n) (dp_ints r)
theorem dp_listI {K : PySem.W.Frag} {H : Hp} {a : Addr} {ns : List Int} (h : SqL K H a (ns.map V.int)) : Dp K H (.ref a) (.list (ns.map PyData.int)) := .lst h (dp_ints ns)
def dI (ns : List Int) : PyData := .list (ns.map PyData.int)
theorem canLay_ints : ∀ ns : List Int, PyData.canLayAll0 (ns.map PyData.int) = true
  | [] => by simp [PyData.canLayAll0]
  | n :: r => by
    rw [List.map_cons, PyData.canLayAll0, canLay_ints r]; simp [PyData.canLay0]
theorem depth_ints : ∀ ns : List Int, PyData.depthAll (ns.map PyData.int) ≤ 1
  | [] => by simp [PyData.depthAll]
  | n :: r => by
    have := depth_ints r
    rw [List.map_cons, PyData.depthAll]
    simp [PyData.depth]
    omega
theorem shaped_dI (ns : List Int) : SeqAt.shaped (dI ns) = true := by
  have h1 := canLay_ints ns
  have h2 := depth_ints ns
  unfold SeqAt.shaped dI
  rw [Bool.and_eq_true, PyData.canLay0, PyData.depth]
  exact ⟨h1, decide_eq_true (by omega)⟩
theorem eqvAll_ints : ∀ ns ms : List Int, PyData.eqvAll (ns.map PyData.int) (ms.map PyData.int) = decide (ns = ms)
  | [], [] => by simp [PyData.eqvAll]
  | [], m :: r => by simp [PyData.eqvAll]
  | n :: r, [] => by simp [PyData.eqvAll]
  | n :: r, m :: s => by
    rw [List.map_cons, List.map_cons, PyData.eqvAll, eqvAll_ints r s]
    simp [PyData.eqv, Bool.beq_eq_decide_eq]
theorem eqv_dI (ns ms : List Int) : PyData.eqv (dI ns) (dI ms) = decide (ns = ms) := by
  unfold dI
  rw [PyData.eqv, eqvAll_ints]
theorem r_eqInts {K : PySem.W.Frag} {H : Hp} {Q : VK} {a b : Addr} {ns ms : List Int} (h1 : SqL K H a (ns.map V.int)) (h2 : SqL K H b (ms.map V.int)) (q : Q (.bl (decide (ns = ms))) H) : rEqD K (.ref a) (.ref b) H Q :=
  ⟨_, _, dp_listI h1, dp_listI h2, shaped_dI ns, shaped_dI ms, by rw [show PyData.eqv (.list (ns.map PyData.int)) (.list (ms.map PyData.int)) = decide (ns = ms) from eqv_dI ns ms]; exact q⟩
theorem r_neInts {K : PySem.W.Frag} {H : Hp} {Q : VK} {a b : Addr} {ns ms : List Int} (h1 : SqL K H a (ns.map V.int)) (h2 : SqL K H b (ms.map V.int)) (q : Q (.bl (!decide (ns = ms))) H) : rNeD K (.ref a) (.ref b) H Q :=
  ⟨_, _, dp_listI h1, dp_listI h2, shaped_dI ns, shaped_dI ms, by rw [show PyData.eqv (.list (ns.map PyData.int)) (.list (ms.map PyData.int)) = decide (ns = ms) from eqv_dI ns ms]; exact q⟩
/-! ### loops -/
def Lp (J : It) (g : TG) (tb : TS) (D : Ends) (σ : L2.St) (H : Hp) : Prop := ∃ W : Nat → Nat → L2.St → Hp → Prop, (∃ m, W 0 m σ H) ∧ ∀ i m σ H, W i m σ H →
  (J.stop i H ∧ D.nx σ H) ∨ (J.go i H ∧ ∃ N : L2.St → Hp → Prop, (∀ σ' H', N σ' H' → ∃ m', m' < m ∧ W (i + 1) m' σ' H') ∧ ∀ x H', J.yld i H x H' → g x σ H' fun σ2 H2 => tb { D with nx := N, ct := N, bk := D.nx } σ2 H2)
section
variable {K : PySem.W.Frag} {σ : L2.St} {H : Hp} {D : Ends} {te : TE} {ta : TA} {tb : TS} {g : TG} {wi : TI}
theorem r_for (h : wi σ H fun J H1 => Lp J g tb D σ H1) : tFor wi g tb D σ H := h
theorem r_iList {R : It → Hp → Prop} (h : te σ H fun x H1 => ∃ a, x = .ref a ∧ (∃ xs, SqL K H1 a xs) ∧ R (Itl K a) H1) : iList K te σ H R := h
theorem r_iListA {a : Addr} {xs : List V} (h : SqL K H a xs) (q : Lp (Itl K a) g tb D σ H) : ∃ a', V.ref a = .ref a' ∧ (∃ xs, SqL K H a' xs) ∧ Lp (Itl K a') g tb D σ H := ⟨a, rfl, ⟨xs, h⟩, q⟩
theorem r_iTup {R : It → Hp → Prop} (h : te σ H fun x H1 => ∃ a, x = .ref a ∧ (∃ xs, SqT K H1 a xs) ∧ R (Itt K a) H1) : iTup K te σ H R := h
theorem r_iTupA {a : Addr} {xs : List V} (h : SqT K H a xs) (q : Lp (Itt K a) g tb D σ H) : ∃ a', V.ref a = .ref a' ∧ (∃ xs, SqT K H a' xs) ∧ Lp (Itt K a') g tb D σ H := ⟨a, rfl, ⟨xs, h⟩, q⟩
theorem r_iRng1 {R : It → Hp → Prop} (h : ta σ H fun vs H1 => ∃ j : Int, vs = [.int j] ∧ -(2 ^ 62) ≤ j ∧ j < 2 ^ 62 ∧ R (Itr 0 j.toNat) H1) : iRng1 ta σ H R := h
theorem r_iRng1A {j : Int} (h0 : -(2 ^ 62) ≤ j) (h1 : j < 2 ^ 62) (q : Lp (Itr 0 j.toNat) g tb D σ H) : ∃ j' : Int, [V.int j] = [.int j'] ∧ -(2 ^ 62) ≤ j' ∧ j' < 2 ^ 62 ∧ Lp (Itr 0 j'.toNat) g tb D σ H := ⟨j, rfl, h0, h1, q⟩
theorem r_iRng2 {R : It → Hp → Prop} (h : ta σ H fun vs H1 => ∃ i j : Int, vs = [.int i, .int j] ∧ (-(2 ^ 62) ≤ i ∧ i < 2 ^ 62 ∧ -(2 ^ 62) ≤ j ∧ j < 2 ^ 62) ∧ R (Itr i (j - i).toNat) H1) : iRng2 ta σ H R := h
theorem r_iRng2A {i j : Int} (hb : -(2 ^ 62) ≤ i ∧ i < 2 ^ 62 ∧ -(2 ^ 62) ≤ j ∧ j < 2 ^ 62) (q : Lp (Itr i (j - i).toNat) g tb D σ H) : ∃ i' j' : Int, [V.int i, V.int j] = [.int i', .int j'] ∧ (-(2 ^ 62) ≤ i' ∧ i' < 2 ^ 62 ∧ -(2 ^ 62) ≤ j' ∧ j' < 2 ^ 62) ∧ Lp (Itr i' (j' - i').toNat) g tb D σ H := ⟨i, j, rfl, hb, q⟩
theorem r_iRev {R : It → Hp → Prop} (h : ta σ H fun vs H1 => ∃ (a : Addr) (xs : List V), vs = [.ref a] ∧ SqL K H1 a xs ∧ R (Itv K a xs.length) H1) : iRev K ta σ H R := h
theorem r_iRevA {a : Addr} {xs : List V} (h : SqL K H a xs) (q : Lp (Itv K a xs.length) g tb D σ H) : ∃ (a' : Addr) (xs : List V), [V.ref a] = [.ref a'] ∧ SqL K H a' xs ∧ Lp (Itv K a' xs.length) g tb D σ H := ⟨a, xs, rfl, h, q⟩
theorem r_iEnum {R : It → Hp → Prop} (h : ta σ H fun vs H1 => ∃ a xs, vs = [.ref a] ∧ SqL K H1 a xs ∧ R (Ite K a) H1) : iEnum K ta σ H R := h
theorem r_iEnumA {a : Addr} {xs : List V} (h : SqL K H a xs) (q : Lp (Ite K a) g tb D σ H) : ∃ (a' : Addr) (xs : List V), [V.ref a] = [.ref a'] ∧ SqL K H a' xs ∧ Lp (Ite K a') g tb D σ H := ⟨a, xs, rfl, h, q⟩
theorem r_iRevR {tr : L2.St → Hp → (Int → Int → Hp → Prop) → Prop} {R : It → Hp → Prop} (h : tr σ H fun a b H1 => -(2 ^ 62) ≤ a ∧ a < 2 ^ 62 ∧ -(2 ^ 62) ≤ b ∧ b < 2 ^ 62 ∧ R (Itc (a + (((b - a).toNat : Nat) : Int) - 1) (-1) (b - a).toNat) H1) : iRevR tr σ H R := h

theorem loop_list {a : Addr} {xs : List V} (Pv : Nat → L2.St → Hp → Prop) (h0 : Pv 0 σ H) (hl : ∀ i σ H, i ≤ xs.length → Pv i σ H → SqL K H a xs)
    (hs : ∀ i x σ H, xs[i]? = some x → Pv i σ H → g x σ H fun σ2 H2 => tb { D with nx := Pv (i + 1), ct := Pv (i + 1), bk := D.nx } σ2 H2) (hd : ∀ σ H, Pv xs.length σ H → D.nx σ H) : Lp (Itl K a) g tb D σ H := for_list Pv h0 hl hs hd
/-- a loop over a list of ints -/
theorem loop_ints {a : Addr} {ns : List Int} {j : Nat} (Pv : Nat → L2.St → Hp → Prop) (h0 : Pv 0 σ H) (hl : ∀ i σ H, i ≤ ns.length → Pv i σ H → SqL K H a (ns.map V.int))
    (hs : ∀ i x σ H, ns[i]? = some x → Pv i σ H → tb { D with nx := Pv (i + 1), ct := Pv (i + 1), bk := D.nx } (σ.set j (some (.int x))) H) (hd : ∀ σ H, Pv ns.length σ H → D.nx σ H) : Lp (Itl K a) (gName j) tb D σ H :=
  for_list (xs := ns.map V.int) Pv h0 (fun i σ H h => hl i σ H (by rw [List.length_map] at h; exact h)) (fun i x σ H hx hp => by
    rw [List.getElem?_map] at hx
    cases e : ns[i]? with
    | none => rw [e] at hx; cases hx
    | some z => rw [e] at hx; cases hx; exact hs i z σ H e hp) (fun σ H h => hd σ H (by rw [List.length_map] at h; exact h))
theorem loop_tup {a : Addr} {xs : List V} (Pv : Nat → L2.St → Hp → Prop) (h0 : Pv 0 σ H) (hl : ∀ i σ H, i ≤ xs.length → Pv i σ H → SqT K H a xs)
    (hs : ∀ i x σ H, xs[i]? = some x → Pv i σ H → g x σ H fun σ2 H2 => tb { D with nx := Pv (i + 1), ct := Pv (i + 1), bk := D.nx } σ2 H2) (hd : ∀ σ H, Pv xs.length σ H → D.nx σ H) : Lp (Itt K a) g tb D σ H := for_tup Pv h0 hl hs hd
theorem loop_range {lo : Int} {n : Nat} {j : Nat} (Pv : Nat → L2.St → Hp → Prop) (h0 : Pv 0 σ H)
    (hs : ∀ i σ H, i < n → Pv i σ H → tb { D with nx := Pv (i + 1), ct := Pv (i + 1), bk := D.nx } (σ.set j (some (.int (lo + (i : Int))))) H) (hd : ∀ σ H, Pv n σ H → D.nx σ H) : Lp (Itr lo n) (gName j) tb D σ H := for_range Pv h0 hs hd
theorem loop_range0 {n : Nat} {j : Nat} (Pv : Nat → L2.St → Hp → Prop) (h0 : Pv 0 σ H)
    (hs : ∀ i σ H, i < n → Pv i σ H → tb { D with nx := Pv (i + 1), ct := Pv (i + 1), bk := D.nx } (σ.set j (some (.int (i : Int)))) H) (hd : ∀ σ H, Pv n σ H → D.nx σ H) : Lp (Itr 0 n) (gName j) tb D σ H :=
  for_range Pv h0 (fun i σ H hi hp => by
    have e : (0 : Int) + (i : Int) = (i : Int) := Int.zero_add _
    rw [e]
    exact hs i σ H hi hp) hd
theorem loop_rangeC {lo c : Int} {n : Nat} {j : Nat} (Pv : Nat → L2.St → Hp → Prop) (h0 : Pv 0 σ H)
    (hs : ∀ i σ H, i < n → Pv i σ H → tb { D with nx := Pv (i + 1), ct := Pv (i + 1), bk := D.nx } (σ.set j (some (.int (lo + (i : Int) * c)))) H) (hd : ∀ σ H, Pv n σ H → D.nx σ H) : Lp (Itc lo c n) (gName j) tb D σ H := for_rangeC Pv h0 hs hd
theorem loop_rev {a : Addr} {xs : List V} (Pv : Nat → L2.St → Hp → Prop) (h0 : Pv 0 σ H) (hl : ∀ i σ H, i ≤ xs.length → Pv i σ H → SqL K H a xs)
    (hs : ∀ i x σ H, xs[xs.length - 1 - i]? = some x → i < xs.length → Pv i σ H → g x σ H fun σ2 H2 => tb { D with nx := Pv (i + 1), ct := Pv (i + 1), bk := D.nx } σ2 H2) (hd : ∀ σ H, Pv xs.length σ H → D.nx σ H) : Lp (Itv K a xs.length) g tb D σ H := by
  refine ⟨fun i m σ H => m = xs.length - i ∧ i ≤ xs.length ∧ Pv i σ H, ⟨xs.length, by simp, Nat.zero_le _, h0⟩, ?_⟩
  rintro i m σ H ⟨rfl, hi, p⟩
  have q := hl i σ H hi p
  by_cases hlt : i < xs.length
  · have hk : xs.length - 1 - i < xs.length := by omega
    refine .inr ⟨⟨hlt, xs, xs[xs.length - 1 - i], q, by simp [hk]⟩, Pv (i + 1), fun σ' H' p' => ⟨xs.length - (i + 1), by omega, rfl, hlt, p'⟩, fun x H' y => ?_⟩
    obtain ⟨e, y⟩ := y
    subst e
    exact hs i x σ _ (y xs q) hlt p
  · have e : i = xs.length := by omega
    subst e
    exact .inl ⟨Nat.le_refl _, hd σ H p⟩
theorem loop_enum {a : Addr} {xs : List V} {j k : Nat} (Pv : Nat → L2.St → Hp → Prop) (h0 : Pv 0 σ H) (hl : ∀ i σ H, i ≤ xs.length → Pv i σ H → SqL K H a xs)
    (hs : ∀ i x σ H H', xs[i]? = some x → Pv i σ H → Ex H H' → tb { D with nx := Pv (i + 1), ct := Pv (i + 1), bk := D.nx } ((σ.set j (some (.int (i : Int)))).set k (some x)) H') (hd : ∀ σ H, Pv xs.length σ H → D.nx σ H) :
    Lp (Ite K a) (gTup K 2 (gCons (gName j) (gCons (gName k) gNil))) tb D σ H := by
  refine ⟨fun i m σ H => m = xs.length - i ∧ i ≤ xs.length ∧ Pv i σ H, ⟨xs.length, by simp, Nat.zero_le _, h0⟩, ?_⟩
  rintro i m σ H ⟨rfl, hi, p⟩
  have q := hl i σ H hi p
  by_cases hlt : i < xs.length
  · refine .inr ⟨⟨xs, xs[i], q, by simp [hlt]⟩, Pv (i + 1), fun σ' H' p' => ⟨xs.length - (i + 1), by omega, rfl, hlt, p'⟩, fun v H' y => ?_⟩
    obtain ⟨T, x, rfl, nT, rfl, y⟩ := y
    exact ⟨T, _, rfl, .inl (.inl upd_same), rfl, _, _, rfl, x, [], rfl, rfl, hs i x σ H _ (y xs q) p (Evl.Ex.new nT)⟩
  · have e : i = xs.length := by omega
    subst e
    exact .inl ⟨⟨xs, q, Nat.le_refl _⟩, hd σ H p⟩
theorem r_while {tt : TT} (W : Nat → L2.St → Hp → Prop) (m0 : Nat) (h0 : W m0 σ H)
    (hs : ∀ m σ' H', W m σ' H' → tt σ' H' fun b H1 => if b = true then ∃ N : L2.St → Hp → Prop, (∀ σ2 H2, N σ2 H2 → ∃ m', m' < m ∧ W m' σ2 H2) ∧ tb { D with nx := N, ct := N, bk := D.nx } σ' H1 else D.nx σ' H1) : tWhile tt tb D σ H :=
  ⟨W, ⟨m0, h0⟩, hs⟩
theorem wh_in {W : Nat → L2.St → Hp → Prop} {m : Nat} (h : tb { D with nx := fun σ2 H2 => ∃ m', m' < m ∧ W m' σ2 H2, ct := fun σ2 H2 => ∃ m', m' < m ∧ W m' σ2 H2, bk := D.nx } σ H) :
    ∃ N : L2.St → Hp → Prop, (∀ σ2 H2, N σ2 H2 → ∃ m', m' < m ∧ W m' σ2 H2) ∧ tb { D with nx := N, ct := N, bk := D.nx } σ H := ⟨_, fun _ _ h => h, h⟩
end
/-! ### bounds -/
theorem small_le {n : Nat} (h : n ≤ 16777216) : n ≤ sizeLine := by rw [sizeLine_eq]; exact h
theorem small_lt {n : Nat} (h : n < 16777216) : n < sizeLine := by rw [sizeLine_eq]; exact h
/-! ### comprehensions -/
def Lc (J : It) (g : TG) (tt : TT) (te : TE) (vs : List Nat) (σ : L2.St) (H1 : Hp) (Q : VK) : Prop := ∀ D, H1 D = none → ∃ W : Nat → Nat → Hp → Prop, (∃ m, W 0 m (upd H1 D (.lst []))) ∧ ∀ i m H, W i m H →
  (J.stop i H ∧ Q (.ref D) H) ∨ (J.go i H ∧ ∃ Nx : Hp → Prop, (∀ H', Nx H' → ∃ m', m' < m ∧ W (i + 1) m' H') ∧ ∀ x H', J.yld i H x H' → g x (wipe σ vs) H' fun σ2 H2 => wipe σ2 vs = wipe σ vs ∧ tt σ2 H2 fun b H3 =>
    if b = true then te σ2 H3 fun y H4 => ∃ acc, H4 D = some (.lst acc) ∧ acc.length < sizeLine ∧ Nx (upd H4 D (.lst (acc ++ [y]))) else Nx H3)
theorem r_lc {wi : TI} {g : TG} {tt : TT} {te : TE} {vs : List Nat} {σ : L2.St} {H : Hp} {Q : VK} (h : wi σ H fun J H1 => Lc J g tt te vs σ H1 Q) : tLc wi g tt te vs σ H Q := h
theorem set_set {α : Type} : ∀ (l : List α) (i : Nat) (a b : α), (l.set i a).set i b = l.set i b
  | [], _, _, _ => rfl
  | _ :: _, 0, _, _ => rfl
  | x :: l, i + 1, a, b => by show x :: (l.set i a).set i b = x :: l.set i b; rw [set_set l i a b]
section
variable {K : PySem.W.Frag} {σ : L2.St} {H : Hp} {te : TE} {Q : VK} {g : TG}
theorem r_cListA {a : Addr} {xs : List V} {tt : TT} {vs : List Nat} (h : SqL K H a xs) (q : Lc (Itl K a) g tt te vs σ H Q) : ∃ a', V.ref a = .ref a' ∧ (∃ xs, SqL K H a' xs) ∧ Lc (Itl K a') g tt te vs σ H Q := ⟨a, rfl, ⟨xs, h⟩, q⟩
theorem r_cRng1A {j : Int} {tt : TT} {vs : List Nat} (h0 : -(2 ^ 62) ≤ j) (h1 : j < 2 ^ 62) (q : Lc (Itr 0 j.toNat) g tt te vs σ H Q) : ∃ j' : Int, [V.int j] = [.int j'] ∧ -(2 ^ 62) ≤ j' ∧ j' < 2 ^ 62 ∧ Lc (Itr 0 j'.toNat) g tt te vs σ H Q := ⟨j, rfl, h0, h1, q⟩
theorem r_cRng2A {i j : Int} {tt : TT} {vs : List Nat} (hb : -(2 ^ 62) ≤ i ∧ i < 2 ^ 62 ∧ -(2 ^ 62) ≤ j ∧ j < 2 ^ 62) (q : Lc (Itr i (j - i).toNat) g tt te vs σ H Q) : ∃ i' j' : Int, [V.int i, V.int j] = [.int i', .int j'] ∧ (-(2 ^ 62) ≤ i' ∧ i' < 2 ^ 62 ∧ -(2 ^ 62) ≤ j' ∧ j' < 2 ^ 62) ∧ Lc (Itr i' (j' - i').toNat) g tt te vs σ H Q := ⟨i, j, rfl, hb, q⟩
/-- over a list, each item giving a value by a function -/
theorem lc_map {a : Addr} {xs : List V} {j : Nat} (f : V → V) (hx : SqL K H a xs) (hz : xs.length < 1000000)
    (he : ∀ x, x ∈ xs → ∀ H1, Ex H H1 → ∀ Q' : VK, (∀ H2, Ex H1 H2 → Q' (f x) H2) → te (σ.set j (some x)) H1 Q')
    (q : ∀ p H', H p = none → Ex H H' → H' p = some (.lst (xs.map f)) → Q (.ref p) H') : Lc (Itl K a) (gName j) tYes te [j] σ H Q := fun D hD =>
  lc_list (xs := xs) (fun i H' => Ex H H' ∧ H' D = some (.lst ((xs.take i).map f))) ⟨Evl.Ex.new hD, upd_same⟩ (fun i H' _ p => p.1.l hx)
    (fun i x H' hi p => ⟨by show ((σ.set j none).set j (some x)).set j none = σ.set j none; rw [set_set, set_set], by
      show te ((σ.set j none).set j (some x)) H' _
      rw [set_set]
      refine he x (List.mem_of_getElem? hi) H' p.1 _ fun H2 e2 => ⟨_, e2 D _ p.2, ?_, (Evl.Ex.mut (p.1.trans e2) hD), ?_⟩
      · rw [List.length_map, List.length_take]; exact small_lt (by omega)
      · rw [upd_same, List.take_add_one, hi, List.map_append]; rfl⟩)
    (fun H' p => q D H' hD p.1 (by rw [List.take_length] at p; exact p.2))
/-- over a list of ints, each giving an int -/
theorem lc_ints {a : Addr} {ns : List Int} {j : Nat} (f : Int → Int) (hx : SqL K H a (ns.map V.int)) (hz : ns.length < 1000000)
    (he : ∀ x, x ∈ ns → ∀ H1, Ex H H1 → ∀ Q' : VK, (∀ H2, Ex H1 H2 → Q' (.int (f x)) H2) → te (σ.set j (some (.int x))) H1 Q')
    (q : ∀ p H', H p = none → Ex H H' → H' p = some (.lst ((ns.map f).map V.int)) → Q (.ref p) H') : Lc (Itl K a) (gName j) tYes te [j] σ H Q :=
  lc_map (xs := ns.map V.int) (fun v => match v with | .int x => .int (f x) | v => v) hx (by rw [List.length_map]; exact hz)
    (fun v hv H1 e1 Q' k => by
      obtain ⟨x, hx', rfl⟩ := List.mem_map.mp hv
      exact he x hx' H1 e1 Q' k)
    (fun p H' hp e h => q p H' hp e (by
      rw [List.map_map] at h ⊢
      exact h))
/-- over a range from 0, each giving an int -/
theorem lc_rangeI {n : Nat} {j : Nat} (f : Nat → Int) (hz : n < 1000000)
    (he : ∀ i, i < n → ∀ H1, Ex H H1 → ∀ Q' : VK, (∀ H2, Ex H1 H2 → Q' (.int (f i)) H2) → te (σ.set j (some (.int (i : Int)))) H1 Q')
    (q : ∀ p H', H p = none → Ex H H' → H' p = some (.lst (((List.range n).map f).map V.int)) → Q (.ref p) H') : Lc (Itr 0 n) (gName j) tYes te [j] σ H Q := fun D hD =>
  lc_range (lo := 0) (n := n) (fun i H' => Ex H H' ∧ H' D = some (.lst (((List.range i).map f).map V.int))) ⟨Evl.Ex.new hD, upd_same⟩
    (fun i H' hi p => ⟨by show ((σ.set j none).set j _).set j none = σ.set j none; rw [set_set, set_set], by
      show te ((σ.set j none).set j (some (.int ((0 : Int) + (i : Int))))) H' _
      rw [set_set, show (0 : Int) + (i : Int) = (i : Int) from Int.zero_add _]
      refine he i hi H' p.1 _ fun H2 e2 => ⟨_, e2 D _ p.2, ?_, (Evl.Ex.mut (p.1.trans e2) hD), ?_⟩
      · rw [List.length_map, List.length_map, List.length_range]; exact small_lt (by omega)
      · rw [upd_same, List.range_succ, List.map_append, List.map_append]; rfl⟩)
    (fun H' p => q D H' hD p.1 p.2)
end
/-- an item of a list of ints -/
theorem r_ixI {K : PySem.W.Frag} {H : Hp} {Q : VK} {p : Addr} {i : Int} {ns : List Int} (h : SqL K H p (ns.map V.int)) (h0 : 0 ≤ i) (h1 : i < ns.length) (q : Q (.int (ns.getD i.toNat 0)) H) : rIxL K (.ref p) (.int i) H Q := by
  obtain ⟨k, rfl⟩ : ∃ k : Nat, i = (k : Int) := ⟨i.toNat, by omega⟩
  have hk : k < ns.length := by omega
  refine r_ixL h (atI_nat (j := k) (v := .int ns[k]) ?_) ?_
  · rw [List.getElem?_map, List.getElem?_eq_getElem hk]; rfl
  · rw [Int.toNat_natCast, List.getD_eq_getElem?_getD, List.getElem?_eq_getElem hk] at q
    exact q
/-- a slice of a list of ints, both ends in it -/
theorem cutI (ns : List Int) (lo hi : Option Int) : cutV (ns.map V.int) lo hi = ((ns.drop (HT.sIx ns.length 0 lo)).take (HT.sIx ns.length ns.length hi - HT.sIx ns.length 0 lo)).map V.int := by
  unfold cutV
  rw [List.length_map, List.map_take, List.map_drop]
/-- the part of a list between two bounds -/
def sliceI (ns : List Int) (lo hi : Option Int) : List Int := (ns.drop (HT.sIx ns.length 0 lo)).take (HT.sIx ns.length ns.length hi - HT.sIx ns.length 0 lo)
theorem sliceI_mem {ns : List Int} {lo hi : Option Int} {x : Int} (h : x ∈ sliceI ns lo hi) : x ∈ ns := List.mem_of_mem_drop (List.mem_of_mem_take h)
theorem sliceI_len (ns : List Int) (lo hi : Option Int) : (sliceI ns lo hi).length ≤ ns.length := by
  unfold sliceI
  rw [List.length_take, List.length_drop]; omega
theorem r_slI {K : PySem.W.Frag} {H : Hp} {Q : VK} {a : Addr} {ns : List Int} {lo hi : Option Int} (h : SqL K H a (ns.map V.int)) (q : ∀ p H', H p = none → Ex H H' → H' p = some (.lst ((sliceI ns lo hi).map V.int)) → Q (.ref p) H') : rSlL K (.ref a) lo hi H Q :=
  r_slL h fun p H' hp e hh => q p H' hp e (by rw [cutI] at hh; exact hh)
theorem r_repN {H : Hp} {Q : VK} {l : Addr} {ns : List Int} {k : Int} (h1 : H l = some (.lst (ns.map V.int))) (hk : k < 2 ^ 63) (z : ns.length * k.toNat ≤ 16777216) (q : ∀ p H', H p = none → Ex H H' → H' p = some (.lst (((List.replicate k.toNat ns).flatten).map V.int)) → Q (.ref p) H') (h0 : -(2 ^ 63) ≤ k := by omega) : rRep (.ref l) (.int k) H Q :=
  ⟨l, k, _, rfl, rfl, h1, h0, hk, by rw [List.length_map]; exact small0 z, newL fun p H' a b c => q p H' a b (by rw [List.map_flatten, List.map_replicate]; exact c)⟩
def insI (ns : List Int) (i : Int) (y : Int) : List Int := ns.take i.toNat ++ [y] ++ ns.drop i.toNat
theorem insI_mem {ns : List Int} {i y x : Int} : x ∈ insI ns i y ↔ x = y ∨ x ∈ ns := by
  unfold insI
  have h : x ∈ ns ↔ x ∈ ns.take i.toNat ∨ x ∈ ns.drop i.toNat := by rw [← List.mem_append, List.take_append_drop]
  rw [h, List.mem_append, List.mem_append, List.mem_singleton]
  constructor
  · rintro ((h | h) | h)
    · exact .inr (.inl h)
    · exact .inl h
    · exact .inr (.inr h)
  · rintro (h | h | h)
    · exact .inl (.inr h)
    · exact .inl (.inl h)
    · exact .inr h
theorem insI_len (ns : List Int) (i y : Int) : (insI ns i y).length = ns.length + 1 := by
  unfold insI
  rw [List.length_append, List.length_append, List.length_take, List.length_drop]
  show min i.toNat ns.length + 1 + (ns.length - i.toNat) = _
  omega
theorem r_insertI {H : Hp} {Q : VK} {l : Addr} {ns : List Int} {i y : Int} (h : H l = some (.lst (ns.map V.int))) (z : ns.length < 16777216) (h0 : 0 ≤ i) (h1 : i < 2 ^ 63) (q : ∀ H', Exb l H H' → H' l = some (.lst ((insI ns i y).map V.int)) → Q .non H') : rInsert (.ref l) [.int i, .int y] H Q :=
  r_insert h (by rw [List.length_map]; exact small_lt z) h0 h1 fun H' e hh => q H' e (by
    unfold insI
    rw [List.map_append, List.map_append, List.map_take, List.map_drop]
    exact hh)
theorem r_appendI {H : Hp} {Q : VK} {l : Addr} {ns : List Int} {y : Int} (h : H l = some (.lst (ns.map V.int))) (z : ns.length < 16777216) (q : ∀ H', Exb l H H' → H' l = some (.lst ((ns ++ [y]).map V.int)) → Q .non H') : rAppend (.ref l) [.int y] H Q :=
  r_append h (by rw [List.length_map]; exact small_lt z) fun H' e hh => q H' e (by rw [List.map_append]; exact hh)
theorem r_catI {H : Hp} {Q : VK} {l b : Addr} {ns ms : List Int} (h1 : H l = some (.lst (ns.map V.int))) (h2 : H b = some (.lst (ms.map V.int))) (z : ns.length + ms.length ≤ 16777216) (q : ∀ p H', H p = none → Ex H H' → H' p = some (.lst ((ns ++ ms).map V.int)) → Q (.ref p) H') : rCat (.ref l) (.ref b) H Q :=
  r_cat h1 h2 (by rw [List.length_map, List.length_map]; exact small0 z) fun p H' a e hh => q p H' a e (by rw [List.map_append]; exact hh)
theorem i_t {A B : Prop} (h : A) : if true = true then A else B := iteT h
theorem i_f {A B : Prop} (h : B) : if false = true then A else B := iteF h
theorem i_nt {A B : Prop} (h : B) : if (!true) = true then A else B := iteF h
theorem i_nf {A B : Prop} (h : A) : if (!false) = true then A else B := iteT h
theorem sliceI_to {ns : List Int} {n : Nat} (h : n ≤ ns.length) : sliceI ns none (some (n : Int)) = ns.take n := by
  unfold sliceI
  rw [HT.sIx_none, HT.sIx_nat, List.drop_zero, Nat.min_eq_left h]; rfl
theorem sliceI_toI {ns : List Int} {n : Int} (h0 : 0 ≤ n) : sliceI ns none (some n) = ns.take n.toNat := by
  obtain ⟨k, rfl⟩ : ∃ k : Nat, n = (k : Int) := ⟨n.toNat, by omega⟩
  unfold sliceI
  rw [HT.sIx_none, HT.sIx_nat, List.drop_zero, Int.toNat_natCast, Nat.sub_zero]
  by_cases h : k ≤ ns.length
  · rw [Nat.min_eq_left h]
  · rw [Nat.min_eq_right (by omega), List.take_length, List.take_of_length_le (by omega)]
theorem sliceI_fromI {ns : List Int} {n : Int} (h0 : 0 ≤ n) : sliceI ns (some n) none = ns.drop n.toNat := by
  obtain ⟨k, rfl⟩ : ∃ k : Nat, n = (k : Int) := ⟨n.toNat, by omega⟩
  unfold sliceI
  rw [HT.sIx_none, HT.sIx_nat, Int.toNat_natCast]
  by_cases h : k ≤ ns.length
  · rw [Nat.min_eq_left h, List.take_of_length_le (by rw [List.length_drop]; omega)]
  · rw [Nat.min_eq_right (by omega), List.drop_eq_nil_of_le (by omega : ns.length ≤ k), List.drop_length, List.take_nil]
theorem sliceI_bothI {ns : List Int} {n m : Int} (h0 : 0 ≤ n) (h1 : n ≤ m) : sliceI ns (some n) (some m) = (ns.drop n.toNat).take (m.toNat - n.toNat) := by
  obtain ⟨k, rfl⟩ : ∃ k : Nat, n = (k : Int) := ⟨n.toNat, by omega⟩
  obtain ⟨l, rfl⟩ : ∃ l : Nat, m = (l : Int) := ⟨m.toNat, by omega⟩
  unfold sliceI
  rw [HT.sIx_nat, HT.sIx_nat, Int.toNat_natCast, Int.toNat_natCast]
  by_cases h : k ≤ ns.length
  · rw [Nat.min_eq_left h]
    by_cases h' : l ≤ ns.length
    · rw [Nat.min_eq_left h']
    · rw [Nat.min_eq_right (by omega), List.take_of_length_le (by rw [List.length_drop]; omega), List.take_of_length_le (by rw [List.length_drop]; omega)]
  · rw [Nat.min_eq_right (show ns.length ≤ k by omega), List.drop_length, List.drop_eq_nil_of_le (by omega : ns.length ≤ k)]; simp
/-- what a def that makes a new list of ints promises -/
def RetI (xs : List Int) (H : Hp) (Q : VK) : Prop := ∀ p H', H p = none → Ex H H' → H' p = some (.lst (xs.map V.int)) → Q (.ref p) H'
theorem RetI.go {xs : List Int} {H H1 : Hp} {Q : VK} (k : RetI xs H Q) (e : Ex H H1) {p : Addr} {H2 : Hp} (hp : H1 p = none) (e2 : Ex H1 H2) (h : H2 p = some (.lst (xs.map V.int))) : Q (.ref p) H2 := k p H2 (Evl.fresh_back e hp) (e.trans e2) h
/-! ### the heap since the entry -/
/-- all that stood in H stands in H' (the same as Ex, kept apart) -/
structure Fx (H H' : Hp) : Prop where
  to : Ex H H'
theorem Fx.refl (H : Hp) : Fx H H := ⟨Evl.Ex.refl H⟩
theorem Fx.ex {H H1 H2 : Hp} (f : Fx H H1) (e : Ex H1 H2) : Fx H H2 := ⟨Evl.Ex.trans f.to e⟩
theorem Fx.of {H H1 : Hp} (e : Ex H H1) : Fx H H1 := ⟨e⟩
theorem Fx.mut {H H1 H2 : Hp} {l : Addr} (f : Fx H H1) (b : Exb l H1 H2) (h : H l = none) : Fx H H2 := ⟨Evl.Ex.mutb f.to b h⟩
theorem Fx.free {H H1 : Hp} {p : Addr} (f : Fx H H1) (h : H1 p = none) : H p = none := Evl.fresh_back f.to h
theorem Fx.l {K : PySem.W.Frag} {H H' : Hp} {a : Addr} {xs : List V} (e : Fx H H') (h : SqL K H a xs) : SqL K H' a xs := Evl.ex_l e.to h
theorem hx_e {H H' : Hp} {a : Addr} {o : HO} (e : Ex H H') (h : H a = some o) : H' a = some o := e a o h
theorem hx_b {H H' : Hp} {a l : Addr} {o : HO} (e : Exb l H H') (n : a ≠ l) (h : H a = some o) : H' a = some o := e a n o h
theorem ne_1 {H : Hp} {a l : Addr} {o : HO} (h' : H l = none) (h : H a = some o) : a ≠ l := ne_of_none h h'
theorem ne_2 {H : Hp} {a l : Addr} {o : HO} (h' : H a = none) (h : H l = some o) : a ≠ l := (ne_of_none h h').symm
def tTru (K : PySem.W.Frag) (te : TE) : TT := fun σ H Q => te σ H fun x H' => ∃ k, TruV K x H' k ∧ Q k H'
theorem pt_tru {X : Cx} {a : Expr} {ta : TE} (ha : PE X a ta) (he : ∀ whole, isTrue a X.env whole = (do let v ← whole; standAt a.pos; holding [v] (truthy v)) := by intro _; rfl) : PT X a (tTru X.K ta) := pt_truth ha he
theorem r_tru {K : PySem.W.Frag} {te : TE} {σ : L2.St} {H : Hp} {Q : Bool → Hp → Prop} (h : te σ H fun x H' => ∃ k, TruV K x H' k ∧ Q k H') : tTru K te σ H Q := h
theorem r_truL {K : PySem.W.Frag} {a : Addr} {xs : List V} {H : Hp} {Q : Bool → Prop} (h : SqL K H a xs) (q : Q (!xs.isEmpty)) : ∃ k, TruV K (.ref a) H k ∧ Q k := ⟨_, .inl ⟨xs, h, rfl⟩, q⟩
def RevK (K : PySem.W.Frag) (Q : VK) : V → Hp → Prop := fun x H1 => ∃ a xs, x = .ref a ∧ SqL K H1 a xs ∧ ∀ p, H1 p = none → Q (.ref p) (upd H1 p (.lst xs.reverse))
theorem r_rev {K : PySem.W.Frag} {te : TE} {σ : L2.St} {H : Hp} {Q : VK} (h : te σ H (RevK K Q)) : tRevL K te σ H Q := h
theorem r_revI {K : PySem.W.Frag} {H : Hp} {Q : VK} {a : Addr} {ns : List Int} (h : SqL K H a (ns.map V.int)) (q : ∀ p H', H p = none → Ex H H' → H' p = some (.lst (ns.reverse.map V.int)) → Q (.ref p) H') : RevK K Q (.ref a) H :=
  ⟨a, _, rfl, h, newL fun p H' hp e hh => q p H' hp e (by rw [List.map_reverse]; exact hh)⟩
theorem rg2 {a b : Int} (ha : 0 ≤ a) (ha' : a < 2 ^ 60) (hb : -(2 ^ 60) ≤ b) (hb' : b < 2 ^ 60) : RgC a b 2 ((b - a + 1) / 2).toNat := by
  have e : Builtin.Range.rangeSize a b 2 = (((b - a + 1) / 2).toNat : Int) := by
    unfold Builtin.Range.rangeSize
    rw [if_pos (by decide)]
    split <;> omega
  refine ⟨by decide, by decide, ?_, e⟩
  unfold Builtin.Range.small
  rw [e]
  simp only [Builtin.Range.rangeFitsLong, Bool.and_eq_true, Bool.or_eq_true, decide_eq_true_eq, beq_iff_eq, show ((2 : Int) > 0) by decide, if_true]
  omega
theorem r_iRng3 {ta : TA} {σ : L2.St} {H : Hp} {R : It → Hp → Prop} (h : ta σ H fun vs H1 => ∃ (i j c : Int) (n : Nat), vs = [.int i, .int j, .int c] ∧ RgC i j c n ∧ R (Itc i c n) H1) : iRng3 ta σ H R := h
theorem r_iRng3A {g : TG} {tb : TS} {D : Ends} {σ : L2.St} {H : Hp} {i j c : Int} {n : Nat} (h : RgC i j c n) (q : Lp (Itc i c n) g tb D σ H) : ∃ (i' j' c' : Int) (n : Nat), [V.int i, V.int j, V.int c] = [.int i', .int j', .int c'] ∧ RgC i' j' c' n ∧ Lp (Itc i' c' n) g tb D σ H := ⟨i, j, c, n, rfl, h, q⟩
/-- over a range from lo, each giving an int -/
theorem lc_rangeL {σ : L2.St} {H : Hp} {te : TE} {Q : VK} {lo : Int} {n : Nat} {j : Nat} (f : Nat → Int) (hz : n < 1000000)
    (he : ∀ i, i < n → ∀ H1, Ex H H1 → ∀ Q' : VK, (∀ H2, Ex H1 H2 → Q' (.int (f i)) H2) → te (σ.set j (some (.int (lo + (i : Int))))) H1 Q')
    (q : ∀ p H', H p = none → Ex H H' → H' p = some (.lst (((List.range n).map f).map V.int)) → Q (.ref p) H') : Lc (Itr lo n) (gName j) tYes te [j] σ H Q := fun D hD =>
  lc_range (lo := lo) (n := n) (fun i H' => Ex H H' ∧ H' D = some (.lst (((List.range i).map f).map V.int))) ⟨Evl.Ex.new hD, upd_same⟩
    (fun i H' hi p => ⟨by show ((σ.set j none).set j _).set j none = σ.set j none; rw [set_set, set_set], by
      show te ((σ.set j none).set j (some (.int (lo + (i : Int))))) H' _
      rw [set_set]
      refine he i hi H' p.1 _ fun H2 e2 => ⟨_, e2 D _ p.2, ?_, (Evl.Ex.mut (p.1.trans e2) hD), ?_⟩
      · rw [List.length_map, List.length_map, List.length_range]; exact small_lt (by omega)
      · rw [upd_same, List.range_succ, List.map_append, List.map_append]; rfl⟩)
    (fun H' p => q D H' hD p.1 p.2)
theorem r_lenI {K : PySem.W.Frag} {H : Hp} {Q : VK} {p : Addr} {ns : List Int} (h : SqL K H p (ns.map V.int)) (q : Q (.int ns.length) H) : rLenS K [.ref p] H Q := ⟨p, _, rfl, .inl h, by rw [List.length_map]; exact q⟩
/-- the last item -/
theorem r_ixLast {K : PySem.W.Frag} {H : Hp} {Q : VK} {p : Addr} {ns : List Int} (h : SqL K H p (ns.map V.int)) (h0 : ns ≠ []) (q : Q (.int (ns.getD (ns.length - 1) 0)) H) : rIxL K (.ref p) (.int (-1)) H Q := by
  have e : ns.map V.int = (ns.dropLast.map V.int) ++ [.int (ns.getD (ns.length - 1) 0)] := by
    have e1 : ns.getD (ns.length - 1) 0 = ns.getLast h0 := by
      rw [List.getD_eq_getElem?_getD, ← List.getLast?_eq_getElem?, List.getLast?_eq_some_getLast h0]; rfl
    rw [e1, ← List.map_singleton, ← List.map_append, List.dropLast_concat_getLast]
  exact r_ixL h (by rw [e]; exact atI_last _ _) q
theorem r_truI {K : PySem.W.Frag} {a : Addr} {ns : List Int} {H : Hp} {Q : Bool → Hp → Prop} (h : SqL K H a (ns.map V.int)) (q : Q (!decide (ns = [])) H) : ∃ k, TruV K (.ref a) H k ∧ Q k H := ⟨_, .inl ⟨_, h, rfl⟩, by
  have e : (!(ns.map V.int).isEmpty) = !decide (ns = []) := by
    cases ns with
    | nil => rfl
    | cons x r => rfl
  rw [e]; exact q⟩
theorem r_rg1 {te : TE} {σ : L2.St} {H : Hp} {R : Int → Int → Hp → Prop} (h : te σ H fun x H1 => ∃ b, x = .int b ∧ R 0 b H1) : tRg1 te σ H R := h
theorem r_revRA {g : TG} {tb : TS} {D : Ends} {σ : L2.St} {H : Hp} {b : Int} (h0 : -(2 ^ 62) ≤ b) (h1 : b < 2 ^ 62) (q : Lp (Itc (b.toNat - 1) (-1) b.toNat) g tb D σ H) : -(2 ^ 62) ≤ (0 : Int) ∧ (0 : Int) < 2 ^ 62 ∧ -(2 ^ 62) ≤ b ∧ b < 2 ^ 62 ∧ Lp (Itc (0 + (((b - 0).toNat : Nat) : Int) - 1) (-1) (b - 0).toNat) g tb D σ H := ⟨by decide, by decide, h0, h1, by
  rw [Int.sub_zero, Int.zero_add]; exact q⟩
/-- a loop over range(n), backwards -/
theorem loop_down {n : Nat} {j : Nat} {tb : TS} {D : Ends} {σ : L2.St} {H : Hp} (Pv : Nat → L2.St → Hp → Prop) (h0 : Pv n σ H)
    (hs : ∀ k σ H, k < n → Pv (k + 1) σ H → tb { D with nx := Pv k, ct := Pv k, bk := D.nx } (σ.set j (some (.int (k : Int)))) H) (hd : ∀ σ H, Pv 0 σ H → D.nx σ H) : Lp (Itc ((n : Int) - 1) (-1) n) (gName j) tb D σ H := by
  refine ⟨fun i m σ H => m = n - i ∧ i ≤ n ∧ Pv (n - i) σ H, ⟨n, by simp, Nat.zero_le _, h0⟩, ?_⟩
  rintro i m σ H ⟨rfl, hi, p⟩
  by_cases hlt : i < n
  · refine .inr ⟨hlt, Pv (n - (i + 1)), fun σ' H' p' => ⟨n - (i + 1), by omega, rfl, hlt, p'⟩, fun x H' y => ?_⟩
    obtain ⟨rfl, rfl⟩ := y
    have e1 : (n : Int) - 1 + (i : Int) * -1 = ((n - (i + 1) : Nat) : Int) := by omega
    have e2 : n - i = n - (i + 1) + 1 := by omega
    rw [e1]
    rw [e2] at p
    exact hs (n - (i + 1)) σ _ (by omega) p
  · have e : i = n := by omega
    subst e
    rw [Nat.sub_self] at p
    exact .inl ⟨Nat.le_refl _, hd σ H p⟩
theorem never_ {t : TS} {D : Ends} {σ : L2.St} {H : Hp} (h : False) : t D σ H := h.elim
end RB

set_option linter.all false
/-! Shared divisors. -/
namespace MG
def gcdN (ns : List Int) : Nat := ns.foldl (fun (g : Nat) x => Nat.gcd g x.natAbs) 0
def gcdL (ns : List Int) : Int := (gcdN ns : Int)
theorem fmod_lt {a b : Int} (h : b ≠ 0) : (a.fmod b).natAbs < b.natAbs := by
  by_cases hb : 0 < b
  · have h1 := Int.fmod_nonneg_of_pos a hb
    have h2 := Int.fmod_lt_of_pos a hb
    omega
  · have hb' : 0 < -b := by omega
    have e : a.fmod b = -((-a).fmod (-b)) := by rw [Int.neg_fmod_neg]; omega
    have h1 := Int.fmod_nonneg_of_pos (-a) hb'
    have h2 := Int.fmod_lt_of_pos (-a) hb'
    rw [e]
    omega
theorem gcd_fmod (a b : Int) : Int.gcd b (a.fmod b) = Int.gcd a b := by
  rw [Int.fmod_def, Int.gcd_sub_mul_left_right, Int.gcd_comm]
theorem foldl_gcd (ns : List Int) : ∀ g : Nat, ns.foldl (fun (g : Nat) x => Nat.gcd g x.natAbs) g = Nat.gcd g (gcdN ns) := by
  induction ns with
  | nil => intro g; simp [gcdN]
  | cons x r ih =>
    intro g
    show List.foldl _ (Nat.gcd g x.natAbs) r = _
    rw [ih]
    have e : gcdN (x :: r) = Nat.gcd (x.natAbs) (gcdN r) := by
      show List.foldl _ (Nat.gcd 0 x.natAbs) r = _
      rw [ih, Nat.gcd_zero_left]
    rw [e, Nat.gcd_assoc]
theorem gcdN_cons (x : Int) (r : List Int) : gcdN (x :: r) = Nat.gcd x.natAbs (gcdN r) := by
  show List.foldl _ (Nat.gcd 0 x.natAbs) r = _
  rw [foldl_gcd, Nat.gcd_zero_left]
theorem gcdN_nil : gcdN [] = 0 := rfl
theorem gcdN_append (xs ys : List Int) : gcdN (xs ++ ys) = Nat.gcd (gcdN xs) (gcdN ys) := by
  show List.foldl _ 0 (xs ++ ys) = _
  rw [List.foldl_append, foldl_gcd]; rfl
theorem gcdN_take {ns : List Int} {i : Nat} {x : Int} (h : ns[i]? = some x) : gcdN (ns.take (i + 1)) = Nat.gcd (gcdN (ns.take i)) x.natAbs := by
  rw [List.take_add_one, h, gcdN_append]
  congr 1
  show gcdN [x] = _
  rw [gcdN_cons, gcdN_nil, Nat.gcd_zero_right]
theorem gcdN_dvd {ns : List Int} : ∀ {x : Int}, x ∈ ns → (gcdN ns : Int) ∣ x := by
  induction ns with
  | nil => intro x h; cases h
  | cons y r ih =>
    intro x h
    rw [gcdN_cons]
    rcases List.mem_cons.mp h with rfl | h
    · exact Int.ofNat_dvd_left.mpr (Nat.gcd_dvd_left _ _)
    · exact Int.dvd_trans (Int.ofNat_dvd.mpr (Nat.gcd_dvd_right _ _)) (ih h)
theorem dvd_gcdN {ns : List Int} {d : Nat} (h : ∀ x ∈ ns, (d : Int) ∣ x) : d ∣ gcdN ns := by
  induction ns with
  | nil => exact Nat.dvd_zero _
  | cons y r ih =>
    rw [gcdN_cons]
    exact Nat.dvd_gcd (Int.ofNat_dvd_left.mp (h y (List.mem_cons_self))) (ih fun x hx => h x (List.mem_cons_of_mem _ hx))
theorem gcdN_eq {ns : List Int} {g : Nat} (h1 : ∀ x ∈ ns, (g : Int) ∣ x) (h2 : ∀ d : Nat, (∀ x ∈ ns, (d : Int) ∣ x) → d ∣ g) : gcdN ns = g :=
  Nat.dvd_antisymm (h2 _ fun _ hx => gcdN_dvd hx) (dvd_gcdN h1)
end MG

set_option linter.all false
/-! Lists of coefficients. -/
namespace ML
/-- the coefficient at a place, 0 beyond -/
def cf (P : List Int) (k : Nat) : Int := P.getD k 0
theorem cf_nil (k : Nat) : cf [] k = 0 := by simp [cf]
theorem cf_zero (x : Int) (r : List Int) : cf (x :: r) 0 = x := rfl
theorem cf_succ (x : Int) (r : List Int) (k : Nat) : cf (x :: r) (k + 1) = cf r k := by simp [cf]
theorem cf_get {P : List Int} {k : Nat} (h : k < P.length) : cf P k = P[k] := by
  unfold cf; rw [List.getD_eq_getElem?_getD, List.getElem?_eq_getElem h]; rfl
theorem cf_some {P : List Int} {k : Nat} {x : Int} (h : P[k]? = some x) : cf P k = x := by
  unfold cf; rw [List.getD_eq_getElem?_getD, h]; rfl
theorem cf_beyond {P : List Int} {k : Nat} (h : P.length ≤ k) : cf P k = 0 := by
  unfold cf; rw [List.getD_eq_getElem?_getD, List.getElem?_eq_none h]; rfl
theorem cf_getElem? {P : List Int} {k : Nat} (h : k < P.length) : P[k]? = some (cf P k) := by
  rw [cf_get h, List.getElem?_eq_getElem h]
/-- two lists of one length with the same coefficients are alike -/
theorem ext {P Q : List Int} (hl : P.length = Q.length) (h : ∀ k, k < P.length → cf P k = cf Q k) : P = Q := by
  apply List.ext_getElem hl
  intro i h1 h2
  rw [← cf_get h1, ← cf_get h2]
  exact h i h1
/-- without noughts at the end -/
def Trim (P : List Int) : Prop := P = [] ∨ cf P (P.length - 1) ≠ 0
theorem trim_ext {P Q : List Int} (hP : Trim P) (hQ : Trim Q) (h : ∀ k, cf P k = cf Q k) : P = Q := by
  have aux : ∀ {P Q : List Int}, Trim P → (∀ k, cf P k = cf Q k) → P.length ≤ Q.length := fun {P Q} hP h => by
    rcases hP with rfl | hP
    · exact Nat.zero_le _
    · apply Nat.le_of_not_lt
      intro hl
      have := h (P.length - 1)
      rw [cf_beyond (P := Q) (by omega)] at this
      exact hP this
  exact ext (Nat.le_antisymm (aux hP h) (aux hQ fun k => (h k).symm)) fun k _ => h k
def trimL : List Int → List Int
  | [] => []
  | x :: r => match trimL r with
    | [] => if x = 0 then [] else [x]
    | y :: s => x :: y :: s
theorem cf_trimL : ∀ (P : List Int) (k : Nat), cf (trimL P) k = cf P k
  | [], k => rfl
  | x :: r, k => by
    have ih := cf_trimL r
    unfold trimL
    split
    · next e =>
      rw [e] at ih
      split
      · next hx =>
        subst hx
        cases k with
        | zero => rfl
        | succ k => rw [cf_succ, ← ih k, cf_nil, cf_nil]
      · cases k with
        | zero => rfl
        | succ k => rw [cf_succ, cf_succ, ← ih k]
    · next y s e =>
      rw [e] at ih
      cases k with
      | zero => rfl
      | succ k => rw [cf_succ, cf_succ, ← ih k]
theorem trim_trimL : ∀ P : List Int, Trim (trimL P)
  | [] => .inl rfl
  | x :: r => by
    have ih := trim_trimL r
    unfold trimL
    split
    · split
      · exact .inl rfl
      · next hx => exact .inr hx
    · next y s e =>
      rw [e] at ih
      rcases ih with h | h
      · cases h
      · refine .inr ?_
        show cf (x :: y :: s) (s.length + 1) ≠ 0
        rw [cf_succ]
        exact h
theorem trimL_eq {P Q : List Int} (hQ : Trim Q) (h : ∀ k, cf Q k = cf P k) : trimL P = Q := trim_ext (trim_trimL P) hQ fun k => by rw [cf_trimL, h]
theorem trimL_self {P : List Int} (h : Trim P) : trimL P = P := trimL_eq h fun _ => rfl
theorem trimL_trimL (P : List Int) : trimL (trimL P) = trimL P := trimL_self (trim_trimL P)
theorem trimL_len : ∀ P : List Int, (trimL P).length ≤ P.length
  | [] => Nat.le_refl _
  | x :: r => by
    have ih := trimL_len r
    unfold trimL
    split
    · split <;> simp
    · next y s e =>
      rw [e] at ih
      simp only [List.length_cons] at ih ⊢
      omega
theorem trimL_congr {P Q : List Int} (h : ∀ k, cf P k = cf Q k) : trimL P = trimL Q := trim_ext (trim_trimL P) (trim_trimL Q) fun k => by rw [cf_trimL, cf_trimL, h]
/-- what the loop finds -/
theorem trimL_take {P : List Int} {n : Nat} (hn : n ≤ P.length) (h0 : ∀ k, n ≤ k → cf P k = 0) (h1 : n = 0 ∨ cf P (n - 1) ≠ 0) : trimL P = P.take n := by
  have hc : ∀ k, cf (P.take n) k = cf P k := fun k => by
    by_cases hk : k < n
    · unfold cf
      rw [List.getD_eq_getElem?_getD, List.getD_eq_getElem?_getD, List.getElem?_take_of_lt hk]
    · rw [h0 k (by omega), cf_beyond (by rw [List.length_take]; omega)]
  refine trimL_eq ?_ hc
  rcases h1 with h1 | h1
  · left; subst h1; rfl
  · by_cases hz : n = 0
    · left; subst hz; rfl
    · right
      rw [List.length_take, Nat.min_eq_left hn, hc]
      exact h1
/-- all coefficients below 2 ^ n -/
def Sz (n : Nat) (P : List Int) : Prop := ∀ x ∈ P, x.natAbs < 2 ^ n
theorem Sz.cf {n : Nat} {P : List Int} (h : Sz n P) (k : Nat) : (cf P k).natAbs < 2 ^ n := by
  by_cases hk : k < P.length
  · rw [cf_get hk]; exact h _ (List.getElem_mem hk)
  · rw [cf_beyond (by omega)]; exact Nat.two_pow_pos n
theorem Sz.of {n : Nat} {P : List Int} (h : ∀ k, k < P.length → (ML.cf P k).natAbs < 2 ^ n) : Sz n P := fun x hx => by
  obtain ⟨k, hk, rfl⟩ := List.getElem_of_mem hx
  rw [← cf_get hk]; exact h k hk
theorem Sz.mono {n m : Nat} {P : List Int} (h : Sz n P) (hm : n ≤ m) : Sz m P := fun x hx => Nat.lt_of_lt_of_le (h x hx) (Nat.pow_le_pow_right (by decide) hm)
theorem Sz.trim {n : Nat} {P : List Int} (h : Sz n P) : Sz n (trimL P) := Sz.of fun k _ => by rw [cf_trimL]; exact h.cf k
theorem Sz.take {n : Nat} {P : List Int} (h : Sz n P) (k : Nat) : Sz n (P.take k) := fun x hx => h x (List.mem_of_mem_take hx)
theorem Sz.drop {n : Nat} {P : List Int} (h : Sz n P) (k : Nat) : Sz n (P.drop k) := fun x hx => h x (List.mem_of_mem_drop hx)
theorem Sz.append {n : Nat} {P Q : List Int} (h : Sz n P) (h' : Sz n Q) : Sz n (P ++ Q) := fun x hx => (List.mem_append.mp hx).elim (h x) (h' x)
theorem Sz.nil (n : Nat) : Sz n [] := fun x hx => by cases hx
theorem Sz.cons {n : Nat} {x : Int} {P : List Int} (hx : x.natAbs < 2 ^ n) (h : Sz n P) : Sz n (x :: P) := fun y hy => (List.mem_cons.mp hy).elim (fun e => by rw [e]; exact hx) (h y)
theorem Sz.rep0 (n k : Nat) : Sz n (List.replicate k 0) := fun x hx => by
  rw [List.mem_replicate] at hx
  rw [hx.2]; exact Nat.two_pow_pos n
theorem Sz.reverse {n : Nat} {P : List Int} (h : Sz n P) : Sz n P.reverse := fun x hx => h x (List.mem_reverse.mp hx)
theorem cf_map {f : Int → Int} (h0 : f 0 = 0) (P : List Int) (k : Nat) : cf (P.map f) k = f (cf P k) := by
  unfold cf
  rw [List.getD_eq_getElem?_getD, List.getD_eq_getElem?_getD, List.getElem?_map]
  cases P[k]? with
  | none => exact h0.symm
  | some x => rfl
theorem cf_range {n : Nat} {f : Nat → Int} {k : Nat} (h : k < n) : cf ((List.range n).map f) k = f k := by
  rw [cf_get (by simpa using h)]; simp
theorem cf_range_beyond {n : Nat} {f : Nat → Int} {k : Nat} (h : n ≤ k) : cf ((List.range n).map f) k = 0 := cf_beyond (by simpa using h)
theorem cf_set {P : List Int} {i k : Nat} {x : Int} (h : i < P.length) : cf (P.set i x) k = if k = i then x else cf P k := by
  unfold cf
  rw [List.getD_eq_getElem?_getD, List.getElem?_set, List.getD_eq_getElem?_getD]
  by_cases e : i = k
  · subst e; simp [h]
  · rw [if_neg e, if_neg (fun z => e z.symm)]
theorem cf_append_left {P Q : List Int} {k : Nat} (h : k < P.length) : cf (P ++ Q) k = cf P k := by
  unfold cf
  rw [List.getD_eq_getElem?_getD, List.getElem?_append_left h, List.getD_eq_getElem?_getD]
theorem cf_append_right {P Q : List Int} {k : Nat} (h : P.length ≤ k) : cf (P ++ Q) k = cf Q (k - P.length) := by
  unfold cf
  rw [List.getD_eq_getElem?_getD, List.getElem?_append_right h, List.getD_eq_getElem?_getD]
theorem cf_rep0 (n k : Nat) : cf (List.replicate n 0) k = 0 := by
  unfold cf
  rw [List.getD_eq_getElem?_getD, List.getElem?_replicate]
  split <;> rfl
theorem cf_drop (P : List Int) (n k : Nat) : cf (P.drop n) k = cf P (n + k) := by
  unfold cf
  rw [List.getD_eq_getElem?_getD, List.getElem?_drop, List.getD_eq_getElem?_getD]
theorem cf_take {P : List Int} {n k : Nat} (h : k < n) : cf (P.take n) k = cf P k := by
  unfold cf
  rw [List.getD_eq_getElem?_getD, List.getD_eq_getElem?_getD, List.getElem?_take_of_lt h]

/-! ### sums and products -/
def addL (P Q : List Int) : List Int := trimL ((List.range (max P.length Q.length)).map fun k => cf P k + cf Q k)
def subL (P Q : List Int) : List Int := trimL ((List.range (max P.length Q.length)).map fun k => cf P k - cf Q k)
theorem cf_addL (P Q : List Int) (k : Nat) : cf (addL P Q) k = cf P k + cf Q k := by
  unfold addL
  rw [cf_trimL]
  by_cases h : k < max P.length Q.length
  · rw [cf_range h]
  · rw [cf_range_beyond (by omega), cf_beyond (P := P) (by omega), cf_beyond (P := Q) (by omega)]; rfl
theorem cf_subL (P Q : List Int) (k : Nat) : cf (subL P Q) k = cf P k - cf Q k := by
  unfold subL
  rw [cf_trimL]
  by_cases h : k < max P.length Q.length
  · rw [cf_range h]
  · rw [cf_range_beyond (by omega), cf_beyond (P := P) (by omega), cf_beyond (P := Q) (by omega)]; rfl
theorem trim_addL (P Q : List Int) : Trim (addL P Q) := trim_trimL _
theorem trim_subL (P Q : List Int) : Trim (subL P Q) := trim_trimL _
/-- the sum of f over 0 .. n - 1 -/
def sm : Nat → (Nat → Int) → Int
  | 0, _ => 0
  | n + 1, f => sm n f + f n
theorem sm_succ (n : Nat) (f : Nat → Int) : sm (n + 1) f = sm n f + f n := rfl
theorem sm_congr {n : Nat} {f g : Nat → Int} (h : ∀ i, i < n → f i = g i) : sm n f = sm n g := by
  induction n with
  | zero => rfl
  | succ n ih => unfold sm; rw [ih fun i hi => h i (by omega), h n (by omega)]
theorem sm_zero {n : Nat} {f : Nat → Int} (h : ∀ i, i < n → f i = 0) : sm n f = 0 := by
  induction n with
  | zero => rfl
  | succ n ih => unfold sm; rw [ih fun i hi => h i (by omega), h n (by omega)]; rfl
theorem sm_add (n : Nat) (f g : Nat → Int) : sm n (fun i => f i + g i) = sm n f + sm n g := by
  induction n with
  | zero => rfl
  | succ n ih => simp only [sm_succ]; rw [ih]; omega
theorem sm_sub (n : Nat) (f g : Nat → Int) : sm n (fun i => f i - g i) = sm n f - sm n g := by
  induction n with
  | zero => rfl
  | succ n ih => simp only [sm_succ]; rw [ih]; omega
theorem sm_mul (n : Nat) (c : Int) (f : Nat → Int) : sm n (fun i => c * f i) = c * sm n f := by
  induction n with
  | zero => simp [sm]
  | succ n ih => unfold sm; rw [ih, Int.mul_add]
theorem sm_mul_r (n : Nat) (c : Int) (f : Nat → Int) : sm n (fun i => f i * c) = sm n f * c := by
  rw [Int.mul_comm, ← sm_mul]; exact sm_congr fun i _ => Int.mul_comm _ _
theorem sm_neg (n : Nat) (f : Nat → Int) : sm n (fun i => - f i) = - sm n f := by
  induction n with
  | zero => rfl
  | succ n ih => simp only [sm_succ]; rw [ih]; omega
theorem sm_ext {n m : Nat} {f : Nat → Int} (h : n ≤ m) (h0 : ∀ i, n ≤ i → i < m → f i = 0) : sm m f = sm n f := by
  induction m with
  | zero => have : n = 0 := by omega
            subst this; rfl
  | succ m ih =>
    by_cases e : n = m + 1
    · subst e; rfl
    · rw [sm_succ, ih (by omega) fun i h1 h2 => h0 i h1 (by omega), h0 m (by omega) (by omega)]
      omega
theorem sm_single {n : Nat} {f : Nat → Int} {j : Nat} (hj : j < n) (h : ∀ i, i < n → i ≠ j → f i = 0) : sm n f = f j := by
  induction n with
  | zero => omega
  | succ n ih =>
    unfold sm
    by_cases e : j = n
    · subst e
      rw [sm_zero fun i hi => h i (by omega) (by omega)]; omega
    · rw [ih (by omega) fun i hi hn => h i (by omega) hn, h n (by omega) (fun z => e z.symm)]; omega
theorem sm_shift (n : Nat) (f : Nat → Int) : sm (n + 1) f = f 0 + sm n (fun i => f (i + 1)) := by
  induction n with
  | zero => simp [sm]
  | succ n ih =>
    rw [sm, ih]
    show f 0 + sm n (fun i => f (i + 1)) + f (n + 1) = f 0 + (sm n (fun i => f (i + 1)) + f (n + 1))
    omega
theorem sm_rev (n : Nat) (f : Nat → Int) : sm n (fun i => f (n - 1 - i)) = sm n f := by
  induction n generalizing f with
  | zero => rfl
  | succ n ih =>
    rw [sm_shift, sm]
    have e : sm n (fun i => f (n + 1 - 1 - (i + 1))) = sm n f := by
      rw [← ih f]
      exact sm_congr fun i hi => by congr 1; omega
    rw [e]
    show f (n - 0) + sm n f = sm n f + f n
    rw [Nat.sub_zero]; omega
theorem sm_swap (n m : Nat) (f : Nat → Nat → Int) : sm n (fun i => sm m (fun j => f i j)) = sm m (fun j => sm n (fun i => f i j)) := by
  induction n with
  | zero => rw [sm]; exact (sm_zero fun _ _ => rfl).symm
  | succ n ih =>
    rw [sm, ih, ← sm_add]
    exact sm_congr fun j _ => rfl
/-- the coefficient of a product at a place -/
def cv (P Q : List Int) (k : Nat) : Int := sm (k + 1) fun i => cf P i * cf Q (k - i)
def mulL (P Q : List Int) : List Int := trimL ((List.range (P.length + Q.length)).map (cv P Q))
theorem cv_beyond {P Q : List Int} {k : Nat} (h : P.length + Q.length ≤ k + 1) : cv P Q k = 0 := sm_zero fun i hi => by
  by_cases h1 : i < P.length
  · rw [cf_beyond (P := Q) (by omega), Int.mul_zero]
  · rw [cf_beyond (P := P) (by omega), Int.zero_mul]
theorem cf_mulL (P Q : List Int) (k : Nat) : cf (mulL P Q) k = cv P Q k := by
  unfold mulL
  rw [cf_trimL]
  by_cases h : k < P.length + Q.length
  · rw [cf_range h]
  · rw [cf_range_beyond (by omega), cv_beyond (by omega)]
theorem trim_mulL (P Q : List Int) : Trim (mulL P Q) := trim_trimL _
/-- the product as it stands behind k turns of the outer loop and i of the inner one -/
def pcv (P Q : List Int) (k j : Nat) : Int := sm k fun a => if a ≤ j then cf P a * cf Q (j - a) else 0
def pcw (P Q : List Int) (k i j : Nat) : Int := pcv P Q k j + if k ≤ j ∧ j - k < i then cf P k * cf Q (j - k) else 0
theorem pcw_zero (P Q : List Int) (k j : Nat) : pcw P Q k 0 j = pcv P Q k j := by
  unfold pcw
  rw [if_neg (by omega)]; omega
theorem pcw_full (P Q : List Int) (k j : Nat) : pcw P Q k Q.length j = pcv P Q (k + 1) j := by
  unfold pcw
  show _ = pcv P Q k j + (if k ≤ j then cf P k * cf Q (j - k) else 0)
  by_cases h : k ≤ j
  · rw [if_pos h]
    by_cases h2 : j - k < Q.length
    · rw [if_pos ⟨h, h2⟩]
    · rw [if_neg (by omega), cf_beyond (P := Q) (by omega), Int.mul_zero]
  · rw [if_neg h, if_neg (by omega)]
theorem pcw_step (P Q : List Int) (k i j : Nat) : pcw P Q k (i + 1) j = if j = k + i then pcw P Q k i j + cf P k * cf Q i else pcw P Q k i j := by
  unfold pcw
  by_cases h : j = k + i
  · subst h
    rw [if_pos rfl, if_pos (by omega), if_neg (by omega), Nat.add_sub_cancel_left]; omega
  · rw [if_neg h]
    by_cases h2 : k ≤ j ∧ j - k < i
    · rw [if_pos h2, if_pos (by omega)]
    · rw [if_neg h2, if_neg (by omega)]
theorem pcv_full (P Q : List Int) (j : Nat) : pcv P Q P.length j = cv P Q j := by
  unfold pcv cv
  by_cases h : P.length ≤ j + 1
  · rw [sm_ext (f := fun i => cf P i * cf Q (j - i)) h fun i h1 h2 => by rw [cf_beyond (P := P) h1, Int.zero_mul]]
    exact sm_congr fun i hi => if_pos (by omega)
  · rw [sm_ext (n := j + 1) (by omega) fun i h1 h2 => if_neg (by omega)]
    exact sm_congr fun i hi => if_pos (by omega)
theorem mulL_of {P Q R : List Int} (hl : R.length = P.length + Q.length) (h : ∀ j, cf R j = pcv P Q P.length j) : trimL R = mulL P Q := by
  refine trim_ext (trim_trimL _) (trim_mulL P Q) fun j => ?_
  rw [cf_trimL, h, pcv_full, cf_mulL]
def linL (P Q : List Int) (f : Int) : List Int := trimL ((List.range (max P.length Q.length)).map fun k => cf P k + f * cf Q k)
theorem linL_one (P Q : List Int) : linL P Q 1 = addL P Q := by
  unfold linL addL
  congr 1
  apply List.map_congr_left
  intro k _
  rw [Int.one_mul]
theorem linL_neg (P Q : List Int) : linL P Q (-1) = subL P Q := by
  unfold linL subL
  congr 1
  apply List.map_congr_left
  intro k _
  omega
theorem linL_of {P Q R : List Int} {f : Int} (hl : R.length = max P.length Q.length) (h : ∀ j, j < max P.length Q.length → cf R j = cf P j + f * cf Q j) : trimL R = linL P Q f := by
  unfold linL
  congr 1
  refine ext (by simpa using hl) fun k hk => ?_
  rw [h k (by omega), cf_range (by omega)]
/-! ### slope, turned, flipped, lifted -/
def slopeL (P : List Int) : List Int := (List.range (P.length - 1)).map fun (k : Nat) => ((k : Int) + 1) * cf P (k + 1)
def turnL (P : List Int) : List Int := (List.range P.length).map fun k => if k % 2 = 1 then - cf P k else cf P k
def flipL (P : List Int) : List Int := trimL P.reverse
/-- each coefficient at so many times its place -/
def liftL (P : List Int) (m : Nat) : List Int := (List.range (if P.length = 0 then 0 else m * (P.length - 1) + 1)).map fun j => if j % m = 0 then cf P (j / m) else 0
theorem cf_slopeL (P : List Int) (k : Nat) : cf (slopeL P) k = ((k : Int) + 1) * cf P (k + 1) := by
  unfold slopeL
  by_cases h : k < P.length - 1
  · rw [cf_range h]
  · rw [cf_range_beyond (by omega), cf_beyond (P := P) (show P.length ≤ k + 1 by omega), Int.mul_zero]
theorem cf_turnL (P : List Int) (k : Nat) : cf (turnL P) k = if k % 2 = 1 then - cf P k else cf P k := by
  unfold turnL
  by_cases h : k < P.length
  · rw [cf_range h]
  · rw [cf_range_beyond (by omega), cf_beyond (P := P) (by omega)]; split <;> rfl
theorem turnL_len (P : List Int) : (turnL P).length = P.length := by unfold turnL; simp
theorem turnL_turnL (P : List Int) : turnL (turnL P) = P := by
  refine ext (by rw [turnL_len, turnL_len]) fun k _ => ?_
  rw [cf_turnL, cf_turnL]
  by_cases h : k % 2 = 1
  · rw [if_pos h, if_pos h]; omega
  · rw [if_neg h, if_neg h]
theorem cf_reverse {P : List Int} {k : Nat} (h : k < P.length) : cf P.reverse k = cf P (P.length - 1 - k) := by
  unfold cf
  rw [List.getD_eq_getElem?_getD, List.getElem?_reverse h, List.getD_eq_getElem?_getD]
theorem liftL_len (P : List Int) (m : Nat) : (liftL P m).length = if P.length = 0 then 0 else m * (P.length - 1) + 1 := by unfold liftL; simp
theorem div_bound {j m n : Nat} (hm : 0 < m) (h : j < m * n + 1) : j / m ≤ n := by
  rw [← Nat.lt_add_one_iff, Nat.div_lt_iff_lt_mul hm, Nat.add_mul, Nat.mul_comm n m]; omega
theorem liftL_step {P R : List Int} {m i : Nat} (hm : 0 < m) (hi : i < P.length) (hR : R = liftL (P.take i) m) : (if i = 0 then R else R ++ List.replicate (m - 1) 0) ++ [cf P i] = liftL (P.take (i + 1)) m := by
  have lt1 : (P.take i).length = i := by rw [List.length_take]; omega
  have lt2 : (P.take (i + 1)).length = i + 1 := by rw [List.length_take]; omega
  have lR : R.length = if i = 0 then 0 else m * (i - 1) + 1 := by rw [hR, liftL_len, lt1]
  have lL : (if i = 0 then R else R ++ List.replicate (m - 1) 0).length = m * i := by
    by_cases h : i = 0
    · subst h; rw [if_pos rfl, lR, if_pos rfl]; rfl
    · rw [if_neg h, List.length_append, List.length_replicate, lR, if_neg h]
      have : m * i = m * (i - 1) + m := by rw [← Nat.mul_succ]; congr 1; omega
      omega
  refine ext ?_ fun k hk => ?_
  · rw [List.length_append, lL, liftL_len, lt2, if_neg (by omega), Nat.add_sub_cancel]; rfl
  · rw [List.length_append, lL] at hk
    have hk' : k < m * i + 1 := hk
    have hr : cf (liftL (P.take (i + 1)) m) k = if k % m = 0 then cf (P.take (i + 1)) (k / m) else 0 := by
      unfold liftL
      rw [lt2, if_neg (by omega), Nat.add_sub_cancel, cf_range hk']
    rw [hr]
    by_cases hlast : k = m * i
    · rw [cf_append_right (by omega), lL, hlast, Nat.sub_self, Nat.mul_mod_right, if_pos rfl, Nat.mul_div_cancel_left _ hm, cf_take (by omega)]; rfl
    · rw [cf_append_left (by omega)]
      have i0 : i ≠ 0 := by intro e; subst e; omega
      rw [if_neg i0]
      rw [if_neg i0] at lR
      have em : m * i = m * (i - 1) + m := by rw [← Nat.mul_succ]; congr 1; omega
      by_cases hin : k < R.length
      · rw [cf_append_left hin, hR]
        unfold liftL
        rw [lt1, if_neg i0, cf_range (by omega)]
        split
        · have := div_bound hm (show k < m * (i - 1) + 1 by omega)
          rw [cf_take (by omega), cf_take (by omega)]
        · rfl
      · rw [cf_append_right (by omega), cf_rep0]
        have hd : k / m = i - 1 := by
          apply Nat.div_eq_of_lt_le
          · rw [Nat.mul_comm]; omega
          · rw [Nat.succ_mul, Nat.mul_comm]; omega
        have hne : k % m ≠ 0 := fun e => by
          have := Nat.div_add_mod k m
          rw [hd, e] at this
          omega
        rw [if_neg hne]
theorem liftL_all (P : List Int) (m : Nat) : liftL (P.take P.length) m = liftL P m := by rw [List.take_length]
theorem liftL_nil (P : List Int) (m : Nat) : liftL (P.take 0) m = [] := by simp [liftL]
theorem cf_liftL (P : List Int) {m : Nat} (hm : 0 < m) (j : Nat) : cf (liftL P m) j = if j % m = 0 then cf P (j / m) else 0 := by
  unfold liftL
  by_cases h : j < (if P.length = 0 then 0 else m * (P.length - 1) + 1)
  · rw [cf_range h]
  · rw [cf_range_beyond (by omega)]
    split
    · next e =>
      refine (cf_beyond ?_).symm
      by_cases h0 : P.length = 0
      · rw [h0]; exact Nat.zero_le _
      · rw [if_neg h0] at h
        have := Nat.div_add_mod j m
        rw [e] at this
        apply Nat.le_of_not_lt
        intro hlt
        have h2 : m * (j / m) ≤ m * (P.length - 1) := Nat.mul_le_mul_left m (by omega)
        omega
    · rfl
theorem trim_liftL {P : List Int} {m : Nat} (hm : 0 < m) (h : Trim P) : Trim (liftL P m) := by
  by_cases h0 : P.length = 0
  · left; unfold liftL; rw [if_pos h0]; rfl
  · right
    rw [liftL_len, if_neg h0, Nat.add_sub_cancel, cf_liftL P hm, Nat.mul_mod_right, if_pos rfl, Nat.mul_div_cancel_left _ hm]
    rcases h with h | h
    · rw [h] at h0; exact absurd rfl h0
    · exact h
/-- the product with its noughts -/
def mulU (P Q : List Int) : List Int := if P = [] ∨ Q = [] then [] else (List.range (P.length + Q.length - 1)).map (cv P Q)
theorem cf_mulU (P Q : List Int) (k : Nat) : cf (mulU P Q) k = cv P Q k := by
  unfold mulU
  split
  · next h =>
    rw [cf_nil]
    refine (cv_beyond' h k).symm
  · by_cases h : k < P.length + Q.length - 1
    · rw [cf_range h]
    · rw [cf_range_beyond (by omega), cv_beyond (by omega)]
where
  cv_beyond' {P Q : List Int} (h : P = [] ∨ Q = []) (k : Nat) : cv P Q k = 0 := sm_zero fun i _ => by
    rcases h with h | h
    · rw [h, cf_nil, Int.zero_mul]
    · rw [h, cf_nil, Int.mul_zero]
theorem mulU_len (P Q : List Int) : (mulU P Q).length ≤ P.length + Q.length := by
  unfold mulU
  split
  · simp
  · rw [List.length_map, List.length_range]; omega
theorem addL_len (P Q : List Int) : (addL P Q).length ≤ max P.length Q.length := Nat.le_trans (trimL_len _) (by simp)
theorem sm_abs {n : Nat} {f : Nat → Int} {b : Nat} (h : ∀ i, i < n → (f i).natAbs ≤ b) : (sm n f).natAbs ≤ n * b := by
  induction n with
  | zero => simp [sm]
  | succ n ih =>
    rw [sm_succ, Nat.add_mul]
    have := ih fun i hi => h i (by omega)
    have := h n (by omega)
    omega
theorem two_pow_ge (n : Nat) : n + 1 ≤ 2 ^ n := by
  induction n with
  | zero => decide
  | succ n ih => rw [Nat.pow_succ]; omega
theorem cv_sz {P Q : List Int} {n m : Nat} (hp : Sz n P) (hq : Sz m Q) (k : Nat) : (cv P Q k).natAbs < 2 ^ (n + m + P.length + 1) := by
  have h1 : cv P Q k = pcv P Q P.length k := (pcv_full P Q k).symm
  rw [h1]
  have h2 : (pcv P Q P.length k).natAbs ≤ P.length * 2 ^ (n + m) := sm_abs fun i _ => by
    split
    · rw [Int.natAbs_mul, Nat.pow_add]
      exact Nat.mul_le_mul (Nat.le_of_lt (hp.cf _)) (Nat.le_of_lt (hq.cf _))
    · exact Nat.zero_le _
  refine Nat.lt_of_le_of_lt h2 ?_
  have h3 := two_pow_ge P.length
  have h4 : 2 ^ (n + m + P.length + 1) = 2 ^ (P.length + 1) * 2 ^ (n + m) := by rw [← Nat.pow_add]; congr 1; omega
  rw [h4]
  exact Nat.mul_lt_mul_of_pos_right (by rw [Nat.pow_succ]; omega) (Nat.two_pow_pos _)
theorem Sz.mulL {P Q : List Int} {n m : Nat} (hp : Sz n P) (hq : Sz m Q) : Sz (n + m + P.length + 1) (mulL P Q) := Sz.of fun k _ => by rw [cf_mulL]; exact cv_sz hp hq k
theorem Sz.mulU {P Q : List Int} {n m : Nat} (hp : Sz n P) (hq : Sz m Q) : Sz (n + m + P.length + 1) (mulU P Q) := Sz.of fun k _ => by rw [cf_mulU]; exact cv_sz hp hq k
theorem Sz.addL {P Q : List Int} {n : Nat} (hp : Sz n P) (hq : Sz n Q) : Sz (n + 1) (addL P Q) := Sz.of fun k _ => by
  rw [cf_addL]
  have := hp.cf k
  have := hq.cf k
  have : 2 ^ (n + 1) = 2 ^ n + 2 ^ n := by rw [Nat.pow_succ]; omega
  omega
end ML

set_option linter.all false
/-! Shrunk, plain. -/
namespace MP
open MG ML
theorem mem_cf {P : List Int} {d : Int} : (∀ x ∈ P, d ∣ x) ↔ ∀ k, d ∣ cf P k := by
  constructor
  · intro h k
    by_cases hk : k < P.length
    · rw [cf_get hk]; exact h _ (List.getElem_mem hk)
    · rw [cf_beyond (by omega)]; exact Int.dvd_zero d
  · intro h x hx
    obtain ⟨k, hk, rfl⟩ := List.getElem_of_mem hx
    rw [← cf_get hk]; exact h k
theorem gcdN_congr {P Q : List Int} (h : ∀ k, cf P k = cf Q k) : gcdN P = gcdN Q := by
  refine gcdN_eq (mem_cf.mpr fun k => ?_) fun d hd => dvd_gcdN (mem_cf.mpr fun k => ?_)
  · rw [h]; exact mem_cf.mp (fun x hx => gcdN_dvd hx) k
  · rw [← h]; exact mem_cf.mp hd k
theorem gcdN_trim (P : List Int) : gcdN (trimL P) = gcdN P := gcdN_congr (cf_trimL P)
theorem gcdN_cf (P : List Int) (k : Nat) : (gcdN P : Int) ∣ cf P k := mem_cf.mp (fun x hx => gcdN_dvd hx) k
theorem gcdL_cf (P : List Int) (k : Nat) : gcdL P ∣ cf P k := gcdN_cf P k
theorem gcdN_zero {P : List Int} (h : gcdN P = 0) (k : Nat) : cf P k = 0 := by
  have := gcdN_cf P k
  rw [h] at this
  exact Int.zero_dvd.mp this
theorem gcdL_ne {P : List Int} {k : Nat} (h : cf P k ≠ 0) : gcdL P ≠ 0 := fun e => h (gcdN_zero (by unfold gcdL at e; omega) k)
theorem gcdL_nonneg (P : List Int) : 0 ≤ gcdL P := by unfold gcdL; omega
theorem gcdL_pos {P : List Int} {k : Nat} (h : cf P k ≠ 0) : 0 < gcdL P := by
  have := gcdL_ne h; have := gcdL_nonneg P; omega
theorem gcdL_le {P : List Int} {k : Nat} (h : cf P k ≠ 0) : (gcdL P).natAbs ≤ (cf P k).natAbs := Nat.le_of_dvd (by omega) (Int.natAbs_dvd_natAbs.mpr (gcdL_cf P k))
theorem trim_last {P : List Int} (h : Trim P) (h0 : P ≠ []) : cf P (P.length - 1) ≠ 0 := h.elim (fun e => absurd e h0) id
theorem gcdL_trim_pos {P : List Int} (h : Trim P) (h0 : P ≠ []) : 0 < gcdL P := gcdL_pos (trim_last h h0)
theorem gcdL_log {n : Nat} {P : List Int} (hn : 0 < n) (hs : Sz n P) (h : Trim P) (h0 : P ≠ []) : (gcdL P).natAbs < 2 ^ n := Nat.lt_of_le_of_lt (gcdL_le (trim_last h h0)) (hs.cf _)
theorem gcdN_mul (c : Int) (P : List Int) : gcdN (P.map (c * ·)) = c.natAbs * gcdN P := by
  induction P with
  | nil => simp [gcdN_nil]
  | cons x r ih => rw [List.map_cons, gcdN_cons, gcdN_cons, ih, Int.natAbs_mul, Nat.gcd_mul_left]
/-- divided by the shared divisor -/
def shrunkL (P : List Int) : List Int := P.map fun x => x.fdiv (gcdL P)
def negL (P : List Int) : List Int := P.map fun x => -x
def plainL (P : List Int) : List Int := if shrunkL P ≠ [] ∧ cf (shrunkL P) ((shrunkL P).length - 1) < 0 then negL (shrunkL P) else shrunkL P
theorem shrunkL_len (P : List Int) : (shrunkL P).length = P.length := by unfold shrunkL; simp
theorem fdiv_zero (c : Int) : (0 : Int).fdiv c = 0 := by simp
theorem cf_shrunkL (P : List Int) (k : Nat) : cf (shrunkL P) k = (cf P k).fdiv (gcdL P) := cf_map (f := fun x => x.fdiv (gcdL P)) (fdiv_zero _) P k
theorem fdiv_exact {c x : Int} (h : c ∣ x) : c * x.fdiv c = x := by
  rw [Int.fdiv_eq_ediv_of_dvd h, Int.mul_ediv_cancel' h]
theorem mul_shrunkL (P : List Int) (k : Nat) : gcdL P * cf (shrunkL P) k = cf P k := by
  rw [cf_shrunkL]; exact fdiv_exact (gcdL_cf P k)
theorem cf_negL (P : List Int) (k : Nat) : cf (negL P) k = - cf P k := cf_map (f := fun x => -x) (by omega) P k
theorem negL_len (P : List Int) : (negL P).length = P.length := by unfold negL; simp
theorem trim_shrunkL {P : List Int} (h : Trim P) : Trim (shrunkL P) := by
  rcases h with h | h
  · left; rw [h]; rfl
  · right
    rw [shrunkL_len]
    intro e
    apply h
    rw [← mul_shrunkL, e, Int.mul_zero]
theorem trim_negL {P : List Int} (h : Trim P) : Trim (negL P) := by
  rcases h with h | h
  · left; rw [h]; rfl
  · right
    rw [negL_len, cf_negL]; omega
theorem trim_plainL {P : List Int} (h : Trim P) : Trim (plainL P) := by
  unfold plainL
  split
  · exact trim_negL (trim_shrunkL h)
  · exact trim_shrunkL h
theorem plainL_len (P : List Int) : (plainL P).length = P.length := by
  unfold plainL
  split
  · rw [negL_len, shrunkL_len]
  · rw [shrunkL_len]
theorem shrunkL_nil : shrunkL [] = [] := rfl
theorem plainL_nil : plainL [] = [] := by simp [plainL, shrunkL_nil]
/-- what is c times a list whose shared divisor is 1, c above 0 -/
theorem shrunkL_of {P Q : List Int} {c : Int} (hc : 0 < c) (hl : P.length = Q.length) (h : ∀ k, cf P k = c * cf Q k) (h1 : gcdN Q = 1) : shrunkL P = Q := by
  have hP : P = Q.map (c * ·) := ext (by simpa using hl) fun k _ => by rw [h, cf_map (by omega)]
  have hg : gcdL P = c := by
    unfold gcdL
    rw [hP, gcdN_mul, h1, Nat.mul_one]; omega
  refine ext (by rw [shrunkL_len, hl]) fun k _ => ?_
  rw [cf_shrunkL, hg, h, Int.mul_fdiv_cancel_left _ (by omega)]
theorem gcdN_shrunkL {P : List Int} (h : gcdN P ≠ 0) : gcdN (shrunkL P) = 1 := by
  have e : P = (shrunkL P).map (gcdL P * ·) := ext (by simp [shrunkL_len]) fun k _ => by rw [cf_map (by omega), mul_shrunkL]
  have h2 := gcdN_mul (gcdL P) (shrunkL P)
  rw [← e] at h2
  have h3 : (gcdL P).natAbs = gcdN P := by unfold gcdL; omega
  rw [h3] at h2
  exact Nat.eq_of_mul_eq_mul_left (Nat.pos_of_ne_zero h) (by rw [← h2, Nat.mul_one])
theorem gcdN_negL (P : List Int) : gcdN (negL P) = gcdN P := by
  have e : negL P = P.map ((-1) * ·) := by
    unfold negL; apply List.map_congr_left; intro x _; omega
  rw [e, gcdN_mul]; simp
theorem gcdN_plainL {P : List Int} (h : gcdN P ≠ 0) : gcdN (plainL P) = 1 := by
  unfold plainL
  split
  · rw [gcdN_negL, gcdN_shrunkL h]
  · exact gcdN_shrunkL h
/-- a list with 1 as its shared divisor stays -/
theorem shrunkL_one {P : List Int} (h : gcdN P = 1) : shrunkL P = P := shrunkL_of (c := 1) (by decide) rfl (fun k => by omega) h
theorem plainL_last {P : List Int} (h : Trim P) (h0 : P ≠ []) : 0 < cf (plainL P) ((plainL P).length - 1) := by
  have h1 := trim_last (trim_plainL h) (fun e => h0 (by
    have := plainL_len P
    rw [e] at this
    exact List.eq_nil_of_length_eq_zero this.symm))
  have hl := plainL_len P
  unfold plainL at h1 ⊢
  split
  · next hh =>
    rw [cf_negL, negL_len]
    omega
  · next hh =>
    rw [if_neg hh] at h1
    have hs : shrunkL P ≠ [] := fun e => h0 (by
      have := shrunkL_len P
      rw [e] at this
      exact List.eq_nil_of_length_eq_zero this.symm)
    have : ¬ cf (shrunkL P) ((shrunkL P).length - 1) < 0 := fun z => hh ⟨hs, z⟩
    omega
theorem plainL_self {P : List Int} (h1 : gcdN P = 1) (h : P ≠ [] → 0 ≤ cf P (P.length - 1)) : plainL P = P := by
  unfold plainL
  rw [shrunkL_one h1, if_neg]
  rintro ⟨h2, h3⟩
  have := h h2
  omega
theorem plainL_of {P Q : List Int} {c : Int} (hc : c ≠ 0) (hl : P.length = Q.length) (h : ∀ k, cf P k = c * cf Q k) (h1 : gcdN Q = 1) (hq : Q ≠ [] → 0 < cf Q (Q.length - 1)) : plainL P = Q := by
  by_cases hp : 0 < c
  · have e := shrunkL_of hp hl h h1
    unfold plainL
    rw [e, if_neg]
    rintro ⟨h2, h3⟩
    have := hq h2
    omega
  · have e : shrunkL P = negL Q := shrunkL_of (c := -c) (by omega) (by rw [negL_len, hl]) (fun k => by rw [h, cf_negL, Int.neg_mul_neg]) (by rw [gcdN_negL, h1])
    unfold plainL
    rw [e]
    by_cases hn : Q = []
    · subst hn; simp [negL]
    · have := hq hn
      rw [if_pos]
      · unfold negL; rw [List.map_map]
        have : ((fun x : Int => -x) ∘ fun x => -x) = id := by funext x; simp
        rw [this, List.map_id]
      · refine ⟨fun e2 => hn ?_, by rw [negL_len, cf_negL]; omega⟩
        have := negL_len Q
        rw [e2] at this
        exact List.eq_nil_of_length_eq_zero this.symm
theorem Sz.shrunkL {n : Nat} {P : List Int} (h : Sz n P) : Sz n (shrunkL P) := Sz.of fun k _ => by
  have h1 := mul_shrunkL P k
  have h2 := h.cf k
  by_cases h0 : gcdL P = 0
  · rw [cf_shrunkL, h0, Int.fdiv_zero]; exact Nat.two_pow_pos n
  · rw [← h1, Int.natAbs_mul] at h2
    exact Nat.lt_of_le_of_lt (Nat.le_mul_of_pos_left _ (by omega)) h2
theorem Sz.negL {n : Nat} {P : List Int} (h : Sz n P) : Sz n (negL P) := Sz.of fun k _ => by rw [cf_negL, Int.natAbs_neg]; exact h.cf k
theorem Sz.plainL {n : Nat} {P : List Int} (h : Sz n P) : Sz n (plainL P) := by
  unfold MP.plainL
  split
  · exact Sz.negL (Sz.shrunkL h)
  · exact Sz.shrunkL h
end MP

set_option linter.all false
/-! The determinant as the program reckons it. -/
namespace MT
open ML
/-- a cell -/
def at_ (M : List (List Int)) (i j : Nat) : Int := cf (M.getD i []) j
def pivL (M : List (List Int)) (k : Nat) : Nat := k + ((M.drop k).takeWhile (fun R => decide (cf R k = 0))).length
def clrRow (top : List Int) (k : Nat) (before : Int) (R : List Int) : List Int := (List.range R.length).map fun j => (cf top k * cf R j - cf R k * cf top j).fdiv before
def clrL (M : List (List Int)) (k : Nat) (before : Int) : List (List Int) := M.take (k + 1) ++ (M.drop (k + 1)).map (clrRow (M.getD k []) k before)
def swapL (M : List (List Int)) (i k : Nat) : List (List Int) := (M.set i (M.getD k [])).set k (M.getD i [])
/-- the rows as they stand when they are cleared -/
def swp (M : List (List Int)) (k : Nat) : List (List Int) := if pivL M k > k then swapL M k (pivL M k) else M
def sgn_ (M : List (List Int)) (k : Nat) (s : Int) : Int := if pivL M k > k then -s else s
def detG : Nat → Nat → List (List Int) → Int → Int → Int
  | 0, _, _, s, b => s * b
  | r + 1, k, M, s, b => if pivL M k = M.length then 0 else detG r (k + 1) (clrL (swp M k) k b) (sgn_ M k s) (at_ (clrL (swp M k) k b) k k)
def detL (M : List (List Int)) : Int := detG M.length 0 M 1 1
theorem pivL_ge (M : List (List Int)) (k : Nat) : k ≤ pivL M k := Nat.le_add_right ..
theorem pivL_le {M : List (List Int)} {k : Nat} (h : k ≤ M.length) : pivL M k ≤ M.length := by
  unfold pivL
  have : ((M.drop k).takeWhile (fun R => decide (cf R k = 0))).length ≤ (M.drop k).length := (List.takeWhile_sublist _).length_le
  rw [List.length_drop] at this
  omega
end MT
namespace MT
open ML
theorem swapL_len (M : List (List Int)) (i k : Nat) : (swapL M i k).length = M.length := by unfold swapL; simp
theorem swp_len (M : List (List Int)) (k : Nat) : (swp M k).length = M.length := by
  unfold swp
  split
  · exact swapL_len ..
  · rfl
theorem clrL_len (M : List (List Int)) (k : Nat) (b : Int) : (clrL M k b).length = M.length := by
  unfold clrL
  rw [List.length_append, List.length_map, List.length_take, List.length_drop]; omega
end MT

set_option linter.all false
set_option maxRecDepth 100000
/-! Lists of lists of ints. -/
namespace RB
open PySem PySem.Spec PyProof.Rows L2
open Evl (Ex rLenS rListS rMax2 tCut pss_cut)
def Rws (H : Hp) : List Addr → List (List Int) → Prop
  | [], [] => True
  | p :: ps, R :: Rs => H p = some (.lst (R.map V.int)) ∧ Rws H ps Rs
  | _, _ => False
theorem Rws.len {H : Hp} : ∀ {ps : List Addr} {Rs : List (List Int)}, Rws H ps Rs → ps.length = Rs.length
  | [], [], _ => rfl
  | p :: ps, R :: Rs, h => by rw [List.length_cons, List.length_cons, Rws.len h.2]
theorem Rws.ex {H H' : Hp} (e : Ex H H') : ∀ {ps : List Addr} {Rs : List (List Int)}, Rws H ps Rs → Rws H' ps Rs
  | [], [], _ => trivial
  | p :: ps, R :: Rs, h => ⟨e _ _ h.1, Rws.ex e h.2⟩
theorem Rws.exb {l : Addr} {H H' : Hp} (e : Exb l H H') : ∀ {ps : List Addr} {Rs : List (List Int)}, l ∉ ps → Rws H ps Rs → Rws H' ps Rs
  | [], [], _, _ => trivial
  | p :: ps, R :: Rs, hn, h => ⟨e _ (fun x => hn (by rw [x]; exact List.mem_cons_self ..)) _ h.1, Rws.exb e (fun x => hn (List.mem_cons_of_mem _ x)) h.2⟩
theorem Rws.append {H : Hp} : ∀ {ps qs : List Addr} {Rs Ss : List (List Int)}, Rws H ps Rs → Rws H qs Ss → Rws H (ps ++ qs) (Rs ++ Ss)
  | [], _, [], _, _, h => h
  | p :: ps, _, R :: Rs, _, h, h' => ⟨h.1, Rws.append h.2 h'⟩
theorem Rws.get {H : Hp} : ∀ {ps : List Addr} {Rs : List (List Int)} {i : Nat} {p : Addr}, Rws H ps Rs → ps[i]? = some p → ∃ R, Rs[i]? = some R ∧ H p = some (.lst (R.map V.int))
  | p :: ps, R :: Rs, 0, q, h, e => by
    simp only [List.getElem?_cons_zero, Option.some.injEq] at e
    exact ⟨R, rfl, by rw [← e]; exact h.1⟩
  | p :: ps, R :: Rs, i + 1, q, h, e => by
    simp only [List.getElem?_cons_succ] at e
    obtain ⟨S, h1, h2⟩ := Rws.get (i := i) h.2 e
    exact ⟨S, by simpa using h1, h2⟩
theorem dp_rows {K : PySem.W.Frag} {H : Hp} : ∀ {ps : List Addr} {Rs : List (List Int)}, Rws H ps Rs → DpAll K H (ps.map V.ref) (Rs.map dI)
  | [], [], _ => .nil
  | p :: ps, R :: Rs, h => .cons (dp_listI (SqL.inj h.1)) (dp_rows h.2)
theorem canLay_rows : ∀ Rs : List (List Int), PyData.canLayAll0 (Rs.map dI) = true
  | [] => by simp [PyData.canLayAll0]
  | n :: r => by
    rw [List.map_cons, PyData.canLayAll0, canLay_rows r]
    show (PyData.canLay0 (dI n) && true) = true
    unfold dI
    rw [PyData.canLay0, canLay_ints]; rfl
theorem depth_dI (n : List Int) : PyData.depth (dI n) ≤ 2 := by
  have := depth_ints n
  unfold dI
  rw [PyData.depth]
  omega
theorem depth_rows : ∀ Rs : List (List Int), PyData.depthAll (Rs.map dI) ≤ 2
  | [] => by simp [PyData.depthAll]
  | n :: r => by
    have h1 := depth_rows r
    have h2 := depth_dI n
    rw [List.map_cons, PyData.depthAll]
    omega
def dR (Rs : List (List Int)) : PyData := .list (Rs.map dI)
theorem shaped_dR (Rs : List (List Int)) : SeqAt.shaped (dR Rs) = true := by
  have h1 := canLay_rows Rs
  have h2 := depth_rows Rs
  unfold SeqAt.shaped dR
  rw [Bool.and_eq_true, PyData.canLay0, PyData.depth]
  exact ⟨h1, decide_eq_true (by omega)⟩
theorem eqvAll_rows : ∀ Rs Ss : List (List Int), PyData.eqvAll (Rs.map dI) (Ss.map dI) = decide (Rs = Ss)
  | [], [] => by simp [PyData.eqvAll]
  | [], m :: r => by simp [PyData.eqvAll]
  | n :: r, [] => by simp [PyData.eqvAll]
  | n :: r, m :: s => by
    rw [List.map_cons, List.map_cons, PyData.eqvAll, eqvAll_rows r s, eqv_dI]
    simp
theorem eqv_dR (Rs Ss : List (List Int)) : PyData.eqv (dR Rs) (dR Ss) = decide (Rs = Ss) := by
  unfold dR
  rw [PyData.eqv, eqvAll_rows]
def RowsK (K : PySem.W.Frag) (H : Hp) (a : Addr) (Rs : List (List Int)) : Prop := ∃ ps, SqL K H a (ps.map V.ref) ∧ Rws H ps Rs
theorem dp_listR {K : PySem.W.Frag} {H : Hp} {a : Addr} {ps : List Addr} {Rs : List (List Int)} (h : SqL K H a (ps.map V.ref)) (h' : Rws H ps Rs) : Dp K H (.ref a) (dR Rs) := .lst h (dp_rows h')
theorem r_eqRows {K : PySem.W.Frag} {H : Hp} {Q : VK} {a b : Addr} {ps qs : List Addr} {Rs Ss : List (List Int)} (h1 : SqL K H a (ps.map V.ref)) (h1' : Rws H ps Rs) (h2 : SqL K H b (qs.map V.ref)) (h2' : Rws H qs Ss) (q : Q (.bl (decide (Rs = Ss))) H) : rEqD K (.ref a) (.ref b) H Q :=
  ⟨_, _, dp_listR h1 h1', dp_listR h2 h2', shaped_dR Rs, shaped_dR Ss, by rw [eqv_dR]; exact q⟩
/-- what a row tells: new lists -/
def RetRow (Rs : List (List Int)) (H : Hp) (Q : VK) : Prop := ∀ (a : Addr) (ps : List Addr) (H' : Hp), H a = none → (∀ p ∈ ps, H p = none) → a ∉ ps → Ex H H' → H' a = some (.lst (ps.map V.ref)) → Rws H' ps Rs → Q (.ref a) H'
/-- the last two items -/
theorem r_ix2 {K : PySem.W.Frag} {H : Hp} {Q : VK} {p : Addr} {xs : List V} {x y : V} (h : SqL K H p (xs ++ [x, y])) (q : Q x H) : rIxL K (.ref p) (.int (-2)) H Q :=
  r_ixL h (by
    unfold atI
    have e : ixN (xs ++ [x, y]).length (-2) = some xs.length := by
      unfold ixN
      rw [if_neg (by decide), if_pos (by simp; omega)]
      simp
      omega
    rw [e]; simp) q
theorem r_ix1 {K : PySem.W.Frag} {H : Hp} {Q : VK} {p : Addr} {xs : List V} {x y : V} (h : SqL K H p (xs ++ [x, y])) (q : Q y H) : rIxL K (.ref p) (.int (-1)) H Q :=
  r_ixL h (by
    have : xs ++ [x, y] = (xs ++ [x]) ++ [y] := by simp
    rw [this]; exact atI_last _ _) q
end RB
namespace RB
open PySem PySem.Spec PyProof.Rows L2
open Evl (Ex)
theorem Rws.take {H : Hp} : ∀ (n : Nat) {ps : List Addr} {Rs : List (List Int)}, Rws H ps Rs → Rws H (ps.take n) (Rs.take n)
  | 0, _, _, _ => by rw [List.take_zero, List.take_zero]; trivial
  | n + 1, [], [], _ => trivial
  | n + 1, p :: ps, R :: Rs, h => ⟨h.1, Rws.take n h.2⟩
theorem Rws.flat {H : Hp} {ps : List Addr} {Rs : List (List Int)} (h : Rws H ps Rs) : ∀ n : Nat, Rws H (List.replicate n ps).flatten (List.replicate n Rs).flatten
  | 0 => trivial
  | n + 1 => by
    rw [List.replicate_succ, List.replicate_succ, List.flatten_cons, List.flatten_cons]
    exact Rws.append h (Rws.flat h n)
theorem flat_map {α β : Type} (f : α → β) (xs : List α) : ∀ n : Nat, (List.replicate n (xs.map f)).flatten = ((List.replicate n xs).flatten).map f
  | 0 => rfl
  | n + 1 => by rw [List.replicate_succ, List.replicate_succ, List.flatten_cons, List.flatten_cons, flat_map f xs n, List.map_append]
theorem flat_len {α : Type} (xs : List α) : ∀ n : Nat, ((List.replicate n xs).flatten).length = n * xs.length
  | 0 => by simp
  | n + 1 => by rw [List.replicate_succ, List.flatten_cons, List.length_append, flat_len xs n, Nat.add_mul]; omega
theorem flat_mem {α : Type} {xs : List α} {x : α} : ∀ {n : Nat}, x ∈ (List.replicate n xs).flatten → x ∈ xs
  | 0, h => by cases h
  | n + 1, h => by
    rw [List.replicate_succ, List.flatten_cons, List.mem_append] at h
    exact h.elim id flat_mem
/-- a list of lists times a number -/
theorem r_repR {H : Hp} {Q : VK} {l : Addr} {ps : List Addr} {k : Int} (h1 : H l = some (.lst (ps.map V.ref))) (hk : k < 2 ^ 63) (z : ps.length * k.toNat ≤ 16777216) (q : ∀ p H', H p = none → Ex H H' → H' p = some (.lst (((List.replicate k.toNat ps).flatten).map V.ref)) → Q (.ref p) H') (h0 : -(2 ^ 63) ≤ k := by omega) : rRep (.ref l) (.int k) H Q :=
  ⟨l, k, ps.map V.ref, rfl, rfl, h1, h0, hk, by rw [List.length_map]; exact small_le z, newL fun p H' hp e h => q p H' hp e (by rw [← flat_map]; exact h)⟩
theorem cutV_to {xs : List V} {n : Int} (h0 : 0 ≤ n) : cutV xs none (some n) = xs.take n.toNat := by
  obtain ⟨k, rfl⟩ : ∃ k : Nat, n = (k : Int) := ⟨n.toNat, by omega⟩
  unfold cutV
  rw [HT.sIx_none, HT.sIx_nat, List.drop_zero, Int.toNat_natCast, Nat.sub_zero]
  by_cases h : k ≤ xs.length
  · rw [Nat.min_eq_left h]
  · rw [Nat.min_eq_right (by omega), List.take_length, List.take_of_length_le (by omega)]
/-- over a list of lists, each giving a new list -/
theorem lc_rowsN {K : PySem.W.Frag} {σ : L2.St} {H : Hp} {te : TE} {Q : VK} {a : Addr} {ps : List Addr} {Rs : List (List Int)} {j : Nat} (f : List Int → List Int) (hx : SqL K H a (ps.map V.ref)) (hW : Rws H ps Rs) (hz : ps.length < 1000000)
    (he : ∀ p R H1, R ∈ Rs → H1 p = some (.lst (R.map V.int)) → Ex H H1 → ∀ Q' : VK, (∀ q H2, H1 q = none → Ex H1 H2 → H2 q = some (.lst ((f R).map V.int)) → Q' (.ref q) H2) → te (σ.set j (some (.ref p))) H1 Q')
    (q : ∀ D H' qs, H D = none → Ex H H' → H' D = some (.lst (qs.map V.ref)) → Rws H' qs (Rs.map f) → D ∉ qs → Q (.ref D) H') : Lc (Itl K a) (gName j) tYes te [j] σ H Q := fun D hD =>
  lc_list (xs := ps.map V.ref) (fun i H' => Ex H H' ∧ ∃ qs : List Addr, H' D = some (.lst (qs.map V.ref)) ∧ Rws H' qs ((Rs.take i).map f) ∧ D ∉ qs ∧ qs.length ≤ i) ⟨Evl.Ex.new hD, [], upd_same, trivial, (fun h => by cases h), Nat.le_refl _⟩ (fun i H' _ p => p.1.l hx)
    (fun i x H' hi p => ⟨by show ((σ.set j none).set j (some x)).set j none = σ.set j none; rw [set_set, set_set], by
      show te ((σ.set j none).set j (some x)) H' _
      rw [set_set]
      rw [List.getElem?_map] at hi
      obtain ⟨p', hp', rfl⟩ := Option.map_eq_some_iff.mp hi
      obtain ⟨e, qs, hq, hR, hn, hl⟩ := p
      obtain ⟨R, hRm, hpR⟩ := hW.get hp'
      have hlt : i < ps.length := (List.getElem?_eq_some_iff.mp hp').1
      refine he p' R H' (List.mem_of_getElem? hRm) (e _ _ hpR) e _ fun r H2 hr e2 hr2 => ⟨_, e2 D _ hq, ?_, Evl.Ex.mut (e.trans e2) hD, qs ++ [r], ?_, ?_, ?_, ?_⟩
      · rw [List.length_map]; exact small_lt (by omega)
      · rw [upd_same, List.map_append]; rfl
      · rw [List.take_add_one, hRm, List.map_append]
        have nD : r ≠ D := fun z => by rw [z, hq] at hr; cases hr
        refine Rws.append ?_ ⟨by rw [upd_ne nD]; exact hr2, trivial⟩
        exact (hR.ex e2).exb (l := D) (fun c n o h => by rw [upd_ne n]; exact h) hn
      · intro h
        rcases List.mem_append.mp h with h | h
        · exact hn h
        · rw [List.mem_singleton] at h
          rw [← h, hq] at hr
          cases hr
      · rw [List.length_append]; simp; omega⟩)
    (fun H' p => by
      obtain ⟨e, qs, hq, hR, hn, hl⟩ := p
      rw [List.length_map, hW.len, List.take_length] at hR
      exact q D H' qs hD e hq hR hn)
theorem lc_rows {K : PySem.W.Frag} {σ : L2.St} {H : Hp} {te : TE} {Q : VK} {a : Addr} {ps : List Addr} {Rs : List (List Int)} {j : Nat} (f : List Int → List Int) (hx : SqL K H a (ps.map V.ref)) (hW : Rws H ps Rs) (hz : ps.length < 1000000)
    (he : ∀ p R H1, R ∈ Rs → H1 p = some (.lst (R.map V.int)) → Ex H H1 → ∀ Q' : VK, (∀ q H2, H1 q = none → Ex H1 H2 → H2 q = some (.lst ((f R).map V.int)) → Q' (.ref q) H2) → te (σ.set j (some (.ref p))) H1 Q')
    (q : ∀ D H' qs, H D = none → Ex H H' → H' D = some (.lst (qs.map V.ref)) → Rws H' qs (Rs.map f) → Q (.ref D) H') : Lc (Itl K a) (gName j) tYes te [j] σ H Q := lc_rowsN f hx hW hz he fun D H' qs h1 h2 h3 h4 _ => q D H' qs h1 h2 h3 h4
theorem Rws.set {H : Hp} {p : Addr} {R : List Int} (hp : H p = some (.lst (R.map V.int))) : ∀ {ps : List Addr} {Rs : List (List Int)} (i : Nat), Rws H ps Rs → Rws H (ps.set i p) (Rs.set i R)
  | [], [], _, _ => trivial
  | _ :: _, _ :: _, 0, h => ⟨hp, h.2⟩
  | _ :: ps, _ :: Rs, i + 1, h => ⟨h.1, Rws.set hp i h.2⟩
end RB
namespace RB
open PySem PySem.Spec PyProof.Rows L2
theorem Rws.notin {H : Hp} {p : Addr} (hp : H p = none) : ∀ {ps : List Addr} {Rs : List (List Int)}, Rws H ps Rs → p ∉ ps
  | [], [], _ => fun h => by cases h
  | r :: ps, R :: Rs, h => fun hm => by
    rcases List.mem_cons.mp hm with e | e
    · have := h.1
      rw [← e, hp] at this
      cases this
    · exact Rws.notin hp h.2 e
end RB
namespace RB
open PySem PySem.Spec PyProof.Rows L2
theorem r_neRows {K : PySem.W.Frag} {H : Hp} {Q : VK} {a b : Addr} {ps qs : List Addr} {Rs Ss : List (List Int)} (h1 : SqL K H a (ps.map V.ref)) (h1' : Rws H ps Rs) (h2 : SqL K H b (qs.map V.ref)) (h2' : Rws H qs Ss) (q : Q (.bl (!decide (Rs = Ss))) H) : rNeD K (.ref a) (.ref b) H Q :=
  ⟨_, _, dp_listR h1 h1', dp_listR h2 h2', shaped_dR Rs, shaped_dR Ss, by rw [eqv_dR]; exact q⟩
end RB
namespace RB
open PySem PySem.Spec PyProof.Rows L2
/-- two pairs of lists of ints, alike -/
theorem r_neT2 {K : PySem.W.Frag} {H : Hp} {Q : VK} {p q a b c d : Addr} {ns ms : List Int} (h1 : SqT K H p [.ref a, .ref b]) (ha : SqL K H a (ns.map V.int)) (hb : SqL K H b (ms.map V.int)) (h2 : SqT K H q [.ref c, .ref d]) (hc : SqL K H c (ns.map V.int)) (hd : SqL K H d (ms.map V.int)) (k : Q (.bl false) H) : rNeD K (.ref p) (.ref q) H Q := by
  have sh : SeqAt.shaped (PyData.tuple [dI ns, dI ms]) = true := by
    have h1 := depth_dI ns
    have h2 := depth_dI ms
    have l1 : PyData.canLay0 (dI ns) = true := by unfold dI; rw [PyData.canLay0, canLay_ints]
    have l2 : PyData.canLay0 (dI ms) = true := by unfold dI; rw [PyData.canLay0, canLay_ints]
    unfold SeqAt.shaped
    rw [Bool.and_eq_true]
    refine ⟨?_, ?_⟩
    · simp [PyData.canLay0, PyData.canLayAll0, l1, l2]
    · refine decide_eq_true ?_
      simp only [PyData.depth, PyData.depthAll]
      omega
  refine ⟨_, _, .tup h1 (.cons (dp_listI ha) (.cons (dp_listI hb) .nil)), .tup h2 (.cons (dp_listI hc) (.cons (dp_listI hd) .nil)), sh, sh, ?_⟩
  have e : PyData.eqv (.tuple [dI ns, dI ms]) (.tuple [dI ns, dI ms]) = true := by
    simp [PyData.eqv, PyData.eqvAll, eqv_dI]
  show Q (.bl (!PyData.eqv (.tuple [dI ns, dI ms]) (.tuple [dI ns, dI ms]))) H
  rw [e]; exact k
end RB

set_option linter.all false
/-! What the walk of the determinant asks. -/
namespace RB
/-- rows that can be cleared -/
structure ClSz (n : Nat) (M : List (List Int)) (k : Nat) (b : Int) : Prop where
  k0 : k < M.length
  ln : M.length ≤ 100000
  wd : ∀ R ∈ M, R.length = (M.getD k []).length
  kw : k < (M.getD k []).length
  lw : (M.getD k []).length ≤ 100000
  sz : ∀ R ∈ M, ML.Sz n R
  n0 : 0 < n
  n9 : n ≤ 400000
  b0 : b ≠ 0
  b9 : b.natAbs.log2 < 9000
/-- what the walk asks of each step -/
def detOk : Nat → Nat → List (List Int) → Int → Prop
  | 0, _, _, b => ∃ n, 0 < n ∧ n ≤ 400000 ∧ b.natAbs < 2 ^ n
  | r + 1, k, M, b => (∀ R ∈ M, k < R.length) ∧ (MT.pivL M k ≠ M.length → (∃ n, ClSz n (MT.swp M k) k b) ∧ detOk r (k + 1) (MT.clrL (MT.swp M k) k b) (MT.at_ (MT.clrL (MT.swp M k) k b) k k))
end RB

set_option linter.all false
/-! The determinant of at most two rows. -/
namespace MT
open ML
theorem detG_no {r k : Nat} {M : List (List Int)} {s b : Int} (h : pivL M k = M.length) : detG (r + 1) k M s b = 0 := by
  unfold detG; rw [if_pos h]
theorem detG_go {r k : Nat} {M : List (List Int)} {s b : Int} (h : pivL M k ≠ M.length) : detG (r + 1) k M s b = detG r (k + 1) (clrL (swp M k) k b) (sgn_ M k s) (at_ (clrL (swp M k) k b) k k) := by
  conv => lhs; unfold detG
  rw [if_neg h]
theorem swp_eq {k : Nat} {M : List (List Int)} (h : pivL M k = k) : swp M k = M := by
  unfold swp; rw [if_neg (by omega)]
theorem sgn_eq {k : Nat} {M : List (List Int)} {s : Int} (h : pivL M k = k) : sgn_ M k s = s := by
  unfold sgn_; rw [if_neg (by omega)]
theorem swp_gt {k i : Nat} {M : List (List Int)} (h : pivL M k = i) (h' : k < i) : swp M k = swapL M k i := by
  unfold swp; rw [h, if_pos (by omega)]
theorem sgn_gt {k i : Nat} {M : List (List Int)} {s : Int} (h : pivL M k = i) (h' : k < i) : sgn_ M k s = -s := by
  unfold sgn_; rw [h, if_pos (by omega)]
theorem detL_nil : detL [] = 1 := rfl
theorem pivL_cons (R : List Int) (M : List (List Int)) : pivL (R :: M) 0 = if cf R 0 = 0 then 1 + pivL M 0 else 0 := by
  unfold pivL
  rw [List.drop_zero, List.drop_zero, Nat.zero_add, Nat.zero_add, List.takeWhile_cons]
  by_cases h : cf R 0 = 0
  · rw [if_pos h, if_pos (by simpa using h), List.length_cons]; omega
  · rw [if_neg h, if_neg (by simpa using h)]; rfl
theorem pivL_nil : pivL [] 0 = 0 := rfl
theorem pivL_one (a : Int) : pivL [[a]] 0 = if a = 0 then 1 else 0 := by
  rw [pivL_cons, pivL_nil]; rfl
theorem clr1 (a : Int) (b : Int) : clrL [[a]] 0 b = [[a]] := rfl
theorem clr2 (a b c d : Int) : clrL [[a, b], [c, d]] 0 1 = [[a, b], [0, a * d - c * b]] := by
  show [[a, b], [(a * c - c * a).fdiv 1, (a * d - c * b).fdiv 1]] = _
  rw [Int.fdiv_one, Int.fdiv_one, Int.mul_comm c a, Int.sub_self]
theorem detL_one (a : Int) : detL [[a]] = a := by
  show detG 1 0 [[a]] 1 1 = a
  have e := pivL_one a
  by_cases h : a = 0
  · rw [if_pos h] at e
    rw [detG_no e, h]
  · rw [if_neg h] at e
    rw [detG_go (by rw [e]; show 0 ≠ 1; decide), swp_eq e, sgn_eq e, clr1]
    show 1 * a = a
    omega
theorem pivL_last (R : List Int) (x y : Int) : pivL [R, [x, y]] 1 = if y = 0 then 2 else 1 := by
  show 1 + (List.takeWhile _ [[x, y]]).length = _
  rw [List.takeWhile_cons]
  show 1 + (if decide (y = 0) = true then _ else _ : List (List Int)).length = _
  by_cases h : y = 0
  · rw [if_pos h, if_pos (by simpa using h)]; rfl
  · rw [if_neg h, if_neg (by simpa using h)]; rfl
theorem detG_last (R : List Int) (x y s b : Int) : detG 1 1 [R, [x, y]] s b = s * y := by
  have e := pivL_last R x y
  by_cases h : y = 0
  · rw [if_pos h] at e
    rw [detG_no e, h, Int.mul_zero]
  · rw [if_neg h] at e
    rw [detG_go (by rw [e]; show 1 ≠ 2; decide), swp_eq e, sgn_eq e]
    rfl
theorem pivL_two (a b c d : Int) : pivL [[a, b], [c, d]] 0 = if a = 0 then if c = 0 then 2 else 1 else 0 := by
  rw [pivL_cons, pivL_cons, pivL_nil]
  show (if a = 0 then 1 + (if c = 0 then 1 + 0 else 0) else 0) = _
  split
  · split <;> rfl
  · rfl
theorem detL_two (a b c d : Int) : detL [[a, b], [c, d]] = a * d - b * c := by
  show detG 2 0 [[a, b], [c, d]] 1 1 = _
  have e := pivL_two a b c d
  by_cases h1 : a = 0
  · rw [if_pos h1] at e
    by_cases h2 : c = 0
    · rw [if_pos h2] at e
      rw [detG_no e, h1, h2]; simp
    · rw [if_neg h2] at e
      rw [detG_go (by rw [e]; show 1 ≠ 2; decide), swp_gt e (by decide), sgn_gt e (by decide)]
      show detG 1 1 (clrL [[c, d], [a, b]] 0 1) (-1) _ = _
      rw [clr2, detG_last, h1]
      grind
  · rw [if_neg h1] at e
    rw [detG_go (by rw [e]; show 0 ≠ 2; decide), swp_eq e, sgn_eq e, clr2, detG_last]
    grind
/-- the rows that are cleared -/
theorem swp_two (a b c d : Int) (h : pivL [[a, b], [c, d]] 0 ≠ 2) : ∃ p q r s, swp [[a, b], [c, d]] 0 = [[p, q], [r, s]] ∧ ((p = a ∧ q = b ∧ r = c ∧ s = d) ∨ (p = c ∧ q = d ∧ r = a ∧ s = b)) ∧ p ≠ 0 := by
  have e := pivL_two a b c d
  by_cases h1 : a = 0
  · rw [if_pos h1] at e
    by_cases h2 : c = 0
    · rw [if_pos h2] at e
      exact absurd e h
    · rw [if_neg h2] at e
      exact ⟨c, d, a, b, by rw [swp_gt e (by decide)]; rfl, .inr ⟨rfl, rfl, rfl, rfl⟩, h2⟩
  · rw [if_neg h1] at e
    exact ⟨a, b, c, d, by rw [swp_eq e], .inl ⟨rfl, rfl, rfl, rfl⟩, h1⟩
end MT

set_option linter.all false
/-! Determinants, expanded along the first of the columns. -/
namespace DT
abbrev Row := Nat → Int
def ex (c : Nat) (F : List Row → Int) : List Row → List Row → Int
  | _, [] => 0
  | pre, r :: post => r c * F (pre ++ post) - ex c F (pre ++ [r]) post
def D : List Nat → List Row → Int
  | [], [] => 1
  | [], _ :: _ => 0
  | c :: cs, rs => ex c (D cs) [] rs
def Anti (F : List Row → Int) : Prop := ∀ a b r s, F (a ++ r :: s :: b) = - F (a ++ s :: r :: b)
theorem ex_anti1 {F : List Row → Int} (h : Anti F) (c : Nat) (p : List Row) (r s : Row) : ∀ (b q : List Row), ex c F (p ++ r :: s :: q) b = - ex c F (p ++ s :: r :: q) b
  | [], q => rfl
  | t :: b, q => by
    have ih := ex_anti1 h c p r s b (q ++ [t])
    have hF := h p (q ++ b) r s
    unfold ex
    simp only [List.append_assoc, List.cons_append, List.nil_append] at ih hF ⊢
    rw [ih, hF]
    grind
theorem ex_anti2 {F : List Row → Int} (h : Anti F) (c : Nat) (r s : Row) (b : List Row) : ∀ (a p : List Row), ex c F p (a ++ r :: s :: b) = - ex c F p (a ++ s :: r :: b)
  | [], p => by
    have h1 := ex_anti1 h c p r s b []
    simp only [List.nil_append, ex, List.append_assoc, List.cons_append] at h1 ⊢
    rw [h1]
    grind
  | t :: a, p => by
    have ih := ex_anti2 h c r s b a (p ++ [t])
    have hF := h (p ++ a) b r s
    simp only [List.cons_append, ex]
    simp only [List.append_assoc, List.cons_append, List.nil_append] at ih hF ⊢
    rw [ih, hF]
    grind
theorem anti : ∀ cs : List Nat, Anti (D cs)
  | [] => fun a b r s => by
    cases a <;> rfl
  | c :: cs => fun a b r s => ex_anti2 (anti cs) c r s b a []
def Lin (F : List Row → Int) : Prop := ∀ (a b : List Row) (x y : Row) (l : Int), F (a ++ (fun j => x j + l * y j) :: b) = F (a ++ x :: b) + l * F (a ++ y :: b)
theorem ex_lin1 {F : List Row → Int} (h : Lin F) (c : Nat) (p : List Row) (x y : Row) (l : Int) : ∀ (b q : List Row), ex c F (p ++ (fun j => x j + l * y j) :: q) b = ex c F (p ++ x :: q) b + l * ex c F (p ++ y :: q) b
  | [], q => by simp [ex]
  | t :: b, q => by
    have ih := ex_lin1 h c p x y l b (q ++ [t])
    have hF := h p (q ++ b) x y l
    unfold ex
    simp only [List.append_assoc, List.cons_append, List.nil_append] at ih hF ⊢
    rw [ih, hF]
    grind
theorem ex_lin2 {F : List Row → Int} (h : Lin F) (c : Nat) (x y : Row) (l : Int) (b : List Row) : ∀ (a p : List Row), ex c F p (a ++ (fun j => x j + l * y j) :: b) = ex c F p (a ++ x :: b) + l * ex c F p (a ++ y :: b)
  | [], p => by
    have h1 := ex_lin1 h c p x y l b []
    simp only [List.nil_append, ex] at h1 ⊢
    rw [h1]
    grind
  | t :: a, p => by
    have ih := ex_lin2 h c x y l b a (p ++ [t])
    have hF := h (p ++ a) b x y l
    simp only [List.cons_append, ex]
    simp only [List.append_assoc, List.cons_append, List.nil_append] at ih hF ⊢
    rw [ih, hF]
    grind
theorem lin : ∀ cs : List Nat, Lin (D cs)
  | [] => fun a b x y l => by
    cases a <;> simp [D]
  | c :: cs => fun a b x y l => ex_lin2 (lin cs) c x y l b a []
/-- a row moved over others -/
theorem moved (cs : List Nat) (r : Row) (c : List Row) : ∀ (b a : List Row), D cs (a ++ r :: (b ++ c)) = (-1) ^ b.length * D cs (a ++ (b ++ r :: c))
  | [], a => by simp
  | t :: b, a => by
    have ih := moved cs r c b (a ++ [t])
    have h := anti cs a (b ++ c) r t
    simp only [List.append_assoc, List.cons_append, List.nil_append] at ih h ⊢
    rw [h, ih, List.length_cons, Int.pow_succ]
    grind
theorem alike0 (cs : List Nat) (a b : List Row) (r : Row) : D cs (a ++ r :: r :: b) = 0 := by
  have := anti cs a b r r
  omega
theorem alike (cs : List Nat) (a b c : List Row) (r : Row) : D cs (a ++ r :: (b ++ r :: c)) = 0 := by
  have h := moved cs r (r :: c) b a
  have h2 := alike0 cs (a ++ b) c r
  simp only [List.append_assoc] at h2
  rw [h, h2, Int.mul_zero]
theorem add_before (cs : List Nat) (a b c : List Row) (x y : Row) (l : Int) : D cs (a ++ y :: (b ++ (fun j => x j + l * y j) :: c)) = D cs (a ++ y :: (b ++ x :: c)) := by
  have h := lin cs (a ++ y :: b) c x y l
  simp only [List.append_assoc, List.cons_append] at h
  rw [h, alike]
  omega
theorem add_after (cs : List Nat) (a b c : List Row) (x y : Row) (l : Int) : D cs (a ++ (fun j => x j + l * y j) :: (b ++ y :: c)) = D cs (a ++ x :: (b ++ y :: c)) := by
  rw [lin cs a (b ++ y :: c) x y l, alike]
  omega
theorem swapped (cs : List Nat) (a b c : List Row) (r s : Row) : D cs (a ++ r :: (b ++ s :: c)) = - D cs (a ++ s :: (b ++ r :: c)) := by
  -- (r + s) twice
  have h := alike cs a b c (fun j => r j + 1 * s j)
  rw [lin cs a _ r s 1] at h
  have h1 := lin cs (a ++ r :: b) c r s 1
  have h2 := lin cs (a ++ s :: b) c r s 1
  simp only [List.append_assoc, List.cons_append] at h1 h2
  rw [h1, h2, alike, alike] at h
  omega
theorem ex_zero (c : Nat) (F : List Row → Int) : ∀ (us p : List Row), (∀ u ∈ us, u c = 0) → ex c F p us = 0
  | [], _, _ => rfl
  | u :: us, p, h => by
    unfold ex
    rw [h u (List.mem_cons_self ..), ex_zero c F us _ fun v hv => h v (List.mem_cons_of_mem _ hv)]
    omega
theorem block (ds : List Nat) (us : List Row) : ∀ (cs : List Nat) (as : List Row), as.length = cs.length → (∀ u ∈ us, ∀ c ∈ cs, u c = 0) → D (cs ++ ds) (as ++ us) = D cs as * D ds us
  | [], [], _, _ => by simp [D]
  | c :: cs, as, hl, h => by
    have ih := block ds us cs
    have hu : ∀ u ∈ us, ∀ d ∈ cs, u d = 0 := fun u hu d hd => h u hu d (List.mem_cons_of_mem _ hd)
    have aux : ∀ (post pre : List Row), pre.length + post.length = cs.length + 1 → ex c (D (cs ++ ds)) pre (post ++ us) = ex c (D cs) pre post * D ds us := by
      intro post
      induction post with
      | nil =>
        intro pre _
        rw [List.nil_append, ex_zero c _ us pre fun u hu' => h u hu' c (List.mem_cons_self ..)]
        show 0 = 0 * _
        rw [Int.zero_mul]
      | cons r post ih2 =>
        intro pre hp
        rw [List.length_cons] at hp
        rw [List.cons_append]
        unfold ex
        rw [ih2 (pre ++ [r]) (by rw [List.length_append, List.length_singleton]; omega), ← List.append_assoc, ih (pre ++ post) (by rw [List.length_append]; omega) hu]
        grind
    exact aux as [] (by rw [List.length_nil, hl, List.length_cons]; omega)
theorem one (j : Nat) (u : Row) : D [j] [u] = u j := by simp [D, ex]
theorem two (i j : Nat) (u v : Row) : D [i, j] [u, v] = u i * v j - v i * u j := by simp [D, ex]
/-- a bound -/
theorem ex_bound {c : Nat} {F : List Row → Int} {L B m : Nat} : ∀ (post pre : List Row), pre.length + post.length ≤ L + 1 → (∀ r ∈ post, (r c).natAbs ≤ B) → (∀ q, q.Sublist (pre ++ post) → q.length ≤ L → (F q).natAbs ≤ m) → (ex c F pre post).natAbs ≤ post.length * (B * m)
  | [], pre, _, _, _ => by simp [ex]
  | r :: post, pre, hl, hB, hF => by
    have ih := ex_bound (c := c) (F := F) (L := L) (B := B) (m := m) post (pre ++ [r]) (by rw [List.length_append, List.length_singleton]; rw [List.length_cons] at hl; omega) (fun s hs => hB s (List.mem_cons_of_mem _ hs)) (fun q hq hl' => hF q (by simpa using hq) hl')
    have h1 := hF (pre ++ post) (List.Sublist.append (List.Sublist.refl _) (List.sublist_cons_self ..)) (by rw [List.length_append]; rw [List.length_cons] at hl; omega)
    have h2 := hB r (List.mem_cons_self ..)
    unfold ex
    rw [List.length_cons, Nat.add_mul, Nat.one_mul]
    have h3 : (r c * F (pre ++ post)).natAbs ≤ B * m := by rw [Int.natAbs_mul]; exact Nat.mul_le_mul h2 h1
    omega
theorem bound {L B : Nat} (hL : 1 ≤ L) : ∀ (cs : List Nat) (rs : List Row), rs.length ≤ L → (∀ r ∈ rs, ∀ c ∈ cs, (r c).natAbs ≤ B) → (D cs rs).natAbs ≤ (L * B) ^ cs.length
  | [], [], _, _ => by simp [D]
  | [], _ :: _, _, _ => by simp [D]
  | c :: cs, rs, hl, h => by
    have ih := bound hL (B := B) cs
    have hh := ex_bound (c := c) (F := D cs) (L := L) (B := B) (m := (L * B) ^ cs.length) rs [] (by rw [List.length_nil]; omega) (fun r hr => h r hr c (List.mem_cons_self ..)) (fun q hq hl' => ih q hl' fun r hr d hd => h r (hq.subset (by simpa using hr)) d (List.mem_cons_of_mem _ hd))
    rw [List.length_cons, Nat.pow_succ]
    refine Nat.le_trans hh ?_
    calc rs.length * (B * (L * B) ^ cs.length) ≤ L * (B * (L * B) ^ cs.length) := Nat.mul_le_mul_right _ hl
      _ = (L * B) ^ cs.length * (L * B) := by rw [← Nat.mul_assoc, Nat.mul_comm]
end DT

set_option linter.all false
/-! The program's determinant is the determinant. -/
namespace DT
open ML MT
theorem getD_sw (M : List (List Int)) (k p j : Nat) (hk : k < M.length) (hp : p < M.length) : (swapL M k p).getD j [] = if j = p then M.getD k [] else if j = k then M.getD p [] else M.getD j [] := by
  unfold swapL
  simp only [List.getD_eq_getElem?_getD, List.getElem?_set, List.length_set]
  by_cases h1 : j = p
  · subst h1; simp [hp]
  · have h1' : ¬ p = j := fun z => h1 z.symm
    by_cases h2 : j = k
    · subst h2; simp [hk, h1, h1']
    · have h2' : ¬ k = j := fun z => h2 z.symm
      simp [h1, h1', h2, h2']
theorem split2 {α : Type} (A : List α) (k p : Nat) (h : k < p) (hp : p < A.length) : ∃ a r b s c, A = a ++ r :: (b ++ s :: c) ∧ a.length = k ∧ a.length + (1 + b.length) = p := by
  refine ⟨A.take k, A[k], (A.drop (k + 1)).take (p - k - 1), A[p], A.drop (p + 1), ?_, ?_, ?_⟩
  · conv => lhs; rw [← List.take_append_drop k A, List.drop_eq_getElem_cons (show k < A.length by omega), ← List.take_append_drop (p - k - 1) (A.drop (k + 1)), List.drop_drop, show k + 1 + (p - k - 1) = p by omega, List.drop_eq_getElem_cons hp]
  · rw [List.length_take]; omega
  · rw [List.length_take, List.length_take, List.length_drop]; omega
theorem swap_split (a b c : List (List Int)) (r s : List Int) : swapL (a ++ r :: (b ++ s :: c)) a.length (a.length + (1 + b.length)) = a ++ s :: (b ++ r :: c) := by
  unfold swapL
  have e1 : (a ++ r :: (b ++ s :: c)).getD (a.length + (1 + b.length)) [] = s := by
    rw [List.getD_eq_getElem?_getD, List.getElem?_append_right (by omega), show a.length + (1 + b.length) - a.length = b.length + 1 by omega, List.getElem?_cons_succ, List.getElem?_append_right (by omega), Nat.sub_self]
    rfl
  have e2 : (a ++ r :: (b ++ s :: c)).getD a.length [] = r := by
    rw [List.getD_eq_getElem?_getD, List.getElem?_append_right (by omega), Nat.sub_self]
    rfl
  rw [e1, e2, List.set_append_right _ _ (Nat.le_refl _), Nat.sub_self, List.set_cons_zero, List.set_append_right _ _ (by omega), show a.length + (1 + b.length) - a.length = b.length + 1 by omega, List.set_cons_succ, List.set_append_right _ _ (by omega), Nat.sub_self, List.set_cons_zero]
/-- two rows change places -/
theorem D_swap {A : List (List Int)} {k p : Nat} (h : k < p) (hp : p < A.length) (cs : List Nat) : D cs ((swapL A k p).map cf) = - D cs (A.map cf) := by
  obtain ⟨a, r, b, s, c, e, h1, h2⟩ := split2 A k p h hp
  rw [e, ← h1, ← h2, swap_split]
  simp only [List.map_append, List.map_cons]
  rw [swapped]
theorem take_swap {A : List (List Int)} {k p : Nat} (h : k < p) (hp : p < A.length) : (swapL A k p).take k = A.take k := by
  obtain ⟨a, r, b, s, c, e, h1, h2⟩ := split2 A k p h hp
  rw [e, ← h1, ← h2, swap_split, List.take_left, List.take_left]
theorem mem_swap {A : List (List Int)} {k p : Nat} (h : k < p) (hp : p < A.length) {R : List Int} (hR : R ∈ swapL A k p) : R ∈ A := by
  obtain ⟨a, r, b, s, c, e, h1, h2⟩ := split2 A k p h hp
  rw [e, ← h1, ← h2, swap_split] at hR
  rw [e]
  simp only [List.mem_append, List.mem_cons] at hR ⊢
  rcases hR with h | h | h | h | h
  · exact .inl h
  · exact .inr (.inr (.inr (.inl h)))
  · exact .inr (.inr (.inl h))
  · exact .inr (.inl h)
  · exact .inr (.inr (.inr (.inr h)))
theorem sum_swap {A : List (List Int)} {w : List Int → Nat} {k p : Nat} (h : k < p) (hp : p < A.length) : ((swapL A k p).map w).sum = (A.map w).sum := by
  obtain ⟨a, r, b, s, c, e, h1, h2⟩ := split2 A k p h hp
  rw [e, ← h1, ← h2, swap_split]
  simp only [List.map_append, List.map_cons, List.sum_append, List.sum_cons]
  omega
theorem sum_sub (w : List Int → Nat) {a b : List (List Int)} (h : a.Sublist b) : (a.map w).sum ≤ (b.map w).sum := by
  induction h with
  | slnil => exact Nat.le_refl _
  | cons x _ ih => rw [List.map_cons, List.sum_cons]; omega
  | cons_cons x _ ih => rw [List.map_cons, List.map_cons, List.sum_cons, List.sum_cons]; omega
theorem ex_boundW {c : Nat} {F : List Row → Int} {L m : Nat} (w : List Int → Nat) : ∀ (post pre : List (List Int)), pre.length + post.length ≤ L + 1 → (∀ R ∈ post, (cf R c).natAbs ≤ 2 ^ w R) → (∀ q : List (List Int), q.Sublist (pre ++ post) → q.length ≤ L → (F (q.map cf)).natAbs ≤ m * 2 ^ (q.map w).sum) → (ex c F (pre.map cf) (post.map cf)).natAbs ≤ post.length * (m * 2 ^ ((pre ++ post).map w).sum)
  | [], pre, _, _, _ => by simp [ex]
  | r :: post, pre, hl, hB, hF => by
    have ih := ex_boundW (c := c) (F := F) (L := L) (m := m) w post (pre ++ [r]) (by rw [List.length_append, List.length_singleton]; rw [List.length_cons] at hl; omega) (fun s hs => hB s (List.mem_cons_of_mem _ hs)) (fun q hq hl' => hF q (by simpa using hq) hl')
    have h1 := hF (pre ++ post) (List.Sublist.append (List.Sublist.refl _) (List.sublist_cons_self ..)) (by rw [List.length_append]; rw [List.length_cons] at hl; omega)
    have h2 := hB r (List.mem_cons_self ..)
    rw [List.map_cons, List.length_cons, Nat.add_mul, Nat.one_mul]
    unfold ex
    rw [List.map_append] at h1
    have e1 : List.map cf (pre ++ [r]) = List.map cf pre ++ [cf r] := by rw [List.map_append]; rfl
    rw [e1] at ih
    have e2 : pre ++ [r] ++ post = pre ++ r :: post := by simp
    rw [e2] at ih
    have h3 : (cf r c * F (List.map cf pre ++ List.map cf post)).natAbs ≤ m * 2 ^ ((pre ++ r :: post).map w).sum := by
      rw [Int.natAbs_mul]
      refine Nat.le_trans (Nat.mul_le_mul h2 h1) (Nat.le_of_eq ?_)
      simp only [List.map_append, List.map_cons, List.sum_append, List.sum_cons]
      rw [show (pre.map w).sum + (w r + (post.map w).sum) = w r + ((pre.map w).sum + (post.map w).sum) by omega, Nat.pow_add 2 (w r)]
      rw [Nat.mul_left_comm]
    omega
theorem boundW {L : Nat} (w : List Int → Nat) : ∀ (cs : List Nat) (rs : List (List Int)), rs.length ≤ L → (∀ R ∈ rs, ∀ c, (cf R c).natAbs ≤ 2 ^ w R) → (D cs (rs.map cf)).natAbs ≤ L ^ cs.length * 2 ^ (rs.map w).sum
  | [], [], _, _ => by simp [D]
  | [], _ :: _, _, _ => by simp [D]
  | c :: cs, rs, hl, h => by
    have ih := boundW (L := L) w cs
    have hh := ex_boundW (c := c) (F := D cs) (L := L) (m := L ^ cs.length) w rs [] (by rw [List.length_nil]; omega) (fun r hr => h r hr c) (fun q hq hl' => ih q hl' fun r hr d => h r (hq.subset (by simpa using hr)) d)
    rw [List.length_cons, Nat.pow_succ]
    refine Nat.le_trans hh ?_
    rw [List.nil_append, ← Nat.mul_assoc, Nat.mul_comm (L ^ cs.length) L]
    exact Nat.mul_le_mul_right _ (Nat.mul_le_mul_right _ hl)
theorem pivL_all {M : List (List Int)} {k : Nat} (hk : k ≤ M.length) (h : pivL M k = M.length) : ∀ i, k ≤ i → i < M.length → cf (M.getD i []) k = 0 := by
  unfold pivL at h
  have aux : ∀ (L : List (List Int)), (L.takeWhile (fun R => decide (cf R k = 0))).length = L.length → ∀ R ∈ L, cf R k = 0 := by
    intro L
    induction L with
    | nil => intro _ R hR; cases hR
    | cons R L ih =>
      intro e S hS
      rw [List.takeWhile_cons] at e
      by_cases hz : cf R k = 0
      · rw [if_pos (by simpa using hz), List.length_cons, List.length_cons] at e
        rcases List.mem_cons.mp hS with rfl | hS
        · exact hz
        · exact ih (by omega) S hS
      · rw [if_neg (by simpa using hz)] at e
        simp at e
  intro i h1 h2
  refine aux (M.drop k) (by rw [List.length_drop]; omega) _ ?_
  rw [List.getD_eq_getElem?_getD, List.getElem?_eq_getElem h2]
  rw [List.mem_drop_iff_getElem]
  exact ⟨i - k, by omega, by congr 1; omega⟩
theorem pivL_at {M : List (List Int)} {k : Nat} (hk : k ≤ M.length) (h : pivL M k ≠ M.length) : cf (M.getD (pivL M k) []) k ≠ 0 := by
  have aux : ∀ (L : List (List Int)), (L.takeWhile (fun R => decide (cf R k = 0))).length ≠ L.length → cf (L.getD (L.takeWhile (fun R => decide (cf R k = 0))).length []) k ≠ 0 := by
    intro L
    induction L with
    | nil => intro h; exact absurd rfl h
    | cons R L ih =>
      intro e
      rw [List.takeWhile_cons] at e ⊢
      by_cases hz : cf R k = 0
      · rw [if_pos (by simpa using hz), List.length_cons, List.length_cons] at e
        rw [if_pos (by simpa using hz), List.length_cons]
        exact ih (by omega)
      · rw [if_neg (by simpa using hz)]
        exact hz
  have h1 := aux (M.drop k) (by unfold pivL at h; rw [List.length_drop]; omega)
  have e : (M.drop k).getD ((M.drop k).takeWhile (fun R => decide (cf R k = 0))).length [] = M.getD (pivL M k) [] := by
    rw [List.getD_eq_getElem?_getD, List.getD_eq_getElem?_getD, List.getElem?_drop]; rfl
  rw [e] at h1
  exact h1
/-- what holds at each step -/
structure Inv (n W k : Nat) (w : List Int → Nat) (A M : List (List Int)) (b : Int) : Prop where
  lA : A.length = n
  lM : M.length = n
  wd : ∀ R ∈ M, R.length = n
  hb : D (List.range k) ((A.take k).map cf) = b
  b0 : b ≠ 0
  z : ∀ i, k ≤ i → i < n → ∀ j, j < k → cf (M.getD i []) j = 0
  rel : ∀ i, k ≤ i → i < n → ∀ cs t, D cs ((A.take k).map cf ++ cf (M.getD i []) :: t) = b * D cs ((A.take k).map cf ++ cf (A.getD i []) :: t)
  sA : ∀ R ∈ A, ∀ j, (cf R j).natAbs ≤ 2 ^ w R
  tot : (A.map w).sum ≤ W
  sM : ∀ R ∈ M, ∀ j, (cf R j).natAbs ≤ n ^ n * 2 ^ W
theorem mem_getD {M : List (List Int)} {i : Nat} (h : i < M.length) : M.getD i [] ∈ M := by
  rw [List.getD_eq_getElem?_getD, List.getElem?_eq_getElem h]
  exact List.getElem_mem h
theorem Inv.swap {n W k p : Nat} {w : List Int → Nat} {A M : List (List Int)} {b : Int} (h : Inv n W k w A M b) (hk : k < p) (hp : p < n) : Inv n W k w (swapL A k p) (swapL M k p) b := by
  have lA := h.lA
  have lM := h.lM
  have tA := take_swap (A := A) hk (by omega)
  refine ⟨by rw [swapL_len, lA], by rw [swapL_len, lM], fun R hR => h.wd R (mem_swap hk (by omega) hR), by rw [tA]; exact h.hb, h.b0, ?_, ?_, fun R hR => h.sA R (mem_swap hk (by omega) hR), by rw [sum_swap hk (by omega)]; exact h.tot, fun R hR => h.sM R (mem_swap hk (by omega) hR)⟩
  · intro i h1 h2 j hj
    rw [getD_sw M k p i (by omega) (by omega)]
    split
    · exact h.z k (by omega) (by omega) j hj
    · split
      · exact h.z p (by omega) (by omega) j hj
      · exact h.z i h1 h2 j hj
  · intro i h1 h2 cs t
    rw [tA, getD_sw M k p i (by omega) (by omega), getD_sw A k p i (by omega) (by omega)]
    split
    · exact h.rel k (by omega) (by omega) cs t
    · split
      · exact h.rel p (by omega) (by omega) cs t
      · exact h.rel i h1 h2 cs t
theorem cf_clrRow {top R : List Int} (k : Nat) (b : Int) (hl : top.length = R.length) (j : Nat) : cf (clrRow top k b R) j = (cf top k * cf R j - cf R k * cf top j).fdiv b := by
  by_cases h : j < R.length
  · rw [show cf (clrRow top k b R) j = _ from cf_some (x := (cf top k * cf R j - cf R k * cf top j).fdiv b) (by unfold clrRow; rw [List.getElem?_map, List.getElem?_range h]; rfl)]
  · rw [cf_beyond (P := clrRow top k b R) (by unfold clrRow; rw [List.length_map, List.length_range]; omega), cf_beyond (P := R) (k := j) (by omega), cf_beyond (P := top) (k := j) (by omega)]
    simp
theorem getD_clr {M : List (List Int)} {k : Nat} {b : Int} (i : Nat) (hk : k < M.length) (hi : i < M.length) : (clrL M k b).getD i [] = if i ≤ k then M.getD i [] else clrRow (M.getD k []) k b (M.getD i []) := by
  unfold clrL
  rw [List.getD_eq_getElem?_getD]
  split
  · rw [List.getElem?_append_left (by rw [List.length_take]; omega), List.getElem?_take, if_pos (by omega), List.getD_eq_getElem?_getD]
  · rw [List.getElem?_append_right (by rw [List.length_take]; omega), List.length_take, List.getElem?_map, List.getElem?_drop, show k + 1 + (i - min (k + 1) M.length) = i by omega, List.getD_eq_getElem?_getD (l := M) (i := i), List.getElem?_eq_getElem hi]
    rfl
theorem take_one {A : List (List Int)} {k : Nat} (hk : k < A.length) : (A.take (k + 1)).map cf = (A.take k).map cf ++ [cf (A.getD k [])] := by
  rw [List.take_add_one, List.map_append, List.getD_eq_getElem?_getD, List.getElem?_eq_getElem hk]
  rfl
theorem Inv.as_len {n W k : Nat} {w : List Int → Nat} {A M : List (List Int)} {b : Int} (h : Inv n W k w A M b) (hk : k ≤ n) : ((A.take k).map cf).length = (List.range k).length := by
  rw [List.length_map, List.length_take, List.length_range, h.lA]; omega
/-- the pivot is the next first minor -/
theorem Inv.pivot {n W k : Nat} {w : List Int → Nat} {A M : List (List Int)} {b : Int} (h : Inv n W k w A M b) (hk : k < n) : D (List.range (k + 1)) ((A.take (k + 1)).map cf) = at_ M k k := by
  have lA := h.lA
  rw [take_one (by omega), List.range_succ]
  have h1 := h.rel k (Nat.le_refl _) hk (List.range k ++ [k]) []
  rw [block [k] [cf (M.getD k [])] (List.range k) _ (h.as_len (by omega)) (fun u hu c hc => by
    rw [List.mem_singleton] at hu
    subst hu
    exact h.z k (Nat.le_refl _) hk c (List.mem_range.mp hc)), h.hb, one] at h1
  exact (Int.eq_of_mul_eq_mul_left h.b0 h1).symm
/-- the division has no rest: what comes is a minor -/
theorem Inv.exact {n W k i : Nat} {w : List Int → Nat} {A M : List (List Int)} {b : Int} (h : Inv n W k w A M b) (hk : k < n) (hi : k < i) (hin : i < n) (j : Nat) : cf (M.getD k []) k * cf (M.getD i []) j - cf (M.getD i []) k * cf (M.getD k []) j = b * D (List.range k ++ [k, j]) ((A.take k).map cf ++ [cf (A.getD k []), cf (A.getD i [])]) := by
  have h1 := block [k, j] [cf (M.getD k []), cf (M.getD i [])] (List.range k) _ (h.as_len (by omega)) (fun u hu c hc => by
    simp only [List.mem_cons, List.not_mem_nil, or_false] at hu
    rcases hu with rfl | rfl
    · exact h.z k (Nat.le_refl _) hk c (List.mem_range.mp hc)
    · exact h.z i (by omega) hin c (List.mem_range.mp hc))
  rw [h.hb, two, h.rel k (Nat.le_refl _) hk, anti, h.rel i (by omega) hin, anti] at h1
  have b0 := h.b0
  refine Int.eq_of_mul_eq_mul_left b0 ?_
  rw [← h1]
  grind
theorem Inv.step {n W k : Nat} {w : List Int → Nat} {A M : List (List Int)} {b : Int} (h : Inv n W k w A M b) (hk : k < n) (hp : at_ M k k ≠ 0) : Inv n W (k + 1) w A (clrL M k b) (at_ M k k) := by
  have lA := h.lA
  have lM := h.lM
  have b0 := h.b0
  have wk : (M.getD k []).length = n := h.wd _ (mem_getD (by omega))
  have ent : ∀ i, k < i → i < n → ∀ j, cf (clrRow (M.getD k []) k b (M.getD i [])) j = D (List.range k ++ [k, j]) ((A.take k).map cf ++ [cf (A.getD k []), cf (A.getD i [])]) := by
    intro i h1 h2 j
    rw [cf_clrRow k b (by rw [wk, h.wd _ (mem_getD (show i < M.length by omega))]) j, h.exact hk h1 h2 j, Int.mul_fdiv_cancel_left _ b0]
  have bent : ∀ i, k < i → i < n → ∀ j, b * cf (clrRow (M.getD k []) k b (M.getD i [])) j = cf (M.getD k []) k * cf (M.getD i []) j - cf (M.getD i []) k * cf (M.getD k []) j := by
    intro i h1 h2 j
    rw [ent i h1 h2 j, h.exact hk h1 h2 j]
  refine ⟨lA, by rw [clrL_len, lM], ?_, h.pivot hk, hp, ?_, ?_, h.sA, h.tot, ?_⟩
  · intro R hR
    unfold clrL at hR
    rcases List.mem_append.mp hR with hR | hR
    · exact h.wd R (List.mem_of_mem_take hR)
    · obtain ⟨S, hS, rfl⟩ := List.mem_map.mp hR
      unfold clrRow
      rw [List.length_map, List.length_range]
      exact h.wd S (List.mem_of_mem_drop hS)
  · intro i h1 h2 j hj
    rw [getD_clr i (by omega) (by omega), if_neg (by omega)]
    have e := bent i (by omega) h2 j
    have : cf (M.getD k []) k * cf (M.getD i []) j - cf (M.getD i []) k * cf (M.getD k []) j = 0 := by
      by_cases hjk : j = k
      · subst hjk; rw [Int.mul_comm]; omega
      · rw [h.z i (by omega) h2 j (by omega), h.z k (Nat.le_refl _) hk j (by omega)]; simp
    rw [this] at e
    exact (Int.mul_eq_zero.mp e).resolve_left b0
  · intro i h1 h2 cs t
    rw [getD_clr i (by omega) (by omega), if_neg (by omega), take_one (by omega)]
    simp only [List.append_assoc, List.cons_append, List.nil_append]
    have e1 : (fun j => b * cf (clrRow (M.getD k []) k b (M.getD i [])) j) = fun j => (fun j => cf (M.getD k []) k * cf (M.getD i []) j) j + (-cf (M.getD i []) k) * cf (M.getD k []) j := by
      funext j
      rw [bent i (by omega) h2 j]
      grind
    have sc : ∀ (l : Int) (x : Row) (a : List Row), D cs (a ++ (fun j => l * x j) :: t) = l * D cs (a ++ x :: t) := by
      intro l x a
      have h1 := lin cs a t x x (l - 1)
      have e : (fun j => x j + (l - 1) * x j) = fun j => l * x j := by funext j; grind
      rw [e] at h1
      rw [h1]; grind
    have key := sc b (cf (clrRow (M.getD k []) k b (M.getD i []))) ((A.take k).map cf ++ [cf (A.getD k [])])
    rw [e1, lin, sc] at key
    simp only [List.append_assoc, List.cons_append, List.nil_append] at key
    rw [anti cs _ t (cf (A.getD k [])) (cf (M.getD i [])), anti cs _ t (cf (A.getD k [])) (cf (M.getD k [])), h.rel i (by omega) h2, h.rel k (Nat.le_refl _) hk, alike0, anti cs _ t (cf (A.getD i [])) (cf (A.getD k []))] at key
    have := Int.eq_of_mul_eq_mul_left b0 (a := b) (b := b) rfl
    refine Int.eq_of_mul_eq_mul_left b0 ?_
    rw [← key]
    show _ = b * (at_ M k k * _)
    unfold at_
    grind
  · intro R hR j
    unfold clrL at hR
    rcases List.mem_append.mp hR with hR | hR
    · exact h.sM R (List.mem_of_mem_take hR) j
    · obtain ⟨S, hS, rfl⟩ := List.mem_map.mp hR
      obtain ⟨i, hi, hSi⟩ := List.mem_iff_getElem.mp hS
      rw [List.length_drop] at hi
      have e : S = M.getD (k + 1 + i) [] := by
        rw [← hSi, List.getElem_drop, List.getD_eq_getElem?_getD, List.getElem?_eq_getElem (by omega)]; rfl
      rw [e, ent (k + 1 + i) (by omega) (by omega) j]
      have hsub : (A.take k ++ [A.getD k [], A.getD (k + 1 + i) []]).Sublist A := by
        have e1 : A = A.take k ++ (A.getD k [] :: ((A.drop (k + 1)).take i ++ (A.getD (k + 1 + i) [] :: A.drop (k + 1 + i + 1)))) := by
          conv => lhs; rw [← List.take_append_drop k A, List.drop_eq_getElem_cons (show k < A.length by omega), ← List.take_append_drop i (A.drop (k + 1)), List.drop_drop, List.drop_eq_getElem_cons (show k + 1 + i < A.length by omega)]
          rw [List.getD_eq_getElem?_getD, List.getD_eq_getElem?_getD, List.getElem?_eq_getElem (show k < A.length by omega), List.getElem?_eq_getElem (show k + 1 + i < A.length by omega)]
          rfl
        conv => rhs; rw [e1]
        refine List.Sublist.append (List.Sublist.refl _) (List.Sublist.cons_cons _ ?_)
        exact List.Sublist.trans (List.Sublist.cons_cons _ (List.nil_sublist _)) (List.sublist_append_right _ _)
      have hb := boundW (L := n) w (List.range k ++ [k, j]) (A.take k ++ [A.getD k [], A.getD (k + 1 + i) []]) (by rw [List.length_append, List.length_take]; show min k A.length + 2 ≤ n; omega) (fun R hR c => h.sA R (hsub.subset hR) c)
      rw [List.map_append] at hb
      refine Nat.le_trans hb (Nat.mul_le_mul ?_ (Nat.pow_le_pow_right (by decide) (Nat.le_trans (sum_sub w hsub) h.tot)))
      refine Nat.pow_le_pow_right (by omega) ?_
      rw [List.length_append, List.length_range]; show k + 2 ≤ n; omega
/-- lists of rows, pair by pair -/
def All2 (P : Row → Row → Prop) : List Row → List Row → Prop
  | [], [] => True
  | e :: es, a :: as => P e a ∧ All2 P es as
  | _, _ => False
theorem rel_mid {as : List Row} {b : Int} {e a : Row} (h : ∀ cs t, D cs (as ++ e :: t) = b * D cs (as ++ a :: t)) (cs : List Nat) (mid t : List Row) : D cs (as ++ (mid ++ e :: t)) = b * D cs (as ++ (mid ++ a :: t)) := by
  have h1 := moved cs e t mid as
  have h2 := moved cs a t mid as
  rw [h cs (mid ++ t), h2] at h1
  have s : ((-1 : Int) ^ mid.length) ≠ 0 := Int.pow_ne_zero (by decide)
  refine Int.eq_of_mul_eq_mul_left s ?_
  rw [← h1]; grind
theorem rel_all {as : List Row} {b : Int} (cs : List Nat) : ∀ (es aas mid : List Row), All2 (fun e a => ∀ cs t, D cs (as ++ e :: t) = b * D cs (as ++ a :: t)) es aas → D cs (as ++ (mid ++ es)) = b ^ es.length * D cs (as ++ (mid ++ aas))
  | [], [], mid, _ => by simp
  | e :: es, a :: aas, mid, h => by
    have ih := rel_all cs es aas (mid ++ [a]) h.2
    have h1 := rel_mid h.1 cs mid es
    simp only [List.append_assoc, List.cons_append, List.nil_append] at ih
    rw [h1, ih, List.length_cons, Int.pow_succ]; grind
theorem all2_drop {P : Row → Row → Prop} {A M : List (List Int)} {n : Nat} (lA : A.length = n) (lM : M.length = n) : ∀ (d k : Nat), k + d = n → (∀ i, k ≤ i → i < n → P (cf (M.getD i [])) (cf (A.getD i []))) → All2 P ((M.drop k).map cf) ((A.drop k).map cf)
  | 0, k, hd, _ => by
    rw [List.drop_eq_nil_of_le (by omega), List.drop_eq_nil_of_le (by omega)]
    trivial
  | d + 1, k, hd, h => by
    rw [List.drop_eq_getElem_cons (show k < M.length by omega), List.drop_eq_getElem_cons (show k < A.length by omega)]
    refine ⟨?_, all2_drop lA lM d (k + 1) (by omega) fun i h1 h2 => h i (by omega) h2⟩
    have := h k (Nat.le_refl _) (by omega)
    rw [List.getD_eq_getElem?_getD, List.getD_eq_getElem?_getD, List.getElem?_eq_getElem (show k < M.length by omega), List.getElem?_eq_getElem (show k < A.length by omega)] at this
    exact this
theorem range_split {k n : Nat} (h : k ≤ n) : List.range n = List.range k ++ (List.range (n - k)).map (k + ·) := by
  conv => lhs; rw [show n = k + (n - k) by omega, List.range_add]
theorem Inv.none {n W k : Nat} {w : List Int → Nat} {A M : List (List Int)} {b : Int} (h : Inv n W k w A M b) (hk : k < n) (hp : pivL M k = M.length) : D (List.range n) (A.map cf) = 0 := by
  have lA := h.lA
  have lM := h.lM
  have h1 := rel_all (as := (A.take k).map cf) (b := b) (List.range n) ((M.drop k).map cf) ((A.drop k).map cf) [] (all2_drop lA lM (n - k) k (by omega) fun i h1 h2 => h.rel i h1 h2)
  have hz : ∀ u ∈ (M.drop k).map cf, ∀ c, c ≤ k → u c = 0 := by
    intro u hu c hc
    obtain ⟨S, hS, rfl⟩ := List.mem_map.mp hu
    obtain ⟨i, hi, hSi⟩ := List.mem_iff_getElem.mp hS
    rw [List.length_drop] at hi
    have e : S = M.getD (k + i) [] := by
      rw [← hSi, List.getElem_drop, List.getD_eq_getElem?_getD, List.getElem?_eq_getElem (by omega)]; rfl
    rw [e]
    by_cases hck : c = k
    · subst hck; exact pivL_all (by omega) hp (c + i) (by omega) (by omega)
    · exact h.z (k + i) (by omega) (by omega) c (by omega)
  rw [List.nil_append, List.nil_append, ← List.map_append (l₁ := A.take k) (l₂ := A.drop k), List.take_append_drop] at h1
  have h2 : D (List.range n) ((A.take k).map cf ++ (M.drop k).map cf) = 0 := by
    rw [range_split (k := k) (n := n) (by omega), block _ _ _ _ (h.as_len (by omega)) (fun u hu c hc => hz u hu c (by have := List.mem_range.mp hc; omega))]
    obtain ⟨m, hm⟩ : ∃ m, n - k = m + 1 := ⟨n - k - 1, by omega⟩
    rw [hm, List.range_succ_eq_map, List.map_cons]
    show _ * ex _ _ _ _ = 0
    rw [ex_zero _ _ _ _ fun u hu => hz u hu _ (by omega), Int.mul_zero]
  rw [h2] at h1
  exact (Int.mul_eq_zero.mp h1.symm).resolve_left (Int.pow_ne_zero h.b0)
theorem detG_eq {n W : Nat} {w : List Int → Nat} : ∀ (r k : Nat) (A M : List (List Int)) (s b : Int), Inv n W k w A M b → k + r = n → detG r k M s b = s * D (List.range n) (A.map cf)
  | 0, k, A, M, s, b, h, hr => by
    have hk : k = n := by omega
    subst hk
    have := h.hb
    rw [List.take_of_length_le (by rw [h.lA]; exact Nat.le_refl _)] at this
    rw [this]; rfl
  | r + 1, k, A, M, s, b, h, hr => by
    have lA := h.lA
    have lM := h.lM
    by_cases hp : pivL M k = M.length
    · rw [detG_no hp, h.none (by omega) hp, Int.mul_zero]
    · rw [detG_go hp]
      have hge := pivL_ge M k
      have hle := pivL_le (M := M) (k := k) (by omega)
      have hat := pivL_at (M := M) (k := k) (by omega) hp
      have same : ∀ N : List (List Int), N.length = n → at_ (clrL N k b) k k = at_ N k k := by
        intro N hN
        unfold at_
        rw [getD_clr k (by omega) (by omega), if_pos (Nat.le_refl _)]
      by_cases hgt : k < pivL M k
      · rw [swp_gt rfl hgt, sgn_gt rfl hgt, same _ (by rw [swapL_len]; exact lM)]
        have hs := h.swap hgt (show pivL M k < n by omega)
        have := hs.step (by omega) (by
          unfold at_
          rw [getD_sw M k _ k (by omega) (by omega), if_neg (by omega), if_pos rfl]
          exact hat)
        rw [detG_eq r (k + 1) _ _ (-s) _ this (by omega), D_swap hgt (by omega)]
        grind
      · have he : pivL M k = k := by omega
        rw [he] at hat
        rw [swp_eq he, sgn_eq he, same _ lM]
        exact detG_eq r (k + 1) _ _ s _ (h.step (by omega) hat) (by omega)
theorem Inv.start {n W : Nat} {w : List Int → Nat} {A : List (List Int)} (lA : A.length = n) (wd : ∀ R ∈ A, R.length = n) (sA : ∀ R ∈ A, ∀ j, (cf R j).natAbs ≤ 2 ^ w R) (tot : (A.map w).sum ≤ W) (hn : 0 < n) : Inv n W 0 w A A 1 := by
  refine ⟨lA, lA, wd, by simp [D], by decide, fun _ _ _ j hj => absurd hj (by omega), fun i _ _ cs t => by simp, sA, tot, fun R hR j => ?_⟩
  refine Nat.le_trans (sA R hR j) ?_
  have h1 : w R ≤ W := by
    have := sum_sub w (List.singleton_sublist.mpr hR)
    simp only [List.map_cons, List.map_nil, List.sum_cons, List.sum_nil] at this
    omega
  exact Nat.le_trans (Nat.pow_le_pow_right (by decide) h1) (Nat.le_mul_of_pos_left _ (Nat.pow_pos hn))
theorem detL_eq {n : Nat} {w : List Int → Nat} {A : List (List Int)} (lA : A.length = n) (wd : ∀ R ∈ A, R.length = n) (sA : ∀ R ∈ A, ∀ j, (cf R j).natAbs ≤ 2 ^ w R) : detL A = D (List.range n) (A.map cf) := by
  by_cases hn : n = 0
  · subst hn
    rw [List.length_eq_zero_iff] at lA
    subst lA; rfl
  · unfold detL
    rw [lA, detG_eq (w := w) (W := (A.map w).sum) n 0 A A 1 1 (Inv.start lA wd sA (Nat.le_refl _) (by omega)) (by omega), Int.one_mul]
end DT

set_option linter.all false
/-! Resultants. -/
namespace DT
open ML
/-- the columns from the last to the first -/
def dn : Nat → List Nat
  | 0 => []
  | n + 1 => n :: dn n
theorem mem_dn {c : Nat} : ∀ {n : Nat}, c ∈ dn n → c < n
  | n + 1, h => by
    rcases List.mem_cons.mp h with rfl | h
    · omega
    · have := mem_dn h; omega
theorem dn_len : ∀ n, (dn n).length = n
  | 0 => rfl
  | n + 1 => by unfold dn; rw [List.length_cons, dn_len n]
/-- x^k times p -/
def sh (k : Nat) (p : Row) : Row := fun j => if j < k then 0 else p (j - k)
def shs : Nat → Row → List Row
  | 0, _ => []
  | k + 1, p => sh k p :: shs k p
theorem shs_len (p : Row) : ∀ k, (shs k p).length = k
  | 0 => rfl
  | k + 1 => by unfold shs; rw [List.length_cons, shs_len p k]
theorem sh_zero (p : Row) : sh 0 p = p := by funext j; simp [sh]
theorem sh_sh (i k : Nat) (p : Row) : sh i (sh k p) = sh (i + k) p := by
  funext j
  unfold sh
  by_cases h1 : j < i
  · rw [if_pos h1, if_pos (by omega)]
  · rw [if_neg h1]
    by_cases h2 : j - i < k
    · rw [if_pos h2, if_pos (by omega)]
    · rw [if_neg h2, if_neg (by omega), show j - i - k = j - (i + k) by omega]
theorem shs_add (n : Nat) (p : Row) : ∀ m, shs (m + n) p = shs m (sh n p) ++ shs n p
  | 0 => by rw [Nat.zero_add]; rfl
  | m + 1 => by
    rw [show m + 1 + n = (m + n) + 1 by omega]
    show sh (m + n) p :: shs (m + n) p = sh m (sh n p) :: (shs m (sh n p) ++ shs n p)
    rw [shs_add n p m, sh_sh]
theorem mem_shs {u p : Row} : ∀ {k : Nat}, u ∈ shs k p → ∃ i, i < k ∧ u = sh i p
  | k + 1, h => by
    rcases List.mem_cons.mp h with rfl | h
    · exact ⟨k, by omega, rfl⟩
    · obtain ⟨i, h1, h2⟩ := mem_shs h; exact ⟨i, by omega, h2⟩
/-! alike on the columns -/
theorem ex_congr {P : Row → Row → Prop} {c : Nat} {F : List Row → Int} (hP : ∀ e a, P e a → e c = a c) (hF : ∀ q q', All2 P q q' → F q = F q') : ∀ (post post' pre pre' : List Row), All2 P pre pre' → All2 P post post' → ex c F pre post = ex c F pre' post'
  | [], [], _, _, _, _ => rfl
  | r :: post, r' :: post', pre, pre', h1, h2 => by
    have app : ∀ (a a' b b' : List Row), All2 P a a' → All2 P b b' → All2 P (a ++ b) (a' ++ b') := by
      intro a
      induction a with
      | nil => intro a' b b' h h'; cases a' with
        | nil => exact h'
        | cons _ _ => exact h.elim
      | cons x a ih => intro a' b b' h h'; cases a' with
        | nil => exact h.elim
        | cons y a' => exact ⟨h.1, ih a' b b' h.2 h'⟩
    unfold ex
    rw [hP r r' h2.1, hF _ _ (app _ _ _ _ h1 h2.2), ex_congr hP hF post post' (pre ++ [r]) (pre' ++ [r']) (app _ _ _ _ h1 ⟨h2.1, trivial⟩) h2.2]
theorem D_congr : ∀ (cs : List Nat) (rs rs' : List Row), All2 (fun e a => ∀ c ∈ cs, e c = a c) rs rs' → D cs rs = D cs rs'
  | [], [], [], _ => rfl
  | [], _ :: _, _ :: _, _ => rfl
  | c :: cs, rs, rs', h => by
    refine ex_congr (P := fun e a => ∀ d ∈ c :: cs, e d = a d) (fun e a h => h c (List.mem_cons_self ..)) (fun q q' hq => ?_) rs rs' [] [] trivial h
    refine D_congr cs q q' ?_
    have wk : ∀ (a b : List Row), All2 (fun e a => ∀ d ∈ c :: cs, e d = a d) a b → All2 (fun e a => ∀ d ∈ cs, e d = a d) a b := by
      intro a
      induction a with
      | nil => intro b h; cases b with
        | nil => trivial
        | cons _ _ => exact h.elim
      | cons x a ih => intro b h; cases b with
        | nil => exact h.elim
        | cons y b => exact ⟨fun d hd => h.1 d (List.mem_cons_of_mem _ hd), ih b h.2⟩
    exact wk q q' hq
theorem all2_refl {P : Row → Row → Prop} (h : ∀ r, P r r) : ∀ rs, All2 P rs rs
  | [] => trivial
  | r :: rs => ⟨h r, all2_refl h rs⟩
theorem all2_app {P : Row → Row → Prop} : ∀ {a a' b b' : List Row}, All2 P a a' → All2 P b b' → All2 P (a ++ b) (a' ++ b')
  | [], [], _, _, _, h' => h'
  | x :: a, y :: a', _, _, h, h' => ⟨h.1, all2_app h.2 h'⟩
theorem D_relabel (g : Nat → Nat) : ∀ (cs : List Nat) (rs : List Row), D (cs.map g) rs = D cs (rs.map fun r c => r (g c))
  | [], [] => rfl
  | [], _ :: _ => rfl
  | c :: cs, rs => by
    have aux : ∀ (post pre : List Row), ex (g c) (D (cs.map g)) pre post = ex c (D cs) (pre.map fun r c => r (g c)) (post.map fun r c => r (g c)) := by
      intro post
      induction post with
      | nil => intro pre; rfl
      | cons r post ih =>
        intro pre
        rw [List.map_cons]
        unfold ex
        rw [ih, D_relabel g cs, List.map_append, List.map_append]
        rfl
    exact aux rs []
theorem range_dn : ∀ N, List.range N = (dn N).map fun c => N - 1 - c
  | 0 => rfl
  | N + 1 => by
    rw [List.range_succ_eq_map, range_dn N, List.map_map]
    show 0 :: _ = (N + 1 - 1 - N) :: List.map (fun c => N + 1 - 1 - c) (dn N)
    congr 1
    · omega
    · refine List.map_congr_left fun c hc => ?_
      have := mem_dn hc
      show N - 1 - c + 1 = N + 1 - 1 - c
      omega
theorem D_zero (cs : List Nat) (a b : List Row) : D cs (a ++ (fun _ => 0) :: b) = 0 := by
  have h := lin cs a b (fun _ => 0) (fun _ => 0) 1
  simp only [Int.mul_zero, Int.add_zero, Int.one_mul] at h
  omega
theorem D_zero' {cs : List Nat} {u : Row} (h : ∀ d ∈ cs, u d = 0) (a b : List Row) : D cs (a ++ u :: b) = 0 := by
  rw [D_congr cs _ (a ++ (fun _ => 0) :: b) (all2_app (b := u :: b) (b' := (fun _ => 0) :: b) (all2_refl (fun _ _ _ => rfl) a) ⟨fun c hc => h c hc, all2_refl (fun _ _ _ => rfl) b⟩), D_zero]
theorem D_top {c : Nat} {cs : List Nat} {u : Row} {us : List Row} (h : ∀ v ∈ us, v c = 0) : D (c :: cs) (u :: us) = u c * D cs us := by
  show ex c (D cs) [] (u :: us) = _
  unfold ex
  rw [ex_zero c _ us _ h]
  simp
theorem D_first {c : Nat} {cs : List Nat} {u : Row} {us : List Row} (h : ∀ d ∈ cs, u d = 0) : D (c :: cs) (u :: us) = u c * D cs us := by
  have aux : ∀ (post q : List Row), ex c (D cs) (u :: q) post = 0 := by
    intro post
    induction post with
    | nil => intro q; rfl
    | cons r post ih =>
      intro q
      unfold ex
      have h1 := D_zero' h [] (q ++ post)
      rw [List.nil_append] at h1
      rw [List.cons_append, h1, List.cons_append, ih]
      simp
  show ex c (D cs) [] (u :: us) = _
  unfold ex
  rw [List.nil_append, List.nil_append, aux us []]
  omega
theorem D_long : ∀ (cs : List Nat) (rs : List Row), cs.length < rs.length → D cs rs = 0
  | [], _ :: _, _ => rfl
  | c :: cs, rs, h => by
    have aux : ∀ (post pre : List Row), cs.length + 1 < pre.length + post.length → ex c (D cs) pre post = 0 := by
      intro post
      induction post with
      | nil => intro pre _; rfl
      | cons r post ih =>
        intro pre hp
        rw [List.length_cons] at hp
        unfold ex
        rw [D_long cs (pre ++ post) (by rw [List.length_append]; omega), ih (pre ++ [r]) (by rw [List.length_append, List.length_singleton]; omega)]
        simp
    exact aux rs [] (by rw [List.length_cons] at h; rw [List.length_nil]; omega)
/-- the rows ws, so many times as r says -/
def comb : List Nat → List Row → Row → Row
  | t :: ts, w :: ws, r => fun j => comb ts ws r j + r t * w j
  | _, _, _ => fun _ => 0
theorem D_comb (cols : List Nat) (rest : List Row) : ∀ (ts : List Nat) (ws : List Row), ts.length = ws.length → ∀ (as Cs : List Row), ws.length ≤ Cs.length → D cols (as ++ (Cs.map (comb ts ws) ++ rest)) = D ts Cs * D cols (as ++ (ws ++ rest))
  | [], [], _, as, Cs, _ => by
    cases Cs with
    | nil => simp [D]
    | cons c Cs =>
      rw [List.map_cons]
      show D cols (as ++ (fun _ => 0) :: _) = 0 * _
      rw [D_zero, Int.zero_mul]
  | t :: ts, w :: ws, hl, as, Cs, hC => by
    rw [List.length_cons, List.length_cons] at hl
    rw [List.length_cons] at hC
    have IH := D_comb cols rest ts ws (by omega)
    have clr : ∀ (post a b : List Row), D cols (a ++ w :: (b ++ (post.map (comb (t :: ts) (w :: ws)) ++ rest))) = D cols (a ++ w :: (b ++ (post.map (comb ts ws) ++ rest))) := by
      intro post
      induction post with
      | nil => intro a b; rfl
      | cons r post ih =>
        intro a b
        rw [List.map_cons, List.map_cons]
        have h1 := add_before cols a b (post.map (comb (t :: ts) (w :: ws)) ++ rest) (comb ts ws r) w (r t)
        have h2 := ih a (b ++ [comb ts ws r])
        simp only [List.append_assoc, List.cons_append, List.nil_append] at h2
        rw [List.cons_append, List.cons_append, ← h2]
        exact h1
    have aux : ∀ (post pre : List Row), pre.length + post.length = Cs.length → D cols (as ++ (pre.map (comb ts ws) ++ (post.map (comb (t :: ts) (w :: ws)) ++ rest))) = D cols (as ++ ((pre ++ post).map (comb ts ws) ++ rest)) + (-1) ^ pre.length * ex t (D ts) pre post * D cols (as ++ (w :: ws ++ rest)) := by
      intro post
      induction post with
      | nil => intro pre _; simp [ex]
      | cons r post ih =>
        intro pre hp
        rw [List.length_cons] at hp
        have h1 := lin cols (as ++ pre.map (comb ts ws)) (post.map (comb (t :: ts) (w :: ws)) ++ rest) (comb ts ws r) w (r t)
        have h2 := ih (pre ++ [r]) (by rw [List.length_append, List.length_singleton]; omega)
        have h3 := clr post (as ++ pre.map (comb ts ws)) []
        have h4 := moved cols w (post.map (comb ts ws) ++ rest) (pre.map (comb ts ws)) as
        have h5 := IH (as ++ [w]) (pre ++ post) (by rw [List.length_append]; omega)
        rw [List.map_cons]
        have e : comb (t :: ts) (w :: ws) r = fun j => comb ts ws r j + r t * w j := rfl
        rw [List.cons_append, e]
        simp only [List.append_assoc, List.cons_append, List.nil_append, List.map_append, List.map_cons, List.map_nil, List.length_append, List.length_singleton, List.length_map] at h1 h2 h3 h4 h5 ⊢
        rw [h1, h2, h3]
        rw [h5] at h4
        have sq : ((-1 : Int) ^ pre.length) * ((-1) ^ pre.length) = 1 := by
          rw [← Int.pow_add, ← Nat.two_mul, Int.pow_mul, show ((-1 : Int) ^ 2) = 1 from rfl, Int.one_pow]
        have h6 : D cols (as ++ (List.map (comb ts ws) pre ++ w :: (List.map (comb ts ws) post ++ rest))) = (-1) ^ pre.length * (D ts (pre ++ post) * D cols (as ++ w :: (ws ++ rest))) := by
          rw [h4, ← Int.mul_assoc, sq, Int.one_mul]
        rw [h6, ex, Int.pow_succ]
        grind
    have h1 := aux Cs [] (by simp)
    have h2 := IH as Cs (by omega)
    rw [D_long ts Cs (by omega), Int.zero_mul] at h2
    simp only [List.map_nil, List.nil_append, List.length_nil, Int.pow_zero, Int.one_mul] at h1
    rw [h2, Int.zero_add] at h1
    exact h1
theorem comb_null {cols : List Nat} {as : List Row} (r : Row) (mid t : List Row) : ∀ (ts : List Nat) (ws : List Row), (∀ w ∈ ws, w ∈ as) → D cols (as ++ (mid ++ comb ts ws r :: t)) = 0
  | [], _, _ => by
    have := D_zero cols (as ++ mid) t
    rw [List.append_assoc] at this
    exact this
  | _ :: _, [], _ => by
    have := D_zero cols (as ++ mid) t
    rw [List.append_assoc] at this
    exact this
  | k :: ts, w :: ws, h => by
    have h1 := lin cols (as ++ mid) t (comb ts ws r) w (r k)
    rw [List.append_assoc, List.append_assoc, List.append_assoc, comb_null r mid t ts ws fun x hx => h x (List.mem_cons_of_mem _ hx)] at h1
    obtain ⟨a, b, e⟩ := List.append_of_mem (h w (List.mem_cons_self ..))
    have h2 := alike cols a (b ++ mid) t w
    rw [e] at h1 ⊢
    simp only [List.append_assoc, List.cons_append] at h1 h2 ⊢
    rw [h2] at h1
    exact h1.trans (by omega)
/-- the higher rows of a triangle -/
theorem peel {N : Nat} {q : Row} {us : List Row} (hq : ∀ j, N < j → q j = 0) (hu : ∀ u ∈ us, ∀ c, N ≤ c → u c = 0) : ∀ k, D (dn (N + k)) (shs k q ++ us) = q N ^ k * D (dn N) us
  | 0 => by simp [shs]
  | k + 1 => by
    show D ((N + k) :: dn (N + k)) (sh k q :: (shs k q ++ us)) = _
    rw [D_top, peel hq hu k, Int.pow_succ]
    · have : sh k q (N + k) = q N := by unfold sh; rw [if_neg (by omega), Nat.add_sub_cancel]
      rw [this]; grind
    · intro v hv
      rcases List.mem_append.mp hv with hv | hv
      · obtain ⟨i, hi, rfl⟩ := mem_shs hv
        unfold sh
        rw [if_neg (by omega)]
        exact hq _ (by omega)
      · exact hu v hv _ (by omega)
/-- the product -/
def pm (p q : Row) : Row := fun k => sm (k + 1) fun i => p i * q (k - i)
theorem sh_van {k N : Nat} {p : Row} (h : ∀ j, N < j → p j = 0) {c : Nat} (hc : N + k < c) : sh k p c = 0 := by
  unfold sh
  rw [if_neg (by omega)]
  exact h _ (by omega)
theorem comb_sm (q r : Row) (j : Nat) : ∀ K, comb (dn K) (shs K q) r j = sm K fun i => r i * sh i q j
  | 0 => rfl
  | K + 1 => by
    show comb (dn K) (shs K q) r j + r K * sh K q j = _
    rw [comb_sm q r j K]; rfl
theorem comb_pm {q r : Row} {K : Nat} (h : ∀ j, K ≤ j → r j = 0) : comb (dn K) (shs K q) r = pm r q := by
  funext j
  rw [comb_sm]
  unfold pm
  have e : ∀ i, i < j + 1 → r i * q (j - i) = r i * sh i q j := fun i hi => by
    unfold sh; rw [if_neg (by omega)]
  rw [sm_congr e]
  rcases Nat.le_total K (j + 1) with hK | hK
  · exact (sm_ext hK fun i h1 h2 => by rw [h i h1, Int.zero_mul]).symm
  · exact sm_ext hK fun i h1 h2 => by
      unfold sh; rw [if_pos (by omega), Int.mul_zero]
end DT

set_option linter.all false
/-! The laws of resultants. -/
namespace DT
open ML
def Res (m n : Nat) (p q : Row) : Int := D (dn (m + n)) (shs n p ++ shs m q)
def Deg (p : Row) (m : Nat) : Prop := ∀ j, m < j → p j = 0
theorem Deg.sh {p : Row} {m : Nat} (h : Deg p m) {k c : Nat} (hc : m + k < c) : sh k p c = 0 := sh_van h hc
def one_ : Row := fun j => if j = 0 then 1 else 0
theorem deg_one : Deg one_ 0 := fun j hj => if_neg (by omega)
theorem pm_one (q : Row) : pm one_ q = q := by
  funext j
  unfold pm one_
  rw [sm_single (j := 0) (by omega) fun i _ hi => by rw [if_neg hi, Int.zero_mul]]
  simp
theorem pm_sh1 (p q : Row) : pm (sh 1 p) q = sh 1 (pm p q) := by
  funext j
  cases j with
  | zero =>
    show sm 1 _ = 0
    simp [sm, sh]
  | succ j =>
    show sm (j + 1 + 1) _ = sh 1 (pm p q) (j + 1)
    rw [sm_shift]
    have e : sh 1 (pm p q) (j + 1) = pm p q j := by unfold sh; rw [if_neg (by omega), Nat.add_sub_cancel]
    rw [e]
    unfold pm
    have z : sh 1 p 0 * q (j + 1 - 0) = 0 := by simp [sh]
    rw [z, Int.zero_add]
    refine sm_congr fun i hi => ?_
    have e1 : sh 1 p (i + 1) = p i := by unfold sh; rw [if_neg (by omega), Nat.add_sub_cancel]
    rw [e1, show j + 1 - (i + 1) = j - i by omega]
theorem pm_sh (p q : Row) : ∀ k, pm (sh k p) q = sh k (pm p q)
  | 0 => by rw [sh_zero, sh_zero]
  | k + 1 => by
    rw [show k + 1 = 1 + k by omega, ← sh_sh, pm_sh1, pm_sh p q k, sh_sh]
theorem pm_comm (p q : Row) : pm p q = pm q p := by
  funext j
  unfold pm
  rw [← sm_rev]
  refine sm_congr fun i hi => ?_
  rw [show j + 1 - 1 - i = j - i by omega, show j - (j - i) = i by omega, Int.mul_comm]
theorem deg_pm {p q : Row} {m n : Nat} (hp : Deg p m) (hq : Deg q n) : Deg (pm p q) (m + n) := fun j hj => sm_zero fun i hi => by
  by_cases h : m < i
  · rw [hp i h, Int.zero_mul]
  · rw [hq _ (by omega), Int.mul_zero]
theorem pm_top {p q : Row} {m n : Nat} (hp : Deg p m) (hq : Deg q n) : pm p q (m + n) = p m * q n := by
  unfold pm
  rw [sm_single (j := m) (by omega) fun i _ hi => by
    by_cases h : m < i
    · rw [hp i h, Int.zero_mul]
    · rw [hq _ (by omega), Int.mul_zero]]
  rw [show m + n - m = n by omega]
theorem comb_shs {p q : Row} {m k K : Nat} (hp : Deg p m) (h : m + k ≤ K) : (shs k p).map (comb (dn K) (shs K q)) = shs k (pm p q) := by
  have aux : ∀ i, i ≤ k → (shs i p).map (comb (dn K) (shs K q)) = shs i (pm p q) := by
    intro i
    induction i with
    | zero => intro _; rfl
    | succ i ih =>
      intro hi
      show comb (dn K) (shs K q) (DT.sh i p) :: _ = DT.sh i (pm p q) :: _
      rw [ih (by omega), comb_pm (fun j hj => hp.sh (k := i) (by omega)), pm_sh]
  exact aux k (Nat.le_refl _)
/-- a constant -/
theorem Res_const {n : Nat} {p q : Row} (hp : Deg p 0) : Res 0 n p q = p 0 ^ n := by
  unfold Res
  have := peel (us := []) hp (fun u hu => by cases hu) n
  show D (dn (0 + n)) (shs n p ++ []) = _
  rw [this]
  show _ * 1 = _
  rw [Int.mul_one]
/-- one row of R's less: the top's power -/
theorem Res_over {m n k : Nat} {p q : Row} (hp : Deg p m) (hq : Deg q n) : D (dn (m + n + k)) (shs (k + n) p ++ shs m q) = p m ^ k * Res m n p q := by
  rw [shs_add, List.append_assoc]
  have hs : ∀ j, m + n < j → sh n p j = 0 := fun j hj => hp.sh hj
  rw [peel hs (fun u hu c hc => ?_) k]
  · have : sh n p (m + n) = p m := by unfold sh; rw [if_neg (by omega), Nat.add_sub_cancel]
    rw [this]; rfl
  · rcases List.mem_append.mp hu with hu | hu
    · obtain ⟨i, hi, rfl⟩ := mem_shs hu
      exact hp.sh (by omega)
    · obtain ⟨i, hi, rfl⟩ := mem_shs hu
      exact hq.sh (by omega)
theorem Res_mul {m n d : Nat} {p q r : Row} (hp : Deg p m) (hq : Deg q n) (hr : Deg r d) (h0 : r d ≠ 0) : Res (m + d) n (pm p r) q = Res m n p q * Res d n r q := by
  have h1 := D_comb (dn (m + d + n)) [] (dn (d + m)) (shs (d + m) q) (by rw [dn_len, shs_len]) (shs n (pm p r)) (shs m r ++ shs d one_) (by rw [shs_len, List.length_append, shs_len, shs_len]; omega)
  rw [List.map_append, comb_shs hr (Nat.le_refl _), comb_shs deg_one (by omega), pm_one] at h1
  have h2 : D (dn (d + m)) (shs m r ++ shs d one_) = r d ^ m := by
    rw [peel hr (fun u hu c hc => ?_) m]
    · have := peel (us := []) deg_one (fun u hu => by cases hu) d
      rw [Nat.zero_add, List.append_nil] at this
      rw [this]
      show r d ^ m * ((1 : Int) ^ d * 1) = _
      rw [Int.one_pow]; simp
    · obtain ⟨i, hi, rfl⟩ := mem_shs hu
      exact deg_one.sh (by omega)
  rw [h2] at h1
  have h3 := D_comb (dn (m + d + n)) (shs d q) (dn (m + n)) (shs (m + n) r) (by rw [dn_len, shs_len]) [] (shs n p ++ shs m q) (by rw [shs_len, List.length_append, shs_len, shs_len]; omega)
  rw [List.map_append, comb_shs hp (Nat.le_refl _), comb_shs hq (by omega)] at h3
  have h4 := Res_over (k := m) hr hq
  rw [show m + d + n = d + n + m by omega] at h1 h3
  simp only [List.nil_append, List.append_nil] at h1 h3
  rw [h4] at h3
  rw [pm_comm q r, List.append_assoc] at h3
  rw [h3] at h1
  have e : Res (m + d) n (pm p r) q = D (dn (d + n + m)) (shs n (pm p r) ++ shs (d + m) q) := by
    unfold Res
    rw [show m + d + n = d + n + m by omega, show m + d = d + m by omega]
  rw [← e] at h1
  have hm : r d ^ m ≠ 0 := Int.pow_ne_zero h0
  refine Int.eq_of_mul_eq_mul_left hm ?_
  rw [← h1]
  unfold Res
  grind
/-- a common part -/
theorem Res_common {m n d : Nat} {p q f : Row} (hp : Deg p m) (hq : Deg q n) (hd : 0 < d) : Res (m + d) (n + d) (pm p f) (pm q f) = 0 := by
  have h1 := D_comb (dn (m + d + (n + d))) [] (dn (m + n + d)) (shs (m + n + d) f) (by rw [dn_len, shs_len]) [] (shs (n + d) p ++ shs (m + d) q) (by rw [shs_len, List.length_append, shs_len, shs_len]; omega)
  rw [List.map_append, comb_shs hp (by omega), comb_shs hq (by omega), D_long (dn (m + n + d)) _ (by rw [dn_len, List.length_append, shs_len, shs_len]; omega), Int.zero_mul] at h1
  simp only [List.nil_append, List.append_nil] at h1
  exact h1
/-- the other with so many times the one added -/
theorem Res_add {m h d : Nat} {p q r : Row} (hp : Deg p m) (hh : Deg q h) (hr : Deg r d) (hd : d < m) : Res m (m + h) p (fun j => r j + pm q p j) = p m ^ (m + h - d) * Res m d p r := by
  have h1 := rel_all (as := shs (m + h) p) (b := 1) (dn (m + (m + h))) (shs m (fun j => r j + pm q p j)) (shs m r) [] ?_
  · rw [List.nil_append, List.nil_append, Int.one_pow, Int.one_mul] at h1
    unfold Res
    rw [h1]
    have := Res_over (k := m + h - d) hp hr
    rw [show m + d + (m + h - d) = m + (m + h) by omega, show m + h - d + d = m + h by omega] at this
    exact this
  · have aux : ∀ k, k ≤ m → All2 (fun e a => ∀ cs t, D cs (shs (m + h) p ++ e :: t) = 1 * D cs (shs (m + h) p ++ a :: t)) (shs k (fun j => r j + pm q p j)) (shs k r) := by
      intro k
      induction k with
      | zero => intro _; trivial
      | succ k ih =>
        intro hk
        refine ⟨fun cs t => ?_, ih (by omega)⟩
        have e : DT.sh k (fun j => r j + pm q p j) = fun j => DT.sh k r j + 1 * comb (dn (m + h)) (shs (m + h) p) (DT.sh k q) j := by
          rw [comb_pm (fun j hj => hh.sh (k := k) (by omega)), pm_sh]
          funext j
          unfold DT.sh
          split
          · simp
          · show r (j - k) + pm q p (j - k) = r (j - k) + 1 * pm q p (j - k)
            omega
        rw [e, lin, Int.one_mul, Int.one_mul]
        have := comb_null (cols := cs) (as := shs (m + h) p) (DT.sh k q) [] t (dn (m + h)) (shs (m + h) p) (fun w hw => hw)
        rw [List.nil_append] at this
        rw [this, Int.add_zero]
    exact aux m (Nat.le_refl _)
theorem swap_blocks (cs : List Nat) (d : List Row) : ∀ (b a c : List Row), D cs (a ++ (b ++ (c ++ d))) = (-1) ^ (b.length * c.length) * D cs (a ++ (c ++ (b ++ d)))
  | [], a, c => by simp
  | x :: b, a, c => by
    have h1 := swap_blocks cs d b (a ++ [x]) c
    have h2 := moved cs x (b ++ d) c a
    simp only [List.append_assoc, List.cons_append, List.nil_append] at h1 h2 ⊢
    rw [h1, h2, List.length_cons, Nat.add_mul, Nat.one_mul, Int.pow_add]
    grind
theorem Res_swap (m n : Nat) (p q : Row) : Res n m q p = (-1) ^ (m * n) * Res m n p q := by
  unfold Res
  have := swap_blocks (dn (m + n)) [] (shs m q) [] (shs n p)
  simp only [List.append_nil, List.nil_append] at this
  rw [show n + m = m + n by omega, this, shs_len, shs_len]
theorem ex_app {c : Nat} {F : List Row → Int} (u : Row) : ∀ (zs pre : List Row), (∀ z ∈ zs, z c = 0) → ex c F pre (zs ++ [u]) = (-1) ^ zs.length * (u c * F (pre ++ zs))
  | [], pre, _ => by simp [ex]
  | z :: zs, pre, h => by
    rw [List.cons_append]
    unfold ex
    rw [h z (List.mem_cons_self ..), ex_app u zs (pre ++ [z]) fun x hx => h x (List.mem_cons_of_mem _ hx), List.length_cons, Int.pow_succ]
    simp only [List.append_assoc, List.cons_append, List.nil_append]
    grind
theorem low_tri (p : Row) : ∀ k, D (dn k) (shs k p) = p 0 ^ k
  | 0 => by simp [dn, shs, D]
  | k + 1 => by
    show D (k :: dn k) (sh k p :: shs k p) = _
    rw [D_first (fun d hd => by unfold sh; rw [if_pos (mem_dn hd)]), low_tri p k, Int.pow_succ]
    have : sh k p k = p 0 := by unfold sh; rw [if_neg (by omega), Nat.sub_self]
    rw [this]; grind
/-- what Q comes to at a / b, times b to the n -/
def hom (a b : Int) (q : Row) : Nat → Int
  | 0 => q 0
  | n + 1 => b * hom a b q n + q (n + 1) * a ^ (n + 1)
theorem Res_lin {p q : Row} (hp : Deg p 1) (a : Int) (h0 : p 0 = -a) : ∀ n, D (dn (n + 1)) (shs n p ++ [q]) = hom a (p 1) q n
  | 0 => by
    show D (0 :: []) [q] = _
    rw [one]; rfl
  | n + 1 => by
    show ex (n + 1) (D (dn (n + 1))) [] (sh n p :: (shs n p ++ [q])) = _
    unfold ex
    rw [ex_app q (shs n p) _ (fun z hz => by
      obtain ⟨i, hi, rfl⟩ := mem_shs hz
      exact hp.sh (by omega)), List.nil_append, List.nil_append, Res_lin hp a h0 n, shs_len]
    have e1 : sh n p (n + 1) = p 1 := by unfold sh; rw [if_neg (by omega), Nat.add_sub_cancel_left]
    have e2 := low_tri p (n + 1)
    have e3 : shs (n + 1) p = [sh n p] ++ shs n p := rfl
    rw [e3] at e2
    rw [e1, e2, h0]
    show _ = p 1 * hom a (p 1) q n + q (n + 1) * a ^ (n + 1)
    have e4 : ((-1 : Int) ^ n) * (-a) ^ (n + 1) = - a ^ (n + 1) := by
      have : (-a) ^ (n + 1) = (-1) ^ (n + 1) * a ^ (n + 1) := by rw [← Int.mul_pow]; simp
      rw [this, Int.pow_succ]
      have sq : ((-1 : Int) ^ n) * ((-1) ^ n) = 1 := by
        rw [← Int.pow_add, ← Nat.two_mul, Int.pow_mul, show ((-1 : Int) ^ 2) = 1 from rfl, Int.one_pow]
      grind
    grind
end DT

set_option linter.all false
/-! Determinants: sizes, and what is done to rows. -/
namespace DT
open ML MT RB
theorem Inv.cl {n W k N : Nat} {w : List Int → Nat} {A M : List (List Int)} {b : Int} (h : Inv n W k w A M b) (hk : k < n) (hn : n ≤ 100000) (hN : n ^ n * 2 ^ W < 2 ^ N) (N9 : N ≤ 9000) (N0 : 0 < N) (bb : b.natAbs < 2 ^ N) : ClSz N M k b := by
  have lM := h.lM
  have wk : (M.getD k []).length = n := h.wd _ (mem_getD (by omega))
  refine ⟨by omega, by omega, fun R hR => by rw [wk]; exact h.wd R hR, by omega, by omega, fun R hR => Sz.of fun j _ => Nat.lt_of_le_of_lt (h.sM R hR j) hN, N0, by omega, h.b0, ?_⟩
  have b0 := h.b0
  have : b.natAbs.log2 < N := (Nat.log2_lt (by omega)).mpr bb
  omega
theorem detOk_go {n W N : Nat} {w : List Int → Nat} (hn : n ≤ 100000) (hN : n ^ n * 2 ^ W < 2 ^ N) (N9 : N ≤ 9000) (N0 : 0 < N) : ∀ (r k : Nat) (A M : List (List Int)) (b : Int), Inv n W k w A M b → k + r = n → b.natAbs < 2 ^ N → detOk r k M b
  | 0, k, A, M, b, h, hr, bb => ⟨N, N0, by omega, bb⟩
  | r + 1, k, A, M, b, h, hr, bb => by
    have lA := h.lA
    have lM := h.lM
    refine ⟨fun R hR => by rw [h.wd R hR]; omega, fun hp => ?_⟩
    have hge := pivL_ge M k
    have hle := pivL_le (M := M) (k := k) (by omega)
    have hat := pivL_at (M := M) (k := k) (by omega) hp
    have same : ∀ N : List (List Int), N.length = n → at_ (clrL N k b) k k = at_ N k k := by
      intro N hN
      unfold at_
      rw [getD_clr k (by omega) (by omega), if_pos (Nat.le_refl _)]
    by_cases hgt : k < pivL M k
    · rw [swp_gt rfl hgt, same _ (by rw [swapL_len]; exact lM)]
      have hs := h.swap hgt (show pivL M k < n by omega)
      have := hs.step (by omega) (by
        unfold at_
        rw [getD_sw M k _ k (by omega) (by omega), if_neg (by omega), if_pos rfl]
        exact hat)
      exact ⟨⟨N, hs.cl (by omega) hn hN N9 N0 bb⟩, detOk_go hn hN N9 N0 r (k + 1) _ _ _ this (by omega) (Nat.lt_of_le_of_lt (hs.sM _ (mem_getD (by have := hs.lM; omega)) k) hN)⟩
    · have he : pivL M k = k := by omega
      rw [he] at hat
      rw [swp_eq he, same _ lM]
      exact ⟨⟨N, h.cl (by omega) hn hN N9 N0 bb⟩, detOk_go hn hN N9 N0 r (k + 1) _ _ _ (h.step (by omega) hat) (by omega) (Nat.lt_of_le_of_lt (h.sM _ (mem_getD (by omega)) k) hN)⟩
theorem detOk_of {n W N : Nat} {w : List Int → Nat} {A : List (List Int)} (lA : A.length = n) (wd : ∀ R ∈ A, R.length = n) (sA : ∀ R ∈ A, ∀ j, (cf R j).natAbs ≤ 2 ^ w R) (tot : (A.map w).sum ≤ W) (hn : n ≤ 100000) (hN : n ^ n * 2 ^ W < 2 ^ N) (N9 : N ≤ 9000) (N0 : 0 < N) : detOk A.length 0 A 1 := by
  have one : (1 : Int).natAbs < 2 ^ N := by
    show 1 < 2 ^ N
    exact Nat.one_lt_two_pow (by omega)
  by_cases h0 : n = 0
  · subst h0
    rw [lA]
    exact ⟨N, N0, by omega, one⟩
  · rw [lA]
    exact detOk_go hn hN N9 N0 n 0 A A 1 (Inv.start lA wd sA tot (by omega)) (by omega) one
/-- the product along the slant -/
def pd (M : List (List Int)) : Nat → Int
  | 0 => 1
  | k + 1 => pd M k * at_ M k k
theorem D_tri {M : List (List Int)} {n : Nat} (hl : M.length = n) (h : ∀ i, i < n → ∀ j, j < i → at_ M i j = 0) : ∀ k, k ≤ n → D (List.range k) ((M.take k).map cf) = pd M k
  | 0, _ => by simp [D, pd]
  | k + 1, hk => by
    rw [take_one (by omega), List.range_succ, block [k] _ (List.range k) _ (by rw [List.length_map, List.length_take, List.length_range]; omega) (fun u hu c hc => by
      rw [List.mem_singleton] at hu
      subst hu
      exact h k (by omega) c (List.mem_range.mp hc)), D_tri hl h k (by omega), one]
    rfl
theorem swapL_comm (M : List (List Int)) {i j : Nat} (h : i ≠ j) : swapL M i j = swapL M j i := by
  unfold swapL
  rw [List.set_comm _ _ h]
theorem D_swap' {A : List (List Int)} {i j : Nat} (h : i ≠ j) (hi : i < A.length) (hj : j < A.length) (cs : List Nat) : D cs ((swapL A i j).map cf) = - D cs (A.map cf) := by
  rcases Nat.lt_or_gt_of_ne h with h | h
  · exact D_swap h hj cs
  · rw [swapL_comm _ (by omega)]
    exact D_swap h hi cs
/-- a row with so many times another one added -/
def addRow (n : Nat) (R S : List Int) (m : Int) : List Int := (List.range n).map fun k => cf R k + m * cf S k
theorem cf_addRow {n : Nat} {R S : List Int} (m : Int) (hR : R.length = n) (hS : S.length = n) : cf (addRow n R S m) = fun j => cf R j + m * cf S j := by
  funext j
  by_cases h : j < n
  · exact cf_some (by unfold addRow; rw [List.getElem?_map, List.getElem?_range h]; rfl)
  · rw [cf_beyond (P := addRow n R S m) (by unfold addRow; rw [List.length_map, List.length_range]; omega), cf_beyond (P := R) (by omega), cf_beyond (P := S) (by omega)]
    simp
theorem D_add {A : List (List Int)} {n i j : Nat} (wd : ∀ R ∈ A, R.length = n) (h : i ≠ j) (hi : i < A.length) (hj : j < A.length) (m : Int) (cs : List Nat) : D cs ((A.set i (addRow n (A.getD i []) (A.getD j []) m)).map cf) = D cs (A.map cf) := by
  have hR := wd _ (mem_getD hi)
  have hS := wd _ (mem_getD hj)
  rcases Nat.lt_or_gt_of_ne h with h | h
  · obtain ⟨a, r, b, s, c, e, h1, h2⟩ := split2 A i j h hj
    have e1 : A.getD i [] = r := by
      rw [e, List.getD_eq_getElem?_getD, List.getElem?_append_right (by omega), h1, Nat.sub_self]; rfl
    have e2 : A.getD j [] = s := by
      rw [e, ← h2, List.getD_eq_getElem?_getD, List.getElem?_append_right (by omega), show a.length + (1 + b.length) - a.length = b.length + 1 by omega, List.getElem?_cons_succ, List.getElem?_append_right (by omega), Nat.sub_self]; rfl
    rw [e1] at hR ⊢
    rw [e2] at hS ⊢
    have e3 : A.set i (addRow n r s m) = a ++ addRow n r s m :: (b ++ s :: c) := by
      rw [e, ← h1, List.set_append_right _ _ (Nat.le_refl _), Nat.sub_self, List.set_cons_zero]
    rw [e3, e]
    simp only [List.map_append, List.map_cons]
    rw [cf_addRow m hR hS, add_after]
  · obtain ⟨a, s, b, r, c, e, h1, h2⟩ := split2 A j i h hi
    have e1 : A.getD j [] = s := by
      rw [e, List.getD_eq_getElem?_getD, List.getElem?_append_right (by omega), h1, Nat.sub_self]; rfl
    have e2 : A.getD i [] = r := by
      rw [e, ← h2, List.getD_eq_getElem?_getD, List.getElem?_append_right (by omega), show a.length + (1 + b.length) - a.length = b.length + 1 by omega, List.getElem?_cons_succ, List.getElem?_append_right (by omega), Nat.sub_self]; rfl
    rw [e1] at hS ⊢
    rw [e2] at hR ⊢
    have e3 : A.set i (addRow n r s m) = a ++ s :: (b ++ addRow n r s m :: c) := by
      rw [e, ← h2, List.set_append_right _ _ (by omega), show a.length + (1 + b.length) - a.length = b.length + 1 by omega, List.set_cons_succ, List.set_append_right _ _ (by omega), Nat.sub_self, List.set_cons_zero]
    rw [e3, e]
    simp only [List.map_append, List.map_cons]
    rw [cf_addRow m hR hS, add_before]
end DT

set_option linter.all false
set_option exponentiation.threshold 100000
/-! The rows of a resultant. -/
namespace DT
open ML RB
def bits : List Int → Nat
  | [] => 0
  | x :: r => max (x.natAbs.log2 + 1) (bits r)
theorem bits_cf : ∀ (R : List Int) (j : Nat), (cf R j).natAbs ≤ 2 ^ bits R
  | [], j => by rw [cf_nil]; exact Nat.zero_le _
  | x :: r, 0 => by
    rw [cf_zero]
    have h1 : x.natAbs < 2 ^ (x.natAbs.log2 + 1) := Nat.lt_log2_self
    exact Nat.le_trans (Nat.le_of_lt h1) (Nat.pow_le_pow_right (by decide) (Nat.le_max_left ..))
  | x :: r, j + 1 => by
    rw [cf_succ]
    exact Nat.le_trans (bits_cf r j) (Nat.pow_le_pow_right (by decide) (Nat.le_max_right ..))
theorem bits_le {b : Nat} (h0 : 1 ≤ b) : ∀ {R : List Int}, Sz b R → bits R ≤ b
  | [], _ => Nat.zero_le _
  | x :: r, h => by
    unfold bits
    refine Nat.max_le.mpr ⟨?_, bits_le h0 fun y hy => h y (List.mem_cons_of_mem _ hy)⟩
    have hx := h x (List.mem_cons_self ..)
    by_cases z : x.natAbs = 0
    · rw [z]; show 0 + 1 ≤ b; omega
    · have := (Nat.log2_lt z).mpr hx
      omega
/-- a row: the list turned round, noughts ahead and behind -/
def sylRow (k t : Nat) (P : List Int) : List Int := List.replicate k 0 ++ P.reverse ++ List.replicate t 0
def sylR (n : Nat) (P : List Int) : List (List Int) := (List.range n).map fun k => sylRow k (n - 1 - k) P
def sylL (P Q : List Int) : List (List Int) := sylR (Q.length - 1) P ++ sylR (P.length - 1) Q
theorem sylR_len (n : Nat) (P : List Int) : (sylR n P).length = n := by unfold sylR; rw [List.length_map, List.length_range]
theorem sylRow_sz {b k t : Nat} {P : List Int} (h : Sz b P) : Sz b (sylRow k t P) := fun x hx => by
  unfold sylRow at hx
  simp only [List.mem_append, List.mem_replicate, List.mem_reverse] at hx
  rcases hx with (⟨_, rfl⟩ | hx) | ⟨_, rfl⟩
  · exact Nat.two_pow_pos _
  · exact h x hx
  · exact Nat.two_pow_pos _
theorem sylRow_len (k t : Nat) (P : List Int) : (sylRow k t P).length = k + P.length + t := by
  unfold sylRow; simp only [List.length_append, List.length_replicate, List.length_reverse]
theorem cf_sylRow {k t N : Nat} {P : List Int} (hN : k + P.length + t = N) {c : Nat} (hc : c < N) : cf (sylRow k t P) (N - 1 - c) = sh t (cf P) c := by
  unfold sh
  by_cases h1 : c < t
  · rw [if_pos h1]
    refine cf_some ?_
    unfold sylRow
    rw [List.getElem?_append_right (by simp only [List.length_append, List.length_replicate, List.length_reverse]; omega), List.getElem?_replicate, if_pos]
    simp only [List.length_append, List.length_replicate, List.length_reverse]; omega
  · rw [if_neg h1]
    by_cases h2 : c - t < P.length
    · rw [cf_get h2]
      refine cf_some ?_
      unfold sylRow
      rw [List.getElem?_append_left (by simp only [List.length_append, List.length_replicate, List.length_reverse]; omega), List.getElem?_append_right (by rw [List.length_replicate]; omega), List.length_replicate, List.getElem?_reverse (by omega), show P.length - 1 - (N - 1 - c - k) = c - t by omega, List.getElem?_eq_getElem h2]
    · rw [cf_beyond (P := P) (by omega)]
      refine cf_some ?_
      unfold sylRow
      rw [List.append_assoc, List.getElem?_append_left (by rw [List.length_replicate]; omega), List.getElem?_replicate, if_pos (by omega)]
theorem all2_shs {P : Row → Row → Prop} {p : Row} : ∀ (n : Nat) (f : Nat → Row), (∀ k, k < n → P (f k) (sh (n - 1 - k) p)) → All2 P ((List.range n).map f) (shs n p)
  | 0, _, _ => trivial
  | n + 1, f, h => by
    rw [List.range_succ_eq_map, List.map_cons, List.map_map]
    refine ⟨h 0 (by omega), all2_shs n (f ∘ Nat.succ) fun k hk => ?_⟩
    have := h (k + 1) (by omega)
    rw [show n + 1 - 1 - (k + 1) = n - 1 - k by omega] at this
    exact this
theorem syl_part {N n : Nat} {P : List Int} (h : n - 1 + P.length = N ∨ n = 0) : All2 (fun e a => ∀ c ∈ dn N, e c = a c) (((sylR n P).map cf).map fun r c => r (N - 1 - c)) (shs n (cf P)) := by
  unfold sylR
  rw [List.map_map, List.map_map]
  refine all2_shs n _ fun k hk c hc => ?_
  have := mem_dn hc
  exact cf_sylRow (by omega) this
theorem syl_D {P Q : List Int} (hP : P ≠ []) (hQ : Q ≠ []) : D (List.range (P.length - 1 + (Q.length - 1))) ((sylL P Q).map cf) = Res (P.length - 1) (Q.length - 1) (cf P) (cf Q) := by
  have lP := List.length_pos_iff.mpr hP
  have lQ := List.length_pos_iff.mpr hQ
  rw [range_dn, D_relabel]
  unfold Res
  refine D_congr _ _ _ ?_
  unfold sylL
  rw [List.map_append, List.map_append]
  exact all2_app (syl_part (by omega)) (syl_part (by omega))
theorem sum_le (w : List Int → Nat) (b : Nat) : ∀ l : List (List Int), (∀ R ∈ l, w R ≤ b) → (l.map w).sum ≤ l.length * b
  | [], _ => by simp
  | R :: l, h => by
    have h1 := h R (List.mem_cons_self ..)
    have h2 := sum_le w b l fun S hS => h S (List.mem_cons_of_mem _ hS)
    rw [List.map_cons, List.sum_cons, List.length_cons, Nat.add_mul, Nat.one_mul]
    omega
/-- the resultant -/
def resL (P Q : List Int) : Int := if P = [] ∨ Q = [] then 0 else Res (P.length - 1) (Q.length - 1) (cf P) (cf Q)
/-- what the walk asks -/
structure ResOk (P Q : List Int) (b c : Nat) : Prop where
  b0 : 1 ≤ b
  c0 : 1 ≤ c
  sP : Sz b P
  sQ : Sz c Q
  n9 : P.length - 1 + (Q.length - 1) ≤ 16
  w9 : (Q.length - 1) * b + (P.length - 1) * c ≤ 8900
theorem syl_wd {P Q : List Int} (hP : P ≠ []) (hQ : Q ≠ []) : ∀ R ∈ sylL P Q, R.length = P.length - 1 + (Q.length - 1) := by
  have lP := List.length_pos_iff.mpr hP
  have lQ := List.length_pos_iff.mpr hQ
  intro R hR
  unfold sylL sylR at hR
  rcases List.mem_append.mp hR with hR | hR
  · obtain ⟨k, hk, rfl⟩ := List.mem_map.mp hR
    have := List.mem_range.mp hk
    rw [sylRow_len]; omega
  · obtain ⟨k, hk, rfl⟩ := List.mem_map.mp hR
    have := List.mem_range.mp hk
    rw [sylRow_len]; omega
/-- a bound of a resultant -/
theorem bound_le {N W M : Nat} (hN : N ≤ 16) (hW : W ≤ M) : N ^ N * 2 ^ W ≤ 2 ^ (64 + M) := by
  have h1 : N ^ N ≤ 16 ^ 16 := Nat.le_trans (Nat.pow_le_pow_left hN _) (Nat.pow_le_pow_right (by decide) hN)
  rw [Nat.pow_add]
  exact Nat.mul_le_mul (Nat.le_trans h1 (by decide)) (Nat.pow_le_pow_right (by decide) hW)
theorem ResOk.ok {P Q : List Int} {b c : Nat} (h : ResOk P Q b c) (hP : P ≠ []) (hQ : Q ≠ []) : detOk (sylL P Q).length 0 (sylL P Q) 1 ∧ MT.detL (sylL P Q) = resL P Q := by
  have wd := syl_wd hP hQ
  have ln : (sylL P Q).length = P.length - 1 + (Q.length - 1) := by
    unfold sylL; rw [List.length_append, sylR_len, sylR_len]; omega
  have n9 := h.n9
  have w9 := h.w9
  refine ⟨detOk_of (N := 9000) (W := 8900) ln wd (fun R _ j => bits_cf R j) ?_ (by omega) ?_ (by decide) (by decide), ?_⟩
  · refine Nat.le_trans ?_ w9
    unfold sylL
    rw [List.map_append, List.sum_append]
    have h1 := sum_le bits b (sylR (Q.length - 1) P) fun R hR => by
      unfold sylR at hR
      obtain ⟨k, _, rfl⟩ := List.mem_map.mp hR
      exact bits_le h.b0 (sylRow_sz h.sP)
    have h2 := sum_le bits c (sylR (P.length - 1) Q) fun R hR => by
      unfold sylR at hR
      obtain ⟨k, _, rfl⟩ := List.mem_map.mp hR
      exact bits_le h.c0 (sylRow_sz h.sQ)
    rw [sylR_len] at h1 h2
    omega
  · exact Nat.lt_of_le_of_lt (bound_le n9 (Nat.le_refl _)) (Nat.pow_lt_pow_right (by decide) (by decide))
  · rw [detL_eq ln wd (fun R _ j => bits_cf R j), syl_D hP hQ]
    unfold resL
    rw [if_neg fun z => z.elim hP hQ]
theorem ResOk.lt {P Q : List Int} {b c M : Nat} (h : ResOk P Q b c) (hM : (Q.length - 1) * b + (P.length - 1) * c ≤ M) : (resL P Q).natAbs < 2 ^ (65 + M) := by
  unfold resL
  split
  · exact Nat.two_pow_pos _
  · next hn =>
    have hP : P ≠ [] := fun z => hn (.inl z)
    have hQ : Q ≠ [] := fun z => hn (.inr z)
    have ln : (sylL P Q).length = P.length - 1 + (Q.length - 1) := by
      unfold sylL; rw [List.length_append, sylR_len, sylR_len]; omega
    rw [← syl_D hP hQ]
    have hb := boundW (L := P.length - 1 + (Q.length - 1)) bits (List.range (P.length - 1 + (Q.length - 1))) (sylL P Q) (by omega) (fun R _ j => bits_cf R j)
    rw [List.length_range] at hb
    have hs : ((sylL P Q).map bits).sum ≤ M := by
      refine Nat.le_trans ?_ hM
      unfold sylL
      rw [List.map_append, List.sum_append]
      have h1 := sum_le bits b (sylR (Q.length - 1) P) fun R hR => by
        unfold sylR at hR
        obtain ⟨k, _, rfl⟩ := List.mem_map.mp hR
        exact bits_le h.b0 (sylRow_sz h.sP)
      have h2 := sum_le bits c (sylR (P.length - 1) Q) fun R hR => by
        unfold sylR at hR
        obtain ⟨k, _, rfl⟩ := List.mem_map.mp hR
        exact bits_le h.c0 (sylRow_sz h.sQ)
      rw [sylR_len] at h1 h2
      omega
    refine Nat.lt_of_le_of_lt (Nat.le_trans hb (bound_le h.n9 hs)) (Nat.pow_lt_pow_right (by decide) (by omega))
end DT

set_option linter.all false
set_option maxRecDepth 100000
set_option maxHeartbeats 1000000
/-! list(reversed(x)), x a list. -/
namespace RT
open PySem PySem.Spec PyProof.Rows L2
open PyProof
section
variable {prog : Program} {w : World} {A : Around} {E : Value → Shared → Prop} {s : Shared}
theorem list_init_rev {it l S : Addr} {items : Array Value} {R : Result → Shared → Prop} (hh : A.in1.handled = none) (hit : s.heap.IsRevIter it l ((items.size : Int) - 1)) (hl : s.heap.IsList l items) (hne : l ≠ it) (hn : items.size ≤ sizeLine) (hSi : S ≠ it) (hSl : S ≠ l)
    (hS : s.heap.get? S = some { cls := .type "list", data := .seq #[] })
    (hR : ∀ (s' : Shared) (acc' : Array Value) (c' : Nat), (∀ b o, b ≠ S → b ≠ it → s.heap.get? b = some o → s'.heap.get? b = some o) → s' = { s with heap := s'.heap, toks := s'.toks } → s'.heap.get? S = some { cls := .type "list", dict := none, data := .seq acc' c', slots := #[] } → ItemsOf (fun i v => items[items.size - 1 - i]? = some v) acc' items.size → R (.ok (.ret .none)) s') :
    wpAny (model prog w) A.in1 (Builtin.«list.__init__» ⟨[.ref S, .ref it], []⟩)
      (fun fin s' => match fin with | .done f => R (.ok f) s' | .again c' => c'.quiet = true ∧ codeAny (model prog w) A c' R s') (fun e s' => R (.error e) s') s := by
  have W := (Walks.listRev (prog := prog) (w := w) (A := A.in1) hh it l hne items).toS
  have hSf : S ∉ [it, l] := by simp only [List.mem_cons, List.not_mem_nil, or_false, not_or]; exact ⟨hSi, hSl⟩
  show wpAny _ A.in1 (do let old ← Builtin.List.listItems (.ref S); Builtin.List.listUpdate (.ref S) (fun _ => #[]); letGo old.toList.reverse; Builtin.List.listExtendWith (.ref S) (.ref it) .none) _ _ s
  refine wpAny_bind ?_
  unfold Builtin.List.listItems
  refine wpAny_bind (wpAny_seqItems hS rfl (wpAny_pure ?_))
  show wpAny _ A.in1 (updateSeq S (fun _ => #[]) >>= fun _ => letGo (#[] : Array Value).toList.reverse >>= fun _ => Builtin.List.listExtendWith (.ref S) (.ref it) .none) _ _ s
  refine wpAny_bind (wpAny_updateSeq hS rfl ?_)
  have hS₁ := Heap.get?_update_self (Obj.mapSeq (fun _ => (#[] : Array Value))) hS rfl
  have oth : ∀ b o, b ≠ S → s.heap.get? b = some o → (s.heap.update S (Obj.mapSeq (fun _ => (#[] : Array Value)))).get? b = some o :=
    fun b o hb e => (Heap.get?_update_other _ _ (Ne.symm hb)).trans e
  refine wpAny_bind (wpAny_letGo ?_)
  have hit1 : (s.heap.update S (Obj.mapSeq (fun _ => (#[] : Array Value)))).IsRevIter it l ((items.size : Int) - 1) := hit.at fun o e => oth it o (Ne.symm hSi) e
  have hl1 : (s.heap.update S (Obj.mapSeq (fun _ => (#[] : Array Value)))).IsList l items := by
    obtain ⟨o, ho, hc⟩ := hl
    exact ⟨o, oth l o (Ne.symm hSl) ho, hc⟩
  generalize eh : s.heap.update S (Obj.mapSeq (fun _ => (#[] : Array Value))) = h0 at hS₁ oth hit1 hl1 ⊢
  have hT : ({ s with heap := h0 } : Shared).TypeIs (.ref it) "list_reverseiterator" := Heap.IsRevIter.typeIs (s := { s with heap := h0 }) hit1
  have h1 : Builtin.List.listSameRef (.ref S) (.ref it) = false := by simp [Builtin.List.listSameRef, hSi]
  unfold Builtin.List.listExtendWith
  refine wpAny_bind (wpAny_typeOf hT ?_)
  rw [if_neg (by rw [h1]; decide)]
  refine wpAny_bind (wpAny_pyIter_revIter (s := { s with heap := h0 }) hit1 ?_)
  refine wpAny_bind (wpAny_holding ?_)
  unfold Builtin.List.listLengthHint
  refine wpAny_bind (wpAny_specialOf hT nolen_lri ?_)
  show wpAny _ A.in1 (specialOf (Value.ref it) (Str.ofString "__length_hint__") >>= _) _ _ _
  refine wpAny_bind (wpAny_specialOf hT hint_lri ?_)
  generalize hid : ("list_reverseiterator.__length_hint__" : String) = id0
  wp_delta
  rw [show splitId id0 = some ("list_reverseiterator", "__length_hint__") from by subst hid; decide +kernel]
  subst hid
  refine wpAny_bind (wpAny_isInstance (b := true) hT (by rw [isSubtype_type]; kernel_rfl) ?_)
  refine wpAny_pure ?_
  rw [if_neg (by decide)]
  have e0 : ((items.size : Nat) : Int) - 1 - ((0 : Nat) : Int) = (items.size : Int) - 1 := by omega
  refine wpAny_pure ⟨plainId_quiet F.plain_extend_loop _, codeAny_extend_loopS W hn _ hSf _ items.size 0 _ _ _ rfl (Nat.zero_le _) ⟨Nat.zero_le _, by rw [e0]; exact hit1, hl1⟩ hS₁ (ItemsOf.nil _) fun s' acc' c' hm hS' hacc => ?_⟩
  refine hR s' acc' c' (fun b o hb hb2 e => hm.heap b o (fun hmem => ?_) (oth b o hb e)) (by have h9 := Moved.eq_with hm; exact h9) hS' hacc
  rcases List.mem_cons.mp hmem with e' | hmem
  · exact hb e'
  · exact hb2 (List.mem_singleton.mp hmem)
theorem call_list_rev {it l : Addr} {items : Array Value} {Q : Value → Shared → Prop} (hh : A.handled = none) (hit : s.heap.IsRevIter it l ((items.size : Int) - 1)) (hl : s.heap.IsList l items) (hne : l ≠ it) (hn : items.size ≤ sizeLine)
    (hQ : ∀ (h' : Heap) (tk : Nat) (acc : Array Value) (c' : Nat), (∀ b o, b ≠ it → s.heap.get? b = some o → h'.get? b = some o) → h'.get? s.heap.objs.size = some { cls := .type "list", dict := none, data := .seq acc c', slots := #[] } → ItemsOf (fun i v => items[items.size - 1 - i]? = some v) acc items.size →
      Q (.ref s.heap.objs.size) { s with heap := h', toks := tk }) :
    wpAny (model prog w) A (call (.type "list") [.ref it]) Q E s := by
  obtain ⟨oi, hoi, _⟩ := id hit
  obtain ⟨ol, hol, _⟩ := id hl
  have hSi : s.heap.objs.size ≠ it := Nat.ne_of_gt (Heap.lt_size hoi)
  have hSl : s.heap.objs.size ≠ l := Nat.ne_of_gt (Heap.lt_size hol)
  refine callType_codes (Q₁ := fun obj s₁ => obj = .ref s.heap.objs.size ∧ s₁ = { s with heap := s.heap.push { cls := .type "list", data := .seq #[] } }) F.called_list (F.typeCall_list_1 _) F.entry_list_init
    (code_list_new _ ⟨rfl, rfl⟩) fun obj s₁ h₁ => ?_
  obtain ⟨rfl, rfl⟩ := h₁
  have hS : (s.heap.push { cls := .type "list", data := .seq #[] }).get? s.heap.objs.size = some { cls := .type "list", data := .seq #[] } := Heap.get?_push_size _ rfl
  refine ⟨⟨_, hS, rfl⟩, F.args_list_init_2 _ _, list_init_rev (A := A.in1) hh (hit.at fun o e => Heap.get?_push_of_some _ e) (hl.push _) hne hn hSi hSl hS fun s' acc' c' hk hw hS' hacc => ⟨rfl, ?_⟩⟩
  rw [hw]
  exact hQ s'.heap s'.toks acc' c' (fun b o hb e => hk b o (Nat.ne_of_lt (Heap.lt_size e)) hb (Heap.get?_push_of_some _ e)) hS' hacc
end
end RT
namespace RB
open PySem PySem.Spec PyProof.Rows L2 RT
open Evl (Ex)
/-- list(reversed(x)), x a list: a new list -/
def tListRev (K : PySem.W.Frag) (ta : TA) : TE := fun σ H Q => ta σ H fun vs H1 => ∃ (a : Addr) (xs : List V), vs = [.ref a] ∧ SqL K H1 a xs ∧ ∀ q, H1 q = none → Q (.ref q) (upd H1 q (.lst xs.reverse))
section
variable {X : Cx}
theorem pe_listrev {e : Expr} {ta : TA} {p p2 pos pos2 : Pos} (hc : X.calm = true) (hg : Gl X "list") (hm : X.mg "list" = none) (hg2 : Gl X "reversed") (hm2 : X.mg "reversed" = none) (ha : PA X [e] ta)
    (hs : starEach [e] X.env = [(false, eval e X.env)] := by rfl)
    (hs2 : starEach [.Call (.Name "reversed" p2) [e] [] pos2] X.env = (false, eval (.Call (.Name "reversed" p2) [e] [] pos2) X.env) :: starEach [] X.env := by rfl) :
    PE X (.Call (.Name "list" p) [.Call (.Name "reversed" p2) [e] [] pos2] [] pos) (tListRev X.K ta) := by
  refine ⟨fun pins s σ H Q I h => ?_⟩
  refine Call_ (ld_blt I hg hm boot_list (PyProof.Rows.callWith_type1 (args_cons (Call_ (ld_blt I hg2 hm2 PyProof.Rows.boot_reversed (PyProof.Rows.callWith_type1 (thn (ha.run pos2 pins s σ H _ I h) fun us s1 hh => ?_) hs rfl))) hs2) hs2 rfl))
  obtain ⟨vs, H1, I1, r1, q1⟩ := hh
  obtain ⟨a, xs, ev, hq, q⟩ := q1
  subst ev
  cases r1 with
  | cons r rr =>
    cases rr
    cases r
    obtain ⟨its, rv, p', hz⟩ := I1.list hq
    refine call_reversed_list p'.isList (args_nil ?_)
    have k0 : ∀ b o, s1.heap.get? b = some o → (s1.heap.push (revObj a ((its.toArray.size : Int) - 1))).get? b = some o := fun b o e => Heap.get?_push_of_some _ e
    have I2 : Inv X pins σ H1 { s1 with heap := s1.heap.push (revObj a ((its.toArray.size : Int) - 1)) } := I1.kept (t' := s1.toks) k0
    have hf := I1.fpOk (H' := H1) (b := s1.heap.objs.size) (Nat.le_refl _) (I1.hok.fresh (Nat.le_refl _))
    have hl := p'.isList
    obtain ⟨ol, hol, _⟩ := id hl
    have hne : a ≠ s1.heap.objs.size := Nat.ne_of_lt (Heap.lt_size hol)
    have hn : its.toArray.size ≤ sizeLine := by rw [List.size_toArray, ← rv.length]; exact hz
    refine call_list_rev (s := { s1 with heap := s1.heap.push (revObj a ((its.toArray.size : Int) - 1)) }) (I1.ok.hd hc) ⟨_, Heap.get?_push_size _ rfl, rfl, rfl⟩ (hl.push _) hne hn fun h' tk acc c' hk hL hi => ?_
    exact ⟨.ref (s1.heap.push (revObj a ((its.toArray.size : Int) - 1))).objs.size, upd H1 (s1.heap.push (revObj a ((its.toArray.size : Int) - 1))).objs.size (.lst xs.reverse), I2.turnedNew (t' := tk) (ch := [s1.heap.objs.size]) (fun b o hb e => hk b o (fun z => hb (by rw [z]; exact List.mem_singleton_self _)) e) (fun b hb => by rw [List.mem_singleton.mp hb]; exact hf) (Nat.le_refl _) (show ObjOk X.prog X.w _ _ _ (.lst xs.reverse) from ⟨by rw [List.length_reverse]; exact hz, acc.toList, c', vals_rev rv hi, by rw [Array.toArray_toList]; exact hL⟩), rfl, q _ (I2.hok.fresh (Nat.le_refl _))⟩
end
section
variable {K : PySem.W.Frag} {σ : L2.St} {H : Hp} {Q : VK}
def LRK (K : PySem.W.Frag) (Q : VK) : List V → Hp → Prop := fun vs H1 => ∃ (a : Addr) (xs : List V), vs = [.ref a] ∧ SqL K H1 a xs ∧ ∀ q, H1 q = none → Q (.ref q) (upd H1 q (.lst xs.reverse))
theorem r_listRev {ta : TA} (h : ta σ H (LRK K Q)) : tListRev K ta σ H Q := h
theorem r_listRevA {a : Addr} {ns : List Int} (h : SqL K H a (ns.map V.int)) (q : ∀ p H', H p = none → Ex H H' → H' p = some (.lst (ns.reverse.map V.int)) → Q (.ref p) H') : LRK K Q [.ref a] H := ⟨a, _, rfl, h, newL fun p H' hp e hh => q p H' hp e (by rw [List.map_reverse]; exact hh)⟩
end
end RB

set_option linter.all false
set_option maxRecDepth 100000
/-! Instances: made, their fields, their methods; the fraction. -/
namespace RB
open PySem PySem.Spec PyProof.Rows L2
open Evl (Ex rLenS rListS rMax2 tCut pss_cut)
def tDead : TS := fun _ _ _ => False
theorem ps_dead {X : Cx} {st : Stmt} : PS X st tDead := ⟨fun _ _ _ _ _ _ h => h.elim⟩
theorem pss_dead {X : Cx} {st : List Stmt} : PSs X st tDead := ⟨fun _ _ _ _ _ _ h => h.elim⟩
theorem okN {P : Program} {w : World} {K : PySem.W.Frag} {mg : Str → Option Value} {base : Heap} {x qual : Str} {params : Arguments} {body : List Stmt} {scope : Scope} {dvs : List V} {kws : List (Str × V)} {f : Addr} {fd : FuncData} {N ps : List Str} {k : Nat} {sp : Sp} (F : FunD K x qual params body scope dvs kws f fd) (S : FnScope N ps scope) (len : ∀ vs H Q E, sp vs H Q E → vs.length = ps.length)
    (hb : ∀ (cdv : Value) (A : Around) (outer : List Env) (s : Shared) (H : Hp) (vs : List V) (Q : VK) (E : XK), Room k (A.deeper (envOfC qual scope s.heap.objs.size f cdv)) → sp vs H Q E →
      ∃ t, PSs (cxOf CX0 P w K mg base N qual scope f cdv A outer s H E).nox body t ∧ t { nx := fun _ H' => Q .non H', rt := Q } (start N vs) H) : FnOk P w K mg base CX0 (k + 1) f fd ps sp :=
  F.ok S len fun cdv A outer s H vs Q E hr h => by
    obtain ⟨t, h1, h2⟩ := hb cdv A outer s H vs Q E hr h
    exact ⟨t, h1.nox, h2⟩
theorem funD_mk {K : PySem.W.Frag} {x qual : Str} {params : Arguments} {body : List Stmt} {scope : Scope} {i : Int} {f T : Addr} {oc : Value} {od an : Option Addr} {osl : Array (Option Value)} {kV doc pm cdv ct oc2 : Value} {od2 : Option Addr} {tk : Tok} {n2 : Nat} {sl2 : Array (Option Value)}
    (l : K.lookup f = some ⟨oc, od, .func (PySem.W.fnOf x qual params body scope (.ref T) kV doc pm an cdv ct), osl⟩) (d : K.lookup T = some ⟨oc2, od2, .seq #[.int i tk] n2, sl2⟩) (c : PySem.W.codeIn K cdv qual = true) (k : PySem.W.keepIn K (.ref f) = true) :
    FunD K x qual params body scope [.int i] [] f (PySem.W.fnOf x qual params body scope (.ref T) kV doc pm an cdv ct) :=
  ⟨⟨oc, od, .ref T, kV, doc, pm, an, cdv, ct, osl, rfl, l, c, .inr ⟨by simp, T, _, [.int i tk], n2, rfl, d, rfl, .cons ⟨tk, rfl⟩ .nil⟩, .inl rfl⟩, k⟩
theorem funD_mkV {K : PySem.W.Frag} {x qual : Str} {params : Arguments} {body : List Stmt} {scope : Scope} {dvs : List V} {its : List Value} {f T : Addr} {oc : Value} {od an : Option Addr} {osl : Array (Option Value)} {kV doc pm cdv ct oc2 : Value} {od2 : Option Addr} {n2 : Nat} {sl2 : Array (Option Value)}
    (l : K.lookup f = some ⟨oc, od, .func (PySem.W.fnOf x qual params body scope (.ref T) kV doc pm an cdv ct), osl⟩) (d : K.lookup T = some ⟨oc2, od2, .seq its.toArray n2, sl2⟩) (c : PySem.W.codeIn K cdv qual = true) (k : PySem.W.keepIn K (.ref f) = true) (ne : dvs ≠ []) (r : Vals dvs its) :
    FunD K x qual params body scope dvs [] f (PySem.W.fnOf x qual params body scope (.ref T) kV doc pm an cdv ct) :=
  ⟨⟨oc, od, .ref T, kV, doc, pm, an, cdv, ct, osl, rfl, l, c, .inr ⟨ne, T, _, its, n2, rfl, d, rfl, r⟩, .inl rfl⟩, k⟩
theorem binds_full {K : PySem.W.Frag} {fd : FuncData} {ps : List Str} (h : ∃ ds, Vals ([] : List V) ds ∧ Binds K fd ps ds) : Binds K fd ps [] := by
  obtain ⟨ds, h1, h2⟩ := h
  cases h1
  exact h2
/-! ### making -/
def MakeK (C : Addr) (sp : Sp) (dvs : List V) (E : XK) (Q : VK) : List V → Hp → Prop := fun vs H1 => ∀ x dx, H1 x = none → H1 dx = none → dx ≠ x →
  sp (.ref x :: (vs ++ dvs)) (upd (upd H1 dx (.own x)) x (.ins C dx [])) (fun v H2 => v = .non ∧ Q (.ref x) H2) E
theorem r_make {C : Addr} {sp : Sp} {dvs : List V} {E : XK} {ta : TA} {σ : L2.St} {H : Hp} {Q : VK} (h : ta σ H (MakeK C sp dvs E Q)) : tMake C sp dvs E ta σ H Q := h
def FldK (K : PySem.W.Frag) (f : Str) (Q : VK) : V → Hp → Prop := fun x H1 => ∃ a C dx fs v, x = .ref a ∧ H1 a = some (.ins C dx fs) ∧ Cls K C ∧ NoAttr K C f ∧ fs.lookup f = some v ∧ Q v H1
theorem r_fld {K : PySem.W.Frag} {te : TE} {f : Str} {σ : L2.St} {H : Hp} {Q : VK} (h : te σ H (FldK K f Q)) : tFld K te f σ H Q := h
def SFldK (K : PySem.W.Frag) (f : Str) (y : V) (G : Hp → Prop) : V → Hp → Prop := fun x H2 => ∃ a C dx fs, x = .ref a ∧ H2 a = some (.ins C dx fs) ∧ Cls K C ∧ NoAttr K C f ∧ fs.length < 1000 ∧ G (upd H2 a (.ins C dx (putF f y fs)))
theorem r_sfld {K : PySem.W.Frag} {ta tv : TE} {f : Str} {D : Ends} {σ : L2.St} {H : Hp} (h : tv σ H fun y H1 => ta σ H1 (SFldK K f y (D.nx σ))) : sFld K ta tv f D σ H := h
def MethK (C : Addr) (m : Str) (sp : Sp) (dvs : List V) (E : XK) (t : TA) (σ : L2.St) (Q : VK) : V → Hp → Prop := fun x H1 => ∃ a dx fs, x = .ref a ∧ H1 a = some (.ins C dx fs) ∧ fs.lookup m = none ∧ t σ H1 fun vs H2 => sp (x :: (vs ++ dvs)) H2 Q E
theorem r_meth {C : Addr} {m : Str} {sp : Sp} {dvs : List V} {E : XK} {ta : TE} {t : TA} {σ : L2.St} {H : Hp} {Q : VK} (h : ta σ H (MethK C m sp dvs E t σ Q)) : tMeth C m sp dvs E ta t σ H Q := h
/-! ### the fraction -/
def rF (t b : Int) : List (Str × V) := [("top", .int t), ("bottom", .int b)]
def IsR (C : Addr) (H : Hp) (a : Addr) (t b : Int) : Prop := ∃ dx, H a = some (.ins C dx (rF t b))
theorem IsR.ex {C : Addr} {H H' : Hp} {a : Addr} {t b : Int} (e : Ex H H') (h : IsR C H a t b) : IsR C H' a t b := h.elim fun dx h => ⟨dx, e _ _ h⟩
theorem IsR.exb {C : Addr} {H H' : Hp} {a l : Addr} {t b : Int} (e : Exb l H H') (n : a ≠ l) (h : IsR C H a t b) : IsR C H' a t b := h.elim fun dx h => ⟨dx, e _ n _ h⟩
theorem rF_top (t b : Int) : (rF t b).lookup ("top" : Str) = some (.int t) := by
  unfold rF
  simp [List.lookup]
theorem rF_bottom (t b : Int) : (rF t b).lookup ("bottom" : Str) = some (.int b) := by
  unfold rF
  have e : (("bottom" : Str) == ("top" : Str)) = false := by decide +kernel
  simp [List.lookup, e]
theorem rF_none (t b : Int) {m : Str} (h1 : (m == ("top" : Str)) = false) (h2 : (m == ("bottom" : Str)) = false) : (rF t b).lookup m = none := by
  unfold rF
  simp [List.lookup, h1, h2]
theorem r_top {K : PySem.W.Frag} {C : Addr} {H : Hp} {Q : VK} {a : Addr} {t b : Int} (c : Cls K C) (n : NoAttr K C "top") (h : IsR C H a t b) (q : Q (.int t) H) : FldK K "top" Q (.ref a) H := by
  obtain ⟨dx, h⟩ := h
  exact ⟨a, C, dx, _, _, rfl, h, c, n, rF_top t b, q⟩
theorem r_bottom {K : PySem.W.Frag} {C : Addr} {H : Hp} {Q : VK} {a : Addr} {t b : Int} (c : Cls K C) (n : NoAttr K C "bottom") (h : IsR C H a t b) (q : Q (.int b) H) : FldK K "bottom" Q (.ref a) H := by
  obtain ⟨dx, h⟩ := h
  exact ⟨a, C, dx, _, _, rfl, h, c, n, rF_bottom t b, q⟩
theorem r_methR {C : Addr} {m : Str} {sp : Sp} {dvs : List V} {E : XK} {ta : TA} {σ : L2.St} {Q : VK} {H : Hp} {a : Addr} {t b : Int} (h : IsR C H a t b) (h1 : (m == ("top" : Str)) = false) (h2 : (m == ("bottom" : Str)) = false) (q : ta σ H fun vs H2 => sp (.ref a :: (vs ++ dvs)) H2 Q E) : MethK C m sp dvs E ta σ Q (.ref a) H := by
  obtain ⟨dx, h⟩ := h
  exact ⟨a, dx, _, rfl, h, rF_none t b h1 h2, q⟩
def RetR (C : Addr) (t b : Int) (H : Hp) (Q : VK) : Prop := ∀ p H', H p = none → Ex H H' → IsR C H' p t b → Q (.ref p) H'
theorem RetR.go {C : Addr} {t b : Int} {H H1 : Hp} {Q : VK} (k : RetR C t b H Q) (e : Ex H H1) : RetR C t b H1 Q := fun p H' hp e2 h => k p H' (Evl.fresh_back e hp) (e.trans e2) h
/-- the shared divisor with the bottom's sign -/
def rG (t b : Int) : Int := if b < 0 then -MG.gcdL [t, b] else MG.gcdL [t, b]
def rT (t b : Int) : Int := t.fdiv (rG t b)
def rB (t b : Int) : Int := b.fdiv (rG t b)
theorem gcdL_pair (t b : Int) : MG.gcdL [t, b] = (Int.gcd t b : Int) := by
  unfold MG.gcdL MG.gcdN Int.gcd
  simp
theorem rG_pos {t b : Int} (hb : b ≠ 0) : 0 < Int.gcd t b := Int.gcd_pos_of_ne_zero_right t hb
theorem rG_ne {t b : Int} (hb : b ≠ 0) : rG t b ≠ 0 := by
  have := rG_pos (t := t) hb
  unfold rG
  rw [gcdL_pair]
  split <;> omega
theorem rG_abs (t b : Int) : (rG t b).natAbs = Int.gcd t b := by
  unfold rG
  rw [gcdL_pair]
  split <;> omega
theorem rG_log {t b : Int} {n : Nat} (hb : b ≠ 0) (h0 : 0 < n) (h : b.natAbs < 2 ^ n) : (rG t b).natAbs.log2 < n := by
  rw [rG_abs]
  exact PySem.Flt.log2_lt_of h0 (Nat.lt_of_le_of_lt (Nat.gcd_le_right _ (by omega)) h)
theorem rG_dvd_t (t b : Int) : rG t b ∣ t := by
  rw [← Int.natAbs_dvd, rG_abs]; exact Int.gcd_dvd_left ..
theorem rG_dvd_b (t b : Int) : rG t b ∣ b := by
  rw [← Int.natAbs_dvd, rG_abs]; exact Int.gcd_dvd_right ..
theorem rT_mul {t b : Int} (hb : b ≠ 0) : rT t b * rG t b = t := by
  obtain ⟨k, hk⟩ := rG_dvd_t t b
  unfold rT
  conv => lhs; arg 1; arg 1; rw [hk]
  rw [Int.mul_fdiv_cancel_left _ (rG_ne hb), Int.mul_comm, ← hk]
theorem rB_mul {t b : Int} (hb : b ≠ 0) : rB t b * rG t b = b := by
  obtain ⟨k, hk⟩ := rG_dvd_b t b
  unfold rB
  conv => lhs; arg 1; arg 1; rw [hk]
  rw [Int.mul_fdiv_cancel_left _ (rG_ne hb), Int.mul_comm, ← hk]
theorem rB_pos {t b : Int} (hb : b ≠ 0) : 0 < rB t b := by
  have h1 := rB_mul (t := t) hb
  have h2 := rG_pos (t := t) hb
  have hs : (b < 0 → rG t b < 0) ∧ (¬ b < 0 → 0 < rG t b) := by
    unfold rG
    rw [gcdL_pair]
    constructor
    · intro h; rw [if_pos h]; omega
    · intro h; rw [if_neg h]; omega
  apply Classical.byContradiction
  intro h
  by_cases hn : b < 0
  · have := Int.mul_nonneg_of_nonpos_of_nonpos (show rB t b ≤ 0 by omega) (show rG t b ≤ 0 by have := hs.1 hn; omega)
    omega
  · have := Int.mul_nonneg (show 0 ≤ -rB t b by omega) (show 0 ≤ rG t b by have := hs.2 hn; omega)
    rw [Int.neg_mul] at this
    omega
theorem r_cross {t b : Int} (hb : b ≠ 0) : rT t b * b = t * rB t b := by
  have h1 := rT_mul (t := t) hb
  have h2 := rB_mul (t := t) hb
  generalize rT t b = p at *
  generalize rB t b = q at *
  generalize rG t b = g at *
  rw [← h1, ← h2, Int.mul_assoc, Int.mul_comm g q]
theorem r_low {t b : Int} (hb : b ≠ 0) : Int.gcd (rT t b) (rB t b) = 1 := by
  have h1 := rT_mul (t := t) hb
  have h2 := rB_mul (t := t) hb
  have h3 := rG_abs t b
  have h4 := rG_pos (t := t) hb
  have h5 := Int.gcd_mul_right (rT t b) (rG t b) (rB t b)
  rw [h1, h2, h3] at h5
  exact Nat.eq_of_mul_eq_mul_right h4 (by omega)
theorem rT_abs {t b : Int} (hb : b ≠ 0) : (rT t b).natAbs ≤ t.natAbs := by
  have h1 := rT_mul (t := t) hb
  have h4 := rG_pos (t := t) hb
  have h3 := rG_abs t b
  have h5 : (rT t b).natAbs * (rG t b).natAbs = t.natAbs := by rw [← Int.natAbs_mul, h1]
  rw [h3] at h5
  rw [← h5]
  exact Nat.le_mul_of_pos_right _ h4
theorem rB_abs {t b : Int} (hb : b ≠ 0) : (rB t b).natAbs ≤ b.natAbs := by
  have h1 := rB_mul (t := t) hb
  have h4 := rG_pos (t := t) hb
  have h3 := rG_abs t b
  have h5 : (rB t b).natAbs * (rG t b).natAbs = b.natAbs := by rw [← Int.natAbs_mul, h1]
  rw [h3] at h5
  rw [← h5]
  exact Nat.le_mul_of_pos_right _ h4
end RB
namespace RB
open PySem PySem.Spec PyProof.Rows L2
/-- what isinstance asks of a class of instances -/
structure InsC (K : PySem.W.Frag) (C : Addr) : Prop where
  ha : PySem.W.findIn K (.ref C) "__class__" = some (some (.builtin "object.__class__"))
  hn : PySem.W.specialIn K (.builtin "object.__class__") "__get__" = some (some (.builtin "getset_descriptor.__get__"))
  ht : PySem.W.takesIn K (.builtin "object.__class__") = some true
  hm : PySem.W.mroIn K C (.type "object") = some true
theorem kit_self (K : PySem.W.Frag) (t : Value) (h : (t == t) = true) : PySem.W.kitOne K t t = some true := by
  unfold PySem.W.kitOne
  rw [if_pos h]
theorem r_isR {K : PySem.W.Frag} {C : Addr} {H : Hp} {Q : VK} {a : Addr} {t b : Int} (c : Cls K C) (i : InsC K C) (h : IsR C H a t b) (q : Q (.bl true) H) : rIsi K [.ref a, .ref C] H Q := by
  obtain ⟨dx, h⟩ := h
  exact ⟨.ref a, .ref C, .ref C, .ref C, true, rfl, .own C, .base (.ins h c i.ha i.hn i.ht i.hm), kit_self K (.ref C) (beq_self_eq_true _), q⟩
end RB

set_option linter.all false
/-! Fractions: order, sign, floor. -/
namespace RB
/-- -1, 0 or 1 -/
def ordI (l r : Int) : Int := if l < r then -1 else if r < l then 1 else 0
theorem ordI_lt {l r : Int} (h : l < r) : ordI l r = -1 := if_pos h
theorem ordI_gt {l r : Int} (h : r < l) : ordI l r = 1 := by
  unfold ordI
  rw [if_neg (by omega), if_pos h]
theorem ordI_self (l : Int) : ordI l l = 0 := by
  unfold ordI
  rw [if_neg (by omega), if_neg (by omega)]
theorem ordI_swap (l r : Int) : ordI r l = - ordI l r := by
  rcases Int.lt_trichotomy l r with h | h | h
  · rw [ordI_lt h, ordI_gt h]; rfl
  · subst h; rw [ordI_self]; rfl
  · rw [ordI_gt h, ordI_lt h]
theorem ordI_scale {c : Int} (hc : 0 < c) (l r : Int) : ordI (l * c) (r * c) = ordI l r := by
  rcases Int.lt_trichotomy l r with h | h | h
  · rw [ordI_lt h, ordI_lt (Int.mul_lt_mul_of_pos_right h hc)]
  · subst h; rw [ordI_self, ordI_self]
  · rw [ordI_gt h, ordI_gt (Int.mul_lt_mul_of_pos_right h hc)]
theorem ordI_sub (l r : Int) : ordI (l - r) 0 = ordI l r := by
  rcases Int.lt_trichotomy l r with h | h | h
  · rw [ordI_lt h, ordI_lt (by omega)]
  · subst h; rw [ordI_self, Int.sub_self, ordI_self]
  · rw [ordI_gt h, ordI_gt (by omega)]
theorem rG_gt {t b : Int} (hb : 0 < b) : 0 < rG t b := by
  have := rG_pos (t := t) (b := b) (by omega)
  unfold rG
  rw [gcdL_pair, if_neg (by omega)]
  omega
/-- the order of two made fractions is that of what they are made of -/
theorem ord_made {t b u v : Int} (hb : 0 < b) (hv : 0 < v) : ordI (rT t b * rB u v) (rT u v * rB t b) = ordI (t * v) (u * b) := by
  have g1 := rG_gt (t := t) hb
  have g2 := rG_gt (t := u) hv
  have e1 := rT_mul (t := t) (b := b) (by omega)
  have e2 := rB_mul (t := t) (b := b) (by omega)
  have e3 := rT_mul (t := u) (b := v) (by omega)
  have e4 := rB_mul (t := u) (b := v) (by omega)
  generalize rT t b = p at *
  generalize rB t b = q at *
  generalize rT u v = p' at *
  generalize rB u v = q' at *
  generalize rG t b = g at *
  generalize rG u v = g' at *
  have hg : 0 < g * g' := Int.mul_pos g1 g2
  have a1 : t * v = (p * q') * (g * g') := by rw [← e1, ← e4]; simp only [Int.mul_assoc, Int.mul_left_comm, Int.mul_comm]
  have a2 : u * b = (p' * q) * (g * g') := by rw [← e3, ← e2]; simp only [Int.mul_assoc, Int.mul_left_comm, Int.mul_comm]
  rw [a1, a2, ordI_scale hg]
theorem sign_made {t b : Int} (hb : 0 < b) : ordI (rT t b) 0 = ordI t 0 := by
  have g1 := rG_gt (t := t) hb
  have e1 := rT_mul (t := t) (b := b) (by omega)
  have := ordI_scale g1 (rT t b) 0
  rw [e1, Int.zero_mul] at this
  exact this.symm
theorem rG_one (t : Int) : rG t 1 = 1 := by
  unfold rG
  rw [gcdL_pair, if_neg (by decide), Int.gcd_one_right]; rfl
theorem rT_one (t : Int) : rT t 1 = t := by
  unfold rT; rw [rG_one, Int.fdiv_one]
theorem rB_one (t : Int) : rB t 1 = 1 := by
  unfold rB; rw [rG_one]; rfl
theorem fdiv_two {p q : Int} (hq : 0 < q) : p.fdiv q * q ≤ p ∧ p < (p.fdiv q + 1) * q := by
  have h1 := Int.mul_fdiv_add_fmod p q
  have h2 := Int.fmod_nonneg_of_pos p hq
  have h3 := Int.fmod_lt_of_pos p hq
  rw [Int.add_mul, Int.one_mul, Int.mul_comm (p.fdiv q) q]
  omega
theorem fdiv_abs {p q : Int} (hq : 0 < q) : (p.fdiv q).natAbs ≤ p.natAbs := by
  obtain ⟨h1, h2⟩ := fdiv_two (p := p) hq
  generalize p.fdiv q = l at *
  by_cases hl : 0 ≤ l
  · have := Int.mul_le_mul_of_nonneg_left (show 1 ≤ q by omega) hl
    rw [Int.mul_one] at this
    omega
  · have := Int.mul_le_mul_of_nonneg_left (show 1 ≤ q by omega) (show 0 ≤ -(l + 1) by omega)
    rw [Int.mul_one, Int.neg_mul] at this
    omega
/-- the floor of a made fraction, told by what it is made of -/
theorem floor_made {t b : Int} (hb : 0 < b) : (rT t b).fdiv (rB t b) * b ≤ t ∧ t < ((rT t b).fdiv (rB t b) + 1) * b := by
  have g1 := rG_gt (t := t) hb
  have e1 := rT_mul (t := t) (b := b) (by omega)
  have e2 := rB_mul (t := t) (b := b) (by omega)
  obtain ⟨h1, h2⟩ := fdiv_two (p := rT t b) (rB_pos (t := t) (b := b) (by omega))
  generalize (rT t b).fdiv (rB t b) = l at *
  generalize rT t b = p at *
  generalize rB t b = q at *
  generalize rG t b = g at *
  have a1 := Int.mul_le_mul_of_nonneg_right h1 (show 0 ≤ g by omega)
  have a2 := Int.mul_lt_mul_of_pos_right h2 g1
  rw [Int.mul_assoc, e2, e1] at a1 a2
  exact ⟨a1, a2⟩
end RB
namespace RB
open PySem PySem.Spec PyProof.Rows L2
theorem r_strI {i : Int} {H : Hp} {Q : VK} (h : i.natAbs.log2 < 1920) (q : Q (.str (toString i)) H) : rStrInt [.int i] H Q := ⟨i, rfl, h, q⟩
theorem r_addS {i j : Str} {H : Hp} {Q : VK} (h : i.length + j.length ≤ sizeLine) (q : Q (.str (i ++ j)) H) : rAddS (.str i) (.str j) H Q := ⟨i, j, rfl, rfl, h, q⟩
theorem rG_low {t b : Int} (hb : 0 < b) (h : Int.gcd t b = 1) : rG t b = 1 := by
  unfold rG
  rw [gcdL_pair, if_neg (by omega), h]; rfl
theorem rT_low {t b : Int} (hb : 0 < b) (h : Int.gcd t b = 1) : rT t b = t := by
  unfold rT; rw [rG_low hb h, Int.fdiv_one]
theorem rB_low {t b : Int} (hb : 0 < b) (h : Int.gcd t b = 1) : rB t b = b := by
  unfold rB; rw [rG_low hb h, Int.fdiv_one]
/-- a fraction's text -/
def textR (t b : Int) : Str := if b = 1 then (toString t : String) else Str.ofString (toString t) ++ "/" ++ Str.ofString (toString b)
theorem text_len {i : Int} (h : i.natAbs.log2 < 1920) : (Str.ofString (toString i)).length ≤ 1921 := PyProof.Rows.int_text_len_1921 h
theorem cat_len (a b : Str) : (a ++ b).length = a.length + b.length := by
  show (a.cps ++ b.cps).size = _
  rw [Array.size_append]; rfl
theorem log_lt {i : Int} {n : Nat} (h0 : 0 < n) (h9 : n ≤ 1920) (h : i.natAbs < 2 ^ n) : i.natAbs.log2 < 1920 := Nat.lt_of_lt_of_le (PySem.Flt.log2_lt_of h0 h) h9
end RB
namespace RB
theorem cross_made {X Y T B : Int} (hY : Y ≠ 0) (h : X * B = T * Y) : rT X Y * B = T * rB X Y := by
  have h1 := rT_mul (t := X) hY
  have h2 := rB_mul (t := X) hY
  have hg := rG_ne (t := X) hY
  generalize rT X Y = p at *
  generalize rB X Y = q at *
  generalize rG X Y = g at *
  apply Int.eq_of_mul_eq_mul_right hg
  rw [Int.mul_assoc, Int.mul_comm B g, ← Int.mul_assoc, h1, h, Int.mul_assoc, h2]
theorem plus_cross {p q p' q' a b c d : Int} (h1 : p * b = a * q) (h2 : p' * d = c * q') : (p * q' + p' * q) * (b * d) = (a * d + c * b) * (q * q') := by grind
theorem minus_cross {p q p' q' a b c d : Int} (h1 : p * b = a * q) (h2 : p' * d = c * q') : (p * q' - p' * q) * (b * d) = (a * d - c * b) * (q * q') := by grind
theorem times_cross {p q p' q' a b c d : Int} (h1 : p * b = a * q) (h2 : p' * d = c * q') : (p * p') * (b * d) = (a * c) * (q * q') := by grind
theorem over_cross {p q p' q' a b c d : Int} (h1 : p * b = a * q) (h2 : p' * d = c * q') : (p * q') * (b * c) = (a * d) * (q * p') := by grind
theorem rT_zero (b : Int) : rT 0 b = 0 := by
  unfold rT; exact Int.zero_fdiv _
end RB

set_option linter.all false
/-! A polynomial at a fraction, by places from the top (top_at), and changes of sign. -/
namespace MH
open ML
/-- the total behind the coefficients (that of the highest power first), the scale -/
def hs (t b : Int) : List Int → Int × Int
  | [] => (0, 1)
  | x :: r => ((hs t b r).1 * t + x * (hs t b r).2, (hs t b r).2 * b)
/-- P at t / b, times b to the power of P's degree; the list's head is the constant, so hs is read from behind -/
def topL (P : List Int) (t b : Int) : Int := (hs t b P).1
theorem hs_cons (t b x : Int) (r : List Int) : hs t b (x :: r) = ((hs t b r).1 * t + x * (hs t b r).2, (hs t b r).2 * b) := rfl
theorem hs_drop {t b : Int} {P : List Int} {i : Nat} {x : Int} (h : P[i]? = some x) : hs t b (P.drop i) = ((hs t b (P.drop (i + 1))).1 * t + x * (hs t b (P.drop (i + 1))).2, (hs t b (P.drop (i + 1))).2 * b) := by
  obtain ⟨hl, e⟩ := List.getElem?_eq_some_iff.mp h
  rw [List.drop_eq_getElem_cons hl, e, hs_cons]
theorem hs_sz {t b : Int} {n m : Nat} (ht : t.natAbs < 2 ^ m) (hb : b.natAbs < 2 ^ m) : ∀ P : List Int, Sz n P → ((hs t b P).1).natAbs < 2 ^ (n + (m + 1) * P.length + 1) ∧ ((hs t b P).2).natAbs < 2 ^ (m * P.length + 1)
  | [], _ => ⟨Nat.two_pow_pos _, by show (1 : Int).natAbs < 2 ^ (m * 0 + 1); simp⟩
  | x :: r, h => by
    obtain ⟨h1, h2⟩ := hs_sz ht hb r (fun y hy => h y (List.mem_cons_of_mem _ hy))
    have hx := h x (List.mem_cons_self ..)
    have a1 : ((hs t b r).1 * t).natAbs < 2 ^ (n + (m + 1) * r.length + 1 + m) := L2.wide_lt h1 ht
    have a2 : (x * (hs t b r).2).natAbs < 2 ^ (n + (m * r.length + 1)) := L2.wide_lt hx h2
    have a3 : ((hs t b r).2 * b).natAbs < 2 ^ (m * r.length + 1 + m) := L2.wide_lt h2 hb
    have e1 : (m + 1) * (r.length + 1) = m * r.length + r.length + m + 1 := by
      rw [Nat.mul_add, Nat.add_mul]; omega
    have e1' : (m + 1) * r.length = m * r.length + r.length := by rw [Nat.add_mul, Nat.one_mul]
    have e2 : m * (r.length + 1) = m * r.length + m := by rw [Nat.mul_add]; omega
    rw [hs_cons, List.length_cons, e1, e2]
    refine ⟨?_, Nat.lt_of_lt_of_le a3 (Nat.pow_le_pow_right (by decide) (by omega))⟩
    have b1 : ((hs t b r).1 * t).natAbs < 2 ^ (n + (m * r.length + r.length + m + 1)) := Nat.lt_of_lt_of_le a1 (Nat.pow_le_pow_right (by decide) (by omega))
    have b2 : (x * (hs t b r).2).natAbs < 2 ^ (n + (m * r.length + r.length + m + 1)) := Nat.lt_of_lt_of_le a2 (Nat.pow_le_pow_right (by decide) (by omega))
    rw [Nat.pow_succ]
    show ((hs t b r).1 * t + x * (hs t b r).2).natAbs < _
    generalize 2 ^ (n + (m * r.length + r.length + m + 1)) = z at b1 b2 ⊢
    omega
theorem hs_scale (p q g : Int) : ∀ P : List Int, (hs (p * g) (q * g) P).1 * g = (hs p q P).1 * g ^ P.length ∧ (hs (p * g) (q * g) P).2 = (hs p q P).2 * g ^ P.length
  | [] => ⟨by show (0 : Int) * g = 0 * g ^ 0; rw [Int.zero_mul, Int.zero_mul], by show (1 : Int) = 1 * g ^ 0; rw [Int.pow_zero]; rfl⟩
  | x :: r => by
    obtain ⟨h1, h2⟩ := hs_scale p q g r
    rw [hs_cons, hs_cons, List.length_cons, Int.pow_succ, h2]
    constructor
    · show ((hs (p * g) (q * g) r).1 * (p * g) + x * ((hs p q r).2 * g ^ r.length)) * g = ((hs p q r).1 * p + x * (hs p q r).2) * (g ^ r.length * g)
      generalize (hs (p * g) (q * g) r).1 = A at *
      generalize (hs p q r).1 = B at *
      generalize g ^ r.length = G at *
      grind
    · show (hs p q r).2 * g ^ r.length * (q * g) = (hs p q r).2 * q * (g ^ r.length * g)
      generalize g ^ r.length = G
      grind
theorem pow_pos {g : Int} (h : 0 < g) : ∀ n : Nat, 0 < g ^ n
  | 0 => by rw [Int.pow_zero]; decide
  | n + 1 => by rw [Int.pow_succ]; exact Int.mul_pos (pow_pos h n) h
/-- the sign at a made fraction is that at what it is made of -/
theorem sign_made (P : List Int) {t b : Int} (hb : 0 < b) : RB.ordI (topL P (RB.rT t b) (RB.rB t b)) 0 = RB.ordI (topL P t b) 0 := by
  have hg := RB.rG_gt (t := t) hb
  have e1 := RB.rT_mul (t := t) (b := b) (by omega)
  have e2 := RB.rB_mul (t := t) (b := b) (by omega)
  have h := (hs_scale (RB.rT t b) (RB.rB t b) (RB.rG t b) P).1
  rw [e1, e2] at h
  have a1 := RB.ordI_scale hg (topL P t b) 0
  have a2 := RB.ordI_scale (pow_pos hg P.length) (topL P (RB.rT t b) (RB.rB t b)) 0
  rw [Int.zero_mul] at a1 a2
  rw [← a1, ← a2]
  unfold topL
  rw [h]
/-- one more sign: how many changes, the last sign -/
def stp (s : Int × Int) (x : Int) : Int × Int := if x ≠ 0 then (if s.2 = 0 - x then s.1 + 1 else s.1, x) else s
def chg (Ps : List (List Int)) (t b : Int) : Int × Int := Ps.foldl (fun s P => stp s (RB.ordI (topL P t b) 0)) (0, 0)
theorem chg_take {Ps : List (List Int)} {t b : Int} {i : Nat} {P : List Int} (h : Ps[i]? = some P) : chg (Ps.take (i + 1)) t b = stp (chg (Ps.take i) t b) (RB.ordI (topL P t b) 0) := by
  unfold chg
  rw [List.take_add_one, h]
  simp [List.foldl_append]
theorem chg_made (Ps : List (List Int)) {t b : Int} (hb : 0 < b) : chg Ps (RB.rT t b) (RB.rB t b) = chg Ps t b := by
  unfold chg
  congr 1
  funext s P
  rw [sign_made P hb]
end MH

namespace RB
structure HSz (n m : Nat) (P : List Int) (t b : Int) : Prop where
  sP : ML.Sz n P
  st : t.natAbs < 2 ^ m
  sb : b.natAbs < 2 ^ m
  n0 : 0 < n
  m0 : 0 < m
  le : n + (m + 1) * (P.length + 1) ≤ 900000
theorem HSz.steps {n m : Nat} {P : List Int} {t b : Int} (s : HSz n m P t b) (k : Nat) : (MH.hs t b (P.drop k)).1.natAbs < 2 ^ (n + (m + 1) * P.length + 1) ∧ (MH.hs t b (P.drop k)).2.natAbs < 2 ^ (m * P.length + 1) := by
  have h := MH.hs_sz s.st s.sb (P.drop k) (s.sP.drop k)
  have hl : (P.drop k).length ≤ P.length := by rw [List.length_drop]; omega
  have h1 := Nat.mul_le_mul_left (m + 1) hl
  have h2 := Nat.mul_le_mul_left m hl
  exact ⟨Nat.lt_of_lt_of_le h.1 (Nat.pow_le_pow_right (by decide) (by omega)), Nat.lt_of_lt_of_le h.2 (Nat.pow_le_pow_right (by decide) (by omega))⟩
end RB

set_option linter.all false
/-! Division with a factor. -/
namespace MD
open ML
/-- the last coefficient -/
def lc (Q : List Int) : Int := cf Q (Q.length - 1)
def subShift (rs Q : List Int) (k : Nat) (many : Int) : List Int := (List.range rs.length).map fun j => if k ≤ j ∧ j - k < Q.length then cf rs j - many * cf Q (j - k) else cf rs j
theorem subShift_len (rs Q : List Int) (k : Nat) (many : Int) : (subShift rs Q k many).length = rs.length := by unfold subShift; simp
theorem cf_subShift {rs Q : List Int} {k : Nat} {many : Int} (j : Nat) (h : k + Q.length ≤ rs.length) : cf (subShift rs Q k many) j = cf rs j - if k ≤ j then many * cf Q (j - k) else 0 := by
  unfold subShift
  by_cases hj : j < rs.length
  · rw [cf_range hj]
    by_cases h1 : k ≤ j
    · rw [if_pos h1]
      by_cases h2 : j - k < Q.length
      · rw [if_pos ⟨h1, h2⟩]
      · rw [if_neg (by omega), cf_beyond (P := Q) (by omega), Int.mul_zero]; omega
    · rw [if_neg (by omega), if_neg h1]; omega
  · rw [cf_range_beyond (by omega), cf_beyond (P := rs) (by omega)]
    split
    · rw [cf_beyond (P := Q) (by omega), Int.mul_zero]; rfl
    · rfl
def dloop (Q : List Int) : Nat → List Int × List Int → List Int × List Int
  | 0, s => s
  | k + 1, (qs, rs) => dloop Q k (qs.set k ((cf rs (k + (Q.length - 1))).fdiv (lc Q)), subShift rs Q k ((cf rs (k + (Q.length - 1))).fdiv (lc Q)))
def facL (P Q : List Int) : Int := if P.length < Q.length then 1 else ((lc Q).natAbs : Int) ^ (P.length - Q.length + 1)
def quoL (P Q : List Int) : List Int := if P.length < Q.length then [] else trimL (dloop Q (P.length - Q.length + 1) (List.replicate (P.length - Q.length + 1) 0, P.map (· * facL P Q))).1
def remL (P Q : List Int) : List Int := if P.length < Q.length then P else trimL (dloop Q (P.length - Q.length + 1) (List.replicate (P.length - Q.length + 1) 0, P.map (· * facL P Q))).2
theorem cv_set {qs Q : List Int} {k : Nat} {x : Int} (hk : k < qs.length) (h0 : cf qs k = 0) (j : Nat) : cv (qs.set k x) Q j = cv qs Q j + if k ≤ j then x * cf Q (j - k) else 0 := by
  unfold cv
  have e : sm (j + 1) (fun i => cf (qs.set k x) i * cf Q (j - i)) = sm (j + 1) (fun i => cf qs i * cf Q (j - i) + if i = k then x * cf Q (j - k) else 0) := sm_congr fun i _ => by
    rw [cf_set hk]
    by_cases h : i = k
    · rw [if_pos h, if_pos h, h, h0, Int.zero_mul]; omega
    · rw [if_neg h, if_neg h]; omega
  rw [e, sm_add]
  congr 1
  by_cases hj : k ≤ j
  · rw [if_pos hj, sm_single (j := k) (by omega) fun i _ hn => if_neg hn, if_pos rfl]
  · rw [if_neg hj]
    exact sm_zero fun i hi => if_neg (by omega)
structure Inv (Q : List Int) (F : Nat → Int) (N g k : Nat) (s : List Int × List Int) : Prop where
  lq : s.1.length = g
  lr : s.2.length = N
  eq : ∀ j, F j = cv s.1 Q j + cf s.2 j
  hi : ∀ j, k + (Q.length - 1) ≤ j → cf s.2 j = 0
  dv : ∀ j, (((lc Q).natAbs ^ k : Nat) : Int) ∣ cf s.2 j
  lo : ∀ i, i < k → cf s.1 i = 0
theorem many_eq {Q rs : List Int} {k : Nat} (hl : lc Q ≠ 0) (dv : ∀ j, (((lc Q).natAbs ^ (k + 1) : Nat) : Int) ∣ cf rs j) (j : Nat) : lc Q * (cf rs j).fdiv (lc Q) = cf rs j := by
  have h1 : lc Q ∣ cf rs j := by
    refine Int.dvd_trans ?_ (dv j)
    refine Int.natAbs_dvd_natAbs.mp ?_
    rw [Int.natAbs_natCast, Nat.pow_succ]
    exact Nat.dvd_mul_left _ _
  rw [Int.fdiv_eq_ediv_of_dvd h1, Int.mul_ediv_cancel' h1]
theorem Inv.step {Q : List Int} {F : Nat → Int} {N g k : Nat} {qs rs : List Int} (I : Inv Q F N g (k + 1) (qs, rs)) (hl : lc Q ≠ 0) (hQ : 0 < Q.length) (hk : k < g) (hN : k + Q.length ≤ N) :
    Inv Q F N g k (qs.set k ((cf rs (k + (Q.length - 1))).fdiv (lc Q)), subShift rs Q k ((cf rs (k + (Q.length - 1))).fdiv (lc Q))) := by
  obtain ⟨lq, lr, eq, hi, dv, lo⟩ := I
  dsimp only at lq lr eq hi dv lo
  have me := many_eq hl dv (k + (Q.length - 1))
  have dm : (((lc Q).natAbs ^ k : Nat) : Int) ∣ (cf rs (k + (Q.length - 1))).fdiv (lc Q) := by
    have h1 := dv (k + (Q.length - 1))
    rw [← me] at h1
    have h2 := Int.natAbs_dvd_natAbs.mpr h1
    rw [Int.natAbs_natCast, Int.natAbs_mul, Nat.pow_succ, Nat.mul_comm] at h2
    have h3 := Nat.dvd_of_mul_dvd_mul_left (by omega) h2
    exact Int.natAbs_dvd_natAbs.mp (by rw [Int.natAbs_natCast]; exact h3)
  generalize (cf rs (k + (Q.length - 1))).fdiv (lc Q) = many at me dm ⊢
  refine ⟨by rw [List.length_set]; exact lq, by rw [subShift_len]; exact lr, fun j => ?_, fun j hj => ?_, fun j => ?_, fun i hi' => ?_⟩
  · dsimp only
    rw [eq j, cv_set (by omega) (lo k (by omega)), cf_subShift j (by omega)]; omega
  · dsimp only
    rw [cf_subShift j (by omega), if_pos (by omega)]
    by_cases h : j = k + (Q.length - 1)
    · have e2 : j - k = Q.length - 1 := by omega
      have e3 : cf Q (Q.length - 1) = lc Q := rfl
      rw [e2, e3, h, ← me, Int.mul_comm]; omega
    · rw [hi j (by omega), cf_beyond (P := Q) (by omega), Int.mul_zero]; rfl
  · dsimp only
    rw [cf_subShift j (by omega)]
    have d1 : (((lc Q).natAbs ^ k : Nat) : Int) ∣ cf rs j := Int.dvd_trans (Int.ofNat_dvd.mpr (Nat.pow_dvd_pow _ (by omega))) (dv j)
    refine Int.dvd_sub d1 ?_
    split
    · exact Int.dvd_mul_of_dvd_left dm
    · exact Int.dvd_zero _
  · dsimp only
    rw [cf_set (by omega), if_neg (by omega)]
    exact lo i (by omega)
theorem Inv.run {Q : List Int} {F : Nat → Int} {N g : Nat} (hl : lc Q ≠ 0) (hQ : 0 < Q.length) : ∀ (k : Nat) (s : List Int × List Int), k ≤ g → (k = 0 ∨ k - 1 + Q.length ≤ N) → Inv Q F N g k s → Inv Q F N g 0 (dloop Q k s)
  | 0, s, _, _, I => I
  | k + 1, (qs, rs), hk, hN, I => Inv.run hl hQ k _ (by omega) (by omega) (I.step hl hQ (by omega) (by omega))
theorem cv_zero_left {qs Q : List Int} (h : ∀ i, cf qs i = 0) (j : Nat) : cv qs Q j = 0 := sm_zero fun i _ => by rw [h, Int.zero_mul]
theorem lc_ne {Q : List Int} (hT : Trim Q) (h0 : Q ≠ []) : lc Q ≠ 0 := hT.elim (fun e => absurd e h0) id
theorem len_pos {Q : List Int} (h0 : Q ≠ []) : 0 < Q.length := List.length_pos_iff.mpr h0
theorem dstart {P Q : List Int} (hT : Trim Q) (h0 : Q ≠ []) (hg : ¬ P.length < Q.length) : Inv Q (fun j => cf P j * facL P Q) P.length (P.length - Q.length + 1) (P.length - Q.length + 1) (List.replicate (P.length - Q.length + 1) 0, P.map (· * facL P Q)) where
  lq := by simp
  lr := by simp
  eq := fun j => by
    dsimp only
    rw [cv_zero_left (fun i => cf_rep0 _ _), cf_map (f := (· * facL P Q)) (by omega)]; omega
  hi := fun j hj => by
    have := len_pos h0
    exact cf_beyond (by simp; omega)
  dv := fun j => by
    dsimp only
    rw [cf_map (f := (· * facL P Q)) (by omega)]
    refine Int.dvd_mul_of_dvd_right ?_
    unfold facL
    rw [if_neg hg, ← Int.natCast_pow]
    exact Int.dvd_refl _
  lo := fun i _ => cf_rep0 _ _
theorem dend {P Q : List Int} (hT : Trim Q) (h0 : Q ≠ []) (hg : ¬ P.length < Q.length) : Inv Q (fun j => cf P j * facL P Q) P.length (P.length - Q.length + 1) 0 (dloop Q (P.length - Q.length + 1) (List.replicate (P.length - Q.length + 1) 0, P.map (· * facL P Q))) :=
  Inv.run (lc_ne hT h0) (len_pos h0) _ _ (Nat.le_refl _) (.inr (by omega)) (dstart hT h0 hg)
theorem cv_trim_left (P Q : List Int) (j : Nat) : cv (trimL P) Q j = cv P Q j := sm_congr fun i _ => by rw [cf_trimL]
/-- factor times P is quotient times Q, added to the rest -/
theorem div_eq {P Q : List Int} (hT : Trim Q) (h0 : Q ≠ []) (j : Nat) : facL P Q * cf P j = cv (quoL P Q) Q j + cf (remL P Q) j := by
  by_cases hg : P.length < Q.length
  · unfold facL quoL remL
    rw [if_pos hg, if_pos hg, if_pos hg, cv_zero_left (fun i => cf_nil i)]; omega
  · have I := dend hT h0 hg
    unfold quoL remL
    rw [if_neg hg, if_neg hg, cv_trim_left, cf_trimL, Int.mul_comm]
    exact I.eq j
theorem rem_len {P Q : List Int} (hT : Trim Q) (h0 : Q ≠ []) : (remL P Q).length < Q.length := by
  by_cases hg : P.length < Q.length
  · unfold remL; rw [if_pos hg]; exact hg
  · have I := dend hT h0 hg
    have hq := len_pos h0
    have hz : ∀ j, Q.length - 1 ≤ j → cf (remL P Q) j = 0 := fun j hj => by
      unfold remL
      rw [if_neg hg, cf_trimL]
      exact I.hi j (by omega)
    have ht : Trim (remL P Q) := by
      unfold remL; rw [if_neg hg]; exact trim_trimL _
    rcases ht with h | h
    · rw [h]; exact hq
    · apply Nat.lt_of_not_le
      intro hle
      exact h (hz _ (by omega))
theorem trim_rem {P Q : List Int} (h : Trim P) : Trim (remL P Q) := by
  unfold remL
  split
  · exact h
  · exact trim_trimL _
theorem trim_quo (P Q : List Int) : Trim (quoL P Q) := by
  unfold quoL
  split
  · exact .inl rfl
  · exact trim_trimL _
/-! ### sizes -/
theorem abs_sub_lt {a b : Int} {n m : Nat} (ha : a.natAbs < 2 ^ n) (hb : b.natAbs < 2 ^ m) (h : n ≤ m) : (a - b).natAbs < 2 ^ (m + 1) := by
  have h1 : (2 : Nat) ^ n ≤ 2 ^ m := Nat.pow_le_pow_right (by decide) h
  have h2 : (2 : Nat) ^ (m + 1) = 2 ^ m + 2 ^ m := by rw [Nat.pow_succ]; omega
  omega
theorem many_lt {Q rs : List Int} {k n : Nat} (hl : lc Q ≠ 0) (dv : ∀ j, (((lc Q).natAbs ^ (k + 1) : Nat) : Int) ∣ cf rs j) (hs : Sz n rs) (j : Nat) : ((cf rs j).fdiv (lc Q)).natAbs < 2 ^ n := by
  have h1 := many_eq hl dv j
  have h2 := hs.cf j
  rw [← h1, Int.natAbs_mul] at h2
  exact Nat.lt_of_le_of_lt (Nat.le_mul_of_pos_left _ (by omega)) h2
theorem Sz.sub {Q rs : List Int} {k n m : Nat} {many : Int} (hs : Sz n rs) (hq : Sz m Q) (hm : many.natAbs < 2 ^ n) : Sz (n + m + 1) (subShift rs Q k many) := fun x hx => by
  unfold subShift at hx
  obtain ⟨j, _, rfl⟩ := List.mem_map.mp hx
  have h1 := hs.cf j
  have h2 : (many * cf Q (j - k)).natAbs < 2 ^ (n + m) := by
    rw [Int.natAbs_mul, Nat.pow_add]
    exact Nat.mul_lt_mul'' hm (hq.cf _)
  split
  · exact abs_sub_lt h1 h2 (by omega)
  · exact Nat.lt_of_lt_of_le h1 (Nat.pow_le_pow_right (by decide) (by omega))
theorem Sz.setq {qs : List Int} {n k : Nat} {x : Int} (hs : Sz n qs) (hx : x.natAbs < 2 ^ n) : Sz n (qs.set k x) := fun y hy => by
  rcases List.mem_or_eq_of_mem_set hy with h | h
  · exact hs y h
  · rw [h]; exact hx
theorem dloop_sz {Q : List Int} {F : Nat → Int} {N g m : Nat} (hl : lc Q ≠ 0) (hQ : 0 < Q.length) (hq : Sz m Q) : ∀ (k : Nat) (s : List Int × List Int) (n : Nat), k ≤ g → (k = 0 ∨ k - 1 + Q.length ≤ N) → Inv Q F N g k s → Sz n s.1 → Sz n s.2 → Sz (n + k * (m + 1)) (dloop Q k s).1 ∧ Sz (n + k * (m + 1)) (dloop Q k s).2
  | 0, s, n, _, _, _, h1, h2 => ⟨h1.mono (by omega), h2.mono (by omega)⟩
  | k + 1, (qs, rs), n, hk, hN, I, h1, h2 => by
    have hm := many_lt hl I.dv h2 (k + (Q.length - 1))
    have := dloop_sz hl hQ hq k _ (n + m + 1) (by omega) (by omega) (I.step hl hQ (by omega) (by omega)) ((Sz.setq h1 hm).mono (by omega)) (Sz.sub h2 hq hm)
    have e : n + m + 1 + k * (m + 1) = n + (k + 1) * (m + 1) := by rw [Nat.add_mul]; omega
    rw [e] at this
    exact this
theorem facL_lt {P Q : List Int} {m : Nat} (hq : Sz m Q) : (facL P Q).natAbs < 2 ^ (m * (P.length - Q.length + 1) + 1) := by
  unfold facL
  split
  · exact Nat.lt_of_lt_of_le (by decide : (1 : Int).natAbs < 2 ^ 1) (Nat.pow_le_pow_right (by decide) (by omega))
  · have h := hq.cf (Q.length - 1)
    rw [← Int.natCast_pow, Int.natAbs_natCast]
    refine Nat.lt_of_le_of_lt (Nat.pow_le_pow_left (Nat.le_of_lt h) _) ?_
    rw [← Nat.pow_mul]
    exact Nat.pow_lt_pow_right (by decide) (by omega)
/-- how great the quotient and the rest can be -/
theorem div_sz {P Q : List Int} {n m : Nat} (hT : Trim Q) (h0 : Q ≠ []) (hp : Sz n P) (hq : Sz m Q) : Sz (n + (2 * m + 1) * (P.length + 1) + 1) (quoL P Q) ∧ Sz (n + (2 * m + 1) * (P.length + 1) + 1) (remL P Q) := by
  by_cases hg : P.length < Q.length
  · unfold quoL remL
    rw [if_pos hg, if_pos hg]
    exact ⟨Sz.nil _, hp.mono (by omega)⟩
  · have hs0 : Sz (n + (m * (P.length - Q.length + 1) + 1)) (P.map (· * facL P Q)) := fun x hx => by
      obtain ⟨y, hy, rfl⟩ := List.mem_map.mp hx
      rw [Int.natAbs_mul, Nat.pow_add]
      exact Nat.mul_lt_mul'' (hp y hy) (facL_lt hq)
    have h := dloop_sz (lc_ne hT h0) (len_pos h0) hq (P.length - Q.length + 1) _ _ (Nat.le_refl _) (.inr (by omega)) (dstart hT h0 hg) (Sz.rep0 _ _) hs0
    have hle : n + (m * (P.length - Q.length + 1) + 1) + (P.length - Q.length + 1) * (m + 1) ≤ n + (2 * m + 1) * (P.length + 1) + 1 := by
      have e1 : (P.length - Q.length + 1) * (m + 1) = m * (P.length - Q.length + 1) + (P.length - Q.length + 1) := by rw [Nat.mul_add, Nat.mul_comm]; omega
      have e2 : (2 * m + 1) * (P.length + 1) = 2 * (m * (P.length + 1)) + (P.length + 1) := by rw [Nat.add_mul, Nat.mul_assoc]; omega
      have e3 : m * (P.length - Q.length + 1) ≤ m * (P.length + 1) := Nat.mul_le_mul_left m (by omega)
      omega
    unfold quoL remL
    rw [if_neg hg, if_neg hg]
    exact ⟨(h.1.mono hle).trim, (h.2.mono hle).trim⟩
theorem cv_one (f : Int) (P : List Int) (k : Nat) : cv [f] P k = f * cf P k := by
  unfold cv
  rw [sm_single (j := 0) (by omega) fun i _ hn => by rw [cf_beyond (P := [f]) (by simp; omega), Int.zero_mul]]
  rfl
theorem mul_one_trim {f : Int} {P : List Int} (hf : f ≠ 0) (hT : Trim P) : Trim (mulU [f] P) := by
  rcases hT with h | h
  · left; unfold mulU; rw [if_pos (.inr h)]
  · right
    have hP : P ≠ [] := fun e => by rw [e] at h; exact h (cf_nil _)
    have hl : (mulU [f] P).length = P.length := by
      unfold mulU
      rw [if_neg (fun z => z.elim (fun h => by cases h) hP), List.length_map, List.length_range]
      show 1 + P.length - 1 = _
      omega
    rw [hl, cf_mulU, cv_one]
    exact Int.mul_ne_zero hf h
theorem facL_pos {P Q : List Int} (hT : Trim Q) (h0 : Q ≠ []) : 0 < facL P Q := by
  unfold facL
  split
  · decide
  · have := lc_ne hT h0
    exact Int.pow_pos (by omega)
/-- the sentence of a division, as lists -/
theorem div_lists {P Q : List Int} (hP : Trim P) (hT : Trim Q) (h0 : Q ≠ []) : mulU [facL P Q] P = addL (mulU (quoL P Q) Q) (remL P Q) := by
  refine trim_ext (mul_one_trim (by have := facL_pos (P := P) hT h0; omega) hP) (trim_addL _ _) fun k => ?_
  rw [cf_mulU, cv_one, cf_addL, cf_mulU]
  exact div_eq hT h0 k
end MD

set_option linter.all false
/-! The ring of polynomials, by coefficients. -/
namespace MR
open ML MD
theorem cv_comm (P Q : List Int) (k : Nat) : cv P Q k = cv Q P k := by
  unfold cv
  rw [← sm_rev (k + 1) (fun i => cf Q i * cf P (k - i))]
  refine sm_congr fun i hi => ?_
  rw [show k + 1 - 1 - i = k - i by omega, show k - (k - i) = i by omega, Int.mul_comm]
theorem sm_tri (g : Nat → Nat → Int) : ∀ k : Nat, sm (k + 1) (fun i => sm (i + 1) (fun j => g j (i - j))) = sm (k + 1) (fun j => sm (k - j + 1) (fun l => g j l))
  | 0 => rfl
  | k + 1 => by
    rw [sm_succ, sm_tri g k, sm_succ (k + 1) (fun j => g j (k + 1 - j)), sm_succ (k + 1) (fun j => sm (k + 1 - j + 1) (fun l => g j l))]
    have e : sm (k + 1) (fun j => sm (k + 1 - j + 1) (fun l => g j l)) = sm (k + 1) (fun j => sm (k - j + 1) (fun l => g j l) + g j (k + 1 - j)) := sm_congr fun j hj => by
      have : k + 1 - j = k - j + 1 := by omega
      rw [this, sm_succ]
    rw [e, sm_add]
    have e2 : sm (k + 1 - (k + 1) + 1) (fun l => g (k + 1) l) = g (k + 1) (k + 1 - (k + 1)) := by
      rw [Nat.sub_self]; simp [sm]
    rw [e2]; omega
theorem cv_assoc' (P Q R : List Int) (k : Nat) : sm (k + 1) (fun i => cv P Q i * cf R (k - i)) = sm (k + 1) (fun j => cf P j * cv Q R (k - j)) := by
  have h := sm_tri (fun j l => cf P j * cf Q l * cf R (k - j - l)) k
  have e1 : sm (k + 1) (fun i => cv P Q i * cf R (k - i)) = sm (k + 1) (fun i => sm (i + 1) (fun j => cf P j * cf Q (i - j) * cf R (k - j - (i - j)))) := sm_congr fun i hi => by
    unfold cv
    rw [← sm_mul_r]
    exact sm_congr fun j hj => by rw [show k - j - (i - j) = k - i by omega]
  have e2 : sm (k + 1) (fun j => cf P j * cv Q R (k - j)) = sm (k + 1) (fun j => sm (k - j + 1) (fun l => cf P j * cf Q l * cf R (k - j - l))) := sm_congr fun j hj => by
    unfold cv
    rw [← sm_mul]
    exact sm_congr fun l _ => by rw [Int.mul_assoc]
  rw [e1, e2]; exact h
theorem cv_congr {P P' Q Q' : List Int} (h : ∀ i, cf P i = cf P' i) (h' : ∀ i, cf Q i = cf Q' i) (k : Nat) : cv P Q k = cv P' Q' k := sm_congr fun i _ => by rw [h, h']
theorem cv_assoc (P Q R : List Int) (k : Nat) : cv (mulL P Q) R k = cv P (mulL Q R) k := by
  have h := cv_assoc' P Q R k
  unfold cv at h ⊢
  rw [show sm (k + 1) (fun i => cf (mulL P Q) i * cf R (k - i)) = sm (k + 1) (fun i => sm (i + 1) (fun j => cf P j * cf Q (i - j)) * cf R (k - i)) from sm_congr fun i _ => by rw [cf_mulL]; rfl, h]
  exact sm_congr fun i _ => by rw [cf_mulL]; rfl
theorem cv_add_left (P P' Q : List Int) (k : Nat) : cv (addL P P') Q k = cv P Q k + cv P' Q k := by
  unfold cv
  rw [← sm_add]
  exact sm_congr fun i _ => by rw [cf_addL, Int.add_mul]
theorem cv_sub_left (P P' Q : List Int) (k : Nat) : cv (subL P P') Q k = cv P Q k - cv P' Q k := by
  unfold cv
  rw [← sm_sub]
  exact sm_congr fun i _ => by rw [cf_subL, Int.sub_mul]
theorem cv_add_right (P Q Q' : List Int) (k : Nat) : cv P (addL Q Q') k = cv P Q k + cv P Q' k := by
  rw [cv_comm, cv_add_left, cv_comm Q, cv_comm Q']
theorem cv_sub_right (P Q Q' : List Int) (k : Nat) : cv P (subL Q Q') k = cv P Q k - cv P Q' k := by
  rw [cv_comm, cv_sub_left, cv_comm Q, cv_comm Q']
/-- times a number -/
def sclL (c : Int) (P : List Int) : List Int := P.map (c * ·)
theorem cf_sclL (c : Int) (P : List Int) (k : Nat) : cf (sclL c P) k = c * cf P k := cf_map (f := (c * ·)) (by omega) P k
theorem sclL_len (c : Int) (P : List Int) : (sclL c P).length = P.length := by unfold sclL; simp
theorem trim_sclL {c : Int} {P : List Int} (hc : c ≠ 0) (h : Trim P) : Trim (sclL c P) := by
  rcases h with h | h
  · left; rw [h]; rfl
  · right; rw [sclL_len, cf_sclL]; exact Int.mul_ne_zero hc h
theorem cv_scl_left (c : Int) (P Q : List Int) (k : Nat) : cv (sclL c P) Q k = c * cv P Q k := by
  unfold cv
  rw [← sm_mul]
  exact sm_congr fun i _ => by rw [cf_sclL, Int.mul_assoc]
theorem cv_scl_right (c : Int) (P Q : List Int) (k : Nat) : cv P (sclL c Q) k = c * cv P Q k := by
  rw [cv_comm, cv_scl_left, cv_comm]
theorem mulL_comm (P Q : List Int) : mulL P Q = mulL Q P := trim_ext (trim_mulL _ _) (trim_mulL _ _) fun k => by rw [cf_mulL, cf_mulL, cv_comm]
theorem mulL_assoc (P Q R : List Int) : mulL (mulL P Q) R = mulL P (mulL Q R) := trim_ext (trim_mulL _ _) (trim_mulL _ _) fun k => by rw [cf_mulL, cf_mulL, cv_assoc]
theorem mulU_one {c : Int} (P : List Int) : mulU [c] P = sclL c P := by
  by_cases h : P = []
  · subst h; rfl
  · refine ext ?_ fun k _ => ?_
    · unfold mulU
      rw [if_neg (fun z => z.elim (fun h => by cases h) h), List.length_map, List.length_range, sclL_len]
      show 1 + P.length - 1 = _
      omega
    · rw [cf_mulU, cv_one, cf_sclL]
/-- the top of a product -/
theorem cv_top {D Q : List Int} {d e : Nat} (hd : ∀ i, d < i → cf D i = 0) (he : ∀ i, e < i → cf Q i = 0) : cv D Q (d + e) = cf D d * cf Q e := by
  unfold cv
  rw [sm_single (j := d) (by omega) fun i _ hn => ?_]
  · rw [Nat.add_sub_cancel_left]
  · by_cases h : d < i
    · rw [hd i h, Int.zero_mul]
    · rw [he (d + e - i) (by omega), Int.mul_zero]
theorem exists_top {D : List Int} (h : ∃ i, cf D i ≠ 0) : ∃ d, cf D d ≠ 0 ∧ ∀ i, d < i → cf D i = 0 := by
  have ht := trim_trimL D
  rcases ht with e | e
  · obtain ⟨i, hi⟩ := h
    rw [← cf_trimL, e, cf_nil] at hi
    exact absurd rfl hi
  · refine ⟨(trimL D).length - 1, by rw [cf_trimL] at e; exact e, fun i hi => ?_⟩
    rw [← cf_trimL]
    exact cf_beyond (by omega)
theorem top_of {Q : List Int} (hT : Trim Q) (h0 : Q ≠ []) : cf Q (Q.length - 1) ≠ 0 ∧ ∀ i, Q.length - 1 < i → cf Q i = 0 :=
  ⟨lc_ne hT h0, fun i hi => cf_beyond (by omega)⟩
/-- what is times Q and of a lower degree than Q is nought -/
theorem low_zero {D Q : List Int} (hT : Trim Q) (h0 : Q ≠ []) (h : ∀ k, Q.length - 1 ≤ k → cv D Q k = 0) : ∀ i, cf D i = 0 := by
  intro i
  apply Classical.byContradiction
  intro hi
  obtain ⟨d, hd, hd2⟩ := exists_top ⟨i, hi⟩
  obtain ⟨q1, q2⟩ := top_of hT h0
  have := cv_top hd2 q2
  rw [h _ (by omega)] at this
  exact Int.mul_ne_zero hd q1 this.symm
/-- the rest of a division is told by any such sentence -/
theorem rest_unique {P Q A R : List Int} {f : Int} (hT : Trim Q) (h0 : Q ≠ []) (hR : R.length < Q.length) (h : ∀ k, f * cf P k = cv A Q k + cf R k) (k : Nat) : facL P Q * cf R k = f * cf (remL P Q) k ∧ facL P Q * cf A k = f * cf (quoL P Q) k := by
  have hz : ∀ i, cf (subL (sclL (facL P Q) A) (sclL f (quoL P Q))) i = 0 := low_zero hT h0 fun k hk => by
    rw [cv_sub_left, cv_scl_left, cv_scl_left]
    have h1 := h k
    have h2 := div_eq (P := P) hT h0 k
    have hr := rem_len (P := P) hT h0
    rw [cf_beyond (P := R) (by omega)] at h1
    rw [cf_beyond (P := remL P Q) (by omega)] at h2
    rw [show cv A Q k = f * cf P k by omega, show cv (quoL P Q) Q k = facL P Q * cf P k by omega, ← Int.mul_assoc, ← Int.mul_assoc, Int.mul_comm (facL P Q) f]
    omega
  have ha : ∀ i, facL P Q * cf A i = f * cf (quoL P Q) i := fun i => by
    have := hz i
    rw [cf_subL, cf_sclL, cf_sclL] at this
    omega
  refine ⟨?_, ha k⟩
  have h1 := h k
  have h2 := div_eq (P := P) hT h0 k
  have h3 : facL P Q * cv A Q k = f * cv (quoL P Q) Q k := by
    rw [← cv_scl_left, ← cv_scl_left]
    exact cv_congr (fun i => by rw [cf_sclL, cf_sclL, ha]) (fun _ => rfl) k
  have h4 : cf R k = f * cf P k - cv A Q k := by omega
  have h5 : cf (remL P Q) k = facL P Q * cf P k - cv (quoL P Q) Q k := by omega
  rw [h4, h5, Int.mul_sub, Int.mul_sub, h3, ← Int.mul_assoc, ← Int.mul_assoc, Int.mul_comm (facL P Q) f]
theorem trim_mulU {P Q : List Int} (hP : Trim P) (hQ : Trim Q) : Trim (mulU P Q) := by
  by_cases h : P = [] ∨ Q = []
  · left; unfold mulU; rw [if_pos h]
  · right
    have h1 : P ≠ [] := fun e => h (.inl e)
    have h2 : Q ≠ [] := fun e => h (.inr e)
    have e : (mulU P Q).length = P.length + Q.length - 1 := by unfold mulU; rw [if_neg h]; simp
    have l1 := len_pos h1
    have l2 := len_pos h2
    obtain ⟨a1, a2⟩ := top_of hP h1
    obtain ⟨b1, b2⟩ := top_of hQ h2
    rw [e, cf_mulU, show P.length + Q.length - 1 - 1 = (P.length - 1) + (Q.length - 1) by omega, cv_top a2 b2]
    exact Int.mul_ne_zero a1 b1
theorem cf_zero_nil {P : List Int} (hT : Trim P) : P = [] ↔ ∀ k, cf P k = 0 :=
  ⟨fun h k => by rw [h, cf_nil], fun h => hT.elim id fun e => absurd (h _) e⟩
/-- Q divides P just where the rest is [] -/
theorem rem_nil {P Q A R : List Int} {f : Int} (hf : f ≠ 0) (hP : Trim P) (hT : Trim Q) (h0 : Q ≠ []) (hR : R.length < Q.length) (tR : Trim R) (h : ∀ k, f * cf P k = cv A Q k + cf R k) : remL P Q = [] ↔ R = [] := by
  have hp := facL_pos (P := P) hT h0
  rw [cf_zero_nil (trim_rem hP), cf_zero_nil tR]
  constructor
  · intro hz k
    have := (rest_unique hT h0 hR h k).1
    rw [hz k, Int.mul_zero] at this
    rcases Int.mul_eq_zero.mp this with e | e
    · omega
    · exact e
  · intro hz k
    have := (rest_unique hT h0 hR h k).1
    rw [hz k, Int.mul_zero] at this
    rcases Int.mul_eq_zero.mp this.symm with e | e
    · exact absurd e hf
    · exact e
end MR

set_option linter.all false
/-! Products of linear factors, at fractions. -/
namespace MH
open ML MR
/-- times b * x - a, the coefficient ahead given -/
def linM (a b : Int) : List Int → Int → List Int
  | [], p => [b * p]
  | x :: r, p => (b * p - a * x) :: linM a b r x
theorem linM_len (a b : Int) : ∀ (P : List Int) (p : Int), (linM a b P p).length = P.length + 1
  | [], _ => rfl
  | x :: r, p => by
    show (linM a b r x).length + 1 = _
    rw [linM_len a b r x]; rfl
theorem cf_linM (a b : Int) : ∀ (P : List Int) (p : Int) (k : Nat), cf (linM a b P p) k = b * (if k = 0 then p else cf P (k - 1)) - a * cf P k
  | [], p, 0 => by
    show b * p = _
    rw [if_pos rfl, cf_nil, Int.mul_zero, Int.sub_zero]
  | [], p, k + 1 => by
    rw [if_neg (by omega), cf_nil, cf_nil, Int.mul_zero, Int.mul_zero, Int.sub_zero]
    exact cf_beyond (by show 1 ≤ k + 1; omega)
  | x :: r, p, 0 => by
    show b * p - a * x = _
    rw [if_pos rfl, cf_zero]
  | x :: r, p, k + 1 => by
    have h := cf_linM a b r x k
    show cf ((b * p - a * x) :: linM a b r x) (k + 1) = _
    rw [cf_succ, h, cf_succ, if_neg (Nat.succ_ne_zero k), Nat.add_sub_cancel]
    cases k with
    | zero => rw [if_pos rfl, cf_zero]
    | succ k => rw [if_neg (Nat.succ_ne_zero k), cf_succ, Nat.add_sub_cancel]
theorem hs_linM (a b t u : Int) : ∀ (P : List Int) (p : Int), hs t u (linM a b P p) = ((hs t u P).1 * (b * t - a * u) + b * p * (hs t u P).2, (hs t u P).2 * u)
  | [], p => by
    show ((0 : Int) * t + b * p * 1, (1 : Int) * u) = (0 * (b * t - a * u) + b * p * 1, 1 * u)
    rw [Int.zero_mul, Int.zero_mul]
  | x :: r, p => by
    have h := hs_linM a b t u r x
    show ((hs t u (linM a b r x)).1 * t + (b * p - a * x) * (hs t u (linM a b r x)).2, (hs t u (linM a b r x)).2 * u) = (((hs t u r).1 * t + x * (hs t u r).2) * (b * t - a * u) + b * p * ((hs t u r).2 * u), (hs t u r).2 * u * u)
    rw [h]
    refine Prod.ext ?_ rfl
    show ((hs t u r).1 * (b * t - a * u) + b * x * (hs t u r).2) * t + (b * p - a * x) * ((hs t u r).2 * u) = ((hs t u r).1 * t + x * (hs t u r).2) * (b * t - a * u) + b * p * ((hs t u r).2 * u)
    grind
theorem topL_linM (a b t u : Int) (P : List Int) : topL (linM a b P 0) t u = topL P t u * (b * t - a * u) := by
  unfold topL
  rw [hs_linM, Int.mul_zero, Int.zero_mul, Int.add_zero]
theorem cv_lin (a b : Int) (P : List Int) (k : Nat) : cv P [a, b] k = (if k = 0 then 0 else cf P (k - 1) * b) + cf P k * a := by
  have h2 : ∀ j, 2 ≤ j → cf [a, b] j = 0 := fun j hj => cf_beyond (by show 2 ≤ j; exact hj)
  unfold cv
  cases k with
  | zero =>
    rw [if_pos rfl]
    show 0 + cf P 0 * cf [a, b] 0 = _
    rfl
  | succ k =>
    rw [if_neg (by omega), sm_succ, sm_succ]
    have z : sm k (fun i => cf P i * cf [a, b] (k + 1 - i)) = 0 := sm_zero fun i hi => by rw [h2 _ (by omega), Int.mul_zero]
    rw [z, show k + 1 - k = 1 by omega, Nat.sub_self, Nat.add_sub_cancel, Int.zero_add]
    rfl
theorem mul_lin {a b : Int} {P : List Int} (hT : Trim P) (h0 : P ≠ []) (hb : b ≠ 0) : mulL P [-a, b] = linM a b P 0 := by
  have hl := MD.len_pos h0
  refine trim_ext (trim_mulL _ _) (.inr ?_) fun k => ?_
  · rw [linM_len, Nat.add_sub_cancel, cf_linM, if_neg (by omega), cf_beyond (P := P) (Nat.le_refl _), Int.mul_zero, Int.sub_zero]
    exact Int.mul_ne_zero hb (MD.lc_ne hT h0)
  · rw [cf_mulL, cv_lin, cf_linM]
    cases k with
    | zero => rw [if_pos rfl, if_pos rfl, Int.mul_zero, Int.zero_add, Int.zero_sub, Int.mul_neg, Int.mul_comm]
    | succ k => rw [if_neg (by omega), if_neg (by omega), Int.mul_neg, Int.mul_comm b, Int.mul_comm a]; rfl
/-- the product of the factors b * t - a * u -/
def prodF (ab : List (Int × Int)) (t u : Int) : Int := ab.foldl (fun s q => s * (q.2 * t - q.1 * u)) 1
theorem prodF_take {ab : List (Int × Int)} {t u : Int} {i : Nat} {q : Int × Int} (h : ab[i]? = some q) : prodF (ab.take (i + 1)) t u = prodF (ab.take i) t u * (q.2 * t - q.1 * u) := by
  unfold prodF
  rw [List.take_add_one, h]
  simp [List.foldl_append]
theorem prodF_zero {ab : List (Int × Int)} {t u : Int} {q : Int × Int} (h : q ∈ ab) (hz : q.2 * t - q.1 * u = 0) : prodF ab t u = 0 := by
  have gen : ∀ (ab : List (Int × Int)) (s : Int), (s = 0 ∨ q ∈ ab) → ab.foldl (fun s q => s * (q.2 * t - q.1 * u)) s = 0 := by
    intro ab
    induction ab with
    | nil => intro s hs; exact hs.elim id (fun h => by cases h)
    | cons x r ih =>
      intro s hs
      rw [List.foldl_cons]
      apply ih
      rcases hs with hs | hs
      · left; rw [hs, Int.zero_mul]
      · rcases List.mem_cons.mp hs with e | e
        · left; rw [← e, hz, Int.mul_zero]
        · exact .inr e
  exact gen ab 1 (.inr h)
end MH

set_option linter.all false
/-! Polynomials that differ by a factor. -/
namespace MQ
open ML MD MP MR MG
theorem plain_mul (A : List Int) : ∃ a : Int, (A ≠ [] → Trim A → a ≠ 0) ∧ ∀ k, cf A k = a * cf (plainL A) k := by
  by_cases h : shrunkL A ≠ [] ∧ cf (shrunkL A) ((shrunkL A).length - 1) < 0
  · refine ⟨-gcdL A, fun h0 ht => ?_, fun k => ?_⟩
    · have := gcdL_trim_pos ht h0; omega
    · unfold plainL
      rw [if_pos h, cf_negL, Int.neg_mul_neg, mul_shrunkL]
  · refine ⟨gcdL A, fun h0 ht => ?_, fun k => ?_⟩
    · have := gcdL_trim_pos ht h0; omega
    · unfold plainL
      rw [if_neg h, mul_shrunkL]
theorem len_le_of {A B : List Int} (tA : Trim A) (h : ∀ k, cf B k = 0 → cf A k = 0) : A.length ≤ B.length := by
  rcases tA with e | e
  · rw [e]; simp
  · apply Classical.byContradiction
    intro hl
    exact e (h _ (cf_beyond (by omega)))
theorem gcd_one_of {p : List Int} {A : List Int} (h0 : A ≠ []) (tA : Trim A) : gcdN (plainL A) = 1 := by
  refine gcdN_plainL fun e => ?_
  have := gcdL_trim_pos tA h0
  unfold gcdL at this
  omega
/-- what divides all of y * p, p of the shared divisor 1, divides y -/
theorem dvd_all {p : List Int} (h : gcdN p = 1) {y z : Int} (hd : ∀ k, y ∣ z * cf p k) : y ∣ z := by
  have h1 := gcdN_mul z p
  rw [h, Nat.mul_one] at h1
  have h2 : y.natAbs ∣ gcdN (p.map (z * ·)) := dvd_gcdN fun x hx => by
    rw [Int.natAbs_dvd]
    obtain ⟨w, hw, rfl⟩ := List.mem_map.mp hx
    obtain ⟨k, hk, e⟩ := List.getElem_of_mem hw
    have := hd k
    rw [cf_get hk, e] at this
    exact this
  rw [h1] at h2
  exact Int.natAbs_dvd_natAbs.mp h2
theorem plain_prop {A B : List Int} {x y : Int} (tA : Trim A) (tB : Trim B) (hx : x ≠ 0) (hy : y ≠ 0) (h : ∀ k, x * cf A k = y * cf B k) : plainL A = plainL B := by
  have ab : ∀ k, cf A k = 0 → cf B k = 0 := fun k e => by
    have := h k
    rw [e, Int.mul_zero] at this
    exact (Int.mul_eq_zero.mp this.symm).resolve_left hy
  have ba : ∀ k, cf B k = 0 → cf A k = 0 := fun k e => by
    have := h k
    rw [e, Int.mul_zero] at this
    exact (Int.mul_eq_zero.mp this).resolve_left hx
  have hl : A.length = B.length := Nat.le_antisymm (len_le_of tA ba) (len_le_of tB ab)
  by_cases h0 : A = []
  · subst h0
    have : B = [] := List.eq_nil_of_length_eq_zero hl.symm
    rw [this]
  obtain ⟨a, ha, hA⟩ := plain_mul A
  have ha := ha h0 tA
  have h1 := gcd_one_of (p := []) h0 tA
  have hlast := plainL_last tA h0
  have hlen := plainL_len A
  generalize plainL A = p at *
  have hd : y ∣ x * a := dvd_all h1 fun k => ⟨cf B k, by rw [Int.mul_assoc, ← hA, h]⟩
  obtain ⟨b, hb⟩ := hd
  have hb0 : b ≠ 0 := fun e => by
    rw [e, Int.mul_zero] at hb
    exact (Int.mul_ne_zero hx ha) hb
  refine (plainL_of (c := b) hb0 (by omega) (fun k => ?_) h1 fun _ => hlast).symm
  have := h k
  rw [hA, ← Int.mul_assoc, hb, Int.mul_assoc] at this
  exact (Int.eq_of_mul_eq_mul_left hy this).symm
end MQ

set_option linter.all false
/-! The bound of the roots. -/
namespace MB
open ML MR MH
/-- at K / M, K far from 0, a polynomial is not small -/
theorem cauchy {K M B l : Int} (hM : 0 < M) (hB : 1 ≤ B) (hK : B * M ≤ (K.natAbs : Int)) : ∀ (r : List Int), (∀ c ∈ r, (c.natAbs : Int) ≤ (B - 1) * (l.natAbs : Int)) → ((l.natAbs : Int) * M ^ r.length ≤ (((hs K M (r ++ [l])).1).natAbs : Int)) ∧ (hs K M (r ++ [l])).2 = M ^ (r.length + 1)
  | [], _ => by
    show (l.natAbs : Int) * M ^ 0 ≤ ((0 * K + l * 1).natAbs : Int) ∧ 1 * M = M ^ (0 + 1)
    constructor
    · have : 0 * K + l * 1 = l := by omega
      rw [this, Int.pow_zero]; omega
    · rw [Int.pow_succ, Int.pow_zero]
  | x :: r, h => by
    obtain ⟨h1, h2⟩ := cauchy hM hB hK r fun c hc => h c (List.mem_cons_of_mem _ hc)
    have hx := h x (List.mem_cons_self ..)
    rw [List.cons_append, hs_cons, h2, List.length_cons]
    generalize (hs K M (r ++ [l])).1 = v at h1
    refine ⟨?_, (Int.pow_succ M (r.length + 1)).symm⟩
    show (l.natAbs : Int) * M ^ (r.length + 1) ≤ ((v * K + x * M ^ (r.length + 1)).natAbs : Int)
    have hP : (0 : Int) < M ^ r.length := Int.pow_pos hM
    have e : M ^ (r.length + 1) = M ^ r.length * M := Int.pow_succ _ _
    rw [e]
    generalize M ^ r.length = p at *
    have hL : (0 : Int) ≤ (l.natAbs : Int) := by omega
    -- |v K| is at least l p B M
    have a1 : (l.natAbs : Int) * p * (B * M) ≤ (v.natAbs : Int) * (K.natAbs : Int) := Int.mul_le_mul h1 hK (Int.mul_nonneg (by omega) (by omega)) (by omega)
    have a2 : ((v * K).natAbs : Int) = (v.natAbs : Int) * (K.natAbs : Int) := by rw [Int.natAbs_mul]; omega
    have pM : 0 < p * M := Int.mul_pos hP hM
    have a3 : ((x * (p * M)).natAbs : Int) ≤ (B - 1) * (l.natAbs : Int) * (p * M) := by
      have : ((x * (p * M)).natAbs : Int) = (x.natAbs : Int) * (p * M) := by
        rw [Int.natAbs_mul]
        have : ((p * M).natAbs : Int) = p * M := by omega
        rw [Int.natCast_mul, this]
      rw [this]
      exact Int.mul_le_mul_of_nonneg_right hx (by omega)
    have a4 : (l.natAbs : Int) * p * (B * M) = (B - 1) * (l.natAbs : Int) * (p * M) + (l.natAbs : Int) * (p * M) := by grind
    omega
/-- the value of a product -/
theorem cv_cons_right (S : List Int) (x : Int) (r : List Int) (k : Nat) : cv S (x :: r) k = cf S k * x + (if k = 0 then 0 else cv S r (k - 1)) := by
  cases k with
  | zero =>
    show sm 1 _ = _
    simp [sm, cf_zero]
  | succ k =>
    rw [if_neg (by omega), Nat.add_sub_cancel]
    show sm (k + 1 + 1) (fun i => cf S i * cf (x :: r) (k + 1 - i)) = _
    rw [sm_succ, Nat.sub_self, cf_zero]
    have e : sm (k + 1) (fun i => cf S i * cf (x :: r) (k + 1 - i)) = cv S r k := sm_congr fun i hi => by
      rw [show k + 1 - i = (k - i) + 1 by omega, cf_succ]
    rw [e]; omega
theorem pair {S : List Int} {c : Int} : ∀ (R : List Int) (g h : Nat → Int) (N : Nat), S.length + R.length ≤ N → (∀ i, i < R.length → sm S.length (fun j => cf S j * g (i + j)) = c * h i) → sm N (fun k => cv S R k * g k) = c * sm R.length (fun i => cf R i * h i)
  | [], g, h, N, _, _ => by
    show _ = c * 0
    rw [Int.mul_zero]
    exact sm_zero fun i _ => by
      have : cv S [] i = 0 := sm_zero fun j _ => by rw [cf_nil, Int.mul_zero]
      rw [this, Int.zero_mul]
  | x :: r, g, h, N, hN, hr => by
    obtain ⟨N', rfl⟩ : ∃ N', N = N' + 1 := ⟨N - 1, by rw [List.length_cons] at hN; omega⟩
    rw [List.length_cons] at hN hr
    have ih := pair (S := S) (c := c) r (fun k => g (k + 1)) (fun i => h (i + 1)) N' (by omega) fun i hi => by
      have := hr (i + 1) (by omega)
      rw [← this]
      exact sm_congr fun j _ => by
        show cf S j * g (i + j + 1) = cf S j * g (i + 1 + j)
        rw [show i + j + 1 = i + 1 + j by omega]
    have e1 : sm (N' + 1) (fun k => cv S (x :: r) k * g k) = sm (N' + 1) (fun k => cf S k * g k * x) + sm (N' + 1) (fun k => (if k = 0 then 0 else cv S r (k - 1)) * g k) := by
      rw [← sm_add]
      exact sm_congr fun k _ => by rw [cv_cons_right]; grind
    have e2 : sm (N' + 1) (fun k => (if k = 0 then 0 else cv S r (k - 1)) * g k) = sm N' (fun k => cv S r k * g (k + 1)) := by
      rw [sm_shift]
      have : sm N' (fun i => (if i + 1 = 0 then 0 else cv S r (i + 1 - 1)) * g (i + 1)) = sm N' (fun k => cv S r k * g (k + 1)) := sm_congr fun i _ => by rw [if_neg (by omega), Nat.add_sub_cancel]
      rw [this]
      simp
    have e3 : sm (N' + 1) (fun k => cf S k * g k) = c * h 0 := by
      rw [← hr 0 (by omega), sm_ext (n := S.length) (by omega) fun i h1 _ => by rw [cf_beyond h1, Int.zero_mul]]
      exact sm_congr fun j _ => by rw [Nat.zero_add]
    rw [e1, sm_mul_r, e2, e3, ih, List.length_cons, sm_shift]
    have e4 : sm r.length (fun i => cf (x :: r) (i + 1) * h (i + 1)) = sm r.length (fun i => cf r i * h (i + 1)) := sm_congr fun i _ => by rw [cf_succ]
    rw [e4, cf_zero]
    grind
/-- Horner's value as a sum -/
theorem hs_sm (K M : Int) : ∀ P : List Int, (hs K M P).1 = sm P.length (fun k => cf P k * (K ^ k * M ^ (P.length - 1 - k))) ∧ (hs K M P).2 = M ^ P.length
  | [] => ⟨rfl, by simp [hs]⟩
  | x :: r => by
    obtain ⟨h1, h2⟩ := hs_sm K M r
    rw [hs_cons, h1, h2, List.length_cons]
    refine ⟨?_, by rw [Int.pow_succ]⟩
    show sm r.length _ * K + x * M ^ r.length = _
    rw [sm_shift, cf_zero, Int.pow_zero, Int.one_mul, Nat.add_sub_cancel, Nat.sub_zero, Int.add_comm, ← sm_mul_r]
    congr 1
    exact sm_congr fun i hi => by
      rw [cf_succ, Int.pow_succ, show r.length - (i + 1) = r.length - 1 - i by omega]
      grind
theorem top_sm (P : List Int) (K M : Int) : topL P K M = sm P.length (fun k => cf P k * (K ^ k * M ^ (P.length - 1 - k))) := (hs_sm K M P).1
/-- the value of a product is the product of the values -/
theorem top_prod {P S R : List Int} (hS : S ≠ []) (hR : R ≠ []) (hl : P.length = S.length + R.length - 1) (h : ∀ k, cf P k = cv S R k) (K M : Int) : topL P K M = topL S K M * topL R K M := by
  have lS := List.length_pos_iff.mpr hS
  have lR := List.length_pos_iff.mpr hR
  rw [top_sm P, top_sm R]
  have e1 : sm P.length (fun k => cf P k * (K ^ k * M ^ (P.length - 1 - k))) = sm (S.length + R.length) (fun k => cv S R k * (K ^ k * M ^ (P.length - 1 - k))) := by
    rw [sm_ext (n := P.length) (m := S.length + R.length) (by omega) fun i h1 _ => by rw [← h, cf_beyond h1, Int.zero_mul]]
    exact sm_congr fun i _ => by rw [h]
  rw [e1]
  refine pair R _ (fun i => K ^ i * M ^ (R.length - 1 - i)) _ (Nat.le_refl _) fun i hi => ?_
  rw [top_sm S, ← sm_mul_r]
  exact sm_congr fun j hj => by
    rw [Int.pow_add, show P.length - 1 - (i + j) = (S.length - 1 - j) + (R.length - 1 - i) by omega, Int.pow_add]
    grind
/-- how great a value can be -/
theorem top_le {K M A : Int} (hM : 0 < M) (hA : 0 ≤ A) (hK : (K.natAbs : Int) ≤ A * M) : ∀ R : List Int, ((topL R K M).natAbs : Int) * M ≤ topL (R.map fun c => (c.natAbs : Int)) A 1 * M ^ R.length
  | [] => by
    show ((0 : Int).natAbs : Int) * M ≤ 0 * M ^ 0
    simp
  | x :: r => by
    have ih := top_le hM hA hK r
    have h2 := (hs_sm K M r).2
    have h3 := (hs_sm A 1 (r.map fun c => (c.natAbs : Int))).2
    unfold topL at ih ⊢
    rw [List.map_cons, hs_cons, hs_cons, h2, h3, Int.one_pow, List.length_cons, Int.pow_succ]
    show ((((hs K M r).1 * K + x * M ^ r.length).natAbs : Nat) : Int) * M ≤ ((hs A 1 (r.map fun c => (c.natAbs : Int))).1 * A + (x.natAbs : Int) * 1) * (M ^ r.length * M)
    have hp : (0 : Int) < M ^ r.length := Int.pow_pos hM
    generalize (hs K M r).1 = v at *
    generalize (hs A 1 (r.map fun c => (c.natAbs : Int))).1 = y at *
    generalize M ^ r.length = p at *
    have a1 : ((v * K + x * p).natAbs : Int) ≤ (v.natAbs : Int) * (K.natAbs : Int) + (x.natAbs : Int) * p := by
      have b1 : ((v * K).natAbs : Int) = (v.natAbs : Int) * (K.natAbs : Int) := by rw [Int.natAbs_mul]; omega
      have b2 : ((x * p).natAbs : Int) = (x.natAbs : Int) * p := by
        rw [Int.natAbs_mul, Int.natCast_mul]
        have : ((p.natAbs : Nat) : Int) = p := by omega
        rw [this]
      omega
    have a2 : (v.natAbs : Int) * (K.natAbs : Int) ≤ (v.natAbs : Int) * (A * M) := Int.mul_le_mul_of_nonneg_left hK (by omega)
    have a3 : (v.natAbs : Int) * (A * M) ≤ A * (y * p) := by
      have := Int.mul_le_mul_of_nonneg_left ih hA
      have e : (v.natAbs : Int) * (A * M) = A * ((v.natAbs : Int) * M) := by grind
      rw [e]; exact this
    have a4 : ((v * K + x * p).natAbs : Int) ≤ (y * A + (x.natAbs : Int) * 1) * p := by
      have e : (y * A + (x.natAbs : Int) * 1) * p = A * (y * p) + (x.natAbs : Int) * p := by grind
      rw [e]; omega
    have := Int.mul_le_mul_of_nonneg_right a4 (show (0 : Int) ≤ M by omega)
    have e : (y * A + (x.natAbs : Int) * 1) * p * M = (y * A + (x.natAbs : Int) * 1) * (p * M) := by grind
    omega
theorem least_ (p : Nat → Prop) (h : ∃ n, p n) : ∃ n, p n ∧ ∀ m, m < n → ¬ p m := by
  obtain ⟨n, hn⟩ := h
  induction n using Nat.strongRecOn with
  | _ n ih =>
    by_cases hm : ∃ m, m < n ∧ p m
    · obtain ⟨m, h1, h2⟩ := hm
      exact ih m h1 h2
    · exact ⟨n, hn, fun m h1 h2 => hm ⟨m, h1, h2⟩⟩
end MB
namespace MB
open ML MR MH MP
/-- the polynomial of a factor -/
def shp (u e b : Int) : List Int := if e = 0 then plainL [0 - u, b] else plainL [u * u - e, -2 * b * u, b * b]
theorem top_scale {A S : List Int} {a : Int} (hl : A.length = S.length) (h : ∀ k, cf A k = a * cf S k) (K M : Int) : topL A K M = a * topL S K M := by
  rw [top_sm A, top_sm S, ← sm_mul, hl]
  exact sm_congr fun k _ => by rw [h]; grind
theorem shp_lin {u b : Int} (hb : b ≠ 0) : ∃ a : Int, a ≠ 0 ∧ (shp u 0 b).length = 2 ∧ ∀ K M, a * topL (shp u 0 b) K M = b * K - u * M := by
  unfold shp
  rw [if_pos rfl]
  obtain ⟨a, h1, h2⟩ := MQ.plain_mul [0 - u, b]
  refine ⟨a, h1 (by simp) (.inr hb), plainL_len _, fun K M => ?_⟩
  rw [← top_scale (plainL_len _).symm h2]
  show (0 * K + b * 1) * K + (0 - u) * (1 * M) = _
  grind
theorem shp_sq {u e b : Int} (he : e ≠ 0) (hb : b ≠ 0) : ∃ a : Int, a ≠ 0 ∧ (shp u e b).length = 3 ∧ ∀ K M, a * topL (shp u e b) K M = (b * K - u * M) * (b * K - u * M) - e * (M * M) := by
  unfold shp
  rw [if_neg he]
  obtain ⟨a, h1, h2⟩ := MQ.plain_mul [u * u - e, -2 * b * u, b * b]
  refine ⟨a, h1 (by simp) (.inr (Int.mul_ne_zero hb hb)), plainL_len _, fun K M => ?_⟩
  rw [← top_scale (plainL_len _).symm h2]
  show ((0 * K + b * b * 1) * K + -2 * b * u * (1 * M)) * K + (u * u - e) * (1 * M * M) = _
  grind
theorem sq_le {x y : Int} (hx : 0 ≤ x) (h : x ≤ y) : x * x ≤ y * y := Int.mul_le_mul h h hx (by omega)
theorem sq_lt {x y : Int} (hx : 0 ≤ x) (h : x < y) : x * x < y * y := by
  have h1 : x * x ≤ x * y := Int.mul_le_mul_of_nonneg_left (by omega) hx
  have h2 : x * y < y * y := Int.mul_lt_mul_of_pos_right h (by omega)
  omega
/-- what the bound is above -/
theorem below {r R : List Int} {l u e b B : Int} (hl : l ≠ 0) (hB : 1 ≤ B) (hb : 1 ≤ b) (he : 0 ≤ e) (hbd : ∀ c ∈ r, (c.natAbs : Int) ≤ (B - 1) * (l.natAbs : Int))
    (hR : R ≠ []) (hlen : (r ++ [l]).length = (shp u e b).length + R.length - 1) (hcf : ∀ k, cf (r ++ [l]) k = cv (shp u e b) R k) : (u.natAbs : Int) < b * B ∧ e < (b * B - (u.natAbs : Int)) * (b * B - (u.natAbs : Int)) := by
  have lR := List.length_pos_iff.mpr hR
  by_cases e0 : e = 0
  · subst e0
    obtain ⟨a, a0, hs, ht⟩ := shp_lin (u := u) (b := b) (by omega)
    have hS : shp u 0 b ≠ [] := fun z => by rw [z] at hs; simp at hs
    have key : (u.natAbs : Int) < b * B := by
      apply Classical.byContradiction
      intro hn
      have hK : B * b ≤ (u.natAbs : Int) := by rw [Int.mul_comm]; omega
      have c := (cauchy (l := l) (K := u) (M := b) (by omega) hB hK r hbd).1
      have z : topL (shp u 0 b) u b = 0 := by
        have := ht u b
        rw [Int.mul_comm b u, Int.sub_self] at this
        exact (Int.mul_eq_zero.mp this).resolve_left a0
      have p := top_prod hS hR hlen hcf u b
      rw [z, Int.zero_mul] at p
      unfold topL at p
      rw [p] at c
      have : 0 < (l.natAbs : Int) * b ^ r.length := Int.mul_pos (by omega) (Int.pow_pos (by omega))
      have : ((0 : Int).natAbs : Int) = 0 := rfl
      omega
    refine ⟨key, ?_⟩
    have := Int.mul_pos (show 0 < b * B - (u.natAbs : Int) by omega) (show 0 < b * B - (u.natAbs : Int) by omega)
    omega
  · obtain ⟨a, a0, hs, ht⟩ := shp_sq (u := u) (e := e) (b := b) e0 (by omega)
    have hS : shp u e b ≠ [] := fun z => by rw [z] at hs; simp at hs
    apply Classical.byContradiction
    intro hn
    generalize hv : (u.natAbs : Int) = v at hn
    have v0 : 0 ≤ v := by omega
    -- the sizes
    have hA : 0 ≤ v + e + 1 := by omega
    generalize hC : topL (R.map fun c => (c.natAbs : Int)) (v + e + 1) 1 = C
    generalize hC1 : b * b * (2 * (v + e + 1) + 1) = C1
    have bb : 0 < b * b := Int.mul_pos (by omega) (by omega)
    have C1p : 0 < C1 := by rw [← hC1]; exact Int.mul_pos bb (by omega)
    have Cn : 0 ≤ C := by
      have := top_le (K := 0) (M := 1) (A := v + e + 1) (by decide) hA (by omega) R
      rw [hC, Int.one_pow] at this
      omega
    have CC : 0 ≤ C1 * C := Int.mul_nonneg (by omega) Cn
    obtain ⟨M, hM⟩ : ∃ M : Int, M = C1 * C + 1 := ⟨_, rfl⟩
    have M0 : 0 < M := by omega
    have MM : 0 < M * M := Int.mul_pos M0 M0
    obtain ⟨k, ⟨hk1, hk2⟩, hmin⟩ := least_ (fun k => 0 ≤ b * (k : Int) - v * M ∧ e * (M * M) ≤ (b * (k : Int) - v * M) * (b * (k : Int) - v * M)) ⟨((v + e + 1) * M).toNat, by
      have h0 : 0 ≤ (v + e + 1) * M := Int.mul_nonneg hA (by omega)
      rw [Int.toNat_of_nonneg h0]
      have h1 : (v + e + 1) * M ≤ b * ((v + e + 1) * M) := by
        have := Int.mul_le_mul_of_nonneg_right hb h0
        omega
      have h2 : (e + 1) * M ≤ b * ((v + e + 1) * M) - v * M := by
        have : (v + e + 1) * M = v * M + (e + 1) * M := by grind
        omega
      have h3 : 0 ≤ (e + 1) * M := Int.mul_nonneg (by omega) (by omega)
      refine ⟨by omega, ?_⟩
      have h4 := sq_le h3 h2
      have h5 : (e + 1) * M * ((e + 1) * M) = e * (M * M) + (e * e + e + 1) * (M * M) := by grind
      have h6 : 0 ≤ (e * e + e + 1) * (M * M) := Int.mul_nonneg (by have := Int.mul_nonneg he he; omega) (by omega)
      omega⟩
    have hkA : (k : Int) ≤ (v + e + 1) * M := by
      have h0 : 0 ≤ (v + e + 1) * M := Int.mul_nonneg hA (by omega)
      apply Classical.byContradiction
      intro hh
      refine hmin ((v + e + 1) * M).toNat (by omega) ?_
      rw [Int.toNat_of_nonneg h0]
      have h1 : (v + e + 1) * M ≤ b * ((v + e + 1) * M) := by
        have := Int.mul_le_mul_of_nonneg_right hb h0
        omega
      have h2 : (e + 1) * M ≤ b * ((v + e + 1) * M) - v * M := by
        have : (v + e + 1) * M = v * M + (e + 1) * M := by grind
        omega
      have h3 : 0 ≤ (e + 1) * M := Int.mul_nonneg (by omega) (by omega)
      refine ⟨by omega, ?_⟩
      have h4 := sq_le h3 h2
      have h5 : (e + 1) * M * ((e + 1) * M) = e * (M * M) + (e * e + e + 1) * (M * M) := by grind
      have h6 : 0 ≤ (e * e + e + 1) * (M * M) := Int.mul_nonneg (by have := Int.mul_nonneg he he; omega) (by omega)
      omega
    have eM : 0 < e * (M * M) := Int.mul_pos (by omega) MM
    have hk0 : 0 < k := by
      apply Classical.byContradiction
      intro hh
      have : k = 0 := by omega
      subst this
      have hvM : 0 ≤ v * M := Int.mul_nonneg v0 (by omega)
      have z : b * ((0 : Nat) : Int) - v * M = 0 := by
        have : b * ((0 : Nat) : Int) = 0 := by simp
        omega
      rw [z] at hk2
      omega
    -- far enough
    have hKB : B * M ≤ (k : Int) := by
      apply Classical.byContradiction
      intro hh
      have h1 : b * (k : Int) - v * M < (b * B - v) * M := by
        have h3 : b * (k : Int) < b * (B * M) := Int.mul_lt_mul_of_pos_left (by omega) (by omega)
        have h4 : (b * B - v) * M = b * (B * M) - v * M := by grind
        omega
      by_cases hbv : v < b * B
      · have h5 : (b * B - v) * (b * B - v) ≤ e := by
          apply Classical.byContradiction
          intro h6
          exact hn ⟨hbv, by omega⟩
        have h6 := sq_lt hk1 h1
        have h7 : (b * B - v) * M * ((b * B - v) * M) = (b * B - v) * (b * B - v) * (M * M) := by grind
        have h8 : (b * B - v) * (b * B - v) * (M * M) ≤ e * (M * M) := Int.mul_le_mul_of_nonneg_right h5 (by omega)
        omega
      · have h9 : (b * B - v) * M ≤ 0 := Int.mul_nonpos_of_nonpos_of_nonneg (by omega) (by omega)
        omega
    -- near enough
    have hq : (b * (k : Int) - v * M) * (b * (k : Int) - v * M) - e * (M * M) ≤ C1 * M := by
      have hp := hmin (k - 1) (by omega)
      have ek : ((k - 1 : Nat) : Int) = (k : Int) - 1 := by omega
      have et : b * ((k : Int) - 1) - v * M = (b * (k : Int) - v * M) - b := by rw [Int.mul_sub]; omega
      rw [ek, et] at hp
      have htA : b * (k : Int) - v * M ≤ b * ((v + e + 1) * M) := by
        have h1 : b * (k : Int) ≤ b * ((v + e + 1) * M) := Int.mul_le_mul_of_nonneg_left hkA (by omega)
        have h2 : 0 ≤ v * M := Int.mul_nonneg v0 (by omega)
        omega
      generalize b * (k : Int) - v * M = t at *
      have hC1M : C1 * M = 2 * (b * (b * ((v + e + 1) * M))) + b * b * M := by rw [← hC1]; grind
      have hbbM : b * b ≤ b * b * M := by
        have := Int.mul_le_mul_of_nonneg_left (show 1 ≤ M by omega) (show 0 ≤ b * b by omega)
        omega
      have hnn : 0 ≤ b * (b * ((v + e + 1) * M)) := Int.mul_nonneg (by omega) (Int.mul_nonneg (by omega) (Int.mul_nonneg hA (by omega)))
      by_cases htb : t < b
      · have := sq_lt hk1 htb
        omega
      · have h1 : (t - b) * (t - b) < e * (M * M) := by
          apply Classical.byContradiction
          intro h2
          exact hp ⟨by omega, by omega⟩
        have h2 : (t - b) * (t - b) = t * t - 2 * (b * t) + b * b := by grind
        have h3 : b * t ≤ b * (b * ((v + e + 1) * M)) := Int.mul_le_mul_of_nonneg_left htA (by omega)
        omega
    -- the place
    obtain ⟨K, hK1, hK2⟩ : ∃ K : Int, (K.natAbs : Int) = k ∧ (b * K - u * M) * (b * K - u * M) = (b * (k : Int) - v * M) * (b * (k : Int) - v * M) := by
      by_cases hu : u < 0
      · refine ⟨-(k : Int), by omega, ?_⟩
        have : u = -v := by omega
        rw [this]; grind
      · refine ⟨(k : Int), by omega, ?_⟩
        have : u = v := by omega
        rw [this]
    have c := (cauchy (l := l) (K := K) (M := M) M0 hB (by omega) r hbd).1
    have p := top_prod hS hR hlen hcf K M
    have t1 := ht K M
    rw [hK2] at t1
    have t2 := top_le (K := K) (M := M) M0 hA (by omega) R
    rw [hC] at t2
    unfold topL at p
    rw [p] at c
    have hlr : r.length = R.length + 1 := by
      rw [List.length_append, List.length_singleton, hs] at hlen
      omega
    change (l.natAbs : Int) * M ^ r.length ≤ ((topL (shp u e b) K M * topL R K M).natAbs : Int) at c
    generalize topL (shp u e b) K M = x at *
    generalize topL R K M = y at *
    have hx : (x.natAbs : Int) ≤ C1 * M := by
      have h1 : ((a * x).natAbs : Int) = (a.natAbs : Int) * (x.natAbs : Int) := by rw [Int.natAbs_mul]; omega
      have h2 : (x.natAbs : Int) ≤ (a.natAbs : Int) * (x.natAbs : Int) := by
        have := Int.mul_le_mul_of_nonneg_right (show 1 ≤ (a.natAbs : Int) by omega) (show 0 ≤ (x.natAbs : Int) by omega)
        omega
      omega
    have hxy : ((x * y).natAbs : Int) * M ≤ C1 * M * (C * M ^ R.length) := by
      have h1 : ((x * y).natAbs : Int) * M = (x.natAbs : Int) * ((y.natAbs : Int) * M) := by rw [Int.natAbs_mul, Int.natCast_mul]; grind
      rw [h1]
      exact Int.mul_le_mul hx t2 (Int.mul_nonneg (by omega) (by omega)) (Int.mul_nonneg (by omega) (by omega))
    have c2 := Int.mul_le_mul_of_nonneg_right c (show 0 ≤ M by omega)
    rw [hlr] at c2
    have hp : 0 < M ^ R.length := Int.pow_pos M0
    rw [Int.pow_succ] at c2
    generalize M ^ R.length = q at *
    have f1 : (l.natAbs : Int) * (q * M) * M = (l.natAbs : Int) * M * (q * M) := by grind
    have f2 : C1 * M * (C * q) = (C1 * C) * (q * M) := by grind
    have qM : 0 < q * M := Int.mul_pos hp M0
    have f3 : (l.natAbs : Int) * M * (q * M) ≤ (C1 * C) * (q * M) := by omega
    have f4 := Int.le_of_mul_le_mul_right f3 qM
    have f5 : M ≤ (l.natAbs : Int) * M := by
      have := Int.mul_le_mul_of_nonneg_right (show 1 ≤ (l.natAbs : Int) by omega) (show 0 ≤ M by omega)
      omega
    omega
end MB

set_option linter.all false
/-! Through given values: a polynomial of a degree below the number of places is known by its values. -/
namespace MI
open ML MR MP MQ MH
/-- the value at a whole number -/
def ev (P : List Int) (x : Int) : Int := sm P.length fun k => cf P k * x ^ k
theorem ev_ext {P : List Int} {n : Nat} (h : P.length ≤ n) (x : Int) : sm n (fun k => cf P k * x ^ k) = ev P x := sm_ext h fun i h1 _ => by rw [cf_beyond h1, Int.zero_mul]
theorem ev_congr {P Q : List Int} (h : ∀ k, cf P k = cf Q k) (x : Int) : ev P x = ev Q x := by
  rw [← ev_ext (Nat.le_max_left P.length Q.length), ← ev_ext (Nat.le_max_right P.length Q.length)]
  exact sm_congr fun i _ => by rw [h]
theorem ev_trim (P : List Int) (x : Int) : ev (trimL P) x = ev P x := ev_congr (cf_trimL P) x
theorem ev_top (P : List Int) (x : Int) : MH.topL P x 1 = ev P x := by
  rw [MB.top_sm]
  exact sm_congr fun i _ => by rw [Int.one_pow, Int.mul_one]
theorem ev_nil (x : Int) : ev [] x = 0 := rfl
theorem ev_cons (c : Int) (P : List Int) (x : Int) : ev (c :: P) x = c + x * ev P x := by
  unfold ev
  rw [List.length_cons, sm_shift, cf_zero, Int.pow_zero, Int.mul_one, ← sm_mul]
  congr 1
  exact sm_congr fun i _ => by rw [cf_succ, Int.pow_succ]; grind
theorem ev_add (P Q : List Int) (x : Int) : ev (addL P Q) x = ev P x + ev Q x := by
  have l := addL_len P Q
  rw [← ev_ext (n := max P.length Q.length) l, ← ev_ext (n := max P.length Q.length) (P := P) (by omega), ← ev_ext (n := max P.length Q.length) (P := Q) (by omega), ← sm_add]
  exact sm_congr fun i _ => by rw [cf_addL, Int.add_mul]
theorem ev_scl (c : Int) (P : List Int) (x : Int) : ev (sclL c P) x = c * ev P x := by
  unfold ev
  rw [sclL_len, ← sm_mul]
  exact sm_congr fun i _ => by rw [cf_sclL, Int.mul_assoc]
theorem mulU_ne' {P Q : List Int} (hP : P ≠ []) (hQ : Q ≠ []) : (mulU P Q).length = P.length + Q.length - 1 := by
  unfold mulU; rw [if_neg fun z => z.elim hP hQ, List.length_map, List.length_range]
theorem ev_mulU (P Q : List Int) (x : Int) : ev (mulU P Q) x = ev P x * ev Q x := by
  by_cases hP : P = []
  · subst hP; unfold mulU; rw [if_pos (.inl rfl), ev_nil, Int.zero_mul]
  by_cases hQ : Q = []
  · subst hQ; unfold mulU; rw [if_pos (.inr rfl), ev_nil, Int.mul_zero]
  rw [← ev_top, ← ev_top, ← ev_top]
  exact MB.top_prod hP hQ (mulU_ne' hP hQ) (cf_mulU P Q) x 1
theorem ev_mulL (P Q : List Int) (x : Int) : ev (mulL P Q) x = ev P x * ev Q x := by
  rw [← ev_mulU]
  exact ev_congr (fun k => by rw [cf_mulL, cf_mulU]) x
/-- divided by x - r -/
def syn (r : Int) : List Int → List Int
  | [] => []
  | _ :: P => (List.range P.length).map fun k => cf P k + r * cf (syn r P) k
theorem syn_len (r : Int) : ∀ P : List Int, (syn r P).length = P.length - 1
  | [] => rfl
  | c :: P => by show ((List.range P.length).map _).length = _; rw [List.length_map, List.length_range]; rfl
theorem cf_syn_cons (r c : Int) (P : List Int) (k : Nat) : cf (syn r (c :: P)) k = cf P k + r * cf (syn r P) k := by
  show cf ((List.range P.length).map fun k => cf P k + r * cf (syn r P) k) k = _
  by_cases h : k < P.length
  · rw [cf_range h]
  · rw [cf_range_beyond (by omega), cf_beyond (show P.length ≤ k by omega), cf_beyond (show (syn r P).length ≤ k by rw [syn_len]; omega)]
    omega
theorem syn_up (r : Int) : ∀ (P : List Int) (k : Nat), cf P (k + 1) = cf (syn r P) k - r * cf (syn r P) (k + 1)
  | [], k => by
    have e : syn r [] = [] := rfl
    rw [e, cf_nil, cf_nil]; omega
  | c :: P, k => by
    have ih := syn_up r P k
    rw [cf_succ, cf_syn_cons, cf_syn_cons]
    rw [ih]
    grind
theorem syn_low (r : Int) : ∀ (P : List Int), cf P 0 = ev P r - r * cf (syn r P) 0
  | [] => by
    have e : syn r [] = [] := rfl
    rw [e, ev_nil, cf_nil]; omega
  | c :: P => by
    have ih := syn_low r P
    rw [cf_syn_cons, cf_zero, ev_cons, ih]
    grind
theorem ev_syn (r x : Int) : ∀ P : List Int, ev P x - ev P r = (x - r) * ev (syn r P) x
  | [] => by
    have e : syn r [] = [] := rfl
    rw [e, ev_nil, ev_nil]; omega
  | c :: P => by
    have ih := ev_syn r x P
    have e : ev (syn r (c :: P)) x = ev P x + r * ev (syn r P) x := by
      rw [← ev_ext (n := P.length) (P := syn r (c :: P)) (by rw [syn_len]; exact Nat.le_refl _), ← ev_ext (n := P.length) (P := syn r P) (by rw [syn_len]; omega), ← ev_ext (n := P.length) (P := P) (Nat.le_refl _), ← sm_mul, ← sm_add]
      exact sm_congr fun i _ => by rw [cf_syn_cons]; grind
    rw [e, ev_cons, ev_cons]
    grind
/-- more roots than places -/
theorem no_roots : ∀ (L : List Int) (D : List Int), L.Nodup → D.length ≤ L.length → (∀ r ∈ L, ev D r = 0) → ∀ k, cf D k = 0
  | [], D, _, hl, _, k => by
    have : D = [] := List.eq_nil_of_length_eq_zero (Nat.le_zero.mp hl)
    rw [this, cf_nil]
  | r :: L, D, hn, hl, h, k => by
    obtain ⟨n1, n2⟩ := List.nodup_cons.mp hn
    have h0 := h r (List.mem_cons_self ..)
    have ih := no_roots L (syn r D) n2 (by rw [syn_len]; simp at hl; omega) fun s hs => by
      have h1 := h s (List.mem_cons_of_mem _ hs)
      have h2 := ev_syn r s D
      rw [h1, h0] at h2
      have h3 : s - r ≠ 0 := fun z => n1 (by rw [show r = s by omega]; exact hs)
      exact (Int.mul_eq_zero.mp (h2.symm.trans (by omega))).resolve_left h3
    cases k with
    | zero => rw [syn_low r D, h0, ih]; omega
    | succ k => rw [syn_up r D k, ih, ih]; omega
theorem range_nodup (n : Nat) : ((List.range n).map fun k : Nat => (k : Int)).Nodup := by
  refine List.Pairwise.map (R := fun a b => a ≠ b) _ (fun a b h e => h (by omega)) ?_
  exact List.nodup_range
theorem same_values {A B : List Int} {n : Nat} (hA : A.length ≤ n) (hB : B.length ≤ n) (h : ∀ x, x < n → ev A (x : Int) = ev B (x : Int)) : ∀ k, cf A k = cf B k := by
  have hD : ∀ k, cf ((List.range n).map fun k => cf A k - cf B k) k = cf A k - cf B k := fun k => by
    by_cases hk : k < n
    · rw [cf_range hk]
    · rw [cf_range_beyond (by omega), cf_beyond (by omega), cf_beyond (by omega)]; rfl
  intro k
  have := no_roots ((List.range n).map fun k : Nat => (k : Int)) ((List.range n).map fun k => cf A k - cf B k) (range_nodup n) (by simp) (fun r hr => by
    obtain ⟨x, hx, rfl⟩ := List.mem_map.mp hr
    have hx := List.mem_range.mp hx
    rw [← ev_ext (n := n) (by simp)]
    have h1 := h x hx
    rw [← ev_ext (n := n) hA, ← ev_ext (n := n) hB] at h1
    rw [show sm n (fun k => cf ((List.range n).map fun k => cf A k - cf B k) k * (x : Int) ^ k) = sm n (fun k => cf A k * (x : Int) ^ k - cf B k * (x : Int) ^ k) from sm_congr fun i _ => by rw [hD, Int.sub_mul], sm_sub, h1]
    omega) k
  rw [hD] at this
  omega
/-! ## Newton's row -/
/-- the factors k + 1, k + 2 .. k + j -/
def upF (k : Nat) : Nat → Int
  | 0 => 1
  | j + 1 => upF k j * ((k : Int) + (j : Int) + 1)
theorem upF_low (k : Nat) : ∀ j, upF k (j + 1) = ((k : Int) + 1) * upF (k + 1) j
  | 0 => by unfold upF; unfold upF; simp
  | j + 1 => by
    have ih := upF_low k j
    show upF k (j + 1) * ((k : Int) + ((j + 1 : Nat) : Int) + 1) = ((k : Int) + 1) * (upF (k + 1) j * (((k + 1 : Nat) : Int) + (j : Int) + 1))
    rw [ih, show ((k + 1 : Nat) : Int) + (j : Int) + 1 = (k : Int) + ((j + 1 : Nat) : Int) + 1 by omega, Int.mul_assoc]
theorem upF_pos (k : Nat) : ∀ j, 0 < upF k j
  | 0 => Int.one_pos
  | j + 1 => Int.mul_pos (upF_pos k j) (by omega)
/-- x (x - 1) .. (x - k + 1) -/
def fallV (x : Int) : Nat → Int
  | 0 => 1
  | k + 1 => fallV x k * (x - (k : Int))
theorem fallV_up (x : Int) : ∀ k, fallV (x + 1) (k + 1) = (x + 1) * fallV x k
  | 0 => by unfold fallV; unfold fallV; simp
  | k + 1 => by
    have ih := fallV_up x k
    show fallV (x + 1) (k + 1) * (x + 1 - ((k + 1 : Nat) : Int)) = (x + 1) * (fallV x k * (x - (k : Int)))
    rw [ih, show x + 1 - ((k + 1 : Nat) : Int) = x - (k : Int) by omega, Int.mul_assoc]
theorem fallV_step (x : Int) (k : Nat) : fallV (x + 1) (k + 1) = fallV x (k + 1) + ((k : Int) + 1) * fallV x k := by
  rw [fallV_up]
  show _ = fallV x k * (x - (k : Int)) + _
  grind
theorem fallV_zero (k : Nat) : fallV 0 (k + 1) = 0 := by
  induction k with
  | zero => rfl
  | succ k ih =>
    show fallV 0 (k + 1) * _ = 0
    rw [ih, Int.zero_mul]
def difF (v : Nat → Int) : Nat → Nat → Int
  | 0 => v
  | k + 1 => fun j => difF v k (j + 1) - difF v k j
theorem difF_succ (v : Nat → Int) : ∀ k j, difF v (k + 1) j = difF (fun i => v (i + 1) - v i) k j
  | 0, j => rfl
  | k + 1, j => by
    show difF v (k + 1) (j + 1) - difF v (k + 1) j = difF (fun i => v (i + 1) - v i) k (j + 1) - difF (fun i => v (i + 1) - v i) k j
    rw [difF_succ v k (j + 1), difF_succ v k j]
theorem newton (N : Nat) : ∀ (x : Nat) (v : Nat → Int) (M : Nat), x < M → M ≤ N + 1 → sm M (fun k => difF v k 0 * (upF k (N - k) * fallV (x : Int) k)) = upF 0 N * v x
  | 0, v, M, h1, h2 => by
    obtain ⟨m, rfl⟩ : ∃ m, M = m + 1 := ⟨M - 1, by omega⟩
    rw [sm_shift, sm_zero fun i _ => by rw [show ((0 : Nat) : Int) = 0 from rfl, fallV_zero, Int.mul_zero, Int.mul_zero]]
    show v 0 * (upF 0 (N - 0) * 1) + 0 = _
    rw [Nat.sub_zero]
    grind
  | x + 1, v, M, h1, h2 => by
    obtain ⟨m, rfl⟩ : ∃ m, M = m + 1 := ⟨M - 1, by omega⟩
    have i1 := newton N x v (m + 1) (by omega) h2
    have i2 := newton N x (fun i => v (i + 1) - v i) m (by omega) (by omega)
    rw [sm_shift]
    rw [sm_shift] at i1
    have e : sm m (fun k => difF v (k + 1) 0 * (upF (k + 1) (N - (k + 1)) * fallV ((x + 1 : Nat) : Int) (k + 1))) = sm m (fun k => difF v (k + 1) 0 * (upF (k + 1) (N - (k + 1)) * fallV (x : Int) (k + 1))) + sm m (fun k => difF (fun i => v (i + 1) - v i) k 0 * (upF k (N - k) * fallV (x : Int) k)) := by
      rw [← sm_add]
      refine sm_congr fun k hk => ?_
      rw [← difF_succ, show ((x + 1 : Nat) : Int) = (x : Int) + 1 by omega, fallV_step, show N - k = (N - (k + 1)) + 1 by omega, upF_low]
      grind
    rw [e, i2]
    have e0 : fallV ((x + 1 : Nat) : Int) 0 = fallV (x : Int) 0 := rfl
    rw [e0]
    show _ = upF 0 N * v (x + 1)
    have : upF 0 N * v (x + 1) = upF 0 N * v x + upF 0 N * (v (x + 1) - v x) := by grind
    rw [this, ← i1]
    grind
/-! ## what through_values makes -/
def fallL : Nat → List Int
  | 0 => [1]
  | k + 1 => mulL (fallL k) [-(k : Int), 1]
def thrL (N : Nat) (v : Nat → Int) : Nat → List Int
  | 0 => []
  | k + 1 => addL (thrL N v k) (mulL (trimL [difF v k 0 * upF k (N - k)]) (fallL k))
theorem ev_one (c x : Int) : ev [c] x = c := by rw [ev_cons, ev_nil]; omega
theorem ev_lin (c d x : Int) : ev [c, d] x = c + d * x := by rw [ev_cons, ev_one]; grind
theorem ev_fall (x : Int) : ∀ k, ev (fallL k) x = fallV x k
  | 0 => ev_one 1 x
  | k + 1 => by
    show ev (mulL (fallL k) [-(k : Int), 1]) x = fallV x k * (x - (k : Int))
    rw [ev_mulL, ev_fall x k, ev_lin]
    congr 1; omega
theorem ev_thr (N : Nat) (v : Nat → Int) (x : Int) : ∀ M, ev (thrL N v M) x = sm M (fun k => difF v k 0 * (upF k (N - k) * fallV x k))
  | 0 => rfl
  | M + 1 => by
    show ev (addL (thrL N v M) (mulL (trimL [difF v M 0 * upF M (N - M)]) (fallL M))) x = _
    rw [ev_add, ev_thr N v x M, ev_mulL, ev_trim, ev_one, ev_fall, sm_succ]
    grind
theorem thr_value (N : Nat) (v : Nat → Int) {x : Nat} (h : x ≤ N) : ev (thrL N v (N + 1)) (x : Int) = upF 0 N * v x := by
  rw [ev_thr, newton N x v (N + 1) (by omega) (Nat.le_refl _)]
theorem mulL_len {P Q : List Int} (hQ : Q ≠ []) : (mulL P Q).length ≤ P.length + Q.length - 1 := by
  have lQ := List.length_pos_iff.mpr hQ
  apply Classical.byContradiction
  intro h
  have ne : mulL P Q ≠ [] := fun z => by rw [z] at h; simp at h
  have := MP.trim_last (trim_mulL P Q) ne
  rw [cf_mulL, cv_beyond (by omega)] at this
  exact this rfl
theorem fall_len : ∀ k, (fallL k).length ≤ k + 1
  | 0 => Nat.le_refl _
  | k + 1 => by
    have := mulL_len (P := fallL k) (Q := [-(k : Int), 1]) (by simp)
    have h2 := fall_len k
    show (mulL (fallL k) [-(k : Int), 1]).length ≤ _
    simp only [List.length_cons, List.length_nil] at this
    omega
theorem thr_len (N : Nat) (v : Nat → Int) : ∀ M, (thrL N v M).length ≤ M
  | 0 => Nat.le_refl _
  | M + 1 => by
    have h1 := thr_len N v M
    have h2 := addL_len (thrL N v M) (mulL (trimL [difF v M 0 * upF M (N - M)]) (fallL M))
    have h3 : (trimL [difF v M 0 * upF M (N - M)]).length ≤ 1 := trimL_len _
    have h4 := fall_len M
    by_cases hf : fallL M = []
    · have e : mulL (trimL [difF v M 0 * upF M (N - M)]) (fallL M) = [] := by
        rcases trim_mulL (trimL [difF v M 0 * upF M (N - M)]) (fallL M) with h | h
        · exact h
        · rw [hf] at h
          rw [cf_mulL] at h
          exact absurd (sm_zero fun i _ => by rw [cf_nil, Int.mul_zero]) h
      show (addL (thrL N v M) _).length ≤ M + 1
      rw [e] at h2 ⊢
      simp only [List.length_nil] at h2
      omega
    · have h5 := mulL_len (P := trimL [difF v M 0 * upF M (N - M)]) hf
      show (addL (thrL N v M) _).length ≤ M + 1
      omega
theorem trim_thr (N : Nat) (v : Nat → Int) : ∀ M, Trim (thrL N v M)
  | 0 => .inl rfl
  | M + 1 => trim_addL _ _
/-- a polynomial of a low degree that has the values, but for a factor -/
theorem thr_plain {N : Nat} {v : Nat → Int} {U : List Int} {c : Int} (tU : Trim U) (hl : U.length ≤ N + 1) (c0 : c ≠ 0) (h : ∀ x, x ≤ N → v x = c * ev U (x : Int)) : plainL (thrL N v (N + 1)) = plainL U := by
  refine plain_prop (x := 1) (y := upF 0 N * c) (trim_thr _ _ _) tU (by decide) (Int.mul_ne_zero (by have := upF_pos 0 N; omega) c0) fun k => ?_
  rw [Int.one_mul, ← cf_sclL]
  refine same_values (n := N + 1) (thr_len _ _ _) (by rw [sclL_len]; exact hl) (fun x hx => ?_) k
  rw [thr_value N v (by omega), ev_scl, h x (by omega), Int.mul_assoc]
end MI

set_option linter.all false
set_option exponentiation.threshold 100000
/-! Resultants of lists. -/
namespace DT
open ML RB
theorem cf_pm (P Q : List Int) : cf (mulU P Q) = pm (cf P) (cf Q) := by
  funext k
  rw [cf_mulU]; rfl
theorem deg_cf {P : List Int} {m : Nat} (h : P.length ≤ m + 1) : Deg (cf P) m := fun j hj => cf_beyond (by omega)
theorem mulU_len' {P Q : List Int} (hP : P ≠ []) (hQ : Q ≠ []) : (mulU P Q).length = P.length + Q.length - 1 := by
  unfold mulU
  rw [if_neg fun z => z.elim hP hQ, List.length_map, List.length_range]
theorem mulU_ne {P Q : List Int} (hP : P ≠ []) (hQ : Q ≠ []) : mulU P Q ≠ [] := by
  have lP := List.length_pos_iff.mpr hP
  have lQ := List.length_pos_iff.mpr hQ
  have := mulU_len' hP hQ
  intro z
  rw [z] at this
  simp at this
  omega
theorem resL_eq {P Q : List Int} {m n : Nat} (hP : P.length = m + 1) (hQ : Q.length = n + 1) : resL P Q = Res m n (cf P) (cf Q) := by
  unfold resL
  rw [if_neg, hP, hQ]
  · rfl
  · rintro (rfl | rfl)
    · simp at hP
    · simp at hQ
theorem resL_const {c : Int} {Q : List Int} {n : Nat} (hQ : Q.length = n + 1) : resL [c] Q = c ^ n := by
  rw [resL_eq (m := 0) rfl hQ, Res_const (deg_cf (by simp))]; rfl
theorem resL_mul {P Q R : List Int} {m n d : Nat} (hP : P.length = m + 1) (hQ : Q.length = n + 1) (hR : R.length = d + 1) (h0 : cf R d ≠ 0) : resL (mulU P R) Q = resL P Q * resL R Q := by
  have nP : P ≠ [] := fun z => by rw [z] at hP; simp at hP
  have nR : R ≠ [] := fun z => by rw [z] at hR; simp at hR
  rw [resL_eq (m := m + d) (n := n) (by rw [mulU_len' nP nR]; omega) hQ, resL_eq hP hQ, resL_eq hR hQ, cf_pm]
  exact Res_mul (deg_cf (by omega)) (deg_cf (by omega)) (deg_cf (by omega)) h0
theorem resL_swap {P Q : List Int} {m n : Nat} (hP : P.length = m + 1) (hQ : Q.length = n + 1) : resL Q P = (-1) ^ (m * n) * resL P Q := by
  rw [resL_eq hP hQ, resL_eq hQ hP, Res_swap]
theorem resL_common {P Q F : List Int} {m n d : Nat} (hP : P.length = m + 1) (hQ : Q.length = n + 1) (hF : F.length = d + 1) (hd : 0 < d) : resL (mulU P F) (mulU Q F) = 0 := by
  have nP : P ≠ [] := fun z => by rw [z] at hP; simp at hP
  have nQ : Q ≠ [] := fun z => by rw [z] at hQ; simp at hQ
  have nF : F ≠ [] := fun z => by rw [z] at hF; simp at hF
  rw [resL_eq (m := m + d) (n := n + d) (by rw [mulU_len' nP nF]; omega) (by rw [mulU_len' nQ nF]; omega), cf_pm, cf_pm]
  exact Res_common (deg_cf (by omega)) (deg_cf (by omega)) hd
theorem resL_add {P H L S : List Int} {m h d : Nat} (hP : P.length = m + 1) (hH : H.length = h + 1) (hL : L.length = d + 1) (hS : S.length = m + h + 1) (hd : d < m) (e : ∀ j, cf S j = cf L j + cv P H j) : resL P S = cf P m ^ (m + h - d) * resL P L := by
  rw [resL_eq hP hS, resL_eq hP hL]
  have : cf S = fun j => cf L j + pm (cf H) (cf P) j := by
    funext j
    rw [e, pm_comm]; rfl
  rw [this]
  exact Res_add (deg_cf (by omega)) (deg_cf (by omega)) (deg_cf (by omega)) hd
theorem hom_shift (a b : Int) : ∀ (n : Nat) (q : Row), hom a b q (n + 1) = a * hom a b (fun j => q (j + 1)) n + q 0 * b ^ (n + 1)
  | 0, q => by
    show b * q 0 + q 1 * a ^ 1 = a * q 1 + q 0 * b ^ 1
    grind
  | n + 1, q => by
    have ih := hom_shift a b n q
    have e : hom a b q (n + 1 + 1) = b * hom a b q (n + 1) + q (n + 1 + 1) * a ^ (n + 1 + 1) := rfl
    have e2 : hom a b (fun j => q (j + 1)) (n + 1) = b * hom a b (fun j => q (j + 1)) n + q (n + 1 + 1) * a ^ (n + 1) := rfl
    rw [e, ih, e2, Int.pow_succ a (n + 1), Int.pow_succ b (n + 1)]
    grind
theorem hs_two (a b : Int) : ∀ Q : List Int, (MH.hs a b Q).2 = b ^ Q.length
  | [] => by simp [MH.hs]
  | x :: r => by rw [MH.hs_cons, hs_two a b r, List.length_cons, Int.pow_succ]
theorem hs_hom (a b : Int) : ∀ (n : Nat) (Q : List Int), Q.length = n + 1 → MH.topL Q a b = hom a b (cf Q) n
  | 0, [x], _ => by simp [MH.topL, MH.hs, hom, cf]
  | n + 1, x :: r, h => by
    have hr : r.length = n + 1 := by rw [List.length_cons] at h; omega
    have ih := hs_hom a b n r hr
    unfold MH.topL at ih ⊢
    rw [MH.hs_cons, hom_shift]
    show (MH.hs a b r).1 * a + x * (MH.hs a b r).2 = a * hom a b (fun j => cf (x :: r) (j + 1)) n + cf (x :: r) 0 * b ^ (n + 1)
    have e : (fun j => cf (x :: r) (j + 1)) = cf r := by funext j; rw [cf_succ]
    rw [e, ih, hs_two, hr, cf_zero]
    grind
theorem resL_lin {Q : List Int} {n : Nat} (a b : Int) (hQ : Q.length = n + 1) : resL [-a, b] Q = MH.topL Q a b := by
  rw [resL_eq (m := 1) rfl hQ, hs_hom a b n Q hQ]
  unfold Res
  rw [show 1 + n = n + 1 by omega]
  have := Res_lin (p := cf [-a, b]) (q := cf Q) (deg_cf (by simp)) a rfl n
  show D (dn (n + 1)) (shs n (cf [-a, b]) ++ [sh 0 (cf Q)]) = _
  rw [sh_zero]
  exact this
theorem sz_lin {P : List Int} {a b : Int} {n k : Nat} (hP : Sz n P) (ha : a.natAbs < 2 ^ k) (hb : b.natAbs < 2 ^ k) : Sz (n + k + 1) (mulU P [-a, b]) := Sz.of fun j _ => by
  rw [cf_mulU, MH.cv_lin]
  have h1 := L2.wide_lt (hP.cf j) ha
  have h2 : (if j = 0 then 0 else cf P (j - 1) * b).natAbs < 2 ^ (n + k) := by
    split
    · exact Nat.two_pow_pos _
    · exact L2.wide_lt (hP.cf _) hb
  rw [Nat.pow_succ]
  have e : (cf P j * -a).natAbs = (cf P j * a).natAbs := by rw [Int.mul_neg, Int.natAbs_neg]
  generalize (2 : Nat) ^ (n + k) = B at h1 h2
  omega
end DT
namespace DT
open ML RB
theorem sq_one (k : Nat) : ((-1 : Int) ^ k) * ((-1) ^ k) = 1 := by
  rw [← Int.pow_add, ← Nat.two_mul, Int.pow_mul, show ((-1 : Int) ^ 2) = 1 from rfl, Int.one_pow]
theorem resL_mul_right {P Q R : List Int} {m n r : Nat} (hP : P.length = m + 1) (hQ : Q.length = n + 1) (hR : R.length = r + 1) (h0 : cf R r ≠ 0) : resL P (mulU Q R) = resL P Q * resL P R := by
  have nQ : Q ≠ [] := fun z => by rw [z] at hQ; simp at hQ
  have nR : R ≠ [] := fun z => by rw [z] at hR; simp at hR
  have lQR : (mulU Q R).length = n + r + 1 := by rw [mulU_len' nQ nR]; omega
  rw [resL_swap lQR hP, resL_mul hQ hP hR h0, resL_swap hP hQ, resL_swap hP hR, show (n + r) * m = m * n + m * r by rw [Nat.add_mul, Nat.mul_comm n, Nat.mul_comm r], Int.pow_add]
  have h1 := sq_one (m * n)
  have h2 := sq_one (m * r)
  generalize ((-1 : Int) ^ (m * n)) = x at h1 ⊢
  generalize ((-1 : Int) ^ (m * r)) = y at h2 ⊢
  grind
theorem resL_add' {P H L S : List Int} {m h d : Nat} (hP : P.length = m + 1) (hH : H.length = h + 1) (hL : L.length = d + 1) (hS : S.length = m + h + 1) (hd : d < m) (e : ∀ j, cf S j = cv P H j + cf L j) : resL P S * cf P m ^ d = resL P L * cf P m ^ (m + h) := by
  rw [resL_add hP hH hL hS hd fun j => by rw [e]; omega, show m + h = m + h - d + d by omega, Int.pow_add, Nat.add_sub_cancel]
  grind
end DT

set_option linter.all false
/-! The row of a polynomial. -/
namespace MS
open ML MD MP
def nextL (A B : List Int) : List Int := shrunkL ((remL A B).map fun x => 0 - x)
def rowG : Nat → List Int → List Int → List (List Int)
  | 0, _, _ => []
  | f + 1, A, B => if B = [] then [] else B :: rowG f B (nextL A B)
/-- what the walk asks of each step -/
def RowOk : Nat → List Int → List Int → Prop
  | 0, _, B => B = []
  | f + 1, A, B => B = [] ∨ (Trim B ∧ (∃ n m, Sz n A ∧ Sz m B ∧ A.length ≤ 100000 ∧ B.length ≤ 100000 ∧ 0 < n ∧ 0 < m ∧ m ≤ 9000 ∧ n + (2 * m + 1) * (A.length + 1) ≤ 900000) ∧ (remL A B ≠ [] → MG.gcdL ((remL A B).map fun x => 0 - x) ≠ 0 ∧ (MG.gcdL ((remL A B).map fun x => 0 - x)).natAbs.log2 < 9000) ∧ RowOk f B (nextL A B))
def rowL (f : Nat) (P : List Int) : List (List Int) := if P = [] then [] else shrunkL P :: rowG f (shrunkL P) (shrunkL (slopeL P))
end MS

set_option linter.all false
set_option exponentiation.threshold 100000
/-! Polynomials of degree one. -/
namespace MN
open ML MD MP
theorem gcd_one (c : Int) : MG.gcdL [c] = (c.natAbs : Int) := by
  unfold MG.gcdL MG.gcdN
  simp
theorem gcd_two (f c : Int) : MG.gcdL [f, c] = (Int.gcd f c : Int) := by
  unfold MG.gcdL MG.gcdN Int.gcd
  simp
/-- what a fraction's polynomial asks -/
structure Frc (n : Nat) (t d : Int) : Prop where
  d0 : 0 < d
  g1 : Int.gcd t d = 1
  st : t.natAbs < 2 ^ n
  sd : d.natAbs < 2 ^ n
  n0 : 0 < n
  n9 : n ≤ 4000
variable {n : Nat} {t d : Int}
theorem gcdN_lin (h : Frc n t d) : MG.gcdN [-t, d] = 1 := by
  have e := gcd_two (-t) d
  rw [Int.neg_gcd, h.g1] at e
  unfold MG.gcdL at e
  omega
theorem plain_lin (h : Frc n t d) : plainL [-t, d] = [-t, d] := plainL_self (gcdN_lin h) fun _ => by
  show 0 ≤ d
  have := h.d0
  omega
theorem shrunk_lin (h : Frc n t d) : shrunkL [-t, d] = [-t, d] := shrunkL_one (gcdN_lin h)
theorem shrunk_one (h : 0 < d) : shrunkL [d] = [1] := shrunkL_of (c := d) h rfl (fun k => by
  cases k with
  | zero => show d = d * 1; omega
  | succ k => show (0 : Int) = d * 0; omega) (by decide)
theorem plain_one (h : 0 < d) : plainL [d] = [1] := plainL_of (c := d) (by omega) rfl (fun k => by
  cases k with
  | zero => show d = d * 1; omega
  | succ k => show (0 : Int) = d * 0; omega) (by decide) (fun _ => by decide)
theorem slope_lin (f c : Int) : slopeL [f, c] = [c] := by
  have e : slopeL [f, c] = [(((0 : Nat) : Int) + 1) * c] := rfl
  rw [e]; simp
theorem rem_one (A : List Int) : remL A [1] = [] := by
  have := rem_len (P := A) (Q := [1]) (.inr (by decide)) (by simp)
  exact List.eq_nil_of_length_eq_zero (Nat.lt_one_iff.mp this)
theorem trim_lin (h : d ≠ 0) : Trim [t, d] := .inr h
theorem cv_one_right (P : List Int) (k : Nat) : cv P [1] k = cf P k := by
  unfold cv
  rw [sm_single (j := k) (by omega) fun i hi hn => by
    have : cf [1] (k - i) = 0 := cf_beyond (by show 1 ≤ k - i; omega)
    rw [this, Int.mul_zero], Nat.sub_self]
  show cf P k * 1 = _
  omega
theorem fac_one (A : List Int) : facL A [1] = 1 := by
  unfold facL
  split
  · rfl
  · show ((1 : Nat) : Int) ^ _ = 1
    exact Int.one_pow
theorem quo_one {A : List Int} (hA : Trim A) : quoL A [1] = A := trim_ext (trim_quo _ _) hA fun k => by
  have h := div_eq (P := A) (Q := [1]) (.inr (by decide)) (by simp) k
  rw [fac_one, cv_one_right, rem_one, cf_nil] at h
  omega
theorem sz_lin (h : Frc n t d) : Sz n [-t, d] := fun x hx => by
  simp only [List.mem_cons, List.not_mem_nil, or_false] at hx
  have h1 := h.st
  have h2 := h.sd
  rcases hx with rfl | rfl
  · rw [Int.natAbs_neg]; exact h1
  · exact h2
theorem row_lin (h : Frc n t d) : MS.rowL 2 [-t, d] = [[-t, d], [1]] := by
  unfold MS.rowL
  rw [if_neg (by simp), slope_lin, shrunk_one h.d0, shrunk_lin h]
  show _ :: (if [1] = [] then [] else [1] :: MS.rowG 1 [1] (MS.nextL _ [1])) = _
  have e : MS.nextL [-t, d] [1] = [] := by unfold MS.nextL; rw [rem_one]; rfl
  rw [if_neg (by simp), e]
  rfl
theorem row_ok (h : Frc n t d) : MS.RowOk 2 (shrunkL [-t, d]) (shrunkL (slopeL [-t, d])) := by
  have n0 := h.n0
  have n9 := h.n9
  rw [slope_lin, shrunk_one h.d0, shrunk_lin h]
  have e : MS.nextL [-t, d] [1] = [] := by unfold MS.nextL; rw [rem_one]; rfl
  refine .inr ⟨.inr (by decide), ⟨n, 1, sz_lin h, fun x hx => ?_, by simp, by simp, n0, by decide, by decide, ?_⟩, fun hn => absurd (rem_one _) hn, .inl e⟩
  · rw [List.mem_singleton] at hx
    rw [hx]; decide
  · show n + (2 * 1 + 1) * (2 + 1) ≤ 900000
    omega
theorem log_gcd (h : Frc n t d) : MG.gcdL [-t, d] ≠ 0 ∧ (MG.gcdL [-t, d]).natAbs.log2 < 9000 := by
  have e := gcd_two (-t) d
  rw [Int.neg_gcd, h.g1] at e
  rw [e]
  exact ⟨by decide, by decide⟩
theorem top_lin (t d x y : Int) : MH.topL [-t, d] x y = d * x - t * y := by
  show (0 * x + d * 1) * x + -t * (1 * y) = _
  grind
theorem top_one (x y : Int) : MH.topL [1] x y = 1 := by
  show 0 * x + 1 * 1 = 1
  omega
/-- one change between what is below and what is not -/
theorem chg_below {x y : Int} (h : d * x < t * y) : (MH.chg [[-t, d], [1]] x y).1 = 1 := by
  show (MH.stp (MH.stp (0, 0) (RB.ordI (MH.topL [-t, d] x y) 0)) (RB.ordI (MH.topL [1] x y) 0)).1 = 1
  rw [top_lin, top_one, RB.ordI_lt (show d * x - t * y < 0 by omega)]
  rfl
theorem chg_above {x y : Int} (h : t * y ≤ d * x) : (MH.chg [[-t, d], [1]] x y).1 = 0 := by
  show (MH.stp (MH.stp (0, 0) (RB.ordI (MH.topL [-t, d] x y) 0)) (RB.ordI (MH.topL [1] x y) 0)).1 = 0
  rw [top_lin, top_one]
  by_cases h1 : d * x - t * y = 0
  · rw [h1]; rfl
  · rw [RB.ordI_gt (show 0 < d * x - t * y by omega)]
    rfl
end MN

set_option linter.all false
/-! Products of polynomials of degree one; what the resultants of two of them come to. -/
namespace MY
open ML MR MP MQ MH MI
abbrev Prs := List (Int × Int)
/-- c times all b * x - a -/
def wr (c : Int) (ps : Prs) : List Int := ps.foldl (fun P p => mulU P [-p.1, p.2]) [c]
theorem wr_snoc (c : Int) (ps : Prs) (p : Int × Int) : wr c (ps ++ [p]) = mulU (wr c ps) [-p.1, p.2] := by unfold wr; rw [List.foldl_append]; rfl
/-- the induction from the right -/
theorem snoc_ind {P : Prs → Prop} (h0 : P []) (hs : ∀ ps p, P ps → P (ps ++ [p])) : ∀ ps, P ps := fun ps => by
  have : ∀ n (ps : Prs), ps.length = n → P ps := fun n => by
    induction n with
    | zero => intro ps h; rw [List.eq_nil_of_length_eq_zero h]; exact h0
    | succ n ih =>
      intro ps h
      have hne : ps ≠ [] := fun z => by rw [z] at h; cases h
      rw [← List.dropLast_concat_getLast hne]
      exact hs _ _ (ih _ (by rw [List.length_dropLast]; omega))
  exact this _ ps rfl
theorem wr_len (c : Int) : ∀ ps, (wr c ps).length = ps.length + 1 := snoc_ind rfl fun ps p ih => by
  have ne : wr c ps ≠ [] := fun z => by rw [z] at ih; simp at ih
  rw [wr_snoc, mulU_ne' ne (by simp), ih, List.length_append]; rfl
theorem wr_ne (c : Int) (ps : Prs) : wr c ps ≠ [] := fun z => by
  have := wr_len c ps
  rw [z] at this; simp at this
/-- the product of the values b * K - a * M -/
def pv (ps : Prs) (K M : Int) : Int := ps.foldl (fun x p => x * (p.2 * K - p.1 * M)) 1
theorem pv_snoc (ps : Prs) (p : Int × Int) (K M : Int) : pv (ps ++ [p]) K M = pv ps K M * (p.2 * K - p.1 * M) := by unfold pv; rw [List.foldl_append]; rfl
theorem pv_nil (K M : Int) : pv [] K M = 1 := rfl
theorem pv_append (ps qs : Prs) (K M : Int) : pv (ps ++ qs) K M = pv ps K M * pv qs K M := by
  revert qs
  refine snoc_ind ?_ fun qs q ih => ?_
  · rw [List.append_nil, pv_nil, Int.mul_one]
  · rw [← List.append_assoc, pv_snoc, pv_snoc, ih, Int.mul_assoc]
theorem top_wr (c : Int) (K M : Int) : ∀ ps, topL (wr c ps) K M = c * pv ps K M := snoc_ind (by
    show topL [c] K M = _
    rw [pv_nil]
    show 0 * K + c * 1 = c * 1
    omega) fun ps p ih => by
  rw [wr_snoc, MB.top_prod (wr_ne c ps) (by simp) (mulU_ne' (wr_ne c ps) (by simp)) (cf_mulU _ _), ih, pv_snoc, MN.top_lin, Int.mul_assoc]
theorem ev_wr (c x : Int) (ps : Prs) : ev (wr c ps) x = c * pv ps x 1 := by rw [← ev_top, top_wr]
/-- all bottoms but 0 -/
def Bt (ps : Prs) : Prop := ∀ p ∈ ps, p.2 ≠ 0
theorem Bt.init {ps : Prs} {p : Int × Int} (h : Bt (ps ++ [p])) : Bt ps ∧ p.2 ≠ 0 := ⟨fun q hq => h q (List.mem_append_left _ hq), h p (List.mem_append_right _ (List.mem_singleton.mpr rfl))⟩
theorem lead_wr {c : Int} : ∀ ps, Bt ps → cf (wr c ps) ps.length = c * pv ps 1 0 := snoc_ind (fun _ => by
    show c = c * 1
    omega) fun ps p ih hb => by
  have h := ih hb.init.1
  rw [wr_snoc, cf_mulU, List.length_append, List.length_singleton]
  rw [cv_top (d := ps.length) (e := 1) (fun i hi => cf_beyond (by rw [wr_len]; omega)) (fun i hi => cf_beyond (by show 2 ≤ i; omega)), h, pv_snoc]
  show c * pv ps 1 0 * p.2 = c * (pv ps 1 0 * (p.2 * 1 - p.1 * 0))
  rw [Int.mul_assoc]
  congr 2
  omega
theorem pv_lead_ne : ∀ ps, Bt ps → pv ps 1 0 ≠ 0 := snoc_ind (fun _ => by decide) fun ps p ih hb => by
  obtain ⟨h1, h2⟩ := hb.init
  rw [pv_snoc]
  exact Int.mul_ne_zero (ih h1) (by rw [Int.mul_one, Int.mul_zero, Int.sub_zero]; exact h2)
theorem trim_wr {c : Int} {ps : Prs} (c0 : c ≠ 0) (h : Bt ps) : Trim (wr c ps) := .inr (by
  rw [wr_len, Nat.add_sub_cancel, lead_wr ps h]
  exact Int.mul_ne_zero c0 (pv_lead_ne ps h))
/-- the product over all of the one list of the values at these -/
def pw (n : Nat) (t : Int) (ps : Prs) (f : Int × Int → Int) : Int := ps.foldl (fun x p => x * f p) (t ^ n)
theorem pw_snoc (n : Nat) (t : Int) (ps : Prs) (p : Int × Int) (f : Int × Int → Int) : pw n t (ps ++ [p]) f = pw n t ps f * f p := by unfold pw; rw [List.foldl_append]; rfl
theorem res_wr {R : List Int} {n : Nat} (hR : R.length = n + 1) (s : Int) : ∀ ps, Bt ps → DT.resL (wr s ps) R = pw n s ps (fun p => topL R p.1 p.2) := snoc_ind (fun _ => DT.resL_const hR) fun ps p ih hb => by
  obtain ⟨h1, h2⟩ := hb.init
  rw [wr_snoc, pw_snoc, DT.resL_mul (R := [-p.1, p.2]) (d := 1) (wr_len s ps) hR rfl h2, ih h1, DT.resL_lin p.1 p.2 hR]
/-! ## the polynomials in the second place -/
/-- with x + s in the place of x -/
def movL (R : List Int) (s : Int) : List Int := R.reverse.foldl (fun F c => addL (mulL F [s, 1]) (trimL [c])) []
theorem movL_cons (c : Int) (R : List Int) (s : Int) : movL (c :: R) s = addL (mulL (movL R s) [s, 1]) (trimL [c]) := by
  unfold movL; rw [List.reverse_cons, List.foldl_append]; rfl
theorem movL_len : ∀ (R : List Int) (s : Int), (movL R s).length ≤ R.length
  | [], s => Nat.le_refl _
  | c :: R, s => by
    have ih := movL_len R s
    have h1 := addL_len (mulL (movL R s) [s, 1]) (trimL [c])
    have h2 := mulL_len (P := movL R s) (Q := [s, 1]) (by simp)
    have h3 : (trimL [c]).length ≤ 1 := trimL_len _
    rw [movL_cons]
    simp only [List.length_cons, List.length_nil] at h2 ⊢
    omega
theorem movL_lead : ∀ (R : List Int) (s : Int), cf (movL R s) (R.length - 1) = cf R (R.length - 1)
  | [], s => rfl
  | [c], s => by
    rw [movL_cons]
    show cf (addL (mulL [] [s, 1]) (trimL [c])) 0 = c
    rw [cf_addL, cf_trimL, cf_mulL]
    have : cv [] [s, 1] 0 = 0 := sm_zero fun i _ => by rw [cf_nil, Int.zero_mul]
    rw [this]
    show 0 + c = c
    omega
  | c :: d :: R, s => by
    have ih := movL_lead (d :: R) s
    have hl := movL_len (d :: R) s
    rw [movL_cons, cf_addL, cf_trimL, cf_mulL]
    simp only [List.length_cons] at ih hl ⊢
    rw [Nat.add_sub_cancel] at ih
    rw [Nat.add_sub_cancel]
    rw [cv_top (d := R.length) (e := 1) (fun i hi => cf_beyond (by omega)) (fun i hi => cf_beyond (by show 2 ≤ i; omega)), ih, cf_succ (r := d :: R)]
    have : cf [c] (R.length + 1) = 0 := cf_beyond (by simp)
    rw [this]
    show cf (d :: R) R.length * 1 + 0 = _
    omega
theorem movL_full {R : List Int} (h : Trim R) (s : Int) : (movL R s).length = R.length := by
  rcases h with h | h
  · rw [h]; rfl
  · have h1 := movL_lead R s
    have h2 := movL_len R s
    apply Classical.byContradiction
    intro hh
    rw [cf_beyond (P := movL R s) (by omega)] at h1
    exact h h1.symm
theorem hs_b (t b : Int) : ∀ Q : List Int, (MH.hs t b Q).2 = b ^ Q.length := DT.hs_two t b
theorem top_cons (t b x : Int) (r : List Int) : topL (x :: r) t b = topL r t b * t + x * b ^ r.length := by
  show (hs t b r).1 * t + x * (hs t b r).2 = _
  rw [hs_b]; rfl
/-- with noughts behind -/
theorem top_pad (t b : Int) {P : List Int} {n : Nat} (h : P.length ≤ n + 1) : sm (n + 1) (fun k => cf P k * (t ^ k * b ^ (n - k))) = topL P t b * b ^ (n + 1 - P.length) := by
  rw [MB.top_sm, ← sm_mul_r, sm_ext h fun i h1 _ => by rw [cf_beyond h1, Int.zero_mul]]
  refine sm_congr fun i hi => ?_
  rw [show n - i = (P.length - 1 - i) + (n + 1 - P.length) by omega, Int.pow_add]
  grind
theorem movL_top : ∀ (R : List Int) (s a b : Int), sm R.length (fun k => cf (movL R s) k * (a ^ k * b ^ (R.length - 1 - k))) = topL R (a + s * b) b
  | [], s, a, b => rfl
  | [c], s, a, b => by
    rw [movL_cons]
    have e : cf (addL (mulL (movL [] s) [s, 1]) (trimL [c])) 0 = c := by
      have := movL_lead [c] s
      rw [movL_cons] at this
      exact this
    show 0 + cf (addL (mulL (movL [] s) [s, 1]) (trimL [c])) 0 * (a ^ 0 * b ^ 0) = 0 * _ + c * 1
    rw [e, Int.pow_zero, Int.pow_zero]
    omega
  | c :: d :: R, s, a, b => by
    have ih := movL_top (d :: R) s a b
    rw [top_cons, ← ih, movL_cons]
    simp only [List.length_cons, Nat.add_sub_cancel]
    have hl := movL_len (d :: R) s
    simp only [List.length_cons] at hl
    have e1 : ∀ k, cf (addL (mulL (movL (d :: R) s) [s, 1]) (trimL [c])) k = (if k = 0 then 0 else cf (movL (d :: R) s) (k - 1)) + s * cf (movL (d :: R) s) k + cf [c] k := fun k => by
      rw [cf_addL, cf_trimL, cf_mulL]
      rw [MB.cv_cons_right]
      have : cv (movL (d :: R) s) [1] (k - 1) = cf (movL (d :: R) s) (k - 1) := MN.cv_one_right _ _
      rw [this]
      grind
    rw [show sm (R.length + 1 + 1) (fun k => cf (addL (mulL (movL (d :: R) s) [s, 1]) (trimL [c])) k * (a ^ k * b ^ (R.length + 1 - k))) = sm (R.length + 1 + 1) (fun k => (if k = 0 then 0 else cf (movL (d :: R) s) (k - 1)) * (a ^ k * b ^ (R.length + 1 - k)) + (s * cf (movL (d :: R) s) k * (a ^ k * b ^ (R.length + 1 - k)) + cf [c] k * (a ^ k * b ^ (R.length + 1 - k)))) from sm_congr fun k _ => by rw [e1]; grind]
    rw [sm_add, sm_add]
    have p1 : sm (R.length + 1 + 1) (fun k => (if k = 0 then 0 else cf (movL (d :: R) s) (k - 1)) * (a ^ k * b ^ (R.length + 1 - k))) = sm (R.length + 1) (fun k => cf (movL (d :: R) s) k * (a ^ k * b ^ (R.length - k))) * a := by
      rw [sm_shift, ← sm_mul_r]
      simp only [if_pos, Int.zero_mul, Int.zero_add]
      refine sm_congr fun k hk => ?_
      rw [if_neg (by omega), Nat.add_sub_cancel, show R.length + 1 - (k + 1) = R.length - k by omega, Int.pow_succ]
      grind
    have p2 : sm (R.length + 1 + 1) (fun k => s * cf (movL (d :: R) s) k * (a ^ k * b ^ (R.length + 1 - k))) = sm (R.length + 1) (fun k => cf (movL (d :: R) s) k * (a ^ k * b ^ (R.length - k))) * (s * b) := by
      rw [sm_succ, cf_beyond (P := movL (d :: R) s) (k := R.length + 1) (by omega), Int.mul_zero, Int.zero_mul, Int.add_zero, ← sm_mul_r]
      refine sm_congr fun k hk => ?_
      rw [show R.length + 1 - k = (R.length - k) + 1 by omega, Int.pow_succ]
      grind
    have p3 : sm (R.length + 1 + 1) (fun k => cf [c] k * (a ^ k * b ^ (R.length + 1 - k))) = c * b ^ (R.length + 1) := by
      rw [sm_shift, sm_zero fun i _ => by rw [cf_succ, cf_nil, Int.zero_mul]]
      show c * (a ^ 0 * b ^ (R.length + 1 - 0)) + 0 = _
      rw [Int.pow_zero, Int.one_mul, Nat.sub_zero, Int.add_zero]
    rw [p1, p2, p3]
    grind
theorem mov_top {R : List Int} (h : Trim R) (s a b : Int) : topL (movL R s) a b = topL R (a + s * b) b := by
  rw [← movL_top, MB.top_sm, movL_full h]
theorem turn_top : ∀ (R : List Int) (K M : Int), topL (turnL R) K M = topL R (-K) M := fun R K M => by
  rw [MB.top_sm, MB.top_sm, turnL_len]
  refine sm_congr fun k _ => ?_
  rw [cf_turnL]
  have e : ∀ j : Nat, (-K) ^ (2 * j) = K ^ (2 * j) := fun j => by
    rw [Int.pow_mul, Int.pow_mul]
    congr 1
    rw [Int.pow_succ, Int.pow_succ, Int.pow_succ, Int.pow_succ, Int.pow_zero, Int.pow_zero]
    grind
  split
  · next h =>
    obtain ⟨j, rfl⟩ : ∃ j, k = 2 * j + 1 := ⟨k / 2, by omega⟩
    rw [Int.pow_succ, Int.pow_succ, e]
    grind
  · next h =>
    obtain ⟨j, rfl⟩ : ∃ j, k = 2 * j := ⟨k / 2, by omega⟩
    rw [e]
theorem trim_turn {R : List Int} (h : Trim R) : Trim (turnL R) := by
  rcases h with h | h
  · exact .inl (by rw [h]; rfl)
  · refine .inr ?_
    rw [turnL_len, cf_turnL]
    split <;> omega
/-- y ^ n * Q(x / y) by powers of y -/
def strL (Q : List Int) (x : Int) : List Int := ((List.range Q.length).map fun k => cf Q k * x ^ k).reverse
theorem strL_len (Q : List Int) (x : Int) : (strL Q x).length = Q.length := by unfold strL; simp
theorem str_top (Q : List Int) (x a b : Int) : topL (strL Q x) a b = topL Q (x * b) a := by
  rw [MB.top_sm, strL_len, ← sm_rev, MB.top_sm]
  refine sm_congr fun k hk => ?_
  have : cf (strL Q x) (Q.length - 1 - k) = cf Q k * x ^ k := by
    unfold strL
    rw [cf_reverse (by simp; omega), List.length_map, List.length_range, show Q.length - 1 - (Q.length - 1 - k) = k by omega, cf_range hk]
  rw [this, show Q.length - 1 - (Q.length - 1 - k) = k by omega, Int.mul_pow]
  grind
/-- x - y ^ k -/
def powL (x : Int) (k : Nat) : List Int := [x] ++ List.replicate (k - 1) 0 ++ [-1]
theorem powL_len (x : Int) {k : Nat} (h : 0 < k) : (powL x k).length = k + 1 := by unfold powL; simp; omega
theorem hs_rep (t b : Int) (R : List Int) : ∀ n, (hs t b (List.replicate n 0 ++ R)).1 = (hs t b R).1 * t ^ n
  | 0 => by rw [Int.pow_zero, Int.mul_one]; rfl
  | n + 1 => by
    rw [List.replicate_succ, List.cons_append, hs_cons]
    show (hs t b (List.replicate n 0 ++ R)).1 * t + 0 * _ = _
    rw [hs_rep t b R n, Int.pow_succ, Int.zero_mul, Int.add_zero, Int.mul_assoc]
theorem pow_top (x : Int) {k : Nat} (h : 0 < k) (a b : Int) : topL (powL x k) a b = x * b ^ k - a ^ k := by
  obtain ⟨j, rfl⟩ : ∃ j, k = j + 1 := ⟨k - 1, by omega⟩
  unfold powL
  rw [List.append_assoc]
  show topL (x :: (List.replicate (j + 1 - 1) 0 ++ [-1])) a b = _
  rw [top_cons, Nat.add_sub_cancel]
  have e : topL (List.replicate j 0 ++ [-1]) a b = -1 * a ^ j := by
    show (hs a b (List.replicate j 0 ++ [-1])).1 = _
    rw [hs_rep]
    show (0 * a + -1 * 1) * a ^ j = _
    grind
  rw [e, List.length_append, List.length_replicate, Int.pow_succ a]
  show -1 * a ^ j * a + x * b ^ (j + 1) = _
  grind
end MY

set_option linter.all false
set_option exponentiation.threshold 100000
/-! Sums, products and powers of fractions: what the plain polynomial of them is. -/
namespace MY
open ML MR MP MQ MH MI MG
theorem cv_lin (P : List Int) (a b : Int) (k : Nat) : cv P [a, b] k = cf P k * a + (if k = 0 then 0 else cf P (k - 1) * b) := by
  rw [MB.cv_cons_right]
  congr 1
  split
  · rfl
  · rw [MB.cv_cons_right]
    have : (if k - 1 = 0 then (0 : Int) else cv P [] (k - 1 - 1)) = 0 := by
      split
      · rfl
      · exact sm_zero fun i _ => by rw [cf_nil, Int.mul_zero]
    rw [this, Int.add_zero]
/-- a product with a factor of degree one has no shared divisor, where the parts have none -/
theorem gauss {P : List Int} {a b : Int} (h : gcdN P = 1) (g1 : Int.gcd a b = 1) : gcdN (mulU P [-a, b]) = 1 := by
  generalize hg : gcdN (mulU P [-a, b]) = g
  have hd : ∀ k, (g : Int) ∣ cf P k * (-a) + (if k = 0 then 0 else cf P (k - 1) * b) := fun k => by
    rw [← cv_lin, ← cf_mulU, ← hg]; exact gcdN_cf _ k
  have c1 : Int.gcd (g : Int) b = 1 := by
    have hb : ((Int.gcd (g : Int) b : Nat) : Int) ∣ b := Int.gcd_dvd_right ..
    have hg' : ((Int.gcd (g : Int) b : Nat) : Int) ∣ (g : Int) := Int.gcd_dvd_left ..
    generalize Int.gcd (g : Int) b = e at *
    have ha : (e : Int) ∣ -a := dvd_all h fun k => by
      have h1 := Int.dvd_trans hg' (hd k)
      have h2 : (e : Int) ∣ (if k = 0 then 0 else cf P (k - 1) * b) := by
        split
        · exact Int.dvd_zero _
        · exact Int.dvd_trans hb (Int.dvd_mul_left ..)
      have h3 := Int.dvd_sub h1 h2
      rw [Int.add_sub_cancel] at h3
      rw [Int.mul_comm]
      exact h3
    have h4 : (e : Int) ∣ ((Int.gcd a b : Nat) : Int) := Int.dvd_coe_gcd (Int.dvd_neg.mp ha) hb
    rw [g1] at h4
    have := Int.natAbs_dvd_natAbs.mpr h4
    simpa using this
  have all : ∀ j k, P.length ≤ k + j → (g : Int) ∣ cf P k := fun j => by
    induction j with
    | zero => intro k hk; rw [cf_beyond (by omega)]; exact Int.dvd_zero _
    | succ j ih =>
      intro k hk
      have h1 := ih (k + 1) (by omega)
      have h2 := hd (k + 1)
      rw [if_neg (by omega), Nat.add_sub_cancel] at h2
      have h3 := Int.dvd_sub h2 (Int.dvd_trans h1 (Int.dvd_mul_right _ (-a)))
      rw [show cf P (k + 1) * -a + cf P k * b - cf P (k + 1) * -a = cf P k * b by omega] at h3
      have h4 := Int.natAbs_dvd_natAbs.mpr h3
      rw [Int.natAbs_mul] at h4
      exact Int.natAbs_dvd_natAbs.mp (Nat.Coprime.dvd_of_dvd_mul_right c1 h4)
  have h5 : g ∣ gcdN P := dvd_gcdN (mem_cf.mpr fun k => all P.length k (by omega))
  rw [h] at h5
  exact Nat.dvd_one.mp h5
/-- in lowest terms -/
def red (p : Int × Int) : Int × Int := (p.1.fdiv (Int.gcd p.1 p.2), p.2.fdiv (Int.gcd p.1 p.2))
theorem red_eq {p : Int × Int} : ((Int.gcd p.1 p.2 : Nat) : Int) * (red p).1 = p.1 ∧ ((Int.gcd p.1 p.2 : Nat) : Int) * (red p).2 = p.2 := ⟨fdiv_exact (Int.gcd_dvd_left ..), fdiv_exact (Int.gcd_dvd_right ..)⟩
theorem gcd_pos' {p : Int × Int} (h : 0 < p.2) : 0 < ((Int.gcd p.1 p.2 : Nat) : Int) := by
  have : Int.gcd p.1 p.2 ≠ 0 := fun z => by
    have := (Int.gcd_eq_zero_iff.mp z).2
    omega
  omega
theorem red_pos {p : Int × Int} (h : 0 < p.2) : 0 < (red p).2 := by
  obtain ⟨_, e⟩ := red_eq (p := p)
  have g0 := gcd_pos' h
  apply Classical.byContradiction
  intro hh
  have := Int.mul_le_mul_of_nonneg_left (show (red p).2 ≤ 0 by omega) (Int.le_of_lt g0)
  rw [e, Int.mul_zero] at this
  omega
theorem red_one {p : Int × Int} (h : 0 < p.2) : Int.gcd (red p).1 (red p).2 = 1 := by
  obtain ⟨e1, e2⟩ := red_eq (p := p)
  have g0 := gcd_pos' h
  have hm := Int.gcd_mul_left ((Int.gcd p.1 p.2 : Nat) : Int) (red p).1 (red p).2
  rw [e1, e2, Int.natAbs_natCast] at hm
  have : Int.gcd p.1 p.2 * 1 = Int.gcd p.1 p.2 * Int.gcd (red p).1 (red p).2 := by rw [Nat.mul_one]; exact hm
  exact (Nat.eq_of_mul_eq_mul_left (by omega) this).symm
/-- all bottoms above 0 -/
def Bp (ps : Prs) : Prop := ∀ p ∈ ps, 0 < p.2
theorem Bp.bt {ps : Prs} (h : Bp ps) : Bt ps := fun p hp => by have := h p hp; omega
theorem Bp.init {ps : Prs} {p : Int × Int} (h : Bp (ps ++ [p])) : Bp ps ∧ 0 < p.2 := ⟨fun q hq => h q (List.mem_append_left _ hq), h p (List.mem_append_right _ (List.mem_singleton.mpr rfl))⟩
/-- the product of the plain factors -/
def wf (L : Prs) : List Int := wr 1 (L.map red)
theorem wf_snoc (L : Prs) (p : Int × Int) : wf (L ++ [p]) = mulU (wf L) [-(red p).1, (red p).2] := by unfold wf; rw [List.map_append]; exact wr_snoc _ _ _
theorem wf_len (L : Prs) : (wf L).length = L.length + 1 := by unfold wf; rw [wr_len, List.length_map]
theorem wf_gcd : ∀ L, Bp L → gcdN (wf L) = 1 := snoc_ind (fun _ => by decide) fun L p ih h => by
  obtain ⟨h1, h2⟩ := h.init
  rw [wf_snoc]
  exact gauss (ih h1) (red_one h2)
theorem pv_lead_pos : ∀ ps, Bp ps → 0 < pv ps 1 0 := snoc_ind (fun _ => by decide) fun ps p ih h => by
  obtain ⟨h1, h2⟩ := h.init
  rw [pv_snoc]
  exact Int.mul_pos (ih h1) (by rw [Int.mul_one, Int.mul_zero, Int.sub_zero]; exact h2)
theorem Bp.red {L : Prs} (h : Bp L) : Bp (L.map red) := fun p hp => by
  obtain ⟨q, hq, rfl⟩ := List.mem_map.mp hp
  exact red_pos (h q hq)
theorem wf_trim {L : Prs} (h : Bp L) : Trim (wf L) := trim_wr (by decide) h.red.bt
theorem wf_plain {L : Prs} (h : Bp L) : plainL (wf L) = wf L := plainL_self (wf_gcd L h) fun _ => by
  rw [wf_len, Nat.add_sub_cancel]
  have := lead_wr (c := 1) (L.map red) h.red.bt
  rw [List.length_map] at this
  show 0 ≤ cf (wr 1 (L.map red)) L.length
  rw [this, Int.one_mul]
  exact Int.le_of_lt (pv_lead_pos _ h.red)
/-- the shared divisors of all -/
def gp (L : Prs) : Int := L.foldl (fun x p => x * ((Int.gcd p.1 p.2 : Nat) : Int)) 1
theorem gp_snoc (L : Prs) (p : Int × Int) : gp (L ++ [p]) = gp L * ((Int.gcd p.1 p.2 : Nat) : Int) := by unfold gp; rw [List.foldl_append]; rfl
theorem gp_pos : ∀ L, Bp L → 0 < gp L := snoc_ind (fun _ => by decide) fun L p ih h => by
  obtain ⟨h1, h2⟩ := h.init
  rw [gp_snoc]
  exact Int.mul_pos (ih h1) (gcd_pos' h2)
theorem pv_red (K M : Int) : ∀ L, pv L K M = gp L * pv (L.map red) K M := snoc_ind rfl fun L p ih => by
  obtain ⟨e1, e2⟩ := red_eq (p := p)
  rw [List.map_append]
  show pv (L ++ [p]) K M = gp (L ++ [p]) * pv (L.map red ++ [red p]) K M
  rw [pv_snoc, pv_snoc, gp_snoc, ih]
  have : p.2 * K - p.1 * M = ((Int.gcd p.1 p.2 : Nat) : Int) * ((red p).2 * K - (red p).1 * M) := by
    rw [Int.mul_sub, ← Int.mul_assoc, ← Int.mul_assoc, e1, e2]
  rw [this]
  grind
/-- what through_values tells of the values of a product -/
theorem told {N : Nat} {v : Nat → Int} {L : Prs} {c : Int} (hL : Bp L) (hN : L.length = N) (c0 : c ≠ 0) (h : ∀ x, x ≤ N → v x = c * pv L (x : Int) 1) : plainL (thrL N v (N + 1)) = wf L := by
  rw [← wf_plain hL]
  refine thr_plain (c := c * gp L) (wf_trim hL) (by rw [wf_len, hN]; exact Nat.le_refl _) (Int.mul_ne_zero c0 (by have := gp_pos L hL; omega)) fun x hx => ?_
  rw [h x hx, pv_red]
  unfold wf
  rw [ev_wr, Int.one_mul, Int.mul_assoc]
/-! ## the values -/
theorem pw_flat (n : Nat) (s t x : Int) (G : Int × Int → Prs) : ∀ ps, pw n s ps (fun p => t * pv (G p) x 1) = s ^ n * t ^ ps.length * pv (ps.flatMap G) x 1 := snoc_ind (by
    show s ^ n = s ^ n * t ^ 0 * 1
    rw [Int.pow_zero, Int.mul_one, Int.mul_one]) fun ps p ih => by
  rw [pw_snoc, ih, List.flatMap_append, pv_append, List.length_append, List.length_singleton, Int.pow_succ]
  have : [p].flatMap G = G p := by simp
  rw [this]
  grind
theorem pv_of {qs : Prs} {g : Int × Int → Int × Int} {K M x : Int} (h : ∀ q, q.2 * K - q.1 * M = (g q).2 * x - (g q).1 * 1) : pv qs K M = pv (qs.map g) x 1 := by
  refine snoc_ind (P := fun qs => pv qs K M = pv (qs.map g) x 1) rfl (fun qs q ih => ?_) qs
  rw [List.map_append]
  show _ = pv (qs.map g ++ [g q]) x 1
  rw [pv_snoc, pv_snoc, ih, h]
def addP (p q : Int × Int) : Int × Int := (p.1 * q.2 + q.1 * p.2, p.2 * q.2)
def mulP (p q : Int × Int) : Int × Int := (p.1 * q.1, p.2 * q.2)
def powP (k : Nat) (p : Int × Int) : Int × Int := (p.1 ^ k, p.2 ^ k)
def sumsP (ps qs : Prs) : Prs := ps.flatMap fun p => qs.map (addP p)
def prodP (ps qs : Prs) : Prs := ps.flatMap fun p => qs.map (mulP p)
theorem flat_len (g : Int × Int → Int × Int → Int × Int) (qs : Prs) : ∀ ps : Prs, (ps.flatMap fun p => qs.map (g p)).length = ps.length * qs.length := snoc_ind (by simp) fun ps p ih => by
  rw [List.flatMap_append, List.length_append, ih, List.length_append, List.length_singleton, Nat.add_mul, Nat.one_mul]
  simp
theorem flat_bp {g : Int × Int → Int × Int → Int × Int} {ps qs : Prs} (h : ∀ p ∈ ps, ∀ q ∈ qs, 0 < (g p q).2) : Bp (ps.flatMap fun p => qs.map (g p)) := fun r hr => by
  obtain ⟨p, hp, hr⟩ := List.mem_flatMap.mp hr
  obtain ⟨q, hq, rfl⟩ := List.mem_map.mp hr
  exact h p hp q hq
theorem sums_value {s t : Int} {ps qs : Prs} (hb : Bt ps) (hc : Bt qs) (t0 : t ≠ 0) (x : Int) : DT.resL (wr s ps) (movL (turnL (wr t qs)) (-x)) = s ^ qs.length * t ^ ps.length * pv (sumsP ps qs) x 1 := by
  have tt := trim_turn (trim_wr (c := t) t0 hc)
  have hl : (movL (turnL (wr t qs)) (-x)).length = qs.length + 1 := by rw [movL_full tt, turnL_len, wr_len]
  rw [res_wr hl s ps hb]
  have : (fun p : Int × Int => topL (movL (turnL (wr t qs)) (-x)) p.1 p.2) = fun p => t * pv (qs.map (addP p)) x 1 := funext fun p => by
    rw [mov_top tt, turn_top, top_wr]
    congr 1
    exact pv_of fun q => by show q.2 * -(p.1 + -x * p.2) - q.1 * p.2 = (p.2 * q.2) * x - (p.1 * q.2 + q.1 * p.2) * 1; grind
  rw [this]
  exact pw_flat _ _ _ _ _ _
theorem prods_value {s t : Int} {ps qs : Prs} (hb : Bt ps) (x : Int) : DT.resL (wr s ps) (strL (wr t qs) x) = s ^ qs.length * t ^ ps.length * pv (prodP ps qs) x 1 := by
  have hl : (strL (wr t qs) x).length = qs.length + 1 := by rw [strL_len, wr_len]
  rw [res_wr hl s ps hb]
  have : (fun p : Int × Int => topL (strL (wr t qs) x) p.1 p.2) = fun p => t * pv (qs.map (mulP p)) x 1 := funext fun p => by
    rw [str_top, top_wr]
    congr 1
    exact pv_of fun q => by show q.2 * (x * p.2) - q.1 * p.1 = (p.2 * q.2) * x - (p.1 * q.1) * 1; grind
  rw [this]
  exact pw_flat _ _ _ _ _ _
theorem pows_value {s : Int} {ps : Prs} {k : Nat} (hb : Bt ps) (hk : 0 < k) (x : Int) : DT.resL (wr s ps) (powL x k) = s ^ k * pv (ps.map (powP k)) x 1 := by
  rw [res_wr (powL_len x hk) s ps hb]
  have : (fun p : Int × Int => topL (powL x k) p.1 p.2) = fun p => 1 * pv [powP k p] x 1 := funext fun p => by
    rw [pow_top x hk]
    show _ = 1 * (1 * (p.2 ^ k * x - p.1 ^ k * 1))
    grind
  rw [this, pw_flat, Int.one_pow, Int.mul_one]
  congr 2
  rw [List.flatMap_def]
  clear this hb
  induction ps with
  | nil => rfl
  | cons p ps ih =>
    simp only [List.map_cons, List.flatten_cons, List.singleton_append]
    rw [ih]
/-! ## the sizes -/
/-- what the walk asks of a list of fractions -/
structure Rt (s : Int) (ps : Prs) : Prop where
  s0 : s ≠ 0
  sb : s.natAbs < 2 ^ 44
  b0 : Bp ps
  pb : ∀ p ∈ ps, p.1.natAbs < 2 ^ 44 ∧ p.2.natAbs < 2 ^ 44
  l1 : 1 ≤ ps.length
theorem wr_sz {c : Int} (hc : c.natAbs < 2 ^ 44) : ∀ ps : Prs, (∀ p ∈ ps, p.1.natAbs < 2 ^ 44 ∧ p.2.natAbs < 2 ^ 44) → Sz (44 + 45 * ps.length) (wr c ps) := snoc_ind (fun _ z hz => by
    rw [List.mem_singleton.mp hz]; exact hc) fun ps p ih h => by
  have h1 := ih fun q hq => h q (List.mem_append_left _ hq)
  obtain ⟨h2, h3⟩ := h p (List.mem_append_right _ (List.mem_singleton.mpr rfl))
  rw [wr_snoc, List.length_append, List.length_singleton, show 44 + 45 * (ps.length + 1) = 44 + 45 * ps.length + 44 + 1 by omega]
  exact DT.sz_lin h1 h2 h3
theorem Rt.sz {s : Int} {ps : Prs} (h : Rt s ps) : Sz (44 + 45 * ps.length) (wr s ps) := wr_sz h.sb ps h.pb
theorem movL_sz {n : Nat} (hn : 0 < n) {s : Int} (hs : s.natAbs < 2 ^ 5) : ∀ R : List Int, Sz n R → R.length ≤ 16 → Sz (n + 7 * R.length) (movL R s)
  | [], _, _ => Sz.nil _
  | c :: R, h, hl => by
    simp only [List.length_cons] at hl
    have ih := movL_sz hn hs R (fun z hz => h z (List.mem_cons_of_mem _ hz)) (by omega)
    rw [movL_cons]
    have h1 : Sz (n + 7 * R.length + 6) (mulL (movL R s) [s, 1]) := Sz.of fun k _ => by
      rw [cf_mulL, cv_lin]
      have b1 := ih.cf k
      have b2 := ih.cf (k - 1)
      rw [Int.mul_one, Nat.pow_add]
      have hm : (cf (movL R s) k * s).natAbs < 2 ^ (n + 7 * R.length) * 32 := by
        rw [Int.natAbs_mul]
        exact Nat.lt_of_le_of_lt (Nat.mul_le_mul_left _ (Nat.le_of_lt hs)) (Nat.mul_lt_mul_of_pos_right b1 (by decide))
      split <;> omega
    have h2 : Sz (n + 7 * R.length + 6) (trimL [c]) := Sz.trim (fun z hz => by
      rw [List.mem_singleton.mp hz]
      exact Nat.lt_of_lt_of_le (h c (List.mem_cons_self ..)) (Nat.pow_le_pow_right (by decide) (by omega)))
    have := Sz.addL h1 h2
    rw [List.length_cons, show n + 7 * (R.length + 1) = n + 7 * R.length + 6 + 1 by omega]
    exact this
theorem turnL_sz {n : Nat} {R : List Int} (h : Sz n R) : Sz n (turnL R) := Sz.of fun k _ => by
  have := h.cf k
  rw [cf_turnL]; split <;> omega
theorem strL_sz {n : Nat} {x : Int} (hx : x.natAbs < 2 ^ 4) {Q : List Int} (h : Sz n Q) : Sz (n + 4 * Q.length) (strL Q x) := Sz.reverse (fun z hz => by
  obtain ⟨k, hk, rfl⟩ := List.mem_map.mp hz
  have hk := List.mem_range.mp hk
  have h1 := h.cf k
  rw [Int.natAbs_mul, Int.natAbs_pow, Nat.pow_add]
  have h2 : x.natAbs ^ k ≤ 2 ^ (4 * Q.length) := by
    rw [Nat.pow_mul]
    exact Nat.le_trans (Nat.pow_le_pow_left (Nat.le_of_lt hx) k) (Nat.pow_le_pow_right (by decide) (by omega))
  exact Nat.lt_of_le_of_lt (Nat.mul_le_mul_left _ h2) (Nat.mul_lt_mul_of_pos_right h1 (Nat.two_pow_pos _)))
theorem powL_sz {x : Int} {k : Nat} (hx : x.natAbs < 2 ^ 4) : Sz 4 (powL x k) := by
  unfold powL
  refine Sz.append (Sz.append ?_ (Sz.rep0 _ _)) ?_
  · intro z hz; rw [List.mem_singleton.mp hz]; exact hx
  · intro z hz; rw [List.mem_singleton.mp hz]; decide
theorem mn_cases {m n : Nat} (hm : 1 ≤ m) (hn : 1 ≤ n) (h : m * n ≤ 12) : m ≤ 12 ∧ n ≤ 12 ∧ m + n ≤ 13 := by
  have a : m * 1 ≤ m * n := Nat.mul_le_mul_left _ hn
  have b : 1 * n ≤ m * n := Nat.mul_le_mul_right _ hm
  refine ⟨by omega, by omega, ?_⟩
  obtain ⟨p, rfl⟩ : ∃ p, m = p + 1 := ⟨m - 1, by omega⟩
  obtain ⟨q, rfl⟩ : ∃ q, n = q + 1 := ⟨n - 1, by omega⟩
  rw [Nat.add_mul, Nat.mul_add, Nat.one_mul] at h
  have : 0 ≤ p * q := Nat.zero_le _
  omega
theorem sums_ok {s t x : Int} {ps qs : Prs} (hp : Rt s ps) (hq : Rt t qs) (h12 : ps.length * qs.length ≤ 12) (hx : x.natAbs ≤ 12) : DT.ResOk (wr s ps) (movL (turnL (wr t qs)) x) (44 + 45 * ps.length) (51 + 52 * qs.length) ∧ (DT.resL (wr s ps) (movL (turnL (wr t qs)) x)).natAbs < 2 ^ 3000 := by
  obtain ⟨m12, n12, mn⟩ := mn_cases hp.l1 hq.l1 h12
  have hl : (movL (turnL (wr t qs)) x).length = qs.length + 1 := by rw [movL_full (trim_turn (trim_wr hq.s0 hq.b0.bt)), turnL_len, wr_len]
  have e1 : qs.length * (44 + 45 * ps.length) = 44 * qs.length + 45 * (ps.length * qs.length) := by rw [Nat.mul_add, Nat.mul_comm ps.length, Nat.mul_left_comm, Nat.mul_comm qs.length 44]
  have e2 : ps.length * (51 + 52 * qs.length) = 51 * ps.length + 52 * (ps.length * qs.length) := by rw [Nat.mul_add, Nat.mul_left_comm, Nat.mul_comm ps.length 51]
  have ok : DT.ResOk (wr s ps) (movL (turnL (wr t qs)) x) (44 + 45 * ps.length) (51 + 52 * qs.length) := by
    refine ⟨by omega, by omega, hp.sz, ?_, by rw [wr_len, hl]; omega, by rw [wr_len, hl, Nat.add_sub_cancel, Nat.add_sub_cancel, e1, e2]; omega⟩
    have := movL_sz (n := 44 + 45 * qs.length) (by omega) (s := x) (by omega) _ (turnL_sz hq.sz) (by rw [turnL_len, wr_len]; omega)
    rw [turnL_len, wr_len] at this
    rw [show 51 + 52 * qs.length = 44 + 45 * qs.length + 7 * (qs.length + 1) by omega]
    exact this
  refine ⟨ok, Nat.lt_of_lt_of_le (ok.lt (M := 2900) ?_) (Nat.pow_le_pow_right (by decide) (by decide))⟩
  rw [wr_len, hl, Nat.add_sub_cancel, Nat.add_sub_cancel, e1, e2]; omega
theorem prods_ok {s t x : Int} {ps qs : Prs} (hp : Rt s ps) (hq : Rt t qs) (h12 : ps.length * qs.length ≤ 12) (hx : x.natAbs ≤ 12) : DT.ResOk (wr s ps) (strL (wr t qs) x) (44 + 45 * ps.length) (51 + 52 * qs.length) ∧ (DT.resL (wr s ps) (strL (wr t qs) x)).natAbs < 2 ^ 3000 := by
  obtain ⟨m12, n12, mn⟩ := mn_cases hp.l1 hq.l1 h12
  have hl : (strL (wr t qs) x).length = qs.length + 1 := by rw [strL_len, wr_len]
  have e1 : qs.length * (44 + 45 * ps.length) = 44 * qs.length + 45 * (ps.length * qs.length) := by rw [Nat.mul_add, Nat.mul_comm ps.length, Nat.mul_left_comm, Nat.mul_comm qs.length 44]
  have e2 : ps.length * (51 + 52 * qs.length) = 51 * ps.length + 52 * (ps.length * qs.length) := by rw [Nat.mul_add, Nat.mul_left_comm, Nat.mul_comm ps.length 51]
  have ok : DT.ResOk (wr s ps) (strL (wr t qs) x) (44 + 45 * ps.length) (51 + 52 * qs.length) := by
    refine ⟨by omega, by omega, hp.sz, ?_, by rw [wr_len, hl]; omega, by rw [wr_len, hl, Nat.add_sub_cancel, Nat.add_sub_cancel, e1, e2]; omega⟩
    have := strL_sz (x := x) (by omega) hq.sz
    rw [wr_len] at this
    exact this.mono (by omega)
  refine ⟨ok, Nat.lt_of_lt_of_le (ok.lt (M := 2900) ?_) (Nat.pow_le_pow_right (by decide) (by decide))⟩
  rw [wr_len, hl, Nat.add_sub_cancel, Nat.add_sub_cancel, e1, e2]; omega
theorem pows_cases : ∀ m, m ≤ 8 → ∀ k, k ≤ 8 → k * (44 + 45 * m) + m * 4 ≤ 3300 := by decide
theorem pows_ok {s x : Int} {ps : Prs} {k : Nat} (hp : Rt s ps) (hm : ps.length ≤ 8) (hk : 1 ≤ k ∧ k ≤ 8) (hx : x.natAbs ≤ 12) : DT.ResOk (wr s ps) (powL x k) (44 + 45 * ps.length) 4 ∧ (DT.resL (wr s ps) (powL x k)).natAbs < 2 ^ 3400 := by
  have hl := powL_len x (show 0 < k by omega)
  have l1 := hp.l1
  have c := pows_cases ps.length hm k hk.2
  have ok : DT.ResOk (wr s ps) (powL x k) (44 + 45 * ps.length) 4 := by
    refine ⟨by omega, by omega, hp.sz, powL_sz (by omega), by rw [wr_len, hl]; omega, by rw [wr_len, hl, Nat.add_sub_cancel, Nat.add_sub_cancel]; omega⟩
  refine ⟨ok, Nat.lt_of_lt_of_le (ok.lt (M := 3300) ?_) (Nat.pow_le_pow_right (by decide) (by decide))⟩
  rw [wr_len, hl, Nat.add_sub_cancel, Nat.add_sub_cancel]; omega
/-! ## the sizes of what through_values makes -/
theorem two_up (n m : Nat) (h : n ≤ m) : (2 : Nat) ^ n ≤ 2 ^ m := Nat.pow_le_pow_right (by decide) h
theorem difF_sz {N B : Nat} {v : Nat → Int} (hv : ∀ x, x ≤ N → (v x).natAbs < 2 ^ B) : ∀ k j, k + j ≤ N → (difF v k j).natAbs < 2 ^ (B + k)
  | 0, j, h => hv j (by omega)
  | k + 1, j, h => by
    have h1 := difF_sz hv k (j + 1) (by omega)
    have h2 := difF_sz hv k j (by omega)
    show (difF v k (j + 1) - difF v k j).natAbs < _
    rw [show B + (k + 1) = B + k + 1 by omega, Nat.pow_succ]
    omega
theorem abs_mul_lt {x y : Int} {n m : Nat} (hx : x.natAbs < 2 ^ n) (hy : y.natAbs < 2 ^ m) : (x * y).natAbs < 2 ^ (n + m) := by
  rw [Int.natAbs_mul, Nat.pow_add]
  exact Nat.lt_of_le_of_lt (Nat.mul_le_mul_left _ (Nat.le_of_lt hy)) (Nat.mul_lt_mul_of_pos_right hx (Nat.two_pow_pos _))
theorem upF_sz : ∀ j k, k + j ≤ 12 → (upF k j).natAbs < 2 ^ (4 * j + 1)
  | 0, k, _ => by show (1 : Int).natAbs < 2 ^ 1; decide
  | j + 1, k, h => by
    have ih := upF_sz j k (by omega)
    rw [show 4 * (j + 1) + 1 = (4 * j + 1) + 4 by omega]
    exact abs_mul_lt ih (by omega)
theorem fall_sz : ∀ k, k ≤ 13 → Sz (4 * k + 1) (fallL k)
  | 0, _ => fun z hz => by rw [List.mem_singleton.mp hz]; decide
  | k + 1, h => by
    have ih := fall_sz k (by omega)
    refine Sz.of fun i _ => ?_
    show (cf (mulL (fallL k) [-(k : Int), 1]) i).natAbs < _
    rw [cf_mulL, cv_lin, Int.mul_one, show 4 * (k + 1) + 1 = (4 * k + 1) + 4 by omega, Nat.pow_add]
    have h1 := ih.cf i
    have h2 := ih.cf (i - 1)
    have h3 : (cf (fallL k) i * -(k : Int)).natAbs ≤ (cf (fallL k) i).natAbs * 12 := by
      rw [Int.natAbs_mul]
      exact Nat.mul_le_mul_left _ (by omega)
    generalize (2 : Nat) ^ (4 * k + 1) = z at *
    split <;> omega
theorem term_sz {N k B : Nat} {v : Nat → Int} (hN : N ≤ 12) (hk : k ≤ N) (hv : ∀ x, x ≤ N → (v x).natAbs < 2 ^ B) : (difF v k 0 * upF k (N - k)).natAbs < 2 ^ (B + 61) :=
  Nat.lt_of_lt_of_le (abs_mul_lt (difF_sz hv k 0 (by omega)) (upF_sz (N - k) k (by omega))) (two_up _ _ (by omega))
theorem one_sz {c : Int} {n : Nat} (h : c.natAbs < 2 ^ n) : Sz n (trimL [c]) := Sz.trim fun z hz => by rw [List.mem_singleton.mp hz]; exact h
theorem thr_sz {N B : Nat} {v : Nat → Int} (hN : N ≤ 12) (hv : ∀ x, x ≤ N → (v x).natAbs < 2 ^ B) : ∀ M, M ≤ N + 1 → Sz (B + 120 + M) (thrL N v M)
  | 0, _ => Sz.nil _
  | M + 1, h => by
    have ih := thr_sz hN hv M (by omega)
    have t1 : (trimL [difF v M 0 * upF M (N - M)]).length ≤ 1 := trimL_len _
    have h2 := (one_sz (term_sz hN (show M ≤ N by omega) hv)).mulL (fall_sz M (by omega))
    have := Sz.addL ih (h2.mono (show B + 61 + (4 * M + 1) + (trimL [difF v M 0 * upF M (N - M)]).length + 1 ≤ B + 120 + M by omega))
    exact this
/-- the sizes of a product of plain factors -/
theorem red_le {p : Int × Int} (h : 0 < p.2) : (red p).1.natAbs ≤ p.1.natAbs ∧ (red p).2.natAbs ≤ p.2.natAbs := by
  obtain ⟨e1, e2⟩ := red_eq (p := p)
  have g0 := gcd_pos' h
  have l : ∀ x y : Int, ((Int.gcd p.1 p.2 : Nat) : Int) * x = y → x.natAbs ≤ y.natAbs := fun x y e => by
    rw [← e, Int.natAbs_mul]
    exact Nat.le_mul_of_pos_left _ (by omega)
  exact ⟨l _ _ e1, l _ _ e2⟩
theorem wf_sz {B : Nat} : ∀ L : Prs, Bp L → (∀ p ∈ L, p.1.natAbs < 2 ^ B ∧ p.2.natAbs < 2 ^ B) → Sz (1 + (B + 1) * L.length) (wf L) := snoc_ind (fun _ _ z hz => by
    rw [List.mem_singleton.mp hz]
    exact Nat.one_lt_two_pow (by omega)) fun L p ih hb h => by
  have h1 := ih hb.init.1 fun q hq => h q (List.mem_append_left _ hq)
  obtain ⟨h2, h3⟩ := h p (List.mem_append_right _ (List.mem_singleton.mpr rfl))
  obtain ⟨r1, r2⟩ := red_le hb.init.2
  rw [wf_snoc, List.length_append, List.length_singleton, show 1 + (B + 1) * (L.length + 1) = 1 + (B + 1) * L.length + B + 1 by rw [Nat.mul_add]; omega]
  exact DT.sz_lin h1 (Nat.lt_of_le_of_lt r1 h2) (Nat.lt_of_le_of_lt r2 h3)
end MY

set_option linter.all false
set_option maxRecDepth 100000
/-! Lists of pairs of ints. -/
namespace RB
open PySem PySem.Spec PyProof.Rows L2
open Evl (Ex)
def Prs (H : Hp) : List Addr → List (Int × Int) → Prop
  | [], [] => True
  | p :: ps, q :: qs => H p = some (.tup [.int q.1, .int q.2]) ∧ Prs H ps qs
  | _, _ => False
theorem Prs.len {H : Hp} : ∀ {ps : List Addr} {qs : List (Int × Int)}, Prs H ps qs → ps.length = qs.length
  | [], [], _ => rfl
  | p :: ps, q :: qs, h => by rw [List.length_cons, List.length_cons, Prs.len h.2]
theorem Prs.ex {H H' : Hp} (e : Ex H H') : ∀ {ps : List Addr} {qs : List (Int × Int)}, Prs H ps qs → Prs H' ps qs
  | [], [], _ => trivial
  | p :: ps, q :: qs, h => ⟨e _ _ h.1, Prs.ex e h.2⟩
theorem Prs.exb {l : Addr} {H H' : Hp} (e : Exb l H H') : ∀ {ps : List Addr} {qs : List (Int × Int)}, l ∉ ps → Prs H ps qs → Prs H' ps qs
  | [], [], _, _ => trivial
  | p :: ps, q :: qs, hn, h => ⟨e _ (fun x => hn (by rw [x]; exact List.mem_cons_self ..)) _ h.1, Prs.exb e (fun x => hn (List.mem_cons_of_mem _ x)) h.2⟩
theorem Prs.append {H : Hp} : ∀ {ps qs : List Addr} {Rs Ss : List (Int × Int)}, Prs H ps Rs → Prs H qs Ss → Prs H (ps ++ qs) (Rs ++ Ss)
  | [], _, [], _, _, h => h
  | p :: ps, _, R :: Rs, _, h, h' => ⟨h.1, Prs.append h.2 h'⟩
theorem Prs.get {H : Hp} : ∀ {ps : List Addr} {qs : List (Int × Int)} {i : Nat} {p : Addr}, Prs H ps qs → ps[i]? = some p → ∃ q, qs[i]? = some q ∧ H p = some (.tup [.int q.1, .int q.2])
  | p :: ps, q :: qs, 0, r, h, e => by
    simp only [List.getElem?_cons_zero, Option.some.injEq] at e
    exact ⟨q, rfl, by rw [← e]; exact h.1⟩
  | p :: ps, q :: qs, i + 1, r, h, e => by
    simp only [List.getElem?_cons_succ] at e
    obtain ⟨s, h1, h2⟩ := Prs.get (i := i) h.2 e
    exact ⟨s, by simpa using h1, h2⟩
theorem Prs.take {H : Hp} : ∀ (n : Nat) {ps : List Addr} {qs : List (Int × Int)}, Prs H ps qs → Prs H (ps.take n) (qs.take n)
  | 0, _, _, _ => by rw [List.take_zero, List.take_zero]; trivial
  | n + 1, [], [], _ => trivial
  | n + 1, p :: ps, q :: qs, h => ⟨h.1, Prs.take n h.2⟩
theorem Prs.flat {H : Hp} {ps : List Addr} {qs : List (Int × Int)} (h : Prs H ps qs) : ∀ n : Nat, Prs H (List.replicate n ps).flatten (List.replicate n qs).flatten
  | 0 => trivial
  | n + 1 => by
    rw [List.replicate_succ, List.replicate_succ, List.flatten_cons, List.flatten_cons]
    exact Prs.append h (Prs.flat h n)
theorem r_gtup {K : PySem.W.Frag} {n : Nat} {t : TGs} {a : Addr} {xs : List V} {σ : L2.St} {H : Hp} {Q : L2.St → Hp → Prop} (h : H a = some (.tup xs)) (hn : xs.length = n) (q : t xs σ H Q) : gTup K n t (.ref a) σ H Q := ⟨a, xs, rfl, .inl (.inl h), hn, q⟩
theorem r_gcons' {t : TG} {u : TGs} {v : V} {r : List V} {σ : L2.St} {H : Hp} {Q : L2.St → Hp → Prop} (h : t v σ H fun σ' H' => u r σ' H' Q) : gCons t u (v :: r) σ H Q := ⟨v, r, rfl, h⟩
theorem r_gnil' {σ : L2.St} {H : Hp} {Q : L2.St → Hp → Prop} (h : Q σ H) : gNil [] σ H Q := ⟨rfl, h⟩
end RB

set_option linter.all false
set_option maxRecDepth 100000
set_option maxHeartbeats 4000000
set_option exponentiation.threshold 100000
namespace RP
open PySem PySem.Spec PyProof.Rows L2 RB
open Evl (Ex rLenS rListS rMax2 tCut pss_cut)
local macro_rules | `(tactic| walk_at "ir") => `(tactic| first
  | assumption
  | exact IsR.ex (by assumption) (by walk_at "ir"))
local macro_rules | `(tactic| walk_at "hp") => `(tactic| first
  | assumption
  | exact hx_e (by assumption) (by walk_at "hp")
  | exact hx_b (by assumption) (by walk_at "ne") (by walk_at "hp"))
local macro_rules | `(tactic| walk_at "ne") => `(tactic| first
  | assumption
  | exact Ne.symm (by assumption)
  | exact ne_1 (by assumption) (by walk_at "hp")
  | exact ne_2 (by assumption) (by walk_at "hp"))
local macro_rules | `(tactic| walk_at "sq") => `(tactic| first
  | assumption
  | exact Fx.l (by assumption) (by assumption)
  | exact Evl.Ex.l (by assumption) (by assumption)
  | exact SqL.inj (by walk_at "hp"))
local macro_rules | `(tactic| walk_at "rd") => `(tactic| repeat (first
  | with_reducible refine r_seq ?_
  | with_reducible refine r_asg ?_
  | with_reducible refine r_gn ?_
  | ((with_reducible refine' r_var ?h ?_); (case h => exact rfl))
  | with_reducible refine r_c ?_
  | with_reducible refine r_op ?_
  | with_reducible refine r_un ?_
  | with_reducible refine r_add ?_
  | with_reducible refine r_sub ?_
  | ((with_reducible refine' r_pow ?h ?_); (case h => exact ⟨by decide, by decide, by decide⟩))
  | ((with_reducible refine' r_mod ?h ?_); (case h => first | decide | omega))
  | ((with_reducible refine' r_div ?h ?_); (case h => exact ⟨by decide, by decide⟩))
  | with_reducible refine r_lc ?_
  | ((with_reducible refine' r_cListA ?h ?_); (case h => walk_at "sq"))
  | with_reducible refine r_lt ?_
  | with_reducible refine r_le ?_
  | with_reducible refine r_gt ?_
  | with_reducible refine r_ge ?_
  | with_reducible refine r_eqI ?_
  | with_reducible refine r_neI ?_
  | with_reducible refine r_eqB ?_
  | with_reducible refine r_eqS ?_
  | with_reducible refine r_neg ?_
  | with_reducible refine r_ret ?_
  | with_reducible refine r_ifS ?_
  | with_reducible refine r_test ?_
  | with_reducible refine r_B ?_
  | with_reducible refine r_bl ?_
  | with_reducible refine r_int ?_
  | with_reducible refine r_cb ?_
  | with_reducible refine r_cons ?_
  | with_reducible refine r_nil ?_
  | with_reducible refine r_abs ?_
  | with_reducible refine r_max2 ?_
  | with_reducible refine r_min2 ?_
  | ((with_reducible refine' r_lenI ?h ?_); (case h => walk_at "sq"))
  | ((with_reducible refine' r_len ?h ?_); (case h => walk_at "sq"))
  | with_reducible refine r_tru ?_
  | with_reducible refine r_rev ?_
  | with_reducible refine r_iRng3 ?_
  | ((with_reducible refine' r_ixL ?h ?a ?_); (case h => walk_at "sq"); (case a => assumption))
  | ((with_reducible refine' r_ixT ?h ?a ?_); (case h => walk_at "sq"); (case a => assumption))
  | with_reducible refine r_intI ?_
  | with_reducible refine r_intB ?_
  | with_reducible refine r_call ?_
  | with_reducible refine r_lst ?_
  | with_reducible refine r_tup ?_
  | with_reducible refine r_drop ?_
  | with_reducible refine r_and ?_
  | with_reducible refine r_or ?_
  | with_reducible refine r_not ?_
  | with_reducible refine r_andV ?_
  | with_reducible refine r_orV ?_
  | with_reducible refine r_notV ?_
  | with_reducible refine r_if ?_
  | with_reducible refine r_bm ?_
  | with_reducible refine r_bm0 ?_
  | with_reducible refine r_sub_ ?_
  | with_reducible refine r_sl ?_
  | with_reducible refine r_part ?_
  | with_reducible refine r_nopart ?_
  | with_reducible refine r_par ?_
  | with_reducible refine r_par2 ?_
  | with_reducible refine r_for ?_
  | with_reducible refine r_iList ?_
  | ((with_reducible refine' r_iListA ?h ?_); (case h => walk_at "sq"))
  | with_reducible refine r_iTup ?_
  | ((with_reducible refine' r_iTupA ?h ?_); (case h => walk_at "sq"))
  | with_reducible refine r_iRng1 ?_
  | with_reducible refine r_iRng2 ?_
  | with_reducible refine r_iRev ?_
  | ((with_reducible refine' r_iRevA ?h ?_); (case h => walk_at "sq"))
  | with_reducible refine r_iEnum ?_
  | ((with_reducible refine' r_iEnumA ?h ?_); (case h => walk_at "sq"))
  | with_reducible refine r_iRevR ?_
  | with_reducible refine r_rg1 ?_
  | with_reducible refine r_make ?_
  | with_reducible refine r_fld ?_
  | with_reducible refine r_sfld ?_
  | with_reducible refine r_meth ?_
  | ((with_reducible refine' r_top ?c ?n ?h ?_); (case c => assumption); (case n => assumption); (case h => walk_at "ir"))
  | ((with_reducible refine' r_bottom ?c ?n ?h ?_); (case c => assumption); (case n => assumption); (case h => walk_at "ir"))
  | ((with_reducible refine' r_methR ?h ?h1 ?h2 ?_); (case h => walk_at "ir"); (case h1 => decide +kernel); (case h2 => decide +kernel))
  | with_reducible refine r_next ?_
  | ((with_reducible refine' r_ty ?h ?_); (case h => exact tyL (by walk_at "hp")))
  | with_reducible refine i_t ?_
  | with_reducible refine i_f ?_
  | with_reducible refine i_nt ?_
  | with_reducible refine i_nf ?_
  | walk_at "call"))
/-! #### shared -/
--USE MG
def sp_shared (K : PySem.W.Frag) (Cof : String → Addr) : Sp := fun vs H Q _ => ∃ (a : Addr) (ns : List Int), vs = [.ref a] ∧ SqL K H a (ns.map V.int) ∧ Q (.int (MG.gcdL ns)) H
def t_shared (K : PySem.W.Frag) (Cof : String → Addr) (E : XK) : TS :=
  tSeq (tAsg (tC (.int 0)) (gName 1))
  (tSeq (tFor (iList K (tVar 0)) (gName 2) (tWhile (tTest (tOp rNe (tVar 2) (tC (.int 0)))) (tSeq (tAsg (tOp rMod (tVar 1) (tVar 2)) (gName 3))
  (tSeq (tAsg (tVar 2) (gName 1))
  (tAsg (tVar 3) (gName 2))))))
  (tRet (tCB rAbs (tCons (tVar 1) (tNil)))))

section
variable {K : PySem.W.Frag} {Cof : String → Addr} {vs : List V} {H : Hp} {Q : VK} {E : XK}
theorem len_shared (h : sp_shared K Cof vs H Q E) : vs.length = 1 := by
  obtain ⟨a, ns, rfl, _⟩ := h; rfl
theorem rd_shared (h : sp_shared K Cof vs H Q E) : t_shared K Cof E { nx := fun _ H' => Q .non H', rt := Q } (start ["row", "found", "one", "rest"] vs) H := by
  obtain ⟨a, ns, rfl, hS, q⟩ := h
  unfold t_shared
  walk_at "rd"
  refine loop_ints (ns := ns) (fun i σ' H' => ∃ (f : Int) (u r : Option V), σ' = [some (.ref a), some (.int f), u, r] ∧ H' = H ∧ f.natAbs = MG.gcdN (ns.take i)) ⟨0, none, none, rfl, rfl, rfl⟩ (fun i σ' H' _ hp => ?_) (fun i x σ' H' hx hp => ?_) (fun σ' H' hp => ?_)
  · obtain ⟨f, u, r, rfl, rfl, _⟩ := hp; exact hS
  · obtain ⟨f, u, r, rfl, rfl, hf⟩ := hp
    refine r_while (fun m σ2 H2 => ∃ (f o : Int) (r : Option V), σ2 = [some (.ref a), some (.int f), some (.int o), r] ∧ H2 = H' ∧ m = o.natAbs ∧ Int.gcd f o = MG.gcdN (ns.take (i + 1))) x.natAbs ⟨f, x, r, rfl, rfl, rfl, ?_⟩ (fun m σ2 H2 hw => ?_)
    · rw [MG.gcdN_take hx, ← hf]; rfl
    · obtain ⟨f, o, r, rfl, rfl, rfl, hg⟩ := hw
      walk_at "rd"
      refine ite_nd (fun h => wh_in ?_) (fun h => ?_)
      · walk_at "rd"
        exact ⟨_, MG.fmod_lt h, o, f.fmod o, _, rfl, rfl, rfl, by rw [MG.gcd_fmod]; exact hg⟩
      · refine ⟨f, _, _, rfl, rfl, ?_⟩
        rw [← hg, h, Int.gcd_zero_right]
  · obtain ⟨f, u, r, rfl, rfl, hf⟩ := hp
    walk_at "rd"
    rw [List.take_length] at hf
    have e : (if f < 0 then -f else f) = MG.gcdL ns := by
      unfold MG.gcdL
      rw [← hf]
      split <;> omega
    rw [e]
    exact q
end
theorem c_shared {K : PySem.W.Frag} {Cof : String → Addr} {H : Hp} {Q : VK} {E : XK} {a : Addr} {ns : List Int} (h : SqL K H a (ns.map V.int)) (q : Q (.int (MG.gcdL ns)) H) : sp_shared K Cof [.ref a] H Q E := ⟨a, ns, rfl, h, q⟩
local macro_rules | `(tactic| walk_at "call") => `(tactic| ((with_reducible refine' c_shared ?h ?_); (case h => walk_at "sq")))

/-! #### poly -/
--USE ML
def sp_poly (K : PySem.W.Frag) (Cof : String → Addr) : Sp := fun vs H Q _ => ∃ (a : Addr) (ns : List Int), vs = [.ref a] ∧ SqL K H a (ns.map V.int) ∧ ns.length ≤ 1000000 ∧ RetI (ML.trimL ns) H Q
def t_poly (K : PySem.W.Frag) (Cof : String → Addr) (E : XK) : TS :=
  tSeq (tAsg (tCB (rLenS K) (tCons (tVar 0) (tNil))) (gName 1))
  (tSeq (tWhile (tAnd (tTest (tOp rGt (tVar 1) (tC (.int 0)))) (tTest (tOp rEq (tOp (rIxL K) (tVar 0) (tOp rISub (tVar 1) (tC (.int 1)))) (tC (.int 0))))) (tAsg (tOp rISub (tVar 1) (tC (.int 1))) (gName 1)))
  (tRet (tSl (rSlL K) (tVar 0) (tNoPart) (tPart (tVar 1)))))

section
variable {K : PySem.W.Frag} {Cof : String → Addr} {vs : List V} {H : Hp} {Q : VK} {E : XK}
theorem len_poly (h : sp_poly K Cof vs H Q E) : vs.length = 1 := by
  obtain ⟨a, ns, rfl, _⟩ := h; rfl
theorem rd_poly (h : sp_poly K Cof vs H Q E) : t_poly K Cof E { nx := fun _ H' => Q .non H', rt := Q } (start ["row", "size"] vs) H := by
  obtain ⟨a, ns, rfl, hS, hl, q⟩ := h
  unfold t_poly
  walk_at "rd"
  try rw [List.length_map]
  refine r_while (fun m σ' H' => σ' = [some (.ref a), some (.int (m : Int))] ∧ H' = H ∧ m ≤ ns.length ∧ ∀ k, m ≤ k → ML.cf ns k = 0) ns.length ⟨rfl, rfl, Nat.le_refl _, fun k hk => ML.cf_beyond hk⟩ (fun m σ' H' hw => ?_)
  obtain ⟨rfl, rfl, hm, h0⟩ := hw
  walk_at "rd"
  refine ite_d (fun hp => ?_) (fun hp => ?_)
  · walk_at "rd"
    refine r_ixI hS (by omega) (by omega) ?_
    walk_at "rd"
    have e : ns.getD ((m : Int) - 1).toNat 0 = ML.cf ns (m - 1) := by
      unfold ML.cf; congr 1; omega
    rw [e]
    refine ite_d (fun hz => wh_in ?_) (fun hz => ?_)
    · walk_at "rd"
      have e1 : (m : Int) - 1 = ((m - 1 : Nat) : Int) := by omega
      exact ⟨m - 1, by omega, by rw [e1]; rfl, rfl, by omega, fun k hk => by
        by_cases hk' : k = m - 1
        · rw [hk', hz]
        · exact h0 k (by omega)⟩
    · walk_at "rd"
      refine r_slI hS fun p H' hp e h => q p H' hp e ?_
      rw [ML.trimL_take hm h0 (.inr hz), ← sliceI_to hm]
      exact h
  · walk_at "rd"
    refine r_slI hS fun p H' hp e h => q p H' hp e ?_
    rw [ML.trimL_take hm h0 (.inl (by omega)), ← sliceI_to hm]
    exact h
theorem c_poly {a : Addr} {ns : List Int} (h : SqL K H a (ns.map V.int)) (hl : ns.length ≤ 1000000) (q : ∀ p H', H p = none → Ex H H' → H' p = some (.lst ((ML.trimL ns).map V.int)) → Q (.ref p) H') : sp_poly K Cof [.ref a] H Q E := ⟨a, ns, rfl, h, hl, q⟩
end

/-! #### degree -/
def sp_degree (K : PySem.W.Frag) (Cof : String → Addr) : Sp := fun vs H Q _ => ∃ (a : Addr) (ns : List Int), vs = [.ref a] ∧ SqL K H a (ns.map V.int) ∧ Q (.int ((ns.length : Int) - 1)) H
def t_degree (K : PySem.W.Frag) (Cof : String → Addr) (E : XK) : TS :=
  tRet (tOp rISub (tCB (rLenS K) (tCons (tVar 0) (tNil))) (tC (.int 1)))

section
variable {K : PySem.W.Frag} {Cof : String → Addr} {vs : List V} {H : Hp} {Q : VK} {E : XK}
theorem len_degree (h : sp_degree K Cof vs H Q E) : vs.length = 1 := by
  obtain ⟨a, ns, rfl, _⟩ := h; rfl
theorem rd_degree (h : sp_degree K Cof vs H Q E) : t_degree K Cof E { nx := fun _ H' => Q .non H', rt := Q } (start ["P"] vs) H := by
  obtain ⟨a, ns, rfl, hS, q⟩ := h
  unfold t_degree
  walk_at "rd"
  try rw [List.length_map]
  exact q
theorem c_degree {a : Addr} {ns : List Int} (h : SqL K H a (ns.map V.int)) (q : Q (.int ((ns.length : Int) - 1)) H) : sp_degree K Cof [.ref a] H Q E := ⟨a, ns, rfl, h, q⟩
end
local macro_rules | `(tactic| walk_at "call") => `(tactic| ((with_reducible refine' c_degree ?h ?_); (case h => walk_at "sq")))

/-! #### coefficient_at -/
--USE ML
def sp_coefficient_at (K : PySem.W.Frag) (Cof : String → Addr) : Sp := fun vs H Q _ => ∃ (a : Addr) (ns : List Int) (k : Nat), vs = [.ref a, .int (k : Int)] ∧ SqL K H a (ns.map V.int) ∧ Q (.int (ML.cf ns k)) H
def t_coefficient_at (K : PySem.W.Frag) (Cof : String → Addr) (E : XK) : TS :=
  tSeq (tIfS (tTest (tOp rLt (tVar 1) (tCB (rLenS K) (tCons (tVar 0) (tNil))))) (tRet (tOp (rIxL K) (tVar 0) (tVar 1))) (tNext))
  (tRet (tC (.int 0)))

section
variable {K : PySem.W.Frag} {Cof : String → Addr} {vs : List V} {H : Hp} {Q : VK} {E : XK}
theorem len_coefficient_at (h : sp_coefficient_at K Cof vs H Q E) : vs.length = 2 := by
  obtain ⟨a, ns, k, rfl, _⟩ := h; rfl
theorem rd_coefficient_at (h : sp_coefficient_at K Cof vs H Q E) : t_coefficient_at K Cof E { nx := fun _ H' => Q .non H', rt := Q } (start ["P", "k"] vs) H := by
  obtain ⟨a, ns, k, rfl, hS, q⟩ := h
  unfold t_coefficient_at
  walk_at "rd"
  try rw [List.length_map]
  refine ite_d (fun h => ?_) (fun h => ?_)
  · walk_at "rd"
    exact r_ixI hS (by omega) h (by rw [Int.toNat_natCast]; exact q)
  · walk_at "rd"
    rw [ML.cf_beyond (by omega)] at q
    exact q
theorem c_coefficient_at {a : Addr} {ns : List Int} {k : Nat} (h : SqL K H a (ns.map V.int)) (q : Q (.int (ML.cf ns k)) H) : sp_coefficient_at K Cof [.ref a, .int (k : Int)] H Q E := ⟨a, ns, k, rfl, h, q⟩
end

/-! #### added -/
def sp_added (K : PySem.W.Frag) (Cof : String → Addr) : Sp := fun vs H Q _ => ∃ (a b : Addr) (P R : List Int), vs = [.ref a, .ref b] ∧ SqL K H a (P.map V.int) ∧ SqL K H b (R.map V.int) ∧ P.length ≤ 100000 ∧ R.length ≤ 100000 ∧ RetI (ML.addL P R) H Q
def t_added (K : PySem.W.Frag) (Cof : String → Addr) (E : XK) : TS :=
  tRet (tCall (sp_poly K Cof) [] E0 (tCons (tLc (iRng1 (tCons (tCB rMax2 (tCons (tCB (rLenS K) (tCons (tVar 0) (tNil))) (tCons (tCB (rLenS K) (tCons (tVar 1) (tNil))) (tNil)))) (tNil))) (gName 2) (tYes) (tOp rIAdd (tCall (sp_coefficient_at K Cof) [] E0 (tCons (tVar 0) (tCons (tVar 2) (tNil)))) (tCall (sp_coefficient_at K Cof) [] E0 (tCons (tVar 1) (tCons (tVar 2) (tNil))))) [2]) (tNil)))

section
variable {K : PySem.W.Frag} {Cof : String → Addr} {vs : List V} {H : Hp} {Q : VK} {E : XK}
theorem len_added (h : sp_added K Cof vs H Q E) : vs.length = 2 := by
  obtain ⟨a, b, P, R, rfl, _⟩ := h; rfl
theorem rd_added (h : sp_added K Cof vs H Q E) : t_added K Cof E { nx := fun _ H' => Q .non H', rt := Q } (start ["P", "Q", "k"] vs) H := by
  obtain ⟨a, b, P, R, rfl, hA, hB, lA, lB, q⟩ := h
  unfold t_added
  walk_at "rd"
  try rw [List.length_map, List.length_map]
  have em : (if (R.length : Int) > (P.length : Int) then (R.length : Int) else (P.length : Int)) = ((max P.length R.length : Nat) : Int) := by
    split <;> omega
  rw [em]
  refine r_cRng1A (by omega) (by omega) ?_
  rw [Int.toNat_natCast]
  refine lc_rangeI (fun k => ML.cf P k + ML.cf R k) (by omega) (fun i hi H1 e1 Q' k => ?_) (fun p H1 hp e1 h1 => ?_)
  · walk_at "rd"
    refine c_coefficient_at (e1.l hA) ?_
    walk_at "rd"
    refine c_coefficient_at (e1.l hB) ?_
    walk_at "rd"
    exact k _ (Evl.Ex.refl _)
  · walk_at "rd"
    refine c_poly (SqL.inj h1) (by rw [List.length_map, List.length_range]; omega) fun p2 H2 hp2 e2 h2 => ?_
    exact q p2 H2 (Evl.fresh_back e1 hp2) (e1.trans e2) h2
theorem c_added {a b : Addr} {P R : List Int} (hA : SqL K H a (P.map V.int)) (hB : SqL K H b (R.map V.int)) (lA : P.length ≤ 100000) (lB : R.length ≤ 100000) (q : ∀ p H', H p = none → Ex H H' → H' p = some (.lst ((ML.addL P R).map V.int)) → Q (.ref p) H') : sp_added K Cof [.ref a, .ref b] H Q E := ⟨a, b, P, R, rfl, hA, hB, lA, lB, q⟩
end

/-! #### multiplied -/
def sp_multiplied (K : PySem.W.Frag) (Cof : String → Addr) : Sp := fun vs H Q _ => ∃ (a b : Addr) (P R : List Int) (n m : Nat), vs = [.ref a, .ref b] ∧ SqL K H a (P.map V.int) ∧ SqL K H b (R.map V.int) ∧ P.length ≤ 100000 ∧ R.length ≤ 100000 ∧ ML.Sz n P ∧ ML.Sz m R ∧ (0 < n ∧ 0 < m ∧ n + m ≤ 1000000) ∧ RetI (ML.mulL P R) H Q
def t_multiplied (K : PySem.W.Frag) (Cof : String → Addr) (E : XK) : TS :=
  tSeq (tAsg (tOp rRep (tLst (tCons (tC (.int 0)) (tNil))) (tOp rIAdd (tCB (rLenS K) (tCons (tVar 0) (tNil))) (tCB (rLenS K) (tCons (tVar 1) (tNil))))) (gName 2))
  (tSeq (tFor (iRng1 (tCons (tCB (rLenS K) (tCons (tVar 0) (tNil))) (tNil))) (gName 3) (tFor (iRng1 (tCons (tCB (rLenS K) (tCons (tVar 1) (tNil))) (tNil))) (gName 4) (tAsg (tOp rIAdd (tOp (rIxL K) (tVar 2) (tOp rIAdd (tVar 3) (tVar 4))) (tOp rMul (tOp (rIxL K) (tVar 0) (tVar 3)) (tOp (rIxL K) (tVar 1) (tVar 4)))) (gSub (tVar 2) (tOp rIAdd (tVar 3) (tVar 4)) rSetL))))
  (tRet (tCall (sp_poly K Cof) [] E0 (tCons (tVar 2) (tNil)))))

section
variable {K : PySem.W.Frag} {Cof : String → Addr} {vs : List V} {H : Hp} {Q : VK} {E : XK}
theorem len_multiplied (h : sp_multiplied K Cof vs H Q E) : vs.length = 2 := by
  obtain ⟨a, b, P, R, n, m, rfl, _⟩ := h; rfl
theorem rd_multiplied (h : sp_multiplied K Cof vs H Q E) : t_multiplied K Cof E { nx := fun _ H' => Q .non H', rt := Q } (start ["P", "Q", "row", "k", "i"] vs) H := by
  obtain ⟨a, b, P, R, n, m, rfl, hA, hB, lA, lB, sA, sB, ⟨n0, m0, nm⟩, q⟩ := h
  unfold t_multiplied
  walk_at "rd"
  refine r_lstK fun p0 H0 hp0 e0 h0 => ?_
  have hA0 := e0.l hA
  have hB0 := e0.l hB
  walk_at "rd"
  try rw [List.length_map, List.length_map]
  refine r_rep1 h0 (by omega) fun p H1 hp e1 h1 => ?_
  have hA1 := e1.l hA0
  have hB1 := e1.l hB0
  walk_at "rd"
  try rw [List.length_map]
  refine r_iRng1A (by omega) (by omega) ?_
  rw [Int.toNat_natCast]
  refine loop_range0 (fun k σ' H' => ∃ (rs : List Int) (u v : Option V), σ' = [some (.ref a), some (.ref b), some (.ref p), u, v] ∧ Ex H0 H' ∧ H' p = some (.lst (rs.map V.int)) ∧ rs.length = P.length + R.length ∧ ∀ j, ML.cf rs j = ML.pcv P R k j)
    ⟨List.replicate (P.length + R.length) 0, none, none, rfl, e1, by rw [List.map_replicate]; exact h1, by rw [List.length_replicate], fun j => by rw [ML.cf_rep0]; rfl⟩ (fun k σ' H' hk hp' => ?_) (fun σ' H' hp' => ?_)
  · obtain ⟨rs, u, v, rfl, e2, h2, l2, c2⟩ := hp'
    walk_at "rd"
    try rw [List.length_map]
    refine r_iRng1A (by omega) (by omega) ?_
    rw [Int.toNat_natCast]
    refine loop_range0 (fun i σ2 H2 => ∃ (rs : List Int) (v : Option V), σ2 = [some (.ref a), some (.ref b), some (.ref p), some (.int (k : Int)), v] ∧ Ex H0 H2 ∧ H2 p = some (.lst (rs.map V.int)) ∧ rs.length = P.length + R.length ∧ ∀ j, ML.cf rs j = ML.pcw P R k i j)
      ⟨rs, v, rfl, e2, h2, l2, fun j => by rw [ML.pcw_zero]; exact c2 j⟩ (fun i σ2 H2 hi hp2 => ?_) (fun σ2 H2 hp2 => ?_)
    · obtain ⟨rs, v, rfl, e3, h3, l3, c3⟩ := hp2
      have hA3 := e3.l hA0
      have hB3 := e3.l hB0
      have eki : (k : Int) + (i : Int) = ((k + i : Nat) : Int) := by omega
      walk_at "rd"
      rw [eki]
      refine r_ixI (SqL.inj h3) (by omega) (by omega) ?_
      walk_at "rd"
      refine r_ixI hA3 (by omega) (by omega) ?_
      walk_at "rd"
      refine r_ixI hB3 (by omega) (by omega) ?_
      rw [Int.toNat_natCast, Int.toNat_natCast, Int.toNat_natCast]
      refine r_mul (wide_mul (sA.cf k) (sB.cf i) n0 m0 nm) ?_
      walk_at "rd"
      rw [eki]
      refine r_setL h3 (Evl.ixN_nat (by rw [List.length_map]; omega)) fun H4 b4 h4 => ?_
      refine ⟨rs.set (k + i) (ML.cf rs (k + i) + ML.cf P k * ML.cf R i), _, rfl, e3.mutb b4 hp, by rw [List.map_set]; exact h4, by rw [List.length_set]; exact l3, fun j => ?_⟩
      rw [ML.cf_set (by omega), ML.pcw_step, c3]
      by_cases hj : j = k + i
      · rw [if_pos hj, if_pos hj, hj]
      · rw [if_neg hj, if_neg hj, c3]
    · obtain ⟨rs, v, rfl, e3, h3, l3, c3⟩ := hp2
      exact ⟨rs, _, v, rfl, e3, h3, l3, fun j => by rw [c3, ML.pcw_full]⟩
  · obtain ⟨rs, u, v, rfl, e2, h2, l2, c2⟩ := hp'
    walk_at "rd"
    refine c_poly (SqL.inj h2) (by omega) fun p3 H3 hp3 e3 h3 => ?_
    rw [ML.mulL_of l2 c2] at h3
    exact q p3 H3 (Evl.fresh_back (e0.trans e2) hp3) ((e0.trans e2).trans e3) h3
theorem c_multiplied {a b : Addr} {P R : List Int} (n m : Nat) (hA : SqL K H a (P.map V.int)) (hB : SqL K H b (R.map V.int)) (lA : P.length ≤ 100000) (lB : R.length ≤ 100000) (sA : ML.Sz n P) (sB : ML.Sz m R) (h0 : 0 < n ∧ 0 < m ∧ n + m ≤ 1000000) (q : ∀ p H', H p = none → Ex H H' → H' p = some (.lst ((ML.mulL P R).map V.int)) → Q (.ref p) H') : sp_multiplied K Cof [.ref a, .ref b] H Q E := ⟨a, b, P, R, n, m, rfl, hA, hB, lA, lB, sA, sB, h0, q⟩
end

/-! #### turned -/
--USE ML
def sp_turned (K : PySem.W.Frag) (Cof : String → Addr) : Sp := fun vs H Q _ => ∃ (a : Addr) (P : List Int) (n : Nat), vs = [.ref a] ∧ SqL K H a (P.map V.int) ∧ P.length ≤ 100000 ∧ ML.Sz n P ∧ (0 < n ∧ n ≤ 100000) ∧ RetI (ML.turnL P) H Q
def t_turned (K : PySem.W.Frag) (Cof : String → Addr) (E : XK) : TS :=
  tSeq (tAsg (tCB (rListS K) (tCons (tVar 0) (tNil))) (gName 1))
  (tSeq (tFor (iRng3 (tCons (tC (.int 1)) (tCons (tCB (rLenS K) (tCons (tVar 0) (tNil))) (tCons (tC (.int 2)) (tNil))))) (gName 2) (tAsg (tUn rNeg (tOp (rIxL K) (tVar 0) (tVar 2))) (gSub (tVar 1) (tVar 2) rSetL)))
  (tRet (tVar 1)))

section
variable {K : PySem.W.Frag} {Cof : String → Addr} {vs : List V} {H : Hp} {Q : VK} {E : XK}
theorem len_turned (h : sp_turned K Cof vs H Q E) : vs.length = 1 := by
  obtain ⟨a, P, n, rfl, _⟩ := h; rfl
theorem rd_turned (h : sp_turned K Cof vs H Q E) : t_turned K Cof E { nx := fun _ H' => Q .non H', rt := Q } (start ["P", "row", "k"] vs) H := by
  obtain ⟨a, P, n, rfl, hS, hl, sz, ⟨n0, n1⟩, q⟩ := h
  unfold t_turned
  have f0 := Fx.refl H
  walk_at "rd"
  refine r_list hS fun p1 H1 hp1 e1 h1 => ?_
  have f1 := f0.ex e1
  walk_at "rd"
  have en : (((P.length : Int) - 1 + 1) / 2).toNat = P.length / 2 := by omega
  refine r_iRng3A (rg2 (by decide) (by decide) (by omega) (by omega)) ?_
  rw [en]
  refine loop_rangeC (fun i σ' H' => ∃ (rs : List Int) (u : Option V), σ' = [some (.ref a), some (.ref p1), u] ∧ Fx H H' ∧ H' p1 = some (.lst (rs.map V.int)) ∧ rs.length = P.length ∧ ∀ k, ML.cf rs k = if k % 2 = 1 ∧ k < 2 * i + 1 then - ML.cf P k else ML.cf P k)
    ⟨P, _, rfl, f1, h1, rfl, fun k => by rw [if_neg (by omega)]⟩ (fun i σ' H' hi hp' => ?_) (fun σ' H' hp' => ?_)
  · obtain ⟨rs, u, rfl, f2, h2, l2, c2⟩ := hp'
    have e : (1 : Int) + (i : Int) * 2 = ((2 * i + 1 : Nat) : Int) := by omega
    walk_at "rd"
    rw [e]
    refine r_ixI (f2.l hS) (by omega) (by omega) ?_
    rw [Int.toNat_natCast]
    walk_at "rd"
    refine r_setL h2 (Evl.ixN_nat (by rw [List.length_map]; omega)) fun H4 b4 h4 => ?_
    refine ⟨rs.set (2 * i + 1) (- ML.cf P (2 * i + 1)), _, rfl, f2.mut b4 hp1, by rw [List.map_set]; exact h4, by rw [List.length_set]; exact l2, fun k => ?_⟩
    rw [ML.cf_set (by omega), c2]
    by_cases hk : k = 2 * i + 1
    · subst hk
      rw [if_pos (rfl : 2 * i + 1 = 2 * i + 1), if_pos (by omega)]
    · rw [if_neg hk]
      by_cases h3 : k % 2 = 1 ∧ k < 2 * i + 1
      · rw [if_pos h3, if_pos (by omega)]
      · rw [if_neg h3, if_neg (by omega)]
  · obtain ⟨rs, u, rfl, f2, h2, l2, c2⟩ := hp'
    walk_at "rd"
    have er : rs = ML.turnL P := ML.ext (by rw [l2, ML.turnL_len]) fun k hk => by
      rw [c2, ML.cf_turnL]
      by_cases h3 : k % 2 = 1
      · rw [if_pos h3, if_pos (by omega)]
      · rw [if_neg h3, if_neg (by omega)]
    rw [er] at h2
    exact q p1 H' hp1 f2.to h2
theorem c_turned {a : Addr} {P : List Int} (n : Nat) (h : SqL K H a (P.map V.int)) (hl : P.length ≤ 100000) (sz : ML.Sz n P) (hn : 0 < n ∧ n ≤ 100000) (q : ∀ p H', H p = none → Ex H H' → H' p = some (.lst ((ML.turnL P).map V.int)) → Q (.ref p) H') : sp_turned K Cof [.ref a] H Q E := ⟨a, P, n, rfl, h, hl, sz, hn, q⟩
end

/-! #### shrunk -/
--USE MP
def sp_shrunk (K : PySem.W.Frag) (Cof : String → Addr) : Sp := fun vs H Q _ => ∃ (a : Addr) (P : List Int), vs = [.ref a] ∧ SqL K H a (P.map V.int) ∧ P.length ≤ 100000 ∧ (P ≠ [] → MG.gcdL P ≠ 0 ∧ (MG.gcdL P).natAbs.log2 < 9000) ∧ RetI (MP.shrunkL P) H Q
def t_shrunk (K : PySem.W.Frag) (Cof : String → Addr) (E : XK) : TS :=
  tSeq (tAsg (tCall (sp_shared K Cof) [] E0 (tCons (tVar 0) (tNil))) (gName 1))
  (tRet (tLc (iList K (tVar 0)) (gName 2) (tYes) (tOp rDiv (tVar 2) (tVar 1)) [2]))

section
variable {K : PySem.W.Frag} {Cof : String → Addr} {vs : List V} {H : Hp} {Q : VK} {E : XK}
theorem len_shrunk (h : sp_shrunk K Cof vs H Q E) : vs.length = 1 := by
  obtain ⟨a, P, rfl, _⟩ := h; rfl
theorem rd_shrunk (h : sp_shrunk K Cof vs H Q E) : t_shrunk K Cof E { nx := fun _ H' => Q .non H', rt := Q } (start ["P", "part", "one"] vs) H := by
  obtain ⟨a, P, rfl, hS, hl, hg, q⟩ := h
  unfold t_shrunk
  walk_at "rd"
  refine lc_ints (fun x => x.fdiv (MG.gcdL P)) hS (by omega) (fun x hx H1 e1 Q' k' => ?_) (fun p H1 hp e1 h1 => q p H1 hp e1 h1)
  have hn : P ≠ [] := fun e => by rw [e] at hx; cases hx
  walk_at "rd"
  refine r_div (hg hn) ?_
  exact k' _ (Evl.Ex.refl _)
theorem c_shrunk {a : Addr} {P : List Int} (h : SqL K H a (P.map V.int)) (hl : P.length ≤ 100000) (hg : P ≠ [] → MG.gcdL P ≠ 0 ∧ (MG.gcdL P).natAbs.log2 < 9000) (q : ∀ p H', H p = none → Ex H H' → H' p = some (.lst ((MP.shrunkL P).map V.int)) → Q (.ref p) H') : sp_shrunk K Cof [.ref a] H Q E := ⟨a, P, rfl, h, hl, hg, q⟩
end
/-- what shrunk asks of a polynomial of coefficients below 2 ^ n -/
theorem shr_ok {P : List Int} {n : Nat} (hn : 0 < n) (h9 : n ≤ 9000) (hs : ML.Sz n P) (h : ML.Trim P) (h0 : P ≠ []) : MG.gcdL P ≠ 0 ∧ (MG.gcdL P).natAbs.log2 < 9000 := by
  have h1 := MP.gcdL_trim_pos h h0
  have h2 := MP.gcdL_log hn hs h h0
  exact ⟨by omega, Nat.lt_of_lt_of_le (PySem.Flt.log2_lt_of hn h2) h9⟩

/-! #### plain -/
--USE MP
def sp_plain (K : PySem.W.Frag) (Cof : String → Addr) : Sp := fun vs H Q _ => ∃ (a : Addr) (P : List Int), vs = [.ref a] ∧ SqL K H a (P.map V.int) ∧ P.length ≤ 100000 ∧ (P ≠ [] → MG.gcdL P ≠ 0 ∧ (MG.gcdL P).natAbs.log2 < 9000) ∧ RetI (MP.plainL P) H Q
def t_plain (K : PySem.W.Frag) (Cof : String → Addr) (E : XK) : TS :=
  tSeq (tAsg (tCall (sp_shrunk K Cof) [] E0 (tCons (tVar 0) (tNil))) (gName 1))
  (tSeq (tIfS (tAnd (tTru K (tVar 1)) (tTest (tOp rLt (tOp (rIxL K) (tVar 1) (tUn rNeg (tC (.int 1)))) (tC (.int 0))))) (tRet (tLc (iList K (tVar 1)) (gName 2) (tYes) (tUn rNeg (tVar 2)) [2])) (tNext))
  (tRet (tVar 1)))

section
variable {K : PySem.W.Frag} {Cof : String → Addr} {vs : List V} {H : Hp} {Q : VK} {E : XK}
theorem len_plain (h : sp_plain K Cof vs H Q E) : vs.length = 1 := by
  obtain ⟨a, P, rfl, _⟩ := h; rfl
theorem rd_plain (h : sp_plain K Cof vs H Q E) : t_plain K Cof E { nx := fun _ H' => Q .non H', rt := Q } (start ["P", "row", "one"] vs) H := by
  obtain ⟨a, P, rfl, hS, hl, hg, q⟩ := h
  unfold t_plain
  walk_at "rd"
  refine c_shrunk hS hl hg fun p1 H1 hp1 e1 h1 => ?_
  have hl1 := MP.shrunkL_len P
  walk_at "rd"
  refine ⟨!decide (MP.shrunkL P = []), .inl ⟨_, SqL.inj h1, ?_⟩, ?_⟩
  · cases MP.shrunkL P <;> rfl
  · refine ite_nd (fun hn => ?_) (fun hn => ?_)
    · walk_at "rd"
      refine r_ixLast (SqL.inj h1) hn ?_
      walk_at "rd"
      refine ite_d (fun hneg => ?_) (fun hneg => ?_)
      · walk_at "rd"
        refine lc_ints (fun x => -x) (SqL.inj h1) (by omega) (fun x hx H2 e2 Q' k' => ?_) (fun p2 H2 hp2 e2 h2 => ?_)
        · walk_at "rd"
          exact k' _ (Evl.Ex.refl _)
        · refine q p2 H2 (Evl.fresh_back e1 hp2) (e1.trans e2) ?_
          have e : MP.plainL P = (MP.shrunkL P).map (fun x => -x) := by
            unfold MP.plainL
            rw [if_pos ⟨hn, hneg⟩]; rfl
          rw [e]; exact h2
      · walk_at "rd"
        refine q p1 H1 hp1 e1 ?_
        have e : MP.plainL P = MP.shrunkL P := by
          unfold MP.plainL
          rw [if_neg]
          rintro ⟨_, h3⟩
          exact hneg h3
        rw [e]; exact h1
    · walk_at "rd"
      refine q p1 H1 hp1 e1 ?_
      have e : MP.plainL P = MP.shrunkL P := by
        unfold MP.plainL
        rw [if_neg]
        rintro ⟨h3, _⟩
        exact h3 hn
      rw [e]; exact h1
theorem c_plain {a : Addr} {P : List Int} (h : SqL K H a (P.map V.int)) (hl : P.length ≤ 100000) (hg : P ≠ [] → MG.gcdL P ≠ 0 ∧ (MG.gcdL P).natAbs.log2 < 9000) (q : ∀ p H', H p = none → Ex H H' → H' p = some (.lst ((MP.plainL P).map V.int)) → Q (.ref p) H') : sp_plain K Cof [.ref a] H Q E := ⟨a, P, rfl, h, hl, hg, q⟩
end

/-! #### pivot_at -/
--USE MT RN
def sp_pivot_at (K : PySem.W.Frag) (Cof : String → Addr) : Sp := fun vs H Q _ => ∃ (a : Addr) (ps : List Addr) (M : List (List Int)) (k : Nat), vs = [.ref a, .int (k : Int)] ∧ SqL K H a (ps.map V.ref) ∧ Rws H ps M ∧ k ≤ M.length ∧ M.length ≤ 100000 ∧ (∀ R ∈ M, k < R.length) ∧ Q (.int (MT.pivL M k : Nat)) H
def t_pivot_at (K : PySem.W.Frag) (Cof : String → Addr) (E : XK) : TS :=
  tSeq (tAsg (tVar 1) (gName 2))
  (tSeq (tWhile (tAnd (tTest (tOp rLt (tVar 2) (tCB (rLenS K) (tCons (tVar 0) (tNil))))) (tTest (tOp rEq (tOp (rIxL K) (tOp (rIxL K) (tVar 0) (tVar 2)) (tVar 1)) (tC (.int 0))))) (tAsg (tOp rIAdd (tVar 2) (tC (.int 1))) (gName 2)))
  (tRet (tVar 2)))

section
variable {K : PySem.W.Frag} {Cof : String → Addr} {vs : List V} {H : Hp} {Q : VK} {E : XK}
theorem len_pivot_at (h : sp_pivot_at K Cof vs H Q E) : vs.length = 2 := by
  obtain ⟨a, ps, M, k, rfl, _⟩ := h; rfl
/-- an item of a list of lists -/
theorem r_ixRow {p : Addr} {ps : List Addr} {M : List (List Int)} {i : Nat} (h : SqL K H p (ps.map V.ref)) (hW : Rws H ps M) (hi : i < M.length) (q : ∀ r, ps[i]? = some r → H r = some (.lst ((M.getD i []).map V.int)) → Q (.ref r) H) : rIxL K (.ref p) (.int (i : Int)) H Q := by
  have hl := hW.len
  have hr : ps[i]? = some ps[i] := List.getElem?_eq_getElem (by omega)
  obtain ⟨R, hR, hpR⟩ := hW.get hr
  have e : M.getD i [] = R := by rw [List.getD_eq_getElem?_getD, hR]; rfl
  refine r_ixL h (v := .ref ps[i]) (atI_nat (j := i) (by rw [List.getElem?_map, hr]; rfl)) (q _ hr (by rw [e]; exact hpR))
theorem rd_pivot_at (h : sp_pivot_at K Cof vs H Q E) : t_pivot_at K Cof E { nx := fun _ H' => Q .non H', rt := Q } (start ["rows", "at", "k"] vs) H := by
  obtain ⟨a, ps, M, k, rfl, hA, hW, hk, hl, hR, q⟩ := h
  have hlen := hW.len
  unfold t_pivot_at
  walk_at "rd"
  refine r_while (fun m σ' H' => ∃ j : Nat, σ' = [some (.ref a), some (.int (k : Int)), some (.int (j : Int))] ∧ H' = H ∧ m = M.length - j ∧ k ≤ j ∧ j ≤ M.length ∧ MT.pivL M k = j + ((M.drop j).takeWhile (fun R => decide (ML.cf R k = 0))).length) (M.length - k) ⟨k, rfl, rfl, rfl, Nat.le_refl _, hk, rfl⟩ (fun m σ' H' hw => ?_)
  obtain ⟨j, rfl, rfl, rfl, hj1, hj2, hp⟩ := hw
  walk_at "rd"
  try rw [List.length_map]
  refine ite_d (fun hlt => ?_) (fun hlt => ?_)
  · have hjl : j < M.length := by omega
    walk_at "rd"
    refine r_ixRow hA hW hjl fun r hr hpr => ?_
    have hm : M.getD j [] ∈ M := by
      rw [List.getD_eq_getElem?_getD, List.getElem?_eq_getElem hjl]
      exact List.getElem_mem hjl
    have hd : M.drop j = M.getD j [] :: M.drop (j + 1) := by
      rw [List.drop_eq_getElem_cons hjl, List.getD_eq_getElem?_getD, List.getElem?_eq_getElem hjl]; rfl
    walk_at "rd"
    refine r_ixI (SqL.inj hpr) (by omega) (by have := hR _ hm; omega) ?_
    rw [Int.toNat_natCast]
    walk_at "rd"
    refine ite_d (fun hz => wh_in ?_) (fun hz => ?_)
    · walk_at "rd"
      refine ⟨M.length - (j + 1), by omega, j + 1, by rw [Int.natCast_add]; rfl, rfl, rfl, by omega, by omega, ?_⟩
      rw [hp, hd, List.takeWhile_cons, if_pos (by exact decide_eq_true hz), List.length_cons]
      omega
    · walk_at "rd"
      have e : MT.pivL M k = j := by
        rw [hp, hd, List.takeWhile_cons, if_neg (by have hz' : ¬ ML.cf (M.getD j []) k = 0 := hz; rw [decide_eq_false hz']; decide)]; rfl
      rw [e] at q
      exact q
  · walk_at "rd"
    have e : MT.pivL M k = j := by
      rw [hp, List.drop_eq_nil_of_le (by omega)]; rfl
    rw [e] at q
    exact q
theorem c_pivot_at {a : Addr} {ps : List Addr} {M : List (List Int)} {k : Nat} (hA : SqL K H a (ps.map V.ref)) (hW : Rws H ps M) (hk : k ≤ M.length) (hl : M.length ≤ 100000) (hR : ∀ R ∈ M, k < R.length) (q : Q (.int (MT.pivL M k : Nat)) H) : sp_pivot_at K Cof [.ref a, .int (k : Int)] H Q E := ⟨a, ps, M, k, rfl, hA, hW, hk, hl, hR, q⟩
end

/-! #### cleared_rows -/
--USE MT RN MO
def sp_cleared_rows (K : PySem.W.Frag) (Cof : String → Addr) : Sp := fun vs H Q _ => ∃ (a : Addr) (ps : List Addr) (M : List (List Int)) (k n : Nat) (b : Int), vs = [.ref a, .int (k : Int), .int b] ∧ SqL K H a (ps.map V.ref) ∧ Rws H ps M ∧ ClSz n M k b ∧
  ∀ (D : Addr) (H' : Hp) (qs : List Addr), H D = none → Ex H H' → H' D = some (.lst (qs.map V.ref)) → Rws H' qs (MT.clrL M k b) → D ∉ qs → Q (.ref D) H'
def t_cleared_rows (K : PySem.W.Frag) (Cof : String → Addr) (E : XK) : TS :=
  tSeq (tAsg (tOp (rIxL K) (tVar 0) (tVar 1)) (gName 3))
  (tSeq (tAsg (tSl (rSlL K) (tVar 0) (tNoPart) (tPart (tOp rIAdd (tVar 1) (tC (.int 1))))) (gName 4))
  (tSeq (tFor (iList K (tSl (rSlL K) (tVar 0) (tPart (tOp rIAdd (tVar 1) (tC (.int 1)))) (tNoPart))) (gName 5) (tDrop (tBM K "list" rAppend (tVar 4) (tCons (tLc (iRng1 (tCons (tCB (rLenS K) (tCons (tVar 5) (tNil))) (tNil))) (gName 6) (tYes) (tOp rDiv (tOp rISub (tOp rMul (tOp (rIxL K) (tVar 3) (tVar 1)) (tOp (rIxL K) (tVar 5) (tVar 6))) (tOp rMul (tOp (rIxL K) (tVar 5) (tVar 1)) (tOp (rIxL K) (tVar 3) (tVar 6)))) (tVar 2)) [6]) (tNil)))))
  (tRet (tVar 4))))

section
variable {K : PySem.W.Frag} {Cof : String → Addr} {vs : List V} {H : Hp} {Q : VK} {E : XK}
theorem len_cleared_rows (h : sp_cleared_rows K Cof vs H Q E) : vs.length = 3 := by
  obtain ⟨a, ps, M, k, n, b, rfl, _⟩ := h; rfl
theorem rws_drop {H : Hp} : ∀ (n : Nat) {ps : List Addr} {Rs : List (List Int)}, Rws H ps Rs → Rws H (ps.drop n) (Rs.drop n)
  | 0, _, _, h => h
  | n + 1, [], [], _ => trivial
  | n + 1, p :: ps, R :: Rs, h => rws_drop n h.2
theorem cutV_from {xs : List V} {k : Nat} (h : k ≤ xs.length) : cutV xs (some (k : Int)) none = xs.drop k := by
  unfold cutV
  rw [HT.sIx_none, HT.sIx_nat, Nat.min_eq_left h, List.take_of_length_le (by rw [List.length_drop]; omega)]
theorem rd_cleared_rows (h : sp_cleared_rows K Cof vs H Q E) : t_cleared_rows K Cof E { nx := fun _ H' => Q .non H', rt := Q } (start ["rows", "at", "before", "top", "done", "row", "j"] vs) H := by
  obtain ⟨a, ps, M, k, n, b, rfl, hA, hW, s, q⟩ := h
  have hlen := hW.len
  have k0 := s.k0
  have kw := s.kw
  have lw := s.lw
  have ln := s.ln
  have n9 := s.n9
  unfold t_cleared_rows
  walk_at "rd"
  refine r_ixRow hA hW s.k0 fun r hr hpr => ?_
  have ek : (k : Int) + 1 = ((k + 1 : Nat) : Int) := by omega
  walk_at "rd"
  rw [ek]
  refine r_slL hA fun p1 H1 hp1 e1 h1 => ?_
  rw [cutV_to (by omega), Int.toNat_natCast, ← List.map_take] at h1
  have hW1 := hW.ex e1
  have hA1 := e1.l hA
  have hpr1 := e1 _ _ hpr
  have hmk : M.getD k [] ∈ M := by
    rw [List.getD_eq_getElem?_getD, List.getElem?_eq_getElem s.k0]
    exact List.getElem_mem s.k0
  have sT := s.sz _ hmk
  have hb9 : CDivA 0 b := ⟨s.b0, s.b9⟩
  generalize eT : M.getD k [] = T at hpr1 sT kw lw
  walk_at "rd"
  rw [ek]
  refine r_slL hA1 fun p2 H2 hp2 e2 h2 => ?_
  rw [cutV_from (by rw [List.length_map]; omega), ← List.map_drop] at h2
  have h1' := e2 _ _ h1
  have hD2 := rws_drop (k + 1) (hW1.ex e2)
  have hT2 := (hW1.ex e2).take (k + 1)
  have n1 : p1 ∉ ps.take (k + 1) := fun h => Rws.notin hp1 hW (List.mem_of_mem_take h)
  have n1d : p1 ∉ ps.drop (k + 1) := fun h => Rws.notin hp1 hW (List.mem_of_mem_drop h)
  have n12 : p2 ≠ p1 := fun z => by rw [z, h1] at hp2; cases hp2
  have hprt : H2 r = some (.lst (T.map V.int)) := e2 _ _ hpr1
  have nr : r ≠ p1 := fun z => by rw [z, hp1] at hpr; cases hpr
  walk_at "rd"
  refine loop_list (xs := (ps.drop (k + 1)).map V.ref) (fun i σ' H' => ∃ (qs : List Addr) (u5 : Option V), σ' = [some (.ref a), some (.int (k : Int)), some (.int b), some (.ref r), some (.ref p1), u5, none] ∧ Exb p1 H2 H' ∧ Ex H H' ∧ H' p1 = some (.lst ((ps.take (k + 1) ++ qs).map V.ref)) ∧ Rws H' qs (((M.drop (k + 1)).take i).map (MT.clrRow T k b)) ∧ p1 ∉ qs ∧ qs.length ≤ i) ⟨[], _, rfl, fun _ _ _ h => h, e1.trans e2, by rw [List.append_nil]; exact h1', trivial, (fun h => by cases h), Nat.le_refl _⟩ (fun i σ' H' _ hp => ?_) (fun i x σ' H' hx hp => ?_) (fun σ' H' hp => ?_)
  · obtain ⟨qs, u5, rfl, x1, _⟩ := hp
    exact SqL.inj (x1 _ n12 _ h2)
  · obtain ⟨qs, u5, rfl, x1, x2, x3, x4, x5, x6⟩ := hp
    rw [List.getElem?_map] at hx
    obtain ⟨p, hp, rfl⟩ := Option.map_eq_some_iff.mp hx
    obtain ⟨R, hR, hpR⟩ := hD2.get hp
    have hRM : R ∈ M := List.mem_of_mem_drop (List.mem_of_getElem? hR)
    have np : p ≠ p1 := fun z => n1d (by rw [← z]; exact List.mem_of_getElem? hp)
    have hpR' := x1 _ np _ hpR
    have hrT := x1 _ nr _ hprt
    have sR := s.sz R hRM
    have lR := s.wd R hRM
    rw [eT] at lR
    have hi : i < (ps.drop (k + 1)).length := (List.getElem?_eq_some_iff.mp hp).1
    rw [List.length_drop] at hi
    walk_at "rd"
    try rw [List.length_map]
    refine r_cRng1A (by omega) (by omega) ?_
    rw [Int.toNat_natCast]
    refine lc_rangeI (fun j => (ML.cf T k * ML.cf R j - ML.cf R k * ML.cf T j).fdiv b) (by omega) (fun j hj H3 e3 Q' k' => ?_) fun p3 H3 hp3 e3 h3 => ?_
    · have hT3 := e3 _ _ hrT
      have hR3 := e3 _ _ hpR'
      walk_at "rd"
      refine r_ixI (ns := T) (SqL.inj hT3) (by omega) (by omega) ?_
      walk_at "rd"
      refine r_ixI (ns := R) (SqL.inj hR3) (by omega) (by omega) ?_
      rw [Int.toNat_natCast, Int.toNat_natCast]
      refine r_mul (wide_mul (sT.cf k) (sR.cf j) s.n0 s.n0 (by omega)) ?_
      walk_at "rd"
      refine r_ixI (ns := R) (SqL.inj hR3) (by omega) (by omega) ?_
      walk_at "rd"
      refine r_ixI (ns := T) (SqL.inj hT3) (by omega) (by omega) ?_
      rw [Int.toNat_natCast, Int.toNat_natCast]
      refine r_mul (wide_mul (sR.cf k) (sT.cf j) s.n0 s.n0 (by omega)) ?_
      walk_at "rd"
      refine r_div hb9 ?_
      exact k' _ (Evl.Ex.refl _)
    have x3' := e3 _ _ x3
    have n3 : p3 ≠ p1 := fun z => by rw [z, x3] at hp3; cases hp3
    walk_at "rd"
    refine r_append x3' (by
      rw [List.length_map, List.length_append, List.length_take]
      exact small_lt (by omega)) fun H4 b4 h4 => ?_
    have fb : H p1 = none := hp1
    refine ⟨qs ++ [p3], _, rfl, (x1.ex e3).trans b4, Evl.Ex.mutb (x2.trans e3) b4 fb, by rw [h4, ← List.append_assoc, List.map_append (l₁ := ps.take (k + 1) ++ qs)]; rfl, ?_, ?_, by simp; omega⟩
    · rw [List.take_add_one, hR, List.map_append]
      exact Rws.append ((x4.ex e3).exb b4 x5) ⟨b4 _ n3 _ h3, trivial⟩
    · intro h
      rcases List.mem_append.mp h with h | h
      · exact x5 h
      · rw [List.mem_singleton] at h
        exact n3 h.symm
  · obtain ⟨qs, u5, rfl, x1, x2, x3, x4, x5, x6⟩ := hp
    walk_at "rd"
    have el : (ps.drop (k + 1)).length = (M.drop (k + 1)).length := by rw [List.length_drop, List.length_drop, hlen]
    rw [List.length_map, el, List.take_length] at x4
    refine q p1 H' (ps.take (k + 1) ++ qs) hp1 x2 x3 ?_ ?_
    · unfold MT.clrL
      rw [eT]
      exact Rws.append (hT2.exb x1 n1) x4
    · intro h
      rcases List.mem_append.mp h with h | h
      · exact n1 h
      · exact x5 h
theorem c_cleared_rows {a : Addr} {ps : List Addr} {M : List (List Int)} {k : Nat} {b : Int} (n : Nat) (hA : SqL K H a (ps.map V.ref)) (hW : Rws H ps M) (s : ClSz n M k b) (q : ∀ (D : Addr) (H' : Hp) (qs : List Addr), H D = none → Ex H H' → H' D = some (.lst (qs.map V.ref)) → Rws H' qs (MT.clrL M k b) → D ∉ qs → Q (.ref D) H') : sp_cleared_rows K Cof [.ref a, .int (k : Int), .int b] H Q E := ⟨a, ps, M, k, n, b, rfl, hA, hW, s, q⟩
end

/-! #### determinant -/
--USE MT RN MO
def sp_determinant (K : PySem.W.Frag) (Cof : String → Addr) : Sp := fun vs H Q _ => ∃ (a : Addr) (ps : List Addr) (M : List (List Int)), vs = [.ref a] ∧ SqL K H a (ps.map V.ref) ∧ Rws H ps M ∧ M.length ≤ 100000 ∧ detOk M.length 0 M 1 ∧ ∀ H', Ex H H' → Q (.int (MT.detL M)) H'
def t_determinant (K : PySem.W.Frag) (Cof : String → Addr) (E : XK) : TS :=
  tSeq (tAsg (tLc (iList K (tVar 0)) (gName 2) (tYes) (tCB (rListS K) (tCons (tVar 2) (tNil))) [2]) (gName 1))
  (tSeq (tAsg (tC (.int 1)) (gName 3))
  (tSeq (tAsg (tC (.int 1)) (gName 4))
  (tSeq (tFor (iRng1 (tCons (tCB (rLenS K) (tCons (tVar 0) (tNil))) (tNil))) (gName 5) (tSeq (tAsg (tCall (sp_pivot_at K Cof) [] E0 (tCons (tVar 1) (tCons (tVar 5) (tNil)))) (gName 6))
  (tSeq (tIfS (tTest (tOp rEq (tVar 6) (tCB (rLenS K) (tCons (tVar 0) (tNil))))) (tRet (tC (.int 0))) (tNext))
  (tCut (tIfS (tTest (tOp rGt (tVar 6) (tVar 5))) (tSeq (tAsg (tOp (rIxL K) (tVar 1) (tVar 5)) (gName 7))
  (tSeq (tAsg (tOp (rIxL K) (tVar 1) (tVar 6)) (gSub (tVar 1) (tVar 5) rSetL))
  (tSeq (tAsg (tVar 7) (gSub (tVar 1) (tVar 6) rSetL))
  (tAsg (tUn rNeg (tVar 3)) (gName 3))))) (tNext))
  (tSeq (tAsg (tCall (sp_cleared_rows K Cof) [] E0 (tCons (tVar 1) (tCons (tVar 5) (tCons (tVar 4) (tNil))))) (gName 1))
  (tAsg (tOp (rIxL K) (tOp (rIxL K) (tVar 1) (tVar 5)) (tVar 5)) (gName 4)))))))
  (tRet (tOp rMul (tVar 3) (tVar 4))))))

section
variable {K : PySem.W.Frag} {Cof : String → Addr} {vs : List V} {H : Hp} {Q : VK} {E : XK}
theorem len_determinant (h : sp_determinant K Cof vs H Q E) : vs.length = 1 := by
  obtain ⟨a, ps, M, rfl, _⟩ := h; rfl
theorem r_setRow {p r : Addr} {ps : List Addr} {i : Nat} {H : Hp} {Q : Hp → Prop} (h : H p = some (.lst (ps.map V.ref))) (hi : i < ps.length) (q : ∀ H', Exb p H H' → H' p = some (.lst ((ps.set i r).map V.ref)) → Q H') : rSetL (.ref p) (.int (i : Int)) (.ref r) H Q :=
  r_setL h (Evl.ixN_nat (by rw [List.length_map]; exact hi)) fun H' b h' => q H' b (by rw [h', List.map_set])
theorem rd_determinant (h : sp_determinant K Cof vs H Q E) : t_determinant K Cof E { nx := fun _ H' => Q .non H', rt := Q } (start ["rows", "left", "row", "sign", "before", "at", "k", "kept"] vs) H := by
  obtain ⟨a, ps, M, rfl, hA, hW, hl, hok, q⟩ := h
  have hlen := hW.len
  unfold t_determinant
  walk_at "rd"
  refine lc_rowsN (fun R => R) hA hW (by omega) (fun p R H1 hR hpR e1 Q' k' => ?_) fun D H1 qs hD e1 h1 hW1 hn1 => ?_
  · walk_at "rd"
    refine r_list (SqL.inj hpR) fun l H9 hl9 e9 h9 => ?_
    exact k' l H9 hl9 e9 h9
  rw [show M.map (fun R => R) = M from List.map_id' M] at hW1
  have hA1 := e1.l hA
  walk_at "rd"
  try rw [List.length_map]
  refine r_iRng1A (by omega) (by omega) ?_
  rw [Int.toNat_natCast, hlen]
  refine loop_range0 (fun k σ' H' => ∃ (D : Addr) (qs : List Addr) (M' : List (List Int)) (s b : Int) (u2 u5 u6 u7 : Option V), σ' = [some (.ref a), some (.ref D), u2, some (.int s), some (.int b), u5, u6, u7] ∧ Ex H H' ∧ H D = none ∧ H' D = some (.lst (qs.map V.ref)) ∧ Rws H' qs M' ∧ D ∉ qs ∧ M'.length = M.length ∧ k ≤ M.length ∧ detOk (M.length - k) k M' b ∧ MT.detG (M.length - k) k M' s b = MT.detL M ∧ (s = 1 ∨ s = -1)) ⟨D, qs, M, 1, 1, _, _, _, _, rfl, e1, hD, h1, hW1, hn1, rfl, Nat.zero_le _, hok, rfl, .inl rfl⟩ (fun k σ' H' hk hp' => ?_) (fun σ' H' hp' => ?_)
  · clear hD h1 hW1 hn1 hok e1 hA1
    obtain ⟨D, qs, M', s, b, u2, u5, u6, u7, rfl, e1, hD, h1, hW1, hn1, hM', _, hok, hdet, hs⟩ := hp'
    obtain ⟨r, hr⟩ : ∃ r, M.length - k = r + 1 := ⟨M.length - k - 1, by omega⟩
    have hr' : M.length - (k + 1) = r := by omega
    rw [hr] at hok hdet
    rw [hr']
    obtain ⟨hwd, hok⟩ := hok
    have hA1 := e1.l hA
    have hql := hW1.len
    walk_at "rd"
    refine c_pivot_at (SqL.inj h1) hW1 (by omega) (by omega) hwd ?_
    have hdet' : (if MT.pivL M' k = M'.length then 0 else MT.detG r (k + 1) (MT.clrL (MT.swp M' k) k b) (MT.sgn_ M' k s) (MT.at_ (MT.clrL (MT.swp M' k) k b) k k)) = MT.detL M := hdet
    walk_at "rd"
    try rw [List.length_map]
    refine ite_d (fun hz => ?_) (fun hz => ?_)
    · walk_at "rd"
      have hp0 : MT.pivL M' k = M'.length := by omega
      rw [if_pos hp0] at hdet'
      rw [hdet']
      exact q _ e1
    have hp0 : MT.pivL M' k ≠ M'.length := by omega
    have hpg := MT.pivL_ge M' k
    have hpl := MT.pivL_le (M := M') (k := k) (by omega)
    rw [if_neg hp0] at hdet'
    obtain ⟨⟨n, hcl⟩, hok⟩ := hok hp0
    walk_at "rd"
    refine ⟨fun σ2 H2 => ∃ (qs2 : List Addr) (v7 : Option V), σ2 = [some (.ref a), some (.ref D), u2, some (.int (MT.sgn_ M' k s)), some (.int b), some (.int (k : Int)), some (.int (MT.pivL M' k : Nat)), v7] ∧ Ex H H2 ∧ H2 D = some (.lst (qs2.map V.ref)) ∧ Rws H2 qs2 (MT.swp M' k) ∧ D ∉ qs2, ?_, fun σ2 H2 hM => ?_⟩
    · walk_at "rd"
      refine ite_d (fun hgt => ?_) (fun hgt => ?_)
      · have hgt' : MT.pivL M' k > k := by omega
        walk_at "rd"
        refine r_ixRow (SqL.inj h1) hW1 (i := k) (by omega) fun r1 hr1 hpr1 => ?_
        walk_at "rd"
        refine r_ixRow (SqL.inj h1) hW1 (i := MT.pivL M' k) (by omega) fun r2 hr2 hpr2 => ?_
        have m1 := List.mem_of_getElem? hr1
        have m2 := List.mem_of_getElem? hr2
        walk_at "rd"
        refine r_setRow h1 (by omega) fun H3 b3 h3 => ?_
        walk_at "rd"
        refine r_setRow h3 (by rw [List.length_set]; omega) fun H4 b4 h4 => ?_
        walk_at "rd"
        have b34 := b3.trans b4
        have nd1 : r1 ≠ D := fun z => hn1 (by rw [← z]; exact m1)
        have nd2 : r2 ≠ D := fun z => hn1 (by rw [← z]; exact m2)
        refine ⟨_, some (.ref r1), ?_, Evl.Ex.mutb e1 b34 hD, h4, ?_, ?_⟩
        · unfold MT.sgn_; rw [if_pos hgt']; rfl
        · unfold MT.swp
          rw [if_pos hgt']
          unfold MT.swapL
          exact Rws.set (b34 _ nd1 _ hpr1) _ (Rws.set (b34 _ nd2 _ hpr2) _ (hW1.exb b34 hn1))
        · intro h
          rcases List.mem_or_eq_of_mem_set h with h | h
          · rcases List.mem_or_eq_of_mem_set h with h | h
            · exact hn1 h
            · exact nd2 h.symm
          · exact nd1 h.symm
      · walk_at "rd"
        have hgt' : ¬ MT.pivL M' k > k := by omega
        refine ⟨qs, u7, ?_, e1, h1, ?_, hn1⟩
        · unfold MT.sgn_; rw [if_neg hgt']; rfl
        · unfold MT.swp; rw [if_neg hgt']; exact hW1
    obtain ⟨qs2, v7, rfl, e2, h2, hW2, hn2⟩ := hM
    walk_at "rd"
    refine c_cleared_rows n (SqL.inj h2) hW2 hcl fun D2 H3 qs3 hD2 e3 h3 hW3 hn3 => ?_
    have lcl : (MT.clrL (MT.swp M' k) k b).length = M.length := by rw [MT.clrL_len, MT.swp_len, hM']
    walk_at "rd"
    refine r_ixRow (SqL.inj h3) hW3 (i := k) (by omega) fun r1 hr1 hpr1 => ?_
    walk_at "rd"
    have hkw : k < ((MT.clrL (MT.swp M' k) k b).getD k []).length := by
      have hk0 := hcl.k0
      have e : (MT.clrL (MT.swp M' k) k b).getD k [] = (MT.swp M' k).getD k [] := by
        unfold MT.clrL
        rw [List.getD_eq_getElem?_getD, List.getD_eq_getElem?_getD, List.getElem?_append_left (by rw [List.length_take]; omega), List.getElem?_take, if_pos (by omega)]
      rw [e]; exact hcl.kw
    refine r_ixI (SqL.inj hpr1) (by omega) (by omega) ?_
    rw [Int.toNat_natCast]
    walk_at "rd"
    refine ⟨D2, qs3, MT.clrL (MT.swp M' k) k b, MT.sgn_ M' k s, MT.at_ (MT.clrL (MT.swp M' k) k b) k k, _, _, _, _, rfl, e2.trans e3, Evl.fresh_back e2 hD2, h3, hW3, hn3, lcl, by omega, hok, hdet', ?_⟩
    unfold MT.sgn_
    split <;> omega
  · obtain ⟨D, qs, M', s, b, u2, u5, u6, u7, rfl, e1, hD, h1, hW1, hn1, hM', _, hok, hdet, hs⟩ := hp'
    rw [Nat.sub_self] at hok hdet
    obtain ⟨n, n0, n9, hb⟩ := hok
    have hs' : s.natAbs < 2 ^ 1 := by omega
    walk_at "rd"
    refine r_mul (wide_mul hs' hb (by decide) n0 (by omega)) ?_
    have e : s * b = MT.detL M := hdet
    rw [e]
    exact q _ e1
theorem c_determinant {a : Addr} {ps : List Addr} {M : List (List Int)} (hA : SqL K H a (ps.map V.ref)) (hW : Rws H ps M) (hl : M.length ≤ 100000) (hok : detOk M.length 0 M 1) (q : ∀ H', Ex H H' → Q (.int (MT.detL M)) H') : sp_determinant K Cof [.ref a] H Q E := ⟨a, ps, M, rfl, hA, hW, hl, hok, q⟩
end

/-! #### sylvester_rows -/
--USE DV RN RV
def sp_sylvester_rows (K : PySem.W.Frag) (Cof : String → Addr) : Sp := fun vs H Q _ => ∃ (a b : Addr) (P R : List Int), vs = [.ref a, .ref b] ∧ SqL K H a (P.map V.int) ∧ SqL K H b (R.map V.int) ∧ (P ≠ [] ∧ R ≠ [] ∧ P.length ≤ 1000 ∧ R.length ≤ 1000) ∧
  ∀ (D : Addr) (H' : Hp) (ps : List Addr), H D = none → Ex H H' → H' D = some (.lst (ps.map V.ref)) → Rws H' ps (DT.sylL P R) → Q (.ref D) H'
def t_sylvester_rows (K : PySem.W.Frag) (Cof : String → Addr) (E : XK) : TS :=
  tSeq (tAsg (tOp rISub (tCB (rLenS K) (tCons (tVar 0) (tNil))) (tC (.int 1))) (gName 2))
  (tSeq (tAsg (tOp rISub (tCB (rLenS K) (tCons (tVar 1) (tNil))) (tC (.int 1))) (gName 3))
  (tSeq (tAsg (tLst (tNil)) (gName 4))
  (tSeq (tFor (iRng1 (tCons (tVar 3) (tNil))) (gName 5) (tDrop (tBM K "list" rAppend (tVar 4) (tCons (tOp rCat (tOp rCat (tOp rRep (tLst (tCons (tC (.int 0)) (tNil))) (tVar 5)) (tListRev K (tCons (tVar 0) (tNil)))) (tOp rRep (tLst (tCons (tC (.int 0)) (tNil))) (tOp rISub (tOp rISub (tVar 3) (tC (.int 1))) (tVar 5)))) (tNil)))))
  (tSeq (tFor (iRng1 (tCons (tVar 2) (tNil))) (gName 5) (tDrop (tBM K "list" rAppend (tVar 4) (tCons (tOp rCat (tOp rCat (tOp rRep (tLst (tCons (tC (.int 0)) (tNil))) (tVar 5)) (tListRev K (tCons (tVar 1) (tNil)))) (tOp rRep (tLst (tCons (tC (.int 0)) (tNil))) (tOp rISub (tOp rISub (tVar 2) (tC (.int 1))) (tVar 5)))) (tNil)))))
  (tRet (tVar 4))))))

section
variable {K : PySem.W.Frag} {Cof : String → Addr} {vs : List V} {H : Hp} {Q : VK} {E : XK}
theorem len_sylvester_rows (h : sp_sylvester_rows K Cof vs H Q E) : vs.length = 2 := by
  obtain ⟨a, b, P, R, rfl, _⟩ := h; rfl
theorem sylR_take (n : Nat) (P : List Int) {k : Nat} (hk : k < n) : (DT.sylR n P).take (k + 1) = (DT.sylR n P).take k ++ [DT.sylRow k (n - 1 - k) P] := by
  unfold DT.sylR
  rw [← List.map_take, ← List.map_take, List.take_range, List.take_range, Nat.min_eq_left (by omega), Nat.min_eq_left (by omega), List.range_succ, List.map_append]; rfl
theorem rd_sylvester_rows (h : sp_sylvester_rows K Cof vs H Q E) : t_sylvester_rows K Cof E { nx := fun _ H' => Q .non H', rt := Q } (start ["P", "Q", "m", "n", "rows", "k"] vs) H := by
  obtain ⟨a, b, P, R, rfl, hA, hB, ⟨hP, hR, lP9, lR9⟩, q⟩ := h
  have lP := List.length_pos_iff.mpr hP
  have lR := List.length_pos_iff.mpr hR
  unfold t_sylvester_rows
  have em : (P.length : Int) - 1 = ((P.length - 1 : Nat) : Int) := by omega
  have en : (R.length : Int) - 1 = ((R.length - 1 : Nat) : Int) := by omega
  walk_at "rd"
  refine r_lstK fun D H1 hD e1 h1 => ?_
  rw [em, en]
  walk_at "rd"
  refine r_iRng1A (by omega) (by omega) ?_
  rw [Int.toNat_natCast]
  refine loop_range0 (fun k σ' H' => ∃ (ps : List Addr) (u5 : Option V), σ' = [some (.ref a), some (.ref b), some (.int ((P.length - 1 : Nat) : Int)), some (.int ((R.length - 1 : Nat) : Int)), some (.ref D), u5] ∧ Ex H H' ∧ H' D = some (.lst (ps.map V.ref)) ∧ Rws H' ps ((DT.sylR (R.length - 1) P).take k) ∧ D ∉ ps) ⟨[], _, rfl, e1, h1, trivial, (fun h => by cases h)⟩ (fun k σ' H' hk hp' => ?_) (fun σ' H' hp' => ?_)
  · clear h1 e1
    obtain ⟨ps, u5, rfl, e1, h1, hW, hn1⟩ := hp'
    have hlen := hW.len
    rw [List.length_take, DT.sylR_len] at hlen
    have hA1 := e1.l hA
    walk_at "rd"
    refine r_lstK fun p1 H2 hp1 e2 h2 => ?_
    walk_at "rd"
    refine r_rep1 h2 (by omega) fun p2 H3 hp2 e3 h3 => ?_
    rw [Int.toNat_natCast] at h3
    have h3' : H3 p2 = some (.lst ((List.replicate k (0 : Int)).map V.int)) := by rw [List.map_replicate]; exact h3
    have hA3 := e3.l (e2.l hA1)
    walk_at "rd"
    refine r_listRev ?_
    walk_at "rd"
    refine r_listRevA hA3 fun p3 H4 hp3 e4 h4 => ?_
    walk_at "rd"
    refine r_catI (e4 _ _ h3') h4 (by rw [List.length_replicate, List.length_reverse]; omega) fun p4 H5 hp4 e5 h5 => ?_
    walk_at "rd"
    refine r_lstK fun p5 H6 hp5 e6 h6 => ?_
    walk_at "rd"
    have ek : (((R.length - 1 : Nat) : Int) - 1 - (k : Int)).toNat = R.length - 1 - 1 - k := by omega
    refine r_rep1 h6 (by omega) fun p6 H7 hp6 e7 h7 => ?_
    rw [ek] at h7
    have h7' : H7 p6 = some (.lst ((List.replicate (R.length - 1 - 1 - k) (0 : Int)).map V.int)) := by rw [List.map_replicate]; exact h7
    walk_at "rd"
    refine r_catI (e7 _ _ (e6 _ _ h5)) h7' (by simp only [List.length_append, List.length_replicate, List.length_reverse]; omega) fun p7 H8 hp7 e8 h8 => ?_
    have e27 := ((((e2.trans e3).trans e4).trans e5).trans e6).trans e7
    have e28 := e27.trans e8
    walk_at "rd"
    refine r_append (e28 _ _ h1) (by rw [List.length_map]; exact small_lt (by omega)) fun H9 b9 h9 => ?_
    walk_at "rd"
    have nD : p7 ≠ D := fun z => by
      have := e27 _ _ h1
      rw [z, this] at hp7; cases hp7
    refine ⟨ps ++ [p7], _, rfl, Evl.Ex.mutb (e1.trans e28) b9 hD, by rw [List.map_append]; exact h9, ?_, ?_⟩
    · rw [sylR_take _ _ hk]
      exact Rws.append ((hW.ex e28).exb b9 hn1) ⟨b9 _ nD _ h8, trivial⟩
    · intro h
      rcases List.mem_append.mp h with h | h
      · exact hn1 h
      · exact nD (List.mem_singleton.mp h).symm
  clear h1 e1
  obtain ⟨ps0, u5, rfl, e1, h1, hW0, hn1⟩ := hp'
  rw [List.take_of_length_le (by rw [DT.sylR_len]; exact Nat.le_refl _)] at hW0
  walk_at "rd"
  refine r_iRng1A (by omega) (by omega) ?_
  rw [Int.toNat_natCast]
  refine loop_range0 (fun k σ' H' => ∃ (ps : List Addr) (u5 : Option V), σ' = [some (.ref a), some (.ref b), some (.int ((P.length - 1 : Nat) : Int)), some (.int ((R.length - 1 : Nat) : Int)), some (.ref D), u5] ∧ Ex H H' ∧ H' D = some (.lst (ps.map V.ref)) ∧ Rws H' ps (DT.sylR (R.length - 1) P ++ (DT.sylR (P.length - 1) R).take k) ∧ D ∉ ps) ⟨ps0, _, rfl, e1, h1, by rw [List.take_zero, List.append_nil]; exact hW0, hn1⟩ (fun k σ' H' hk hp' => ?_) (fun σ' H' hp' => ?_)
  · clear h1 e1 hn1 hW0
    obtain ⟨ps, u5, rfl, e1, h1, hW, hn1⟩ := hp'
    have hlen := hW.len
    rw [List.length_append, List.length_take, DT.sylR_len, DT.sylR_len] at hlen
    have hA1 := e1.l hB
    walk_at "rd"
    refine r_lstK fun p1 H2 hp1 e2 h2 => ?_
    walk_at "rd"
    refine r_rep1 h2 (by omega) fun p2 H3 hp2 e3 h3 => ?_
    rw [Int.toNat_natCast] at h3
    have h3' : H3 p2 = some (.lst ((List.replicate k (0 : Int)).map V.int)) := by rw [List.map_replicate]; exact h3
    have hA3 := e3.l (e2.l hA1)
    walk_at "rd"
    refine r_listRev ?_
    walk_at "rd"
    refine r_listRevA hA3 fun p3 H4 hp3 e4 h4 => ?_
    walk_at "rd"
    refine r_catI (e4 _ _ h3') h4 (by rw [List.length_replicate, List.length_reverse]; omega) fun p4 H5 hp4 e5 h5 => ?_
    walk_at "rd"
    refine r_lstK fun p5 H6 hp5 e6 h6 => ?_
    walk_at "rd"
    have ek : (((P.length - 1 : Nat) : Int) - 1 - (k : Int)).toNat = P.length - 1 - 1 - k := by omega
    refine r_rep1 h6 (by omega) fun p6 H7 hp6 e7 h7 => ?_
    rw [ek] at h7
    have h7' : H7 p6 = some (.lst ((List.replicate (P.length - 1 - 1 - k) (0 : Int)).map V.int)) := by rw [List.map_replicate]; exact h7
    walk_at "rd"
    refine r_catI (e7 _ _ (e6 _ _ h5)) h7' (by simp only [List.length_append, List.length_replicate, List.length_reverse]; omega) fun p7 H8 hp7 e8 h8 => ?_
    have e27 := ((((e2.trans e3).trans e4).trans e5).trans e6).trans e7
    have e28 := e27.trans e8
    walk_at "rd"
    refine r_append (e28 _ _ h1) (by rw [List.length_map]; exact small_lt (by omega)) fun H9 b9 h9 => ?_
    walk_at "rd"
    have nD : p7 ≠ D := fun z => by
      have := e27 _ _ h1
      rw [z, this] at hp7; cases hp7
    refine ⟨ps ++ [p7], _, rfl, Evl.Ex.mutb (e1.trans e28) b9 hD, by rw [List.map_append]; exact h9, ?_, ?_⟩
    · rw [sylR_take _ _ hk, ← List.append_assoc]
      exact Rws.append ((hW.ex e28).exb b9 hn1) ⟨b9 _ nD _ h8, trivial⟩
    · intro h
      rcases List.mem_append.mp h with h | h
      · exact hn1 h
      · exact nD (List.mem_singleton.mp h).symm
  · obtain ⟨ps, u5, rfl, e1, h1, hW, hn1⟩ := hp'
    rw [List.take_of_length_le (by rw [DT.sylR_len]; exact Nat.le_refl _)] at hW
    walk_at "rd"
    exact q _ _ _ hD e1 h1 hW
theorem c_sylvester_rows {a b : Addr} {P R : List Int} (hA : SqL K H a (P.map V.int)) (hB : SqL K H b (R.map V.int)) (hs : P ≠ [] ∧ R ≠ [] ∧ P.length ≤ 1000 ∧ R.length ≤ 1000) (q : ∀ (D : Addr) (H' : Hp) (ps : List Addr), H D = none → Ex H H' → H' D = some (.lst (ps.map V.ref)) → Rws H' ps (DT.sylL P R) → Q (.ref D) H') : sp_sylvester_rows K Cof [.ref a, .ref b] H Q E := ⟨a, b, P, R, rfl, hA, hB, hs, q⟩
end

/-! #### resultant -/
--USE DV RN
def sp_resultant (K : PySem.W.Frag) (Cof : String → Addr) : Sp := fun vs H Q _ => ∃ (a b : Addr) (P R : List Int), vs = [.ref a, .ref b] ∧ SqL K H a (P.map V.int) ∧ SqL K H b (R.map V.int) ∧ (P ≠ [] → R ≠ [] → ∃ bP bR, DT.ResOk P R bP bR) ∧ ∀ H', Ex H H' → Q (.int (DT.resL P R)) H'
def t_resultant (K : PySem.W.Frag) (Cof : String → Addr) (E : XK) : TS :=
  tSeq (tIfS (tOr (tTest (tOp (rEqD K) (tVar 0) (tLst (tNil)))) (tTest (tOp (rEqD K) (tVar 1) (tLst (tNil))))) (tRet (tC (.int 0))) (tNext))
  (tRet (tCall (sp_determinant K Cof) [] E0 (tCons (tCall (sp_sylvester_rows K Cof) [] E0 (tCons (tVar 0) (tCons (tVar 1) (tNil)))) (tNil))))

section
variable {K : PySem.W.Frag} {Cof : String → Addr} {vs : List V} {H : Hp} {Q : VK} {E : XK}
theorem len_resultant (h : sp_resultant K Cof vs H Q E) : vs.length = 2 := by
  obtain ⟨a, b, P, R, rfl, _⟩ := h; rfl
theorem rd_resultant (h : sp_resultant K Cof vs H Q E) : t_resultant K Cof E { nx := fun _ H' => Q .non H', rt := Q } (start ["P", "Q"] vs) H := by
  obtain ⟨a, b, P, R, rfl, hA, hB, ok, q⟩ := h
  unfold t_resultant
  walk_at "rd"
  refine r_lstK fun p1 H1 hp1 e1 h1 => ?_
  have hA1 := e1.l hA
  have hB1 := e1.l hB
  walk_at "rd"
  refine r_eqInts (ns := P) (ms := []) hA1 (SqL.inj h1) ?_
  walk_at "rd"
  refine ite_d (fun h0 => ?_) (fun h0 => ?_)
  · walk_at "rd"
    have : DT.resL P R = 0 := by unfold DT.resL; rw [if_pos (.inl h0)]
    rw [← this]
    exact q _ e1
  walk_at "rd"
  refine r_lstK fun p2 H2 hp2 e2 h2 => ?_
  have hA2 := e2.l hA1
  have hB2 := e2.l hB1
  walk_at "rd"
  refine r_eqInts (ns := R) (ms := []) hB2 (SqL.inj h2) ?_
  walk_at "rd"
  refine ite_d (fun h3 => ?_) (fun h3 => ?_)
  · walk_at "rd"
    have : DT.resL P R = 0 := by unfold DT.resL; rw [if_pos (.inr h3)]
    rw [← this]
    exact q _ (e1.trans e2)
  walk_at "rd"
  obtain ⟨bP, bR, ok⟩ := ok h0 h3
  have n9 := ok.n9
  have lP := List.length_pos_iff.mpr h0
  have lR := List.length_pos_iff.mpr h3
  refine c_sylvester_rows hA2 hB2 ⟨h0, h3, by omega, by omega⟩ fun D H3 ps hD e3 h4 hW => ?_
  walk_at "rd"
  obtain ⟨o1, o2⟩ := ok.ok h0 h3
  refine c_determinant (SqL.inj h4) hW (by unfold DT.sylL; rw [List.length_append, DT.sylR_len, DT.sylR_len]; omega) o1 fun H4 e4 => ?_
  rw [o2]
  exact q _ (((e1.trans e2).trans e3).trans e4)
theorem c_resultant {a b : Addr} {P R : List Int} (hA : SqL K H a (P.map V.int)) (hB : SqL K H b (R.map V.int)) (ok : P ≠ [] → R ≠ [] → ∃ bP bR, DT.ResOk P R bP bR) (q : ∀ H', Ex H H' → Q (.int (DT.resL P R)) H') : sp_resultant K Cof [.ref a, .ref b] H Q E := ⟨a, b, P, R, rfl, hA, hB, ok, q⟩
end

/-! #### moved_by -/
--USE MZ
def sp_moved_by (K : PySem.W.Frag) (Cof : String → Addr) : Sp := fun vs H Q _ => ∃ (a : Addr) (R : List Int) (s : Int) (n : Nat), vs = [.ref a, .int s] ∧ SqL K H a (R.map V.int) ∧ R.length ≤ 16 ∧ ML.Sz n R ∧ (0 < n ∧ n ≤ 100000) ∧ s.natAbs < 2 ^ 5 ∧ RetI (MY.movL R s) H Q
def t_moved_by (K : PySem.W.Frag) (Cof : String → Addr) (E : XK) : TS :=
  tSeq (tAsg (tLst (tNil)) (gName 2))
  (tSeq (tFor (iRev K (tCons (tVar 0) (tNil))) (gName 3) (tAsg (tCall (sp_added K Cof) [] E0 (tCons (tCall (sp_multiplied K Cof) [] E0 (tCons (tVar 2) (tCons (tLst (tCons (tVar 1) (tCons (tC (.int 1)) (tNil)))) (tNil)))) (tCons (tCall (sp_poly K Cof) [] E0 (tCons (tLst (tCons (tVar 3) (tNil))) (tNil))) (tNil)))) (gName 2)))
  (tRet (tVar 2)))

section
variable {K : PySem.W.Frag} {Cof : String → Addr} {vs : List V} {H : Hp} {Q : VK} {E : XK}
theorem len_moved_by (h : sp_moved_by K Cof vs H Q E) : vs.length = 2 := by
  obtain ⟨a, R, s, n, rfl, _⟩ := h; rfl
theorem rd_moved_by (h : sp_moved_by K Cof vs H Q E) : t_moved_by K Cof E { nx := fun _ H' => Q .non H', rt := Q } (start ["P", "shift", "found", "one"] vs) H := by
  obtain ⟨a, R, s, n, rfl, hA, lR, sz, ⟨n0, n9⟩, hs, q⟩ := h
  unfold t_moved_by
  walk_at "rd"
  refine r_lstK fun p1 H1 hp1 e1 h1 => ?_
  walk_at "rd"
  refine loop_rev (xs := R.map V.int) (fun i σ' H' => ∃ (p : Addr) (u : Option V), σ' = [some (.ref a), some (.int s), some (.ref p), u] ∧ H p = none ∧ Ex H H' ∧ H' p = some (.lst ((MY.movL (R.drop (R.length - i)) s).map V.int))) ⟨p1, none, rfl, hp1, e1, by rw [Nat.sub_zero, List.drop_length]; exact h1⟩ (fun i σ' H' _ hp => ?_) (fun i x σ' H' hx hi hp => ?_) (fun σ' H' hp => ?_)
  · obtain ⟨p, u, rfl, _, e2, _⟩ := hp
    exact e2.l hA
  · obtain ⟨p, u, rfl, hp, e2, h2⟩ := hp
    rw [List.length_map] at hx hi
    rw [List.getElem?_map] at hx
    obtain ⟨c, hc, rfl⟩ := Option.map_eq_some_iff.mp hx
    have hd : R.drop (R.length - (i + 1)) = c :: R.drop (R.length - i) := by
      have hl : R.length - 1 - i < R.length := by omega
      rw [show R.length - (i + 1) = R.length - 1 - i by omega, List.drop_eq_getElem_cons hl, show R.length - 1 - i + 1 = R.length - i by omega]
      have := List.getElem?_eq_some_iff.mp hc
      rw [this.2]
    have lD : (R.drop (R.length - i)).length ≤ 16 := by rw [List.length_drop]; omega
    have sD := MY.movL_sz n0 hs (R.drop (R.length - i)) (sz.drop _) lD
    have lM := MY.movL_len (R.drop (R.length - i)) s
    rw [hd, MY.movL_cons]
    generalize R.drop (R.length - i) = D at lD sD lM h2 ⊢
    walk_at "rd"
    refine r_lstK fun p3 H3 hp3 e3 h3 => ?_
    walk_at "rd"
    refine c_multiplied (n + 7 * D.length) 5 (P := MY.movL D s) (R := [s, 1]) (SqL.inj (e3 _ _ h2)) (SqL.inj h3) (by omega) (by simp) sD (fun z hz => by
      rcases List.mem_cons.mp hz with e | hz
      · rw [e]; exact hs
      · rw [List.mem_singleton.mp hz]; decide) ⟨by omega, by decide, by omega⟩ fun p4 H4 hp4 e4 h4 => ?_
    walk_at "rd"
    refine r_lstK fun p5 H5 hp5 e5 h5 => ?_
    walk_at "rd"
    refine c_poly (ns := [c]) (SqL.inj h5) (by simp) fun p6 H6 hp6 e6 h6 => ?_
    walk_at "rd"
    have lM2 := MI.mulL_len (P := MY.movL D s) (Q := [s, 1]) (by simp)
    have lT : (ML.trimL [c]).length ≤ 1 := ML.trimL_len _
    simp only [List.length_cons, List.length_nil] at lM2
    refine c_added (SqL.inj (e6 _ _ (e5 _ _ h4))) (SqL.inj h6) (by omega) (by omega) fun p7 H7 hp7 e7 h7 => ?_
    walk_at "rd"
    have e27 := ((((e2.trans e3).trans e4).trans e5).trans e6)
    exact ⟨p7, _, rfl, Evl.fresh_back e27 hp7, e27.trans e7, h7⟩
  · obtain ⟨p, u, rfl, hp, e2, h2⟩ := hp
    rw [List.length_map, Nat.sub_self, List.drop_zero] at h2
    walk_at "rd"
    exact q p _ hp e2 h2
theorem c_moved_by {a : Addr} {R : List Int} {s : Int} (n : Nat) (h : SqL K H a (R.map V.int)) (hl : R.length ≤ 16) (sz : ML.Sz n R) (hn : 0 < n ∧ n ≤ 100000) (hs : s.natAbs < 2 ^ 5) (q : ∀ p H', H p = none → Ex H H' → H' p = some (.lst ((MY.movL R s).map V.int)) → Q (.ref p) H') : sp_moved_by K Cof [.ref a, .int s] H Q E := ⟨a, R, s, n, rfl, h, hl, sz, hn, hs, q⟩
end

/-! #### steps_between -/
--USE MZ
def sp_steps_between (K : PySem.W.Frag) (Cof : String → Addr) : Sp := fun vs H Q _ => ∃ (a : Addr) (R : List Int), vs = [.ref a] ∧ SqL K H a (R.map V.int) ∧ R.length ≤ 1000 ∧ RetI ((List.range (R.length - 1)).map fun k => ML.cf R (k + 1) - ML.cf R k) H Q
def t_steps_between (K : PySem.W.Frag) (Cof : String → Addr) (E : XK) : TS :=
  tRet (tLc (iRng1 (tCons (tOp rISub (tCB (rLenS K) (tCons (tVar 0) (tNil))) (tC (.int 1))) (tNil))) (gName 1) (tYes) (tOp rISub (tOp (rIxL K) (tVar 0) (tOp rIAdd (tVar 1) (tC (.int 1)))) (tOp (rIxL K) (tVar 0) (tVar 1))) [1])

section
variable {K : PySem.W.Frag} {Cof : String → Addr} {vs : List V} {H : Hp} {Q : VK} {E : XK}
theorem len_steps_between (h : sp_steps_between K Cof vs H Q E) : vs.length = 1 := by
  obtain ⟨a, R, rfl, _⟩ := h; rfl
theorem rd_steps_between (h : sp_steps_between K Cof vs H Q E) : t_steps_between K Cof E { nx := fun _ H' => Q .non H', rt := Q } (start ["values", "k"] vs) H := by
  obtain ⟨a, R, rfl, hA, lR, q⟩ := h
  unfold t_steps_between
  walk_at "rd"
  have en : ((R.length : Int) - 1).toNat = R.length - 1 := by omega
  refine r_cRng1A (by omega) (by omega) ?_
  rw [en]
  refine lc_rangeI (fun k => ML.cf R (k + 1) - ML.cf R k) (by omega) (fun i hi H1 e1 Q' k => ?_) (fun p H1 hp e1 h1 => ?_)
  · have hA1 := e1.l hA
    have ei : (i : Int) + 1 = ((i + 1 : Nat) : Int) := by omega
    walk_at "rd"
    rw [ei]
    refine r_ixI (ns := R) hA1 (by omega) (by omega) ?_
    walk_at "rd"
    refine r_ixI (ns := R) hA1 (by omega) (by omega) ?_
    rw [Int.toNat_natCast, Int.toNat_natCast]
    walk_at "rd"
    exact k _ (Evl.Ex.refl _)
  · exact q p H1 hp e1 h1
theorem c_steps_between {a : Addr} {R : List Int} (h : SqL K H a (R.map V.int)) (hl : R.length ≤ 1000) (q : ∀ p H', H p = none → Ex H H' → H' p = some (.lst (((List.range (R.length - 1)).map fun k => ML.cf R (k + 1) - ML.cf R k).map V.int)) → Q (.ref p) H') : sp_steps_between K Cof [.ref a] H Q E := ⟨a, R, rfl, h, hl, q⟩
end

/-! #### through_values -/
--USE MZ
def valS (v : Nat → Int) (N k : Nat) : List Int := (List.range (N + 1 - k)).map (MI.difF v k)
theorem valS_step (v : Nat → Int) (N k : Nat) : ((List.range ((valS v N k).length - 1)).map fun i => ML.cf (valS v N k) (i + 1) - ML.cf (valS v N k) i) = valS v N (k + 1) := by
  have l : (valS v N k).length = N + 1 - k := by unfold valS; rw [List.length_map, List.length_range]
  rw [l, show N + 1 - k - 1 = N + 1 - (k + 1) by omega]
  unfold valS
  refine List.map_congr_left fun i hi => ?_
  have hi := List.mem_range.mp hi
  rw [ML.cf_range (by omega), ML.cf_range (by omega)]
  rfl
def sp_through_values (K : PySem.W.Frag) (Cof : String → Addr) : Sp := fun vs H Q _ => ∃ (a : Addr) (v : Nat → Int) (N : Nat), vs = [.ref a] ∧ SqL K H a (((List.range (N + 1)).map v).map V.int) ∧ N ≤ 12 ∧ (∀ x, x ≤ N → (v x).natAbs < 2 ^ 3400) ∧ RetI (MP.plainL (MI.thrL N v (N + 1))) H Q
def t_through_values (K : PySem.W.Frag) (Cof : String → Addr) (E : XK) : TS :=
  tSeq (tAsg (tC (.int 1)) (gName 1))
  (tSeq (tFor (iRng2 (tCons (tC (.int 1)) (tCons (tCB (rLenS K) (tCons (tVar 0) (tNil))) (tNil)))) (gName 2) (tAsg (tOp rMul (tVar 1) (tVar 2)) (gName 1)))
  (tSeq (tAsg (tLst (tNil)) (gName 3))
  (tSeq (tAsg (tLst (tCons (tC (.int 1)) (tNil))) (gName 4))
  (tSeq (tFor (iRng1 (tCons (tCB (rLenS K) (tCons (tVar 0) (tNil))) (tNil))) (gName 2) (tSeq (tAsg (tCall (sp_added K Cof) [] E0 (tCons (tVar 3) (tCons (tCall (sp_multiplied K Cof) [] E0 (tCons (tCall (sp_poly K Cof) [] E0 (tCons (tLst (tCons (tOp rMul (tOp (rIxL K) (tVar 0) (tC (.int 0))) (tVar 1)) (tNil))) (tNil))) (tCons (tVar 4) (tNil)))) (tNil)))) (gName 3))
  (tSeq (tAsg (tCall (sp_multiplied K Cof) [] E0 (tCons (tVar 4) (tCons (tLst (tCons (tUn rNeg (tVar 2)) (tCons (tC (.int 1)) (tNil)))) (tNil)))) (gName 4))
  (tSeq (tAsg (tOp rDiv (tVar 1) (tOp rIAdd (tVar 2) (tC (.int 1)))) (gName 1))
  (tAsg (tCall (sp_steps_between K Cof) [] E0 (tCons (tVar 0) (tNil))) (gName 0))))))
  (tRet (tCall (sp_plain K Cof) [] E0 (tCons (tVar 3) (tNil))))))))

section
variable {K : PySem.W.Frag} {Cof : String → Addr} {vs : List V} {H : Hp} {Q : VK} {E : XK}
theorem len_through_values (h : sp_through_values K Cof vs H Q E) : vs.length = 1 := by
  obtain ⟨a, v, N, rfl, _⟩ := h; rfl
theorem rd_through_values (h : sp_through_values K Cof vs H Q E) : t_through_values K Cof E { nx := fun _ H' => Q .non H', rt := Q } (start ["values", "factor", "k", "found", "falling"] vs) H := by
  obtain ⟨a, v, N, rfl, hA, hN, hv, q⟩ := h
  unfold t_through_values
  walk_at "rd"
  try rw [List.length_map, List.length_range]
  refine r_iRng2A ⟨by omega, by omega, by omega, by omega⟩ ?_
  rw [show (((N + 1 : Nat) : Int) - 1).toNat = N by omega]
  refine loop_range (fun i σ' H' => ∃ u, σ' = [some (.ref a), some (.int (MI.upF 0 i)), u, none, none] ∧ H = H') ⟨none, rfl, rfl⟩ (fun i σ' H' hi hp => ?_) (fun σ' H' hp => ?_)
  · obtain ⟨u, rfl, rfl⟩ := hp
    walk_at "rd"
    refine r_mul (wide_mul (MY.upF_sz i 0 (by omega)) (b := 5) (by omega) (by omega) (by decide) (by omega)) ?_
    walk_at "rd"
    have e : MI.upF 0 i * (1 + (i : Int)) = MI.upF 0 (i + 1) := by
      show _ = MI.upF 0 i * (((0 : Nat) : Int) + (i : Int) + 1)
      congr 1; omega
    rw [e]
    exact ⟨_, rfl, rfl⟩
  obtain ⟨u, rfl, rfl⟩ := hp
  walk_at "rd"
  refine r_lstK fun p1 H1 hp1 e1 h1 => ?_
  walk_at "rd"
  refine r_lstK fun p2 H2 hp2 e2 h2 => ?_
  have hA2 := e2.l (e1.l hA)
  walk_at "rd"
  try rw [List.length_map, List.length_range]
  refine r_iRng1A (by omega) (by omega) ?_
  rw [show (((N + 1 : Nat) : Int)).toNat = N + 1 by omega]
  refine loop_range0 (fun k σ' H' => ∃ (pv pf pl : Addr) (f : Int) (u : Option V), σ' = [some (.ref pv), some (.int f), u, some (.ref pf), some (.ref pl)] ∧ Ex H H' ∧ SqL K H' pv ((valS v N k).map V.int) ∧ H pf = none ∧ H' pf = some (.lst ((MI.thrL N v k).map V.int)) ∧ H' pl = some (.lst ((MI.fallL k).map V.int)) ∧ (k ≤ N → f = MI.upF k (N - k))) ⟨a, p1, p2, _, _, rfl, e1.trans e2, hA2, hp1, e2 _ _ h1, h2, fun _ => rfl⟩ (fun k σ' H' hk hp => ?_) (fun σ' H' hp => ?_)
  · obtain ⟨pv, pf, pl, f, u, rfl, e3, hv3, hpf, h3, h4, hf⟩ := hp
    have hf := hf (by omega)
    subst hf
    have lV : (valS v N k).length = N + 1 - k := by unfold valS; rw [List.length_map, List.length_range]
    have v0 : (valS v N k).getD 0 0 = MI.difF v k 0 := by
      have := ML.cf_range (n := N + 1 - k) (f := MI.difF v k) (k := 0) (by omega)
      exact this
    have d0 := MY.difF_sz hv k 0 (by omega)
    have u0 := MY.upF_sz (N - k) k (by omega)
    have sf := MY.fall_sz k (by omega)
    have lf := MI.fall_len k
    have lt := MI.thr_len N v k
    have tz := MY.term_sz hN (show k ≤ N by omega) hv
    walk_at "rd"
    refine r_ixI (ns := valS v N k) hv3 (by decide) (by omega) ?_
    rw [show (0 : Int).toNat = 0 from rfl, v0]
    walk_at "rd"
    refine r_mul (wide_mul d0 u0 (by omega) (by omega) (by omega)) ?_
    walk_at "rd"
    refine r_lstK fun p5 H5 hp5 e5 h5 => ?_
    walk_at "rd"
    refine c_poly (ns := [MI.difF v k 0 * MI.upF k (N - k)]) (SqL.inj h5) (by simp) fun p6 H6 hp6 e6 h6 => ?_
    have lT : (ML.trimL [MI.difF v k 0 * MI.upF k (N - k)]).length ≤ 1 := ML.trimL_len _
    walk_at "rd"
    refine c_multiplied 3461 (4 * k + 1) (SqL.inj h6) (SqL.inj (e6 _ _ (e5 _ _ h4))) (by omega) (by omega) (MY.one_sz tz) sf ⟨by decide, by omega, by omega⟩ fun p7 H7 hp7 e7 h7 => ?_
    have e57 := (e5.trans e6).trans e7
    walk_at "rd"
    have lM : (ML.mulL (ML.trimL [MI.difF v k 0 * MI.upF k (N - k)]) (MI.fallL k)).length ≤ 100000 := by
      have h1 : (ML.mulL (ML.trimL [MI.difF v k 0 * MI.upF k (N - k)]) (MI.fallL k)).length ≤ (ML.trimL [MI.difF v k 0 * MI.upF k (N - k)]).length + (MI.fallL k).length := Nat.le_trans (ML.trimL_len _) (by rw [List.length_map, List.length_range]; exact Nat.le_refl _)
      omega
    refine c_added (SqL.inj (e57 _ _ h3)) (SqL.inj h7) (by omega) lM fun p8 H8 hp8 e8 h8 => ?_
    have e58 := e57.trans e8
    walk_at "rd"
    refine r_lstK fun p9 H9 hp9 e9 h9 => ?_
    walk_at "rd"
    refine c_multiplied (4 * k + 1) 5 (R := [-(k : Int), 1]) (SqL.inj (e9 _ _ (e58 _ _ h4))) (SqL.inj h9) (by omega) (by simp) sf (fun z hz => by
      rcases List.mem_cons.mp hz with e | hz
      · rw [e]; omega
      · rw [List.mem_singleton.mp hz]; decide) ⟨by omega, by decide, by omega⟩ fun p10 H10 hp10 e10 h10 => ?_
    walk_at "rd"
    refine r_div ⟨by omega, Nat.lt_of_lt_of_le (PySem.Flt.log2_lt_of (show 0 < 10 by decide) (show ((k : Int) + 1).natAbs < 2 ^ 10 by omega)) (by decide)⟩ ?_
    walk_at "rd"
    have e510 := (e58.trans e9).trans e10
    refine c_steps_between (e510.l hv3) (by omega) fun p11 H11 hp11 e11 h11 => ?_
    rw [valS_step] at h11
    walk_at "rd"
    have e511 := e510.trans e11
    refine ⟨p11, p8, p10, _, _, rfl, e3.trans e511, SqL.inj h11, Evl.fresh_back (e3.trans e57) hp8, e11 _ _ (e10 _ _ (e9 _ _ h8)), e11 _ _ h10, fun hk1 => ?_⟩
    rw [show N - k = (N - (k + 1)) + 1 by omega, MI.upF_low, Int.mul_fdiv_cancel_left _ (by omega)]
  · obtain ⟨pv, pf, pl, f, u, rfl, e3, hv3, hpf, h3, h4, hf⟩ := hp
    have sz := MY.thr_sz hN hv (N + 1) (Nat.le_refl _)
    have tr := MI.trim_thr N v (N + 1)
    have lt := MI.thr_len N v (N + 1)
    walk_at "rd"
    refine c_plain (SqL.inj h3) (by omega) (fun h0 => ⟨?_, ?_⟩) fun p5 H5 hp5 e5 h5 => ?_
    · have := MP.gcdL_trim_pos tr h0; omega
    · exact Nat.lt_of_lt_of_le (PySem.Flt.log2_lt_of (by omega) (MP.gcdL_log (by omega) sz tr h0)) (by omega)
    · exact q p5 H5 (Evl.fresh_back e3 hp5) (e3.trans e5) h5
theorem c_through_values {a : Addr} {v : Nat → Int} {N : Nat} (hA : SqL K H a (((List.range (N + 1)).map v).map V.int)) (hN : N ≤ 12) (hv : ∀ x, x ≤ N → (v x).natAbs < 2 ^ 3400) (q : ∀ p H', H p = none → Ex H H' → H' p = some (.lst ((MP.plainL (MI.thrL N v (N + 1))).map V.int)) → Q (.ref p) H') : sp_through_values K Cof [.ref a] H Q E := ⟨a, v, N, rfl, hA, hN, hv, q⟩
end

/-! #### sums -/
--USE MZ RN RV
def sp_sums (K : PySem.W.Frag) (Cof : String → Addr) : Sp := fun vs H Q _ => ∃ (a b : Addr) (s t : Int) (ps qs : MY.Prs), vs = [.ref a, .ref b] ∧ SqL K H a ((MY.wr s ps).map V.int) ∧ SqL K H b ((MY.wr t qs).map V.int) ∧ MY.Rt s ps ∧ MY.Rt t qs ∧ ps.length * qs.length ≤ 12 ∧ RetI (MY.wf (MY.sumsP ps qs)) H Q
def t_sums (K : PySem.W.Frag) (Cof : String → Addr) (E : XK) : TS :=
  tSeq (tAsg (tLst (tNil)) (gName 2))
  (tSeq (tFor (iRng1 (tCons (tOp rIAdd (tOp rMul (tCall (sp_degree K Cof) [] E0 (tCons (tVar 0) (tNil))) (tCall (sp_degree K Cof) [] E0 (tCons (tVar 1) (tNil)))) (tC (.int 1))) (tNil))) (gName 3) (tDrop (tBM K "list" rAppend (tVar 2) (tCons (tCall (sp_resultant K Cof) [] E0 (tCons (tVar 0) (tCons (tCall (sp_moved_by K Cof) [] E0 (tCons (tCall (sp_turned K Cof) [] E0 (tCons (tVar 1) (tNil))) (tCons (tUn rNeg (tVar 3)) (tNil)))) (tNil)))) (tNil)))))
  (tRet (tCall (sp_through_values K Cof) [] E0 (tCons (tVar 2) (tNil)))))

section
variable {K : PySem.W.Frag} {Cof : String → Addr} {vs : List V} {H : Hp} {Q : VK} {E : XK}
theorem len_sums (h : sp_sums K Cof vs H Q E) : vs.length = 2 := by
  obtain ⟨a, b, s, t, ps, qs, rfl, _⟩ := h; rfl
theorem rd_sums (h : sp_sums K Cof vs H Q E) : t_sums K Cof E { nx := fun _ H' => Q .non H', rt := Q } (start ["P", "Q", "values", "x"] vs) H := by
  obtain ⟨a, b, s, t, ps, qs, rfl, hA, hB, rp, rq, h12, q⟩ := h
  obtain ⟨m12, n12, mn⟩ := MY.mn_cases rp.l1 rq.l1 h12
  have lA := MY.wr_len s ps
  have lB := MY.wr_len t qs
  have eA : ((MY.wr s ps).length : Int) - 1 = (ps.length : Int) := by omega
  have eB : ((MY.wr t qs).length : Int) - 1 = (qs.length : Int) := by omega
  unfold t_sums
  walk_at "rd"
  refine r_lstK fun D H1 hD e1 h1 => ?_
  have hA1 := e1.l hA
  have hB1 := e1.l hB
  walk_at "rd"
  rw [eA, eB]
  refine r_mul (wide_mul (a := 5) (b := 5) (by omega) (by omega) (by decide) (by decide) (by decide)) ?_
  walk_at "rd"
  have em : (ps.length : Int) * (qs.length : Int) = ((ps.length * qs.length : Nat) : Int) := by omega
  rw [em]
  refine r_iRng1A (by omega) (by omega) ?_
  rw [show (((ps.length * qs.length : Nat) : Int) + 1).toNat = ps.length * qs.length + 1 by omega]
  refine loop_range0 (fun k σ' H' => ∃ u, σ' = [some (.ref a), some (.ref b), some (.ref D), u] ∧ Ex H H' ∧ H' D = some (.lst (((List.range k).map fun x : Nat => DT.resL (MY.wr s ps) (MY.movL (ML.turnL (MY.wr t qs)) (-(x : Int)))).map V.int))) ⟨_, rfl, e1, h1⟩ (fun k σ' H' hk hp => ?_) (fun σ' H' hp => ?_)
  · obtain ⟨u, rfl, e2, h2⟩ := hp
    have hx : (-(k : Int)).natAbs ≤ 12 := by omega
    obtain ⟨ok, _⟩ := MY.sums_ok rp rq h12 hx
    walk_at "rd"
    refine c_turned (44 + 45 * qs.length) (e2.l hB) (by omega) rq.sz ⟨by omega, by omega⟩ fun p3 H3 hp3 e3 h3 => ?_
    walk_at "rd"
    refine c_moved_by (44 + 45 * qs.length) (SqL.inj h3) (by rw [ML.turnL_len]; omega) (MY.turnL_sz rq.sz) ⟨by omega, by omega⟩ (by omega) fun p4 H4 hp4 e4 h4 => ?_
    have e34 := e3.trans e4
    walk_at "rd"
    refine c_resultant ((e2.trans e34).l hA) (SqL.inj h4) (fun _ _ => ⟨_, _, ok⟩) fun H5 e5 => ?_
    have e35 := e34.trans e5
    walk_at "rd"
    refine r_appendI (e35 _ _ h2) (by rw [List.length_map, List.length_range]; omega) fun H6 b6 h6 => ?_
    walk_at "rd"
    refine ⟨_, rfl, Evl.Ex.mutb (e2.trans e35) b6 hD, ?_⟩
    rw [List.range_succ, List.map_append, List.map_singleton]
    exact h6
  · obtain ⟨u, rfl, e2, h2⟩ := hp
    walk_at "rd"
    refine c_through_values (N := ps.length * qs.length) (SqL.inj h2) h12 (fun x hx => ?_) fun p3 H3 hp3 e3 h3 => ?_
    · obtain ⟨_, lt⟩ := MY.sums_ok rp rq h12 (x := -(x : Int)) (by omega)
      exact Nat.lt_of_lt_of_le lt (MY.two_up _ _ (by decide))
    · refine q p3 H3 (Evl.fresh_back e2 hp3) (e2.trans e3) ?_
      rw [← MY.told (L := MY.sumsP ps qs) (c := s ^ qs.length * t ^ ps.length) (MY.flat_bp fun p hp q hq => Int.mul_pos (rp.b0 p hp) (rq.b0 q hq)) (MY.flat_len _ _ _) (Int.mul_ne_zero (Int.pow_ne_zero rp.s0) (Int.pow_ne_zero rq.s0)) (fun x _ => MY.sums_value rp.b0.bt rq.b0.bt rq.s0 _)]
      exact h3
theorem c_sums {a b : Addr} {s t : Int} {ps qs : MY.Prs} (hA : SqL K H a ((MY.wr s ps).map V.int)) (hB : SqL K H b ((MY.wr t qs).map V.int)) (rp : MY.Rt s ps) (rq : MY.Rt t qs) (h12 : ps.length * qs.length ≤ 12) (q : ∀ p H', H p = none → Ex H H' → H' p = some (.lst ((MY.wf (MY.sumsP ps qs)).map V.int)) → Q (.ref p) H') : sp_sums K Cof [.ref a, .ref b] H Q E := ⟨a, b, s, t, ps, qs, rfl, hA, hB, rp, rq, h12, q⟩
end

/-! #### stretched_by -/
--USE MZ RV
def sp_stretched_by (K : PySem.W.Frag) (Cof : String → Addr) : Sp := fun vs H Q _ => ∃ (a : Addr) (P : List Int) (x : Int) (n : Nat), vs = [.ref a, .int x] ∧ SqL K H a (P.map V.int) ∧ P.length ≤ 16 ∧ ML.Sz n P ∧ (0 < n ∧ n ≤ 100000) ∧ x.natAbs < 2 ^ 4 ∧ RetI (MY.strL P x) H Q
def t_stretched_by (K : PySem.W.Frag) (Cof : String → Addr) (E : XK) : TS :=
  tSeq (tAsg (tLst (tNil)) (gName 2))
  (tSeq (tAsg (tC (.int 1)) (gName 3))
  (tSeq (tFor (iList K (tVar 0)) (gName 4) (tSeq (tDrop (tBM K "list" rAppend (tVar 2) (tCons (tOp rMul (tVar 4) (tVar 3)) (tNil))))
  (tAsg (tOp rMul (tVar 3) (tVar 1)) (gName 3))))
  (tRet (tListRev K (tCons (tVar 2) (tNil))))))

section
variable {K : PySem.W.Frag} {Cof : String → Addr} {vs : List V} {H : Hp} {Q : VK} {E : XK}
theorem len_stretched_by (h : sp_stretched_by K Cof vs H Q E) : vs.length = 2 := by
  obtain ⟨a, P, x, n, rfl, _⟩ := h; rfl
theorem pow4_sz {x : Int} (h : x.natAbs < 2 ^ 4) : ∀ k, (x ^ k).natAbs < 2 ^ (4 * k + 1)
  | 0 => by rw [Int.pow_zero]; decide
  | k + 1 => by
    rw [Int.pow_succ, show 4 * (k + 1) + 1 = 4 * k + 1 + 4 by omega]
    exact MY.abs_mul_lt (pow4_sz h k) h
theorem rd_stretched_by (h : sp_stretched_by K Cof vs H Q E) : t_stretched_by K Cof E { nx := fun _ H' => Q .non H', rt := Q } (start ["Q", "x", "row", "scale", "one"] vs) H := by
  obtain ⟨a, P, x, n, rfl, hA, lP, sz, ⟨n0, n9⟩, hx, q⟩ := h
  unfold t_stretched_by
  walk_at "rd"
  refine r_lstK fun p1 H1 hp1 e1 h1 => ?_
  have hA1 := e1.l hA
  walk_at "rd"
  refine loop_ints (ns := P) (fun i σ' H' => ∃ (u : Option V), σ' = [some (.ref a), some (.int x), some (.ref p1), some (.int (x ^ i)), u] ∧ Ex H H' ∧ H' p1 = some (.lst (((List.range i).map fun k => ML.cf P k * x ^ k).map V.int))) ⟨none, by rw [Int.pow_zero]; rfl, e1, h1⟩ (fun i σ' H' _ hp => ?_) (fun i c σ' H' hc hp => ?_) (fun σ' H' hp => ?_)
  · obtain ⟨u, rfl, e2, _⟩ := hp
    exact e2.l hA
  · obtain ⟨u, rfl, e2, h2⟩ := hp
    have hi : i < P.length := (List.getElem?_eq_some_iff.mp hc).1
    have ec : ML.cf P i = c := ML.cf_some hc
    have sc := sz.cf i
    rw [ec] at sc
    have sp := pow4_sz hx i
    walk_at "rd"
    refine r_mul (wide_mul sc sp (by omega) (by omega) (by omega)) ?_
    walk_at "rd"
    refine r_appendI h2 (by rw [List.length_map, List.length_range]; omega) fun H3 b3 h3 => ?_
    walk_at "rd"
    refine r_mul (wide_mul sp hx (by omega) (by omega) (by omega)) ?_
    walk_at "rd"
    refine ⟨_, by rw [Int.pow_succ]; rfl, Evl.Ex.mutb e2 b3 hp1, ?_⟩
    rw [List.range_succ, List.map_append, List.map_singleton, ec]
    exact h3
  · obtain ⟨u, rfl, e2, h2⟩ := hp
    walk_at "rd"
    refine r_listRev ?_
    walk_at "rd"
    refine r_listRevA (SqL.inj h2) fun p3 H3 hp3 e3 h3 => ?_
    exact q p3 H3 (Evl.fresh_back e2 hp3) (e2.trans e3) h3
theorem c_stretched_by {a : Addr} {P : List Int} {x : Int} (n : Nat) (h : SqL K H a (P.map V.int)) (hl : P.length ≤ 16) (sz : ML.Sz n P) (hn : 0 < n ∧ n ≤ 100000) (hx : x.natAbs < 2 ^ 4) (q : ∀ p H', H p = none → Ex H H' → H' p = some (.lst ((MY.strL P x).map V.int)) → Q (.ref p) H') : sp_stretched_by K Cof [.ref a, .int x] H Q E := ⟨a, P, x, n, rfl, h, hl, sz, hn, hx, q⟩
end

/-! #### products -/
--USE MZ RN RV
def sp_products (K : PySem.W.Frag) (Cof : String → Addr) : Sp := fun vs H Q _ => ∃ (a b : Addr) (s t : Int) (ps qs : MY.Prs), vs = [.ref a, .ref b] ∧ SqL K H a ((MY.wr s ps).map V.int) ∧ SqL K H b ((MY.wr t qs).map V.int) ∧ MY.Rt s ps ∧ MY.Rt t qs ∧ ps.length * qs.length ≤ 12 ∧ RetI (MY.wf (MY.prodP ps qs)) H Q
def t_products (K : PySem.W.Frag) (Cof : String → Addr) (E : XK) : TS :=
  tSeq (tAsg (tLst (tNil)) (gName 2))
  (tSeq (tFor (iRng1 (tCons (tOp rIAdd (tOp rMul (tCall (sp_degree K Cof) [] E0 (tCons (tVar 0) (tNil))) (tCall (sp_degree K Cof) [] E0 (tCons (tVar 1) (tNil)))) (tC (.int 1))) (tNil))) (gName 3) (tDrop (tBM K "list" rAppend (tVar 2) (tCons (tCall (sp_determinant K Cof) [] E0 (tCons (tCall (sp_sylvester_rows K Cof) [] E0 (tCons (tVar 0) (tCons (tCall (sp_stretched_by K Cof) [] E0 (tCons (tVar 1) (tCons (tVar 3) (tNil)))) (tNil)))) (tNil))) (tNil)))))
  (tRet (tCall (sp_through_values K Cof) [] E0 (tCons (tVar 2) (tNil)))))

section
variable {K : PySem.W.Frag} {Cof : String → Addr} {vs : List V} {H : Hp} {Q : VK} {E : XK}
theorem len_products (h : sp_products K Cof vs H Q E) : vs.length = 2 := by
  obtain ⟨a, b, s, t, ps, qs, rfl, _⟩ := h; rfl
theorem rd_products (h : sp_products K Cof vs H Q E) : t_products K Cof E { nx := fun _ H' => Q .non H', rt := Q } (start ["P", "Q", "values", "x"] vs) H := by
  obtain ⟨a, b, s, t, ps, qs, rfl, hA, hB, rp, rq, h12, q⟩ := h
  obtain ⟨m12, n12, mn⟩ := MY.mn_cases rp.l1 rq.l1 h12
  have lA := MY.wr_len s ps
  have lB := MY.wr_len t qs
  have eA : ((MY.wr s ps).length : Int) - 1 = (ps.length : Int) := by omega
  have eB : ((MY.wr t qs).length : Int) - 1 = (qs.length : Int) := by omega
  unfold t_products
  walk_at "rd"
  refine r_lstK fun D H1 hD e1 h1 => ?_
  have hA1 := e1.l hA
  have hB1 := e1.l hB
  walk_at "rd"
  rw [eA, eB]
  refine r_mul (wide_mul (a := 5) (b := 5) (by omega) (by omega) (by decide) (by decide) (by decide)) ?_
  walk_at "rd"
  have em : (ps.length : Int) * (qs.length : Int) = ((ps.length * qs.length : Nat) : Int) := by omega
  rw [em]
  refine r_iRng1A (by omega) (by omega) ?_
  rw [show (((ps.length * qs.length : Nat) : Int) + 1).toNat = ps.length * qs.length + 1 by omega]
  refine loop_range0 (fun k σ' H' => ∃ u, σ' = [some (.ref a), some (.ref b), some (.ref D), u] ∧ Ex H H' ∧ H' D = some (.lst (((List.range k).map fun x : Nat => DT.resL (MY.wr s ps) (MY.strL (MY.wr t qs) (x : Int))).map V.int))) ⟨_, rfl, e1, h1⟩ (fun k σ' H' hk hp => ?_) (fun σ' H' hp => ?_)
  · obtain ⟨u, rfl, e2, h2⟩ := hp
    have hx : ((k : Int)).natAbs ≤ 12 := by omega
    obtain ⟨ok, _⟩ := MY.prods_ok rp rq h12 hx
    walk_at "rd"
    refine c_stretched_by (44 + 45 * qs.length) (e2.l hB) (by omega) rq.sz ⟨by omega, by omega⟩ (by omega) fun p3 H3 hp3 e3 h3 => ?_
    walk_at "rd"
    have n1 := MY.wr_ne s ps
    have lS := MY.strL_len (MY.wr t qs) (k : Int)
    have n2 : MY.strL (MY.wr t qs) (k : Int) ≠ [] := fun z => by rw [z] at lS; simp at lS; omega
    refine c_sylvester_rows ((e2.trans e3).l hA) (SqL.inj h3) ⟨n1, n2, by omega, by omega⟩ fun p4 H4 ps4 hp4 e4 h4 hW4 => ?_
    have e34 := e3.trans e4
    obtain ⟨o1, o2⟩ := ok.ok n1 n2
    walk_at "rd"
    refine c_determinant (SqL.inj h4) hW4 (by unfold DT.sylL; rw [List.length_append, DT.sylR_len, DT.sylR_len]; omega) o1 fun H5 e5 => ?_
    rw [o2]
    have e35 := e34.trans e5
    walk_at "rd"
    refine r_appendI (e35 _ _ h2) (by rw [List.length_map, List.length_range]; omega) fun H6 b6 h6 => ?_
    walk_at "rd"
    refine ⟨_, rfl, Evl.Ex.mutb (e2.trans e35) b6 hD, ?_⟩
    rw [List.range_succ, List.map_append, List.map_singleton]
    exact h6
  · obtain ⟨u, rfl, e2, h2⟩ := hp
    walk_at "rd"
    refine c_through_values (N := ps.length * qs.length) (SqL.inj h2) h12 (fun x hx => ?_) fun p3 H3 hp3 e3 h3 => ?_
    · obtain ⟨_, lt⟩ := MY.prods_ok rp rq h12 (x := (x : Int)) (by omega)
      exact Nat.lt_of_lt_of_le lt (MY.two_up _ _ (by decide))
    · refine q p3 H3 (Evl.fresh_back e2 hp3) (e2.trans e3) ?_
      rw [← MY.told (L := MY.prodP ps qs) (c := s ^ qs.length * t ^ ps.length) (MY.flat_bp fun p hp q hq => Int.mul_pos (rp.b0 p hp) (rq.b0 q hq)) (MY.flat_len _ _ _) (Int.mul_ne_zero (Int.pow_ne_zero rp.s0) (Int.pow_ne_zero rq.s0)) (fun x _ => MY.prods_value rp.b0.bt _)]
      exact h3
theorem c_products {a b : Addr} {s t : Int} {ps qs : MY.Prs} (hA : SqL K H a ((MY.wr s ps).map V.int)) (hB : SqL K H b ((MY.wr t qs).map V.int)) (rp : MY.Rt s ps) (rq : MY.Rt t qs) (h12 : ps.length * qs.length ≤ 12) (q : ∀ p H', H p = none → Ex H H' → H' p = some (.lst ((MY.wf (MY.prodP ps qs)).map V.int)) → Q (.ref p) H') : sp_products K Cof [.ref a, .ref b] H Q E := ⟨a, b, s, t, ps, qs, rfl, hA, hB, rp, rq, h12, q⟩
end

/-! #### powers -/
--USE MZ RN RV
def sp_powers (K : PySem.W.Frag) (Cof : String → Addr) : Sp := fun vs H Q _ => ∃ (a : Addr) (s : Int) (ps : MY.Prs) (n : Nat), vs = [.ref a, .int (n : Int)] ∧ SqL K H a ((MY.wr s ps).map V.int) ∧ MY.Rt s ps ∧ ps.length ≤ 8 ∧ (1 ≤ n ∧ n ≤ 8) ∧ RetI (MY.wf (ps.map (MY.powP n))) H Q
def t_powers (K : PySem.W.Frag) (Cof : String → Addr) (E : XK) : TS :=
  tSeq (tAsg (tLst (tNil)) (gName 2))
  (tSeq (tFor (iRng1 (tCons (tOp rIAdd (tCall (sp_degree K Cof) [] E0 (tCons (tVar 0) (tNil))) (tC (.int 1))) (tNil))) (gName 3) (tDrop (tBM K "list" rAppend (tVar 2) (tCons (tCall (sp_determinant K Cof) [] E0 (tCons (tCall (sp_sylvester_rows K Cof) [] E0 (tCons (tVar 0) (tCons (tOp rCat (tOp rCat (tLst (tCons (tVar 3) (tNil))) (tOp rRep (tLst (tCons (tC (.int 0)) (tNil))) (tOp rISub (tVar 1) (tC (.int 1))))) (tLst (tCons (tUn rNeg (tC (.int 1))) (tNil)))) (tNil)))) (tNil))) (tNil)))))
  (tRet (tCall (sp_through_values K Cof) [] E0 (tCons (tVar 2) (tNil)))))

section
variable {K : PySem.W.Frag} {Cof : String → Addr} {vs : List V} {H : Hp} {Q : VK} {E : XK}
theorem len_powers (h : sp_powers K Cof vs H Q E) : vs.length = 2 := by
  obtain ⟨a, s, ps, n, rfl, _⟩ := h; rfl
theorem rd_powers (h : sp_powers K Cof vs H Q E) : t_powers K Cof E { nx := fun _ H' => Q .non H', rt := Q } (start ["P", "k", "values", "x"] vs) H := by
  obtain ⟨a, s, ps, n, rfl, hA, rp, m8, ⟨n1, n8⟩, q⟩ := h
  have lA := MY.wr_len s ps
  have eA : ((MY.wr s ps).length : Int) - 1 = (ps.length : Int) := by omega
  unfold t_powers
  walk_at "rd"
  refine r_lstK fun D H1 hD e1 h1 => ?_
  have hA1 := e1.l hA
  walk_at "rd"
  rw [eA]
  refine r_iRng1A (by omega) (by omega) ?_
  rw [show ((ps.length : Int) + 1).toNat = ps.length + 1 by omega]
  refine loop_range0 (fun k σ' H' => ∃ u, σ' = [some (.ref a), some (.int (n : Int)), some (.ref D), u] ∧ Ex H H' ∧ H' D = some (.lst (((List.range k).map fun x : Nat => DT.resL (MY.wr s ps) (MY.powL (x : Int) n)).map V.int))) ⟨_, rfl, e1, h1⟩ (fun k σ' H' hk hp => ?_) (fun σ' H' hp => ?_)
  · obtain ⟨u, rfl, e2, h2⟩ := hp
    have hx : ((k : Int)).natAbs ≤ 12 := by omega
    obtain ⟨ok, _⟩ := MY.pows_ok rp m8 ⟨n1, n8⟩ hx
    walk_at "rd"
    refine r_lstK fun p3 H3 hp3 e3 h3 => ?_
    walk_at "rd"
    refine r_lstK fun p4 H4 hp4 e4 h4 => ?_
    walk_at "rd"
    refine r_rep1 h4 (by omega) fun p5 H5 hp5 e5 h5 => ?_
    rw [show ((n : Int) - 1).toNat = n - 1 by omega] at h5
    have h5' : H5 p5 = some (.lst ((List.replicate (n - 1) (0 : Int)).map V.int)) := by rw [List.map_replicate]; exact h5
    walk_at "rd"
    refine r_catI (ns := [(k : Int)]) (e5 _ _ (e4 _ _ h3)) h5' (by rw [List.length_replicate]; simp; omega) fun p6 H6 hp6 e6 h6 => ?_
    walk_at "rd"
    refine r_lstK fun p7 H7 hp7 e7 h7 => ?_
    walk_at "rd"
    refine r_catI (ms := [-1]) (e7 _ _ h6) h7 (by rw [List.length_append, List.length_replicate]; simp; omega) fun p8 H8 hp8 e8 h8 => ?_
    have e38 := ((((e3.trans e4).trans e5).trans e6).trans e7).trans e8
    have h8' : H8 p8 = some (.lst ((MY.powL (k : Int) n).map V.int)) := h8
    walk_at "rd"
    have w1 := MY.wr_ne s ps
    have lS := MY.powL_len (k : Int) (show 0 < n by omega)
    have w2 : MY.powL (k : Int) n ≠ [] := fun z => by rw [z] at lS; simp at lS
    refine c_sylvester_rows ((e2.trans e38).l hA) (SqL.inj h8') ⟨w1, w2, by omega, by omega⟩ fun p9 H9 ps9 hp9 e9 h9 hW9 => ?_
    obtain ⟨o1, o2⟩ := ok.ok w1 w2
    walk_at "rd"
    refine c_determinant (SqL.inj h9) hW9 (by unfold DT.sylL; rw [List.length_append, DT.sylR_len, DT.sylR_len]; omega) o1 fun H10 e10 => ?_
    rw [o2]
    have e310 := (e38.trans e9).trans e10
    walk_at "rd"
    refine r_appendI (e310 _ _ h2) (by rw [List.length_map, List.length_range]; omega) fun H11 b11 h11 => ?_
    walk_at "rd"
    refine ⟨_, rfl, Evl.Ex.mutb (e2.trans e310) b11 hD, ?_⟩
    rw [List.range_succ, List.map_append, List.map_singleton]
    exact h11
  · obtain ⟨u, rfl, e2, h2⟩ := hp
    walk_at "rd"
    refine c_through_values (N := ps.length) (SqL.inj h2) (by omega) (fun x hx => ?_) fun p3 H3 hp3 e3 h3 => ?_
    · exact (MY.pows_ok rp m8 ⟨n1, n8⟩ (x := (x : Int)) (by omega)).2
    · refine q p3 H3 (Evl.fresh_back e2 hp3) (e2.trans e3) ?_
      rw [← MY.told (L := ps.map (MY.powP n)) (c := s ^ n) (fun p hp => by
        obtain ⟨p', hp', rfl⟩ := List.mem_map.mp hp
        exact Int.pow_pos (rp.b0 p' hp')) (by rw [List.length_map]) (Int.pow_ne_zero rp.s0) (fun x _ => MY.pows_value rp.b0.bt (by omega) _)]
      exact h3
theorem c_powers {a : Addr} {s : Int} {ps : MY.Prs} {n : Nat} (hA : SqL K H a ((MY.wr s ps).map V.int)) (rp : MY.Rt s ps) (m8 : ps.length ≤ 8) (hn : 1 ≤ n ∧ n ≤ 8) (q : ∀ p H', H p = none → Ex H H' → H' p = some (.lst ((MY.wf (ps.map (MY.powP n))).map V.int)) → Q (.ref p) H') : sp_powers K Cof [.ref a, .int (n : Int)] H Q E := ⟨a, s, ps, n, rfl, hA, rp, m8, hn, q⟩
end

/-! #### _law_cell_at -/
/-- the k-th cell, 0 beyond the last one -/
def cellOf (ns : List Int) (k : Int) : Int := ns.getD k.toNat 0
def sp__law_cell_at (K : PySem.W.Frag) (Cof : String → Addr) : Sp := fun vs H Q _ => ∃ (a : Addr) (ns : List Int) (k : Int), vs = [.ref a, .int k] ∧ SqL K H a (ns.map V.int) ∧ 0 ≤ k ∧ Q (.int (cellOf ns k)) H
def t__law_cell_at (K : PySem.W.Frag) (Cof : String → Addr) (E : XK) : TS :=
  tSeq (tIfS (tTest (tOp rLt (tVar 1) (tCB (rLenS K) (tCons (tVar 0) (tNil))))) (tRet (tOp (rIxL K) (tVar 0) (tVar 1))) (tNext))
  (tRet (tC (.int 0)))

section
variable {K : PySem.W.Frag} {Cof : String → Addr} {vs : List V} {H : Hp} {Q : VK} {E : XK}
theorem len__law_cell_at (h : sp__law_cell_at K Cof vs H Q E) : vs.length = 2 := by
  obtain ⟨a, ns, k, rfl, _⟩ := h; rfl
theorem rd__law_cell_at (h : sp__law_cell_at K Cof vs H Q E) : t__law_cell_at K Cof E { nx := fun _ H' => Q .non H', rt := Q } (start ["_law_script", "_law_k"] vs) H := by
  obtain ⟨a, ns, k, rfl, hS, h0, q⟩ := h
  obtain ⟨k, rfl⟩ : ∃ n : Nat, k = (n : Int) := ⟨k.toNat, by omega⟩
  unfold t__law_cell_at
  walk_at "rd"
  try rw [List.length_map]
  refine ite_d (fun h => ?_) (fun h => ?_)
  · walk_at "rd"
    have hk : k < ns.length := by omega
    exact r_ixI hS h0 h q
  · walk_at "rd"
    have e : cellOf ns k = 0 := by
      unfold cellOf
      rw [List.getD_eq_getElem?_getD, List.getElem?_eq_none (by omega)]; rfl
    rw [e] at q
    exact q
theorem c__law_cell_at {a : Addr} {ns : List Int} {k : Int} (h : SqL K H a (ns.map V.int)) (h0 : 0 ≤ k) (q : Q (.int (cellOf ns k)) H) : sp__law_cell_at K Cof [.ref a, .int k] H Q E := ⟨a, ns, k, rfl, h, h0, q⟩
end
local macro_rules | `(tactic| walk_at "call") => `(tactic| ((with_reducible refine' c__law_cell_at ?h ?h0 ?_); (case h => walk_at "sq"); (case h0 => first | decide | omega)))

/-! #### _law_is -/
def sp__law_is (K : PySem.W.Frag) (Cof : String → Addr) : Sp := fun vs H Q _ => ∃ (a b : Addr) (P : List Int), vs = [.ref a, .ref b] ∧ H a = some (.lst (P.map V.int)) ∧ SqL K H b (P.map V.int) ∧ Q (.bl true) H
def t__law_is (K : PySem.W.Frag) (Cof : String → Addr) (E : XK) : TS :=
  tSeq (tIfS (tNot (tB (tCB (rIsi K) (tCons (tVar 0) (tCons (tC (.ty "list")) (tNil)))))) (tRet (tC (.bl false))) (tNext))
  (tSeq (tFor (iList K (tVar 0)) (gName 2) (tIfS (tOr (tNot (tB (tCB (rIsi K) (tCons (tVar 2) (tCons (tC (.ty "int")) (tNil)))))) (tB (tCB (rIsi K) (tCons (tVar 2) (tCons (tC (.ty "bool")) (tNil)))))) (tRet (tC (.bl false))) (tNext)))
  (tRet (tOp (rEqD K) (tVar 0) (tVar 1))))

section
variable {K : PySem.W.Frag} {Cof : String → Addr} {vs : List V} {H : Hp} {Q : VK} {E : XK}
theorem len__law_is (h : sp__law_is K Cof vs H Q E) : vs.length = 2 := by
  obtain ⟨a, b, P, rfl, _⟩ := h; rfl
theorem rd__law_is (h : sp__law_is K Cof vs H Q E) : t__law_is K Cof E { nx := fun _ H' => Q .non H', rt := Q } (start ["_law_found", "_law_due", "_law_one"] vs) H := by
  obtain ⟨a, b, P, rfl, hA, hB, q⟩ := h
  unfold t__law_is
  walk_at "rd"
  refine r_isi (.base (.lst hA)) (.ty _) (kit_ty (r := true) (by decide +kernel)) ?_
  walk_at "rd"
  refine loop_ints (ns := P) (fun i σ' H' => ∃ u, σ' = [some (.ref a), some (.ref b), u] ∧ H = H') ⟨_, rfl, rfl⟩ (fun i σ' H' _ hp => ?_) (fun i x σ' H' hx hp => ?_) (fun σ' H' hp => ?_)
  · obtain ⟨u, rfl, rfl⟩ := hp
    exact SqL.inj hA
  · obtain ⟨u, rfl, rfl⟩ := hp
    walk_at "rd"
    refine r_isi (.base (.int x)) (.ty _) (kit_ty (r := true) (by decide +kernel)) ?_
    walk_at "rd"
    refine r_isi (.base (.int x)) (.ty _) (kit_ty (r := false) (by decide +kernel)) ?_
    walk_at "rd"
    exact ⟨_, rfl, rfl⟩
  · obtain ⟨u, rfl, rfl⟩ := hp
    walk_at "rd"
    refine r_eqInts (SqL.inj hA) hB ?_
    rw [decide_eq_true rfl]
    exact q
theorem c__law_is {a b : Addr} {P : List Int} (hA : H a = some (.lst (P.map V.int))) (hB : SqL K H b (P.map V.int)) (q : Q (.bl true) H) : sp__law_is K Cof [.ref a, .ref b] H Q E := ⟨a, b, P, rfl, hA, hB, q⟩
end

/-! #### _law_number -/
def numF (c i : Int) : Int := if c.fmod 3 = 1 then (c.fdiv 3).fmod (2 * 1000000000000 + 1) - 1000000000000 else (c.fdiv 3 + 3 * i).fmod 13 - 6
theorem numF_le (c i : Int) : (numF c i).natAbs ≤ 1000000000000 := by
  unfold numF
  split
  · have d0 := Int.fmod_nonneg_of_pos (c.fdiv 3) (show (0 : Int) < 2 * 1000000000000 + 1 by decide)
    have d1 := Int.fmod_lt_of_pos (c.fdiv 3) (show (0 : Int) < 2 * 1000000000000 + 1 by decide)
    omega
  · have d0 := Int.fmod_nonneg_of_pos (c.fdiv 3 + 3 * i) (show (0 : Int) < 13 by decide)
    have d1 := Int.fmod_lt_of_pos (c.fdiv 3 + 3 * i) (show (0 : Int) < 13 by decide)
    omega
def sp__law_number (K : PySem.W.Frag) (Cof : String → Addr) : Sp := fun vs H Q _ => ∃ c i : Int, vs = [.int c, .int i] ∧ i.natAbs < 2 ^ 40 ∧ Q (.int (numF c i)) H
def t__law_number (K : PySem.W.Frag) (Cof : String → Addr) (E : XK) : TS :=
  tSeq (tIfS (tTest (tOp rEq (tOp rMod (tVar 0) (tC (.int 3))) (tC (.int 1)))) (tRet (tOp rISub (tOp rMod (tOp rDiv (tVar 0) (tC (.int 3))) (tOp rIAdd (tOp rMul (tC (.int 2)) (tOp rPow (tC (.int 10)) (tC (.int 12)))) (tC (.int 1)))) (tOp rPow (tC (.int 10)) (tC (.int 12))))) (tNext))
  (tRet (tOp rISub (tOp rMod (tOp rIAdd (tOp rDiv (tVar 0) (tC (.int 3))) (tOp rMul (tC (.int 3)) (tVar 1))) (tC (.int 13))) (tC (.int 6))))

section
variable {K : PySem.W.Frag} {Cof : String → Addr} {vs : List V} {H : Hp} {Q : VK} {E : XK}
theorem len__law_number (h : sp__law_number K Cof vs H Q E) : vs.length = 2 := by
  obtain ⟨c, i, rfl, _⟩ := h; rfl
theorem rd__law_number (h : sp__law_number K Cof vs H Q E) : t__law_number K Cof E { nx := fun _ H' => Q .non H', rt := Q } (start ["_law_cell", "_law_at"] vs) H := by
  obtain ⟨c, i, rfl, hi, q⟩ := h
  unfold t__law_number
  have e12 : (10 : Int) ^ (12 : Int).toNat = 1000000000000 := by decide
  walk_at "rd"
  refine ite_d (fun h => ?_) (fun h => ?_)
  · walk_at "rd"
    refine r_mul (wide_mul (a := 2) (b := 67) (by decide) (by decide) (by decide) (by decide) (by decide)) ?_
    walk_at "rd"
    rw [e12]
    unfold numF at q
    rw [if_pos h] at q
    exact q
  · walk_at "rd"
    refine r_mul (wide_mul (a := 2) (b := 40) (by decide) hi (by decide) (by decide) (by decide)) ?_
    walk_at "rd"
    unfold numF at q
    rw [if_neg h] at q
    exact q
theorem c__law_number {c i : Int} (hi : i.natAbs < 2 ^ 40) (q : Q (.int (numF c i)) H) : sp__law_number K Cof [.int c, .int i] H Q E := ⟨c, i, rfl, hi, q⟩
end

/-! #### _law_product -/
--USE ML
def sp__law_product (K : PySem.W.Frag) (Cof : String → Addr) : Sp := fun vs H Q _ => ∃ (a b : Addr) (P R : List Int) (n m : Nat), vs = [.ref a, .ref b] ∧ SqL K H a (P.map V.int) ∧ SqL K H b (R.map V.int) ∧ (P ≠ [] ∧ R ≠ [] ∧ P.length ≤ 1000 ∧ R.length ≤ 1000) ∧ ML.Sz n P ∧ ML.Sz m R ∧ (0 < n ∧ 0 < m ∧ n + m ≤ 100000) ∧ RetI (ML.mulU P R) H Q
def t__law_product (K : PySem.W.Frag) (Cof : String → Addr) (E : XK) : TS :=
  tSeq (tAsg (tOp rRep (tLst (tCons (tC (.int 0)) (tNil))) (tOp rISub (tOp rIAdd (tCB (rLenS K) (tCons (tVar 0) (tNil))) (tCB (rLenS K) (tCons (tVar 1) (tNil)))) (tC (.int 1)))) (gName 2))
  (tSeq (tFor (iRng1 (tCons (tCB (rLenS K) (tCons (tVar 0) (tNil))) (tNil))) (gName 3) (tFor (iRng1 (tCons (tCB (rLenS K) (tCons (tVar 1) (tNil))) (tNil))) (gName 4) (tAsg (tOp rIAdd (tOp (rIxL K) (tVar 2) (tOp rIAdd (tVar 3) (tVar 4))) (tOp rMul (tOp (rIxL K) (tVar 0) (tVar 3)) (tOp (rIxL K) (tVar 1) (tVar 4)))) (gSub (tVar 2) (tOp rIAdd (tVar 3) (tVar 4)) rSetL))))
  (tRet (tVar 2)))

section
variable {K : PySem.W.Frag} {Cof : String → Addr} {vs : List V} {H : Hp} {Q : VK} {E : XK}
theorem len__law_product (h : sp__law_product K Cof vs H Q E) : vs.length = 2 := by
  obtain ⟨a, b, P, R, n, m, rfl, _⟩ := h; rfl
theorem rd__law_product (h : sp__law_product K Cof vs H Q E) : t__law_product K Cof E { nx := fun _ H' => Q .non H', rt := Q } (start ["_law_kp", "_law_kq", "_law_found", "_law_i", "_law_j"] vs) H := by
  obtain ⟨a, b, P, R, n, m, rfl, hA, hB, ⟨hP, hR, lA, lB⟩, sA, sB, ⟨n0, m0, nm⟩, q⟩ := h
  have lP := List.length_pos_iff.mpr hP
  have lR := List.length_pos_iff.mpr hR
  unfold t__law_product
  walk_at "rd"
  refine r_lstK fun p1 H1 hp1 e1 h1 => ?_
  have hA1 := e1.l hA
  have hB1 := e1.l hB
  walk_at "rd"
  have el : ((P.length : Int) + (R.length : Int) - 1).toNat = P.length + R.length - 1 := by omega
  refine r_rep1 h1 (by omega) fun p H2 hp e2 h2 => ?_
  rw [el] at h2
  have h2' : H2 p = some (.lst ((List.replicate (P.length + R.length - 1) (0 : Int)).map V.int)) := by rw [List.map_replicate]; exact h2
  have hA2 := e2.l hA1
  have hB2 := e2.l hB1
  have hpH := Evl.fresh_back e1 hp
  walk_at "rd"
  refine r_iRng1A (by omega) (by omega) ?_
  rw [Int.toNat_natCast]
  refine loop_range0 (fun k σ' H' => ∃ (rs : List Int) (u3 u4 : Option V), σ' = [some (.ref a), some (.ref b), some (.ref p), u3, u4] ∧ Ex H H' ∧ H' p = some (.lst (rs.map V.int)) ∧ rs.length = P.length + R.length - 1 ∧ ∀ j, ML.cf rs j = ML.pcv P R k j)
    ⟨_, _, _, rfl, e1.trans e2, h2', by rw [List.length_replicate], fun j => by rw [ML.cf_rep0]; rfl⟩ (fun k σ' H' hk hp' => ?_) (fun σ' H' hp' => ?_)
  · obtain ⟨rs, u3, u4, rfl, f2, h3, l3, c3⟩ := hp'
    have hA3 := f2.l hA
    have hB3 := f2.l hB
    walk_at "rd"
    refine r_iRng1A (by omega) (by omega) ?_
    rw [Int.toNat_natCast]
    refine loop_range0 (fun i σ2 H2 => ∃ (rs : List Int) (u4 : Option V), σ2 = [some (.ref a), some (.ref b), some (.ref p), some (.int (k : Int)), u4] ∧ Ex H H2 ∧ H2 p = some (.lst (rs.map V.int)) ∧ rs.length = P.length + R.length - 1 ∧ ∀ j, ML.cf rs j = ML.pcw P R k i j)
      ⟨rs, _, rfl, f2, h3, l3, fun j => by rw [ML.pcw_zero]; exact c3 j⟩ (fun i σ2 H2 hi hp2 => ?_) (fun σ2 H2 hp2 => ?_)
    · obtain ⟨rs, u4, rfl, f3, h4, l4, c4⟩ := hp2
      have hA4 := f3.l hA
      have hB4 := f3.l hB
      have eki : (k : Int) + (i : Int) = ((k + i : Nat) : Int) := by omega
      walk_at "rd"
      rw [eki]
      refine r_ixI (ns := rs) (SqL.inj h4) (by omega) (by omega) ?_
      rw [Int.toNat_natCast]
      walk_at "rd"
      refine r_ixI (ns := P) hA4 (by omega) (by omega) ?_
      walk_at "rd"
      refine r_ixI (ns := R) hB4 (by omega) (by omega) ?_
      rw [Int.toNat_natCast, Int.toNat_natCast]
      refine r_mul (wide_mul (sA.cf k) (sB.cf i) n0 m0 (by omega)) ?_
      walk_at "rd"
      rw [eki]
      refine r_setL (p := p) (xs := rs.map V.int) h4 (Evl.ixN_nat (by rw [List.length_map]; omega)) fun H4 b4 h5 => ?_
      refine ⟨rs.set (k + i) (ML.cf rs (k + i) + ML.cf P k * ML.cf R i), _, rfl, Evl.Ex.mutb f3 b4 hpH, by rw [List.map_set]; exact h5, by rw [List.length_set]; exact l4, fun j => ?_⟩
      rw [ML.pcw_step]
      by_cases hj : j = k + i
      · rw [if_pos hj, hj, ← c4]
        exact ML.cf_some (by rw [List.getElem?_set_self (by omega)])
      · rw [if_neg hj, ← c4]
        unfold ML.cf
        rw [List.getD_eq_getElem?_getD, List.getElem?_set_ne (fun z => hj z.symm), ← List.getD_eq_getElem?_getD]
    · obtain ⟨rs, u4, rfl, f3, h4, l4, c4⟩ := hp2
      exact ⟨rs, _, _, rfl, f3, h4, l4, fun j => by rw [c4, ML.pcw_full]⟩
  · obtain ⟨rs, u3, u4, rfl, f2, h3, l3, c3⟩ := hp'
    walk_at "rd"
    refine q p H' hpH f2 ?_
    have : rs = ML.mulU P R := by
      refine ML.ext ?_ fun j _ => ?_
      · rw [l3]; unfold ML.mulU; rw [if_neg fun z => z.elim hP hR, List.length_map, List.length_range]
      · rw [c3, ML.pcv_full, ML.cf_mulU]
    rw [← this]; exact h3
theorem c__law_product {a b : Addr} {P R : List Int} (n m : Nat) (hA : SqL K H a (P.map V.int)) (hB : SqL K H b (R.map V.int)) (hs : P ≠ [] ∧ R ≠ [] ∧ P.length ≤ 1000 ∧ R.length ≤ 1000) (sA : ML.Sz n P) (sB : ML.Sz m R) (hn : 0 < n ∧ 0 < m ∧ n + m ≤ 100000) (q : ∀ p H', H p = none → Ex H H' → H' p = some (.lst ((ML.mulU P R).map V.int)) → Q (.ref p) H') : sp__law_product K Cof [.ref a, .ref b] H Q E := ⟨a, b, P, R, n, m, rfl, hA, hB, hs, sA, sB, hn, q⟩
end

/-! #### _law_shared -/
--USE MG
def sp__law_shared (K : PySem.W.Frag) (Cof : String → Addr) : Sp := fun vs H Q _ => ∃ x y : Int, vs = [.int x, .int y] ∧ Q (.int (Int.gcd x y)) H
def t__law_shared (K : PySem.W.Frag) (Cof : String → Addr) (E : XK) : TS :=
  tSeq (tWhile (tTest (tOp rNe (tVar 1) (tC (.int 0)))) (tSeq (tAsg (tOp rMod (tVar 0) (tVar 1)) (gName 2))
  (tSeq (tAsg (tVar 1) (gName 0))
  (tAsg (tVar 2) (gName 1)))))
  (tRet (tCB rAbs (tCons (tVar 0) (tNil))))

section
variable {K : PySem.W.Frag} {Cof : String → Addr} {vs : List V} {H : Hp} {Q : VK} {E : XK}
theorem len__law_shared (h : sp__law_shared K Cof vs H Q E) : vs.length = 2 := by
  obtain ⟨x, y, rfl, _⟩ := h; rfl
theorem rd__law_shared (h : sp__law_shared K Cof vs H Q E) : t__law_shared K Cof E { nx := fun _ H' => Q .non H', rt := Q } (start ["_law_a", "_law_b", "_law_rest"] vs) H := by
  obtain ⟨x, y, rfl, q⟩ := h
  unfold t__law_shared
  walk_at "rd"
  refine r_while (fun m σ2 H2 => ∃ (f o : Int) (r : Option V), σ2 = [some (.int f), some (.int o), r] ∧ H2 = H ∧ m = o.natAbs ∧ Int.gcd f o = Int.gcd x y) y.natAbs ⟨_, _, _, rfl, rfl, rfl, rfl⟩ (fun m σ2 H2 hw => ?_)
  obtain ⟨f, o, r, rfl, rfl, rfl, hg⟩ := hw
  walk_at "rd"
  refine ite_nd (fun h => wh_in ?_) (fun h => ?_)
  · walk_at "rd"
    exact ⟨_, MG.fmod_lt h, o, f.fmod o, _, rfl, rfl, rfl, by rw [MG.gcd_fmod]; exact hg⟩
  · walk_at "rd"
    rw [h, Int.gcd_zero_right] at hg
    have e : (if f < 0 then -f else f) = (Int.gcd x y : Int) := by split <;> omega
    rw [e]
    exact q
theorem c__law_shared {x y : Int} (q : Q (.int (Int.gcd x y)) H) : sp__law_shared K Cof [.int x, .int y] H Q E := ⟨x, y, rfl, q⟩
end

/-! #### _law_factor -/
--USE MZ
def sp__law_factor (K : PySem.W.Frag) (Cof : String → Addr) : Sp := fun vs H Q _ => ∃ (p : Int × Int), vs = [.int p.1, .int p.2] ∧ 0 < p.2 ∧ p.2.natAbs < 2 ^ 8000 ∧ RetI [-(MY.red p).1, (MY.red p).2] H Q
def t__law_factor (K : PySem.W.Frag) (Cof : String → Addr) (E : XK) : TS :=
  tSeq (tAsg (tCall (sp__law_shared K Cof) [] E0 (tCons (tVar 0) (tCons (tVar 1) (tNil)))) (gName 2))
  (tRet (tLst (tCons (tUn rNeg (tOp rDiv (tVar 0) (tVar 2))) (tCons (tOp rDiv (tVar 1) (tVar 2)) (tNil)))))

section
variable {K : PySem.W.Frag} {Cof : String → Addr} {vs : List V} {H : Hp} {Q : VK} {E : XK}
theorem len__law_factor (h : sp__law_factor K Cof vs H Q E) : vs.length = 2 := by
  obtain ⟨p, rfl, _⟩ := h; rfl
theorem rd__law_factor (h : sp__law_factor K Cof vs H Q E) : t__law_factor K Cof E { nx := fun _ H' => Q .non H', rt := Q } (start ["_law_top", "_law_bottom", "_law_divisor"] vs) H := by
  obtain ⟨p, rfl, h0, h1, q⟩ := h
  have g0 := MY.gcd_pos' h0
  have gl : (((Int.gcd p.1 p.2 : Nat) : Int)).natAbs < 2 ^ 8000 := Nat.lt_of_le_of_lt (by
    have := Int.le_of_dvd h0 (Int.gcd_dvd_right p.1 p.2)
    omega) h1
  have dv : CDivA 0 ((Int.gcd p.1 p.2 : Nat) : Int) := ⟨by omega, Nat.lt_of_lt_of_le (PySem.Flt.log2_lt_of (by decide) gl) (by decide)⟩
  unfold t__law_factor
  walk_at "rd"
  refine c__law_shared ?_
  walk_at "rd"
  refine r_div dv ?_
  walk_at "rd"
  refine r_div dv ?_
  walk_at "rd"
  exact r_lstK fun p1 H1 hp1 e1 h1 => q p1 H1 hp1 e1 h1
theorem c__law_factor {x y : Int} (h0 : 0 < y) (h1 : y.natAbs < 2 ^ 8000) (q : ∀ p H', H p = none → Ex H H' → H' p = some (.lst (([-(MY.red (x, y)).1, (MY.red (x, y)).2] : List Int).map V.int)) → Q (.ref p) H') : sp__law_factor K Cof [.int x, .int y] H Q E := ⟨(x, y), rfl, h0, h1, q⟩
end

/-! #### _law_with_roots -/
--USE MZ RT
def sp__law_with_roots (K : PySem.W.Frag) (Cof : String → Addr) : Sp := fun vs H Q _ => ∃ (a : Addr) (s : Int) (ps : List Addr) (L : MY.Prs), vs = [.ref a, .int s] ∧ SqL K H a (ps.map V.ref) ∧ Prs H ps L ∧ MY.Rt s L ∧ L.length ≤ 12 ∧ RetI (MY.wr s L) H Q
def t__law_with_roots (K : PySem.W.Frag) (Cof : String → Addr) (E : XK) : TS :=
  tSeq (tAsg (tLst (tCons (tVar 1) (tNil))) (gName 2))
  (tSeq (tFor (iList K (tVar 0)) (gName 3) (tAsg (tCall (sp__law_product K Cof) [] E0 (tCons (tVar 2) (tCons (tLst (tCons (tUn rNeg (tOp (rIxT K) (tVar 3) (tC (.int 0)))) (tCons (tOp (rIxT K) (tVar 3) (tC (.int 1))) (tNil)))) (tNil)))) (gName 2)))
  (tRet (tVar 2)))

section
variable {K : PySem.W.Frag} {Cof : String → Addr} {vs : List V} {H : Hp} {Q : VK} {E : XK}
theorem len__law_with_roots (h : sp__law_with_roots K Cof vs H Q E) : vs.length = 2 := by
  obtain ⟨a, s, ps, L, rfl, _⟩ := h; rfl
theorem rd__law_with_roots (h : sp__law_with_roots K Cof vs H Q E) : t__law_with_roots K Cof E { nx := fun _ H' => Q .non H', rt := Q } (start ["_law_pairs", "_law_scale", "_law_found", "_law_pair"] vs) H := by
  obtain ⟨a, s, ps, L, rfl, hA, hW, rt, l12, q⟩ := h
  have hlen := hW.len
  unfold t__law_with_roots
  walk_at "rd"
  refine r_lstK fun p1 H1 hp1 e1 h1 => ?_
  have hA1 := e1.l hA
  walk_at "rd"
  refine loop_list (xs := ps.map V.ref) (fun i σ' H' => ∃ (p : Addr) (u : Option V), σ' = [some (.ref a), some (.int s), some (.ref p), u] ∧ H p = none ∧ Ex H H' ∧ H' p = some (.lst ((MY.wr s (L.take i)).map V.int))) ⟨p1, _, rfl, hp1, e1, h1⟩ (fun i σ' H' _ hp => ?_) (fun i x σ' H' hx hp => ?_) (fun σ' H' hp => ?_)
  · obtain ⟨p, u, rfl, _, e2, _⟩ := hp
    exact e2.l hA
  · obtain ⟨p, u, rfl, hp, e2, h2⟩ := hp
    rw [List.getElem?_map] at hx
    obtain ⟨pt, hpt, rfl⟩ := Option.map_eq_some_iff.mp hx
    obtain ⟨⟨t, b⟩, hq, hpq⟩ := hW.get hpt
    have hm := List.mem_of_getElem? hq
    have hi : i < L.length := (List.getElem?_eq_some_iff.mp hq).1
    obtain ⟨st, sb⟩ := rt.pb _ hm
    have hpq2 := e2 _ _ hpq
    have lw := MY.wr_len s (L.take i)
    rw [List.length_take] at lw
    have sw := MY.wr_sz rt.sb (L.take i) fun p hp => rt.pb p (List.mem_of_mem_take hp)
    rw [List.length_take] at sw
    walk_at "rd"
    refine r_ixT (xs := [.int t, .int b]) (.inl (.inl hpq2)) (atI_nat (j := 0) rfl) ?_
    walk_at "rd"
    refine r_ixT (xs := [.int t, .int b]) (.inl (.inl hpq2)) (atI_nat (j := 1) rfl) ?_
    walk_at "rd"
    refine r_lstK fun p3 H3 hp3 e3 h3 => ?_
    walk_at "rd"
    refine c__law_product (44 + 45 * 12) 44 (P := MY.wr s (L.take i)) (R := [-t, b]) (SqL.inj (e3 _ _ h2)) (SqL.inj h3) ⟨MY.wr_ne _ _, by simp, by omega, by simp⟩ (sw.mono (by omega)) (fun z hz => ?_) ⟨by decide, by decide, by decide⟩ fun p4 H4 hp4 e4 h4 => ?_
    · simp only [List.mem_cons, List.not_mem_nil, or_false] at hz
      rcases hz with rfl | rfl
      · rw [Int.natAbs_neg]; exact st
      · exact sb
    walk_at "rd"
    refine ⟨p4, _, rfl, Evl.fresh_back (e2.trans e3) hp4, (e2.trans e3).trans e4, ?_⟩
    rw [List.take_add_one, hq, Option.toList_some, MY.wr_snoc]
    exact h4
  · obtain ⟨p, u, rfl, hp, e2, h2⟩ := hp
    rw [List.length_map, hlen, List.take_length] at h2
    walk_at "rd"
    exact q p _ hp e2 h2
theorem c__law_with_roots {a : Addr} {s : Int} {ps : List Addr} {L : MY.Prs} (hA : SqL K H a (ps.map V.ref)) (hW : Prs H ps L) (rt : MY.Rt s L) (l12 : L.length ≤ 12) (q : ∀ p H', H p = none → Ex H H' → H' p = some (.lst ((MY.wr s L).map V.int)) → Q (.ref p) H') : sp__law_with_roots K Cof [.ref a, .int s] H Q E := ⟨a, s, ps, L, rfl, hA, hW, rt, l12, q⟩
end

/-! #### _law_roots -/
--USE MZ RT
def LawP (p : Int × Int) : Prop := p.1.natAbs ≤ 1000000000000 ∧ 0 < p.2 ∧ p.2 ≤ 1000000
def sp__law_roots (K : PySem.W.Frag) (Cof : String → Addr) : Sp := fun vs H Q _ => ∃ (a : Addr) (ns : List Int) (s : Int) (n : Nat), vs = [.ref a, .int s, .int (n : Int)] ∧ SqL K H a (ns.map V.int) ∧ (0 ≤ s ∧ s ≤ 1000) ∧ n ≤ 12 ∧
  ∀ (D : Addr) (H' : Hp) (ps : List Addr) (L : MY.Prs), H D = none → Ex H H' → H' D = some (.lst (ps.map V.ref)) → Prs H' ps L → L.length = n → (∀ p ∈ L, LawP p) → Q (.ref D) H'
def t__law_roots (K : PySem.W.Frag) (Cof : String → Addr) (E : XK) : TS :=
  tSeq (tAsg (tLst (tNil)) (gName 3))
  (tSeq (tFor (iRng1 (tCons (tVar 2) (tNil))) (gName 4) (tSeq (tAsg (tCall (sp__law_number K Cof) [] E0 (tCons (tCall (sp__law_cell_at K Cof) [] E0 (tCons (tVar 0) (tCons (tOp rIAdd (tVar 1) (tOp rMul (tC (.int 2)) (tVar 4))) (tNil)))) (tCons (tVar 4) (tNil)))) (gName 5))
  (tSeq (tAsg (tOp rIAdd (tC (.int 1)) (tOp rMod (tCB rAbs (tCons (tCall (sp__law_number K Cof) [] E0 (tCons (tCall (sp__law_cell_at K Cof) [] E0 (tCons (tVar 0) (tCons (tOp rIAdd (tOp rIAdd (tVar 1) (tOp rMul (tC (.int 2)) (tVar 4))) (tC (.int 1))) (tNil)))) (tCons (tC (.int 2)) (tNil)))) (tNil))) (tOp rPow (tC (.int 10)) (tC (.int 6))))) (gName 6))
  (tIfS (tAnd (tTest (tOp rGt (tVar 4) (tC (.int 0)))) (tTest (tOp rEq (tOp rMod (tCall (sp__law_cell_at K Cof) [] E0 (tCons (tVar 0) (tCons (tOp rIAdd (tOp rIAdd (tVar 1) (tOp rMul (tC (.int 2)) (tVar 4))) (tC (.int 1))) (tNil)))) (tC (.int 7))) (tC (.int 3))))) (tDrop (tBM K "list" rAppend (tVar 3) (tCons (tOp (rIxL K) (tVar 3) (tC (.int 0))) (tNil)))) (tDrop (tBM K "list" rAppend (tVar 3) (tCons (tTup (tCons (tVar 5) (tCons (tVar 6) (tNil)))) (tNil))))))))
  (tRet (tVar 3)))

section
variable {K : PySem.W.Frag} {Cof : String → Addr} {vs : List V} {H : Hp} {Q : VK} {E : XK}
theorem len__law_roots (h : sp__law_roots K Cof vs H Q E) : vs.length = 3 := by
  obtain ⟨a, ns, s, n, rfl, _⟩ := h; rfl
theorem rd__law_roots (h : sp__law_roots K Cof vs H Q E) : t__law_roots K Cof E { nx := fun _ H' => Q .non H', rt := Q } (start ["_law_script", "_law_at", "_law_many", "_law_found", "_law_k", "_law_top", "_law_bottom"] vs) H := by
  obtain ⟨a, ns, s, n, rfl, hA, ⟨s0, s9⟩, n12, q⟩ := h
  unfold t__law_roots
  walk_at "rd"
  refine r_lstK fun D H1 hD e1 h1 => ?_
  walk_at "rd"
  refine r_iRng1A (by omega) (by omega) ?_
  rw [Int.toNat_natCast]
  refine loop_range0 (fun k σ' H' => ∃ (ps : List Addr) (L : MY.Prs) (u4 u5 u6 : Option V), σ' = [some (.ref a), some (.int s), some (.int (n : Int)), some (.ref D), u4, u5, u6] ∧ Ex H H' ∧ H' D = some (.lst (ps.map V.ref)) ∧ Prs H' ps L ∧ D ∉ ps ∧ L.length = k ∧ (∀ p ∈ L, LawP p)) ⟨[], [], _, _, _, rfl, e1, h1, trivial, (fun h => by cases h), rfl, (fun _ h => by cases h)⟩ (fun k σ' H' hk hp => ?_) (fun σ' H' hp => ?_)
  · obtain ⟨ps, L, u4, u5, u6, rfl, e2, h2, hW, hn, lL, hL⟩ := hp
    have hlen := hW.len
    have hA2 := e2.l hA
    have wk : CMulW 2 (k : Int) := wide_mul (a := 2) (b := 40) (by decide) (by omega) (by decide) (by decide) (by decide)
    walk_at "rd"
    refine r_mul wk ?_
    walk_at "rd"
    refine c__law_number (by omega) ?_
    have ht := numF_le (cellOf ns (s + 2 * (k : Int))) (k : Int)
    generalize numF (cellOf ns (s + 2 * (k : Int))) (k : Int) = t at ht ⊢
    walk_at "rd"
    refine r_mul wk ?_
    walk_at "rd"
    refine c__law_number (by decide) ?_
    generalize numF (cellOf ns (s + 2 * (k : Int) + 1)) 2 = b0
    walk_at "rd"
    have e6 : (10 : Int) ^ (6 : Int).toNat = 1000000 := by decide
    rw [e6]
    have d0 := Int.fmod_nonneg_of_pos (if b0 < 0 then -b0 else b0) (show (0 : Int) < 1000000 by decide)
    have d1 := Int.fmod_lt_of_pos (if b0 < 0 then -b0 else b0) (show (0 : Int) < 1000000 by decide)
    have hb : LawP (t, 1 + (if b0 < 0 then -b0 else b0).fmod 1000000) := ⟨ht, by show 0 < 1 + _; omega, by show 1 + _ ≤ _; omega⟩
    generalize 1 + (if b0 < 0 then -b0 else b0).fmod 1000000 = b at hb ⊢
    clear d0 d1
    refine ite_d (fun hk0 => ?_) (fun _ => ?_)
    · walk_at "rd"
      refine r_mul wk ?_
      walk_at "rd"
      refine ite_d (fun _ => ?_) (fun _ => ?_)
      · obtain ⟨p0, ps', rfl⟩ : ∃ p0 ps', ps = p0 :: ps' := by
          cases ps with
          | nil => simp at hlen; omega
          | cons p0 ps' => exact ⟨p0, ps', rfl⟩
        obtain ⟨q0, hq0, hp0⟩ := hW.get (i := 0) (p := p0) rfl
        walk_at "rd"
        refine r_ixL (SqL.inj h2) (v := .ref p0) (atI_nat (j := 0) rfl) ?_
        walk_at "rd"
        refine r_append h2 (by rw [List.length_map]; exact small_lt (by omega)) fun H5 b5 h5 => ?_
        walk_at "rd"
        refine ⟨(p0 :: ps') ++ [p0], L ++ [q0], _, _, _, rfl, Evl.Ex.mutb e2 b5 hD, by rw [List.map_append]; exact h5, Prs.append (hW.exb b5 hn) ⟨b5 _ (fun z => hn (by rw [← z]; exact List.mem_cons_self ..)) _ hp0, trivial⟩, ?_, by rw [List.length_append, lL]; rfl, ?_⟩
        · intro h
          rcases List.mem_append.mp h with h | h
          · exact hn h
          · exact hn (by rw [List.mem_singleton.mp h]; exact List.mem_cons_self ..)
        · intro p hp
          rcases List.mem_append.mp hp with h | h
          · exact hL p h
          · rw [List.mem_singleton.mp h]; exact hL _ (List.mem_of_getElem? hq0)
      · walk_at "rd"
        refine r_tupK fun p3 H3 hp3 e3 h3 => ?_
        have nD : p3 ≠ D := fun z => by rw [z, h2] at hp3; cases hp3
        walk_at "rd"
        refine r_append (e3 _ _ h2) (by rw [List.length_map]; exact small_lt (by omega)) fun H5 b5 h5 => ?_
        walk_at "rd"
        refine ⟨ps ++ [p3], L ++ [(t, b)], _, _, _, rfl, Evl.Ex.mutb (e2.trans e3) b5 hD, by rw [List.map_append]; exact h5, Prs.append ((hW.ex e3).exb b5 hn) ⟨b5 _ nD _ h3, trivial⟩, ?_, by rw [List.length_append, lL]; rfl, ?_⟩
        · intro h
          rcases List.mem_append.mp h with h | h
          · exact hn h
          · exact nD (List.mem_singleton.mp h).symm
        · intro p hp
          rcases List.mem_append.mp hp with h | h
          · exact hL p h
          · rw [List.mem_singleton.mp h]; exact hb
    · walk_at "rd"
      refine r_tupK fun p3 H3 hp3 e3 h3 => ?_
      have nD : p3 ≠ D := fun z => by rw [z, h2] at hp3; cases hp3
      walk_at "rd"
      refine r_append (e3 _ _ h2) (by rw [List.length_map]; exact small_lt (by omega)) fun H5 b5 h5 => ?_
      walk_at "rd"
      refine ⟨ps ++ [p3], L ++ [(t, b)], _, _, _, rfl, Evl.Ex.mutb (e2.trans e3) b5 hD, by rw [List.map_append]; exact h5, Prs.append ((hW.ex e3).exb b5 hn) ⟨b5 _ nD _ h3, trivial⟩, ?_, by rw [List.length_append, lL]; rfl, ?_⟩
      · intro h
        rcases List.mem_append.mp h with h | h
        · exact hn h
        · exact nD (List.mem_singleton.mp h).symm
      · intro p hp
        rcases List.mem_append.mp hp with h | h
        · exact hL p h
        · rw [List.mem_singleton.mp h]; exact hb
  · obtain ⟨ps, L, u4, u5, u6, rfl, e2, h2, hW, hn, lL, hL⟩ := hp
    walk_at "rd"
    exact q D _ ps L hD e2 h2 hW lL hL
theorem c__law_roots {a : Addr} {ns : List Int} {s : Int} {n : Nat} (hA : SqL K H a (ns.map V.int)) (hs : 0 ≤ s ∧ s ≤ 1000) (n12 : n ≤ 12) (q : ∀ (D : Addr) (H' : Hp) (ps : List Addr) (L : MY.Prs), H D = none → Ex H H' → H' D = some (.lst (ps.map V.ref)) → Prs H' ps L → L.length = n → (∀ p ∈ L, LawP p) → Q (.ref D) H') : sp__law_roots K Cof [.ref a, .int s, .int (n : Int)] H Q E := ⟨a, ns, s, n, rfl, hA, hs, n12, q⟩
end

/-! #### _law_power -/
def sp__law_power (K : PySem.W.Frag) (Cof : String → Addr) : Sp := fun vs H Q _ => ∃ (b : Int) (n m : Nat), vs = [.int b, .int (n : Int)] ∧ b.natAbs < 2 ^ m ∧ 0 < m ∧ m ≤ 1000 ∧ n ≤ 100 ∧ Q (.int (b ^ n)) H
def t__law_power (K : PySem.W.Frag) (Cof : String → Addr) (E : XK) : TS :=
  tSeq (tAsg (tC (.int 1)) (gName 2))
  (tSeq (tFor (iRng1 (tCons (tVar 1) (tNil))) (gName 3) (tAsg (tOp rMul (tVar 2) (tVar 0)) (gName 2)))
  (tRet (tVar 2)))

section
variable {K : PySem.W.Frag} {Cof : String → Addr} {vs : List V} {H : Hp} {Q : VK} {E : XK}
theorem len__law_power (h : sp__law_power K Cof vs H Q E) : vs.length = 2 := by
  obtain ⟨b, n, m, rfl, _⟩ := h; rfl
theorem pow_lt' {b : Int} {m : Nat} (h : b.natAbs < 2 ^ m) : ∀ k, (b ^ k).natAbs < 2 ^ (m * k + 1)
  | 0 => by rw [Int.pow_zero]; exact Nat.one_lt_two_pow (by omega)
  | k + 1 => by
    rw [Int.pow_succ, show m * (k + 1) + 1 = m * k + 1 + m by rw [Nat.mul_succ]; omega]
    exact wide_lt (pow_lt' h k) h
theorem rd__law_power (h : sp__law_power K Cof vs H Q E) : t__law_power K Cof E { nx := fun _ H' => Q .non H', rt := Q } (start ["_law_base", "_law_k", "_law_found", "_law_turn"] vs) H := by
  obtain ⟨b, n, m, rfl, hb, m0, m9, hn, q⟩ := h
  unfold t__law_power
  walk_at "rd"
  refine r_iRng1A (by omega) (by omega) ?_
  rw [Int.toNat_natCast]
  refine loop_range0 (fun k σ' H' => ∃ u, σ' = [some (.int b), some (.int (n : Int)), some (.int (b ^ k)), u] ∧ H = H') ⟨_, by rw [Int.pow_zero]; rfl, rfl⟩ (fun k σ' H' hk hp' => ?_) (fun σ' H' hp' => ?_)
  · obtain ⟨u, rfl, rfl⟩ := hp'
    walk_at "rd"
    have : m * k ≤ 1000 * 100 := Nat.mul_le_mul m9 (by omega)
    refine r_mul (wide_mul (pow_lt' hb k) hb (by omega) m0 (by omega)) ?_
    walk_at "rd"
    exact ⟨_, by rw [Int.pow_succ]; rfl, rfl⟩
  · obtain ⟨u, rfl, rfl⟩ := hp'
    walk_at "rd"
    exact q
theorem c__law_power {b : Int} {n : Nat} (m : Nat) (hb : b.natAbs < 2 ^ m) (m0 : 0 < m) (m9 : m ≤ 1000) (hn : n ≤ 100) (q : Q (.int (b ^ n)) H) : sp__law_power K Cof [.int b, .int (n : Int)] H Q E := ⟨b, n, m, rfl, hb, m0, m9, hn, q⟩
end

/-! #### law -/
--USE MZ RT RN
def sp_law (K : PySem.W.Frag) (Cof : String → Addr) : Sp := fun vs H Q _ => ∃ (a : Addr) (ns : List Int), vs = [.ref a] ∧ SqL K H a (ns.map V.int) ∧ ns.length ≤ 63 ∧ ∀ H', Q (.bl true) H'
def t_law (K : PySem.W.Frag) (Cof : String → Addr) (E : XK) : TS :=
  tSeq (tAsg (tCall (sp__law_cell_at K Cof) [] E0 (tCons (tVar 0) (tCons (tC (.int 0)) (tNil)))) (gName 1))
  (tSeq (tAsg (tOp rIAdd (tC (.int 1)) (tOp rMod (tVar 1) (tC (.int 4)))) (gName 2))
  (tSeq (tAsg (tOp rIAdd (tC (.int 1)) (tOp rMod (tOp rDiv (tVar 1) (tC (.int 4))) (tC (.int 3)))) (gName 3))
  (tCut (tIfS (tTest (tOp rEq (tOp rMod (tOp rDiv (tVar 1) (tC (.int 12))) (tC (.int 6))) (tC (.int 1)))) (tSeq (tAsg (tLst (tCons (tTup (tCons (tC (.int 1)) (tCons (tOp rIAdd (tC (.int 1)) (tOp rMod (tOp rDiv (tVar 1) (tC (.int 720))) (tC (.int 12)))) (tNil)))) (tCons (tTup (tCons (tC (.int 12)) (tCons (tC (.int 1)) (tNil)))) (tCons (tTup (tCons (tC (.int 6)) (tCons (tC (.int 2)) (tNil)))) (tCons (tTup (tCons (tC (.int 2)) (tCons (tC (.int 6)) (tNil)))) (tCons (tTup (tCons (tC (.int 3)) (tCons (tC (.int 4)) (tNil)))) (tNil))))))) (gName 4))
  (tSeq (tAsg (tOp rCat (tVar 4) (tLst (tCons (tTup (tCons (tC (.int 9)) (tCons (tC (.int 1)) (tNil)))) (tCons (tTup (tCons (tC (.int 10)) (tCons (tC (.int 1)) (tNil)))) (tCons (tTup (tCons (tC (.int 11)) (tCons (tC (.int 1)) (tNil)))) (tCons (tTup (tCons (tC (.int 5)) (tCons (tC (.int 2)) (tNil)))) (tCons (tTup (tCons (tC (.int 8)) (tCons (tC (.int 1)) (tNil)))) (tNil)))))))) (gName 4))
  (tAsg (tOp (rIxL K) (tVar 4) (tOp rMod (tOp rDiv (tVar 1) (tC (.int 72))) (tC (.int 10)))) (gTup K 2 (gCons (gName 2) (gCons (gName 3) (gNil))))))) (tNext))
  (tSeq (tAsg (tOp rIAdd (tC (.int 1)) (tOp rMod (tCall (sp__law_cell_at K Cof) [] E0 (tCons (tVar 0) (tCons (tC (.int 1)) (tNil)))) (tC (.int 8)))) (gName 5))
  (tSeq (tAsg (tCall (sp__law_roots K Cof) [] E0 (tCons (tVar 0) (tCons (tC (.int 3)) (tCons (tVar 2) (tNil))))) (gName 6))
  (tSeq (tAsg (tCall (sp__law_roots K Cof) [] E0 (tCons (tVar 0) (tCons (tOp rIAdd (tC (.int 3)) (tOp rMul (tC (.int 2)) (tVar 2))) (tCons (tVar 3) (tNil))))) (gName 7))
  (tSeq (tAsg (tCall (sp__law_with_roots K Cof) [] E0 (tCons (tVar 6) (tCons (tOp rIAdd (tC (.int 1)) (tOp rMod (tCall (sp__law_cell_at K Cof) [] E0 (tCons (tVar 0) (tCons (tC (.int 2)) (tNil)))) (tC (.int 5)))) (tNil)))) (gName 8))
  (tSeq (tAsg (tCall (sp__law_with_roots K Cof) [] E0 (tCons (tVar 7) (tCons (tOp rISub (tUn rNeg (tC (.int 1))) (tOp rMod (tOp rDiv (tCall (sp__law_cell_at K Cof) [] E0 (tCons (tVar 0) (tCons (tC (.int 2)) (tNil)))) (tC (.int 5))) (tC (.int 5)))) (tNil)))) (gName 9))
  (tSeq (tAsg (tLst (tCons (tC (.int 1)) (tNil))) (gName 10))
  (tSeq (tAsg (tLst (tCons (tC (.int 1)) (tNil))) (gName 11))
  (tSeq (tFor (iList K (tVar 6)) (gName 12) (tFor (iList K (tVar 7)) (gName 13) (tSeq (tAsg (tOp rIAdd (tOp rMul (tOp (rIxT K) (tVar 12) (tC (.int 0))) (tOp (rIxT K) (tVar 13) (tC (.int 1)))) (tOp rMul (tOp (rIxT K) (tVar 13) (tC (.int 0))) (tOp (rIxT K) (tVar 12) (tC (.int 1))))) (gName 14))
  (tSeq (tAsg (tCall (sp__law_product K Cof) [] E0 (tCons (tVar 10) (tCons (tCall (sp__law_factor K Cof) [] E0 (tCons (tVar 14) (tCons (tOp rMul (tOp (rIxT K) (tVar 12) (tC (.int 1))) (tOp (rIxT K) (tVar 13) (tC (.int 1)))) (tNil)))) (tNil)))) (gName 10))
  (tAsg (tCall (sp__law_product K Cof) [] E0 (tCons (tVar 11) (tCons (tCall (sp__law_factor K Cof) [] E0 (tCons (tOp rMul (tOp (rIxT K) (tVar 12) (tC (.int 0))) (tOp (rIxT K) (tVar 13) (tC (.int 0)))) (tCons (tOp rMul (tOp (rIxT K) (tVar 12) (tC (.int 1))) (tOp (rIxT K) (tVar 13) (tC (.int 1)))) (tNil)))) (tNil)))) (gName 11))))))
  (tSeq (tAsg (tLst (tCons (tC (.int 1)) (tNil))) (gName 15))
  (tSeq (tFor (iList K (tVar 6)) (gName 12) (tAsg (tCall (sp__law_product K Cof) [] E0 (tCons (tVar 15) (tCons (tCall (sp__law_factor K Cof) [] E0 (tCons (tCall (sp__law_power K Cof) [] E0 (tCons (tOp (rIxT K) (tVar 12) (tC (.int 0))) (tCons (tVar 5) (tNil)))) (tCons (tCall (sp__law_power K Cof) [] E0 (tCons (tOp (rIxT K) (tVar 12) (tC (.int 1))) (tCons (tVar 5) (tNil)))) (tNil)))) (tNil)))) (gName 15)))
  (tSeq (tAsg (tTup (tCons (tCB (rListS K) (tCons (tVar 8) (tNil))) (tCons (tCB (rListS K) (tCons (tVar 9) (tNil))) (tNil)))) (gName 16))
  (tSeq (tFor (iRng1 (tCons (tC (.int 2)) (tNil))) (gName 17) (tSeq (tAsg (tLst (tCons (tCall (sp_sums K Cof) [] E0 (tCons (tVar 8) (tCons (tVar 9) (tNil)))) (tCons (tCall (sp_products K Cof) [] E0 (tCons (tVar 8) (tCons (tVar 9) (tNil)))) (tNil)))) (gName 18))
  (tSeq (tIfS (tOr (tNot (tB (tCall (sp__law_is K Cof) [] E0 (tCons (tOp (rIxL K) (tVar 18) (tC (.int 0))) (tCons (tVar 10) (tNil)))))) (tNot (tB (tCall (sp__law_is K Cof) [] E0 (tCons (tOp (rIxL K) (tVar 18) (tC (.int 1))) (tCons (tVar 11) (tNil))))))) (tRet (tC (.bl false))) (tNext))
  (tCut (tIfS (tTest (tOp rLt (tVar 2) (tC (.int 9)))) (tSeq (tDrop (tBM K "list" rAppend (tVar 18) (tCons (tCall (sp_powers K Cof) [] E0 (tCons (tVar 8) (tCons (tVar 5) (tNil)))) (tNil))))
  (tIfS (tNot (tB (tCall (sp__law_is K Cof) [] E0 (tCons (tOp (rIxL K) (tVar 18) (tC (.int 2))) (tCons (tVar 15) (tNil)))))) (tRet (tC (.bl false))) (tNext))) (tNext))
  (tFor (iList K (tVar 18)) (gName 12) (tDrop (tBM K "list" rAppend (tVar 12) (tCons (tC (.int 1)) (tNil)))))))))
  (tRet (tOp (rEqD K) (tVar 16) (tTup (tCons (tVar 8) (tCons (tVar 9) (tNil)))))))))))))))))))))

section
variable {K : PySem.W.Frag} {Cof : String → Addr} {vs : List V} {H : Hp} {Q : VK} {E : XK}
theorem len_law (h : sp_law K Cof vs H Q E) : vs.length = 1 := by
  obtain ⟨a, ns, rfl, _⟩ := h; rfl
theorem r_eqT2 {K : PySem.W.Frag} {H : Hp} {Q : VK} {p q a b c d : Addr} {ns ms : List Int} (h1 : SqT K H p [.ref a, .ref b]) (ha : SqL K H a (ns.map V.int)) (hb : SqL K H b (ms.map V.int)) (h2 : SqT K H q [.ref c, .ref d]) (hc : SqL K H c (ns.map V.int)) (hd : SqL K H d (ms.map V.int)) (k : Q (.bl true) H) : rEqD K (.ref p) (.ref q) H Q := by
  have sh : SeqAt.shaped (PyData.tuple [dI ns, dI ms]) = true := by
    have h1 := depth_dI ns
    have h2 := depth_dI ms
    have l1 : PyData.canLay0 (dI ns) = true := by unfold dI; rw [PyData.canLay0, canLay_ints]
    have l2 : PyData.canLay0 (dI ms) = true := by unfold dI; rw [PyData.canLay0, canLay_ints]
    unfold SeqAt.shaped
    rw [Bool.and_eq_true]
    refine ⟨?_, ?_⟩
    · simp [PyData.canLay0, PyData.canLayAll0, l1, l2]
    · refine decide_eq_true ?_
      simp only [PyData.depth, PyData.depthAll]
      omega
  refine ⟨_, _, .tup h1 (.cons (dp_listI ha) (.cons (dp_listI hb) .nil)), .tup h2 (.cons (dp_listI hc) (.cons (dp_listI hd) .nil)), sh, sh, ?_⟩
  have e : PyData.eqv (.tuple [dI ns, dI ms]) (.tuple [dI ns, dI ms]) = true := by
    simp [PyData.eqv, PyData.eqvAll, eqv_dI]
  show Q (.bl (PyData.eqv (.tuple [dI ns, dI ms]) (.tuple [dI ns, dI ms]))) H
  rw [e]; exact k
/-- a list of fractions so far -/
structure Okl (B : Nat) (L : MY.Prs) : Prop where
  bp : MY.Bp L
  sz : ∀ p ∈ L, p.1.natAbs < 2 ^ B ∧ p.2.natAbs < 2 ^ B
theorem Okl.snoc {B : Nat} {L : MY.Prs} {p : Int × Int} (h : Okl B L) (h0 : 0 < p.2) (h1 : p.1.natAbs < 2 ^ B) (h2 : p.2.natAbs < 2 ^ B) : Okl B (L ++ [p]) := ⟨fun q hq => by
  rcases List.mem_append.mp hq with hq | hq
  · exact h.bp q hq
  · rw [List.mem_singleton.mp hq]; exact h0, fun q hq => by
  rcases List.mem_append.mp hq with hq | hq
  · exact h.sz q hq
  · rw [List.mem_singleton.mp hq]; exact ⟨h1, h2⟩⟩
theorem Okl.nil (B : Nat) : Okl B [] := ⟨(fun _ h => by cases h), (fun _ h => by cases h)⟩
theorem take_next {α : Type} {L : List α} {i : Nat} {p : α} (h : L[i]? = some p) : L.take (i + 1) = L.take i ++ [p] := by
  rw [List.take_add_one, h]; rfl
theorem sumsP_next (g : Int × Int → Int × Int → Int × Int) (qs : MY.Prs) {L : MY.Prs} {i : Nat} {p : Int × Int} (h : L[i]? = some p) : (L.take (i + 1)).flatMap (fun p => qs.map (g p)) = (L.take i).flatMap (fun p => qs.map (g p)) ++ qs.map (g p) := by
  rw [take_next h, List.flatMap_append]; simp
theorem LawP.sz {p : Int × Int} (h : LawP p) : p.1.natAbs < 2 ^ 44 ∧ p.2.natAbs < 2 ^ 44 ∧ 0 < p.2 := by
  obtain ⟨h1, h2, h3⟩ := h
  exact ⟨by omega, by omega, h2⟩
theorem rt_of {s : Int} {L : MY.Prs} {n : Nat} (s0 : s ≠ 0) (ss : s.natAbs ≤ 5) (hl : L.length = n) (n1 : 1 ≤ n) (h : ∀ p ∈ L, LawP p) : MY.Rt s L := ⟨s0, by omega, fun p hp => (h p hp).sz.2.2, fun p hp => ⟨(h p hp).sz.1, (h p hp).sz.2.1⟩, by omega⟩
theorem pow_le8 {b : Int} {n : Nat} (h : b.natAbs < 2 ^ 44) (hn : n ≤ 8) : (b ^ n).natAbs < 2 ^ 353 :=
  Nat.lt_of_lt_of_le (pow_lt' h n) (Nat.pow_le_pow_right (by decide) (by omega))
theorem rd_law (h : sp_law K Cof vs H Q E) : t_law K Cof E { nx := fun _ H' => Q .non H', rt := Q } (start ["_law_script", "_law_first", "_law_m", "_law_n", "_law_some", "_law_k", "_law_ones", "_law_others", "_law_kp", "_law_kq", "_law_summed", "_law_mixed", "_law_one", "_law_other", "_law_top", "_law_powered", "_law_kept", "_law_turn", "_law_told"] vs) H := by
  obtain ⟨a, ns, rfl, hS, hl, q⟩ := h
  unfold t_law
  walk_at "rd"
  generalize cellOf ns 0 = first
  have i0 := Int.fmod_nonneg_of_pos first (show (0 : Int) < 4 by decide)
  have i1 := Int.fmod_lt_of_pos first (show (0 : Int) < 4 by decide)
  have j0 := Int.fmod_nonneg_of_pos (first.fdiv 4) (show (0 : Int) < 3 by decide)
  have j1 := Int.fmod_lt_of_pos (first.fdiv 4) (show (0 : Int) < 3 by decide)
  refine ⟨fun σ' H' => ∃ (m n : Nat) (u4 : Option V), σ' = [some (.ref a), some (.int first), some (.int (m : Int)), some (.int (n : Int)), u4, none, none, none, none, none, none, none, none, none, none, none, none, none, none] ∧ Ex H H' ∧ 1 ≤ m ∧ 1 ≤ n ∧ m * n ≤ 12, ?_, fun σ' H' hM => ?_⟩
  · walk_at "rd"
    refine ite_d (fun _ => ?_) (fun _ => ?_)
    · walk_at "rd"
      have k0 := Int.fmod_nonneg_of_pos (first.fdiv 720) (show (0 : Int) < 12 by decide)
      have k1 := Int.fmod_lt_of_pos (first.fdiv 720) (show (0 : Int) < 12 by decide)
      obtain ⟨x, hx⟩ : ∃ x : Nat, 1 + (first.fdiv 720).fmod 12 = (x : Int) := ⟨(1 + (first.fdiv 720).fmod 12).toNat, by omega⟩
      rw [hx]
      refine r_tupK fun t1 G1 ht1 f1 g1 => ?_
      walk_at "rd"
      refine r_tupK fun t2 G2 ht2 f2 g2 => ?_
      walk_at "rd"
      refine r_tupK fun t3 G3 ht3 f3 g3 => ?_
      walk_at "rd"
      refine r_tupK fun t4 G4 ht4 f4 g4 => ?_
      walk_at "rd"
      refine r_tupK fun t5 G5 ht5 f5 g5 => ?_
      walk_at "rd"
      refine r_lstK fun p6 G6 hp6 f6 g6 => ?_
      walk_at "rd"
      refine r_tupK fun t7 G7 ht7 f7 g7 => ?_
      walk_at "rd"
      refine r_tupK fun t8 G8 ht8 f8 g8 => ?_
      walk_at "rd"
      refine r_tupK fun t9 G9 ht9 f9 g9 => ?_
      walk_at "rd"
      refine r_tupK fun t10 G10 ht10 f10 g10 => ?_
      walk_at "rd"
      refine r_tupK fun t11 G11 ht11 f11 g11 => ?_
      walk_at "rd"
      refine r_lstK fun p12 G12 hp12 f12 g12 => ?_
      walk_at "rd"
      have e711 := (((f7.trans f8).trans f9).trans f10).trans f11
      refine r_cat (f12 _ _ (e711 _ _ g6)) g12 (by show 5 + 5 ≤ sizeLine; decide) fun p13 G13 hp13 f13 g13 => ?_
      have W1 : Prs G6 [t1, t2, t3, t4, t5] [(1, (x : Int)), (12, 1), (6, 2), (2, 6), (3, 4)] := ⟨f6 _ _ (f5 _ _ (f4 _ _ (f3 _ _ (f2 _ _ g1)))), f6 _ _ (f5 _ _ (f4 _ _ (f3 _ _ g2))), f6 _ _ (f5 _ _ (f4 _ _ g3)), f6 _ _ (f5 _ _ g4), f6 _ _ g5, trivial⟩
      have W2 : Prs G12 [t7, t8, t9, t10, t11] [(9, 1), (10, 1), (11, 1), (5, 2), (8, 1)] := ⟨f12 _ _ (f11 _ _ (f10 _ _ (f9 _ _ (f8 _ _ g7)))), f12 _ _ (f11 _ _ (f10 _ _ (f9 _ _ g8))), f12 _ _ (f11 _ _ (f10 _ _ g9)), f12 _ _ (f11 _ _ g10), f12 _ _ g11, trivial⟩
      have W := Prs.append ((W1.ex (e711.trans f12)).ex f13) (W2.ex f13)
      have g13' : G13 p13 = some (.lst (([t1, t2, t3, t4, t5] ++ [t7, t8, t9, t10, t11]).map V.ref)) := g13
      have eH : Ex H G13 := ((((((f1.trans f2).trans f3).trans f4).trans f5).trans f6).trans e711).trans (f12.trans f13)
      clear W1 W2 g13 f1 f2 f3 f4 f5 f6 f7 f8 f9 f10 f11 f12 f13 g1 g2 g3 g4 g5 g6 g7 g8 g9 g10 g11 g12 e711
      walk_at "rd"
      have q0 := Int.fmod_nonneg_of_pos (first.fdiv 72) (show (0 : Int) < 10 by decide)
      have q1 := Int.fmod_lt_of_pos (first.fdiv 72) (show (0 : Int) < 10 by decide)
      obtain ⟨j, hj⟩ : ∃ j : Nat, (first.fdiv 72).fmod 10 = (j : Int) := ⟨((first.fdiv 72).fmod 10).toNat, by omega⟩
      rw [hj]
      have hj10 : j < ([t1, t2, t3, t4, t5] ++ [t7, t8, t9, t10, t11] : List Addr).length := by show j < 10; omega
      obtain ⟨⟨c, d⟩, hqe, hqt⟩ := W.get (List.getElem?_eq_getElem hj10)
      refine r_ixL (SqL.inj g13') (v := .ref (([t1, t2, t3, t4, t5] ++ [t7, t8, t9, t10, t11] : List Addr)[j])) (atI_nat (j := j) (by rw [List.getElem?_map, List.getElem?_eq_getElem hj10]; rfl)) ?_
      refine r_gtup hqt rfl ?_
      refine r_gcons' ?_
      walk_at "rd"
      refine r_gcons' ?_
      walk_at "rd"
      refine r_gnil' ?_
      walk_at "rd"
      have hm := List.mem_of_getElem? hqe
      have hcd : 1 ≤ c ∧ 1 ≤ d ∧ c.toNat * d.toNat ≤ 12 := by
        simp only [List.mem_append, List.mem_cons, Prod.mk.injEq, List.not_mem_nil, or_false] at hm
        rcases hm with (⟨rfl, rfl⟩ | ⟨rfl, rfl⟩ | ⟨rfl, rfl⟩ | ⟨rfl, rfl⟩ | ⟨rfl, rfl⟩) | (⟨rfl, rfl⟩ | ⟨rfl, rfl⟩ | ⟨rfl, rfl⟩ | ⟨rfl, rfl⟩ | ⟨rfl, rfl⟩)
        · refine ⟨by decide, by omega, ?_⟩
          rw [show (1 : Int).toNat = 1 from rfl]; omega
        all_goals decide
      refine ⟨c.toNat, d.toNat, some (.ref p13), ?_, eH, by omega, by omega, hcd.2.2⟩
      rw [Int.toNat_of_nonneg (show 0 ≤ c by omega), Int.toNat_of_nonneg (show 0 ≤ d by omega)]; rfl
    · walk_at "rd"
      refine ⟨(1 + first.fmod 4).toNat, (1 + (first.fdiv 4).fmod 3).toNat, none, ?_, Evl.Ex.refl _, by omega, by omega, ?_⟩
      · rw [Int.toNat_of_nonneg (show 0 ≤ 1 + first.fmod 4 by omega), Int.toNat_of_nonneg (show 0 ≤ 1 + (first.fdiv 4).fmod 3 by omega)]; rfl
      · exact Nat.mul_le_mul (show (1 + first.fmod 4).toNat ≤ 4 by omega) (show (1 + (first.fdiv 4).fmod 3).toNat ≤ 3 by omega)
  obtain ⟨m, n, u4, rfl, eH, m1, n1, mn12⟩ := hM
  obtain ⟨m12, n12, mn13⟩ := MY.mn_cases m1 n1 mn12
  clear i0 i1 j0 j1
  have hS0 := eH.l hS
  clear eH hS
  walk_at "rd"
  have k0 := Int.fmod_nonneg_of_pos (cellOf ns 1) (show (0 : Int) < 8 by decide)
  have k1 := Int.fmod_lt_of_pos (cellOf ns 1) (show (0 : Int) < 8 by decide)
  obtain ⟨k, hk⟩ : ∃ k : Nat, 1 + (cellOf ns 1).fmod 8 = (k : Int) := ⟨(1 + (cellOf ns 1).fmod 8).toNat, by omega⟩
  rw [hk]
  have kb : 1 ≤ k ∧ k ≤ 8 := by omega
  clear k0 k1
  refine c__law_roots hS0 (by decide) m12 fun O H1 p1s L1 hO e1 hO1 W1 l1 hL1 => ?_
  have hS1 := e1.l hS0
  walk_at "rd"
  refine r_mul (wide_mul (a := 2) (b := 40) (by decide) (show ((m : Nat) : Int).natAbs < 2 ^ 40 by omega) (by decide) (by decide) (by decide)) ?_
  walk_at "rd"
  refine c__law_roots hS1 (by omega) n12 fun T H2 p2s L2 hT e2 hT2 W2 l2 hL2 => ?_
  have hS2 := e2.l hS1
  have hO2 := e2 _ _ hO1
  have W12 := W1.ex e2
  walk_at "rd"
  have s0 := Int.fmod_nonneg_of_pos (cellOf ns 2) (show (0 : Int) < 5 by decide)
  have s1 := Int.fmod_lt_of_pos (cellOf ns 2) (show (0 : Int) < 5 by decide)
  have r1 : MY.Rt (1 + (cellOf ns 2).fmod 5) L1 := rt_of (by omega) (by omega) l1 m1 hL1
  generalize 1 + (cellOf ns 2).fmod 5 = s at r1 ⊢
  refine c__law_with_roots (SqL.inj hO2) W12 r1 (by omega) fun kp H3 hkp e3 h3 => ?_
  have hS3 := e3.l hS2
  have hO3 := e3 _ _ hO2
  have hT3 := e3 _ _ hT2
  have W13 := W12.ex e3
  have W23 := W2.ex e3
  clear s0 s1
  walk_at "rd"
  have s0 := Int.fmod_nonneg_of_pos ((cellOf ns 2).fdiv 5) (show (0 : Int) < 5 by decide)
  have s1 := Int.fmod_lt_of_pos ((cellOf ns 2).fdiv 5) (show (0 : Int) < 5 by decide)
  have r2 : MY.Rt (-1 - ((cellOf ns 2).fdiv 5).fmod 5) L2 := rt_of (by omega) (by omega) l2 n1 hL2
  generalize -1 - ((cellOf ns 2).fdiv 5).fmod 5 = t at r2 ⊢
  refine c__law_with_roots (SqL.inj hT3) W23 r2 (by omega) fun kq H4 hkq e4 h4 => ?_
  have hO4 := e4 _ _ hO3
  have hT4 := e4 _ _ hT3
  have hkp4 := e4 _ _ h3
  have W14 := W13.ex e4
  have W24 := W23.ex e4
  clear s0 s1 hS0 hS1 hS2 hS3 hO1 hO2 hO3 hT2 hT3 W12 W13 W23 W1 W2 h3 hO hT hkp hkq e1 e2 e3 e4
  walk_at "rd"
  refine r_lstK fun su5 H5 hsu5 e5 hs5 => ?_
  walk_at "rd"
  refine r_lstK fun mi6 H6 hmi6 e6 hm6 => ?_
  have e46 := e5.trans e6
  have hl1 := W14.len
  have hl2 := W24.len
  walk_at "rd"
  refine loop_list (xs := p1s.map V.ref) (fun i σ' H' => ∃ (su mi : Addr) (u12 u13 u14 : Option V), σ' = [some (.ref a), some (.int first), some (.int (m : Int)), some (.int (n : Int)), u4, some (.int (k : Int)), some (.ref O), some (.ref T), some (.ref kp), some (.ref kq), some (.ref su), some (.ref mi), u12, u13, u14, none, none, none, none] ∧ Ex H4 H' ∧ H' su = some (.lst ((MY.wf (MY.sumsP (L1.take i) L2)).map V.int)) ∧ H' mi = some (.lst ((MY.wf (MY.prodP (L1.take i) L2)).map V.int)) ∧ Okl 90 (MY.sumsP (L1.take i) L2) ∧ Okl 90 (MY.prodP (L1.take i) L2)) ⟨su5, mi6, _, _, _, rfl, e46, e6 _ _ hs5, hm6, Okl.nil _, Okl.nil _⟩ (fun i σ' H' _ hp => ?_) (fun i x σ' H' hx hp => ?_) (fun σ' H' hp => ?_)
  · obtain ⟨su, mi, u12, u13, u14, rfl, e7, _⟩ := hp
    exact SqL.inj (e7 _ _ hO4)
  · obtain ⟨su, mi, u12, u13, u14, rfl, e7, hsu, hmi, oS, oM⟩ := hp
    rw [List.getElem?_map] at hx
    obtain ⟨pt, hpt, rfl⟩ := Option.map_eq_some_iff.mp hx
    obtain ⟨p, hq, hpq⟩ := W14.get hpt
    have hi : i < L1.length := (List.getElem?_eq_some_iff.mp hq).1
    have lS : (MY.sumsP (L1.take i) L2).length ≤ 12 - L2.length := by
      have := MY.flat_len MY.addP L2 (L1.take i)
      rw [List.length_take, Nat.min_eq_left (by omega)] at this
      have h2 : (i + 1) * L2.length ≤ L1.length * L2.length := Nat.mul_le_mul_right _ (by omega)
      rw [Nat.add_mul, Nat.one_mul, l1, l2] at h2
      show ((L1.take i).flatMap fun p => L2.map (MY.addP p)).length ≤ _
      rw [this, l2]; omega
    have lM : (MY.prodP (L1.take i) L2).length ≤ 12 - L2.length := by
      have h1 := MY.flat_len MY.addP L2 (L1.take i)
      have h2 := MY.flat_len MY.mulP L2 (L1.take i)
      show ((L1.take i).flatMap fun p => L2.map (MY.mulP p)).length ≤ _
      have lS' : ((L1.take i).flatMap fun p => L2.map (MY.addP p)).length ≤ 12 - L2.length := lS
      omega
    obtain ⟨c1, c2, c3⟩ := (hL1 _ (List.mem_of_getElem? hq)).sz
    walk_at "rd"
    refine loop_list (xs := p2s.map V.ref) (fun j σ' H' => ∃ (su mi : Addr) (u13 u14 : Option V), σ' = [some (.ref a), some (.int first), some (.int (m : Int)), some (.int (n : Int)), u4, some (.int (k : Int)), some (.ref O), some (.ref T), some (.ref kp), some (.ref kq), some (.ref su), some (.ref mi), some (.ref pt), u13, u14, none, none, none, none] ∧ Ex H4 H' ∧ H' su = some (.lst ((MY.wf (MY.sumsP (L1.take i) L2 ++ (L2.take j).map (MY.addP p))).map V.int)) ∧ H' mi = some (.lst ((MY.wf (MY.prodP (L1.take i) L2 ++ (L2.take j).map (MY.mulP p))).map V.int)) ∧ Okl 90 (MY.sumsP (L1.take i) L2 ++ (L2.take j).map (MY.addP p)) ∧ Okl 90 (MY.prodP (L1.take i) L2 ++ (L2.take j).map (MY.mulP p))) ⟨su, mi, _, _, rfl, e7, by rw [List.take_zero, List.map_nil, List.append_nil]; exact hsu, by rw [List.take_zero, List.map_nil, List.append_nil]; exact hmi, by rw [List.take_zero, List.map_nil, List.append_nil]; exact oS, by rw [List.take_zero, List.map_nil, List.append_nil]; exact oM⟩ (fun j σ' H' _ hp => ?_) (fun j x σ' H' hx hp => ?_) (fun σ' H' hp => ?_)
    · obtain ⟨su, mi, u13, u14, rfl, e8, _⟩ := hp
      exact SqL.inj (e8 _ _ hT4)
    · clear e7 hsu hmi oS oM
      obtain ⟨su, mi, u13, u14, rfl, e8, hsu, hmi, oS, oM⟩ := hp
      rw [List.getElem?_map] at hx
      obtain ⟨qt, hqt, rfl⟩ := Option.map_eq_some_iff.mp hx
      obtain ⟨r, hr, hrq⟩ := W24.get hqt
      obtain ⟨d1, d2, d3⟩ := (hL2 _ (List.mem_of_getElem? hr)).sz
      have hj : j < L2.length := (List.getElem?_eq_some_iff.mp hr).1
      have hp8 := e8 _ _ hpq
      have hr8 := e8 _ _ hrq
      have w1 := wide_lt c1 d2
      have w2 := wide_lt d1 c2
      have w3 := wide_lt c2 d2
      have w4 := wide_lt c1 d1
      have bb : (2 : Nat) ^ 90 = 4 * 2 ^ (44 + 44) := by decide
      have lS1 : (MY.sumsP (L1.take i) L2 ++ (L2.take j).map (MY.addP p)).length ≤ 12 := by
        rw [List.length_append, List.length_map, List.length_take]; omega
      have lM1 : (MY.prodP (L1.take i) L2 ++ (L2.take j).map (MY.mulP p)).length ≤ 12 := by
        rw [List.length_append, List.length_map, List.length_take]; omega
      have zS := (MY.wf_sz _ oS.bp oS.sz).mono (m := 1100) (by omega)
      have zM := (MY.wf_sz _ oM.bp oM.sz).mono (m := 1100) (by omega)
      have kS := MY.wf_len (MY.sumsP (L1.take i) L2 ++ (L2.take j).map (MY.addP p))
      have kM := MY.wf_len (MY.prodP (L1.take i) L2 ++ (L2.take j).map (MY.mulP p))
      have oS' := oS.snoc (p := MY.addP p r) (Int.mul_pos c3 d3) (by rw [bb]; show (p.1 * r.2 + r.1 * p.2).natAbs < _; omega) (by rw [bb]; show (p.2 * r.2).natAbs < _; omega)
      have oM' := oM.snoc (p := MY.mulP p r) (Int.mul_pos c3 d3) (by rw [bb]; show (p.1 * r.1).natAbs < _; omega) (by rw [bb]; show (p.2 * r.2).natAbs < _; omega)
      have zz : ∀ {pp : Int × Int}, 0 < pp.2 → pp.1.natAbs < 2 ^ 90 → pp.2.natAbs < 2 ^ 90 → ML.Sz 90 [-(MY.red pp).1, (MY.red pp).2] := fun {pp} h0 h1 h2 z hz => by
        obtain ⟨x1, x2⟩ := MY.red_le h0
        simp only [List.mem_cons, List.not_mem_nil, or_false] at hz
        rcases hz with rfl | rfl
        · rw [Int.natAbs_neg]; omega
        · omega
      obtain ⟨a1, a2⟩ := oS'.sz (MY.addP p r) (List.mem_append_right _ (List.mem_singleton.mpr rfl))
      obtain ⟨b1, b2⟩ := oM'.sz (MY.mulP p r) (List.mem_append_right _ (List.mem_singleton.mpr rfl))
      have a0 : 0 < (MY.addP p r).2 := Int.mul_pos c3 d3
      have tS : (L2.take (j + 1)).map (MY.addP p) = (L2.take j).map (MY.addP p) ++ [MY.addP p r] := by rw [take_next hr, List.map_append]; rfl
      have tM : (L2.take (j + 1)).map (MY.mulP p) = (L2.take j).map (MY.mulP p) ++ [MY.mulP p r] := by rw [take_next hr, List.map_append]; rfl
      rw [tS, tM, ← List.append_assoc, ← List.append_assoc, MY.wf_snoc, MY.wf_snoc]
      generalize MY.sumsP (L1.take i) L2 ++ (L2.take j).map (MY.addP p) = S at hsu zS kS lS1 oS' ⊢
      generalize MY.prodP (L1.take i) L2 ++ (L2.take j).map (MY.mulP p) = M at hmi zM kM lM1 oM' ⊢
      have nS : MY.wf S ≠ [] := fun z => by rw [z] at kS; simp at kS
      have nM : MY.wf M ≠ [] := fun z => by rw [z] at kM; simp at kM
      walk_at "rd"
      refine r_ixT (xs := [.int p.1, .int p.2]) (.inl (.inl hp8)) (atI_nat (j := 0) rfl) ?_
      walk_at "rd"
      refine r_ixT (xs := [.int r.1, .int r.2]) (.inl (.inl hr8)) (atI_nat (j := 1) rfl) ?_
      walk_at "rd"
      refine r_mul (wide_mul c1 d2 (by decide) (by decide) (by decide)) ?_
      walk_at "rd"
      refine r_ixT (xs := [.int r.1, .int r.2]) (.inl (.inl hr8)) (atI_nat (j := 0) rfl) ?_
      walk_at "rd"
      refine r_ixT (xs := [.int p.1, .int p.2]) (.inl (.inl hp8)) (atI_nat (j := 1) rfl) ?_
      walk_at "rd"
      refine r_mul (wide_mul d1 c2 (by decide) (by decide) (by decide)) ?_
      walk_at "rd"
      refine r_ixT (xs := [.int p.1, .int p.2]) (.inl (.inl hp8)) (atI_nat (j := 1) rfl) ?_
      walk_at "rd"
      refine r_ixT (xs := [.int r.1, .int r.2]) (.inl (.inl hr8)) (atI_nat (j := 1) rfl) ?_
      walk_at "rd"
      refine r_mul (wide_mul c2 d2 (by decide) (by decide) (by decide)) ?_
      walk_at "rd"
      refine c__law_factor a0 (Nat.lt_of_lt_of_le a2 (MY.two_up _ _ (by decide))) fun p9 H9 hp9 e9 h9 => ?_
      walk_at "rd"
      refine c__law_product 1100 90 (SqL.inj (e9 _ _ hsu)) (SqL.inj h9) ⟨nS, by simp, by omega, by simp⟩ zS (zz a0 a1 a2) ⟨by decide, by decide, by decide⟩ fun p10 H10 hp10 e10 h10 => ?_
      have e810 := e9.trans e10
      have hp10' := e810 _ _ hp8
      have hr10' := e810 _ _ hr8
      walk_at "rd"
      refine r_ixT (xs := [.int p.1, .int p.2]) (.inl (.inl hp10')) (atI_nat (j := 0) rfl) ?_
      walk_at "rd"
      refine r_ixT (xs := [.int r.1, .int r.2]) (.inl (.inl hr10')) (atI_nat (j := 0) rfl) ?_
      walk_at "rd"
      refine r_mul (wide_mul c1 d1 (by decide) (by decide) (by decide)) ?_
      walk_at "rd"
      refine r_ixT (xs := [.int p.1, .int p.2]) (.inl (.inl hp10')) (atI_nat (j := 1) rfl) ?_
      walk_at "rd"
      refine r_ixT (xs := [.int r.1, .int r.2]) (.inl (.inl hr10')) (atI_nat (j := 1) rfl) ?_
      walk_at "rd"
      refine r_mul (wide_mul c2 d2 (by decide) (by decide) (by decide)) ?_
      walk_at "rd"
      refine c__law_factor a0 (Nat.lt_of_lt_of_le a2 (MY.two_up _ _ (by decide))) fun p11 H11 hp11 e11 h11 => ?_
      walk_at "rd"
      refine c__law_product 1100 90 (SqL.inj (e11 _ _ (e810 _ _ hmi))) (SqL.inj h11) ⟨nM, by simp, by omega, by simp⟩ zM (zz a0 b1 b2) ⟨by decide, by decide, by decide⟩ fun p12 H12 hp12 e12 h12 => ?_
      walk_at "rd"
      exact ⟨p10, p12, _, _, rfl, e8.trans ((e810.trans e11).trans e12), e12 _ _ (e11 _ _ h10), h12, oS', oM'⟩
    · clear e7 hsu hmi oS oM
      obtain ⟨su, mi, u13, u14, rfl, e8, hsu, hmi, oS, oM⟩ := hp
      rw [List.length_map, hl2, List.take_length] at hsu hmi oS oM
      have eS : MY.sumsP (L1.take (i + 1)) L2 = MY.sumsP (L1.take i) L2 ++ L2.map (MY.addP p) := sumsP_next MY.addP L2 hq
      have eM : MY.prodP (L1.take (i + 1)) L2 = MY.prodP (L1.take i) L2 ++ L2.map (MY.mulP p) := sumsP_next MY.mulP L2 hq
      rw [← eS] at hsu oS
      rw [← eM] at hmi oM
      exact ⟨su, mi, _, _, _, rfl, e8, hsu, hmi, oS, oM⟩
  clear hs5 hm6 e46 e5 e6
  obtain ⟨su, mi, u12, u13, u14, rfl, e7, hsu, hmi, oS, oM⟩ := hp
  rw [List.length_map, hl1, List.take_length] at hsu hmi oS oM
  walk_at "rd"
  refine r_lstK fun po8 H8 hpo8 e8 hp8 => ?_
  have e48 := e7.trans e8
  walk_at "rd"
  refine loop_list (xs := p1s.map V.ref) (fun i σ' H9 => ∃ (po : Addr) (u12 : Option V), σ' = [some (.ref a), some (.int first), some (.int (m : Int)), some (.int (n : Int)), u4, some (.int (k : Int)), some (.ref O), some (.ref T), some (.ref kp), some (.ref kq), some (.ref su), some (.ref mi), u12, u13, u14, some (.ref po), none, none, none] ∧ Ex H' H9 ∧ H9 po = some (.lst ((MY.wf ((L1.take i).map (MY.powP k))).map V.int)) ∧ Okl 353 ((L1.take i).map (MY.powP k))) ⟨po8, _, rfl, e8, hp8, Okl.nil _⟩ (fun i σ' H9 _ hp => ?_) (fun i x σ' H9 hx hp => ?_) (fun σ' H9 hp => ?_)
  · obtain ⟨po, u12, rfl, e9, _⟩ := hp
    exact SqL.inj (e9 _ _ (e7 _ _ hO4))
  · obtain ⟨po, u12, rfl, e9, hpo, oP⟩ := hp
    rw [List.getElem?_map] at hx
    obtain ⟨pt, hpt, rfl⟩ := Option.map_eq_some_iff.mp hx
    obtain ⟨p, hq, hpq⟩ := W14.get hpt
    obtain ⟨c1, c2, c3⟩ := (hL1 _ (List.mem_of_getElem? hq)).sz
    have hp9 := e9 _ _ (e7 _ _ hpq)
    have x1 := pow_le8 c1 kb.2
    have x2 := pow_le8 c2 kb.2
    have x0 : 0 < p.2 ^ k := Int.pow_pos c3
    have oP' := oP.snoc (p := MY.powP k p) x0 x1 x2
    have tP : (L1.take (i + 1)).map (MY.powP k) = (L1.take i).map (MY.powP k) ++ [MY.powP k p] := by rw [take_next hq, List.map_append]; rfl
    have lP : ((L1.take i).map (MY.powP k)).length ≤ 12 := by rw [List.length_map, List.length_take]; omega
    have zP := (MY.wf_sz _ oP.bp oP.sz).mono (m := 4300) (by omega)
    have kP := MY.wf_len ((L1.take i).map (MY.powP k))
    rw [tP, MY.wf_snoc]
    generalize (L1.take i).map (MY.powP k) = M at hpo zP kP lP oP' ⊢
    have nM : MY.wf M ≠ [] := fun z => by rw [z] at kP; simp at kP
    walk_at "rd"
    refine r_ixT (xs := [.int p.1, .int p.2]) (.inl (.inl hp9)) (atI_nat (j := 0) rfl) ?_
    walk_at "rd"
    refine c__law_power 44 c1 (by decide) (by decide) (by omega) ?_
    walk_at "rd"
    refine r_ixT (xs := [.int p.1, .int p.2]) (.inl (.inl hp9)) (atI_nat (j := 1) rfl) ?_
    walk_at "rd"
    refine c__law_power 44 c2 (by decide) (by decide) (by omega) ?_
    walk_at "rd"
    refine c__law_factor x0 (Nat.lt_of_lt_of_le x2 (MY.two_up _ _ (by decide))) fun p11 H11 hp11 e11 h11 => ?_
    walk_at "rd"
    refine c__law_product 4300 353 (SqL.inj (e11 _ _ hpo)) (SqL.inj h11) ⟨nM, by simp, by omega, by simp⟩ zP (fun z hz => ?_) ⟨by decide, by decide, by decide⟩ fun p12 H12 hp12 e12 h12 => ?_
    · obtain ⟨y1, y2⟩ := MY.red_le (p := (p.1 ^ k, p.2 ^ k)) x0
      simp only [List.mem_cons, List.not_mem_nil, or_false] at hz
      rcases hz with rfl | rfl
      · rw [Int.natAbs_neg]; exact Nat.lt_of_le_of_lt y1 x1
      · exact Nat.lt_of_le_of_lt y2 x2
    walk_at "rd"
    exact ⟨p12, _, rfl, (e9.trans e11).trans e12, h12, oP'⟩
  clear hp8 e48 e8
  obtain ⟨po, u12', rfl, e9, hpo, oP⟩ := hp
  rw [List.length_map, hl1, List.take_length] at hpo oP
  have e49 := e7.trans e9
  have hkp9 := e49 _ _ hkp4
  have hkq9 := e49 _ _ h4
  have hsu9 := e9 _ _ hsu
  have hmi9 := e9 _ _ hmi
  clear hsu hmi e7 e9 e49 hO4 hT4 W14 W24 hkp4 h4
  walk_at "rd"
  refine r_list (SqL.inj hkp9) fun cp H10 hcp e10 h10 => ?_
  walk_at "rd"
  refine r_list (SqL.inj (e10 _ _ hkq9)) fun cq H11 hcq e11 h11 => ?_
  walk_at "rd"
  refine r_tupK fun ke H12 hke e12 h12 => ?_
  have f9 := (e10.trans e11).trans e12
  have hkp12 := f9 _ _ hkp9
  have hkq12 := f9 _ _ hkq9
  have hsu12 := f9 _ _ hsu9
  have hmi12 := f9 _ _ hmi9
  have hpo12 := f9 _ _ hpo
  have hcp12 := e12 _ _ (e11 _ _ h10)
  have hcq12 := e12 _ _ h11
  clear hkp9 hkq9 hsu9 hmi9 hpo h10 h11 e10 e11 e12 f9 hcp hcq hke
  walk_at "rd"
  refine r_iRng1A (by decide) (by decide) ?_
  refine loop_range0 (fun i σ' H' => ∃ (u12 u17 u18 : Option V), σ' = [some (.ref a), some (.int first), some (.int (m : Int)), some (.int (n : Int)), u4, some (.int (k : Int)), some (.ref O), some (.ref T), some (.ref kp), some (.ref kq), some (.ref su), some (.ref mi), u12, u13, u14, some (.ref po), some (.ref ke), u17, u18] ∧ Ex H12 H') ⟨_, _, _, rfl, Evl.Ex.refl _⟩ (fun i σ' H' _ hp => ?_) (fun σ' H' hp => ?_)
  · obtain ⟨u12, u17, u18, rfl, e1⟩ := hp
    walk_at "rd"
    refine c_sums (SqL.inj (e1 _ _ hkp12)) (SqL.inj (e1 _ _ hkq12)) r1 r2 (by rw [l1, l2]; exact mn12) fun p1 H1 hp1 e2 h1 => ?_
    walk_at "rd"
    refine c_products (SqL.inj (e2 _ _ (e1 _ _ hkp12))) (SqL.inj (e2 _ _ (e1 _ _ hkq12))) r1 r2 (by rw [l1, l2]; exact mn12) fun p2 H2 hp2 e3 h2 => ?_
    walk_at "rd"
    refine r_lstK fun td H3 htd e4 h3 => ?_
    have h14 := e4 _ _ (e3 _ _ h1)
    have h24 := e4 _ _ h2
    have e14 := ((e1.trans e2).trans e3).trans e4
    have np1 : td ≠ p1 := fun z => by rw [z, e3 _ _ h1] at htd; cases htd
    have np2 : td ≠ p2 := fun z => by rw [z, h2] at htd; cases htd
    have fp1 := Evl.fresh_back e1 hp1
    have fp2 := Evl.fresh_back (e1.trans e2) hp2
    have ftd := Evl.fresh_back ((e1.trans e2).trans e3) htd
    walk_at "rd"
    refine r_ixL (SqL.inj h3) (v := .ref p1) (atI_nat (j := 0) rfl) ?_
    walk_at "rd"
    refine c__law_is h14 (SqL.inj (e14 _ _ hsu12)) ?_
    walk_at "rd"
    refine r_ixL (SqL.inj h3) (v := .ref p2) (atI_nat (j := 1) rfl) ?_
    walk_at "rd"
    refine c__law_is h24 (SqL.inj (e14 _ _ hmi12)) ?_
    walk_at "rd"
    have len1 := MY.wf_len (MY.sumsP L1 L2)
    have len2 := MY.wf_len (MY.prodP L1 L2)
    have fl1 := MY.flat_len MY.addP L2 L1
    have fl2 := MY.flat_len MY.mulP L2 L1
    have len1' : (MY.wf (MY.sumsP L1 L2)).length ≤ 100 := by
      have : (MY.sumsP L1 L2).length = L1.length * L2.length := fl1
      rw [len1, this, l1, l2]; omega
    have len2' : (MY.wf (MY.prodP L1 L2)).length ≤ 100 := by
      have : (MY.prodP L1 L2).length = L1.length * L2.length := fl2
      rw [len2, this, l1, l2]; omega
    refine ⟨fun σ2 H4 => ∃ (ts : List Addr), σ2 = [some (.ref a), some (.int first), some (.int (m : Int)), some (.int (n : Int)), u4, some (.int (k : Int)), some (.ref O), some (.ref T), some (.ref kp), some (.ref kq), some (.ref su), some (.ref mi), u12, u13, u14, some (.ref po), some (.ref ke), some (.int (i : Int)), some (.ref td)] ∧ Ex H12 H4 ∧ H4 td = some (.lst (ts.map V.ref)) ∧ ts.length ≤ 3 ∧ ∀ p ∈ ts, H12 p = none ∧ p ≠ td ∧ ∃ zs : List Int, H4 p = some (.lst (zs.map V.int)) ∧ zs.length ≤ 100, ?_, fun σ2 H4 hM => ?_⟩
    · walk_at "rd"
      refine ite_d (fun hm9 => ?_) (fun _ => ?_)
      · walk_at "rd"
        refine c_powers (SqL.inj (e14 _ _ hkp12)) r1 (by omega) kb fun p3 H5 hp3 e5 h5 => ?_
        have np3 : p3 ≠ td := fun z => by rw [z, h3] at hp3; cases hp3
        have np31 : p3 ≠ p1 := fun z => by rw [z, h14] at hp3; cases hp3
        have np32 : p3 ≠ p2 := fun z => by rw [z, h24] at hp3; cases hp3
        walk_at "rd"
        refine r_append (e5 _ _ h3) (by show 2 < sizeLine; decide) fun H6 b6 h6 => ?_
        have e16 := Evl.Ex.mutb (e14.trans e5) b6 ftd
        have h6' : H6 td = some (.lst ([p1, p2, p3].map V.ref)) := h6
        have h56 := b6 _ np3 _ h5
        walk_at "rd"
        refine r_ixL (SqL.inj h6') (v := .ref p3) (atI_nat (j := 2) rfl) ?_
        walk_at "rd"
        refine c__law_is h56 (SqL.inj (e16 _ _ hpo12)) ?_
        walk_at "rd"
        refine ⟨[p1, p2, p3], rfl, e16, h6', by simp, fun p hp => ?_⟩
        simp only [List.mem_cons, List.not_mem_nil, or_false] at hp
        rcases hp with rfl | rfl | rfl
        · exact ⟨fp1, np1.symm, _, b6 _ np1.symm _ (e5 _ _ h14), len1'⟩
        · exact ⟨fp2, np2.symm, _, b6 _ np2.symm _ (e5 _ _ h24), len2'⟩
        · exact ⟨Evl.fresh_back e14 hp3, np3, _, h56, by rw [MY.wf_len, List.length_map]; omega⟩
      · walk_at "rd"
        refine ⟨[p1, p2], rfl, e14, h3, by simp, fun p hp => ?_⟩
        simp only [List.mem_cons, List.not_mem_nil, or_false] at hp
        rcases hp with rfl | rfl
        · exact ⟨fp1, np1.symm, _, h14, len1'⟩
        · exact ⟨fp2, np2.symm, _, h24, len2'⟩
    clear h14 h24 e14 h3
    obtain ⟨ts, rfl, e5, h5, lts, hts⟩ := hM
    walk_at "rd"
    refine loop_list (xs := ts.map V.ref) (fun j σ' H' => ∃ (u12 : Option V), σ' = [some (.ref a), some (.int first), some (.int (m : Int)), some (.int (n : Int)), u4, some (.int (k : Int)), some (.ref O), some (.ref T), some (.ref kp), some (.ref kq), some (.ref su), some (.ref mi), u12, u13, u14, some (.ref po), some (.ref ke), some (.int (i : Int)), some (.ref td)] ∧ Ex H12 H' ∧ H' td = some (.lst (ts.map V.ref)) ∧ ∀ p ∈ ts, ∃ zs : List Int, H' p = some (.lst (zs.map V.int)) ∧ zs.length ≤ 100 + j) ⟨_, rfl, e5, h5, fun p hp => (hts p hp).2.2⟩ (fun j σ' H' _ hp => ?_) (fun j x σ' H' hx hp => ?_) (fun σ' H' hp => ?_)
    · obtain ⟨u12, rfl, _, h6, _⟩ := hp
      exact SqL.inj h6
    · obtain ⟨u12, rfl, e6, h6, h7⟩ := hp
      rw [List.getElem?_map] at hx
      obtain ⟨pt, hpt, rfl⟩ := Option.map_eq_some_iff.mp hx
      have hm := List.mem_of_getElem? hpt
      have hj : j < ts.length := (List.getElem?_eq_some_iff.mp hpt).1
      obtain ⟨zs, hz, lz⟩ := h7 _ hm
      obtain ⟨fz, nz, _⟩ := hts _ hm
      walk_at "rd"
      refine r_appendI hz (by omega) fun H8 b8 h8 => ?_
      walk_at "rd"
      refine ⟨_, rfl, Evl.Ex.mutb e6 b8 fz, b8 _ nz.symm _ h6, fun p hp => ?_⟩
      by_cases hpe : p = pt
      · subst hpe
        exact ⟨_, h8, by rw [List.length_append, List.length_singleton]; omega⟩
      · obtain ⟨ys, hy, ly⟩ := h7 _ hp
        exact ⟨ys, b8 _ hpe _ hy, by omega⟩
    · obtain ⟨u12, rfl, e6, _⟩ := hp
      exact ⟨_, _, _, rfl, e6⟩
  · obtain ⟨u12, u17, u18, rfl, e1⟩ := hp
    walk_at "rd"
    refine r_tupK fun q3 H3 hq3 e3 h3 => ?_
    have e13 := e1.trans e3
    refine r_eqT2 (.inl (.inl (e13 _ _ h12))) (SqL.inj (e13 _ _ hcp12)) (SqL.inj (e13 _ _ hcq12)) (.inl (.inl h3)) (SqL.inj (e13 _ _ hkp12)) (SqL.inj (e13 _ _ hkq12)) ?_
    exact q _
theorem c_law {a : Addr} {ns : List Int} (h : SqL K H a (ns.map V.int)) (hl : ns.length ≤ 63) (q : ∀ H', Q (.bl true) H') : sp_law K Cof [.ref a] H Q E := ⟨a, ns, rfl, h, hl, q⟩
end

def topS (i : Nat) : Stmt := PySem.Challenge.pw_rootspan_k37_roots_known.main.body.getD i (.Pass ⟨0, 0, 0, 0⟩)
abbrev s_shared : Stmt := topS 1
theorem sc_shared : FnScope ["row", "found", "one", "rest"] ["row"] (defScope s_shared) := ⟨rfl, rfl, rfl, by decide +kernel, rfl, by decide +kernel, by decide +kernel⟩
abbrev s_poly : Stmt := topS 3
theorem sc_poly : FnScope ["row", "size"] ["row"] (defScope s_poly) := ⟨rfl, rfl, rfl, by decide +kernel, rfl, by decide +kernel, by decide +kernel⟩
abbrev s_degree : Stmt := topS 4
theorem sc_degree : FnScope ["P"] ["P"] (defScope s_degree) := ⟨rfl, rfl, rfl, by decide +kernel, rfl, by decide +kernel, by decide +kernel⟩
abbrev s_coefficient_at : Stmt := topS 5
theorem sc_coefficient_at : FnScope ["P", "k"] ["P", "k"] (defScope s_coefficient_at) := ⟨rfl, rfl, rfl, by decide +kernel, rfl, by decide +kernel, by decide +kernel⟩
abbrev s_added : Stmt := topS 6
theorem sc_added : FnScope ["P", "Q", "k"] ["P", "Q"] (defScope s_added) := ⟨rfl, rfl, rfl, by decide +kernel, rfl, by decide +kernel, by decide +kernel⟩
abbrev s_multiplied : Stmt := topS 7
theorem sc_multiplied : FnScope ["P", "Q", "row", "k", "i"] ["P", "Q"] (defScope s_multiplied) := ⟨rfl, rfl, rfl, by decide +kernel, rfl, by decide +kernel, by decide +kernel⟩
abbrev s_turned : Stmt := topS 8
theorem sc_turned : FnScope ["P", "row", "k"] ["P"] (defScope s_turned) := ⟨rfl, rfl, rfl, by decide +kernel, rfl, by decide +kernel, by decide +kernel⟩
abbrev s_shrunk : Stmt := topS 9
theorem sc_shrunk : FnScope ["P", "part", "one"] ["P"] (defScope s_shrunk) := ⟨rfl, rfl, rfl, by decide +kernel, rfl, by decide +kernel, by decide +kernel⟩
abbrev s_plain : Stmt := topS 10
theorem sc_plain : FnScope ["P", "row", "one"] ["P"] (defScope s_plain) := ⟨rfl, rfl, rfl, by decide +kernel, rfl, by decide +kernel, by decide +kernel⟩
abbrev s_pivot_at : Stmt := topS 12
theorem sc_pivot_at : FnScope ["rows", "at", "k"] ["rows", "at"] (defScope s_pivot_at) := ⟨rfl, rfl, rfl, by decide +kernel, rfl, by decide +kernel, by decide +kernel⟩
abbrev s_cleared_rows : Stmt := topS 13
theorem sc_cleared_rows : FnScope ["rows", "at", "before", "top", "done", "row", "j"] ["rows", "at", "before"] (defScope s_cleared_rows) := ⟨rfl, rfl, rfl, by decide +kernel, rfl, by decide +kernel, by decide +kernel⟩
abbrev s_determinant : Stmt := topS 14
theorem sc_determinant : FnScope ["rows", "left", "row", "sign", "before", "at", "k", "kept"] ["rows"] (defScope s_determinant) := ⟨rfl, rfl, rfl, by decide +kernel, rfl, by decide +kernel, by decide +kernel⟩
abbrev s_sylvester_rows : Stmt := topS 16
theorem sc_sylvester_rows : FnScope ["P", "Q", "m", "n", "rows", "k"] ["P", "Q"] (defScope s_sylvester_rows) := ⟨rfl, rfl, rfl, by decide +kernel, rfl, by decide +kernel, by decide +kernel⟩
abbrev s_resultant : Stmt := topS 17
theorem sc_resultant : FnScope ["P", "Q"] ["P", "Q"] (defScope s_resultant) := ⟨rfl, rfl, rfl, by decide +kernel, rfl, by decide +kernel, by decide +kernel⟩
abbrev s_moved_by : Stmt := topS 18
theorem sc_moved_by : FnScope ["P", "shift", "found", "one"] ["P", "shift"] (defScope s_moved_by) := ⟨rfl, rfl, rfl, by decide +kernel, rfl, by decide +kernel, by decide +kernel⟩
abbrev s_steps_between : Stmt := topS 19
theorem sc_steps_between : FnScope ["values", "k"] ["values"] (defScope s_steps_between) := ⟨rfl, rfl, rfl, by decide +kernel, rfl, by decide +kernel, by decide +kernel⟩
abbrev s_through_values : Stmt := topS 20
theorem sc_through_values : FnScope ["values", "factor", "k", "found", "falling"] ["values"] (defScope s_through_values) := ⟨rfl, rfl, rfl, by decide +kernel, rfl, by decide +kernel, by decide +kernel⟩
abbrev s_sums : Stmt := topS 21
theorem sc_sums : FnScope ["P", "Q", "values", "x"] ["P", "Q"] (defScope s_sums) := ⟨rfl, rfl, rfl, by decide +kernel, rfl, by decide +kernel, by decide +kernel⟩
abbrev s_stretched_by : Stmt := topS 22
theorem sc_stretched_by : FnScope ["Q", "x", "row", "scale", "one"] ["Q", "x"] (defScope s_stretched_by) := ⟨rfl, rfl, rfl, by decide +kernel, rfl, by decide +kernel, by decide +kernel⟩
abbrev s_products : Stmt := topS 23
theorem sc_products : FnScope ["P", "Q", "values", "x"] ["P", "Q"] (defScope s_products) := ⟨rfl, rfl, rfl, by decide +kernel, rfl, by decide +kernel, by decide +kernel⟩
abbrev s_powers : Stmt := topS 24
theorem sc_powers : FnScope ["P", "k", "values", "x"] ["P", "k"] (defScope s_powers) := ⟨rfl, rfl, rfl, by decide +kernel, rfl, by decide +kernel, by decide +kernel⟩
abbrev s__law_cell_at : Stmt := topS 26
theorem sc__law_cell_at : FnScope ["_law_script", "_law_k"] ["_law_script", "_law_k"] (defScope s__law_cell_at) := ⟨rfl, rfl, rfl, by decide +kernel, rfl, by decide +kernel, by decide +kernel⟩
abbrev s__law_is : Stmt := topS 27
theorem sc__law_is : FnScope ["_law_found", "_law_due", "_law_one"] ["_law_found", "_law_due"] (defScope s__law_is) := ⟨rfl, rfl, rfl, by decide +kernel, rfl, by decide +kernel, by decide +kernel⟩
abbrev s__law_number : Stmt := topS 28
theorem sc__law_number : FnScope ["_law_cell", "_law_at"] ["_law_cell", "_law_at"] (defScope s__law_number) := ⟨rfl, rfl, rfl, by decide +kernel, rfl, by decide +kernel, by decide +kernel⟩
abbrev s__law_product : Stmt := topS 29
theorem sc__law_product : FnScope ["_law_kp", "_law_kq", "_law_found", "_law_i", "_law_j"] ["_law_kp", "_law_kq"] (defScope s__law_product) := ⟨rfl, rfl, rfl, by decide +kernel, rfl, by decide +kernel, by decide +kernel⟩
abbrev s__law_shared : Stmt := topS 30
theorem sc__law_shared : FnScope ["_law_a", "_law_b", "_law_rest"] ["_law_a", "_law_b"] (defScope s__law_shared) := ⟨rfl, rfl, rfl, by decide +kernel, rfl, by decide +kernel, by decide +kernel⟩
abbrev s__law_factor : Stmt := topS 31
theorem sc__law_factor : FnScope ["_law_top", "_law_bottom", "_law_divisor"] ["_law_top", "_law_bottom"] (defScope s__law_factor) := ⟨rfl, rfl, rfl, by decide +kernel, rfl, by decide +kernel, by decide +kernel⟩
abbrev s__law_with_roots : Stmt := topS 32
theorem sc__law_with_roots : FnScope ["_law_pairs", "_law_scale", "_law_found", "_law_pair"] ["_law_pairs", "_law_scale"] (defScope s__law_with_roots) := ⟨rfl, rfl, rfl, by decide +kernel, rfl, by decide +kernel, by decide +kernel⟩
abbrev s__law_roots : Stmt := topS 33
theorem sc__law_roots : FnScope ["_law_script", "_law_at", "_law_many", "_law_found", "_law_k", "_law_top", "_law_bottom"] ["_law_script", "_law_at", "_law_many"] (defScope s__law_roots) := ⟨rfl, rfl, rfl, by decide +kernel, rfl, by decide +kernel, by decide +kernel⟩
abbrev s__law_power : Stmt := topS 34
theorem sc__law_power : FnScope ["_law_base", "_law_k", "_law_found", "_law_turn"] ["_law_base", "_law_k"] (defScope s__law_power) := ⟨rfl, rfl, rfl, by decide +kernel, rfl, by decide +kernel, by decide +kernel⟩
abbrev s_law : Stmt := topS 35
theorem sc_law : FnScope ["_law_script", "_law_first", "_law_m", "_law_n", "_law_some", "_law_k", "_law_ones", "_law_others", "_law_kp", "_law_kq", "_law_summed", "_law_mixed", "_law_one", "_law_other", "_law_top", "_law_powered", "_law_kept", "_law_turn", "_law_told"] ["_law_script"] (defScope s_law) := ⟨rfl, rfl, rfl, by decide +kernel, rfl, by decide +kernel, by decide +kernel⟩
structure Txt (K : PySem.W.Frag) (mg : Str → Option Value) (Cof : String → Addr) (ad : Nat → Addr) (fd : Nat → FuncData) : Prop where
  z_abs : mg "abs" = none
  z_bool : mg "bool" = none
  z_int : mg "int" = none
  z_isinstance : mg "isinstance" = none
  z_len : mg "len" = none
  z_list : mg "list" = none
  z_max : mg "max" = none
  z_range : mg "range" = none
  z_reversed : mg "reversed" = none
  g_shared : mg "shared" = some (.ref (ad 0))
  F_shared : Fun K "shared" "shared" s_shared (ad 0) (fd 0)
  g_poly : mg "poly" = some (.ref (ad 1))
  F_poly : Fun K "poly" "poly" s_poly (ad 1) (fd 1)
  g_degree : mg "degree" = some (.ref (ad 2))
  F_degree : Fun K "degree" "degree" s_degree (ad 2) (fd 2)
  g_coefficient_at : mg "coefficient_at" = some (.ref (ad 3))
  F_coefficient_at : Fun K "coefficient_at" "coefficient_at" s_coefficient_at (ad 3) (fd 3)
  g_added : mg "added" = some (.ref (ad 4))
  F_added : Fun K "added" "added" s_added (ad 4) (fd 4)
  g_multiplied : mg "multiplied" = some (.ref (ad 5))
  F_multiplied : Fun K "multiplied" "multiplied" s_multiplied (ad 5) (fd 5)
  g_turned : mg "turned" = some (.ref (ad 6))
  F_turned : Fun K "turned" "turned" s_turned (ad 6) (fd 6)
  g_shrunk : mg "shrunk" = some (.ref (ad 7))
  F_shrunk : Fun K "shrunk" "shrunk" s_shrunk (ad 7) (fd 7)
  g_plain : mg "plain" = some (.ref (ad 8))
  F_plain : Fun K "plain" "plain" s_plain (ad 8) (fd 8)
  g_pivot_at : mg "pivot_at" = some (.ref (ad 9))
  F_pivot_at : Fun K "pivot_at" "pivot_at" s_pivot_at (ad 9) (fd 9)
  g_cleared_rows : mg "cleared_rows" = some (.ref (ad 10))
  F_cleared_rows : Fun K "cleared_rows" "cleared_rows" s_cleared_rows (ad 10) (fd 10)
  g_determinant : mg "determinant" = some (.ref (ad 11))
  F_determinant : Fun K "determinant" "determinant" s_determinant (ad 11) (fd 11)
  g_sylvester_rows : mg "sylvester_rows" = some (.ref (ad 12))
  F_sylvester_rows : Fun K "sylvester_rows" "sylvester_rows" s_sylvester_rows (ad 12) (fd 12)
  g_resultant : mg "resultant" = some (.ref (ad 13))
  F_resultant : Fun K "resultant" "resultant" s_resultant (ad 13) (fd 13)
  g_moved_by : mg "moved_by" = some (.ref (ad 14))
  F_moved_by : Fun K "moved_by" "moved_by" s_moved_by (ad 14) (fd 14)
  g_steps_between : mg "steps_between" = some (.ref (ad 15))
  F_steps_between : Fun K "steps_between" "steps_between" s_steps_between (ad 15) (fd 15)
  g_through_values : mg "through_values" = some (.ref (ad 16))
  F_through_values : Fun K "through_values" "through_values" s_through_values (ad 16) (fd 16)
  g_sums : mg "sums" = some (.ref (ad 17))
  F_sums : Fun K "sums" "sums" s_sums (ad 17) (fd 17)
  g_stretched_by : mg "stretched_by" = some (.ref (ad 18))
  F_stretched_by : Fun K "stretched_by" "stretched_by" s_stretched_by (ad 18) (fd 18)
  g_products : mg "products" = some (.ref (ad 19))
  F_products : Fun K "products" "products" s_products (ad 19) (fd 19)
  g_powers : mg "powers" = some (.ref (ad 20))
  F_powers : Fun K "powers" "powers" s_powers (ad 20) (fd 20)
  g__law_cell_at : mg "_law_cell_at" = some (.ref (ad 21))
  F__law_cell_at : Fun K "_law_cell_at" "_law_cell_at" s__law_cell_at (ad 21) (fd 21)
  g__law_is : mg "_law_is" = some (.ref (ad 22))
  F__law_is : Fun K "_law_is" "_law_is" s__law_is (ad 22) (fd 22)
  g__law_number : mg "_law_number" = some (.ref (ad 23))
  F__law_number : Fun K "_law_number" "_law_number" s__law_number (ad 23) (fd 23)
  g__law_product : mg "_law_product" = some (.ref (ad 24))
  F__law_product : Fun K "_law_product" "_law_product" s__law_product (ad 24) (fd 24)
  g__law_shared : mg "_law_shared" = some (.ref (ad 25))
  F__law_shared : Fun K "_law_shared" "_law_shared" s__law_shared (ad 25) (fd 25)
  g__law_factor : mg "_law_factor" = some (.ref (ad 26))
  F__law_factor : Fun K "_law_factor" "_law_factor" s__law_factor (ad 26) (fd 26)
  g__law_with_roots : mg "_law_with_roots" = some (.ref (ad 27))
  F__law_with_roots : Fun K "_law_with_roots" "_law_with_roots" s__law_with_roots (ad 27) (fd 27)
  g__law_roots : mg "_law_roots" = some (.ref (ad 28))
  F__law_roots : Fun K "_law_roots" "_law_roots" s__law_roots (ad 28) (fd 28)
  g__law_power : mg "_law_power" = some (.ref (ad 29))
  F__law_power : Fun K "_law_power" "_law_power" s__law_power (ad 29) (fd 29)
  g_law : mg "law" = some (.ref (ad 30))
  F_law : Fun K "law" "law" s_law (ad 30) (fd 30)
section
variable {P : Program} {w : World} {K : PySem.W.Frag} {mg : Str → Option Value} {base : Heap} {Cof : String → Addr} {ad : Nat → Addr} {fd : Nat → FuncData}
theorem B_shared (T : Txt K mg Cof ad fd) : Binds K (fd 0) ["row"] [] := T.F_shared.binds (ps := ["row"]) fun _ _ _ _ _ _ us hl => match us, hl with | [_], _ => rfl
theorem B_poly (T : Txt K mg Cof ad fd) : Binds K (fd 1) ["row"] [] := T.F_poly.binds (ps := ["row"]) fun _ _ _ _ _ _ us hl => match us, hl with | [_], _ => rfl
theorem B_degree (T : Txt K mg Cof ad fd) : Binds K (fd 2) ["P"] [] := T.F_degree.binds (ps := ["P"]) fun _ _ _ _ _ _ us hl => match us, hl with | [_], _ => rfl
theorem B_coefficient_at (T : Txt K mg Cof ad fd) : Binds K (fd 3) ["P", "k"] [] := T.F_coefficient_at.binds (ps := ["P", "k"]) fun _ _ _ _ _ _ us hl => match us, hl with | [_, _], _ => rfl
theorem B_added (T : Txt K mg Cof ad fd) : Binds K (fd 4) ["P", "Q"] [] := T.F_added.binds (ps := ["P", "Q"]) fun _ _ _ _ _ _ us hl => match us, hl with | [_, _], _ => rfl
theorem B_multiplied (T : Txt K mg Cof ad fd) : Binds K (fd 5) ["P", "Q"] [] := T.F_multiplied.binds (ps := ["P", "Q"]) fun _ _ _ _ _ _ us hl => match us, hl with | [_, _], _ => rfl
theorem B_turned (T : Txt K mg Cof ad fd) : Binds K (fd 6) ["P"] [] := T.F_turned.binds (ps := ["P"]) fun _ _ _ _ _ _ us hl => match us, hl with | [_], _ => rfl
theorem B_shrunk (T : Txt K mg Cof ad fd) : Binds K (fd 7) ["P"] [] := T.F_shrunk.binds (ps := ["P"]) fun _ _ _ _ _ _ us hl => match us, hl with | [_], _ => rfl
theorem B_plain (T : Txt K mg Cof ad fd) : Binds K (fd 8) ["P"] [] := T.F_plain.binds (ps := ["P"]) fun _ _ _ _ _ _ us hl => match us, hl with | [_], _ => rfl
theorem B_pivot_at (T : Txt K mg Cof ad fd) : Binds K (fd 9) ["rows", "at"] [] := T.F_pivot_at.binds (ps := ["rows", "at"]) fun _ _ _ _ _ _ us hl => match us, hl with | [_, _], _ => rfl
theorem B_cleared_rows (T : Txt K mg Cof ad fd) : Binds K (fd 10) ["rows", "at", "before"] [] := T.F_cleared_rows.binds (ps := ["rows", "at", "before"]) fun _ _ _ _ _ _ us hl => match us, hl with | [_, _, _], _ => rfl
theorem B_determinant (T : Txt K mg Cof ad fd) : Binds K (fd 11) ["rows"] [] := T.F_determinant.binds (ps := ["rows"]) fun _ _ _ _ _ _ us hl => match us, hl with | [_], _ => rfl
theorem B_sylvester_rows (T : Txt K mg Cof ad fd) : Binds K (fd 12) ["P", "Q"] [] := T.F_sylvester_rows.binds (ps := ["P", "Q"]) fun _ _ _ _ _ _ us hl => match us, hl with | [_, _], _ => rfl
theorem B_resultant (T : Txt K mg Cof ad fd) : Binds K (fd 13) ["P", "Q"] [] := T.F_resultant.binds (ps := ["P", "Q"]) fun _ _ _ _ _ _ us hl => match us, hl with | [_, _], _ => rfl
theorem B_moved_by (T : Txt K mg Cof ad fd) : Binds K (fd 14) ["P", "shift"] [] := T.F_moved_by.binds (ps := ["P", "shift"]) fun _ _ _ _ _ _ us hl => match us, hl with | [_, _], _ => rfl
theorem B_steps_between (T : Txt K mg Cof ad fd) : Binds K (fd 15) ["values"] [] := T.F_steps_between.binds (ps := ["values"]) fun _ _ _ _ _ _ us hl => match us, hl with | [_], _ => rfl
theorem B_through_values (T : Txt K mg Cof ad fd) : Binds K (fd 16) ["values"] [] := T.F_through_values.binds (ps := ["values"]) fun _ _ _ _ _ _ us hl => match us, hl with | [_], _ => rfl
theorem B_sums (T : Txt K mg Cof ad fd) : Binds K (fd 17) ["P", "Q"] [] := T.F_sums.binds (ps := ["P", "Q"]) fun _ _ _ _ _ _ us hl => match us, hl with | [_, _], _ => rfl
theorem B_stretched_by (T : Txt K mg Cof ad fd) : Binds K (fd 18) ["Q", "x"] [] := T.F_stretched_by.binds (ps := ["Q", "x"]) fun _ _ _ _ _ _ us hl => match us, hl with | [_, _], _ => rfl
theorem B_products (T : Txt K mg Cof ad fd) : Binds K (fd 19) ["P", "Q"] [] := T.F_products.binds (ps := ["P", "Q"]) fun _ _ _ _ _ _ us hl => match us, hl with | [_, _], _ => rfl
theorem B_powers (T : Txt K mg Cof ad fd) : Binds K (fd 20) ["P", "k"] [] := T.F_powers.binds (ps := ["P", "k"]) fun _ _ _ _ _ _ us hl => match us, hl with | [_, _], _ => rfl
theorem B__law_cell_at (T : Txt K mg Cof ad fd) : Binds K (fd 21) ["_law_script", "_law_k"] [] := T.F__law_cell_at.binds (ps := ["_law_script", "_law_k"]) fun _ _ _ _ _ _ us hl => match us, hl with | [_, _], _ => rfl
theorem B__law_is (T : Txt K mg Cof ad fd) : Binds K (fd 22) ["_law_found", "_law_due"] [] := T.F__law_is.binds (ps := ["_law_found", "_law_due"]) fun _ _ _ _ _ _ us hl => match us, hl with | [_, _], _ => rfl
theorem B__law_number (T : Txt K mg Cof ad fd) : Binds K (fd 23) ["_law_cell", "_law_at"] [] := T.F__law_number.binds (ps := ["_law_cell", "_law_at"]) fun _ _ _ _ _ _ us hl => match us, hl with | [_, _], _ => rfl
theorem B__law_product (T : Txt K mg Cof ad fd) : Binds K (fd 24) ["_law_kp", "_law_kq"] [] := T.F__law_product.binds (ps := ["_law_kp", "_law_kq"]) fun _ _ _ _ _ _ us hl => match us, hl with | [_, _], _ => rfl
theorem B__law_shared (T : Txt K mg Cof ad fd) : Binds K (fd 25) ["_law_a", "_law_b"] [] := T.F__law_shared.binds (ps := ["_law_a", "_law_b"]) fun _ _ _ _ _ _ us hl => match us, hl with | [_, _], _ => rfl
theorem B__law_factor (T : Txt K mg Cof ad fd) : Binds K (fd 26) ["_law_top", "_law_bottom"] [] := T.F__law_factor.binds (ps := ["_law_top", "_law_bottom"]) fun _ _ _ _ _ _ us hl => match us, hl with | [_, _], _ => rfl
theorem B__law_with_roots (T : Txt K mg Cof ad fd) : Binds K (fd 27) ["_law_pairs", "_law_scale"] [] := T.F__law_with_roots.binds (ps := ["_law_pairs", "_law_scale"]) fun _ _ _ _ _ _ us hl => match us, hl with | [_, _], _ => rfl
theorem B__law_roots (T : Txt K mg Cof ad fd) : Binds K (fd 28) ["_law_script", "_law_at", "_law_many"] [] := T.F__law_roots.binds (ps := ["_law_script", "_law_at", "_law_many"]) fun _ _ _ _ _ _ us hl => match us, hl with | [_, _, _], _ => rfl
theorem B__law_power (T : Txt K mg Cof ad fd) : Binds K (fd 29) ["_law_base", "_law_k"] [] := T.F__law_power.binds (ps := ["_law_base", "_law_k"]) fun _ _ _ _ _ _ us hl => match us, hl with | [_, _], _ => rfl
theorem B_law (T : Txt K mg Cof ad fd) : Binds K (fd 30) ["_law_script"] [] := T.F_law.binds (ps := ["_law_script"]) fun _ _ _ _ _ _ us hl => match us, hl with | [_], _ => rfl
theorem ok_shared (T : Txt K mg Cof ad fd) : FnOk P w K mg base CX0 1 (ad 0) (fd 0) ["row"] (sp_shared K Cof) := by
  have nd := sc_shared.nd
  refine T.F_shared.ok sc_shared (fun vs H Q E h => len_shared h) (fun cdv A outer s H vs Q E hr h => ⟨t_shared K Cof E, ?_, rd_shared h⟩)
  exact pss_cons (ps_set (i := 1) nd rfl (by first | exact Or.inl rfl | exact Or.inr rfl) (pe_int))
       (pss_cons (ps_for PassesOwn.never rfl (pi_list (pv 0)) (pg_name (i := 2) nd rfl (by first | exact Or.inl rfl | exact Or.inr rfl)) (pss_one (ps_while PassesOwn.never (pt_cmpR op_ne (pv 2) (pe_int) (nomark _)) (pss_cons (ps_set (i := 3) nd rfl (by first | exact Or.inl rfl | exact Or.inr rfl) (pe_op op_modN (pv 1) (pv 2)))
       (pss_cons (ps_set (i := 1) nd rfl (by first | exact Or.inl rfl | exact Or.inr rfl) (pv 2))
       (pss_one (ps_set (i := 2) nd rfl (by first | exact Or.inl rfl | exact Or.inr rfl) (pv 3))))))))
       (pss_one (ps_ret (pe_callB call_abs (by rfl) T.z_abs (by decide +kernel) (pa_cons (pv 1) (pa_nil))))))
theorem ok_poly (T : Txt K mg Cof ad fd) : FnOk P w K mg base CX0 1 (ad 1) (fd 1) ["row"] (sp_poly K Cof) := by
  have nd := sc_poly.nd
  refine T.F_poly.ok sc_poly (fun vs H Q E h => len_poly h) (fun cdv A outer s H vs Q E hr h => ⟨t_poly K Cof E, ?_, rd_poly h⟩)
  exact pss_cons (ps_set (i := 1) nd rfl (by first | exact Or.inl rfl | exact Or.inr rfl) (pe_callB call_len_seq (by rfl) T.z_len (by decide +kernel) (pa_cons (pv 0) (pa_nil))))
       (pss_cons (ps_while PassesOwn.never (PW.pt (pw_and (pt_cmpR op_gt (pv 1) (pe_int) (nomark _)) (pw_and1 (pt_cmpR op_eq (pe_ix ix_list (pv 0) (pe_op op_sub (pv 1) (pe_int)) (fun _ _ => rfl)) (pe_int) (nomark _))))) (pss_one (ps_set (i := 1) nd rfl (by first | exact Or.inl rfl | exact Or.inr rfl) (pe_op op_sub (pv 1) (pe_int)))))
       (pss_one (ps_ret (pe_slice sl_list (pv 0) (po_none) (po_some (pv 1))))))
theorem ok_degree (T : Txt K mg Cof ad fd) : FnOk P w K mg base CX0 1 (ad 2) (fd 2) ["P"] (sp_degree K Cof) := by
  have nd := sc_degree.nd
  refine T.F_degree.ok sc_degree (fun vs H Q E h => len_degree h) (fun cdv A outer s H vs Q E hr h => ⟨t_degree K Cof E, ?_, rd_degree h⟩)
  exact pss_one (ps_ret (pe_op op_sub (pe_callB call_len_seq (by rfl) T.z_len (by decide +kernel) (pa_cons (pv 0) (pa_nil))) (pe_int)))
theorem ok_coefficient_at (T : Txt K mg Cof ad fd) : FnOk P w K mg base CX0 1 (ad 3) (fd 3) ["P", "k"] (sp_coefficient_at K Cof) := by
  have nd := sc_coefficient_at.nd
  refine T.F_coefficient_at.ok sc_coefficient_at (fun vs H Q E h => len_coefficient_at h) (fun cdv A outer s H vs Q E hr h => ⟨t_coefficient_at K Cof E, ?_, rd_coefficient_at h⟩)
  exact pss_cons (ps_if (pt_cmpR op_lt (pv 1) (pe_callB call_len_seq (by rfl) T.z_len (by decide +kernel) (pa_cons (pv 0) (pa_nil))) (nomark _)) (pss_one (ps_ret (pe_ix ix_list (pv 0) (pv 1) (fun _ _ => rfl)))) (pss_nil))
       (pss_one (ps_ret (pe_int)))
theorem ok_added (T : Txt K mg Cof ad fd) : FnOk P w K mg base CX0 2 (ad 4) (fd 4) ["P", "Q"] (sp_added K Cof) := by
  have G_coefficient_at := ok_coefficient_at (P := P) (w := w) (base := base) T
  have B_coefficient_at := B_coefficient_at T
  have G_poly := ok_poly (P := P) (w := w) (base := base) T
  have B_poly := B_poly T
  have nd := sc_added.nd
  refine T.F_added.ok sc_added (fun vs H Q E h => len_added h) (fun cdv A outer s H vs Q E hr h => ⟨t_added K Cof E, ?_, rd_added h⟩)
  exact pss_one (ps_ret (pe_call G_poly (hr.mono (by decide)) (by rfl) T.g_poly T.F_poly.kp B_poly .nil pass0 (pa_cons (pe_lc (own := [("k", 2)]) (by rfl) nd (pi_range1 (by rfl) T.z_range (pa_cons (pe_callB (call_max2 (by rfl)) (by rfl) T.z_max (by decide +kernel) (pa_cons (pe_callB call_len_seq (by rfl) T.z_len (by decide +kernel) (pa_cons (pv 0) (pa_nil))) (pa_cons (pe_callB call_len_seq (by rfl) T.z_len (by decide +kernel) (pa_cons (pv 1) (pa_nil))) (pa_nil)))) (pa_nil))) (blkOk_by (own := [("k", 2)]) (N := ["P", "Q", "k"]) (sc := defScope s_added) (by decide +kernel)) (fun _ _ _ _ _ => pg_name (i := 2) nd rfl (by first | exact Or.inl rfl | exact Or.inr rfl)) (fun _ _ _ _ _ => pts_nil) (fun _ _ _ _ _ => pe_op op_add (pe_call G_coefficient_at (hr.mono (by decide)) (by rfl) T.g_coefficient_at T.F_coefficient_at.kp B_coefficient_at .nil pass0 (pa_cons (pv 0) (pa_cons (pv 2) (pa_nil)))) (pe_call G_coefficient_at (hr.mono (by decide)) (by rfl) T.g_coefficient_at T.F_coefficient_at.kp B_coefficient_at .nil pass0 (pa_cons (pv 1) (pa_cons (pv 2) (pa_nil)))))) (pa_nil))))
theorem ok_multiplied (T : Txt K mg Cof ad fd) : FnOk P w K mg base CX0 2 (ad 5) (fd 5) ["P", "Q"] (sp_multiplied K Cof) := by
  have G_poly := ok_poly (P := P) (w := w) (base := base) T
  have B_poly := B_poly T
  have nd := sc_multiplied.nd
  refine T.F_multiplied.ok sc_multiplied (fun vs H Q E h => len_multiplied h) (fun cdv A outer s H vs Q E hr h => ⟨t_multiplied K Cof E, ?_, rd_multiplied h⟩)
  exact pss_cons (ps_set (i := 2) nd rfl (by first | exact Or.inl rfl | exact Or.inr rfl) (pe_op op_rep (pe_lst (pa_cons (pe_int) (pa_nil))) (pe_op op_add (pe_callB call_len_seq (by rfl) T.z_len (by decide +kernel) (pa_cons (pv 0) (pa_nil))) (pe_callB call_len_seq (by rfl) T.z_len (by decide +kernel) (pa_cons (pv 1) (pa_nil))))))
       (pss_cons (ps_for PassesOwn.never rfl (pi_range1 (by rfl) T.z_range (pa_cons (pe_callB call_len_seq (by rfl) T.z_len (by decide +kernel) (pa_cons (pv 0) (pa_nil))) (pa_nil))) (pg_name (i := 3) nd rfl (by first | exact Or.inl rfl | exact Or.inr rfl)) (pss_one (ps_for PassesOwn.never rfl (pi_range1 (by rfl) T.z_range (pa_cons (pe_callB call_len_seq (by rfl) T.z_len (by decide +kernel) (pa_cons (pv 1) (pa_nil))) (pa_nil))) (pg_name (i := 4) nd rfl (by first | exact Or.inl rfl | exact Or.inr rfl)) (pss_one (ps_asg (pe_op op_add (pe_ix ix_list (pv 2) (pe_op op_add (pv 3) (pv 4)) (fun _ _ => rfl)) (pe_op op_mulX (pe_ix ix_list (pv 0) (pv 3) (fun _ _ => rfl)) (pe_ix ix_list (pv 1) (pv 4) (fun _ _ => rfl)))) (pg_sub (pv 2) (pe_op op_add (pv 3) (pv 4)) set_list))))))
       (pss_one (ps_ret (pe_call G_poly (hr.mono (by decide)) (by rfl) T.g_poly T.F_poly.kp B_poly .nil pass0 (pa_cons (pv 2) (pa_nil))))))
theorem ok_turned (T : Txt K mg Cof ad fd) : FnOk P w K mg base CX0 1 (ad 6) (fd 6) ["P"] (sp_turned K Cof) := by
  have nd := sc_turned.nd
  refine T.F_turned.ok sc_turned (fun vs H Q E h => len_turned h) (fun cdv A outer s H vs Q E hr h => ⟨t_turned K Cof E, ?_, rd_turned h⟩)
  exact pss_cons (ps_set (i := 1) nd rfl (by first | exact Or.inl rfl | exact Or.inr rfl) (pe_callTy call_list_of (by rfl) T.z_list (by decide +kernel) (pa_cons (pv 0) (pa_nil))))
       (pss_cons (ps_for PassesOwn.never rfl (pi_range3 (by rfl) T.z_range (pa_cons (pe_int) (pa_cons (pe_callB call_len_seq (by rfl) T.z_len (by decide +kernel) (pa_cons (pv 0) (pa_nil))) (pa_cons (pe_int) (pa_nil))))) (pg_name (i := 2) nd rfl (by first | exact Or.inl rfl | exact Or.inr rfl)) (pss_one (ps_asg (pe_un un_neg (pe_ix ix_list (pv 0) (pv 2) (fun _ _ => rfl))) (pg_sub (pv 1) (pv 2) set_list))))
       (pss_one (ps_ret (pv 1))))
theorem ok_shrunk (T : Txt K mg Cof ad fd) : FnOk P w K mg base CX0 2 (ad 7) (fd 7) ["P"] (sp_shrunk K Cof) := by
  have G_shared := ok_shared (P := P) (w := w) (base := base) T
  have B_shared := B_shared T
  have nd := sc_shrunk.nd
  refine T.F_shrunk.ok sc_shrunk (fun vs H Q E h => len_shrunk h) (fun cdv A outer s H vs Q E hr h => ⟨t_shrunk K Cof E, ?_, rd_shrunk h⟩)
  exact pss_cons (ps_set (i := 1) nd rfl (by first | exact Or.inl rfl | exact Or.inr rfl) (pe_call G_shared (hr.mono (by decide)) (by rfl) T.g_shared T.F_shared.kp B_shared .nil pass0 (pa_cons (pv 0) (pa_nil))))
       (pss_one (ps_ret (pe_lc (own := [("one", 2)]) (by rfl) nd (pi_list (pv 0)) (blkOk_by (own := [("one", 2)]) (N := ["P", "part", "one"]) (sc := defScope s_shrunk) (by decide +kernel)) (fun _ _ _ _ _ => pg_name (i := 2) nd rfl (by first | exact Or.inl rfl | exact Or.inr rfl)) (fun _ _ _ _ _ => pts_nil) (fun _ _ _ _ _ => pe_op op_fdivA (pv 2) (pv 1)))))
theorem ok_plain (T : Txt K mg Cof ad fd) : FnOk P w K mg base CX0 3 (ad 8) (fd 8) ["P"] (sp_plain K Cof) := by
  have G_shrunk := ok_shrunk (P := P) (w := w) (base := base) T
  have B_shrunk := B_shrunk T
  have nd := sc_plain.nd
  refine T.F_plain.ok sc_plain (fun vs H Q E h => len_plain h) (fun cdv A outer s H vs Q E hr h => ⟨t_plain K Cof E, ?_, rd_plain h⟩)
  exact pss_cons (ps_set (i := 1) nd rfl (by first | exact Or.inl rfl | exact Or.inr rfl) (pe_call G_shrunk (hr.mono (by decide)) (by rfl) T.g_shrunk T.F_shrunk.kp B_shrunk .nil pass0 (pa_cons (pv 0) (pa_nil))))
       (pss_cons (ps_if (PW.pt (pw_and (pt_tru (pv 1)) (pw_and1 (pt_cmpR op_lt (pe_ix ix_list (pv 1) (pe_un un_neg (pe_int)) (fun _ _ => rfl)) (pe_int) (nomark _))))) (pss_one (ps_ret (pe_lc (own := [("one", 2)]) (by rfl) nd (pi_list (pv 1)) (blkOk_by (own := [("one", 2)]) (N := ["P", "row", "one"]) (sc := defScope s_plain) (by decide +kernel)) (fun _ _ _ _ _ => pg_name (i := 2) nd rfl (by first | exact Or.inl rfl | exact Or.inr rfl)) (fun _ _ _ _ _ => pts_nil) (fun _ _ _ _ _ => pe_un un_neg (pv 2))))) (pss_nil))
       (pss_one (ps_ret (pv 1))))
theorem ok_pivot_at (T : Txt K mg Cof ad fd) : FnOk P w K mg base CX0 1 (ad 9) (fd 9) ["rows", "at"] (sp_pivot_at K Cof) := by
  have nd := sc_pivot_at.nd
  refine T.F_pivot_at.ok sc_pivot_at (fun vs H Q E h => len_pivot_at h) (fun cdv A outer s H vs Q E hr h => ⟨t_pivot_at K Cof E, ?_, rd_pivot_at h⟩)
  exact pss_cons (ps_set (i := 2) nd rfl (by first | exact Or.inl rfl | exact Or.inr rfl) (pv 1))
       (pss_cons (ps_while PassesOwn.never (PW.pt (pw_and (pt_cmpR op_lt (pv 2) (pe_callB call_len_seq (by rfl) T.z_len (by decide +kernel) (pa_cons (pv 0) (pa_nil))) (nomark _)) (pw_and1 (pt_cmpR op_eq (pe_ix ix_list (pe_ix ix_list (pv 0) (pv 2) (fun _ _ => rfl)) (pv 1) (fun _ _ => rfl)) (pe_int) (nomark _))))) (pss_one (ps_set (i := 2) nd rfl (by first | exact Or.inl rfl | exact Or.inr rfl) (pe_op op_add (pv 2) (pe_int)))))
       (pss_one (ps_ret (pv 2))))
theorem ok_cleared_rows (T : Txt K mg Cof ad fd) : FnOk P w K mg base CX0 1 (ad 10) (fd 10) ["rows", "at", "before"] (sp_cleared_rows K Cof) := by
  have nd := sc_cleared_rows.nd
  refine T.F_cleared_rows.ok sc_cleared_rows (fun vs H Q E h => len_cleared_rows h) (fun cdv A outer s H vs Q E hr h => ⟨t_cleared_rows K Cof E, ?_, rd_cleared_rows h⟩)
  exact pss_cons (ps_set (i := 3) nd rfl (by first | exact Or.inl rfl | exact Or.inr rfl) (pe_ix ix_list (pv 0) (pv 1) (fun _ _ => rfl)))
       (pss_cons (ps_set (i := 4) nd rfl (by first | exact Or.inl rfl | exact Or.inr rfl) (pe_slice sl_list (pv 0) (po_none) (po_some (pe_op op_add (pv 1) (pe_int)))))
       (pss_cons (ps_for PassesOwn.never rfl (pi_list (pe_slice sl_list (pv 0) (po_some (pe_op op_add (pv 1) (pe_int))) (po_none))) (pg_name (i := 5) nd rfl (by first | exact Or.inl rfl | exact Or.inr rfl)) (pss_one (ps_expr (pe_bm PySem.F.plainAttrs_list PySem.F.slot_list_append PySem.F.type_list_append mt_append (pv 4) (pa_cons (pe_lc (own := [("j", 6)]) (by rfl) nd (pi_range1 (by rfl) T.z_range (pa_cons (pe_callB call_len_seq (by rfl) T.z_len (by decide +kernel) (pa_cons (pv 5) (pa_nil))) (pa_nil))) (blkOk_by (own := [("j", 6)]) (N := ["rows", "at", "before", "top", "done", "row", "j"]) (sc := defScope s_cleared_rows) (by decide +kernel)) (fun _ _ _ _ _ => pg_name (i := 6) nd rfl (by first | exact Or.inl rfl | exact Or.inr rfl)) (fun _ _ _ _ _ => pts_nil) (fun _ _ _ _ _ => pe_op op_fdivA (pe_op op_sub (pe_op op_mulX (pe_ix ix_list (pv 3) (pv 1) (fun _ _ => rfl)) (pe_ix ix_list (pv 5) (pv 6) (fun _ _ => rfl))) (pe_op op_mulX (pe_ix ix_list (pv 5) (pv 1) (fun _ _ => rfl)) (pe_ix ix_list (pv 3) (pv 6) (fun _ _ => rfl)))) (pv 2))) (pa_nil))))))
       (pss_one (ps_ret (pv 4)))))
theorem ok_determinant (T : Txt K mg Cof ad fd) : FnOk P w K mg base CX0 2 (ad 11) (fd 11) ["rows"] (sp_determinant K Cof) := by
  have G_cleared_rows := ok_cleared_rows (P := P) (w := w) (base := base) T
  have B_cleared_rows := B_cleared_rows T
  have G_pivot_at := ok_pivot_at (P := P) (w := w) (base := base) T
  have B_pivot_at := B_pivot_at T
  have nd := sc_determinant.nd
  refine T.F_determinant.ok sc_determinant (fun vs H Q E h => len_determinant h) (fun cdv A outer s H vs Q E hr h => ⟨t_determinant K Cof E, ?_, rd_determinant h⟩)
  exact pss_cons (ps_setLc (i := 1) (own := [("row", 2)]) (by rfl) nd rfl rfl (sw_true rfl rfl rfl (by decide +kernel)) (pi_list (pv 0)) (blkOk_by (own := [("row", 2)]) (N := ["rows", "left", "row", "sign", "before", "at", "k", "kept"]) (sc := defScope s_determinant) (by decide +kernel)) (fun _ _ _ _ _ => pg_name (i := 2) nd rfl (by first | exact Or.inl rfl | exact Or.inr rfl)) (fun _ _ _ _ _ => pts_nil) (fun _ _ _ _ _ => pe_callTy call_list_of (by rfl) T.z_list (by decide +kernel) (pa_cons (pv 2) (pa_nil))))
       (pss_cons (ps_set (i := 3) nd rfl (by first | exact Or.inl rfl | exact Or.inr rfl) (pe_int))
       (pss_cons (ps_set (i := 4) nd rfl (by first | exact Or.inl rfl | exact Or.inr rfl) (pe_int))
       (pss_cons (ps_for PassesOwn.never rfl (pi_range1 (by rfl) T.z_range (pa_cons (pe_callB call_len_seq (by rfl) T.z_len (by decide +kernel) (pa_cons (pv 0) (pa_nil))) (pa_nil))) (pg_name (i := 5) nd rfl (by first | exact Or.inl rfl | exact Or.inr rfl)) (pss_cons (ps_set (i := 6) nd rfl (by first | exact Or.inl rfl | exact Or.inr rfl) (pe_call G_pivot_at (hr.mono (by decide)) (by rfl) T.g_pivot_at T.F_pivot_at.kp B_pivot_at .nil pass0 (pa_cons (pv 1) (pa_cons (pv 5) (pa_nil)))))
       (pss_cons (ps_if (pt_cmpR op_eq (pv 6) (pe_callB call_len_seq (by rfl) T.z_len (by decide +kernel) (pa_cons (pv 0) (pa_nil))) (nomark _)) (pss_one (ps_ret (pe_int))) (pss_nil))
       (pss_cut (ps_if (pt_cmpR op_gt (pv 6) (pv 5) (nomark _)) (pss_cons (ps_set (i := 7) nd rfl (by first | exact Or.inl rfl | exact Or.inr rfl) (pe_ix ix_list (pv 1) (pv 5) (fun _ _ => rfl)))
       (pss_cons (ps_asg (pe_ix ix_list (pv 1) (pv 6) (fun _ _ => rfl)) (pg_sub (pv 1) (pv 5) set_list))
       (pss_cons (ps_asg (pv 7) (pg_sub (pv 1) (pv 6) set_list))
       (pss_one (ps_set (i := 3) nd rfl (by first | exact Or.inl rfl | exact Or.inr rfl) (pe_un un_neg (pv 3))))))) (pss_nil))
       (pss_cons (ps_set (i := 1) nd rfl (by first | exact Or.inl rfl | exact Or.inr rfl) (pe_call G_cleared_rows (hr.mono (by decide)) (by rfl) T.g_cleared_rows T.F_cleared_rows.kp B_cleared_rows .nil pass0 (pa_cons (pv 1) (pa_cons (pv 5) (pa_cons (pv 4) (pa_nil))))))
       (pss_one (ps_set (i := 4) nd rfl (by first | exact Or.inl rfl | exact Or.inr rfl) (pe_ix ix_list (pe_ix ix_list (pv 1) (pv 5) (fun _ _ => rfl)) (pv 5) (fun _ _ => rfl)))))))))
       (pss_one (ps_ret (pe_op op_mulX (pv 3) (pv 4)))))))
theorem ok_sylvester_rows (T : Txt K mg Cof ad fd) : FnOk P w K mg base CX0 1 (ad 12) (fd 12) ["P", "Q"] (sp_sylvester_rows K Cof) := by
  have nd := sc_sylvester_rows.nd
  refine T.F_sylvester_rows.ok sc_sylvester_rows (fun vs H Q E h => len_sylvester_rows h) (fun cdv A outer s H vs Q E hr h => ⟨t_sylvester_rows K Cof E, ?_, rd_sylvester_rows h⟩)
  exact pss_cons (ps_set (i := 2) nd rfl (by first | exact Or.inl rfl | exact Or.inr rfl) (pe_op op_sub (pe_callB call_len_seq (by rfl) T.z_len (by decide +kernel) (pa_cons (pv 0) (pa_nil))) (pe_int)))
       (pss_cons (ps_set (i := 3) nd rfl (by first | exact Or.inl rfl | exact Or.inr rfl) (pe_op op_sub (pe_callB call_len_seq (by rfl) T.z_len (by decide +kernel) (pa_cons (pv 1) (pa_nil))) (pe_int)))
       (pss_cons (ps_set (i := 4) nd rfl (by first | exact Or.inl rfl | exact Or.inr rfl) (pe_lst (pa_nil)))
       (pss_cons (ps_for PassesOwn.never rfl (pi_range1 (by rfl) T.z_range (pa_cons (pv 3) (pa_nil))) (pg_name (i := 5) nd rfl (by first | exact Or.inl rfl | exact Or.inr rfl)) (pss_one (ps_expr (pe_bm PySem.F.plainAttrs_list PySem.F.slot_list_append PySem.F.type_list_append mt_append (pv 4) (pa_cons (pe_op op_cat (pe_op op_cat (pe_op op_rep (pe_lst (pa_cons (pe_int) (pa_nil))) (pv 5)) (pe_listrev (by rfl) (by rfl) T.z_list (by rfl) T.z_reversed (pa_cons (pv 0) (pa_nil)))) (pe_op op_rep (pe_lst (pa_cons (pe_int) (pa_nil))) (pe_op op_sub (pe_op op_sub (pv 3) (pe_int)) (pv 5)))) (pa_nil))))))
       (pss_cons (ps_for PassesOwn.never rfl (pi_range1 (by rfl) T.z_range (pa_cons (pv 2) (pa_nil))) (pg_name (i := 5) nd rfl (by first | exact Or.inl rfl | exact Or.inr rfl)) (pss_one (ps_expr (pe_bm PySem.F.plainAttrs_list PySem.F.slot_list_append PySem.F.type_list_append mt_append (pv 4) (pa_cons (pe_op op_cat (pe_op op_cat (pe_op op_rep (pe_lst (pa_cons (pe_int) (pa_nil))) (pv 5)) (pe_listrev (by rfl) (by rfl) T.z_list (by rfl) T.z_reversed (pa_cons (pv 1) (pa_nil)))) (pe_op op_rep (pe_lst (pa_cons (pe_int) (pa_nil))) (pe_op op_sub (pe_op op_sub (pv 2) (pe_int)) (pv 5)))) (pa_nil))))))
       (pss_one (ps_ret (pv 4)))))))
theorem ok_resultant (T : Txt K mg Cof ad fd) : FnOk P w K mg base CX0 3 (ad 13) (fd 13) ["P", "Q"] (sp_resultant K Cof) := by
  have G_determinant := ok_determinant (P := P) (w := w) (base := base) T
  have B_determinant := B_determinant T
  have G_sylvester_rows := ok_sylvester_rows (P := P) (w := w) (base := base) T
  have B_sylvester_rows := B_sylvester_rows T
  have nd := sc_resultant.nd
  refine T.F_resultant.ok sc_resultant (fun vs H Q E h => len_resultant h) (fun cdv A outer s H vs Q E hr h => ⟨t_resultant K Cof E, ?_, rd_resultant h⟩)
  exact pss_cons (ps_if (PW.pt (pw_or (pt_cmpR (op_eqD hr.units) (pv 0) (pe_lst (pa_nil)) (nomark _)) (pw_or1 (pt_cmpR (op_eqD hr.units) (pv 1) (pe_lst (pa_nil)) (nomark _))))) (pss_one (ps_ret (pe_int))) (pss_nil))
       (pss_one (ps_ret (pe_call G_determinant (hr.mono (by decide)) (by rfl) T.g_determinant T.F_determinant.kp B_determinant .nil pass0 (pa_cons (pe_call G_sylvester_rows (hr.mono (by decide)) (by rfl) T.g_sylvester_rows T.F_sylvester_rows.kp B_sylvester_rows .nil pass0 (pa_cons (pv 0) (pa_cons (pv 1) (pa_nil)))) (pa_nil)))))
theorem ok_moved_by (T : Txt K mg Cof ad fd) : FnOk P w K mg base CX0 3 (ad 14) (fd 14) ["P", "shift"] (sp_moved_by K Cof) := by
  have G_added := ok_added (P := P) (w := w) (base := base) T
  have B_added := B_added T
  have G_multiplied := ok_multiplied (P := P) (w := w) (base := base) T
  have B_multiplied := B_multiplied T
  have G_poly := ok_poly (P := P) (w := w) (base := base) T
  have B_poly := B_poly T
  have nd := sc_moved_by.nd
  refine T.F_moved_by.ok sc_moved_by (fun vs H Q E h => len_moved_by h) (fun cdv A outer s H vs Q E hr h => ⟨t_moved_by K Cof E, ?_, rd_moved_by h⟩)
  exact pss_cons (ps_set (i := 2) nd rfl (by first | exact Or.inl rfl | exact Or.inr rfl) (pe_lst (pa_nil)))
       (pss_cons (ps_for PassesOwn.never rfl (pi_reversed (by rfl) T.z_reversed (pa_cons (pv 0) (pa_nil))) (pg_name (i := 3) nd rfl (by first | exact Or.inl rfl | exact Or.inr rfl)) (pss_one (ps_set (i := 2) nd rfl (by first | exact Or.inl rfl | exact Or.inr rfl) (pe_call G_added (hr.mono (by decide)) (by rfl) T.g_added T.F_added.kp B_added .nil pass0 (pa_cons (pe_call G_multiplied (hr.mono (by decide)) (by rfl) T.g_multiplied T.F_multiplied.kp B_multiplied .nil pass0 (pa_cons (pv 2) (pa_cons (pe_lst (pa_cons (pv 1) (pa_cons (pe_int) (pa_nil)))) (pa_nil)))) (pa_cons (pe_call G_poly (hr.mono (by decide)) (by rfl) T.g_poly T.F_poly.kp B_poly .nil pass0 (pa_cons (pe_lst (pa_cons (pv 3) (pa_nil))) (pa_nil))) (pa_nil)))))))
       (pss_one (ps_ret (pv 2))))
theorem ok_steps_between (T : Txt K mg Cof ad fd) : FnOk P w K mg base CX0 1 (ad 15) (fd 15) ["values"] (sp_steps_between K Cof) := by
  have nd := sc_steps_between.nd
  refine T.F_steps_between.ok sc_steps_between (fun vs H Q E h => len_steps_between h) (fun cdv A outer s H vs Q E hr h => ⟨t_steps_between K Cof E, ?_, rd_steps_between h⟩)
  exact pss_one (ps_ret (pe_lc (own := [("k", 1)]) (by rfl) nd (pi_range1 (by rfl) T.z_range (pa_cons (pe_op op_sub (pe_callB call_len_seq (by rfl) T.z_len (by decide +kernel) (pa_cons (pv 0) (pa_nil))) (pe_int)) (pa_nil))) (blkOk_by (own := [("k", 1)]) (N := ["values", "k"]) (sc := defScope s_steps_between) (by decide +kernel)) (fun _ _ _ _ _ => pg_name (i := 1) nd rfl (by first | exact Or.inl rfl | exact Or.inr rfl)) (fun _ _ _ _ _ => pts_nil) (fun _ _ _ _ _ => pe_op op_sub (pe_ix ix_list (pv 0) (pe_op op_add (pv 1) (pe_int)) (fun _ _ => rfl)) (pe_ix ix_list (pv 0) (pv 1) (fun _ _ => rfl)))))
theorem ok_through_values (T : Txt K mg Cof ad fd) : FnOk P w K mg base CX0 4 (ad 16) (fd 16) ["values"] (sp_through_values K Cof) := by
  have G_added := ok_added (P := P) (w := w) (base := base) T
  have B_added := B_added T
  have G_multiplied := ok_multiplied (P := P) (w := w) (base := base) T
  have B_multiplied := B_multiplied T
  have G_plain := ok_plain (P := P) (w := w) (base := base) T
  have B_plain := B_plain T
  have G_poly := ok_poly (P := P) (w := w) (base := base) T
  have B_poly := B_poly T
  have G_steps_between := ok_steps_between (P := P) (w := w) (base := base) T
  have B_steps_between := B_steps_between T
  have nd := sc_through_values.nd
  refine T.F_through_values.ok sc_through_values (fun vs H Q E h => len_through_values h) (fun cdv A outer s H vs Q E hr h => ⟨t_through_values K Cof E, ?_, rd_through_values h⟩)
  exact pss_cons (ps_set (i := 1) nd rfl (by first | exact Or.inl rfl | exact Or.inr rfl) (pe_int))
       (pss_cons (ps_for PassesOwn.never rfl (pi_range2 (by rfl) T.z_range (pa_cons (pe_int) (pa_cons (pe_callB call_len_seq (by rfl) T.z_len (by decide +kernel) (pa_cons (pv 0) (pa_nil))) (pa_nil)))) (pg_name (i := 2) nd rfl (by first | exact Or.inl rfl | exact Or.inr rfl)) (pss_one (ps_set (i := 1) nd rfl (by first | exact Or.inl rfl | exact Or.inr rfl) (pe_op op_mulX (pv 1) (pv 2)))))
       (pss_cons (ps_set (i := 3) nd rfl (by first | exact Or.inl rfl | exact Or.inr rfl) (pe_lst (pa_nil)))
       (pss_cons (ps_set (i := 4) nd rfl (by first | exact Or.inl rfl | exact Or.inr rfl) (pe_lst (pa_cons (pe_int) (pa_nil))))
       (pss_cons (ps_for PassesOwn.never rfl (pi_range1 (by rfl) T.z_range (pa_cons (pe_callB call_len_seq (by rfl) T.z_len (by decide +kernel) (pa_cons (pv 0) (pa_nil))) (pa_nil))) (pg_name (i := 2) nd rfl (by first | exact Or.inl rfl | exact Or.inr rfl)) (pss_cons (ps_set (i := 3) nd rfl (by first | exact Or.inl rfl | exact Or.inr rfl) (pe_call G_added (hr.mono (by decide)) (by rfl) T.g_added T.F_added.kp B_added .nil pass0 (pa_cons (pv 3) (pa_cons (pe_call G_multiplied (hr.mono (by decide)) (by rfl) T.g_multiplied T.F_multiplied.kp B_multiplied .nil pass0 (pa_cons (pe_call G_poly (hr.mono (by decide)) (by rfl) T.g_poly T.F_poly.kp B_poly .nil pass0 (pa_cons (pe_lst (pa_cons (pe_op op_mulX (pe_ix ix_list (pv 0) (pe_int) (fun _ _ => rfl)) (pv 1)) (pa_nil))) (pa_nil))) (pa_cons (pv 4) (pa_nil)))) (pa_nil)))))
       (pss_cons (ps_set (i := 4) nd rfl (by first | exact Or.inl rfl | exact Or.inr rfl) (pe_call G_multiplied (hr.mono (by decide)) (by rfl) T.g_multiplied T.F_multiplied.kp B_multiplied .nil pass0 (pa_cons (pv 4) (pa_cons (pe_lst (pa_cons (pe_un un_neg (pv 2)) (pa_cons (pe_int) (pa_nil)))) (pa_nil)))))
       (pss_cons (ps_set (i := 1) nd rfl (by first | exact Or.inl rfl | exact Or.inr rfl) (pe_op op_fdivA (pv 1) (pe_op op_add (pv 2) (pe_int))))
       (pss_one (ps_set (i := 0) nd rfl (by first | exact Or.inl rfl | exact Or.inr rfl) (pe_call G_steps_between (hr.mono (by decide)) (by rfl) T.g_steps_between T.F_steps_between.kp B_steps_between .nil pass0 (pa_cons (pv 0) (pa_nil)))))))))
       (pss_one (ps_ret (pe_call G_plain (hr.mono (by decide)) (by rfl) T.g_plain T.F_plain.kp B_plain .nil pass0 (pa_cons (pv 3) (pa_nil)))))))))
theorem ok_sums (T : Txt K mg Cof ad fd) : FnOk P w K mg base CX0 5 (ad 17) (fd 17) ["P", "Q"] (sp_sums K Cof) := by
  have G_degree := ok_degree (P := P) (w := w) (base := base) T
  have B_degree := B_degree T
  have G_moved_by := ok_moved_by (P := P) (w := w) (base := base) T
  have B_moved_by := B_moved_by T
  have G_resultant := ok_resultant (P := P) (w := w) (base := base) T
  have B_resultant := B_resultant T
  have G_through_values := ok_through_values (P := P) (w := w) (base := base) T
  have B_through_values := B_through_values T
  have G_turned := ok_turned (P := P) (w := w) (base := base) T
  have B_turned := B_turned T
  have nd := sc_sums.nd
  refine T.F_sums.ok sc_sums (fun vs H Q E h => len_sums h) (fun cdv A outer s H vs Q E hr h => ⟨t_sums K Cof E, ?_, rd_sums h⟩)
  exact pss_cons (ps_set (i := 2) nd rfl (by first | exact Or.inl rfl | exact Or.inr rfl) (pe_lst (pa_nil)))
       (pss_cons (ps_for PassesOwn.never rfl (pi_range1 (by rfl) T.z_range (pa_cons (pe_op op_add (pe_op op_mulX (pe_call G_degree (hr.mono (by decide)) (by rfl) T.g_degree T.F_degree.kp B_degree .nil pass0 (pa_cons (pv 0) (pa_nil))) (pe_call G_degree (hr.mono (by decide)) (by rfl) T.g_degree T.F_degree.kp B_degree .nil pass0 (pa_cons (pv 1) (pa_nil)))) (pe_int)) (pa_nil))) (pg_name (i := 3) nd rfl (by first | exact Or.inl rfl | exact Or.inr rfl)) (pss_one (ps_expr (pe_bm PySem.F.plainAttrs_list PySem.F.slot_list_append PySem.F.type_list_append mt_append (pv 2) (pa_cons (pe_call G_resultant (hr.mono (by decide)) (by rfl) T.g_resultant T.F_resultant.kp B_resultant .nil pass0 (pa_cons (pv 0) (pa_cons (pe_call G_moved_by (hr.mono (by decide)) (by rfl) T.g_moved_by T.F_moved_by.kp B_moved_by .nil pass0 (pa_cons (pe_call G_turned (hr.mono (by decide)) (by rfl) T.g_turned T.F_turned.kp B_turned .nil pass0 (pa_cons (pv 1) (pa_nil))) (pa_cons (pe_un un_neg (pv 3)) (pa_nil)))) (pa_nil)))) (pa_nil))))))
       (pss_one (ps_ret (pe_call G_through_values (hr.mono (by decide)) (by rfl) T.g_through_values T.F_through_values.kp B_through_values .nil pass0 (pa_cons (pv 2) (pa_nil))))))
theorem ok_stretched_by (T : Txt K mg Cof ad fd) : FnOk P w K mg base CX0 1 (ad 18) (fd 18) ["Q", "x"] (sp_stretched_by K Cof) := by
  have nd := sc_stretched_by.nd
  refine T.F_stretched_by.ok sc_stretched_by (fun vs H Q E h => len_stretched_by h) (fun cdv A outer s H vs Q E hr h => ⟨t_stretched_by K Cof E, ?_, rd_stretched_by h⟩)
  exact pss_cons (ps_set (i := 2) nd rfl (by first | exact Or.inl rfl | exact Or.inr rfl) (pe_lst (pa_nil)))
       (pss_cons (ps_set (i := 3) nd rfl (by first | exact Or.inl rfl | exact Or.inr rfl) (pe_int))
       (pss_cons (ps_for PassesOwn.never rfl (pi_list (pv 0)) (pg_name (i := 4) nd rfl (by first | exact Or.inl rfl | exact Or.inr rfl)) (pss_cons (ps_expr (pe_bm PySem.F.plainAttrs_list PySem.F.slot_list_append PySem.F.type_list_append mt_append (pv 2) (pa_cons (pe_op op_mulX (pv 4) (pv 3)) (pa_nil))))
       (pss_one (ps_set (i := 3) nd rfl (by first | exact Or.inl rfl | exact Or.inr rfl) (pe_op op_mulX (pv 3) (pv 1))))))
       (pss_one (ps_ret (pe_listrev (by rfl) (by rfl) T.z_list (by rfl) T.z_reversed (pa_cons (pv 2) (pa_nil)))))))
theorem ok_products (T : Txt K mg Cof ad fd) : FnOk P w K mg base CX0 5 (ad 19) (fd 19) ["P", "Q"] (sp_products K Cof) := by
  have G_degree := ok_degree (P := P) (w := w) (base := base) T
  have B_degree := B_degree T
  have G_determinant := ok_determinant (P := P) (w := w) (base := base) T
  have B_determinant := B_determinant T
  have G_stretched_by := ok_stretched_by (P := P) (w := w) (base := base) T
  have B_stretched_by := B_stretched_by T
  have G_sylvester_rows := ok_sylvester_rows (P := P) (w := w) (base := base) T
  have B_sylvester_rows := B_sylvester_rows T
  have G_through_values := ok_through_values (P := P) (w := w) (base := base) T
  have B_through_values := B_through_values T
  have nd := sc_products.nd
  refine T.F_products.ok sc_products (fun vs H Q E h => len_products h) (fun cdv A outer s H vs Q E hr h => ⟨t_products K Cof E, ?_, rd_products h⟩)
  exact pss_cons (ps_set (i := 2) nd rfl (by first | exact Or.inl rfl | exact Or.inr rfl) (pe_lst (pa_nil)))
       (pss_cons (ps_for PassesOwn.never rfl (pi_range1 (by rfl) T.z_range (pa_cons (pe_op op_add (pe_op op_mulX (pe_call G_degree (hr.mono (by decide)) (by rfl) T.g_degree T.F_degree.kp B_degree .nil pass0 (pa_cons (pv 0) (pa_nil))) (pe_call G_degree (hr.mono (by decide)) (by rfl) T.g_degree T.F_degree.kp B_degree .nil pass0 (pa_cons (pv 1) (pa_nil)))) (pe_int)) (pa_nil))) (pg_name (i := 3) nd rfl (by first | exact Or.inl rfl | exact Or.inr rfl)) (pss_one (ps_expr (pe_bm PySem.F.plainAttrs_list PySem.F.slot_list_append PySem.F.type_list_append mt_append (pv 2) (pa_cons (pe_call G_determinant (hr.mono (by decide)) (by rfl) T.g_determinant T.F_determinant.kp B_determinant .nil pass0 (pa_cons (pe_call G_sylvester_rows (hr.mono (by decide)) (by rfl) T.g_sylvester_rows T.F_sylvester_rows.kp B_sylvester_rows .nil pass0 (pa_cons (pv 0) (pa_cons (pe_call G_stretched_by (hr.mono (by decide)) (by rfl) T.g_stretched_by T.F_stretched_by.kp B_stretched_by .nil pass0 (pa_cons (pv 1) (pa_cons (pv 3) (pa_nil)))) (pa_nil)))) (pa_nil))) (pa_nil))))))
       (pss_one (ps_ret (pe_call G_through_values (hr.mono (by decide)) (by rfl) T.g_through_values T.F_through_values.kp B_through_values .nil pass0 (pa_cons (pv 2) (pa_nil))))))
theorem ok_powers (T : Txt K mg Cof ad fd) : FnOk P w K mg base CX0 5 (ad 20) (fd 20) ["P", "k"] (sp_powers K Cof) := by
  have G_degree := ok_degree (P := P) (w := w) (base := base) T
  have B_degree := B_degree T
  have G_determinant := ok_determinant (P := P) (w := w) (base := base) T
  have B_determinant := B_determinant T
  have G_sylvester_rows := ok_sylvester_rows (P := P) (w := w) (base := base) T
  have B_sylvester_rows := B_sylvester_rows T
  have G_through_values := ok_through_values (P := P) (w := w) (base := base) T
  have B_through_values := B_through_values T
  have nd := sc_powers.nd
  refine T.F_powers.ok sc_powers (fun vs H Q E h => len_powers h) (fun cdv A outer s H vs Q E hr h => ⟨t_powers K Cof E, ?_, rd_powers h⟩)
  exact pss_cons (ps_set (i := 2) nd rfl (by first | exact Or.inl rfl | exact Or.inr rfl) (pe_lst (pa_nil)))
       (pss_cons (ps_for PassesOwn.never rfl (pi_range1 (by rfl) T.z_range (pa_cons (pe_op op_add (pe_call G_degree (hr.mono (by decide)) (by rfl) T.g_degree T.F_degree.kp B_degree .nil pass0 (pa_cons (pv 0) (pa_nil))) (pe_int)) (pa_nil))) (pg_name (i := 3) nd rfl (by first | exact Or.inl rfl | exact Or.inr rfl)) (pss_one (ps_expr (pe_bm PySem.F.plainAttrs_list PySem.F.slot_list_append PySem.F.type_list_append mt_append (pv 2) (pa_cons (pe_call G_determinant (hr.mono (by decide)) (by rfl) T.g_determinant T.F_determinant.kp B_determinant .nil pass0 (pa_cons (pe_call G_sylvester_rows (hr.mono (by decide)) (by rfl) T.g_sylvester_rows T.F_sylvester_rows.kp B_sylvester_rows .nil pass0 (pa_cons (pv 0) (pa_cons (pe_op op_cat (pe_op op_cat (pe_lst (pa_cons (pv 3) (pa_nil))) (pe_op op_rep (pe_lst (pa_cons (pe_int) (pa_nil))) (pe_op op_sub (pv 1) (pe_int)))) (pe_lst (pa_cons (pe_un un_neg (pe_int)) (pa_nil)))) (pa_nil)))) (pa_nil))) (pa_nil))))))
       (pss_one (ps_ret (pe_call G_through_values (hr.mono (by decide)) (by rfl) T.g_through_values T.F_through_values.kp B_through_values .nil pass0 (pa_cons (pv 2) (pa_nil))))))
theorem ok__law_cell_at (T : Txt K mg Cof ad fd) : FnOk P w K mg base CX0 1 (ad 21) (fd 21) ["_law_script", "_law_k"] (sp__law_cell_at K Cof) := by
  have nd := sc__law_cell_at.nd
  refine T.F__law_cell_at.ok sc__law_cell_at (fun vs H Q E h => len__law_cell_at h) (fun cdv A outer s H vs Q E hr h => ⟨t__law_cell_at K Cof E, ?_, rd__law_cell_at h⟩)
  exact pss_cons (ps_if (pt_cmpR op_lt (pv 1) (pe_callB call_len_seq (by rfl) T.z_len (by decide +kernel) (pa_cons (pv 0) (pa_nil))) (nomark _)) (pss_one (ps_ret (pe_ix ix_list (pv 0) (pv 1) (fun _ _ => rfl)))) (pss_nil))
       (pss_one (ps_ret (pe_int)))
theorem ok__law_is (T : Txt K mg Cof ad fd) : FnOk P w K mg base CX0 1 (ad 22) (fd 22) ["_law_found", "_law_due"] (sp__law_is K Cof) := by
  have nd := sc__law_is.nd
  refine T.F__law_is.ok sc__law_is (fun vs H Q E h => len__law_is h) (fun cdv A outer s H vs Q E hr h => ⟨t__law_is K Cof E, ?_, rd__law_is h⟩)
  exact pss_cons (ps_if (pt_not (pt_val (pe_callB call_isi (by rfl) T.z_isinstance (by decide +kernel) (pa_cons (pv 0) (pa_cons (pe_bltn (v := .ty "list") (by rfl) T.z_list (by decide +kernel) rfl) (pa_nil)))))) (pss_one (ps_ret (pe_bl))) (pss_nil))
       (pss_cons (ps_for PassesOwn.never rfl (pi_list (pv 0)) (pg_name (i := 2) nd rfl (by first | exact Or.inl rfl | exact Or.inr rfl)) (pss_one (ps_if (PW.pt (pw_or (pt_not (pt_val (pe_callB call_isi (by rfl) T.z_isinstance (by decide +kernel) (pa_cons (pv 2) (pa_cons (pe_bltn (v := .ty "int") (by rfl) T.z_int (by decide +kernel) rfl) (pa_nil)))))) (pw_or1 (pt_val (pe_callB call_isi (by rfl) T.z_isinstance (by decide +kernel) (pa_cons (pv 2) (pa_cons (pe_bltn (v := .ty "bool") (by rfl) T.z_bool (by decide +kernel) rfl) (pa_nil)))))))) (pss_one (ps_ret (pe_bl))) (pss_nil))))
       (pss_one (ps_ret (pe_cmpR (op_eqD hr.units) (pv 0) (pv 1) (nomark _)))))
theorem ok__law_number (T : Txt K mg Cof ad fd) : FnOk P w K mg base CX0 1 (ad 23) (fd 23) ["_law_cell", "_law_at"] (sp__law_number K Cof) := by
  have nd := sc__law_number.nd
  refine T.F__law_number.ok sc__law_number (fun vs H Q E h => len__law_number h) (fun cdv A outer s H vs Q E hr h => ⟨t__law_number K Cof E, ?_, rd__law_number h⟩)
  exact pss_cons (ps_if (pt_cmpR op_eq (pe_op op_modN (pv 0) (pe_int)) (pe_int) (nomark _)) (pss_one (ps_ret (pe_op op_sub (pe_op op_modN (pe_op op_fdivA (pv 0) (pe_int)) (pe_op op_add (pe_op op_mulX (pe_int) (pe_op op_pow (pe_int) (pe_int))) (pe_int))) (pe_op op_pow (pe_int) (pe_int))))) (pss_nil))
       (pss_one (ps_ret (pe_op op_sub (pe_op op_modN (pe_op op_add (pe_op op_fdivA (pv 0) (pe_int)) (pe_op op_mulX (pe_int) (pv 1))) (pe_int)) (pe_int))))
theorem ok__law_product (T : Txt K mg Cof ad fd) : FnOk P w K mg base CX0 1 (ad 24) (fd 24) ["_law_kp", "_law_kq"] (sp__law_product K Cof) := by
  have nd := sc__law_product.nd
  refine T.F__law_product.ok sc__law_product (fun vs H Q E h => len__law_product h) (fun cdv A outer s H vs Q E hr h => ⟨t__law_product K Cof E, ?_, rd__law_product h⟩)
  exact pss_cons (ps_set (i := 2) nd rfl (by first | exact Or.inl rfl | exact Or.inr rfl) (pe_op op_rep (pe_lst (pa_cons (pe_int) (pa_nil))) (pe_op op_sub (pe_op op_add (pe_callB call_len_seq (by rfl) T.z_len (by decide +kernel) (pa_cons (pv 0) (pa_nil))) (pe_callB call_len_seq (by rfl) T.z_len (by decide +kernel) (pa_cons (pv 1) (pa_nil)))) (pe_int))))
       (pss_cons (ps_for PassesOwn.never rfl (pi_range1 (by rfl) T.z_range (pa_cons (pe_callB call_len_seq (by rfl) T.z_len (by decide +kernel) (pa_cons (pv 0) (pa_nil))) (pa_nil))) (pg_name (i := 3) nd rfl (by first | exact Or.inl rfl | exact Or.inr rfl)) (pss_one (ps_for PassesOwn.never rfl (pi_range1 (by rfl) T.z_range (pa_cons (pe_callB call_len_seq (by rfl) T.z_len (by decide +kernel) (pa_cons (pv 1) (pa_nil))) (pa_nil))) (pg_name (i := 4) nd rfl (by first | exact Or.inl rfl | exact Or.inr rfl)) (pss_one (ps_asg (pe_op op_add (pe_ix ix_list (pv 2) (pe_op op_add (pv 3) (pv 4)) (fun _ _ => rfl)) (pe_op op_mulX (pe_ix ix_list (pv 0) (pv 3) (fun _ _ => rfl)) (pe_ix ix_list (pv 1) (pv 4) (fun _ _ => rfl)))) (pg_sub (pv 2) (pe_op op_add (pv 3) (pv 4)) set_list))))))
       (pss_one (ps_ret (pv 2))))
theorem ok__law_shared (T : Txt K mg Cof ad fd) : FnOk P w K mg base CX0 1 (ad 25) (fd 25) ["_law_a", "_law_b"] (sp__law_shared K Cof) := by
  have nd := sc__law_shared.nd
  refine T.F__law_shared.ok sc__law_shared (fun vs H Q E h => len__law_shared h) (fun cdv A outer s H vs Q E hr h => ⟨t__law_shared K Cof E, ?_, rd__law_shared h⟩)
  exact pss_cons (ps_while PassesOwn.never (pt_cmpR op_ne (pv 1) (pe_int) (nomark _)) (pss_cons (ps_set (i := 2) nd rfl (by first | exact Or.inl rfl | exact Or.inr rfl) (pe_op op_modN (pv 0) (pv 1)))
       (pss_cons (ps_set (i := 0) nd rfl (by first | exact Or.inl rfl | exact Or.inr rfl) (pv 1))
       (pss_one (ps_set (i := 1) nd rfl (by first | exact Or.inl rfl | exact Or.inr rfl) (pv 2))))))
       (pss_one (ps_ret (pe_callB call_abs (by rfl) T.z_abs (by decide +kernel) (pa_cons (pv 0) (pa_nil)))))
theorem ok__law_factor (T : Txt K mg Cof ad fd) : FnOk P w K mg base CX0 2 (ad 26) (fd 26) ["_law_top", "_law_bottom"] (sp__law_factor K Cof) := by
  have G__law_shared := ok__law_shared (P := P) (w := w) (base := base) T
  have B__law_shared := B__law_shared T
  have nd := sc__law_factor.nd
  refine T.F__law_factor.ok sc__law_factor (fun vs H Q E h => len__law_factor h) (fun cdv A outer s H vs Q E hr h => ⟨t__law_factor K Cof E, ?_, rd__law_factor h⟩)
  exact pss_cons (ps_set (i := 2) nd rfl (by first | exact Or.inl rfl | exact Or.inr rfl) (pe_call G__law_shared (hr.mono (by decide)) (by rfl) T.g__law_shared T.F__law_shared.kp B__law_shared .nil pass0 (pa_cons (pv 0) (pa_cons (pv 1) (pa_nil)))))
       (pss_one (ps_ret (pe_lst (pa_cons (pe_un un_neg (pe_op op_fdivA (pv 0) (pv 2))) (pa_cons (pe_op op_fdivA (pv 1) (pv 2)) (pa_nil))))))
theorem ok__law_with_roots (T : Txt K mg Cof ad fd) : FnOk P w K mg base CX0 2 (ad 27) (fd 27) ["_law_pairs", "_law_scale"] (sp__law_with_roots K Cof) := by
  have G__law_product := ok__law_product (P := P) (w := w) (base := base) T
  have B__law_product := B__law_product T
  have nd := sc__law_with_roots.nd
  refine T.F__law_with_roots.ok sc__law_with_roots (fun vs H Q E h => len__law_with_roots h) (fun cdv A outer s H vs Q E hr h => ⟨t__law_with_roots K Cof E, ?_, rd__law_with_roots h⟩)
  exact pss_cons (ps_set (i := 2) nd rfl (by first | exact Or.inl rfl | exact Or.inr rfl) (pe_lst (pa_cons (pv 1) (pa_nil))))
       (pss_cons (ps_for PassesOwn.never rfl (pi_list (pv 0)) (pg_name (i := 3) nd rfl (by first | exact Or.inl rfl | exact Or.inr rfl)) (pss_one (ps_set (i := 2) nd rfl (by first | exact Or.inl rfl | exact Or.inr rfl) (pe_call G__law_product (hr.mono (by decide)) (by rfl) T.g__law_product T.F__law_product.kp B__law_product .nil pass0 (pa_cons (pv 2) (pa_cons (pe_lst (pa_cons (pe_un un_neg (pe_ix ix_tup (pv 3) (pe_int) (fun _ _ => rfl))) (pa_cons (pe_ix ix_tup (pv 3) (pe_int) (fun _ _ => rfl)) (pa_nil)))) (pa_nil)))))))
       (pss_one (ps_ret (pv 2))))
theorem ok__law_roots (T : Txt K mg Cof ad fd) : FnOk P w K mg base CX0 2 (ad 28) (fd 28) ["_law_script", "_law_at", "_law_many"] (sp__law_roots K Cof) := by
  have G__law_cell_at := ok__law_cell_at (P := P) (w := w) (base := base) T
  have B__law_cell_at := B__law_cell_at T
  have G__law_number := ok__law_number (P := P) (w := w) (base := base) T
  have B__law_number := B__law_number T
  have nd := sc__law_roots.nd
  refine T.F__law_roots.ok sc__law_roots (fun vs H Q E h => len__law_roots h) (fun cdv A outer s H vs Q E hr h => ⟨t__law_roots K Cof E, ?_, rd__law_roots h⟩)
  exact pss_cons (ps_set (i := 3) nd rfl (by first | exact Or.inl rfl | exact Or.inr rfl) (pe_lst (pa_nil)))
       (pss_cons (ps_for PassesOwn.never rfl (pi_range1 (by rfl) T.z_range (pa_cons (pv 2) (pa_nil))) (pg_name (i := 4) nd rfl (by first | exact Or.inl rfl | exact Or.inr rfl)) (pss_cons (ps_set (i := 5) nd rfl (by first | exact Or.inl rfl | exact Or.inr rfl) (pe_call G__law_number (hr.mono (by decide)) (by rfl) T.g__law_number T.F__law_number.kp B__law_number .nil pass0 (pa_cons (pe_call G__law_cell_at (hr.mono (by decide)) (by rfl) T.g__law_cell_at T.F__law_cell_at.kp B__law_cell_at .nil pass0 (pa_cons (pv 0) (pa_cons (pe_op op_add (pv 1) (pe_op op_mulX (pe_int) (pv 4))) (pa_nil)))) (pa_cons (pv 4) (pa_nil)))))
       (pss_cons (ps_set (i := 6) nd rfl (by first | exact Or.inl rfl | exact Or.inr rfl) (pe_op op_add (pe_int) (pe_op op_modN (pe_callB call_abs (by rfl) T.z_abs (by decide +kernel) (pa_cons (pe_call G__law_number (hr.mono (by decide)) (by rfl) T.g__law_number T.F__law_number.kp B__law_number .nil pass0 (pa_cons (pe_call G__law_cell_at (hr.mono (by decide)) (by rfl) T.g__law_cell_at T.F__law_cell_at.kp B__law_cell_at .nil pass0 (pa_cons (pv 0) (pa_cons (pe_op op_add (pe_op op_add (pv 1) (pe_op op_mulX (pe_int) (pv 4))) (pe_int)) (pa_nil)))) (pa_cons (pe_int) (pa_nil)))) (pa_nil))) (pe_op op_pow (pe_int) (pe_int)))))
       (pss_one (ps_if (PW.pt (pw_and (pt_cmpR op_gt (pv 4) (pe_int) (nomark _)) (pw_and1 (pt_cmpR op_eq (pe_op op_modN (pe_call G__law_cell_at (hr.mono (by decide)) (by rfl) T.g__law_cell_at T.F__law_cell_at.kp B__law_cell_at .nil pass0 (pa_cons (pv 0) (pa_cons (pe_op op_add (pe_op op_add (pv 1) (pe_op op_mulX (pe_int) (pv 4))) (pe_int)) (pa_nil)))) (pe_int)) (pe_int) (nomark _))))) (pss_one (ps_expr (pe_bm PySem.F.plainAttrs_list PySem.F.slot_list_append PySem.F.type_list_append mt_append (pv 3) (pa_cons (pe_ix ix_list (pv 3) (pe_int) (fun _ _ => rfl)) (pa_nil))))) (pss_one (ps_expr (pe_bm PySem.F.plainAttrs_list PySem.F.slot_list_append PySem.F.type_list_append mt_append (pv 3) (pa_cons (pe_tup (pa_cons (pv 5) (pa_cons (pv 6) (pa_nil)))) (pa_nil))))))))))
       (pss_one (ps_ret (pv 3))))
theorem ok__law_power (T : Txt K mg Cof ad fd) : FnOk P w K mg base CX0 1 (ad 29) (fd 29) ["_law_base", "_law_k"] (sp__law_power K Cof) := by
  have nd := sc__law_power.nd
  refine T.F__law_power.ok sc__law_power (fun vs H Q E h => len__law_power h) (fun cdv A outer s H vs Q E hr h => ⟨t__law_power K Cof E, ?_, rd__law_power h⟩)
  exact pss_cons (ps_set (i := 2) nd rfl (by first | exact Or.inl rfl | exact Or.inr rfl) (pe_int))
       (pss_cons (ps_for PassesOwn.never rfl (pi_range1 (by rfl) T.z_range (pa_cons (pv 1) (pa_nil))) (pg_name (i := 3) nd rfl (by first | exact Or.inl rfl | exact Or.inr rfl)) (pss_one (ps_set (i := 2) nd rfl (by first | exact Or.inl rfl | exact Or.inr rfl) (pe_op op_mulX (pv 2) (pv 0)))))
       (pss_one (ps_ret (pv 2))))
theorem ok_law (T : Txt K mg Cof ad fd) : FnOk P w K mg base CX0 6 (ad 30) (fd 30) ["_law_script"] (sp_law K Cof) := by
  have G__law_cell_at := ok__law_cell_at (P := P) (w := w) (base := base) T
  have B__law_cell_at := B__law_cell_at T
  have G__law_factor := ok__law_factor (P := P) (w := w) (base := base) T
  have B__law_factor := B__law_factor T
  have G__law_is := ok__law_is (P := P) (w := w) (base := base) T
  have B__law_is := B__law_is T
  have G__law_power := ok__law_power (P := P) (w := w) (base := base) T
  have B__law_power := B__law_power T
  have G__law_product := ok__law_product (P := P) (w := w) (base := base) T
  have B__law_product := B__law_product T
  have G__law_roots := ok__law_roots (P := P) (w := w) (base := base) T
  have B__law_roots := B__law_roots T
  have G__law_with_roots := ok__law_with_roots (P := P) (w := w) (base := base) T
  have B__law_with_roots := B__law_with_roots T
  have G_powers := ok_powers (P := P) (w := w) (base := base) T
  have B_powers := B_powers T
  have G_products := ok_products (P := P) (w := w) (base := base) T
  have B_products := B_products T
  have G_sums := ok_sums (P := P) (w := w) (base := base) T
  have B_sums := B_sums T
  have nd := sc_law.nd
  refine T.F_law.ok sc_law (fun vs H Q E h => len_law h) (fun cdv A outer s H vs Q E hr h => ⟨t_law K Cof E, ?_, rd_law h⟩)
  exact pss_cons (ps_set (i := 1) nd rfl (by first | exact Or.inl rfl | exact Or.inr rfl) (pe_call G__law_cell_at (hr.mono (by decide)) (by rfl) T.g__law_cell_at T.F__law_cell_at.kp B__law_cell_at .nil pass0 (pa_cons (pv 0) (pa_cons (pe_int) (pa_nil)))))
       (pss_cons (ps_set (i := 2) nd rfl (by first | exact Or.inl rfl | exact Or.inr rfl) (pe_op op_add (pe_int) (pe_op op_modN (pv 1) (pe_int))))
       (pss_cons (ps_set (i := 3) nd rfl (by first | exact Or.inl rfl | exact Or.inr rfl) (pe_op op_add (pe_int) (pe_op op_modN (pe_op op_fdivA (pv 1) (pe_int)) (pe_int))))
       (pss_cut (ps_if (pt_cmpR op_eq (pe_op op_modN (pe_op op_fdivA (pv 1) (pe_int)) (pe_int)) (pe_int) (nomark _)) (pss_cons (ps_set (i := 4) nd rfl (by first | exact Or.inl rfl | exact Or.inr rfl) (pe_lst (pa_cons (pe_tup (pa_cons (pe_int) (pa_cons (pe_op op_add (pe_int) (pe_op op_modN (pe_op op_fdivA (pv 1) (pe_int)) (pe_int))) (pa_nil)))) (pa_cons (pe_tup (pa_cons (pe_int) (pa_cons (pe_int) (pa_nil)))) (pa_cons (pe_tup (pa_cons (pe_int) (pa_cons (pe_int) (pa_nil)))) (pa_cons (pe_tup (pa_cons (pe_int) (pa_cons (pe_int) (pa_nil)))) (pa_cons (pe_tup (pa_cons (pe_int) (pa_cons (pe_int) (pa_nil)))) (pa_nil))))))))
       (pss_cons (ps_set (i := 4) nd rfl (by first | exact Or.inl rfl | exact Or.inr rfl) (pe_op op_cat (pv 4) (pe_lst (pa_cons (pe_tup (pa_cons (pe_int) (pa_cons (pe_int) (pa_nil)))) (pa_cons (pe_tup (pa_cons (pe_int) (pa_cons (pe_int) (pa_nil)))) (pa_cons (pe_tup (pa_cons (pe_int) (pa_cons (pe_int) (pa_nil)))) (pa_cons (pe_tup (pa_cons (pe_int) (pa_cons (pe_int) (pa_nil)))) (pa_cons (pe_tup (pa_cons (pe_int) (pa_cons (pe_int) (pa_nil)))) (pa_nil)))))))))
       (pss_one (ps_asg (pe_ix ix_list (pv 4) (pe_op op_modN (pe_op op_fdivA (pv 1) (pe_int)) (pe_int)) (fun _ _ => rfl)) (pg_tup rfl (pgs_cons (pg_name (i := 2) nd rfl (by first | exact Or.inl rfl | exact Or.inr rfl)) (pgs_cons (pg_name (i := 3) nd rfl (by first | exact Or.inl rfl | exact Or.inr rfl)) (pgs_nil)))))))) (pss_nil))
       (pss_cons (ps_set (i := 5) nd rfl (by first | exact Or.inl rfl | exact Or.inr rfl) (pe_op op_add (pe_int) (pe_op op_modN (pe_call G__law_cell_at (hr.mono (by decide)) (by rfl) T.g__law_cell_at T.F__law_cell_at.kp B__law_cell_at .nil pass0 (pa_cons (pv 0) (pa_cons (pe_int) (pa_nil)))) (pe_int))))
       (pss_cons (ps_set (i := 6) nd rfl (by first | exact Or.inl rfl | exact Or.inr rfl) (pe_call G__law_roots (hr.mono (by decide)) (by rfl) T.g__law_roots T.F__law_roots.kp B__law_roots .nil pass0 (pa_cons (pv 0) (pa_cons (pe_int) (pa_cons (pv 2) (pa_nil))))))
       (pss_cons (ps_set (i := 7) nd rfl (by first | exact Or.inl rfl | exact Or.inr rfl) (pe_call G__law_roots (hr.mono (by decide)) (by rfl) T.g__law_roots T.F__law_roots.kp B__law_roots .nil pass0 (pa_cons (pv 0) (pa_cons (pe_op op_add (pe_int) (pe_op op_mulX (pe_int) (pv 2))) (pa_cons (pv 3) (pa_nil))))))
       (pss_cons (ps_set (i := 8) nd rfl (by first | exact Or.inl rfl | exact Or.inr rfl) (pe_call G__law_with_roots (hr.mono (by decide)) (by rfl) T.g__law_with_roots T.F__law_with_roots.kp B__law_with_roots .nil pass0 (pa_cons (pv 6) (pa_cons (pe_op op_add (pe_int) (pe_op op_modN (pe_call G__law_cell_at (hr.mono (by decide)) (by rfl) T.g__law_cell_at T.F__law_cell_at.kp B__law_cell_at .nil pass0 (pa_cons (pv 0) (pa_cons (pe_int) (pa_nil)))) (pe_int))) (pa_nil)))))
       (pss_cons (ps_set (i := 9) nd rfl (by first | exact Or.inl rfl | exact Or.inr rfl) (pe_call G__law_with_roots (hr.mono (by decide)) (by rfl) T.g__law_with_roots T.F__law_with_roots.kp B__law_with_roots .nil pass0 (pa_cons (pv 7) (pa_cons (pe_op op_sub (pe_un un_neg (pe_int)) (pe_op op_modN (pe_op op_fdivA (pe_call G__law_cell_at (hr.mono (by decide)) (by rfl) T.g__law_cell_at T.F__law_cell_at.kp B__law_cell_at .nil pass0 (pa_cons (pv 0) (pa_cons (pe_int) (pa_nil)))) (pe_int)) (pe_int))) (pa_nil)))))
       (pss_cons (ps_set (i := 10) nd rfl (by first | exact Or.inl rfl | exact Or.inr rfl) (pe_lst (pa_cons (pe_int) (pa_nil))))
       (pss_cons (ps_set (i := 11) nd rfl (by first | exact Or.inl rfl | exact Or.inr rfl) (pe_lst (pa_cons (pe_int) (pa_nil))))
       (pss_cons (ps_for PassesOwn.never rfl (pi_list (pv 6)) (pg_name (i := 12) nd rfl (by first | exact Or.inl rfl | exact Or.inr rfl)) (pss_one (ps_for PassesOwn.never rfl (pi_list (pv 7)) (pg_name (i := 13) nd rfl (by first | exact Or.inl rfl | exact Or.inr rfl)) (pss_cons (ps_set (i := 14) nd rfl (by first | exact Or.inl rfl | exact Or.inr rfl) (pe_op op_add (pe_op op_mulX (pe_ix ix_tup (pv 12) (pe_int) (fun _ _ => rfl)) (pe_ix ix_tup (pv 13) (pe_int) (fun _ _ => rfl))) (pe_op op_mulX (pe_ix ix_tup (pv 13) (pe_int) (fun _ _ => rfl)) (pe_ix ix_tup (pv 12) (pe_int) (fun _ _ => rfl)))))
       (pss_cons (ps_set (i := 10) nd rfl (by first | exact Or.inl rfl | exact Or.inr rfl) (pe_call G__law_product (hr.mono (by decide)) (by rfl) T.g__law_product T.F__law_product.kp B__law_product .nil pass0 (pa_cons (pv 10) (pa_cons (pe_call G__law_factor (hr.mono (by decide)) (by rfl) T.g__law_factor T.F__law_factor.kp B__law_factor .nil pass0 (pa_cons (pv 14) (pa_cons (pe_op op_mulX (pe_ix ix_tup (pv 12) (pe_int) (fun _ _ => rfl)) (pe_ix ix_tup (pv 13) (pe_int) (fun _ _ => rfl))) (pa_nil)))) (pa_nil)))))
       (pss_one (ps_set (i := 11) nd rfl (by first | exact Or.inl rfl | exact Or.inr rfl) (pe_call G__law_product (hr.mono (by decide)) (by rfl) T.g__law_product T.F__law_product.kp B__law_product .nil pass0 (pa_cons (pv 11) (pa_cons (pe_call G__law_factor (hr.mono (by decide)) (by rfl) T.g__law_factor T.F__law_factor.kp B__law_factor .nil pass0 (pa_cons (pe_op op_mulX (pe_ix ix_tup (pv 12) (pe_int) (fun _ _ => rfl)) (pe_ix ix_tup (pv 13) (pe_int) (fun _ _ => rfl))) (pa_cons (pe_op op_mulX (pe_ix ix_tup (pv 12) (pe_int) (fun _ _ => rfl)) (pe_ix ix_tup (pv 13) (pe_int) (fun _ _ => rfl))) (pa_nil)))) (pa_nil)))))))))))
       (pss_cons (ps_set (i := 15) nd rfl (by first | exact Or.inl rfl | exact Or.inr rfl) (pe_lst (pa_cons (pe_int) (pa_nil))))
       (pss_cons (ps_for PassesOwn.never rfl (pi_list (pv 6)) (pg_name (i := 12) nd rfl (by first | exact Or.inl rfl | exact Or.inr rfl)) (pss_one (ps_set (i := 15) nd rfl (by first | exact Or.inl rfl | exact Or.inr rfl) (pe_call G__law_product (hr.mono (by decide)) (by rfl) T.g__law_product T.F__law_product.kp B__law_product .nil pass0 (pa_cons (pv 15) (pa_cons (pe_call G__law_factor (hr.mono (by decide)) (by rfl) T.g__law_factor T.F__law_factor.kp B__law_factor .nil pass0 (pa_cons (pe_call G__law_power (hr.mono (by decide)) (by rfl) T.g__law_power T.F__law_power.kp B__law_power .nil pass0 (pa_cons (pe_ix ix_tup (pv 12) (pe_int) (fun _ _ => rfl)) (pa_cons (pv 5) (pa_nil)))) (pa_cons (pe_call G__law_power (hr.mono (by decide)) (by rfl) T.g__law_power T.F__law_power.kp B__law_power .nil pass0 (pa_cons (pe_ix ix_tup (pv 12) (pe_int) (fun _ _ => rfl)) (pa_cons (pv 5) (pa_nil)))) (pa_nil)))) (pa_nil)))))))
       (pss_cons (ps_set (i := 16) nd rfl (by first | exact Or.inl rfl | exact Or.inr rfl) (pe_tup (pa_cons (pe_callTy call_list_of (by rfl) T.z_list (by decide +kernel) (pa_cons (pv 8) (pa_nil))) (pa_cons (pe_callTy call_list_of (by rfl) T.z_list (by decide +kernel) (pa_cons (pv 9) (pa_nil))) (pa_nil)))))
       (pss_cons (ps_for PassesOwn.never rfl (pi_range1 (by rfl) T.z_range (pa_cons (pe_int) (pa_nil))) (pg_name (i := 17) nd rfl (by first | exact Or.inl rfl | exact Or.inr rfl)) (pss_cons (ps_set (i := 18) nd rfl (by first | exact Or.inl rfl | exact Or.inr rfl) (pe_lst (pa_cons (pe_call G_sums (hr.mono (by decide)) (by rfl) T.g_sums T.F_sums.kp B_sums .nil pass0 (pa_cons (pv 8) (pa_cons (pv 9) (pa_nil)))) (pa_cons (pe_call G_products (hr.mono (by decide)) (by rfl) T.g_products T.F_products.kp B_products .nil pass0 (pa_cons (pv 8) (pa_cons (pv 9) (pa_nil)))) (pa_nil)))))
       (pss_cons (ps_if (PW.pt (pw_or (pt_not (pt_val (pe_call G__law_is (hr.mono (by decide)) (by rfl) T.g__law_is T.F__law_is.kp B__law_is .nil pass0 (pa_cons (pe_ix ix_list (pv 18) (pe_int) (fun _ _ => rfl)) (pa_cons (pv 10) (pa_nil)))))) (pw_or1 (pt_not (pt_val (pe_call G__law_is (hr.mono (by decide)) (by rfl) T.g__law_is T.F__law_is.kp B__law_is .nil pass0 (pa_cons (pe_ix ix_list (pv 18) (pe_int) (fun _ _ => rfl)) (pa_cons (pv 11) (pa_nil))))))))) (pss_one (ps_ret (pe_bl))) (pss_nil))
       (pss_cut (ps_if (pt_cmpR op_lt (pv 2) (pe_int) (nomark _)) (pss_cons (ps_expr (pe_bm PySem.F.plainAttrs_list PySem.F.slot_list_append PySem.F.type_list_append mt_append (pv 18) (pa_cons (pe_call G_powers (hr.mono (by decide)) (by rfl) T.g_powers T.F_powers.kp B_powers .nil pass0 (pa_cons (pv 8) (pa_cons (pv 5) (pa_nil)))) (pa_nil))))
       (pss_one (ps_if (pt_not (pt_val (pe_call G__law_is (hr.mono (by decide)) (by rfl) T.g__law_is T.F__law_is.kp B__law_is .nil pass0 (pa_cons (pe_ix ix_list (pv 18) (pe_int) (fun _ _ => rfl)) (pa_cons (pv 15) (pa_nil)))))) (pss_one (ps_ret (pe_bl))) (pss_nil)))) (pss_nil))
       (pss_one (ps_for PassesOwn.never rfl (pi_list (pv 18)) (pg_name (i := 12) nd rfl (by first | exact Or.inl rfl | exact Or.inr rfl)) (pss_one (ps_expr (pe_bm PySem.F.plainAttrs_list PySem.F.slot_list_append PySem.F.type_list_append mt_append (pv 12) (pa_cons (pe_int) (pa_nil)))))))))))
       (pss_one (ps_ret (pe_cmpR (op_eqD hr.units) (pv 16) (pe_tup (pa_cons (pv 8) (pa_cons (pv 9) (pa_nil)))) (nomark _)))))))))))))))))))
end
theorem all_mk {l : PySem.W.OpenLaw} {w : World} {K : PySem.W.Frag} {h : Heap} {mg : Str → Option Value} {fa : Addr} (X : K.In h) (G : h.Ns mainGlobals mg) (hfa : mg "law" = some (.ref fa))
    {f0 : Addr} {od0 an0 : Option Addr} {sl0 : Array (Option Value)} {oc0 kV0 dc0 pm0 cd0 ct0 : Value}
    {f1 : Addr} {od1 an1 : Option Addr} {sl1 : Array (Option Value)} {oc1 kV1 dc1 pm1 cd1 ct1 : Value}
    {f2 : Addr} {od2 an2 : Option Addr} {sl2 : Array (Option Value)} {oc2 kV2 dc2 pm2 cd2 ct2 : Value}
    {f3 : Addr} {od3 an3 : Option Addr} {sl3 : Array (Option Value)} {oc3 kV3 dc3 pm3 cd3 ct3 : Value}
    {f4 : Addr} {od4 an4 : Option Addr} {sl4 : Array (Option Value)} {oc4 kV4 dc4 pm4 cd4 ct4 : Value}
    {f5 : Addr} {od5 an5 : Option Addr} {sl5 : Array (Option Value)} {oc5 kV5 dc5 pm5 cd5 ct5 : Value}
    {f6 : Addr} {od6 an6 : Option Addr} {sl6 : Array (Option Value)} {oc6 kV6 dc6 pm6 cd6 ct6 : Value}
    {f7 : Addr} {od7 an7 : Option Addr} {sl7 : Array (Option Value)} {oc7 kV7 dc7 pm7 cd7 ct7 : Value}
    {f8 : Addr} {od8 an8 : Option Addr} {sl8 : Array (Option Value)} {oc8 kV8 dc8 pm8 cd8 ct8 : Value}
    {f9 : Addr} {od9 an9 : Option Addr} {sl9 : Array (Option Value)} {oc9 kV9 dc9 pm9 cd9 ct9 : Value}
    {f10 : Addr} {od10 an10 : Option Addr} {sl10 : Array (Option Value)} {oc10 kV10 dc10 pm10 cd10 ct10 : Value}
    {f11 : Addr} {od11 an11 : Option Addr} {sl11 : Array (Option Value)} {oc11 kV11 dc11 pm11 cd11 ct11 : Value}
    {f12 : Addr} {od12 an12 : Option Addr} {sl12 : Array (Option Value)} {oc12 kV12 dc12 pm12 cd12 ct12 : Value}
    {f13 : Addr} {od13 an13 : Option Addr} {sl13 : Array (Option Value)} {oc13 kV13 dc13 pm13 cd13 ct13 : Value}
    {f14 : Addr} {od14 an14 : Option Addr} {sl14 : Array (Option Value)} {oc14 kV14 dc14 pm14 cd14 ct14 : Value}
    {f15 : Addr} {od15 an15 : Option Addr} {sl15 : Array (Option Value)} {oc15 kV15 dc15 pm15 cd15 ct15 : Value}
    {f16 : Addr} {od16 an16 : Option Addr} {sl16 : Array (Option Value)} {oc16 kV16 dc16 pm16 cd16 ct16 : Value}
    {f17 : Addr} {od17 an17 : Option Addr} {sl17 : Array (Option Value)} {oc17 kV17 dc17 pm17 cd17 ct17 : Value}
    {f18 : Addr} {od18 an18 : Option Addr} {sl18 : Array (Option Value)} {oc18 kV18 dc18 pm18 cd18 ct18 : Value}
    {f19 : Addr} {od19 an19 : Option Addr} {sl19 : Array (Option Value)} {oc19 kV19 dc19 pm19 cd19 ct19 : Value}
    {f20 : Addr} {od20 an20 : Option Addr} {sl20 : Array (Option Value)} {oc20 kV20 dc20 pm20 cd20 ct20 : Value}
    {f21 : Addr} {od21 an21 : Option Addr} {sl21 : Array (Option Value)} {oc21 kV21 dc21 pm21 cd21 ct21 : Value}
    {f22 : Addr} {od22 an22 : Option Addr} {sl22 : Array (Option Value)} {oc22 kV22 dc22 pm22 cd22 ct22 : Value}
    {f23 : Addr} {od23 an23 : Option Addr} {sl23 : Array (Option Value)} {oc23 kV23 dc23 pm23 cd23 ct23 : Value}
    {f24 : Addr} {od24 an24 : Option Addr} {sl24 : Array (Option Value)} {oc24 kV24 dc24 pm24 cd24 ct24 : Value}
    {f25 : Addr} {od25 an25 : Option Addr} {sl25 : Array (Option Value)} {oc25 kV25 dc25 pm25 cd25 ct25 : Value}
    {f26 : Addr} {od26 an26 : Option Addr} {sl26 : Array (Option Value)} {oc26 kV26 dc26 pm26 cd26 ct26 : Value}
    {f27 : Addr} {od27 an27 : Option Addr} {sl27 : Array (Option Value)} {oc27 kV27 dc27 pm27 cd27 ct27 : Value}
    {f28 : Addr} {od28 an28 : Option Addr} {sl28 : Array (Option Value)} {oc28 kV28 dc28 pm28 cd28 ct28 : Value}
    {f29 : Addr} {od29 an29 : Option Addr} {sl29 : Array (Option Value)} {oc29 kV29 dc29 pm29 cd29 ct29 : Value}
    {f30 : Addr} {od30 an30 : Option Addr} {sl30 : Array (Option Value)} {oc30 kV30 dc30 pm30 cd30 ct30 : Value}
    (a0 : PySem.W.nsIn K mainGlobals "shared" = some (some (.ref f0))) (l0 : K.lookup f0 = some ⟨oc0, od0, .func (PySem.W.fnOf "shared" "shared" (defArgs s_shared) (defBody s_shared) (defScope s_shared) .none kV0 dc0 pm0 an0 cd0 ct0), sl0⟩) (c0 : PySem.W.codeIn K cd0 "shared" = true) (k0 : PySem.W.keepIn K (.ref f0) = true)
    (a1 : PySem.W.nsIn K mainGlobals "poly" = some (some (.ref f1))) (l1 : K.lookup f1 = some ⟨oc1, od1, .func (PySem.W.fnOf "poly" "poly" (defArgs s_poly) (defBody s_poly) (defScope s_poly) .none kV1 dc1 pm1 an1 cd1 ct1), sl1⟩) (c1 : PySem.W.codeIn K cd1 "poly" = true) (k1 : PySem.W.keepIn K (.ref f1) = true)
    (a2 : PySem.W.nsIn K mainGlobals "degree" = some (some (.ref f2))) (l2 : K.lookup f2 = some ⟨oc2, od2, .func (PySem.W.fnOf "degree" "degree" (defArgs s_degree) (defBody s_degree) (defScope s_degree) .none kV2 dc2 pm2 an2 cd2 ct2), sl2⟩) (c2 : PySem.W.codeIn K cd2 "degree" = true) (k2 : PySem.W.keepIn K (.ref f2) = true)
    (a3 : PySem.W.nsIn K mainGlobals "coefficient_at" = some (some (.ref f3))) (l3 : K.lookup f3 = some ⟨oc3, od3, .func (PySem.W.fnOf "coefficient_at" "coefficient_at" (defArgs s_coefficient_at) (defBody s_coefficient_at) (defScope s_coefficient_at) .none kV3 dc3 pm3 an3 cd3 ct3), sl3⟩) (c3 : PySem.W.codeIn K cd3 "coefficient_at" = true) (k3 : PySem.W.keepIn K (.ref f3) = true)
    (a4 : PySem.W.nsIn K mainGlobals "added" = some (some (.ref f4))) (l4 : K.lookup f4 = some ⟨oc4, od4, .func (PySem.W.fnOf "added" "added" (defArgs s_added) (defBody s_added) (defScope s_added) .none kV4 dc4 pm4 an4 cd4 ct4), sl4⟩) (c4 : PySem.W.codeIn K cd4 "added" = true) (k4 : PySem.W.keepIn K (.ref f4) = true)
    (a5 : PySem.W.nsIn K mainGlobals "multiplied" = some (some (.ref f5))) (l5 : K.lookup f5 = some ⟨oc5, od5, .func (PySem.W.fnOf "multiplied" "multiplied" (defArgs s_multiplied) (defBody s_multiplied) (defScope s_multiplied) .none kV5 dc5 pm5 an5 cd5 ct5), sl5⟩) (c5 : PySem.W.codeIn K cd5 "multiplied" = true) (k5 : PySem.W.keepIn K (.ref f5) = true)
    (a6 : PySem.W.nsIn K mainGlobals "turned" = some (some (.ref f6))) (l6 : K.lookup f6 = some ⟨oc6, od6, .func (PySem.W.fnOf "turned" "turned" (defArgs s_turned) (defBody s_turned) (defScope s_turned) .none kV6 dc6 pm6 an6 cd6 ct6), sl6⟩) (c6 : PySem.W.codeIn K cd6 "turned" = true) (k6 : PySem.W.keepIn K (.ref f6) = true)
    (a7 : PySem.W.nsIn K mainGlobals "shrunk" = some (some (.ref f7))) (l7 : K.lookup f7 = some ⟨oc7, od7, .func (PySem.W.fnOf "shrunk" "shrunk" (defArgs s_shrunk) (defBody s_shrunk) (defScope s_shrunk) .none kV7 dc7 pm7 an7 cd7 ct7), sl7⟩) (c7 : PySem.W.codeIn K cd7 "shrunk" = true) (k7 : PySem.W.keepIn K (.ref f7) = true)
    (a8 : PySem.W.nsIn K mainGlobals "plain" = some (some (.ref f8))) (l8 : K.lookup f8 = some ⟨oc8, od8, .func (PySem.W.fnOf "plain" "plain" (defArgs s_plain) (defBody s_plain) (defScope s_plain) .none kV8 dc8 pm8 an8 cd8 ct8), sl8⟩) (c8 : PySem.W.codeIn K cd8 "plain" = true) (k8 : PySem.W.keepIn K (.ref f8) = true)
    (a9 : PySem.W.nsIn K mainGlobals "pivot_at" = some (some (.ref f9))) (l9 : K.lookup f9 = some ⟨oc9, od9, .func (PySem.W.fnOf "pivot_at" "pivot_at" (defArgs s_pivot_at) (defBody s_pivot_at) (defScope s_pivot_at) .none kV9 dc9 pm9 an9 cd9 ct9), sl9⟩) (c9 : PySem.W.codeIn K cd9 "pivot_at" = true) (k9 : PySem.W.keepIn K (.ref f9) = true)
    (a10 : PySem.W.nsIn K mainGlobals "cleared_rows" = some (some (.ref f10))) (l10 : K.lookup f10 = some ⟨oc10, od10, .func (PySem.W.fnOf "cleared_rows" "cleared_rows" (defArgs s_cleared_rows) (defBody s_cleared_rows) (defScope s_cleared_rows) .none kV10 dc10 pm10 an10 cd10 ct10), sl10⟩) (c10 : PySem.W.codeIn K cd10 "cleared_rows" = true) (k10 : PySem.W.keepIn K (.ref f10) = true)
    (a11 : PySem.W.nsIn K mainGlobals "determinant" = some (some (.ref f11))) (l11 : K.lookup f11 = some ⟨oc11, od11, .func (PySem.W.fnOf "determinant" "determinant" (defArgs s_determinant) (defBody s_determinant) (defScope s_determinant) .none kV11 dc11 pm11 an11 cd11 ct11), sl11⟩) (c11 : PySem.W.codeIn K cd11 "determinant" = true) (k11 : PySem.W.keepIn K (.ref f11) = true)
    (a12 : PySem.W.nsIn K mainGlobals "sylvester_rows" = some (some (.ref f12))) (l12 : K.lookup f12 = some ⟨oc12, od12, .func (PySem.W.fnOf "sylvester_rows" "sylvester_rows" (defArgs s_sylvester_rows) (defBody s_sylvester_rows) (defScope s_sylvester_rows) .none kV12 dc12 pm12 an12 cd12 ct12), sl12⟩) (c12 : PySem.W.codeIn K cd12 "sylvester_rows" = true) (k12 : PySem.W.keepIn K (.ref f12) = true)
    (a13 : PySem.W.nsIn K mainGlobals "resultant" = some (some (.ref f13))) (l13 : K.lookup f13 = some ⟨oc13, od13, .func (PySem.W.fnOf "resultant" "resultant" (defArgs s_resultant) (defBody s_resultant) (defScope s_resultant) .none kV13 dc13 pm13 an13 cd13 ct13), sl13⟩) (c13 : PySem.W.codeIn K cd13 "resultant" = true) (k13 : PySem.W.keepIn K (.ref f13) = true)
    (a14 : PySem.W.nsIn K mainGlobals "moved_by" = some (some (.ref f14))) (l14 : K.lookup f14 = some ⟨oc14, od14, .func (PySem.W.fnOf "moved_by" "moved_by" (defArgs s_moved_by) (defBody s_moved_by) (defScope s_moved_by) .none kV14 dc14 pm14 an14 cd14 ct14), sl14⟩) (c14 : PySem.W.codeIn K cd14 "moved_by" = true) (k14 : PySem.W.keepIn K (.ref f14) = true)
    (a15 : PySem.W.nsIn K mainGlobals "steps_between" = some (some (.ref f15))) (l15 : K.lookup f15 = some ⟨oc15, od15, .func (PySem.W.fnOf "steps_between" "steps_between" (defArgs s_steps_between) (defBody s_steps_between) (defScope s_steps_between) .none kV15 dc15 pm15 an15 cd15 ct15), sl15⟩) (c15 : PySem.W.codeIn K cd15 "steps_between" = true) (k15 : PySem.W.keepIn K (.ref f15) = true)
    (a16 : PySem.W.nsIn K mainGlobals "through_values" = some (some (.ref f16))) (l16 : K.lookup f16 = some ⟨oc16, od16, .func (PySem.W.fnOf "through_values" "through_values" (defArgs s_through_values) (defBody s_through_values) (defScope s_through_values) .none kV16 dc16 pm16 an16 cd16 ct16), sl16⟩) (c16 : PySem.W.codeIn K cd16 "through_values" = true) (k16 : PySem.W.keepIn K (.ref f16) = true)
    (a17 : PySem.W.nsIn K mainGlobals "sums" = some (some (.ref f17))) (l17 : K.lookup f17 = some ⟨oc17, od17, .func (PySem.W.fnOf "sums" "sums" (defArgs s_sums) (defBody s_sums) (defScope s_sums) .none kV17 dc17 pm17 an17 cd17 ct17), sl17⟩) (c17 : PySem.W.codeIn K cd17 "sums" = true) (k17 : PySem.W.keepIn K (.ref f17) = true)
    (a18 : PySem.W.nsIn K mainGlobals "stretched_by" = some (some (.ref f18))) (l18 : K.lookup f18 = some ⟨oc18, od18, .func (PySem.W.fnOf "stretched_by" "stretched_by" (defArgs s_stretched_by) (defBody s_stretched_by) (defScope s_stretched_by) .none kV18 dc18 pm18 an18 cd18 ct18), sl18⟩) (c18 : PySem.W.codeIn K cd18 "stretched_by" = true) (k18 : PySem.W.keepIn K (.ref f18) = true)
    (a19 : PySem.W.nsIn K mainGlobals "products" = some (some (.ref f19))) (l19 : K.lookup f19 = some ⟨oc19, od19, .func (PySem.W.fnOf "products" "products" (defArgs s_products) (defBody s_products) (defScope s_products) .none kV19 dc19 pm19 an19 cd19 ct19), sl19⟩) (c19 : PySem.W.codeIn K cd19 "products" = true) (k19 : PySem.W.keepIn K (.ref f19) = true)
    (a20 : PySem.W.nsIn K mainGlobals "powers" = some (some (.ref f20))) (l20 : K.lookup f20 = some ⟨oc20, od20, .func (PySem.W.fnOf "powers" "powers" (defArgs s_powers) (defBody s_powers) (defScope s_powers) .none kV20 dc20 pm20 an20 cd20 ct20), sl20⟩) (c20 : PySem.W.codeIn K cd20 "powers" = true) (k20 : PySem.W.keepIn K (.ref f20) = true)
    (a21 : PySem.W.nsIn K mainGlobals "_law_cell_at" = some (some (.ref f21))) (l21 : K.lookup f21 = some ⟨oc21, od21, .func (PySem.W.fnOf "_law_cell_at" "_law_cell_at" (defArgs s__law_cell_at) (defBody s__law_cell_at) (defScope s__law_cell_at) .none kV21 dc21 pm21 an21 cd21 ct21), sl21⟩) (c21 : PySem.W.codeIn K cd21 "_law_cell_at" = true) (k21 : PySem.W.keepIn K (.ref f21) = true)
    (a22 : PySem.W.nsIn K mainGlobals "_law_is" = some (some (.ref f22))) (l22 : K.lookup f22 = some ⟨oc22, od22, .func (PySem.W.fnOf "_law_is" "_law_is" (defArgs s__law_is) (defBody s__law_is) (defScope s__law_is) .none kV22 dc22 pm22 an22 cd22 ct22), sl22⟩) (c22 : PySem.W.codeIn K cd22 "_law_is" = true) (k22 : PySem.W.keepIn K (.ref f22) = true)
    (a23 : PySem.W.nsIn K mainGlobals "_law_number" = some (some (.ref f23))) (l23 : K.lookup f23 = some ⟨oc23, od23, .func (PySem.W.fnOf "_law_number" "_law_number" (defArgs s__law_number) (defBody s__law_number) (defScope s__law_number) .none kV23 dc23 pm23 an23 cd23 ct23), sl23⟩) (c23 : PySem.W.codeIn K cd23 "_law_number" = true) (k23 : PySem.W.keepIn K (.ref f23) = true)
    (a24 : PySem.W.nsIn K mainGlobals "_law_product" = some (some (.ref f24))) (l24 : K.lookup f24 = some ⟨oc24, od24, .func (PySem.W.fnOf "_law_product" "_law_product" (defArgs s__law_product) (defBody s__law_product) (defScope s__law_product) .none kV24 dc24 pm24 an24 cd24 ct24), sl24⟩) (c24 : PySem.W.codeIn K cd24 "_law_product" = true) (k24 : PySem.W.keepIn K (.ref f24) = true)
    (a25 : PySem.W.nsIn K mainGlobals "_law_shared" = some (some (.ref f25))) (l25 : K.lookup f25 = some ⟨oc25, od25, .func (PySem.W.fnOf "_law_shared" "_law_shared" (defArgs s__law_shared) (defBody s__law_shared) (defScope s__law_shared) .none kV25 dc25 pm25 an25 cd25 ct25), sl25⟩) (c25 : PySem.W.codeIn K cd25 "_law_shared" = true) (k25 : PySem.W.keepIn K (.ref f25) = true)
    (a26 : PySem.W.nsIn K mainGlobals "_law_factor" = some (some (.ref f26))) (l26 : K.lookup f26 = some ⟨oc26, od26, .func (PySem.W.fnOf "_law_factor" "_law_factor" (defArgs s__law_factor) (defBody s__law_factor) (defScope s__law_factor) .none kV26 dc26 pm26 an26 cd26 ct26), sl26⟩) (c26 : PySem.W.codeIn K cd26 "_law_factor" = true) (k26 : PySem.W.keepIn K (.ref f26) = true)
    (a27 : PySem.W.nsIn K mainGlobals "_law_with_roots" = some (some (.ref f27))) (l27 : K.lookup f27 = some ⟨oc27, od27, .func (PySem.W.fnOf "_law_with_roots" "_law_with_roots" (defArgs s__law_with_roots) (defBody s__law_with_roots) (defScope s__law_with_roots) .none kV27 dc27 pm27 an27 cd27 ct27), sl27⟩) (c27 : PySem.W.codeIn K cd27 "_law_with_roots" = true) (k27 : PySem.W.keepIn K (.ref f27) = true)
    (a28 : PySem.W.nsIn K mainGlobals "_law_roots" = some (some (.ref f28))) (l28 : K.lookup f28 = some ⟨oc28, od28, .func (PySem.W.fnOf "_law_roots" "_law_roots" (defArgs s__law_roots) (defBody s__law_roots) (defScope s__law_roots) .none kV28 dc28 pm28 an28 cd28 ct28), sl28⟩) (c28 : PySem.W.codeIn K cd28 "_law_roots" = true) (k28 : PySem.W.keepIn K (.ref f28) = true)
    (a29 : PySem.W.nsIn K mainGlobals "_law_power" = some (some (.ref f29))) (l29 : K.lookup f29 = some ⟨oc29, od29, .func (PySem.W.fnOf "_law_power" "_law_power" (defArgs s__law_power) (defBody s__law_power) (defScope s__law_power) .none kV29 dc29 pm29 an29 cd29 ct29), sl29⟩) (c29 : PySem.W.codeIn K cd29 "_law_power" = true) (k29 : PySem.W.keepIn K (.ref f29) = true)
    (a30 : PySem.W.nsIn K mainGlobals "law" = some (some (.ref f30))) (l30 : K.lookup f30 = some ⟨oc30, od30, .func (PySem.W.fnOf "law" "law" (defArgs s_law) (defBody s_law) (defScope s_law) .none kV30 dc30 pm30 an30 cd30 ct30), sl30⟩) (c30 : PySem.W.codeIn K cd30 "law" = true) (k30 : PySem.W.keepIn K (.ref f30) = true)
    (z_abs : PySem.W.nsIn K mainGlobals "abs" = some none)
    (z_bool : PySem.W.nsIn K mainGlobals "bool" = some none)
    (z_int : PySem.W.nsIn K mainGlobals "int" = some none)
    (z_isinstance : PySem.W.nsIn K mainGlobals "isinstance" = some none)
    (z_len : PySem.W.nsIn K mainGlobals "len" = some none)
    (z_list : PySem.W.nsIn K mainGlobals "list" = some none)
    (z_max : PySem.W.nsIn K mainGlobals "max" = some none)
    (z_range : PySem.W.nsIn K mainGlobals "range" = some none)
    (z_reversed : PySem.W.nsIn K mainGlobals "reversed" = some none)
    : ∃ fd : FuncData, (∀ (s : Shared) (v : Value), BindsTo s fd ⟨[v], []⟩ [("_law_script", v)]) ∧ ∀ base : Heap, K.In base → base.Ns mainGlobals mg → FnOk l.prog w K mg base CX0 6 fa fd ["_law_script"] (sp_law K (fun _ => 0)) := by
  have e := hfa.symm.trans (PySem.W.mg_of X G a30)
  cases e
  have T : Txt K mg (fun _ => 0) (fun i => [f0, f1, f2, f3, f4, f5, f6, f7, f8, f9, f10, f11, f12, f13, f14, f15, f16, f17, f18, f19, f20, f21, f22, f23, f24, f25, f26, f27, f28, f29, fa].getD i 0) (fun i => [PySem.W.fnOf "shared" "shared" (defArgs s_shared) (defBody s_shared) (defScope s_shared) .none kV0 dc0 pm0 an0 cd0 ct0, PySem.W.fnOf "poly" "poly" (defArgs s_poly) (defBody s_poly) (defScope s_poly) .none kV1 dc1 pm1 an1 cd1 ct1, PySem.W.fnOf "degree" "degree" (defArgs s_degree) (defBody s_degree) (defScope s_degree) .none kV2 dc2 pm2 an2 cd2 ct2, PySem.W.fnOf "coefficient_at" "coefficient_at" (defArgs s_coefficient_at) (defBody s_coefficient_at) (defScope s_coefficient_at) .none kV3 dc3 pm3 an3 cd3 ct3, PySem.W.fnOf "added" "added" (defArgs s_added) (defBody s_added) (defScope s_added) .none kV4 dc4 pm4 an4 cd4 ct4, PySem.W.fnOf "multiplied" "multiplied" (defArgs s_multiplied) (defBody s_multiplied) (defScope s_multiplied) .none kV5 dc5 pm5 an5 cd5 ct5, PySem.W.fnOf "turned" "turned" (defArgs s_turned) (defBody s_turned) (defScope s_turned) .none kV6 dc6 pm6 an6 cd6 ct6, PySem.W.fnOf "shrunk" "shrunk" (defArgs s_shrunk) (defBody s_shrunk) (defScope s_shrunk) .none kV7 dc7 pm7 an7 cd7 ct7, PySem.W.fnOf "plain" "plain" (defArgs s_plain) (defBody s_plain) (defScope s_plain) .none kV8 dc8 pm8 an8 cd8 ct8, PySem.W.fnOf "pivot_at" "pivot_at" (defArgs s_pivot_at) (defBody s_pivot_at) (defScope s_pivot_at) .none kV9 dc9 pm9 an9 cd9 ct9, PySem.W.fnOf "cleared_rows" "cleared_rows" (defArgs s_cleared_rows) (defBody s_cleared_rows) (defScope s_cleared_rows) .none kV10 dc10 pm10 an10 cd10 ct10, PySem.W.fnOf "determinant" "determinant" (defArgs s_determinant) (defBody s_determinant) (defScope s_determinant) .none kV11 dc11 pm11 an11 cd11 ct11, PySem.W.fnOf "sylvester_rows" "sylvester_rows" (defArgs s_sylvester_rows) (defBody s_sylvester_rows) (defScope s_sylvester_rows) .none kV12 dc12 pm12 an12 cd12 ct12, PySem.W.fnOf "resultant" "resultant" (defArgs s_resultant) (defBody s_resultant) (defScope s_resultant) .none kV13 dc13 pm13 an13 cd13 ct13, PySem.W.fnOf "moved_by" "moved_by" (defArgs s_moved_by) (defBody s_moved_by) (defScope s_moved_by) .none kV14 dc14 pm14 an14 cd14 ct14, PySem.W.fnOf "steps_between" "steps_between" (defArgs s_steps_between) (defBody s_steps_between) (defScope s_steps_between) .none kV15 dc15 pm15 an15 cd15 ct15, PySem.W.fnOf "through_values" "through_values" (defArgs s_through_values) (defBody s_through_values) (defScope s_through_values) .none kV16 dc16 pm16 an16 cd16 ct16, PySem.W.fnOf "sums" "sums" (defArgs s_sums) (defBody s_sums) (defScope s_sums) .none kV17 dc17 pm17 an17 cd17 ct17, PySem.W.fnOf "stretched_by" "stretched_by" (defArgs s_stretched_by) (defBody s_stretched_by) (defScope s_stretched_by) .none kV18 dc18 pm18 an18 cd18 ct18, PySem.W.fnOf "products" "products" (defArgs s_products) (defBody s_products) (defScope s_products) .none kV19 dc19 pm19 an19 cd19 ct19, PySem.W.fnOf "powers" "powers" (defArgs s_powers) (defBody s_powers) (defScope s_powers) .none kV20 dc20 pm20 an20 cd20 ct20, PySem.W.fnOf "_law_cell_at" "_law_cell_at" (defArgs s__law_cell_at) (defBody s__law_cell_at) (defScope s__law_cell_at) .none kV21 dc21 pm21 an21 cd21 ct21, PySem.W.fnOf "_law_is" "_law_is" (defArgs s__law_is) (defBody s__law_is) (defScope s__law_is) .none kV22 dc22 pm22 an22 cd22 ct22, PySem.W.fnOf "_law_number" "_law_number" (defArgs s__law_number) (defBody s__law_number) (defScope s__law_number) .none kV23 dc23 pm23 an23 cd23 ct23, PySem.W.fnOf "_law_product" "_law_product" (defArgs s__law_product) (defBody s__law_product) (defScope s__law_product) .none kV24 dc24 pm24 an24 cd24 ct24, PySem.W.fnOf "_law_shared" "_law_shared" (defArgs s__law_shared) (defBody s__law_shared) (defScope s__law_shared) .none kV25 dc25 pm25 an25 cd25 ct25, PySem.W.fnOf "_law_factor" "_law_factor" (defArgs s__law_factor) (defBody s__law_factor) (defScope s__law_factor) .none kV26 dc26 pm26 an26 cd26 ct26, PySem.W.fnOf "_law_with_roots" "_law_with_roots" (defArgs s__law_with_roots) (defBody s__law_with_roots) (defScope s__law_with_roots) .none kV27 dc27 pm27 an27 cd27 ct27, PySem.W.fnOf "_law_roots" "_law_roots" (defArgs s__law_roots) (defBody s__law_roots) (defScope s__law_roots) .none kV28 dc28 pm28 an28 cd28 ct28, PySem.W.fnOf "_law_power" "_law_power" (defArgs s__law_power) (defBody s__law_power) (defScope s__law_power) .none kV29 dc29 pm29 an29 cd29 ct29, PySem.W.fnOf "law" "law" (defArgs s_law) (defBody s_law) (defScope s_law) .none kV30 dc30 pm30 an30 cd30 ct30].getD i (PySem.W.fnOf "law" "law" (defArgs s_law) (defBody s_law) (defScope s_law) .none kV30 dc30 pm30 an30 cd30 ct30)) :=
    { z_abs := PySem.W.mg_none_of X G z_abs, z_bool := PySem.W.mg_none_of X G z_bool, z_int := PySem.W.mg_none_of X G z_int, z_isinstance := PySem.W.mg_none_of X G z_isinstance, z_len := PySem.W.mg_none_of X G z_len, z_list := PySem.W.mg_none_of X G z_list, z_max := PySem.W.mg_none_of X G z_max, z_range := PySem.W.mg_none_of X G z_range, z_reversed := PySem.W.mg_none_of X G z_reversed, g_shared := PySem.W.mg_of X G a0, F_shared := fun_mk (st := s_shared) l0 c0 k0, g_poly := PySem.W.mg_of X G a1, F_poly := fun_mk (st := s_poly) l1 c1 k1, g_degree := PySem.W.mg_of X G a2, F_degree := fun_mk (st := s_degree) l2 c2 k2, g_coefficient_at := PySem.W.mg_of X G a3, F_coefficient_at := fun_mk (st := s_coefficient_at) l3 c3 k3, g_added := PySem.W.mg_of X G a4, F_added := fun_mk (st := s_added) l4 c4 k4, g_multiplied := PySem.W.mg_of X G a5, F_multiplied := fun_mk (st := s_multiplied) l5 c5 k5, g_turned := PySem.W.mg_of X G a6, F_turned := fun_mk (st := s_turned) l6 c6 k6, g_shrunk := PySem.W.mg_of X G a7, F_shrunk := fun_mk (st := s_shrunk) l7 c7 k7, g_plain := PySem.W.mg_of X G a8, F_plain := fun_mk (st := s_plain) l8 c8 k8, g_pivot_at := PySem.W.mg_of X G a9, F_pivot_at := fun_mk (st := s_pivot_at) l9 c9 k9, g_cleared_rows := PySem.W.mg_of X G a10, F_cleared_rows := fun_mk (st := s_cleared_rows) l10 c10 k10, g_determinant := PySem.W.mg_of X G a11, F_determinant := fun_mk (st := s_determinant) l11 c11 k11, g_sylvester_rows := PySem.W.mg_of X G a12, F_sylvester_rows := fun_mk (st := s_sylvester_rows) l12 c12 k12, g_resultant := PySem.W.mg_of X G a13, F_resultant := fun_mk (st := s_resultant) l13 c13 k13, g_moved_by := PySem.W.mg_of X G a14, F_moved_by := fun_mk (st := s_moved_by) l14 c14 k14, g_steps_between := PySem.W.mg_of X G a15, F_steps_between := fun_mk (st := s_steps_between) l15 c15 k15, g_through_values := PySem.W.mg_of X G a16, F_through_values := fun_mk (st := s_through_values) l16 c16 k16, g_sums := PySem.W.mg_of X G a17, F_sums := fun_mk (st := s_sums) l17 c17 k17, g_stretched_by := PySem.W.mg_of X G a18, F_stretched_by := fun_mk (st := s_stretched_by) l18 c18 k18, g_products := PySem.W.mg_of X G a19, F_products := fun_mk (st := s_products) l19 c19 k19, g_powers := PySem.W.mg_of X G a20, F_powers := fun_mk (st := s_powers) l20 c20 k20, g__law_cell_at := PySem.W.mg_of X G a21, F__law_cell_at := fun_mk (st := s__law_cell_at) l21 c21 k21, g__law_is := PySem.W.mg_of X G a22, F__law_is := fun_mk (st := s__law_is) l22 c22 k22, g__law_number := PySem.W.mg_of X G a23, F__law_number := fun_mk (st := s__law_number) l23 c23 k23, g__law_product := PySem.W.mg_of X G a24, F__law_product := fun_mk (st := s__law_product) l24 c24 k24, g__law_shared := PySem.W.mg_of X G a25, F__law_shared := fun_mk (st := s__law_shared) l25 c25 k25, g__law_factor := PySem.W.mg_of X G a26, F__law_factor := fun_mk (st := s__law_factor) l26 c26 k26, g__law_with_roots := PySem.W.mg_of X G a27, F__law_with_roots := fun_mk (st := s__law_with_roots) l27 c27 k27, g__law_roots := PySem.W.mg_of X G a28, F__law_roots := fun_mk (st := s__law_roots) l28 c28 k28, g__law_power := PySem.W.mg_of X G a29, F__law_power := fun_mk (st := s__law_power) l29 c29 k29, g_law := PySem.W.mg_of X G a30, F_law := fun_mk (st := s_law) l30 c30 k30 }
  exact ⟨PySem.W.fnOf "law" "law" (defArgs s_law) (defBody s_law) (defScope s_law) .none kV30 dc30 pm30 an30 cd30 ct30, fun s v => .of_eq rfl, fun base _ _ => ok_law T⟩
end RP
open PySem PySem.W PyProof.Rows
set_option maxHeartbeats 0 in
theorem PySem.Challenge.cw_rootspan_k37_roots_known_holds : PySem.Challenge.rw_rootspan_k37_roots_known.Holds := by
  w_on; o_law; k_head; (case hw => w_witness2)
  k_fill
  refine L2.walk_of (l := PySem.Challenge.rw_rootspan_k37_roots_known) (n := 63) (k := 6) (x := "_law_script") (CX := fun _ => L2.CX0) (sp := fun w => RP.sp_law _ (fun _ => 0)) rfl (by decide) rfl ⟨rfl, by decide, by decide⟩ (fun w h Y => PySem.W.kIn_of Y) ?F (fun _ _ a ns hl _ hS => ⟨a, ns, rfl, hS, hl, fun _ => rfl⟩) (fun _ _ _ _ _ h => h)
  case F =>
    intro w mg fa h KX G hmg
    refine' RP.all_mk KX G hmg ?a0 ?l0 ?c0 ?k0 ?a1 ?l1 ?c1 ?k1 ?a2 ?l2 ?c2 ?k2 ?a3 ?l3 ?c3 ?k3 ?a4 ?l4 ?c4 ?k4 ?a5 ?l5 ?c5 ?k5 ?a6 ?l6 ?c6 ?k6 ?a7 ?l7 ?c7 ?k7 ?a8 ?l8 ?c8 ?k8 ?a9 ?l9 ?c9 ?k9 ?a10 ?l10 ?c10 ?k10 ?a11 ?l11 ?c11 ?k11 ?a12 ?l12 ?c12 ?k12 ?a13 ?l13 ?c13 ?k13 ?a14 ?l14 ?c14 ?k14 ?a15 ?l15 ?c15 ?k15 ?a16 ?l16 ?c16 ?k16 ?a17 ?l17 ?c17 ?k17 ?a18 ?l18 ?c18 ?k18 ?a19 ?l19 ?c19 ?k19 ?a20 ?l20 ?c20 ?k20 ?a21 ?l21 ?c21 ?k21 ?a22 ?l22 ?c22 ?k22 ?a23 ?l23 ?c23 ?k23 ?a24 ?l24 ?c24 ?k24 ?a25 ?l25 ?c25 ?k25 ?a26 ?l26 ?c26 ?k26 ?a27 ?l27 ?c27 ?k27 ?a28 ?l28 ?c28 ?k28 ?a29 ?l29 ?c29 ?k29 ?a30 ?l30 ?c30 ?k30 ?z_abs ?z_bool ?z_int ?z_isinstance ?z_len ?z_list ?z_max ?z_range ?z_reversed
    (case a0 => k_is); (case l0 => k_is); (case c0 => k_is); (case k0 => k_is); (case a1 => k_is); (case l1 => k_is); (case c1 => k_is); (case k1 => k_is); (case a2 => k_is); (case l2 => k_is); (case c2 => k_is); (case k2 => k_is); (case a3 => k_is); (case l3 => k_is); (case c3 => k_is); (case k3 => k_is); (case a4 => k_is); (case l4 => k_is); (case c4 => k_is); (case k4 => k_is); (case a5 => k_is); (case l5 => k_is); (case c5 => k_is); (case k5 => k_is); (case a6 => k_is); (case l6 => k_is); (case c6 => k_is); (case k6 => k_is); (case a7 => k_is); (case l7 => k_is); (case c7 => k_is); (case k7 => k_is); (case a8 => k_is); (case l8 => k_is); (case c8 => k_is); (case k8 => k_is); (case a9 => k_is); (case l9 => k_is); (case c9 => k_is); (case k9 => k_is); (case a10 => k_is); (case l10 => k_is); (case c10 => k_is); (case k10 => k_is); (case a11 => k_is); (case l11 => k_is); (case c11 => k_is); (case k11 => k_is); (case a12 => k_is); (case l12 => k_is); (case c12 => k_is); (case k12 => k_is); (case a13 => k_is); (case l13 => k_is); (case c13 => k_is); (case k13 => k_is); (case a14 => k_is); (case l14 => k_is); (case c14 => k_is); (case k14 => k_is); (case a15 => k_is); (case l15 => k_is); (case c15 => k_is); (case k15 => k_is); (case a16 => k_is); (case l16 => k_is); (case c16 => k_is); (case k16 => k_is); (case a17 => k_is); (case l17 => k_is); (case c17 => k_is); (case k17 => k_is); (case a18 => k_is); (case l18 => k_is); (case c18 => k_is); (case k18 => k_is); (case a19 => k_is); (case l19 => k_is); (case c19 => k_is); (case k19 => k_is); (case a20 => k_is); (case l20 => k_is); (case c20 => k_is); (case k20 => k_is); (case a21 => k_is); (case l21 => k_is); (case c21 => k_is); (case k21 => k_is); (case a22 => k_is); (case l22 => k_is); (case c22 => k_is); (case k22 => k_is); (case a23 => k_is); (case l23 => k_is); (case c23 => k_is); (case k23 => k_is); (case a24 => k_is); (case l24 => k_is); (case c24 => k_is); (case k24 => k_is); (case a25 => k_is); (case l25 => k_is); (case c25 => k_is); (case k25 => k_is); (case a26 => k_is); (case l26 => k_is); (case c26 => k_is); (case k26 => k_is); (case a27 => k_is); (case l27 => k_is); (case c27 => k_is); (case k27 => k_is); (case a28 => k_is); (case l28 => k_is); (case c28 => k_is); (case k28 => k_is); (case a29 => k_is); (case l29 => k_is); (case c29 => k_is); (case k29 => k_is); (case a30 => k_is); (case l30 => k_is); (case c30 => k_is); (case k30 => k_is); (case z_abs => k_is); (case z_bool => k_is); (case z_int => k_is); (case z_isinstance => k_is); (case z_len => k_is); (case z_list => k_is); (case z_max => k_is); (case z_range => k_is); (case z_reversed => k_is)

import PyProof.Rows.All
import Wide.All
import OpenK.AllK
import Wide.FinOn
import HandS.ForMost
import HandS.Exc
import HandS.TryOnly
import HandS.ExcOwn
import HandS.WordsExc
import HandS.Wide
import HandS.IsInst
import HandS.Conv
import HandS.RevRange
import HandS.Evl
import HandS.More
import HandS.Style
import PySem.Challenge.RW_rootspan_k31_determinant_two
set_option Elab.async false
set_option linter.all false
set_option maxRecDepth 100000
set_option maxHeartbeats 4000000
set_option exponentiation.threshold 100000
set_option linter.all false
set_option maxRecDepth 100000
set_option maxHeartbeats 4000000
namespace RB
open PySem PySem.Spec PyProof.Rows L2
open Evl (Ex rLenS rListS rMax2 tCut pss_cut)

/-! ### the readings' names -/
def rIAdd : R2 := rI0 fun i j => .int (i + j)
def rISub : R2 := rI0 fun i j => .int (i - j)
def rMul : R2 := rI CMulW fun i j => .int (i * j)
def rMod : R2 := rI (fun _ j => j ≠ 0) fun i j => .int (i.fmod j)
def CDivA (_ j : Int) : Prop := j ≠ 0 ∧ j.natAbs.log2 < 9000
def rDiv : R2 := rI CDivA fun i j => .int (i.fdiv j)
def rPow : R2 := rI CPow fun i j => .int (i ^ j.toNat)
def rLt : R2 := rI0 fun i j => .bl (decide (i < j))
def rLe : R2 := rI0 fun i j => .bl (decide (i ≤ j))
def rGt : R2 := rI0 fun i j => .bl (decide (j < i))
def rGe : R2 := rI0 fun i j => .bl (decide (j ≤ i))
def rIsN : R2 := fun x y H Q => y = .non ∧ Q (.bl (decide (x = .non))) H
def rNotN : R2 := fun x y H Q => y = .non ∧ Q (.bl (!decide (x = .non))) H
def rNeg : V → Hp → VK → Prop := rU fun i => .int (-i)
def rAbs : List V → Hp → VK → Prop := fun xs H Q => ∃ i, xs = [.int i] ∧ Q (.int (if i < 0 then -i else i)) H
def rMin2 : List V → Hp → VK → Prop := fun xs H Q => ∃ i j, xs = [.int i, .int j] ∧ Q (.int (if j < i then j else i)) H
def rInt1 : List V → Hp → VK → Prop := fun xs H Q => (∃ i, xs = [.int i] ∧ Q (.int i) H) ∨ ∃ k, xs = [.bl k] ∧ Q (.int (if k then 1 else 0)) H
def rAddS : R2 := fun x y H Q => ∃ i j, x = .str i ∧ y = .str j ∧ i.length + j.length ≤ sizeLine ∧ Q (.str (i ++ j)) H
def rLenStr : List V → Hp → VK → Prop := fun xs H Q => ∃ z, xs = [.str z] ∧ z.length ≤ sizeLine ∧ Q (.int z.length) H
def rStrInt : List V → Hp → VK → Prop := fun xs H Q => ∃ i, xs = [.int i] ∧ i.natAbs.log2 < 1920 ∧ Q (.str (toString i)) H
def rInsert : V → List V → Hp → VK → Prop := fun x vs H Q => ∃ (l : Addr) (xs : List V) (i : Int) (y : V), x = .ref l ∧ vs = [.int i, y] ∧ H l = some (.lst xs) ∧ xs.length < sizeLine ∧ 0 ≤ i ∧ i < 2 ^ 63 ∧ Q .non (upd H l (.lst (xs.take i.toNat ++ [y] ++ xs.drop i.toNat)))
section
variable {X : Cx}
theorem op_fdivA : OpR X (binaryOp .FloorDiv) rDiv := opI fun i j _ _ _ _ _ hc q => floordiv_int hc.1 q (.inl (PyProof.noPylong_of_log2 hc.2))
theorem op_isN1 : OpR X (compareOp .Is) rIsN := op_isN
theorem op_notN1 : OpR X (compareOp .IsNot) rNotN := op_notN
end

/-! ### heaps -/
def Exb (l : Addr) (H H' : Hp) : Prop := ∀ a, a ≠ l → ∀ o, H a = some o → H' a = some o
theorem _root_.Evl.Ex.mutb {H0 H H' : Hp} {l : Addr} (e : Ex H0 H) (b : Exb l H H') (f : H0 l = none) : Ex H0 H' := fun a o h => b a (ne_of_none h f) o (e a o h)
theorem Exb.trans {l : Addr} {H H1 H2 : Hp} (a : Exb l H H1) (b : Exb l H1 H2) : Exb l H H2 := fun c n o h => b c n o (a c n o h)
theorem Exb.ex {l : Addr} {H H1 H2 : Hp} (a : Exb l H H1) (b : Ex H1 H2) : Exb l H H2 := fun c n o h => b c o (a c n o h)
theorem _root_.Evl.Ex.exb {l : Addr} {H H1 H2 : Hp} (a : Ex H H1) (b : Exb l H1 H2) : Exb l H H2 := fun c n o h => b c n o (a c o h)
/-- a list laid anew -/
theorem newL {H : Hp} {xs : List V} {Q : VK} (k : ∀ p H', H p = none → Ex H H' → H' p = some (.lst xs) → Q (.ref p) H') : ∀ p, H p = none → Q (.ref p) (upd H p (.lst xs)) :=
  fun p hp => k p _ hp (Evl.Ex.new hp) upd_same
theorem newT {H : Hp} {xs : List V} {Q : VK} (k : ∀ p H', H p = none → Ex H H' → H' p = some (.tup xs) → Q (.ref p) H') : ∀ p, H p = none → Q (.ref p) (upd H p (.tup xs)) :=
  fun p hp => k p _ hp (Evl.Ex.new hp) upd_same
/-- an object changed -/
theorem mutL {H : Hp} {l : Addr} {o : HO} {G : Hp → Prop} (k : ∀ H', Exb l H H' → H' l = some o → G H') : G (upd H l o) :=
  k _ (fun a n o h => by rw [upd_ne n]; exact h) upd_same
theorem _root_.Evl.Ex.free {H H' : Hp} (e : Ex H H') {p : Addr} (h : H' p = none) : H p = none := Evl.fresh_back e h
theorem _root_.Evl.Ex.l {K : PySem.W.Frag} {H H' : Hp} {a : Addr} {xs : List V} (e : Ex H H') (h : SqL K H a xs) : SqL K H' a xs := Evl.ex_l e h
theorem SqL.inj {K : PySem.W.Frag} {H : Hp} {a : Addr} {xs : List V} (h : H a = some (.lst xs)) : SqL K H a xs := .inl (.inl h)

def LstK (Q : VK) : List V → Hp → Prop := fun xs H1 => xs.length ≤ sizeLine ∧ ∀ p, H1 p = none → Q (.ref p) (upd H1 p (.lst xs))
def TupK (Q : VK) : List V → Hp → Prop := fun xs H1 => xs.length ≤ sizeLine ∧ ∀ p, H1 p = none → Q (.ref p) (upd H1 p (.tup xs))
theorem small0 {n : Nat} (h : n ≤ 16777216) : n ≤ sizeLine := by rw [sizeLine_eq]; exact h
/-! ### readings, step by step -/
section
variable {K : PySem.W.Frag} {σ : L2.St} {H : Hp} {Q : VK} {D : Ends} {ta tb te to ti : TE} {t u : TS} {tt t1 t2 : TT} {g : TG}
theorem r_seq (h : t { D with nx := u D } σ H) : tSeq t u D σ H := h
theorem r_next (h : D.nx σ H) : tNext D σ H := h
theorem r_var {i : Nat} {v : V} (h : σ[i]? = some (some v)) (q : Q v H) : tVar i σ H Q := ⟨v, h, q⟩
theorem r_c {v : V} (q : Q v H) : tC v σ H Q := q
theorem r_op {r : R2} (h : ta σ H fun x H1 => tb σ H1 fun y H2 => r x y H2 Q) : tOp r ta tb σ H Q := h
theorem r_un {r : V → Hp → VK → Prop} (h : ta σ H fun x H1 => r x H1 Q) : tUn r ta σ H Q := h
theorem r_add {i j : Int} (q : Q (.int (i + j)) H) : rIAdd (.int i) (.int j) H Q := ⟨i, j, rfl, rfl, q⟩
theorem r_sub {i j : Int} (q : Q (.int (i - j)) H) : rISub (.int i) (.int j) H Q := ⟨i, j, rfl, rfl, q⟩
theorem r_mul {i j : Int} (c : CMulW i j) (q : Q (.int (i * j)) H) : rMul (.int i) (.int j) H Q := ⟨i, j, rfl, rfl, c, q⟩
theorem r_mod {i j : Int} (c : j ≠ 0) (q : Q (.int (i.fmod j)) H) : rMod (.int i) (.int j) H Q := ⟨i, j, rfl, rfl, c, q⟩
theorem r_div {i j : Int} (c : CDivA i j) (q : Q (.int (i.fdiv j)) H) : rDiv (.int i) (.int j) H Q := ⟨i, j, rfl, rfl, c, q⟩
theorem r_pow {i j : Int} (c : CPow i j) (q : Q (.int (i ^ j.toNat)) H) : rPow (.int i) (.int j) H Q := ⟨i, j, rfl, rfl, c, q⟩
theorem r_lt {i j : Int} (q : Q (.bl (decide (i < j))) H) : rLt (.int i) (.int j) H Q := ⟨i, j, rfl, rfl, q⟩
theorem r_le {i j : Int} (q : Q (.bl (decide (i ≤ j))) H) : rLe (.int i) (.int j) H Q := ⟨i, j, rfl, rfl, q⟩
theorem r_gt {i j : Int} (q : Q (.bl (decide (j < i))) H) : rGt (.int i) (.int j) H Q := ⟨i, j, rfl, rfl, q⟩
theorem r_ge {i j : Int} (q : Q (.bl (decide (j ≤ i))) H) : rGe (.int i) (.int j) H Q := ⟨i, j, rfl, rfl, q⟩
theorem r_neg {i : Int} (q : Q (.int (-i)) H) : rNeg (.int i) H Q := ⟨i, rfl, q⟩
theorem d_int (i j : Int) : decide (V.int i = V.int j) = decide (i = j) := by
  by_cases h : i = j
  · rw [h]; simp
  · rw [decide_eq_false h, decide_eq_false (fun z => h (V.int.inj z))]
theorem d_bl (i j : Bool) : decide (V.bl i = V.bl j) = decide (i = j) := by
  by_cases h : i = j
  · rw [h]; simp
  · rw [decide_eq_false h, decide_eq_false (fun z => h (V.bl.inj z))]
theorem d_str (i j : Str) : decide (V.str i = V.str j) = decide (i = j) := by
  by_cases h : i = j
  · rw [h]; simp
  · rw [decide_eq_false h, decide_eq_false (fun z => h (V.str.inj z))]
theorem r_eqI {i j : Int} (q : Q (.bl (decide (i = j))) H) : rEq (.int i) (.int j) H Q := ⟨rfl, by rw [d_int]; exact q⟩
theorem r_neI {i j : Int} (q : Q (.bl (!decide (i = j))) H) : rNe (.int i) (.int j) H Q := ⟨rfl, by rw [d_int]; exact q⟩
theorem r_eqB {i j : Bool} (q : Q (.bl (decide (i = j))) H) : rEq (.bl i) (.bl j) H Q := ⟨rfl, by rw [d_bl]; exact q⟩
theorem r_eqS {i j : Str} (q : Q (.bl (decide (i = j))) H) : rEq (.str i) (.str j) H Q := ⟨rfl, by rw [d_str]; exact q⟩
theorem r_neS {i j : Str} (q : Q (.bl (!decide (i = j))) H) : rNe (.str i) (.str j) H Q := ⟨rfl, by rw [d_str]; exact q⟩
theorem r_isN {x : V} (q : Q (.bl (decide (x = .non))) H) : rIsN x .non H Q := ⟨rfl, q⟩
theorem r_notN {x : V} (q : Q (.bl (!decide (x = .non))) H) : rNotN x .non H Q := ⟨rfl, q⟩
theorem r_ixL {p : Addr} {i : Int} {xs : List V} {v : V} (h : SqL K H p xs) (a : atI xs i = some v) (q : Q v H) : rIxL K (.ref p) (.int i) H Q := ⟨p, xs, i, v, rfl, rfl, h, a, q⟩
theorem r_ixT {p : Addr} {i : Int} {xs : List V} {v : V} (h : SqT K H p xs) (a : atI xs i = some v) (q : Q v H) : rIxT K (.ref p) (.int i) H Q := ⟨p, xs, i, v, rfl, rfl, h, a, q⟩
theorem r_cons {ta : TE} {tr : TA} {Q : List V → Hp → Prop} (h : ta σ H fun x H1 => tr σ H1 fun xs H2 => Q (x :: xs) H2) : tCons ta tr σ H Q := h
theorem r_nil {Q : List V → Hp → Prop} (h : Q [] H) : tNil σ H Q := h
theorem r_cb {r : List V → Hp → VK → Prop} {ta : TA} (h : ta σ H fun vs H1 => r vs H1 Q) : tCB r ta σ H Q := h
theorem r_abs {i : Int} (q : Q (.int (if i < 0 then -i else i)) H) : rAbs [.int i] H Q := ⟨i, rfl, q⟩
theorem r_max2 {i j : Int} (q : Q (.int (if j > i then j else i)) H) : rMax2 [.int i, .int j] H Q := ⟨i, j, rfl, q⟩
theorem r_min2 {i j : Int} (q : Q (.int (if j < i then j else i)) H) : rMin2 [.int i, .int j] H Q := ⟨i, j, rfl, q⟩
theorem r_len {p : Addr} {xs : List V} (h : SqL K H p xs) (q : Q (.int xs.length) H) : rLenS K [.ref p] H Q := ⟨p, xs, rfl, .inl h, q⟩
theorem r_lenT {p : Addr} {xs : List V} (h : SqT K H p xs) (q : Q (.int xs.length) H) : rLenS K [.ref p] H Q := ⟨p, xs, rfl, .inr h, q⟩
theorem r_list {p : Addr} {xs : List V} (h : SqL K H p xs) (q : ∀ l H', H l = none → Ex H H' → H' l = some (.lst xs) → Q (.ref l) H') : rListS K [.ref p] H Q := ⟨p, xs, rfl, .inl h, newL q⟩
theorem r_intI {i : Int} (q : Q (.int i) H) : rInt1 [.int i] H Q := .inl ⟨i, rfl, q⟩
theorem r_intB {b : Bool} (q : Q (.int (if b then 1 else 0)) H) : rInt1 [.bl b] H Q := .inr ⟨b, rfl, q⟩
theorem r_call {sp : Sp} {E : XK} {ta : TA} (h : ta σ H fun vs H1 => sp vs H1 Q E) : tCall sp [] E ta σ H Q := by
  show ta σ H fun vs H1 => sp (vs ++ []) H1 Q E
  have e : (fun vs H1 => sp (vs ++ []) H1 Q E) = fun (vs : List V) H1 => sp vs H1 Q E := by
    funext vs H1; rw [List.append_nil]
  rw [e]; exact h
theorem r_lst {ta : TA} (h : ta σ H (LstK Q)) : tLst ta σ H Q := h
theorem r_lstK {xs : List V} (k : ∀ p H', H p = none → Ex H H' → H' p = some (.lst xs) → Q (.ref p) H') (hz : xs.length ≤ 16777216 := by simp) : LstK Q xs H := ⟨small0 hz, newL k⟩
theorem r_tup {ta : TA} (h : ta σ H (TupK Q)) : tTup ta σ H Q := h
theorem r_tupK {xs : List V} (k : ∀ p H', H p = none → Ex H H' → H' p = some (.tup xs) → Q (.ref p) H') (hz : xs.length ≤ 16777216 := by simp) : TupK Q xs H := ⟨small0 hz, newT k⟩
theorem r_asg (h : te σ H fun x H1 => g x σ H1 D.nx) : tAsg te g D σ H := h
theorem r_gn {i : Nat} {v : V} {Q : L2.St → Hp → Prop} (h : Q (σ.set i (some v)) H) : gName i v σ H Q := h
theorem r_ret (h : te σ H D.rt) : tRet te D σ H := h
theorem r_drop (h : te σ H fun _ H1 => D.nx σ H1) : tDrop te D σ H := h
theorem r_ifS (h : tt σ H fun b H1 => if b = true then t D σ H1 else u D σ H1) : tIfS tt t u D σ H := h
theorem r_test {Q : Bool → Hp → Prop} (h : te σ H fun x H1 => ∃ k, x = .bl k ∧ Q k H1) : tTest te σ H Q := h
theorem r_B {Q : Bool → Hp → Prop} (h : te σ H fun x H1 => ∃ k, x = .bl k ∧ Q k H1) : tB te σ H Q := h
theorem r_bl {k : Bool} {Q : Bool → Prop} (h : Q k) : ∃ k', V.bl k = .bl k' ∧ Q k' := ⟨k, rfl, h⟩
theorem r_and {Q : Bool → Hp → Prop} (h : t1 σ H fun c H1 => if c = true then t2 σ H1 Q else Q false H1) : tAnd t1 t2 σ H Q := h
theorem r_or {Q : Bool → Hp → Prop} (h : t1 σ H fun c H1 => if c = true then Q true H1 else t2 σ H1 Q) : tOr t1 t2 σ H Q := h
theorem r_not {Q : Bool → Hp → Prop} (h : tt σ H fun c H1 => Q (!c) H1) : tNot tt σ H Q := h
theorem r_andV (h : ta σ H fun x H1 => ∃ c, x = .bl c ∧ if c = true then tb σ H1 Q else Q (.bl false) H1) : tAndV ta tb σ H Q := h
theorem r_orV (h : ta σ H fun x H1 => ∃ c, x = .bl c ∧ if c = true then Q (.bl true) H1 else tb σ H1 Q) : tOrV ta tb σ H Q := h
theorem r_notV (h : ta σ H fun x H1 => ∃ c, x = .bl c ∧ Q (.bl (!c)) H1) : tNotV ta σ H Q := h
theorem r_if (h : tt σ H fun c H1 => if c = true then ta σ H1 Q else tb σ H1 Q) : tIf tt ta tb σ H Q := h
theorem r_bm {T : String} {r : V → List V → Hp → VK → Prop} {ta : TA} (h : to σ H fun x H1 => tyV K T x H1 ∧ ta σ H1 fun xs H2 => r x xs H2 Q) : tBM K T r to ta σ H Q := h
theorem r_bm0 {T : String} {r : V → List V → Hp → VK → Prop} (h : to σ H fun x H1 => tyV K T x H1 ∧ r x [] H1 Q) : tBM0 K T r to σ H Q := h
theorem r_append {l : Addr} {xs : List V} {y : V} (h : H l = some (.lst xs)) (z : xs.length < sizeLine) (q : ∀ H', Exb l H H' → H' l = some (.lst (xs ++ [y])) → Q .non H') : rAppend (.ref l) [y] H Q :=
  ⟨l, xs, y, rfl, rfl, h, z, mutL q⟩
theorem r_pop {l : Addr} {xs : List V} {y : V} (h : H l = some (.lst xs)) (z : xs[xs.length - 1]? = some y) (q : ∀ H', Exb l H H' → H' l = some (.lst xs.dropLast) → Q y H') : rPop (.ref l) [] H Q :=
  ⟨l, xs, y, rfl, rfl, h, z, mutL q⟩
theorem r_insert {l : Addr} {xs : List V} {y : V} {i : Int} (h : H l = some (.lst xs)) (z : xs.length < sizeLine) (h0 : 0 ≤ i) (h1 : i < 2 ^ 63) (q : ∀ H', Exb l H H' → H' l = some (.lst (xs.take i.toNat ++ [y] ++ xs.drop i.toNat)) → Q .non H') : rInsert (.ref l) [.int i, y] H Q :=
  ⟨l, xs, i, y, rfl, rfl, h, z, h0, h1, mutL q⟩
theorem tyL {p : Addr} {xs : List V} (h : H p = some (.lst xs)) : tyV K "list" (.ref p) H := .inl ⟨rfl, _, .inl (.inl h)⟩
theorem r_ty {T : String} {x : V} {B : Prop} (h : tyV K T x H) (q : B) : tyV K T x H ∧ B := ⟨h, q⟩
theorem r_sub_ {ts : TSet} {v : V} {Q : L2.St → Hp → Prop} (h : to σ H fun o H1 => ti σ H1 fun i H2 => ts o i v H2 fun H3 => Q σ H3) : gSub to ti ts v σ H Q := h
theorem r_setL {p : Addr} {xs : List V} {k : Int} {j : Nat} {v : V} {Q : Hp → Prop} (h : H p = some (.lst xs)) (hk : ixN xs.length k = some j) (q : ∀ H', Exb p H H' → H' p = some (.lst (xs.set j v)) → Q H') : rSetL (.ref p) (.int k) v H Q :=
  ⟨p, xs, k, j, rfl, rfl, h, hk, mutL q⟩
theorem r_cat {l b : Addr} {xs zs : List V} (h1 : H l = some (.lst xs)) (h2 : H b = some (.lst zs)) (z : xs.length + zs.length ≤ sizeLine) (q : ∀ p H', H p = none → Ex H H' → H' p = some (.lst (xs ++ zs)) → Q (.ref p) H') : rCat (.ref l) (.ref b) H Q :=
  ⟨l, b, xs, zs, rfl, rfl, h1, h2, z, newL q⟩
theorem flat_rep {α : Type} (x : α) : ∀ n : Nat, (List.replicate n [x]).flatten = List.replicate n x
  | 0 => rfl
  | n + 1 => by rw [List.replicate_succ, List.flatten_cons, flat_rep x n, List.replicate_succ]; rfl
/-- [x] * k -/
theorem r_rep1 {l : Addr} {x : V} {k : Int} (h1 : H l = some (.lst [x])) (z : k.toNat ≤ 1000000) (q : ∀ p H', H p = none → Ex H H' → H' p = some (.lst (List.replicate k.toNat x)) → Q (.ref p) H')  (h0 : -(2 ^ 63) ≤ k := by omega) : rRep (.ref l) (.int k) H Q :=
  ⟨l, k, [x], rfl, rfl, h1, h0, by omega, by
    show 1 * k.toNat ≤ sizeLine
    rw [Nat.one_mul]
    exact Nat.le_trans z (by decide), newL fun p H' a b c => q p H' a b (by rw [flat_rep] at c; exact c)⟩
theorem r_sl {r : V → Option Int → Option Int → Hp → VK → Prop} {tl th : TO} (h : te σ H fun x H1 => tl σ H1 fun l H2 => th σ H2 fun u H3 => r x l u H3 Q) : tSl r te tl th σ H Q := h
theorem r_part {Q : Option Int → Hp → Prop} (h : te σ H fun x H1 => ∃ i, x = .int i ∧ Q (some i) H1) : tPart te σ H Q := h
theorem r_int {i : Int} {Q : Int → Prop} (h : Q i) : ∃ j, V.int i = .int j ∧ Q j := ⟨i, rfl, h⟩
theorem r_nopart {Q : Option Int → Hp → Prop} (h : Q none H) : tNoPart σ H Q := h
theorem r_slL {a : Addr} {xs : List V} {lo hi : Option Int} (h : SqL K H a xs) (q : ∀ p H', H p = none → Ex H H' → H' p = some (.lst (cutV xs lo hi)) → Q (.ref p) H') : rSlL K (.ref a) lo hi H Q := ⟨a, xs, rfl, h, newL q⟩
theorem r_par {i j : Nat} {ta : TA} (h : ta σ H fun vs H1 => ∃ v w, vs = [v, w] ∧ D.nx ((σ.set i (some v)).set j (some w)) H1) : tPar i j ta D σ H := h
theorem r_par2 {i j : Nat} {v w : V} (h : D.nx ((σ.set i (some v)).set j (some w)) H) : ∃ v' w', [v, w] = [v', w'] ∧ D.nx ((σ.set i (some v')).set j (some w')) H := ⟨v, w, rfl, h⟩
end
/-- a truth that is decided, both ways -/
theorem ite_d {p A B : Prop} [Decidable p] (h1 : p → A) (h2 : ¬ p → B) : if decide p = true then A else B := by
  by_cases h : p
  · rw [if_pos (decide_eq_true h)]; exact h1 h
  · rw [if_neg (by rw [decide_eq_false h]; decide)]; exact h2 h
theorem ite_nd {p A B : Prop} [Decidable p] (h1 : ¬ p → A) (h2 : p → B) : if (!decide p) = true then A else B := by
  by_cases h : p
  · rw [if_neg (by rw [decide_eq_true h]; decide)]; exact h2 h
  · rw [if_pos (by rw [decide_eq_false h]; rfl)]; exact h1 h
theorem ite_b {b : Bool} {A B : Prop} (h1 : b = true → A) (h2 : b = false → B) : if b = true then A else B := by
  cases b with
  | true => rw [if_pos rfl]; exact h1 rfl
  | false => rw [if_neg (by decide)]; exact h2 rfl

theorem r_isi {K : PySem.W.Frag} {H : Hp} {Q : VK} {x c : V} {t u : Value} {b : Bool} (ht : TyX K H x t) (hc : ClsV c u) (hk : PySem.W.kitOne K t u = some b) (q : Q (.bl b) H) : rIsi K [x, c] H Q := ⟨x, c, t, u, b, rfl, hc, ht, hk, q⟩
theorem iteD {p A B : Prop} [Decidable p] (h : p) (a : A) : if decide p = true then A else B := by rw [if_pos (decide_eq_true h)]; exact a
theorem iteDF {p A B : Prop} [Decidable p] (h : ¬ p) (a : B) : if decide p = true then A else B := by rw [if_neg (by rw [decide_eq_false h]; decide)]; exact a
/-! ### lists of ints, compared -/
theorem dp_ints {K : PySem.W.Frag} {H : Hp} : ∀ ns : List Int, DpAll K H (ns.map V.int) (ns.map PyData.int)
  | [] => .nil
  | n :: r => .cons (.int n) (dp_ints r)
theorem dp_listI {K : PySem.W.Frag} {H : Hp} {a : Addr} {ns : List Int} (h : SqL K H a (ns.map V.int)) : Dp K H (.ref a) (.list (ns.map PyData.int)) := .lst h (dp_ints ns)
def dI (ns : List Int) : PyData := .list (ns.map PyData.int)
theorem canLay_ints : ∀ ns : List Int, PyData.canLayAll0 (ns.map PyData.int) = true
  | [] => by simp [PyData.canLayAll0]
  | n :: r => by
    rw [List.map_cons, PyData.canLayAll0, canLay_ints r]; simp [PyData.canLay0]
theorem depth_ints : ∀ ns : List Int, PyData.depthAll (ns.map PyData.int) ≤ 1
  | [] => by simp [PyData.depthAll]
  | n :: r => by
    have := depth_ints r
    rw [List.map_cons, PyData.depthAll]
    simp [PyData.depth]
    omega
theorem shaped_dI (ns : List Int) : SeqAt.shaped (dI ns) = true := by
  have h1 := canLay_ints ns
  have h2 := depth_ints ns
  unfold SeqAt.shaped dI
  rw [Bool.and_eq_true, PyData.canLay0, PyData.depth]
  exact ⟨h1, decide_eq_true (by omega)⟩
theorem eqvAll_ints : ∀ ns ms : List Int, PyData.eqvAll (ns.map PyData.int) (ms.map PyData.int) = decide (ns = ms)
  | [], [] => by simp [PyData.eqvAll]
  | [], m :: r => by simp [PyData.eqvAll]
  | n :: r, [] => by simp [PyData.eqvAll]
  | n :: r, m :: s => by
    rw [List.map_cons, List.map_cons, PyData.eqvAll, eqvAll_ints r s]
    simp [PyData.eqv, Bool.beq_eq_decide_eq]
theorem eqv_dI (ns ms : List Int) : PyData.eqv (dI ns) (dI ms) = decide (ns = ms) := by
  unfold dI
  rw [PyData.eqv, eqvAll_ints]
theorem r_eqInts {K : PySem.W.Frag} {H : Hp} {Q : VK} {a b : Addr} {ns ms : List Int} (h1 : SqL K H a (ns.map V.int)) (h2 : SqL K H b (ms.map V.int)) (q : Q (.bl (decide (ns = ms))) H) : rEqD K (.ref a) (.ref b) H Q :=
  ⟨_, _, dp_listI h1, dp_listI h2, shaped_dI ns, shaped_dI ms, by rw [show PyData.eqv (.list (ns.map PyData.int)) (.list (ms.map PyData.int)) = decide (ns = ms) from eqv_dI ns ms]; exact q⟩
theorem r_neInts {K : PySem.W.Frag} {H : Hp} {Q : VK} {a b : Addr} {ns ms : List Int} (h1 : SqL K H a (ns.map V.int)) (h2 : SqL K H b (ms.map V.int)) (q : Q (.bl (!decide (ns = ms))) H) : rNeD K (.ref a) (.ref b) H Q :=
  ⟨_, _, dp_listI h1, dp_listI h2, shaped_dI ns, shaped_dI ms, by rw [show PyData.eqv (.list (ns.map PyData.int)) (.list (ms.map PyData.int)) = decide (ns = ms) from eqv_dI ns ms]; exact q⟩
/-! ### loops -/
def Lp (J : It) (g : TG) (tb : TS) (D : Ends) (σ : L2.St) (H : Hp) : Prop := ∃ W : Nat → Nat → L2.St → Hp → Prop, (∃ m, W 0 m σ H) ∧ ∀ i m σ H, W i m σ H →
  (J.stop i H ∧ D.nx σ H) ∨ (J.go i H ∧ ∃ N : L2.St → Hp → Prop, (∀ σ' H', N σ' H' → ∃ m', m' < m ∧ W (i + 1) m' σ' H') ∧ ∀ x H', J.yld i H x H' → g x σ H' fun σ2 H2 => tb { D with nx := N, ct := N, bk := D.nx } σ2 H2)
section
variable {K : PySem.W.Frag} {σ : L2.St} {H : Hp} {D : Ends} {te : TE} {ta : TA} {tb : TS} {g : TG} {wi : TI}
theorem r_for (h : wi σ H fun J H1 => Lp J g tb D σ H1) : tFor wi g tb D σ H := h
theorem r_iList {R : It → Hp → Prop} (h : te σ H fun x H1 => ∃ a, x = .ref a ∧ (∃ xs, SqL K H1 a xs) ∧ R (Itl K a) H1) : iList K te σ H R := h
theorem r_iListA {a : Addr} {xs : List V} (h : SqL K H a xs) (q : Lp (Itl K a) g tb D σ H) : ∃ a', V.ref a = .ref a' ∧ (∃ xs, SqL K H a' xs) ∧ Lp (Itl K a') g tb D σ H := ⟨a, rfl, ⟨xs, h⟩, q⟩
theorem r_iTup {R : It → Hp → Prop} (h : te σ H fun x H1 => ∃ a, x = .ref a ∧ (∃ xs, SqT K H1 a xs) ∧ R (Itt K a) H1) : iTup K te σ H R := h
theorem r_iTupA {a : Addr} {xs : List V} (h : SqT K H a xs) (q : Lp (Itt K a) g tb D σ H) : ∃ a', V.ref a = .ref a' ∧ (∃ xs, SqT K H a' xs) ∧ Lp (Itt K a') g tb D σ H := ⟨a, rfl, ⟨xs, h⟩, q⟩
theorem r_iRng1 {R : It → Hp → Prop} (h : ta σ H fun vs H1 => ∃ j : Int, vs = [.int j] ∧ -(2 ^ 62) ≤ j ∧ j < 2 ^ 62 ∧ R (Itr 0 j.toNat) H1) : iRng1 ta σ H R := h
theorem r_iRng1A {j : Int} (h0 : -(2 ^ 62) ≤ j) (h1 : j < 2 ^ 62) (q : Lp (Itr 0 j.toNat) g tb D σ H) : ∃ j' : Int, [V.int j] = [.int j'] ∧ -(2 ^ 62) ≤ j' ∧ j' < 2 ^ 62 ∧ Lp (Itr 0 j'.toNat) g tb D σ H := ⟨j, rfl, h0, h1, q⟩
theorem r_iRng2 {R : It → Hp → Prop} (h : ta σ H fun vs H1 => ∃ i j : Int, vs = [.int i, .int j] ∧ (-(2 ^ 62) ≤ i ∧ i < 2 ^ 62 ∧ -(2 ^ 62) ≤ j ∧ j < 2 ^ 62) ∧ R (Itr i (j - i).toNat) H1) : iRng2 ta σ H R := h
theorem r_iRng2A {i j : Int} (hb : -(2 ^ 62) ≤ i ∧ i < 2 ^ 62 ∧ -(2 ^ 62) ≤ j ∧ j < 2 ^ 62) (q : Lp (Itr i (j - i).toNat) g tb D σ H) : ∃ i' j' : Int, [V.int i, V.int j] = [.int i', .int j'] ∧ (-(2 ^ 62) ≤ i' ∧ i' < 2 ^ 62 ∧ -(2 ^ 62) ≤ j' ∧ j' < 2 ^ 62) ∧ Lp (Itr i' (j' - i').toNat) g tb D σ H := ⟨i, j, rfl, hb, q⟩
theorem r_iRev {R : It → Hp → Prop} (h : ta σ H fun vs H1 => ∃ (a : Addr) (xs : List V), vs = [.ref a] ∧ SqL K H1 a xs ∧ R (Itv K a xs.length) H1) : iRev K ta σ H R := h
theorem r_iRevA {a : Addr} {xs : List V} (h : SqL K H a xs) (q : Lp (Itv K a xs.length) g tb D σ H) : ∃ (a' : Addr) (xs : List V), [V.ref a] = [.ref a'] ∧ SqL K H a' xs ∧ Lp (Itv K a' xs.length) g tb D σ H := ⟨a, xs, rfl, h, q⟩
theorem r_iEnum {R : It → Hp → Prop} (h : ta σ H fun vs H1 => ∃ a xs, vs = [.ref a] ∧ SqL K H1 a xs ∧ R (Ite K a) H1) : iEnum K ta σ H R := h
theorem r_iEnumA {a : Addr} {xs : List V} (h : SqL K H a xs) (q : Lp (Ite K a) g tb D σ H) : ∃ (a' : Addr) (xs : List V), [V.ref a] = [.ref a'] ∧ SqL K H a' xs ∧ Lp (Ite K a') g tb D σ H := ⟨a, xs, rfl, h, q⟩
theorem r_iRevR {tr : L2.St → Hp → (Int → Int → Hp → Prop) → Prop} {R : It → Hp → Prop} (h : tr σ H fun a b H1 => -(2 ^ 62) ≤ a ∧ a < 2 ^ 62 ∧ -(2 ^ 62) ≤ b ∧ b < 2 ^ 62 ∧ R (Itc (a + (((b - a).toNat : Nat) : Int) - 1) (-1) (b - a).toNat) H1) : iRevR tr σ H R := h

theorem loop_list {a : Addr} {xs : List V} (Pv : Nat → L2.St → Hp → Prop) (h0 : Pv 0 σ H) (hl : ∀ i σ H, i ≤ xs.length → Pv i σ H → SqL K H a xs)
    (hs : ∀ i x σ H, xs[i]? = some x → Pv i σ H → g x σ H fun σ2 H2 => tb { D with nx := Pv (i + 1), ct := Pv (i + 1), bk := D.nx } σ2 H2) (hd : ∀ σ H, Pv xs.length σ H → D.nx σ H) : Lp (Itl K a) g tb D σ H := for_list Pv h0 hl hs hd
/-- a loop over a list of ints -/
theorem loop_ints {a : Addr} {ns : List Int} {j : Nat} (Pv : Nat → L2.St → Hp → Prop) (h0 : Pv 0 σ H) (hl : ∀ i σ H, i ≤ ns.length → Pv i σ H → SqL K H a (ns.map V.int))
    (hs : ∀ i x σ H, ns[i]? = some x → Pv i σ H → tb { D with nx := Pv (i + 1), ct := Pv (i + 1), bk := D.nx } (σ.set j (some (.int x))) H) (hd : ∀ σ H, Pv ns.length σ H → D.nx σ H) : Lp (Itl K a) (gName j) tb D σ H :=
  for_list (xs := ns.map V.int) Pv h0 (fun i σ H h => hl i σ H (by rw [List.length_map] at h; exact h)) (fun i x σ H hx hp => by
    rw [List.getElem?_map] at hx
    cases e : ns[i]? with
    | none => rw [e] at hx; cases hx
    | some z => rw [e] at hx; cases hx; exact hs i z σ H e hp) (fun σ H h => hd σ H (by rw [List.length_map] at h; exact h))
theorem loop_tup {a : Addr} {xs : List V} (Pv : Nat → L2.St → Hp → Prop) (h0 : Pv 0 σ H) (hl : ∀ i σ H, i ≤ xs.length → Pv i σ H → SqT K H a xs)
    (hs : ∀ i x σ H, xs[i]? = some x → Pv i σ H → g x σ H fun σ2 H2 => tb { D with nx := Pv (i + 1), ct := Pv (i + 1), bk := D.nx } σ2 H2) (hd : ∀ σ H, Pv xs.length σ H → D.nx σ H) : Lp (Itt K a) g tb D σ H := for_tup Pv h0 hl hs hd
theorem loop_range {lo : Int} {n : Nat} {j : Nat} (Pv : Nat → L2.St → Hp → Prop) (h0 : Pv 0 σ H)
    (hs : ∀ i σ H, i < n → Pv i σ H → tb { D with nx := Pv (i + 1), ct := Pv (i + 1), bk := D.nx } (σ.set j (some (.int (lo + (i : Int))))) H) (hd : ∀ σ H, Pv n σ H → D.nx σ H) : Lp (Itr lo n) (gName j) tb D σ H := for_range Pv h0 hs hd
theorem loop_range0 {n : Nat} {j : Nat} (Pv : Nat → L2.St → Hp → Prop) (h0 : Pv 0 σ H)
    (hs : ∀ i σ H, i < n → Pv i σ H → tb { D with nx := Pv (i + 1), ct := Pv (i + 1), bk := D.nx } (σ.set j (some (.int (i : Int)))) H) (hd : ∀ σ H, Pv n σ H → D.nx σ H) : Lp (Itr 0 n) (gName j) tb D σ H :=
  for_range Pv h0 (fun i σ H hi hp => by
    have e : (0 : Int) + (i : Int) = (i : Int) := Int.zero_add _
    rw [e]
    exact hs i σ H hi hp) hd
theorem loop_rangeC {lo c : Int} {n : Nat} {j : Nat} (Pv : Nat → L2.St → Hp → Prop) (h0 : Pv 0 σ H)
    (hs : ∀ i σ H, i < n → Pv i σ H → tb { D with nx := Pv (i + 1), ct := Pv (i + 1), bk := D.nx } (σ.set j (some (.int (lo + (i : Int) * c)))) H) (hd : ∀ σ H, Pv n σ H → D.nx σ H) : Lp (Itc lo c n) (gName j) tb D σ H := for_rangeC Pv h0 hs hd
theorem loop_rev {a : Addr} {xs : List V} (Pv : Nat → L2.St → Hp → Prop) (h0 : Pv 0 σ H) (hl : ∀ i σ H, i ≤ xs.length → Pv i σ H → SqL K H a xs)
    (hs : ∀ i x σ H, xs[xs.length - 1 - i]? = some x → i < xs.length → Pv i σ H → g x σ H fun σ2 H2 => tb { D with nx := Pv (i + 1), ct := Pv (i + 1), bk := D.nx } σ2 H2) (hd : ∀ σ H, Pv xs.length σ H → D.nx σ H) : Lp (Itv K a xs.length) g tb D σ H := by
  refine ⟨fun i m σ H => m = xs.length - i ∧ i ≤ xs.length ∧ Pv i σ H, ⟨xs.length, by simp, Nat.zero_le _, h0⟩, ?_⟩
  rintro i m σ H ⟨rfl, hi, p⟩
  have q := hl i σ H hi p
  by_cases hlt : i < xs.length
  · have hk : xs.length - 1 - i < xs.length := by omega
    refine .inr ⟨⟨hlt, xs, xs[xs.length - 1 - i], q, by simp [hk]⟩, Pv (i + 1), fun σ' H' p' => ⟨xs.length - (i + 1), by omega, rfl, hlt, p'⟩, fun x H' y => ?_⟩
    obtain ⟨e, y⟩ := y
    subst e
    exact hs i x σ _ (y xs q) hlt p
  · have e : i = xs.length := by omega
    subst e
    exact .inl ⟨Nat.le_refl _, hd σ H p⟩
theorem loop_enum {a : Addr} {xs : List V} {j k : Nat} (Pv : Nat → L2.St → Hp → Prop) (h0 : Pv 0 σ H) (hl : ∀ i σ H, i ≤ xs.length → Pv i σ H → SqL K H a xs)
    (hs : ∀ i x σ H H', xs[i]? = some x → Pv i σ H → Ex H H' → tb { D with nx := Pv (i + 1), ct := Pv (i + 1), bk := D.nx } ((σ.set j (some (.int (i : Int)))).set k (some x)) H') (hd : ∀ σ H, Pv xs.length σ H → D.nx σ H) :
    Lp (Ite K a) (gTup K 2 (gCons (gName j) (gCons (gName k) gNil))) tb D σ H := by
  refine ⟨fun i m σ H => m = xs.length - i ∧ i ≤ xs.length ∧ Pv i σ H, ⟨xs.length, by simp, Nat.zero_le _, h0⟩, ?_⟩
  rintro i m σ H ⟨rfl, hi, p⟩
  have q := hl i σ H hi p
  by_cases hlt : i < xs.length
  · refine .inr ⟨⟨xs, xs[i], q, by simp [hlt]⟩, Pv (i + 1), fun σ' H' p' => ⟨xs.length - (i + 1), by omega, rfl, hlt, p'⟩, fun v H' y => ?_⟩
    obtain ⟨T, x, rfl, nT, rfl, y⟩ := y
    exact ⟨T, _, rfl, .inl (.inl upd_same), rfl, _, _, rfl, x, [], rfl, rfl, hs i x σ H _ (y xs q) p (Evl.Ex.new nT)⟩
  · have e : i = xs.length := by omega
    subst e
    exact .inl ⟨⟨xs, q, Nat.le_refl _⟩, hd σ H p⟩
theorem r_while {tt : TT} (W : Nat → L2.St → Hp → Prop) (m0 : Nat) (h0 : W m0 σ H)
    (hs : ∀ m σ' H', W m σ' H' → tt σ' H' fun b H1 => if b = true then ∃ N : L2.St → Hp → Prop, (∀ σ2 H2, N σ2 H2 → ∃ m', m' < m ∧ W m' σ2 H2) ∧ tb { D with nx := N, ct := N, bk := D.nx } σ' H1 else D.nx σ' H1) : tWhile tt tb D σ H :=
  ⟨W, ⟨m0, h0⟩, hs⟩
theorem wh_in {W : Nat → L2.St → Hp → Prop} {m : Nat} (h : tb { D with nx := fun σ2 H2 => ∃ m', m' < m ∧ W m' σ2 H2, ct := fun σ2 H2 => ∃ m', m' < m ∧ W m' σ2 H2, bk := D.nx } σ H) :
    ∃ N : L2.St → Hp → Prop, (∀ σ2 H2, N σ2 H2 → ∃ m', m' < m ∧ W m' σ2 H2) ∧ tb { D with nx := N, ct := N, bk := D.nx } σ H := ⟨_, fun _ _ h => h, h⟩
end
/-! ### bounds -/
theorem small_le {n : Nat} (h : n ≤ 16777216) : n ≤ sizeLine := by rw [sizeLine_eq]; exact h
theorem small_lt {n : Nat} (h : n < 16777216) : n < sizeLine := by rw [sizeLine_eq]; exact h
/-! ### comprehensions -/
def Lc (J : It) (g : TG) (tt : TT) (te : TE) (vs : List Nat) (σ : L2.St) (H1 : Hp) (Q : VK) : Prop := ∀ D, H1 D = none → ∃ W : Nat → Nat → Hp → Prop, (∃ m, W 0 m (upd H1 D (.lst []))) ∧ ∀ i m H, W i m H →
  (J.stop i H ∧ Q (.ref D) H) ∨ (J.go i H ∧ ∃ Nx : Hp → Prop, (∀ H', Nx H' → ∃ m', m' < m ∧ W (i + 1) m' H') ∧ ∀ x H', J.yld i H x H' → g x (wipe σ vs) H' fun σ2 H2 => wipe σ2 vs = wipe σ vs ∧ tt σ2 H2 fun b H3 =>
    if b = true then te σ2 H3 fun y H4 => ∃ acc, H4 D = some (.lst acc) ∧ acc.length < sizeLine ∧ Nx (upd H4 D (.lst (acc ++ [y]))) else Nx H3)
theorem r_lc {wi : TI} {g : TG} {tt : TT} {te : TE} {vs : List Nat} {σ : L2.St} {H : Hp} {Q : VK} (h : wi σ H fun J H1 => Lc J g tt te vs σ H1 Q) : tLc wi g tt te vs σ H Q := h
theorem set_set {α : Type} : ∀ (l : List α) (i : Nat) (a b : α), (l.set i a).set i b = l.set i b
  | [], _, _, _ => rfl
  | _ :: _, 0, _, _ => rfl
  | x :: l, i + 1, a, b => by show x :: (l.set i a).set i b = x :: l.set i b; rw [set_set l i a b]
section
variable {K : PySem.W.Frag} {σ : L2.St} {H : Hp} {te : TE} {Q : VK} {g : TG}
theorem r_cListA {a : Addr} {xs : List V} {tt : TT} {vs : List Nat} (h : SqL K H a xs) (q : Lc (Itl K a) g tt te vs σ H Q) : ∃ a', V.ref a = .ref a' ∧ (∃ xs, SqL K H a' xs) ∧ Lc (Itl K a') g tt te vs σ H Q := ⟨a, rfl, ⟨xs, h⟩, q⟩
theorem r_cRng1A {j : Int} {tt : TT} {vs : List Nat} (h0 : -(2 ^ 62) ≤ j) (h1 : j < 2 ^ 62) (q : Lc (Itr 0 j.toNat) g tt te vs σ H Q) : ∃ j' : Int, [V.int j] = [.int j'] ∧ -(2 ^ 62) ≤ j' ∧ j' < 2 ^ 62 ∧ Lc (Itr 0 j'.toNat) g tt te vs σ H Q := ⟨j, rfl, h0, h1, q⟩
theorem r_cRng2A {i j : Int} {tt : TT} {vs : List Nat} (hb : -(2 ^ 62) ≤ i ∧ i < 2 ^ 62 ∧ -(2 ^ 62) ≤ j ∧ j < 2 ^ 62) (q : Lc (Itr i (j - i).toNat) g tt te vs σ H Q) : ∃ i' j' : Int, [V.int i, V.int j] = [.int i', .int j'] ∧ (-(2 ^ 62) ≤ i' ∧ i' < 2 ^ 62 ∧ -(2 ^ 62) ≤ j' ∧ j' < 2 ^ 62) ∧ Lc (Itr i' (j' - i').toNat) g tt te vs σ H Q := ⟨i, j, rfl, hb, q⟩
/-- over a list, each item giving a value by a function -/
theorem lc_map {a : Addr} {xs : List V} {j : Nat} (f : V → V) (hx : SqL K H a xs) (hz : xs.length < 1000000)
    (he : ∀ x, x ∈ xs → ∀ H1, Ex H H1 → ∀ Q' : VK, (∀ H2, Ex H1 H2 → Q' (f x) H2) → te (σ.set j (some x)) H1 Q')
    (q : ∀ p H', H p = none → Ex H H' → H' p = some (.lst (xs.map f)) → Q (.ref p) H') : Lc (Itl K a) (gName j) tYes te [j] σ H Q := fun D hD =>
  lc_list (xs := xs) (fun i H' => Ex H H' ∧ H' D = some (.lst ((xs.take i).map f))) ⟨Evl.Ex.new hD, upd_same⟩ (fun i H' _ p => p.1.l hx)
    (fun i x H' hi p => ⟨by show ((σ.set j none).set j (some x)).set j none = σ.set j none; rw [set_set, set_set], by
      show te ((σ.set j none).set j (some x)) H' _
      rw [set_set]
      refine he x (List.mem_of_getElem? hi) H' p.1 _ fun H2 e2 => ⟨_, e2 D _ p.2, ?_, (Evl.Ex.mut (p.1.trans e2) hD), ?_⟩
      · rw [List.length_map, List.length_take]; exact small_lt (by omega)
      · rw [upd_same, List.take_add_one, hi, List.map_append]; rfl⟩)
    (fun H' p => q D H' hD p.1 (by rw [List.take_length] at p; exact p.2))
/-- over a list of ints, each giving an int -/
theorem lc_ints {a : Addr} {ns : List Int} {j : Nat} (f : Int → Int) (hx : SqL K H a (ns.map V.int)) (hz : ns.length < 1000000)
    (he : ∀ x, x ∈ ns → ∀ H1, Ex H H1 → ∀ Q' : VK, (∀ H2, Ex H1 H2 → Q' (.int (f x)) H2) → te (σ.set j (some (.int x))) H1 Q')
    (q : ∀ p H', H p = none → Ex H H' → H' p = some (.lst ((ns.map f).map V.int)) → Q (.ref p) H') : Lc (Itl K a) (gName j) tYes te [j] σ H Q :=
  lc_map (xs := ns.map V.int) (fun v => match v with | .int x => .int (f x) | v => v) hx (by rw [List.length_map]; exact hz)
    (fun v hv H1 e1 Q' k => by
      obtain ⟨x, hx', rfl⟩ := List.mem_map.mp hv
      exact he x hx' H1 e1 Q' k)
    (fun p H' hp e h => q p H' hp e (by
      rw [List.map_map] at h ⊢
      exact h))
/-- over a range from 0, each giving an int -/
theorem lc_rangeI {n : Nat} {j : Nat} (f : Nat → Int) (hz : n < 1000000)
    (he : ∀ i, i < n → ∀ H1, Ex H H1 → ∀ Q' : VK, (∀ H2, Ex H1 H2 → Q' (.int (f i)) H2) → te (σ.set j (some (.int (i : Int)))) H1 Q')
    (q : ∀ p H', H p = none → Ex H H' → H' p = some (.lst (((List.range n).map f).map V.int)) → Q (.ref p) H') : Lc (Itr 0 n) (gName j) tYes te [j] σ H Q := fun D hD =>
  lc_range (lo := 0) (n := n) (fun i H' => Ex H H' ∧ H' D = some (.lst (((List.range i).map f).map V.int))) ⟨Evl.Ex.new hD, upd_same⟩
    (fun i H' hi p => ⟨by show ((σ.set j none).set j _).set j none = σ.set j none; rw [set_set, set_set], by
      show te ((σ.set j none).set j (some (.int ((0 : Int) + (i : Int))))) H' _
      rw [set_set, show (0 : Int) + (i : Int) = (i : Int) from Int.zero_add _]
      refine he i hi H' p.1 _ fun H2 e2 => ⟨_, e2 D _ p.2, ?_, (Evl.Ex.mut (p.1.trans e2) hD), ?_⟩
      · rw [List.length_map, List.length_map, List.length_range]; exact small_lt (by omega)
      · rw [upd_same, List.range_succ, List.map_append, List.map_append]; rfl⟩)
    (fun H' p => q D H' hD p.1 p.2)
end
/-- an item of a list of ints -/
theorem r_ixI {K : PySem.W.Frag} {H : Hp} {Q : VK} {p : Addr} {i : Int} {ns : List Int} (h : SqL K H p (ns.map V.int)) (h0 : 0 ≤ i) (h1 : i < ns.length) (q : Q (.int (ns.getD i.toNat 0)) H) : rIxL K (.ref p) (.int i) H Q := by
  obtain ⟨k, rfl⟩ : ∃ k : Nat, i = (k : Int) := ⟨i.toNat, by omega⟩
  have hk : k < ns.length := by omega
  refine r_ixL h (atI_nat (j := k) (v := .int ns[k]) ?_) ?_
  · rw [List.getElem?_map, List.getElem?_eq_getElem hk]; rfl
  · rw [Int.toNat_natCast, List.getD_eq_getElem?_getD, List.getElem?_eq_getElem hk] at q
    exact q
/-- a slice of a list of ints, both ends in it -/
theorem cutI (ns : List Int) (lo hi : Option Int) : cutV (ns.map V.int) lo hi = ((ns.drop (HT.sIx ns.length 0 lo)).take (HT.sIx ns.length ns.length hi - HT.sIx ns.length 0 lo)).map V.int := by
  unfold cutV
  rw [List.length_map, List.map_take, List.map_drop]
/-- the part of a list between two bounds -/
def sliceI (ns : List Int) (lo hi : Option Int) : List Int := (ns.drop (HT.sIx ns.length 0 lo)).take (HT.sIx ns.length ns.length hi - HT.sIx ns.length 0 lo)
theorem sliceI_mem {ns : List Int} {lo hi : Option Int} {x : Int} (h : x ∈ sliceI ns lo hi) : x ∈ ns := List.mem_of_mem_drop (List.mem_of_mem_take h)
theorem sliceI_len (ns : List Int) (lo hi : Option Int) : (sliceI ns lo hi).length ≤ ns.length := by
  unfold sliceI
  rw [List.length_take, List.length_drop]; omega
theorem r_slI {K : PySem.W.Frag} {H : Hp} {Q : VK} {a : Addr} {ns : List Int} {lo hi : Option Int} (h : SqL K H a (ns.map V.int)) (q : ∀ p H', H p = none → Ex H H' → H' p = some (.lst ((sliceI ns lo hi).map V.int)) → Q (.ref p) H') : rSlL K (.ref a) lo hi H Q :=
  r_slL h fun p H' hp e hh => q p H' hp e (by rw [cutI] at hh; exact hh)
theorem r_repN {H : Hp} {Q : VK} {l : Addr} {ns : List Int} {k : Int} (h1 : H l = some (.lst (ns.map V.int))) (hk : k < 2 ^ 63) (z : ns.length * k.toNat ≤ 16777216) (q : ∀ p H', H p = none → Ex H H' → H' p = some (.lst (((List.replicate k.toNat ns).flatten).map V.int)) → Q (.ref p) H') (h0 : -(2 ^ 63) ≤ k := by omega) : rRep (.ref l) (.int k) H Q :=
  ⟨l, k, _, rfl, rfl, h1, h0, hk, by rw [List.length_map]; exact small0 z, newL fun p H' a b c => q p H' a b (by rw [List.map_flatten, List.map_replicate]; exact c)⟩
def insI (ns : List Int) (i : Int) (y : Int) : List Int := ns.take i.toNat ++ [y] ++ ns.drop i.toNat
theorem insI_mem {ns : List Int} {i y x : Int} : x ∈ insI ns i y ↔ x = y ∨ x ∈ ns := by
  unfold insI
  have h : x ∈ ns ↔ x ∈ ns.take i.toNat ∨ x ∈ ns.drop i.toNat := by rw [← List.mem_append, List.take_append_drop]
  rw [h, List.mem_append, List.mem_append, List.mem_singleton]
  constructor
  · rintro ((h | h) | h)
    · exact .inr (.inl h)
    · exact .inl h
    · exact .inr (.inr h)
  · rintro (h | h | h)
    · exact .inl (.inr h)
    · exact .inl (.inl h)
    · exact .inr h
theorem insI_len (ns : List Int) (i y : Int) : (insI ns i y).length = ns.length + 1 := by
  unfold insI
  rw [List.length_append, List.length_append, List.length_take, List.length_drop]
  show min i.toNat ns.length + 1 + (ns.length - i.toNat) = _
  omega
theorem r_insertI {H : Hp} {Q : VK} {l : Addr} {ns : List Int} {i y : Int} (h : H l = some (.lst (ns.map V.int))) (z : ns.length < 16777216) (h0 : 0 ≤ i) (h1 : i < 2 ^ 63) (q : ∀ H', Exb l H H' → H' l = some (.lst ((insI ns i y).map V.int)) → Q .non H') : rInsert (.ref l) [.int i, .int y] H Q :=
  r_insert h (by rw [List.length_map]; exact small_lt z) h0 h1 fun H' e hh => q H' e (by
    unfold insI
    rw [List.map_append, List.map_append, List.map_take, List.map_drop]
    exact hh)
theorem r_appendI {H : Hp} {Q : VK} {l : Addr} {ns : List Int} {y : Int} (h : H l = some (.lst (ns.map V.int))) (z : ns.length < 16777216) (q : ∀ H', Exb l H H' → H' l = some (.lst ((ns ++ [y]).map V.int)) → Q .non H') : rAppend (.ref l) [.int y] H Q :=
  r_append h (by rw [List.length_map]; exact small_lt z) fun H' e hh => q H' e (by rw [List.map_append]; exact hh)
theorem r_catI {H : Hp} {Q : VK} {l b : Addr} {ns ms : List Int} (h1 : H l = some (.lst (ns.map V.int))) (h2 : H b = some (.lst (ms.map V.int))) (z : ns.length + ms.length ≤ 16777216) (q : ∀ p H', H p = none → Ex H H' → H' p = some (.lst ((ns ++ ms).map V.int)) → Q (.ref p) H') : rCat (.ref l) (.ref b) H Q :=
  r_cat h1 h2 (by rw [List.length_map, List.length_map]; exact small0 z) fun p H' a e hh => q p H' a e (by rw [List.map_append]; exact hh)
theorem i_t {A B : Prop} (h : A) : if true = true then A else B := iteT h
theorem i_f {A B : Prop} (h : B) : if false = true then A else B := iteF h
theorem i_nt {A B : Prop} (h : B) : if (!true) = true then A else B := iteF h
theorem i_nf {A B : Prop} (h : A) : if (!false) = true then A else B := iteT h
theorem sliceI_to {ns : List Int} {n : Nat} (h : n ≤ ns.length) : sliceI ns none (some (n : Int)) = ns.take n := by
  unfold sliceI
  rw [HT.sIx_none, HT.sIx_nat, List.drop_zero, Nat.min_eq_left h]; rfl
theorem sliceI_toI {ns : List Int} {n : Int} (h0 : 0 ≤ n) : sliceI ns none (some n) = ns.take n.toNat := by
  obtain ⟨k, rfl⟩ : ∃ k : Nat, n = (k : Int) := ⟨n.toNat, by omega⟩
  unfold sliceI
  rw [HT.sIx_none, HT.sIx_nat, List.drop_zero, Int.toNat_natCast, Nat.sub_zero]
  by_cases h : k ≤ ns.length
  · rw [Nat.min_eq_left h]
  · rw [Nat.min_eq_right (by omega), List.take_length, List.take_of_length_le (by omega)]
theorem sliceI_fromI {ns : List Int} {n : Int} (h0 : 0 ≤ n) : sliceI ns (some n) none = ns.drop n.toNat := by
  obtain ⟨k, rfl⟩ : ∃ k : Nat, n = (k : Int) := ⟨n.toNat, by omega⟩
  unfold sliceI
  rw [HT.sIx_none, HT.sIx_nat, Int.toNat_natCast]
  by_cases h : k ≤ ns.length
  · rw [Nat.min_eq_left h, List.take_of_length_le (by rw [List.length_drop]; omega)]
  · rw [Nat.min_eq_right (by omega), List.drop_eq_nil_of_le (by omega : ns.length ≤ k), List.drop_length, List.take_nil]
theorem sliceI_bothI {ns : List Int} {n m : Int} (h0 : 0 ≤ n) (h1 : n ≤ m) : sliceI ns (some n) (some m) = (ns.drop n.toNat).take (m.toNat - n.toNat) := by
  obtain ⟨k, rfl⟩ : ∃ k : Nat, n = (k : Int) := ⟨n.toNat, by omega⟩
  obtain ⟨l, rfl⟩ : ∃ l : Nat, m = (l : Int) := ⟨m.toNat, by omega⟩
  unfold sliceI
  rw [HT.sIx_nat, HT.sIx_nat, Int.toNat_natCast, Int.toNat_natCast]
  by_cases h : k ≤ ns.length
  · rw [Nat.min_eq_left h]
    by_cases h' : l ≤ ns.length
    · rw [Nat.min_eq_left h']
    · rw [Nat.min_eq_right (by omega), List.take_of_length_le (by rw [List.length_drop]; omega), List.take_of_length_le (by rw [List.length_drop]; omega)]
  · rw [Nat.min_eq_right (show ns.length ≤ k by omega), List.drop_length, List.drop_eq_nil_of_le (by omega : ns.length ≤ k)]; simp
/-- what a def that makes a new list of ints promises -/
def RetI (xs : List Int) (H : Hp) (Q : VK) : Prop := ∀ p H', H p = none → Ex H H' → H' p = some (.lst (xs.map V.int)) → Q (.ref p) H'
theorem RetI.go {xs : List Int} {H H1 : Hp} {Q : VK} (k : RetI xs H Q) (e : Ex H H1) {p : Addr} {H2 : Hp} (hp : H1 p = none) (e2 : Ex H1 H2) (h : H2 p = some (.lst (xs.map V.int))) : Q (.ref p) H2 := k p H2 (Evl.fresh_back e hp) (e.trans e2) h
/-! ### the heap since the entry -/
/-- all that stood in H stands in H' (the same as Ex, kept apart) -/
structure Fx (H H' : Hp) : Prop where
  to : Ex H H'
theorem Fx.refl (H : Hp) : Fx H H := ⟨Evl.Ex.refl H⟩
theorem Fx.ex {H H1 H2 : Hp} (f : Fx H H1) (e : Ex H1 H2) : Fx H H2 := ⟨Evl.Ex.trans f.to e⟩
theorem Fx.of {H H1 : Hp} (e : Ex H H1) : Fx H H1 := ⟨e⟩
theorem Fx.mut {H H1 H2 : Hp} {l : Addr} (f : Fx H H1) (b : Exb l H1 H2) (h : H l = none) : Fx H H2 := ⟨Evl.Ex.mutb f.to b h⟩
theorem Fx.free {H H1 : Hp} {p : Addr} (f : Fx H H1) (h : H1 p = none) : H p = none := Evl.fresh_back f.to h
theorem Fx.l {K : PySem.W.Frag} {H H' : Hp} {a : Addr} {xs : List V} (e : Fx H H') (h : SqL K H a xs) : SqL K H' a xs := Evl.ex_l e.to h
theorem hx_e {H H' : Hp} {a : Addr} {o : HO} (e : Ex H H') (h : H a = some o) : H' a = some o := e a o h
theorem hx_b {H H' : Hp} {a l : Addr} {o : HO} (e : Exb l H H') (n : a ≠ l) (h : H a = some o) : H' a = some o := e a n o h
theorem ne_1 {H : Hp} {a l : Addr} {o : HO} (h' : H l = none) (h : H a = some o) : a ≠ l := ne_of_none h h'
theorem ne_2 {H : Hp} {a l : Addr} {o : HO} (h' : H a = none) (h : H l = some o) : a ≠ l := (ne_of_none h h').symm
def tTru (K : PySem.W.Frag) (te : TE) : TT := fun σ H Q => te σ H fun x H' => ∃ k, TruV K x H' k ∧ Q k H'
theorem pt_tru {X : Cx} {a : Expr} {ta : TE} (ha : PE X a ta) (he : ∀ whole, isTrue a X.env whole = (do let v ← whole; standAt a.pos; holding [v] (truthy v)) := by intro _; rfl) : PT X a (tTru X.K ta) := pt_truth ha he
theorem r_tru {K : PySem.W.Frag} {te : TE} {σ : L2.St} {H : Hp} {Q : Bool → Hp → Prop} (h : te σ H fun x H' => ∃ k, TruV K x H' k ∧ Q k H') : tTru K te σ H Q := h
theorem r_truL {K : PySem.W.Frag} {a : Addr} {xs : List V} {H : Hp} {Q : Bool → Prop} (h : SqL K H a xs) (q : Q (!xs.isEmpty)) : ∃ k, TruV K (.ref a) H k ∧ Q k := ⟨_, .inl ⟨xs, h, rfl⟩, q⟩
def RevK (K : PySem.W.Frag) (Q : VK) : V → Hp → Prop := fun x H1 => ∃ a xs, x = .ref a ∧ SqL K H1 a xs ∧ ∀ p, H1 p = none → Q (.ref p) (upd H1 p (.lst xs.reverse))
theorem r_rev {K : PySem.W.Frag} {te : TE} {σ : L2.St} {H : Hp} {Q : VK} (h : te σ H (RevK K Q)) : tRevL K te σ H Q := h
theorem r_revI {K : PySem.W.Frag} {H : Hp} {Q : VK} {a : Addr} {ns : List Int} (h : SqL K H a (ns.map V.int)) (q : ∀ p H', H p = none → Ex H H' → H' p = some (.lst (ns.reverse.map V.int)) → Q (.ref p) H') : RevK K Q (.ref a) H :=
  ⟨a, _, rfl, h, newL fun p H' hp e hh => q p H' hp e (by rw [List.map_reverse]; exact hh)⟩
theorem rg2 {a b : Int} (ha : 0 ≤ a) (ha' : a < 2 ^ 60) (hb : -(2 ^ 60) ≤ b) (hb' : b < 2 ^ 60) : RgC a b 2 ((b - a + 1) / 2).toNat := by
  have e : Builtin.Range.rangeSize a b 2 = (((b - a + 1) / 2).toNat : Int) := by
    unfold Builtin.Range.rangeSize
    rw [if_pos (by decide)]
    split <;> omega
  refine ⟨by decide, by decide, ?_, e⟩
  unfold Builtin.Range.small
  rw [e]
  simp only [Builtin.Range.rangeFitsLong, Bool.and_eq_true, Bool.or_eq_true, decide_eq_true_eq, beq_iff_eq, show ((2 : Int) > 0) by decide, if_true]
  omega
theorem r_iRng3 {ta : TA} {σ : L2.St} {H : Hp} {R : It → Hp → Prop} (h : ta σ H fun vs H1 => ∃ (i j c : Int) (n : Nat), vs = [.int i, .int j, .int c] ∧ RgC i j c n ∧ R (Itc i c n) H1) : iRng3 ta σ H R := h
theorem r_iRng3A {g : TG} {tb : TS} {D : Ends} {σ : L2.St} {H : Hp} {i j c : Int} {n : Nat} (h : RgC i j c n) (q : Lp (Itc i c n) g tb D σ H) : ∃ (i' j' c' : Int) (n : Nat), [V.int i, V.int j, V.int c] = [.int i', .int j', .int c'] ∧ RgC i' j' c' n ∧ Lp (Itc i' c' n) g tb D σ H := ⟨i, j, c, n, rfl, h, q⟩
/-- over a range from lo, each giving an int -/
theorem lc_rangeL {σ : L2.St} {H : Hp} {te : TE} {Q : VK} {lo : Int} {n : Nat} {j : Nat} (f : Nat → Int) (hz : n < 1000000)
    (he : ∀ i, i < n → ∀ H1, Ex H H1 → ∀ Q' : VK, (∀ H2, Ex H1 H2 → Q' (.int (f i)) H2) → te (σ.set j (some (.int (lo + (i : Int))))) H1 Q')
    (q : ∀ p H', H p = none → Ex H H' → H' p = some (.lst (((List.range n).map f).map V.int)) → Q (.ref p) H') : Lc (Itr lo n) (gName j) tYes te [j] σ H Q := fun D hD =>
  lc_range (lo := lo) (n := n) (fun i H' => Ex H H' ∧ H' D = some (.lst (((List.range i).map f).map V.int))) ⟨Evl.Ex.new hD, upd_same⟩
    (fun i H' hi p => ⟨by show ((σ.set j none).set j _).set j none = σ.set j none; rw [set_set, set_set], by
      show te ((σ.set j none).set j (some (.int (lo + (i : Int))))) H' _
      rw [set_set]
      refine he i hi H' p.1 _ fun H2 e2 => ⟨_, e2 D _ p.2, ?_, (Evl.Ex.mut (p.1.trans e2) hD), ?_⟩
      · rw [List.length_map, List.length_map, List.length_range]; exact small_lt (by omega)
      · rw [upd_same, List.range_succ, List.map_append, List.map_append]; rfl⟩)
    (fun H' p => q D H' hD p.1 p.2)
theorem r_lenI {K : PySem.W.Frag} {H : Hp} {Q : VK} {p : Addr} {ns : List Int} (h : SqL K H p (ns.map V.int)) (q : Q (.int ns.length) H) : rLenS K [.ref p] H Q := ⟨p, _, rfl, .inl h, by rw [List.length_map]; exact q⟩
/-- the last item -/
theorem r_ixLast {K : PySem.W.Frag} {H : Hp} {Q : VK} {p : Addr} {ns : List Int} (h : SqL K H p (ns.map V.int)) (h0 : ns ≠ []) (q : Q (.int (ns.getD (ns.length - 1) 0)) H) : rIxL K (.ref p) (.int (-1)) H Q := by
  have e : ns.map V.int = (ns.dropLast.map V.int) ++ [.int (ns.getD (ns.length - 1) 0)] := by
    have e1 : ns.getD (ns.length - 1) 0 = ns.getLast h0 := by
      rw [List.getD_eq_getElem?_getD, ← List.getLast?_eq_getElem?, List.getLast?_eq_some_getLast h0]; rfl
    rw [e1, ← List.map_singleton, ← List.map_append, List.dropLast_concat_getLast]
  exact r_ixL h (by rw [e]; exact atI_last _ _) q
theorem r_truI {K : PySem.W.Frag} {a : Addr} {ns : List Int} {H : Hp} {Q : Bool → Hp → Prop} (h : SqL K H a (ns.map V.int)) (q : Q (!decide (ns = [])) H) : ∃ k, TruV K (.ref a) H k ∧ Q k H := ⟨_, .inl ⟨_, h, rfl⟩, by
  have e : (!(ns.map V.int).isEmpty) = !decide (ns = []) := by
    cases ns with
    | nil => rfl
    | cons x r => rfl
  rw [e]; exact q⟩
theorem r_rg1 {te : TE} {σ : L2.St} {H : Hp} {R : Int → Int → Hp → Prop} (h : te σ H fun x H1 => ∃ b, x = .int b ∧ R 0 b H1) : tRg1 te σ H R := h
theorem r_revRA {g : TG} {tb : TS} {D : Ends} {σ : L2.St} {H : Hp} {b : Int} (h0 : -(2 ^ 62) ≤ b) (h1 : b < 2 ^ 62) (q : Lp (Itc (b.toNat - 1) (-1) b.toNat) g tb D σ H) : -(2 ^ 62) ≤ (0 : Int) ∧ (0 : Int) < 2 ^ 62 ∧ -(2 ^ 62) ≤ b ∧ b < 2 ^ 62 ∧ Lp (Itc (0 + (((b - 0).toNat : Nat) : Int) - 1) (-1) (b - 0).toNat) g tb D σ H := ⟨by decide, by decide, h0, h1, by
  rw [Int.sub_zero, Int.zero_add]; exact q⟩
/-- a loop over range(n), backwards -/
theorem loop_down {n : Nat} {j : Nat} {tb : TS} {D : Ends} {σ : L2.St} {H : Hp} (Pv : Nat → L2.St → Hp → Prop) (h0 : Pv n σ H)
    (hs : ∀ k σ H, k < n → Pv (k + 1) σ H → tb { D with nx := Pv k, ct := Pv k, bk := D.nx } (σ.set j (some (.int (k : Int)))) H) (hd : ∀ σ H, Pv 0 σ H → D.nx σ H) : Lp (Itc ((n : Int) - 1) (-1) n) (gName j) tb D σ H := by
  refine ⟨fun i m σ H => m = n - i ∧ i ≤ n ∧ Pv (n - i) σ H, ⟨n, by simp, Nat.zero_le _, h0⟩, ?_⟩
  rintro i m σ H ⟨rfl, hi, p⟩
  by_cases hlt : i < n
  · refine .inr ⟨hlt, Pv (n - (i + 1)), fun σ' H' p' => ⟨n - (i + 1), by omega, rfl, hlt, p'⟩, fun x H' y => ?_⟩
    obtain ⟨rfl, rfl⟩ := y
    have e1 : (n : Int) - 1 + (i : Int) * -1 = ((n - (i + 1) : Nat) : Int) := by omega
    have e2 : n - i = n - (i + 1) + 1 := by omega
    rw [e1]
    rw [e2] at p
    exact hs (n - (i + 1)) σ _ (by omega) p
  · have e : i = n := by omega
    subst e
    rw [Nat.sub_self] at p
    exact .inl ⟨Nat.le_refl _, hd σ H p⟩
theorem never_ {t : TS} {D : Ends} {σ : L2.St} {H : Hp} (h : False) : t D σ H := h.elim
end RB

set_option linter.all false
/-! Lists of coefficients. -/
namespace ML
/-- the coefficient at a place, 0 beyond -/
def cf (P : List Int) (k : Nat) : Int := P.getD k 0
theorem cf_nil (k : Nat) : cf [] k = 0 := by simp [cf]
theorem cf_zero (x : Int) (r : List Int) : cf (x :: r) 0 = x := rfl
theorem cf_succ (x : Int) (r : List Int) (k : Nat) : cf (x :: r) (k + 1) = cf r k := by simp [cf]
theorem cf_get {P : List Int} {k : Nat} (h : k < P.length) : cf P k = P[k] := by
  unfold cf; rw [List.getD_eq_getElem?_getD, List.getElem?_eq_getElem h]; rfl
theorem cf_some {P : List Int} {k : Nat} {x : Int} (h : P[k]? = some x) : cf P k = x := by
  unfold cf; rw [List.getD_eq_getElem?_getD, h]; rfl
theorem cf_beyond {P : List Int} {k : Nat} (h : P.length ≤ k) : cf P k = 0 := by
  unfold cf; rw [List.getD_eq_getElem?_getD, List.getElem?_eq_none h]; rfl
theorem cf_getElem? {P : List Int} {k : Nat} (h : k < P.length) : P[k]? = some (cf P k) := by
  rw [cf_get h, List.getElem?_eq_getElem h]
/-- two lists of one length with the same coefficients are alike -/
theorem ext {P Q : List Int} (hl : P.length = Q.length) (h : ∀ k, k < P.length → cf P k = cf Q k) : P = Q := by
  apply List.ext_getElem hl
  intro i h1 h2
  rw [← cf_get h1, ← cf_get h2]
  exact h i h1
/-- without noughts at the end -/
def Trim (P : List Int) : Prop := P = [] ∨ cf P (P.length - 1) ≠ 0
theorem trim_ext {P Q : List Int} (hP : Trim P) (hQ : Trim Q) (h : ∀ k, cf P k = cf Q k) : P = Q := by
  have aux : ∀ {P Q : List Int}, Trim P → (∀ k, cf P k = cf Q k) → P.length ≤ Q.length := fun {P Q} hP h => by
    rcases hP with rfl | hP
    · exact Nat.zero_le _
    · apply Nat.le_of_not_lt
      intro hl
      have := h (P.length - 1)
      rw [cf_beyond (P := Q) (by omega)] at this
      exact hP this
  exact ext (Nat.le_antisymm (aux hP h) (aux hQ fun k => (h k).symm)) fun k _ => h k
def trimL : List Int → List Int
  | [] => []
  | x :: r => match trimL r with
    | [] => if x = 0 then [] else [x]
    | y :: s => x :: y :: s
theorem cf_trimL : ∀ (P : List Int) (k : Nat), cf (trimL P) k = cf P k
  | [], k => rfl
  | x :: r, k => by
    have ih := cf_trimL r
    unfold trimL
    split
    · next e =>
      rw [e] at ih
      split
      · next hx =>
        subst hx
        cases k with
        | zero => rfl
        | succ k => rw [cf_succ, ← ih k, cf_nil, cf_nil]
      · cases k with
        | zero => rfl
        | succ k => rw [cf_succ, cf_succ, ← ih k]
    · next y s e =>
      rw [e] at ih
      cases k with
      | zero => rfl
      | succ k => rw [cf_succ, cf_succ, ← ih k]
theorem trim_trimL : ∀ P : List Int, Trim (trimL P)
  | [] => .inl rfl
  | x :: r => by
    have ih := trim_trimL r
    unfold trimL
    split
    · split
      · exact .inl rfl
      · next hx => exact .inr hx
    · next y s e =>
      rw [e] at ih
      rcases ih with h | h
      · cases h
      · refine .inr ?_
        show cf (x :: y :: s) (s.length + 1) ≠ 0
        rw [cf_succ]
        exact h
theorem trimL_eq {P Q : List Int} (hQ : Trim Q) (h : ∀ k, cf Q k = cf P k) : trimL P = Q := trim_ext (trim_trimL P) hQ fun k => by rw [cf_trimL, h]
theorem trimL_self {P : List Int} (h : Trim P) : trimL P = P := trimL_eq h fun _ => rfl
theorem trimL_trimL (P : List Int) : trimL (trimL P) = trimL P := trimL_self (trim_trimL P)
theorem trimL_len : ∀ P : List Int, (trimL P).length ≤ P.length
  | [] => Nat.le_refl _
  | x :: r => by
    have ih := trimL_len r
    unfold trimL
    split
    · split <;> simp
    · next y s e =>
      rw [e] at ih
      simp only [List.length_cons] at ih ⊢
      omega
theorem trimL_congr {P Q : List Int} (h : ∀ k, cf P k = cf Q k) : trimL P = trimL Q := trim_ext (trim_trimL P) (trim_trimL Q) fun k => by rw [cf_trimL, cf_trimL, h]
/-- what the loop finds -/
theorem trimL_take {P : List Int} {n : Nat} (hn : n ≤ P.length) (h0 : ∀ k, n ≤ k → cf P k = 0) (h1 : n = 0 ∨ cf P (n - 1) ≠ 0) : trimL P = P.take n := by
  have hc : ∀ k, cf (P.take n) k = cf P k := fun k => by
    by_cases hk : k < n
    · unfold cf
      rw [List.getD_eq_getElem?_getD, List.getD_eq_getElem?_getD, List.getElem?_take_of_lt hk]
    · rw [h0 k (by omega), cf_beyond (by rw [List.length_take]; omega)]
  refine trimL_eq ?_ hc
  rcases h1 with h1 | h1
  · left; subst h1; rfl
  · by_cases hz : n = 0
    · left; subst hz; rfl
    · right
      rw [List.length_take, Nat.min_eq_left hn, hc]
      exact h1
/-- all coefficients below 2 ^ n -/
def Sz (n : Nat) (P : List Int) : Prop := ∀ x ∈ P, x.natAbs < 2 ^ n
theorem Sz.cf {n : Nat} {P : List Int} (h : Sz n P) (k : Nat) : (cf P k).natAbs < 2 ^ n := by
  by_cases hk : k < P.length
  · rw [cf_get hk]; exact h _ (List.getElem_mem hk)
  · rw [cf_beyond (by omega)]; exact Nat.two_pow_pos n
theorem Sz.of {n : Nat} {P : List Int} (h : ∀ k, k < P.length → (ML.cf P k).natAbs < 2 ^ n) : Sz n P := fun x hx => by
  obtain ⟨k, hk, rfl⟩ := List.getElem_of_mem hx
  rw [← cf_get hk]; exact h k hk
theorem Sz.mono {n m : Nat} {P : List Int} (h : Sz n P) (hm : n ≤ m) : Sz m P := fun x hx => Nat.lt_of_lt_of_le (h x hx) (Nat.pow_le_pow_right (by decide) hm)
theorem Sz.trim {n : Nat} {P : List Int} (h : Sz n P) : Sz n (trimL P) := Sz.of fun k _ => by rw [cf_trimL]; exact h.cf k
theorem Sz.take {n : Nat} {P : List Int} (h : Sz n P) (k : Nat) : Sz n (P.take k) := fun x hx => h x (List.mem_of_mem_take hx)
theorem Sz.drop {n : Nat} {P : List Int} (h : Sz n P) (k : Nat) : Sz n (P.drop k) := fun x hx => h x (List.mem_of_mem_drop hx)
theorem Sz.append {n : Nat} {P Q : List Int} (h : Sz n P) (h' : Sz n Q) : Sz n (P ++ Q) := fun x hx => (List.mem_append.mp hx).elim (h x) (h' x)
theorem Sz.nil (n : Nat) : Sz n [] := fun x hx => by cases hx
theorem Sz.cons {n : Nat} {x : Int} {P : List Int} (hx : x.natAbs < 2 ^ n) (h : Sz n P) : Sz n (x :: P) := fun y hy => (List.mem_cons.mp hy).elim (fun e => by rw [e]; exact hx) (h y)
theorem Sz.rep0 (n k : Nat) : Sz n (List.replicate k 0) := fun x hx => by
  rw [List.mem_replicate] at hx
  rw [hx.2]; exact Nat.two_pow_pos n
theorem Sz.reverse {n : Nat} {P : List Int} (h : Sz n P) : Sz n P.reverse := fun x hx => h x (List.mem_reverse.mp hx)
theorem cf_map {f : Int → Int} (h0 : f 0 = 0) (P : List Int) (k : Nat) : cf (P.map f) k = f (cf P k) := by
  unfold cf
  rw [List.getD_eq_getElem?_getD, List.getD_eq_getElem?_getD, List.getElem?_map]
  cases P[k]? with
  | none => exact h0.symm
  | some x => rfl
theorem cf_range {n : Nat} {f : Nat → Int} {k : Nat} (h : k < n) : cf ((List.range n).map f) k = f k := by
  rw [cf_get (by simpa using h)]; simp
theorem cf_range_beyond {n : Nat} {f : Nat → Int} {k : Nat} (h : n ≤ k) : cf ((List.range n).map f) k = 0 := cf_beyond (by simpa using h)
theorem cf_set {P : List Int} {i k : Nat} {x : Int} (h : i < P.length) : cf (P.set i x) k = if k = i then x else cf P k := by
  unfold cf
  rw [List.getD_eq_getElem?_getD, List.getElem?_set, List.getD_eq_getElem?_getD]
  by_cases e : i = k
  · subst e; simp [h]
  · rw [if_neg e, if_neg (fun z => e z.symm)]
theorem cf_append_left {P Q : List Int} {k : Nat} (h : k < P.length) : cf (P ++ Q) k = cf P k := by
  unfold cf
  rw [List.getD_eq_getElem?_getD, List.getElem?_append_left h, List.getD_eq_getElem?_getD]
theorem cf_append_right {P Q : List Int} {k : Nat} (h : P.length ≤ k) : cf (P ++ Q) k = cf Q (k - P.length) := by
  unfold cf
  rw [List.getD_eq_getElem?_getD, List.getElem?_append_right h, List.getD_eq_getElem?_getD]
theorem cf_rep0 (n k : Nat) : cf (List.replicate n 0) k = 0 := by
  unfold cf
  rw [List.getD_eq_getElem?_getD, List.getElem?_replicate]
  split <;> rfl
theorem cf_drop (P : List Int) (n k : Nat) : cf (P.drop n) k = cf P (n + k) := by
  unfold cf
  rw [List.getD_eq_getElem?_getD, List.getElem?_drop, List.getD_eq_getElem?_getD]
theorem cf_take {P : List Int} {n k : Nat} (h : k < n) : cf (P.take n) k = cf P k := by
  unfold cf
  rw [List.getD_eq_getElem?_getD, List.getD_eq_getElem?_getD, List.getElem?_take_of_lt h]

/-! ### sums and products -/
def addL (P Q : List Int) : List Int := trimL ((List.range (max P.length Q.length)).map fun k => cf P k + cf Q k)
def subL (P Q : List Int) : List Int := trimL ((List.range (max P.length Q.length)).map fun k => cf P k - cf Q k)
theorem cf_addL (P Q : List Int) (k : Nat) : cf (addL P Q) k = cf P k + cf Q k := by
  unfold addL
  rw [cf_trimL]
  by_cases h : k < max P.length Q.length
  · rw [cf_range h]
  · rw [cf_range_beyond (by omega), cf_beyond (P := P) (by omega), cf_beyond (P := Q) (by omega)]; rfl
theorem cf_subL (P Q : List Int) (k : Nat) : cf (subL P Q) k = cf P k - cf Q k := by
  unfold subL
  rw [cf_trimL]
  by_cases h : k < max P.length Q.length
  · rw [cf_range h]
  · rw [cf_range_beyond (by omega), cf_beyond (P := P) (by omega), cf_beyond (P := Q) (by omega)]; rfl
theorem trim_addL (P Q : List Int) : Trim (addL P Q) := trim_trimL _
theorem trim_subL (P Q : List Int) : Trim (subL P Q) := trim_trimL _
/-- the sum of f over 0 .. n - 1 -/
def sm : Nat → (Nat → Int) → Int
  | 0, _ => 0
  | n + 1, f => sm n f + f n
theorem sm_succ (n : Nat) (f : Nat → Int) : sm (n + 1) f = sm n f + f n := rfl
theorem sm_congr {n : Nat} {f g : Nat → Int} (h : ∀ i, i < n → f i = g i) : sm n f = sm n g := by
  induction n with
  | zero => rfl
  | succ n ih => unfold sm; rw [ih fun i hi => h i (by omega), h n (by omega)]
theorem sm_zero {n : Nat} {f : Nat → Int} (h : ∀ i, i < n → f i = 0) : sm n f = 0 := by
  induction n with
  | zero => rfl
  | succ n ih => unfold sm; rw [ih fun i hi => h i (by omega), h n (by omega)]; rfl
theorem sm_add (n : Nat) (f g : Nat → Int) : sm n (fun i => f i + g i) = sm n f + sm n g := by
  induction n with
  | zero => rfl
  | succ n ih => simp only [sm_succ]; rw [ih]; omega
theorem sm_sub (n : Nat) (f g : Nat → Int) : sm n (fun i => f i - g i) = sm n f - sm n g := by
  induction n with
  | zero => rfl
  | succ n ih => simp only [sm_succ]; rw [ih]; omega
theorem sm_mul (n : Nat) (c : Int) (f : Nat → Int) : sm n (fun i => c * f i) = c * sm n f := by
  induction n with
  | zero => simp [sm]
  | succ n ih => unfold sm; rw [ih, Int.mul_add]
theorem sm_mul_r (n : Nat) (c : Int) (f : Nat → Int) : sm n (fun i => f i * c) = sm n f * c := by
  rw [Int.mul_comm, ← sm_mul]; exact sm_congr fun i _ => Int.mul_comm _ _
theorem sm_neg (n : Nat) (f : Nat → Int) : sm n (fun i => - f i) = - sm n f := by
  induction n with
  | zero => rfl
  | succ n ih => simp only [sm_succ]; rw [ih]; omega
theorem sm_ext {n m : Nat} {f : Nat → Int} (h : n ≤ m) (h0 : ∀ i, n ≤ i → i < m → f i = 0) : sm m f = sm n f := by
  induction m with
  | zero => have : n = 0 := by omega
            subst this; rfl
  | succ m ih =>
    by_cases e : n = m + 1
    · subst e; rfl
    · rw [sm_succ, ih (by omega) fun i h1 h2 => h0 i h1 (by omega), h0 m (by omega) (by omega)]
      omega
theorem sm_single {n : Nat} {f : Nat → Int} {j : Nat} (hj : j < n) (h : ∀ i, i < n → i ≠ j → f i = 0) : sm n f = f j := by
  induction n with
  | zero => omega
  | succ n ih =>
    unfold sm
    by_cases e : j = n
    · subst e
      rw [sm_zero fun i hi => h i (by omega) (by omega)]; omega
    · rw [ih (by omega) fun i hi hn => h i (by omega) hn, h n (by omega) (fun z => e z.symm)]; omega
theorem sm_shift (n : Nat) (f : Nat → Int) : sm (n + 1) f = f 0 + sm n (fun i => f (i + 1)) := by
  induction n with
  | zero => simp [sm]
  | succ n ih =>
    rw [sm, ih]
    show f 0 + sm n (fun i => f (i + 1)) + f (n + 1) = f 0 + (sm n (fun i => f (i + 1)) + f (n + 1))
    omega
theorem sm_rev (n : Nat) (f : Nat → Int) : sm n (fun i => f (n - 1 - i)) = sm n f := by
  induction n generalizing f with
  | zero => rfl
  | succ n ih =>
    rw [sm_shift, sm]
    have e : sm n (fun i => f (n + 1 - 1 - (i + 1))) = sm n f := by
      rw [← ih f]
      exact sm_congr fun i hi => by congr 1; omega
    rw [e]
    show f (n - 0) + sm n f = sm n f + f n
    rw [Nat.sub_zero]; omega
theorem sm_swap (n m : Nat) (f : Nat → Nat → Int) : sm n (fun i => sm m (fun j => f i j)) = sm m (fun j => sm n (fun i => f i j)) := by
  induction n with
  | zero => rw [sm]; exact (sm_zero fun _ _ => rfl).symm
  | succ n ih =>
    rw [sm, ih, ← sm_add]
    exact sm_congr fun j _ => rfl
/-- the coefficient of a product at a place -/
def cv (P Q : List Int) (k : Nat) : Int := sm (k + 1) fun i => cf P i * cf Q (k - i)
def mulL (P Q : List Int) : List Int := trimL ((List.range (P.length + Q.length)).map (cv P Q))
theorem cv_beyond {P Q : List Int} {k : Nat} (h : P.length + Q.length ≤ k + 1) : cv P Q k = 0 := sm_zero fun i hi => by
  by_cases h1 : i < P.length
  · rw [cf_beyond (P := Q) (by omega), Int.mul_zero]
  · rw [cf_beyond (P := P) (by omega), Int.zero_mul]
theorem cf_mulL (P Q : List Int) (k : Nat) : cf (mulL P Q) k = cv P Q k := by
  unfold mulL
  rw [cf_trimL]
  by_cases h : k < P.length + Q.length
  · rw [cf_range h]
  · rw [cf_range_beyond (by omega), cv_beyond (by omega)]
theorem trim_mulL (P Q : List Int) : Trim (mulL P Q) := trim_trimL _
/-- the product as it stands behind k turns of the outer loop and i of the inner one -/
def pcv (P Q : List Int) (k j : Nat) : Int := sm k fun a => if a ≤ j then cf P a * cf Q (j - a) else 0
def pcw (P Q : List Int) (k i j : Nat) : Int := pcv P Q k j + if k ≤ j ∧ j - k < i then cf P k * cf Q (j - k) else 0
theorem pcw_zero (P Q : List Int) (k j : Nat) : pcw P Q k 0 j = pcv P Q k j := by
  unfold pcw
  rw [if_neg (by omega)]; omega
theorem pcw_full (P Q : List Int) (k j : Nat) : pcw P Q k Q.length j = pcv P Q (k + 1) j := by
  unfold pcw
  show _ = pcv P Q k j + (if k ≤ j then cf P k * cf Q (j - k) else 0)
  by_cases h : k ≤ j
  · rw [if_pos h]
    by_cases h2 : j - k < Q.length
    · rw [if_pos ⟨h, h2⟩]
    · rw [if_neg (by omega), cf_beyond (P := Q) (by omega), Int.mul_zero]
  · rw [if_neg h, if_neg (by omega)]
theorem pcw_step (P Q : List Int) (k i j : Nat) : pcw P Q k (i + 1) j = if j = k + i then pcw P Q k i j + cf P k * cf Q i else pcw P Q k i j := by
  unfold pcw
  by_cases h : j = k + i
  · subst h
    rw [if_pos rfl, if_pos (by omega), if_neg (by omega), Nat.add_sub_cancel_left]; omega
  · rw [if_neg h]
    by_cases h2 : k ≤ j ∧ j - k < i
    · rw [if_pos h2, if_pos (by omega)]
    · rw [if_neg h2, if_neg (by omega)]
theorem pcv_full (P Q : List Int) (j : Nat) : pcv P Q P.length j = cv P Q j := by
  unfold pcv cv
  by_cases h : P.length ≤ j + 1
  · rw [sm_ext (f := fun i => cf P i * cf Q (j - i)) h fun i h1 h2 => by rw [cf_beyond (P := P) h1, Int.zero_mul]]
    exact sm_congr fun i hi => if_pos (by omega)
  · rw [sm_ext (n := j + 1) (by omega) fun i h1 h2 => if_neg (by omega)]
    exact sm_congr fun i hi => if_pos (by omega)
theorem mulL_of {P Q R : List Int} (hl : R.length = P.length + Q.length) (h : ∀ j, cf R j = pcv P Q P.length j) : trimL R = mulL P Q := by
  refine trim_ext (trim_trimL _) (trim_mulL P Q) fun j => ?_
  rw [cf_trimL, h, pcv_full, cf_mulL]
def linL (P Q : List Int) (f : Int) : List Int := trimL ((List.range (max P.length Q.length)).map fun k => cf P k + f * cf Q k)
theorem linL_one (P Q : List Int) : linL P Q 1 = addL P Q := by
  unfold linL addL
  congr 1
  apply List.map_congr_left
  intro k _
  rw [Int.one_mul]
theorem linL_neg (P Q : List Int) : linL P Q (-1) = subL P Q := by
  unfold linL subL
  congr 1
  apply List.map_congr_left
  intro k _
  omega
theorem linL_of {P Q R : List Int} {f : Int} (hl : R.length = max P.length Q.length) (h : ∀ j, j < max P.length Q.length → cf R j = cf P j + f * cf Q j) : trimL R = linL P Q f := by
  unfold linL
  congr 1
  refine ext (by simpa using hl) fun k hk => ?_
  rw [h k (by omega), cf_range (by omega)]
/-! ### slope, turned, flipped, lifted -/
def slopeL (P : List Int) : List Int := (List.range (P.length - 1)).map fun (k : Nat) => ((k : Int) + 1) * cf P (k + 1)
def turnL (P : List Int) : List Int := (List.range P.length).map fun k => if k % 2 = 1 then - cf P k else cf P k
def flipL (P : List Int) : List Int := trimL P.reverse
/-- each coefficient at so many times its place -/
def liftL (P : List Int) (m : Nat) : List Int := (List.range (if P.length = 0 then 0 else m * (P.length - 1) + 1)).map fun j => if j % m = 0 then cf P (j / m) else 0
theorem cf_slopeL (P : List Int) (k : Nat) : cf (slopeL P) k = ((k : Int) + 1) * cf P (k + 1) := by
  unfold slopeL
  by_cases h : k < P.length - 1
  · rw [cf_range h]
  · rw [cf_range_beyond (by omega), cf_beyond (P := P) (show P.length ≤ k + 1 by omega), Int.mul_zero]
theorem cf_turnL (P : List Int) (k : Nat) : cf (turnL P) k = if k % 2 = 1 then - cf P k else cf P k := by
  unfold turnL
  by_cases h : k < P.length
  · rw [cf_range h]
  · rw [cf_range_beyond (by omega), cf_beyond (P := P) (by omega)]; split <;> rfl
theorem turnL_len (P : List Int) : (turnL P).length = P.length := by unfold turnL; simp
theorem turnL_turnL (P : List Int) : turnL (turnL P) = P := by
  refine ext (by rw [turnL_len, turnL_len]) fun k _ => ?_
  rw [cf_turnL, cf_turnL]
  by_cases h : k % 2 = 1
  · rw [if_pos h, if_pos h]; omega
  · rw [if_neg h, if_neg h]
theorem cf_reverse {P : List Int} {k : Nat} (h : k < P.length) : cf P.reverse k = cf P (P.length - 1 - k) := by
  unfold cf
  rw [List.getD_eq_getElem?_getD, List.getElem?_reverse h, List.getD_eq_getElem?_getD]
theorem liftL_len (P : List Int) (m : Nat) : (liftL P m).length = if P.length = 0 then 0 else m * (P.length - 1) + 1 := by unfold liftL; simp
theorem div_bound {j m n : Nat} (hm : 0 < m) (h : j < m * n + 1) : j / m ≤ n := by
  rw [← Nat.lt_add_one_iff, Nat.div_lt_iff_lt_mul hm, Nat.add_mul, Nat.mul_comm n m]; omega
theorem liftL_step {P R : List Int} {m i : Nat} (hm : 0 < m) (hi : i < P.length) (hR : R = liftL (P.take i) m) : (if i = 0 then R else R ++ List.replicate (m - 1) 0) ++ [cf P i] = liftL (P.take (i + 1)) m := by
  have lt1 : (P.take i).length = i := by rw [List.length_take]; omega
  have lt2 : (P.take (i + 1)).length = i + 1 := by rw [List.length_take]; omega
  have lR : R.length = if i = 0 then 0 else m * (i - 1) + 1 := by rw [hR, liftL_len, lt1]
  have lL : (if i = 0 then R else R ++ List.replicate (m - 1) 0).length = m * i := by
    by_cases h : i = 0
    · subst h; rw [if_pos rfl, lR, if_pos rfl]; rfl
    · rw [if_neg h, List.length_append, List.length_replicate, lR, if_neg h]
      have : m * i = m * (i - 1) + m := by rw [← Nat.mul_succ]; congr 1; omega
      omega
  refine ext ?_ fun k hk => ?_
  · rw [List.length_append, lL, liftL_len, lt2, if_neg (by omega), Nat.add_sub_cancel]; rfl
  · rw [List.length_append, lL] at hk
    have hk' : k < m * i + 1 := hk
    have hr : cf (liftL (P.take (i + 1)) m) k = if k % m = 0 then cf (P.take (i + 1)) (k / m) else 0 := by
      unfold liftL
      rw [lt2, if_neg (by omega), Nat.add_sub_cancel, cf_range hk']
    rw [hr]
    by_cases hlast : k = m * i
    · rw [cf_append_right (by omega), lL, hlast, Nat.sub_self, Nat.mul_mod_right, if_pos rfl, Nat.mul_div_cancel_left _ hm, cf_take (by omega)]; rfl
    · rw [cf_append_left (by omega)]
      have i0 : i ≠ 0 := by intro e; subst e; omega
      rw [if_neg i0]
      rw [if_neg i0] at lR
      have em : m * i = m * (i - 1) + m := by rw [← Nat.mul_succ]; congr 1; omega
      by_cases hin : k < R.length
      · rw [cf_append_left hin, hR]
        unfold liftL
        rw [lt1, if_neg i0, cf_range (by omega)]
        split
        · have := div_bound hm (show k < m * (i - 1) + 1 by omega)
          rw [cf_take (by omega), cf_take (by omega)]
        · rfl
      · rw [cf_append_right (by omega), cf_rep0]
        have hd : k / m = i - 1 := by
          apply Nat.div_eq_of_lt_le
          · rw [Nat.mul_comm]; omega
          · rw [Nat.succ_mul, Nat.mul_comm]; omega
        have hne : k % m ≠ 0 := fun e => by
          have := Nat.div_add_mod k m
          rw [hd, e] at this
          omega
        rw [if_neg hne]
theorem liftL_all (P : List Int) (m : Nat) : liftL (P.take P.length) m = liftL P m := by rw [List.take_length]
theorem liftL_nil (P : List Int) (m : Nat) : liftL (P.take 0) m = [] := by simp [liftL]
theorem cf_liftL (P : List Int) {m : Nat} (hm : 0 < m) (j : Nat) : cf (liftL P m) j = if j % m = 0 then cf P (j / m) else 0 := by
  unfold liftL
  by_cases h : j < (if P.length = 0 then 0 else m * (P.length - 1) + 1)
  · rw [cf_range h]
  · rw [cf_range_beyond (by omega)]
    split
    · next e =>
      refine (cf_beyond ?_).symm
      by_cases h0 : P.length = 0
      · rw [h0]; exact Nat.zero_le _
      · rw [if_neg h0] at h
        have := Nat.div_add_mod j m
        rw [e] at this
        apply Nat.le_of_not_lt
        intro hlt
        have h2 : m * (j / m) ≤ m * (P.length - 1) := Nat.mul_le_mul_left m (by omega)
        omega
    · rfl
theorem trim_liftL {P : List Int} {m : Nat} (hm : 0 < m) (h : Trim P) : Trim (liftL P m) := by
  by_cases h0 : P.length = 0
  · left; unfold liftL; rw [if_pos h0]; rfl
  · right
    rw [liftL_len, if_neg h0, Nat.add_sub_cancel, cf_liftL P hm, Nat.mul_mod_right, if_pos rfl, Nat.mul_div_cancel_left _ hm]
    rcases h with h | h
    · rw [h] at h0; exact absurd rfl h0
    · exact h
/-- the product with its noughts -/
def mulU (P Q : List Int) : List Int := if P = [] ∨ Q = [] then [] else (List.range (P.length + Q.length - 1)).map (cv P Q)
theorem cf_mulU (P Q : List Int) (k : Nat) : cf (mulU P Q) k = cv P Q k := by
  unfold mulU
  split
  · next h =>
    rw [cf_nil]
    refine (cv_beyond' h k).symm
  · by_cases h : k < P.length + Q.length - 1
    · rw [cf_range h]
    · rw [cf_range_beyond (by omega), cv_beyond (by omega)]
where
  cv_beyond' {P Q : List Int} (h : P = [] ∨ Q = []) (k : Nat) : cv P Q k = 0 := sm_zero fun i _ => by
    rcases h with h | h
    · rw [h, cf_nil, Int.zero_mul]
    · rw [h, cf_nil, Int.mul_zero]
theorem mulU_len (P Q : List Int) : (mulU P Q).length ≤ P.length + Q.length := by
  unfold mulU
  split
  · simp
  · rw [List.length_map, List.length_range]; omega
theorem addL_len (P Q : List Int) : (addL P Q).length ≤ max P.length Q.length := Nat.le_trans (trimL_len _) (by simp)
theorem sm_abs {n : Nat} {f : Nat → Int} {b : Nat} (h : ∀ i, i < n → (f i).natAbs ≤ b) : (sm n f).natAbs ≤ n * b := by
  induction n with
  | zero => simp [sm]
  | succ n ih =>
    rw [sm_succ, Nat.add_mul]
    have := ih fun i hi => h i (by omega)
    have := h n (by omega)
    omega
theorem two_pow_ge (n : Nat) : n + 1 ≤ 2 ^ n := by
  induction n with
  | zero => decide
  | succ n ih => rw [Nat.pow_succ]; omega
theorem cv_sz {P Q : List Int} {n m : Nat} (hp : Sz n P) (hq : Sz m Q) (k : Nat) : (cv P Q k).natAbs < 2 ^ (n + m + P.length + 1) := by
  have h1 : cv P Q k = pcv P Q P.length k := (pcv_full P Q k).symm
  rw [h1]
  have h2 : (pcv P Q P.length k).natAbs ≤ P.length * 2 ^ (n + m) := sm_abs fun i _ => by
    split
    · rw [Int.natAbs_mul, Nat.pow_add]
      exact Nat.mul_le_mul (Nat.le_of_lt (hp.cf _)) (Nat.le_of_lt (hq.cf _))
    · exact Nat.zero_le _
  refine Nat.lt_of_le_of_lt h2 ?_
  have h3 := two_pow_ge P.length
  have h4 : 2 ^ (n + m + P.length + 1) = 2 ^ (P.length + 1) * 2 ^ (n + m) := by rw [← Nat.pow_add]; congr 1; omega
  rw [h4]
  exact Nat.mul_lt_mul_of_pos_right (by rw [Nat.pow_succ]; omega) (Nat.two_pow_pos _)
theorem Sz.mulL {P Q : List Int} {n m : Nat} (hp : Sz n P) (hq : Sz m Q) : Sz (n + m + P.length + 1) (mulL P Q) := Sz.of fun k _ => by rw [cf_mulL]; exact cv_sz hp hq k
theorem Sz.mulU {P Q : List Int} {n m : Nat} (hp : Sz n P) (hq : Sz m Q) : Sz (n + m + P.length + 1) (mulU P Q) := Sz.of fun k _ => by rw [cf_mulU]; exact cv_sz hp hq k
theorem Sz.addL {P Q : List Int} {n : Nat} (hp : Sz n P) (hq : Sz n Q) : Sz (n + 1) (addL P Q) := Sz.of fun k _ => by
  rw [cf_addL]
  have := hp.cf k
  have := hq.cf k
  have : 2 ^ (n + 1) = 2 ^ n + 2 ^ n := by rw [Nat.pow_succ]; omega
  omega
end ML

set_option linter.all false
/-! The determinant as the program reckons it. -/
namespace MT
open ML
/-- a cell -/
def at_ (M : List (List Int)) (i j : Nat) : Int := cf (M.getD i []) j
def pivL (M : List (List Int)) (k : Nat) : Nat := k + ((M.drop k).takeWhile (fun R => decide (cf R k = 0))).length
def clrRow (top : List Int) (k : Nat) (before : Int) (R : List Int) : List Int := (List.range R.length).map fun j => (cf top k * cf R j - cf R k * cf top j).fdiv before
def clrL (M : List (List Int)) (k : Nat) (before : Int) : List (List Int) := M.take (k + 1) ++ (M.drop (k + 1)).map (clrRow (M.getD k []) k before)
def swapL (M : List (List Int)) (i k : Nat) : List (List Int) := (M.set i (M.getD k [])).set k (M.getD i [])
/-- the rows as they stand when they are cleared -/
def swp (M : List (List Int)) (k : Nat) : List (List Int) := if pivL M k > k then swapL M k (pivL M k) else M
def sgn_ (M : List (List Int)) (k : Nat) (s : Int) : Int := if pivL M k > k then -s else s
def detG : Nat → Nat → List (List Int) → Int → Int → Int
  | 0, _, _, s, b => s * b
  | r + 1, k, M, s, b => if pivL M k = M.length then 0 else detG r (k + 1) (clrL (swp M k) k b) (sgn_ M k s) (at_ (clrL (swp M k) k b) k k)
def detL (M : List (List Int)) : Int := detG M.length 0 M 1 1
theorem pivL_ge (M : List (List Int)) (k : Nat) : k ≤ pivL M k := Nat.le_add_right ..
theorem pivL_le {M : List (List Int)} {k : Nat} (h : k ≤ M.length) : pivL M k ≤ M.length := by
  unfold pivL
  have : ((M.drop k).takeWhile (fun R => decide (cf R k = 0))).length ≤ (M.drop k).length := (List.takeWhile_sublist _).length_le
  rw [List.length_drop] at this
  omega
end MT
namespace MT
open ML
theorem swapL_len (M : List (List Int)) (i k : Nat) : (swapL M i k).length = M.length := by unfold swapL; simp
theorem swp_len (M : List (List Int)) (k : Nat) : (swp M k).length = M.length := by
  unfold swp
  split
  · exact swapL_len ..
  · rfl
theorem clrL_len (M : List (List Int)) (k : Nat) (b : Int) : (clrL M k b).length = M.length := by
  unfold clrL
  rw [List.length_append, List.length_map, List.length_take, List.length_drop]; omega
end MT

set_option linter.all false
set_option maxRecDepth 100000
/-! Lists of lists of ints. -/
namespace RB
open PySem PySem.Spec PyProof.Rows L2
open Evl (Ex rLenS rListS rMax2 tCut pss_cut)
def Rws (H : Hp) : List Addr → List (List Int) → Prop
  | [], [] => True
  | p :: ps, R :: Rs => H p = some (.lst (R.map V.int)) ∧ Rws H ps Rs
  | _, _ => False
theorem Rws.len {H : Hp} : ∀ {ps : List Addr} {Rs : List (List Int)}, Rws H ps Rs → ps.length = Rs.length
  | [], [], _ => rfl
  | p :: ps, R :: Rs, h => by rw [List.length_cons, List.length_cons, Rws.len h.2]
theorem Rws.ex {H H' : Hp} (e : Ex H H') : ∀ {ps : List Addr} {Rs : List (List Int)}, Rws H ps Rs → Rws H' ps Rs
  | [], [], _ => trivial
  | p :: ps, R :: Rs, h => ⟨e _ _ h.1, Rws.ex e h.2⟩
theorem Rws.exb {l : Addr} {H H' : Hp} (e : Exb l H H') : ∀ {ps : List Addr} {Rs : List (List Int)}, l ∉ ps → Rws H ps Rs → Rws H' ps Rs
  | [], [], _, _ => trivial
  | p :: ps, R :: Rs, hn, h => ⟨e _ (fun x => hn (by rw [x]; exact List.mem_cons_self ..)) _ h.1, Rws.exb e (fun x => hn (List.mem_cons_of_mem _ x)) h.2⟩
theorem Rws.append {H : Hp} : ∀ {ps qs : List Addr} {Rs Ss : List (List Int)}, Rws H ps Rs → Rws H qs Ss → Rws H (ps ++ qs) (Rs ++ Ss)
  | [], _, [], _, _, h => h
  | p :: ps, _, R :: Rs, _, h, h' => ⟨h.1, Rws.append h.2 h'⟩
theorem Rws.get {H : Hp} : ∀ {ps : List Addr} {Rs : List (List Int)} {i : Nat} {p : Addr}, Rws H ps Rs → ps[i]? = some p → ∃ R, Rs[i]? = some R ∧ H p = some (.lst (R.map V.int))
  | p :: ps, R :: Rs, 0, q, h, e => by
    simp only [List.getElem?_cons_zero, Option.some.injEq] at e
    exact ⟨R, rfl, by rw [← e]; exact h.1⟩
  | p :: ps, R :: Rs, i + 1, q, h, e => by
    simp only [List.getElem?_cons_succ] at e
    obtain ⟨S, h1, h2⟩ := Rws.get (i := i) h.2 e
    exact ⟨S, by simpa using h1, h2⟩
theorem dp_rows {K : PySem.W.Frag} {H : Hp} : ∀ {ps : List Addr} {Rs : List (List Int)}, Rws H ps Rs → DpAll K H (ps.map V.ref) (Rs.map dI)
  | [], [], _ => .nil
  | p :: ps, R :: Rs, h => .cons (dp_listI (SqL.inj h.1)) (dp_rows h.2)
theorem canLay_rows : ∀ Rs : List (List Int), PyData.canLayAll0 (Rs.map dI) = true
  | [] => by simp [PyData.canLayAll0]
  | n :: r => by
    rw [List.map_cons, PyData.canLayAll0, canLay_rows r]
    show (PyData.canLay0 (dI n) && true) = true
    unfold dI
    rw [PyData.canLay0, canLay_ints]; rfl
theorem depth_dI (n : List Int) : PyData.depth (dI n) ≤ 2 := by
  have := depth_ints n
  unfold dI
  rw [PyData.depth]
  omega
theorem depth_rows : ∀ Rs : List (List Int), PyData.depthAll (Rs.map dI) ≤ 2
  | [] => by simp [PyData.depthAll]
  | n :: r => by
    have h1 := depth_rows r
    have h2 := depth_dI n
    rw [List.map_cons, PyData.depthAll]
    omega
def dR (Rs : List (List Int)) : PyData := .list (Rs.map dI)
theorem shaped_dR (Rs : List (List Int)) : SeqAt.shaped (dR Rs) = true := by
  have h1 := canLay_rows Rs
  have h2 := depth_rows Rs
  unfold SeqAt.shaped dR
  rw [Bool.and_eq_true, PyData.canLay0, PyData.depth]
  exact ⟨h1, decide_eq_true (by omega)⟩
theorem eqvAll_rows : ∀ Rs Ss : List (List Int), PyData.eqvAll (Rs.map dI) (Ss.map dI) = decide (Rs = Ss)
  | [], [] => by simp [PyData.eqvAll]
  | [], m :: r => by simp [PyData.eqvAll]
  | n :: r, [] => by simp [PyData.eqvAll]
  | n :: r, m :: s => by
    rw [List.map_cons, List.map_cons, PyData.eqvAll, eqvAll_rows r s, eqv_dI]
    simp
theorem eqv_dR (Rs Ss : List (List Int)) : PyData.eqv (dR Rs) (dR Ss) = decide (Rs = Ss) := by
  unfold dR
  rw [PyData.eqv, eqvAll_rows]
def RowsK (K : PySem.W.Frag) (H : Hp) (a : Addr) (Rs : List (List Int)) : Prop := ∃ ps, SqL K H a (ps.map V.ref) ∧ Rws H ps Rs
theorem dp_listR {K : PySem.W.Frag} {H : Hp} {a : Addr} {ps : List Addr} {Rs : List (List Int)} (h : SqL K H a (ps.map V.ref)) (h' : Rws H ps Rs) : Dp K H (.ref a) (dR Rs) := .lst h (dp_rows h')
theorem r_eqRows {K : PySem.W.Frag} {H : Hp} {Q : VK} {a b : Addr} {ps qs : List Addr} {Rs Ss : List (List Int)} (h1 : SqL K H a (ps.map V.ref)) (h1' : Rws H ps Rs) (h2 : SqL K H b (qs.map V.ref)) (h2' : Rws H qs Ss) (q : Q (.bl (decide (Rs = Ss))) H) : rEqD K (.ref a) (.ref b) H Q :=
  ⟨_, _, dp_listR h1 h1', dp_listR h2 h2', shaped_dR Rs, shaped_dR Ss, by rw [eqv_dR]; exact q⟩
/-- what a row tells: new lists -/
def RetRow (Rs : List (List Int)) (H : Hp) (Q : VK) : Prop := ∀ (a : Addr) (ps : List Addr) (H' : Hp), H a = none → (∀ p ∈ ps, H p = none) → a ∉ ps → Ex H H' → H' a = some (.lst (ps.map V.ref)) → Rws H' ps Rs → Q (.ref a) H'
/-- the last two items -/
theorem r_ix2 {K : PySem.W.Frag} {H : Hp} {Q : VK} {p : Addr} {xs : List V} {x y : V} (h : SqL K H p (xs ++ [x, y])) (q : Q x H) : rIxL K (.ref p) (.int (-2)) H Q :=
  r_ixL h (by
    unfold atI
    have e : ixN (xs ++ [x, y]).length (-2) = some xs.length := by
      unfold ixN
      rw [if_neg (by decide), if_pos (by simp; omega)]
      simp
      omega
    rw [e]; simp) q
theorem r_ix1 {K : PySem.W.Frag} {H : Hp} {Q : VK} {p : Addr} {xs : List V} {x y : V} (h : SqL K H p (xs ++ [x, y])) (q : Q y H) : rIxL K (.ref p) (.int (-1)) H Q :=
  r_ixL h (by
    have : xs ++ [x, y] = (xs ++ [x]) ++ [y] := by simp
    rw [this]; exact atI_last _ _) q
end RB
namespace RB
open PySem PySem.Spec PyProof.Rows L2
open Evl (Ex)
theorem Rws.take {H : Hp} : ∀ (n : Nat) {ps : List Addr} {Rs : List (List Int)}, Rws H ps Rs → Rws H (ps.take n) (Rs.take n)
  | 0, _, _, _ => by rw [List.take_zero, List.take_zero]; trivial
  | n + 1, [], [], _ => trivial
  | n + 1, p :: ps, R :: Rs, h => ⟨h.1, Rws.take n h.2⟩
theorem Rws.flat {H : Hp} {ps : List Addr} {Rs : List (List Int)} (h : Rws H ps Rs) : ∀ n : Nat, Rws H (List.replicate n ps).flatten (List.replicate n Rs).flatten
  | 0 => trivial
  | n + 1 => by
    rw [List.replicate_succ, List.replicate_succ, List.flatten_cons, List.flatten_cons]
    exact Rws.append h (Rws.flat h n)
theorem flat_map {α β : Type} (f : α → β) (xs : List α) : ∀ n : Nat, (List.replicate n (xs.map f)).flatten = ((List.replicate n xs).flatten).map f
  | 0 => rfl
  | n + 1 => by rw [List.replicate_succ, List.replicate_succ, List.flatten_cons, List.flatten_cons, flat_map f xs n, List.map_append]
theorem flat_len {α : Type} (xs : List α) : ∀ n : Nat, ((List.replicate n xs).flatten).length = n * xs.length
  | 0 => by simp
  | n + 1 => by rw [List.replicate_succ, List.flatten_cons, List.length_append, flat_len xs n, Nat.add_mul]; omega
theorem flat_mem {α : Type} {xs : List α} {x : α} : ∀ {n : Nat}, x ∈ (List.replicate n xs).flatten → x ∈ xs
  | 0, h => by cases h
  | n + 1, h => by
    rw [List.replicate_succ, List.flatten_cons, List.mem_append] at h
    exact h.elim id flat_mem
/-- a list of lists times a number -/
theorem r_repR {H : Hp} {Q : VK} {l : Addr} {ps : List Addr} {k : Int} (h1 : H l = some (.lst (ps.map V.ref))) (hk : k < 2 ^ 63) (z : ps.length * k.toNat ≤ 16777216) (q : ∀ p H', H p = none → Ex H H' → H' p = some (.lst (((List.replicate k.toNat ps).flatten).map V.ref)) → Q (.ref p) H') (h0 : -(2 ^ 63) ≤ k := by omega) : rRep (.ref l) (.int k) H Q :=
  ⟨l, k, ps.map V.ref, rfl, rfl, h1, h0, hk, by rw [List.length_map]; exact small_le z, newL fun p H' hp e h => q p H' hp e (by rw [← flat_map]; exact h)⟩
theorem cutV_to {xs : List V} {n : Int} (h0 : 0 ≤ n) : cutV xs none (some n) = xs.take n.toNat := by
  obtain ⟨k, rfl⟩ : ∃ k : Nat, n = (k : Int) := ⟨n.toNat, by omega⟩
  unfold cutV
  rw [HT.sIx_none, HT.sIx_nat, List.drop_zero, Int.toNat_natCast, Nat.sub_zero]
  by_cases h : k ≤ xs.length
  · rw [Nat.min_eq_left h]
  · rw [Nat.min_eq_right (by omega), List.take_length, List.take_of_length_le (by omega)]
/-- over a list of lists, each giving a new list -/
theorem lc_rowsN {K : PySem.W.Frag} {σ : L2.St} {H : Hp} {te : TE} {Q : VK} {a : Addr} {ps : List Addr} {Rs : List (List Int)} {j : Nat} (f : List Int → List Int) (hx : SqL K H a (ps.map V.ref)) (hW : Rws H ps Rs) (hz : ps.length < 1000000)
    (he : ∀ p R H1, R ∈ Rs → H1 p = some (.lst (R.map V.int)) → Ex H H1 → ∀ Q' : VK, (∀ q H2, H1 q = none → Ex H1 H2 → H2 q = some (.lst ((f R).map V.int)) → Q' (.ref q) H2) → te (σ.set j (some (.ref p))) H1 Q')
    (q : ∀ D H' qs, H D = none → Ex H H' → H' D = some (.lst (qs.map V.ref)) → Rws H' qs (Rs.map f) → D ∉ qs → Q (.ref D) H') : Lc (Itl K a) (gName j) tYes te [j] σ H Q := fun D hD =>
  lc_list (xs := ps.map V.ref) (fun i H' => Ex H H' ∧ ∃ qs : List Addr, H' D = some (.lst (qs.map V.ref)) ∧ Rws H' qs ((Rs.take i).map f) ∧ D ∉ qs ∧ qs.length ≤ i) ⟨Evl.Ex.new hD, [], upd_same, trivial, (fun h => by cases h), Nat.le_refl _⟩ (fun i H' _ p => p.1.l hx)
    (fun i x H' hi p => ⟨by show ((σ.set j none).set j (some x)).set j none = σ.set j none; rw [set_set, set_set], by
      show te ((σ.set j none).set j (some x)) H' _
      rw [set_set]
      rw [List.getElem?_map] at hi
      obtain ⟨p', hp', rfl⟩ := Option.map_eq_some_iff.mp hi
      obtain ⟨e, qs, hq, hR, hn, hl⟩ := p
      obtain ⟨R, hRm, hpR⟩ := hW.get hp'
      have hlt : i < ps.length := (List.getElem?_eq_some_iff.mp hp').1
      refine he p' R H' (List.mem_of_getElem? hRm) (e _ _ hpR) e _ fun r H2 hr e2 hr2 => ⟨_, e2 D _ hq, ?_, Evl.Ex.mut (e.trans e2) hD, qs ++ [r], ?_, ?_, ?_, ?_⟩
      · rw [List.length_map]; exact small_lt (by omega)
      · rw [upd_same, List.map_append]; rfl
      · rw [List.take_add_one, hRm, List.map_append]
        have nD : r ≠ D := fun z => by rw [z, hq] at hr; cases hr
        refine Rws.append ?_ ⟨by rw [upd_ne nD]; exact hr2, trivial⟩
        exact (hR.ex e2).exb (l := D) (fun c n o h => by rw [upd_ne n]; exact h) hn
      · intro h
        rcases List.mem_append.mp h with h | h
        · exact hn h
        · rw [List.mem_singleton] at h
          rw [← h, hq] at hr
          cases hr
      · rw [List.length_append]; simp; omega⟩)
    (fun H' p => by
      obtain ⟨e, qs, hq, hR, hn, hl⟩ := p
      rw [List.length_map, hW.len, List.take_length] at hR
      exact q D H' qs hD e hq hR hn)
theorem lc_rows {K : PySem.W.Frag} {σ : L2.St} {H : Hp} {te : TE} {Q : VK} {a : Addr} {ps : List Addr} {Rs : List (List Int)} {j : Nat} (f : List Int → List Int) (hx : SqL K H a (ps.map V.ref)) (hW : Rws H ps Rs) (hz : ps.length < 1000000)
    (he : ∀ p R H1, R ∈ Rs → H1 p = some (.lst (R.map V.int)) → Ex H H1 → ∀ Q' : VK, (∀ q H2, H1 q = none → Ex H1 H2 → H2 q = some (.lst ((f R).map V.int)) → Q' (.ref q) H2) → te (σ.set j (some (.ref p))) H1 Q')
    (q : ∀ D H' qs, H D = none → Ex H H' → H' D = some (.lst (qs.map V.ref)) → Rws H' qs (Rs.map f) → Q (.ref D) H') : Lc (Itl K a) (gName j) tYes te [j] σ H Q := lc_rowsN f hx hW hz he fun D H' qs h1 h2 h3 h4 _ => q D H' qs h1 h2 h3 h4
theorem Rws.set {H : Hp} {p : Addr} {R : List Int} (hp : H p = some (.lst (R.map V.int))) : ∀ {ps : List Addr} {Rs : List (List Int)} (i : Nat), Rws H ps Rs → Rws H (ps.set i p) (Rs.set i R)
  | [], [], _, _ => trivial
  | _ :: _, _ :: _, 0, h => ⟨hp, h.2⟩
  | _ :: ps, _ :: Rs, i + 1, h => ⟨h.1, Rws.set hp i h.2⟩
end RB
namespace RB
open PySem PySem.Spec PyProof.Rows L2
theorem Rws.notin {H : Hp} {p : Addr} (hp : H p = none) : ∀ {ps : List Addr} {Rs : List (List Int)}, Rws H ps Rs → p ∉ ps
  | [], [], _ => fun h => by cases h
  | r :: ps, R :: Rs, h => fun hm => by
    rcases List.mem_cons.mp hm with e | e
    · have := h.1
      rw [← e, hp] at this
      cases this
    · exact Rws.notin hp h.2 e
end RB
namespace RB
open PySem PySem.Spec PyProof.Rows L2
theorem r_neRows {K : PySem.W.Frag} {H : Hp} {Q : VK} {a b : Addr} {ps qs : List Addr} {Rs Ss : List (List Int)} (h1 : SqL K H a (ps.map V.ref)) (h1' : Rws H ps Rs) (h2 : SqL K H b (qs.map V.ref)) (h2' : Rws H qs Ss) (q : Q (.bl (!decide (Rs = Ss))) H) : rNeD K (.ref a) (.ref b) H Q :=
  ⟨_, _, dp_listR h1 h1', dp_listR h2 h2', shaped_dR Rs, shaped_dR Ss, by rw [eqv_dR]; exact q⟩
end RB

set_option linter.all false
/-! The determinant of at most two rows. -/
namespace MT
open ML
theorem detG_no {r k : Nat} {M : List (List Int)} {s b : Int} (h : pivL M k = M.length) : detG (r + 1) k M s b = 0 := by
  unfold detG; rw [if_pos h]
theorem detG_go {r k : Nat} {M : List (List Int)} {s b : Int} (h : pivL M k ≠ M.length) : detG (r + 1) k M s b = detG r (k + 1) (clrL (swp M k) k b) (sgn_ M k s) (at_ (clrL (swp M k) k b) k k) := by
  conv => lhs; unfold detG
  rw [if_neg h]
theorem swp_eq {k : Nat} {M : List (List Int)} (h : pivL M k = k) : swp M k = M := by
  unfold swp; rw [if_neg (by omega)]
theorem sgn_eq {k : Nat} {M : List (List Int)} {s : Int} (h : pivL M k = k) : sgn_ M k s = s := by
  unfold sgn_; rw [if_neg (by omega)]
theorem swp_gt {k i : Nat} {M : List (List Int)} (h : pivL M k = i) (h' : k < i) : swp M k = swapL M k i := by
  unfold swp; rw [h, if_pos (by omega)]
theorem sgn_gt {k i : Nat} {M : List (List Int)} {s : Int} (h : pivL M k = i) (h' : k < i) : sgn_ M k s = -s := by
  unfold sgn_; rw [h, if_pos (by omega)]
theorem detL_nil : detL [] = 1 := rfl
theorem pivL_cons (R : List Int) (M : List (List Int)) : pivL (R :: M) 0 = if cf R 0 = 0 then 1 + pivL M 0 else 0 := by
  unfold pivL
  rw [List.drop_zero, List.drop_zero, Nat.zero_add, Nat.zero_add, List.takeWhile_cons]
  by_cases h : cf R 0 = 0
  · rw [if_pos h, if_pos (by simpa using h), List.length_cons]; omega
  · rw [if_neg h, if_neg (by simpa using h)]; rfl
theorem pivL_nil : pivL [] 0 = 0 := rfl
theorem pivL_one (a : Int) : pivL [[a]] 0 = if a = 0 then 1 else 0 := by
  rw [pivL_cons, pivL_nil]; rfl
theorem clr1 (a : Int) (b : Int) : clrL [[a]] 0 b = [[a]] := rfl
theorem clr2 (a b c d : Int) : clrL [[a, b], [c, d]] 0 1 = [[a, b], [0, a * d - c * b]] := by
  show [[a, b], [(a * c - c * a).fdiv 1, (a * d - c * b).fdiv 1]] = _
  rw [Int.fdiv_one, Int.fdiv_one, Int.mul_comm c a, Int.sub_self]
theorem detL_one (a : Int) : detL [[a]] = a := by
  show detG 1 0 [[a]] 1 1 = a
  have e := pivL_one a
  by_cases h : a = 0
  · rw [if_pos h] at e
    rw [detG_no e, h]
  · rw [if_neg h] at e
    rw [detG_go (by rw [e]; show 0 ≠ 1; decide), swp_eq e, sgn_eq e, clr1]
    show 1 * a = a
    omega
theorem pivL_last (R : List Int) (x y : Int) : pivL [R, [x, y]] 1 = if y = 0 then 2 else 1 := by
  show 1 + (List.takeWhile _ [[x, y]]).length = _
  rw [List.takeWhile_cons]
  show 1 + (if decide (y = 0) = true then _ else _ : List (List Int)).length = _
  by_cases h : y = 0
  · rw [if_pos h, if_pos (by simpa using h)]; rfl
  · rw [if_neg h, if_neg (by simpa using h)]; rfl
theorem detG_last (R : List Int) (x y s b : Int) : detG 1 1 [R, [x, y]] s b = s * y := by
  have e := pivL_last R x y
  by_cases h : y = 0
  · rw [if_pos h] at e
    rw [detG_no e, h, Int.mul_zero]
  · rw [if_neg h] at e
    rw [detG_go (by rw [e]; show 1 ≠ 2; decide), swp_eq e, sgn_eq e]
    rfl
theorem pivL_two (a b c d : Int) : pivL [[a, b], [c, d]] 0 = if a = 0 then if c = 0 then 2 else 1 else 0 := by
  rw [pivL_cons, pivL_cons, pivL_nil]
  show (if a = 0 then 1 + (if c = 0 then 1 + 0 else 0) else 0) = _
  split
  · split <;> rfl
  · rfl
theorem detL_two (a b c d : Int) : detL [[a, b], [c, d]] = a * d - b * c := by
  show detG 2 0 [[a, b], [c, d]] 1 1 = _
  have e := pivL_two a b c d
  by_cases h1 : a = 0
  · rw [if_pos h1] at e
    by_cases h2 : c = 0
    · rw [if_pos h2] at e
      rw [detG_no e, h1, h2]; simp
    · rw [if_neg h2] at e
      rw [detG_go (by rw [e]; show 1 ≠ 2; decide), swp_gt e (by decide), sgn_gt e (by decide)]
      show detG 1 1 (clrL [[c, d], [a, b]] 0 1) (-1) _ = _
      rw [clr2, detG_last, h1]
      grind
  · rw [if_neg h1] at e
    rw [detG_go (by rw [e]; show 0 ≠ 2; decide), swp_eq e, sgn_eq e, clr2, detG_last]
    grind
/-- the rows that are cleared -/
theorem swp_two (a b c d : Int) (h : pivL [[a, b], [c, d]] 0 ≠ 2) : ∃ p q r s, swp [[a, b], [c, d]] 0 = [[p, q], [r, s]] ∧ ((p = a ∧ q = b ∧ r = c ∧ s = d) ∨ (p = c ∧ q = d ∧ r = a ∧ s = b)) ∧ p ≠ 0 := by
  have e := pivL_two a b c d
  by_cases h1 : a = 0
  · rw [if_pos h1] at e
    by_cases h2 : c = 0
    · rw [if_pos h2] at e
      exact absurd e h
    · rw [if_neg h2] at e
      exact ⟨c, d, a, b, by rw [swp_gt e (by decide)]; rfl, .inr ⟨rfl, rfl, rfl, rfl⟩, h2⟩
  · rw [if_neg h1] at e
    exact ⟨a, b, c, d, by rw [swp_eq e], .inl ⟨rfl, rfl, rfl, rfl⟩, h1⟩
end MT

set_option linter.all false
set_option maxRecDepth 100000
/-! a, b, .. = a list. -/
namespace RB
open PySem PySem.Spec PyProof.Rows L2
open PyProof
section
variable {prog : Program} {w : World} {A : Around} {E : Value → Shared → Prop}
theorem drawn {it l : Addr} {xs : Array Value} (apart : l ≠ it) : ∀ (n i : Nat) (s : Shared) (Q : List Value → Shared → Prop), s.heap.IsListIter it l i → s.heap.IsList l xs → i + n ≤ xs.size →
    (∀ g, g.IsListIter it l (i + n) → Heap.SameBut it s.heap g → Q ((xs.toList.drop i).take n) { s with heap := g }) → wpAny (model prog w) A (draw (.ref it) n) Q E s
  | 0, i, s, Q, h1, _, _, k => by
    show wpAny _ _ (pure []) Q E s
    apply wpAny_pure
    have := k s.heap h1 (Heap.SameBut.refl ..)
    rwa [List.take_zero] at this
  | n + 1, i, s, Q, h1, h2, hle, k => by
    have lt : i < xs.size := by omega
    show wpAny _ _ (pyNext (.ref it) >>= _) Q E s
    apply wpAny_bind
    refine wpAny_pyNext_list_item h1 h2 (x := xs[i]) (by simp [lt]) fun g g1 gs => ?_
    apply wpAny_bind
    apply wpAny_holding
    refine drawn apart n (i + 1) _ _ g1 (h2.extBut gs.extBut apart) (by omega) fun g' g1' gs' => wpAny_pure ?_
    have e : xs.toList.drop i = xs[i] :: xs.toList.drop (i + 1) := by simp [List.drop_eq_getElem_cons, lt]
    have r := k g' (by rw [show i + (n + 1) = i + 1 + n by omega]; exact g1') (gs.trans gs')
    rw [e, List.take_succ_cons] at r
    exact r
theorem unpacked {s : Shared} {l : Addr} {xs : Array Value} {ts : List (Bool × (Value → Sem Unit))} {Q : Unit → Shared → Prop} (calm : A.handled = none) (hl : s.heap.IsList l xs) (hn : ts.length = xs.size) (hst : ts.findIdx? (·.1) = none)
    (k : ∀ g, Heap.ExtBut s.heap.objs.size s.heap g → wpAny (model prog w) A (assignInOrder (ts.map (·.2)) xs.toList) Q E { s with heap := g }) : wpAny (model prog w) A (unpack (.ref l) ts) Q E s := by
  have apart : l ≠ s.heap.objs.size := by
    obtain ⟨o, ho, _⟩ := hl
    exact Nat.ne_of_lt (Heap.lt_size ho)
  unfold unpack
  rw [hn, hst]
  apply wpAny_bind
  apply wpAny_holding
  unfold unpackItems
  apply wpAny_bind
  unfold notIterableAtAll
  apply wpAny_bind
  refine wpAny_specialOf hl.typeIs slot_list_iter.lookup ?_
  apply wpAny_pure
  simp only [Bool.false_eq_true, if_false]
  apply wpAny_bind
  apply wpAny_holding
  apply wpAny_pyIter_list hl
  apply wpAny_bind
  apply wpAny_holding
  refine drawn apart xs.size 0 _ _ ⟨_, Heap.get?_push_size _ rfl, rfl, rfl⟩ (hl.push _) (by omega) fun g g1 gs => ?_
  have all_ : List.take xs.size (List.drop 0 xs.toList) = xs.toList := by
    rw [List.drop_zero]
    exact List.take_of_length_le (by simp)
  rw [all_, if_neg (by simp)]
  apply wpAny_bind
  apply wpAny_holding
  refine wpAny_pyNext_list_end calm g1 ((hl.push _).extBut gs.extBut apart) (by simp) fun g' ge => ?_
  simp only [Option.isSome_none, Bool.false_eq_true, if_false]
  exact wpAny_pure (k g' fun b o hb e => ge b o hb (gs.extBut b o hb (Heap.get?_push_of_some _ e)))
end
/-- (a, b, ..) = a list of that length -/
def gTupL (K : PySem.W.Frag) (n : Nat) (t : TGs) : TG := fun v σ H Q => ∃ a xs, v = .ref a ∧ SqL K H a xs ∧ xs.length = n ∧ t xs σ H Q
theorem pg_tupL {X : Cx} {es : List Expr} {k : Nat} {t : TGs} {n : Nat} {pos : Pos} (hc : X.calm = true) (h : PGs X es t)
    (hn : (assignEach es X.env).length = n := by rfl) (hst : (assignEach es X.env).findIdx? (·.1) = none := by rfl) : PG X (.Tuple es k pos) (gTupL X.K n t) := by
  constructor
  intro pins s σ H v u Q I r hw
  obtain ⟨a, xs, rfl, hq, hl, hw⟩ := hw
  cases r
  obtain ⟨its, rv, pl, hz⟩ := I.list hq
  rw [assign_Tuple]
  apply wpAny_bind
  apply wpAny_standAt
  refine unpacked (I.ok.hd hc) pl.isList (by simp [hn, ← hl, rv.length]) hst fun g hx => ?_
  have J : Inv X pins σ H { s with heap := g } := I.kept (t' := s.toks) fun b o e => hx b o (Nat.ne_of_lt (Heap.lt_size e)) e
  exact h.run pins _ σ H xs _ Q J (by simpa using rv) hw
end RB
namespace RB
open PySem PySem.Spec PyProof.Rows L2
open Evl (Ex)
section
variable {K : PySem.W.Frag} {σ : L2.St} {H : Hp} {te : TE} {Q : VK} {g : TG}
theorem r_cTupA {a : Addr} {xs : List V} {tt : TT} {vs : List Nat} (h : SqT K H a xs) (q : Lc (Itt K a) g tt te vs σ H Q) : ∃ a', V.ref a = .ref a' ∧ (∃ xs, SqT K H a' xs) ∧ Lc (Itt K a') g tt te vs σ H Q := ⟨a, rfl, ⟨xs, h⟩, q⟩
/-- over a tuple of ints, each giving an int -/
theorem lc_intsT {a : Addr} {ns : List Int} {j : Nat} (f : Int → Int) (hx : H a = some (.tup (ns.map V.int))) (hz : ns.length < 1000000)
    (he : ∀ x, x ∈ ns → ∀ H1, Ex H H1 → ∀ Q' : VK, (∀ H2, Ex H1 H2 → Q' (.int (f x)) H2) → te (σ.set j (some (.int x))) H1 Q')
    (q : ∀ p H', H p = none → Ex H H' → H' p = some (.lst ((ns.map f).map V.int)) → Q (.ref p) H') : Lc (Itt K a) (gName j) tYes te [j] σ H Q := fun D hD =>
  lc_tup (xs := ns.map V.int) (fun i H' => Ex H H' ∧ H' D = some (.lst (((ns.take i).map f).map V.int))) ⟨Evl.Ex.new hD, upd_same⟩ (fun i H' _ p => .inl (.inl (p.1 _ _ hx)))
    (fun i x H' hi p => ⟨by show ((σ.set j none).set j (some x)).set j none = σ.set j none; rw [set_set, set_set], by
      show te ((σ.set j none).set j (some x)) H' _
      rw [set_set]
      rw [List.getElem?_map] at hi
      obtain ⟨n, hn, rfl⟩ := Option.map_eq_some_iff.mp hi
      refine he n (List.mem_of_getElem? hn) H' p.1 _ fun H2 e2 => ⟨_, e2 D _ p.2, ?_, (Evl.Ex.mut (p.1.trans e2) hD), ?_⟩
      · rw [List.length_map, List.length_map, List.length_take]; exact small_lt (by omega)
      · rw [upd_same, List.take_add_one, hn, List.map_append, List.map_append]; rfl⟩)
    (fun H' p => q D H' hD p.1 (by
      rw [List.length_map, List.take_length] at p
      exact p.2))
end
theorem r_gtupL {K : PySem.W.Frag} {n : Nat} {t : TGs} {a : Addr} {xs : List V} {σ : L2.St} {H : Hp} {Q : L2.St → Hp → Prop} (h : SqL K H a xs) (hn : xs.length = n) (q : t xs σ H Q) : gTupL K n t (.ref a) σ H Q := ⟨a, xs, rfl, h, hn, q⟩
theorem r_gcons {t : TG} {u : TGs} {v : V} {r : List V} {σ : L2.St} {H : Hp} {Q : L2.St → Hp → Prop} (h : t v σ H fun σ' H' => u r σ' H' Q) : gCons t u (v :: r) σ H Q := ⟨v, r, rfl, h⟩
theorem r_gnil {σ : L2.St} {H : Hp} {Q : L2.St → Hp → Prop} (h : Q σ H) : gNil [] σ H Q := ⟨rfl, h⟩
end RB

set_option linter.all false
set_option maxRecDepth 100000
set_option maxHeartbeats 4000000
set_option exponentiation.threshold 100000
namespace RP
open PySem PySem.Spec PyProof.Rows L2 RB
open Evl (Ex rLenS rListS rMax2 tCut pss_cut)
local macro_rules | `(tactic| walk_at "ir") => `(tactic| first
  | assumption
  | exact IsR.ex (by assumption) (by walk_at "ir"))
local macro_rules | `(tactic| walk_at "hp") => `(tactic| first
  | assumption
  | exact hx_e (by assumption) (by walk_at "hp")
  | exact hx_b (by assumption) (by walk_at "ne") (by walk_at "hp"))
local macro_rules | `(tactic| walk_at "ne") => `(tactic| first
  | assumption
  | exact Ne.symm (by assumption)
  | exact ne_1 (by assumption) (by walk_at "hp")
  | exact ne_2 (by assumption) (by walk_at "hp"))
local macro_rules | `(tactic| walk_at "sq") => `(tactic| first
  | assumption
  | exact Fx.l (by assumption) (by assumption)
  | exact Evl.Ex.l (by assumption) (by assumption)
  | exact SqL.inj (by walk_at "hp"))
local macro_rules | `(tactic| walk_at "rd") => `(tactic| repeat (first
  | with_reducible refine r_seq ?_
  | with_reducible refine r_asg ?_
  | with_reducible refine r_gn ?_
  | ((with_reducible refine' r_var ?h ?_); (case h => exact rfl))
  | with_reducible refine r_c ?_
  | with_reducible refine r_op ?_
  | with_reducible refine r_un ?_
  | with_reducible refine r_add ?_
  | with_reducible refine r_sub ?_
  | ((with_reducible refine' r_pow ?h ?_); (case h => exact ⟨by decide, by decide, by decide⟩))
  | ((with_reducible refine' r_mod ?h ?_); (case h => first | decide | omega))
  | ((with_reducible refine' r_div ?h ?_); (case h => exact ⟨by decide, by decide⟩))
  | with_reducible refine r_lc ?_
  | ((with_reducible refine' r_cListA ?h ?_); (case h => walk_at "sq"))
  | with_reducible refine r_lt ?_
  | with_reducible refine r_le ?_
  | with_reducible refine r_gt ?_
  | with_reducible refine r_ge ?_
  | with_reducible refine r_eqI ?_
  | with_reducible refine r_neI ?_
  | with_reducible refine r_eqB ?_
  | with_reducible refine r_eqS ?_
  | with_reducible refine r_neg ?_
  | with_reducible refine r_ret ?_
  | with_reducible refine r_ifS ?_
  | with_reducible refine r_test ?_
  | with_reducible refine r_B ?_
  | with_reducible refine r_bl ?_
  | with_reducible refine r_int ?_
  | with_reducible refine r_cb ?_
  | with_reducible refine r_cons ?_
  | with_reducible refine r_nil ?_
  | with_reducible refine r_abs ?_
  | with_reducible refine r_max2 ?_
  | with_reducible refine r_min2 ?_
  | ((with_reducible refine' r_lenI ?h ?_); (case h => walk_at "sq"))
  | ((with_reducible refine' r_len ?h ?_); (case h => walk_at "sq"))
  | with_reducible refine r_tru ?_
  | with_reducible refine r_rev ?_
  | with_reducible refine r_iRng3 ?_
  | ((with_reducible refine' r_ixL ?h ?a ?_); (case h => walk_at "sq"); (case a => assumption))
  | ((with_reducible refine' r_ixT ?h ?a ?_); (case h => walk_at "sq"); (case a => assumption))
  | with_reducible refine r_intI ?_
  | with_reducible refine r_intB ?_
  | with_reducible refine r_call ?_
  | with_reducible refine r_lst ?_
  | with_reducible refine r_tup ?_
  | with_reducible refine r_drop ?_
  | with_reducible refine r_and ?_
  | with_reducible refine r_or ?_
  | with_reducible refine r_not ?_
  | with_reducible refine r_andV ?_
  | with_reducible refine r_orV ?_
  | with_reducible refine r_notV ?_
  | with_reducible refine r_if ?_
  | with_reducible refine r_bm ?_
  | with_reducible refine r_bm0 ?_
  | with_reducible refine r_sub_ ?_
  | with_reducible refine r_sl ?_
  | with_reducible refine r_part ?_
  | with_reducible refine r_nopart ?_
  | with_reducible refine r_par ?_
  | with_reducible refine r_par2 ?_
  | with_reducible refine r_for ?_
  | with_reducible refine r_iList ?_
  | ((with_reducible refine' r_iListA ?h ?_); (case h => walk_at "sq"))
  | with_reducible refine r_iTup ?_
  | ((with_reducible refine' r_iTupA ?h ?_); (case h => walk_at "sq"))
  | with_reducible refine r_iRng1 ?_
  | with_reducible refine r_iRng2 ?_
  | with_reducible refine r_iRev ?_
  | ((with_reducible refine' r_iRevA ?h ?_); (case h => walk_at "sq"))
  | with_reducible refine r_iEnum ?_
  | ((with_reducible refine' r_iEnumA ?h ?_); (case h => walk_at "sq"))
  | with_reducible refine r_iRevR ?_
  | with_reducible refine r_rg1 ?_
  | with_reducible refine r_make ?_
  | with_reducible refine r_fld ?_
  | with_reducible refine r_sfld ?_
  | with_reducible refine r_meth ?_
  | ((with_reducible refine' r_top ?c ?n ?h ?_); (case c => assumption); (case n => assumption); (case h => walk_at "ir"))
  | ((with_reducible refine' r_bottom ?c ?n ?h ?_); (case c => assumption); (case n => assumption); (case h => walk_at "ir"))
  | ((with_reducible refine' r_methR ?h ?h1 ?h2 ?_); (case h => walk_at "ir"); (case h1 => decide +kernel); (case h2 => decide +kernel))
  | with_reducible refine r_next ?_
  | ((with_reducible refine' r_ty ?h ?_); (case h => exact tyL (by walk_at "hp")))
  | with_reducible refine i_t ?_
  | with_reducible refine i_f ?_
  | with_reducible refine i_nt ?_
  | with_reducible refine i_nf ?_
  | walk_at "call"))
/-! #### pivot_at -/
--USE MT RN
def sp_pivot_at (K : PySem.W.Frag) (Cof : String → Addr) : Sp := fun vs H Q _ => ∃ (a : Addr) (ps : List Addr) (M : List (List Int)) (k : Nat), vs = [.ref a, .int (k : Int)] ∧ SqL K H a (ps.map V.ref) ∧ Rws H ps M ∧ k ≤ M.length ∧ M.length ≤ 100000 ∧ (∀ R ∈ M, k < R.length) ∧ Q (.int (MT.pivL M k : Nat)) H
def t_pivot_at (K : PySem.W.Frag) (Cof : String → Addr) (E : XK) : TS :=
  tSeq (tAsg (tVar 1) (gName 2))
  (tSeq (tWhile (tAnd (tTest (tOp rLt (tVar 2) (tCB (rLenS K) (tCons (tVar 0) (tNil))))) (tTest (tOp rEq (tOp (rIxL K) (tOp (rIxL K) (tVar 0) (tVar 2)) (tVar 1)) (tC (.int 0))))) (tAsg (tOp rIAdd (tVar 2) (tC (.int 1))) (gName 2)))
  (tRet (tVar 2)))

section
variable {K : PySem.W.Frag} {Cof : String → Addr} {vs : List V} {H : Hp} {Q : VK} {E : XK}
theorem len_pivot_at (h : sp_pivot_at K Cof vs H Q E) : vs.length = 2 := by
  obtain ⟨a, ps, M, k, rfl, _⟩ := h; rfl
/-- an item of a list of lists -/
theorem r_ixRow {p : Addr} {ps : List Addr} {M : List (List Int)} {i : Nat} (h : SqL K H p (ps.map V.ref)) (hW : Rws H ps M) (hi : i < M.length) (q : ∀ r, ps[i]? = some r → H r = some (.lst ((M.getD i []).map V.int)) → Q (.ref r) H) : rIxL K (.ref p) (.int (i : Int)) H Q := by
  have hl := hW.len
  have hr : ps[i]? = some ps[i] := List.getElem?_eq_getElem (by omega)
  obtain ⟨R, hR, hpR⟩ := hW.get hr
  have e : M.getD i [] = R := by rw [List.getD_eq_getElem?_getD, hR]; rfl
  refine r_ixL h (v := .ref ps[i]) (atI_nat (j := i) (by rw [List.getElem?_map, hr]; rfl)) (q _ hr (by rw [e]; exact hpR))
theorem rd_pivot_at (h : sp_pivot_at K Cof vs H Q E) : t_pivot_at K Cof E { nx := fun _ H' => Q .non H', rt := Q } (start ["rows", "at", "k"] vs) H := by
  obtain ⟨a, ps, M, k, rfl, hA, hW, hk, hl, hR, q⟩ := h
  have hlen := hW.len
  unfold t_pivot_at
  walk_at "rd"
  refine r_while (fun m σ' H' => ∃ j : Nat, σ' = [some (.ref a), some (.int (k : Int)), some (.int (j : Int))] ∧ H' = H ∧ m = M.length - j ∧ k ≤ j ∧ j ≤ M.length ∧ MT.pivL M k = j + ((M.drop j).takeWhile (fun R => decide (ML.cf R k = 0))).length) (M.length - k) ⟨k, rfl, rfl, rfl, Nat.le_refl _, hk, rfl⟩ (fun m σ' H' hw => ?_)
  obtain ⟨j, rfl, rfl, rfl, hj1, hj2, hp⟩ := hw
  walk_at "rd"
  try rw [List.length_map]
  refine ite_d (fun hlt => ?_) (fun hlt => ?_)
  · have hjl : j < M.length := by omega
    walk_at "rd"
    refine r_ixRow hA hW hjl fun r hr hpr => ?_
    have hm : M.getD j [] ∈ M := by
      rw [List.getD_eq_getElem?_getD, List.getElem?_eq_getElem hjl]
      exact List.getElem_mem hjl
    have hd : M.drop j = M.getD j [] :: M.drop (j + 1) := by
      rw [List.drop_eq_getElem_cons hjl, List.getD_eq_getElem?_getD, List.getElem?_eq_getElem hjl]; rfl
    walk_at "rd"
    refine r_ixI (SqL.inj hpr) (by omega) (by have := hR _ hm; omega) ?_
    rw [Int.toNat_natCast]
    walk_at "rd"
    refine ite_d (fun hz => wh_in ?_) (fun hz => ?_)
    · walk_at "rd"
      refine ⟨M.length - (j + 1), by omega, j + 1, by rw [Int.natCast_add]; rfl, rfl, rfl, by omega, by omega, ?_⟩
      rw [hp, hd, List.takeWhile_cons, if_pos (by exact decide_eq_true hz), List.length_cons]
      omega
    · walk_at "rd"
      have e : MT.pivL M k = j := by
        rw [hp, hd, List.takeWhile_cons, if_neg (by have hz' : ¬ ML.cf (M.getD j []) k = 0 := hz; rw [decide_eq_false hz']; decide)]; rfl
      rw [e] at q
      exact q
  · walk_at "rd"
    have e : MT.pivL M k = j := by
      rw [hp, List.drop_eq_nil_of_le (by omega)]; rfl
    rw [e] at q
    exact q
theorem c_pivot_at {a : Addr} {ps : List Addr} {M : List (List Int)} {k : Nat} (hA : SqL K H a (ps.map V.ref)) (hW : Rws H ps M) (hk : k ≤ M.length) (hl : M.length ≤ 100000) (hR : ∀ R ∈ M, k < R.length) (q : Q (.int (MT.pivL M k : Nat)) H) : sp_pivot_at K Cof [.ref a, .int (k : Int)] H Q E := ⟨a, ps, M, k, rfl, hA, hW, hk, hl, hR, q⟩
end

/-! #### cleared_rows -/
--USE MT RN
/-- rows that can be cleared -/
structure ClSz (n : Nat) (M : List (List Int)) (k : Nat) (b : Int) : Prop where
  k0 : k < M.length
  ln : M.length ≤ 100000
  wd : ∀ R ∈ M, R.length = (M.getD k []).length
  kw : k < (M.getD k []).length
  lw : (M.getD k []).length ≤ 100000
  sz : ∀ R ∈ M, ML.Sz n R
  n0 : 0 < n
  n9 : n ≤ 400000
  b0 : b ≠ 0
  b9 : b.natAbs.log2 < 9000
def sp_cleared_rows (K : PySem.W.Frag) (Cof : String → Addr) : Sp := fun vs H Q _ => ∃ (a : Addr) (ps : List Addr) (M : List (List Int)) (k n : Nat) (b : Int), vs = [.ref a, .int (k : Int), .int b] ∧ SqL K H a (ps.map V.ref) ∧ Rws H ps M ∧ ClSz n M k b ∧
  ∀ (D : Addr) (H' : Hp) (qs : List Addr), H D = none → Ex H H' → H' D = some (.lst (qs.map V.ref)) → Rws H' qs (MT.clrL M k b) → D ∉ qs → Q (.ref D) H'
def t_cleared_rows (K : PySem.W.Frag) (Cof : String → Addr) (E : XK) : TS :=
  tSeq (tAsg (tOp (rIxL K) (tVar 0) (tVar 1)) (gName 3))
  (tSeq (tAsg (tSl (rSlL K) (tVar 0) (tNoPart) (tPart (tOp rIAdd (tVar 1) (tC (.int 1))))) (gName 4))
  (tSeq (tFor (iList K (tSl (rSlL K) (tVar 0) (tPart (tOp rIAdd (tVar 1) (tC (.int 1)))) (tNoPart))) (gName 5) (tDrop (tBM K "list" rAppend (tVar 4) (tCons (tLc (iRng1 (tCons (tCB (rLenS K) (tCons (tVar 5) (tNil))) (tNil))) (gName 6) (tYes) (tOp rDiv (tOp rISub (tOp rMul (tOp (rIxL K) (tVar 3) (tVar 1)) (tOp (rIxL K) (tVar 5) (tVar 6))) (tOp rMul (tOp (rIxL K) (tVar 5) (tVar 1)) (tOp (rIxL K) (tVar 3) (tVar 6)))) (tVar 2)) [6]) (tNil)))))
  (tRet (tVar 4))))

section
variable {K : PySem.W.Frag} {Cof : String → Addr} {vs : List V} {H : Hp} {Q : VK} {E : XK}
theorem len_cleared_rows (h : sp_cleared_rows K Cof vs H Q E) : vs.length = 3 := by
  obtain ⟨a, ps, M, k, n, b, rfl, _⟩ := h; rfl
theorem rws_drop {H : Hp} : ∀ (n : Nat) {ps : List Addr} {Rs : List (List Int)}, Rws H ps Rs → Rws H (ps.drop n) (Rs.drop n)
  | 0, _, _, h => h
  | n + 1, [], [], _ => trivial
  | n + 1, p :: ps, R :: Rs, h => rws_drop n h.2
theorem cutV_from {xs : List V} {k : Nat} (h : k ≤ xs.length) : cutV xs (some (k : Int)) none = xs.drop k := by
  unfold cutV
  rw [HT.sIx_none, HT.sIx_nat, Nat.min_eq_left h, List.take_of_length_le (by rw [List.length_drop]; omega)]
theorem rd_cleared_rows (h : sp_cleared_rows K Cof vs H Q E) : t_cleared_rows K Cof E { nx := fun _ H' => Q .non H', rt := Q } (start ["rows", "at", "before", "top", "done", "row", "j"] vs) H := by
  obtain ⟨a, ps, M, k, n, b, rfl, hA, hW, s, q⟩ := h
  have hlen := hW.len
  have k0 := s.k0
  have kw := s.kw
  have lw := s.lw
  have ln := s.ln
  have n9 := s.n9
  unfold t_cleared_rows
  walk_at "rd"
  refine r_ixRow hA hW s.k0 fun r hr hpr => ?_
  have ek : (k : Int) + 1 = ((k + 1 : Nat) : Int) := by omega
  walk_at "rd"
  rw [ek]
  refine r_slL hA fun p1 H1 hp1 e1 h1 => ?_
  rw [cutV_to (by omega), Int.toNat_natCast, ← List.map_take] at h1
  have hW1 := hW.ex e1
  have hA1 := e1.l hA
  have hpr1 := e1 _ _ hpr
  have hmk : M.getD k [] ∈ M := by
    rw [List.getD_eq_getElem?_getD, List.getElem?_eq_getElem s.k0]
    exact List.getElem_mem s.k0
  have sT := s.sz _ hmk
  have hb9 : CDivA 0 b := ⟨s.b0, s.b9⟩
  generalize eT : M.getD k [] = T at hpr1 sT kw lw
  walk_at "rd"
  rw [ek]
  refine r_slL hA1 fun p2 H2 hp2 e2 h2 => ?_
  rw [cutV_from (by rw [List.length_map]; omega), ← List.map_drop] at h2
  have h1' := e2 _ _ h1
  have hD2 := rws_drop (k + 1) (hW1.ex e2)
  have hT2 := (hW1.ex e2).take (k + 1)
  have n1 : p1 ∉ ps.take (k + 1) := fun h => Rws.notin hp1 hW (List.mem_of_mem_take h)
  have n1d : p1 ∉ ps.drop (k + 1) := fun h => Rws.notin hp1 hW (List.mem_of_mem_drop h)
  have n12 : p2 ≠ p1 := fun z => by rw [z, h1] at hp2; cases hp2
  have hprt : H2 r = some (.lst (T.map V.int)) := e2 _ _ hpr1
  have nr : r ≠ p1 := fun z => by rw [z, hp1] at hpr; cases hpr
  walk_at "rd"
  refine loop_list (xs := (ps.drop (k + 1)).map V.ref) (fun i σ' H' => ∃ (qs : List Addr) (u5 : Option V), σ' = [some (.ref a), some (.int (k : Int)), some (.int b), some (.ref r), some (.ref p1), u5, none] ∧ Exb p1 H2 H' ∧ Ex H H' ∧ H' p1 = some (.lst ((ps.take (k + 1) ++ qs).map V.ref)) ∧ Rws H' qs (((M.drop (k + 1)).take i).map (MT.clrRow T k b)) ∧ p1 ∉ qs ∧ qs.length ≤ i) ⟨[], _, rfl, fun _ _ _ h => h, e1.trans e2, by rw [List.append_nil]; exact h1', trivial, (fun h => by cases h), Nat.le_refl _⟩ (fun i σ' H' _ hp => ?_) (fun i x σ' H' hx hp => ?_) (fun σ' H' hp => ?_)
  · obtain ⟨qs, u5, rfl, x1, _⟩ := hp
    exact SqL.inj (x1 _ n12 _ h2)
  · obtain ⟨qs, u5, rfl, x1, x2, x3, x4, x5, x6⟩ := hp
    rw [List.getElem?_map] at hx
    obtain ⟨p, hp, rfl⟩ := Option.map_eq_some_iff.mp hx
    obtain ⟨R, hR, hpR⟩ := hD2.get hp
    have hRM : R ∈ M := List.mem_of_mem_drop (List.mem_of_getElem? hR)
    have np : p ≠ p1 := fun z => n1d (by rw [← z]; exact List.mem_of_getElem? hp)
    have hpR' := x1 _ np _ hpR
    have hrT := x1 _ nr _ hprt
    have sR := s.sz R hRM
    have lR := s.wd R hRM
    rw [eT] at lR
    have hi : i < (ps.drop (k + 1)).length := (List.getElem?_eq_some_iff.mp hp).1
    rw [List.length_drop] at hi
    walk_at "rd"
    try rw [List.length_map]
    refine r_cRng1A (by omega) (by omega) ?_
    rw [Int.toNat_natCast]
    refine lc_rangeI (fun j => (ML.cf T k * ML.cf R j - ML.cf R k * ML.cf T j).fdiv b) (by omega) (fun j hj H3 e3 Q' k' => ?_) fun p3 H3 hp3 e3 h3 => ?_
    · have hT3 := e3 _ _ hrT
      have hR3 := e3 _ _ hpR'
      walk_at "rd"
      refine r_ixI (ns := T) (SqL.inj hT3) (by omega) (by omega) ?_
      walk_at "rd"
      refine r_ixI (ns := R) (SqL.inj hR3) (by omega) (by omega) ?_
      rw [Int.toNat_natCast, Int.toNat_natCast]
      refine r_mul (wide_mul (sT.cf k) (sR.cf j) s.n0 s.n0 (by omega)) ?_
      walk_at "rd"
      refine r_ixI (ns := R) (SqL.inj hR3) (by omega) (by omega) ?_
      walk_at "rd"
      refine r_ixI (ns := T) (SqL.inj hT3) (by omega) (by omega) ?_
      rw [Int.toNat_natCast, Int.toNat_natCast]
      refine r_mul (wide_mul (sR.cf k) (sT.cf j) s.n0 s.n0 (by omega)) ?_
      walk_at "rd"
      refine r_div hb9 ?_
      exact k' _ (Evl.Ex.refl _)
    have x3' := e3 _ _ x3
    have n3 : p3 ≠ p1 := fun z => by rw [z, x3] at hp3; cases hp3
    walk_at "rd"
    refine r_append x3' (by
      rw [List.length_map, List.length_append, List.length_take]
      exact small_lt (by omega)) fun H4 b4 h4 => ?_
    have fb : H p1 = none := hp1
    refine ⟨qs ++ [p3], _, rfl, (x1.ex e3).trans b4, Evl.Ex.mutb (x2.trans e3) b4 fb, by rw [h4, ← List.append_assoc, List.map_append (l₁ := ps.take (k + 1) ++ qs)]; rfl, ?_, ?_, by simp; omega⟩
    · rw [List.take_add_one, hR, List.map_append]
      exact Rws.append ((x4.ex e3).exb b4 x5) ⟨b4 _ n3 _ h3, trivial⟩
    · intro h
      rcases List.mem_append.mp h with h | h
      · exact x5 h
      · rw [List.mem_singleton] at h
        exact n3 h.symm
  · obtain ⟨qs, u5, rfl, x1, x2, x3, x4, x5, x6⟩ := hp
    walk_at "rd"
    have el : (ps.drop (k + 1)).length = (M.drop (k + 1)).length := by rw [List.length_drop, List.length_drop, hlen]
    rw [List.length_map, el, List.take_length] at x4
    refine q p1 H' (ps.take (k + 1) ++ qs) hp1 x2 x3 ?_ ?_
    · unfold MT.clrL
      rw [eT]
      exact Rws.append (hT2.exb x1 n1) x4
    · intro h
      rcases List.mem_append.mp h with h | h
      · exact n1 h
      · exact x5 h
theorem c_cleared_rows {a : Addr} {ps : List Addr} {M : List (List Int)} {k : Nat} {b : Int} (n : Nat) (hA : SqL K H a (ps.map V.ref)) (hW : Rws H ps M) (s : ClSz n M k b) (q : ∀ (D : Addr) (H' : Hp) (qs : List Addr), H D = none → Ex H H' → H' D = some (.lst (qs.map V.ref)) → Rws H' qs (MT.clrL M k b) → D ∉ qs → Q (.ref D) H') : sp_cleared_rows K Cof [.ref a, .int (k : Int), .int b] H Q E := ⟨a, ps, M, k, n, b, rfl, hA, hW, s, q⟩
end

/-! #### determinant -/
--USE MT RN
/-- what the walk asks of each step -/
def detOk : Nat → Nat → List (List Int) → Int → Prop
  | 0, _, _, b => ∃ n, 0 < n ∧ n ≤ 400000 ∧ b.natAbs < 2 ^ n
  | r + 1, k, M, b => (∀ R ∈ M, k < R.length) ∧ (MT.pivL M k ≠ M.length → (∃ n, ClSz n (MT.swp M k) k b) ∧ detOk r (k + 1) (MT.clrL (MT.swp M k) k b) (MT.at_ (MT.clrL (MT.swp M k) k b) k k))
def sp_determinant (K : PySem.W.Frag) (Cof : String → Addr) : Sp := fun vs H Q _ => ∃ (a : Addr) (ps : List Addr) (M : List (List Int)), vs = [.ref a] ∧ SqL K H a (ps.map V.ref) ∧ Rws H ps M ∧ M.length ≤ 100000 ∧ detOk M.length 0 M 1 ∧ ∀ H', Ex H H' → Q (.int (MT.detL M)) H'
def t_determinant (K : PySem.W.Frag) (Cof : String → Addr) (E : XK) : TS :=
  tSeq (tAsg (tLc (iList K (tVar 0)) (gName 2) (tYes) (tCB (rListS K) (tCons (tVar 2) (tNil))) [2]) (gName 1))
  (tSeq (tAsg (tC (.int 1)) (gName 3))
  (tSeq (tAsg (tC (.int 1)) (gName 4))
  (tSeq (tFor (iRng1 (tCons (tCB (rLenS K) (tCons (tVar 0) (tNil))) (tNil))) (gName 5) (tSeq (tAsg (tCall (sp_pivot_at K Cof) [] E0 (tCons (tVar 1) (tCons (tVar 5) (tNil)))) (gName 6))
  (tSeq (tIfS (tTest (tOp rEq (tVar 6) (tCB (rLenS K) (tCons (tVar 0) (tNil))))) (tRet (tC (.int 0))) (tNext))
  (tCut (tIfS (tTest (tOp rGt (tVar 6) (tVar 5))) (tSeq (tAsg (tOp (rIxL K) (tVar 1) (tVar 5)) (gName 7))
  (tSeq (tAsg (tOp (rIxL K) (tVar 1) (tVar 6)) (gSub (tVar 1) (tVar 5) rSetL))
  (tSeq (tAsg (tVar 7) (gSub (tVar 1) (tVar 6) rSetL))
  (tAsg (tUn rNeg (tVar 3)) (gName 3))))) (tNext))
  (tSeq (tAsg (tCall (sp_cleared_rows K Cof) [] E0 (tCons (tVar 1) (tCons (tVar 5) (tCons (tVar 4) (tNil))))) (gName 1))
  (tAsg (tOp (rIxL K) (tOp (rIxL K) (tVar 1) (tVar 5)) (tVar 5)) (gName 4)))))))
  (tRet (tOp rMul (tVar 3) (tVar 4))))))

section
variable {K : PySem.W.Frag} {Cof : String → Addr} {vs : List V} {H : Hp} {Q : VK} {E : XK}
theorem len_determinant (h : sp_determinant K Cof vs H Q E) : vs.length = 1 := by
  obtain ⟨a, ps, M, rfl, _⟩ := h; rfl
theorem r_setRow {p r : Addr} {ps : List Addr} {i : Nat} {H : Hp} {Q : Hp → Prop} (h : H p = some (.lst (ps.map V.ref))) (hi : i < ps.length) (q : ∀ H', Exb p H H' → H' p = some (.lst ((ps.set i r).map V.ref)) → Q H') : rSetL (.ref p) (.int (i : Int)) (.ref r) H Q :=
  r_setL h (Evl.ixN_nat (by rw [List.length_map]; exact hi)) fun H' b h' => q H' b (by rw [h', List.map_set])
theorem rd_determinant (h : sp_determinant K Cof vs H Q E) : t_determinant K Cof E { nx := fun _ H' => Q .non H', rt := Q } (start ["rows", "left", "row", "sign", "before", "at", "k", "kept"] vs) H := by
  obtain ⟨a, ps, M, rfl, hA, hW, hl, hok, q⟩ := h
  have hlen := hW.len
  unfold t_determinant
  walk_at "rd"
  refine lc_rowsN (fun R => R) hA hW (by omega) (fun p R H1 hR hpR e1 Q' k' => ?_) fun D H1 qs hD e1 h1 hW1 hn1 => ?_
  · walk_at "rd"
    refine r_list (SqL.inj hpR) fun l H9 hl9 e9 h9 => ?_
    exact k' l H9 hl9 e9 h9
  rw [show M.map (fun R => R) = M from List.map_id' M] at hW1
  have hA1 := e1.l hA
  walk_at "rd"
  try rw [List.length_map]
  refine r_iRng1A (by omega) (by omega) ?_
  rw [Int.toNat_natCast, hlen]
  refine loop_range0 (fun k σ' H' => ∃ (D : Addr) (qs : List Addr) (M' : List (List Int)) (s b : Int) (u2 u5 u6 u7 : Option V), σ' = [some (.ref a), some (.ref D), u2, some (.int s), some (.int b), u5, u6, u7] ∧ Ex H H' ∧ H D = none ∧ H' D = some (.lst (qs.map V.ref)) ∧ Rws H' qs M' ∧ D ∉ qs ∧ M'.length = M.length ∧ k ≤ M.length ∧ detOk (M.length - k) k M' b ∧ MT.detG (M.length - k) k M' s b = MT.detL M ∧ (s = 1 ∨ s = -1)) ⟨D, qs, M, 1, 1, _, _, _, _, rfl, e1, hD, h1, hW1, hn1, rfl, Nat.zero_le _, hok, rfl, .inl rfl⟩ (fun k σ' H' hk hp' => ?_) (fun σ' H' hp' => ?_)
  · clear hD h1 hW1 hn1 hok e1 hA1
    obtain ⟨D, qs, M', s, b, u2, u5, u6, u7, rfl, e1, hD, h1, hW1, hn1, hM', _, hok, hdet, hs⟩ := hp'
    obtain ⟨r, hr⟩ : ∃ r, M.length - k = r + 1 := ⟨M.length - k - 1, by omega⟩
    have hr' : M.length - (k + 1) = r := by omega
    rw [hr] at hok hdet
    rw [hr']
    obtain ⟨hwd, hok⟩ := hok
    have hA1 := e1.l hA
    have hql := hW1.len
    walk_at "rd"
    refine c_pivot_at (SqL.inj h1) hW1 (by omega) (by omega) hwd ?_
    have hdet' : (if MT.pivL M' k = M'.length then 0 else MT.detG r (k + 1) (MT.clrL (MT.swp M' k) k b) (MT.sgn_ M' k s) (MT.at_ (MT.clrL (MT.swp M' k) k b) k k)) = MT.detL M := hdet
    walk_at "rd"
    try rw [List.length_map]
    refine ite_d (fun hz => ?_) (fun hz => ?_)
    · walk_at "rd"
      have hp0 : MT.pivL M' k = M'.length := by omega
      rw [if_pos hp0] at hdet'
      rw [hdet']
      exact q _ e1
    have hp0 : MT.pivL M' k ≠ M'.length := by omega
    have hpg := MT.pivL_ge M' k
    have hpl := MT.pivL_le (M := M') (k := k) (by omega)
    rw [if_neg hp0] at hdet'
    obtain ⟨⟨n, hcl⟩, hok⟩ := hok hp0
    walk_at "rd"
    refine ⟨fun σ2 H2 => ∃ (qs2 : List Addr) (v7 : Option V), σ2 = [some (.ref a), some (.ref D), u2, some (.int (MT.sgn_ M' k s)), some (.int b), some (.int (k : Int)), some (.int (MT.pivL M' k : Nat)), v7] ∧ Ex H H2 ∧ H2 D = some (.lst (qs2.map V.ref)) ∧ Rws H2 qs2 (MT.swp M' k) ∧ D ∉ qs2, ?_, fun σ2 H2 hM => ?_⟩
    · walk_at "rd"
      refine ite_d (fun hgt => ?_) (fun hgt => ?_)
      · have hgt' : MT.pivL M' k > k := by omega
        walk_at "rd"
        refine r_ixRow (SqL.inj h1) hW1 (i := k) (by omega) fun r1 hr1 hpr1 => ?_
        walk_at "rd"
        refine r_ixRow (SqL.inj h1) hW1 (i := MT.pivL M' k) (by omega) fun r2 hr2 hpr2 => ?_
        have m1 := List.mem_of_getElem? hr1
        have m2 := List.mem_of_getElem? hr2
        walk_at "rd"
        refine r_setRow h1 (by omega) fun H3 b3 h3 => ?_
        walk_at "rd"
        refine r_setRow h3 (by rw [List.length_set]; omega) fun H4 b4 h4 => ?_
        walk_at "rd"
        have b34 := b3.trans b4
        have nd1 : r1 ≠ D := fun z => hn1 (by rw [← z]; exact m1)
        have nd2 : r2 ≠ D := fun z => hn1 (by rw [← z]; exact m2)
        refine ⟨_, some (.ref r1), ?_, Evl.Ex.mutb e1 b34 hD, h4, ?_, ?_⟩
        · unfold MT.sgn_; rw [if_pos hgt']; rfl
        · unfold MT.swp
          rw [if_pos hgt']
          unfold MT.swapL
          exact Rws.set (b34 _ nd1 _ hpr1) _ (Rws.set (b34 _ nd2 _ hpr2) _ (hW1.exb b34 hn1))
        · intro h
          rcases List.mem_or_eq_of_mem_set h with h | h
          · rcases List.mem_or_eq_of_mem_set h with h | h
            · exact hn1 h
            · exact nd2 h.symm
          · exact nd1 h.symm
      · walk_at "rd"
        have hgt' : ¬ MT.pivL M' k > k := by omega
        refine ⟨qs, u7, ?_, e1, h1, ?_, hn1⟩
        · unfold MT.sgn_; rw [if_neg hgt']; rfl
        · unfold MT.swp; rw [if_neg hgt']; exact hW1
    obtain ⟨qs2, v7, rfl, e2, h2, hW2, hn2⟩ := hM
    walk_at "rd"
    refine c_cleared_rows n (SqL.inj h2) hW2 hcl fun D2 H3 qs3 hD2 e3 h3 hW3 hn3 => ?_
    have lcl : (MT.clrL (MT.swp M' k) k b).length = M.length := by rw [MT.clrL_len, MT.swp_len, hM']
    walk_at "rd"
    refine r_ixRow (SqL.inj h3) hW3 (i := k) (by omega) fun r1 hr1 hpr1 => ?_
    walk_at "rd"
    have hkw : k < ((MT.clrL (MT.swp M' k) k b).getD k []).length := by
      have hk0 := hcl.k0
      have e : (MT.clrL (MT.swp M' k) k b).getD k [] = (MT.swp M' k).getD k [] := by
        unfold MT.clrL
        rw [List.getD_eq_getElem?_getD, List.getD_eq_getElem?_getD, List.getElem?_append_left (by rw [List.length_take]; omega), List.getElem?_take, if_pos (by omega)]
      rw [e]; exact hcl.kw
    refine r_ixI (SqL.inj hpr1) (by omega) (by omega) ?_
    rw [Int.toNat_natCast]
    walk_at "rd"
    refine ⟨D2, qs3, MT.clrL (MT.swp M' k) k b, MT.sgn_ M' k s, MT.at_ (MT.clrL (MT.swp M' k) k b) k k, _, _, _, _, rfl, e2.trans e3, Evl.fresh_back e2 hD2, h3, hW3, hn3, lcl, by omega, hok, hdet', ?_⟩
    unfold MT.sgn_
    split <;> omega
  · obtain ⟨D, qs, M', s, b, u2, u5, u6, u7, rfl, e1, hD, h1, hW1, hn1, hM', _, hok, hdet, hs⟩ := hp'
    rw [Nat.sub_self] at hok hdet
    obtain ⟨n, n0, n9, hb⟩ := hok
    have hs' : s.natAbs < 2 ^ 1 := by omega
    walk_at "rd"
    refine r_mul (wide_mul hs' hb (by decide) n0 (by omega)) ?_
    have e : s * b = MT.detL M := hdet
    rw [e]
    exact q _ e1
theorem c_determinant {a : Addr} {ps : List Addr} {M : List (List Int)} (hA : SqL K H a (ps.map V.ref)) (hW : Rws H ps M) (hl : M.length ≤ 100000) (hok : detOk M.length 0 M 1) (q : ∀ H', Ex H H' → Q (.int (MT.detL M)) H') : sp_determinant K Cof [.ref a] H Q E := ⟨a, ps, M, rfl, hA, hW, hl, hok, q⟩
end

/-! #### _law_cell_at -/
/-- the k-th cell, 0 beyond the last one -/
def cellOf (ns : List Int) (k : Int) : Int := ns.getD k.toNat 0
def sp__law_cell_at (K : PySem.W.Frag) (Cof : String → Addr) : Sp := fun vs H Q _ => ∃ (a : Addr) (ns : List Int) (k : Int), vs = [.ref a, .int k] ∧ SqL K H a (ns.map V.int) ∧ 0 ≤ k ∧ Q (.int (cellOf ns k)) H
def t__law_cell_at (K : PySem.W.Frag) (Cof : String → Addr) (E : XK) : TS :=
  tSeq (tIfS (tTest (tOp rLt (tVar 1) (tCB (rLenS K) (tCons (tVar 0) (tNil))))) (tRet (tOp (rIxL K) (tVar 0) (tVar 1))) (tNext))
  (tRet (tC (.int 0)))

section
variable {K : PySem.W.Frag} {Cof : String → Addr} {vs : List V} {H : Hp} {Q : VK} {E : XK}
theorem len__law_cell_at (h : sp__law_cell_at K Cof vs H Q E) : vs.length = 2 := by
  obtain ⟨a, ns, k, rfl, _⟩ := h; rfl
theorem rd__law_cell_at (h : sp__law_cell_at K Cof vs H Q E) : t__law_cell_at K Cof E { nx := fun _ H' => Q .non H', rt := Q } (start ["_law_script", "_law_k"] vs) H := by
  obtain ⟨a, ns, k, rfl, hS, h0, q⟩ := h
  obtain ⟨k, rfl⟩ : ∃ n : Nat, k = (n : Int) := ⟨k.toNat, by omega⟩
  unfold t__law_cell_at
  walk_at "rd"
  try rw [List.length_map]
  refine ite_d (fun h => ?_) (fun h => ?_)
  · walk_at "rd"
    have hk : k < ns.length := by omega
    exact r_ixI hS h0 h q
  · walk_at "rd"
    have e : cellOf ns k = 0 := by
      unfold cellOf
      rw [List.getD_eq_getElem?_getD, List.getElem?_eq_none (by omega)]; rfl
    rw [e] at q
    exact q
theorem c__law_cell_at {a : Addr} {ns : List Int} {k : Int} (h : SqL K H a (ns.map V.int)) (h0 : 0 ≤ k) (q : Q (.int (cellOf ns k)) H) : sp__law_cell_at K Cof [.ref a, .int k] H Q E := ⟨a, ns, k, rfl, h, h0, q⟩
end
local macro_rules | `(tactic| walk_at "call") => `(tactic| ((with_reducible refine' c__law_cell_at ?h ?h0 ?_); (case h => walk_at "sq"); (case h0 => first | decide | omega)))

/-! #### _law_whole -/
def sp__law_whole (K : PySem.W.Frag) (Cof : String → Addr) : Sp := fun vs H Q _ => ∃ i : Int, vs = [.int i] ∧ Q (.bl true) H
def t__law_whole (K : PySem.W.Frag) (Cof : String → Addr) (E : XK) : TS :=
  tRet (tAndV (tCB (rIsi K) (tCons (tVar 0) (tCons (tC (.ty "int")) (tNil)))) (tNotV (tCB (rIsi K) (tCons (tVar 0) (tCons (tC (.ty "bool")) (tNil))))))

section
variable {K : PySem.W.Frag} {Cof : String → Addr} {vs : List V} {H : Hp} {Q : VK} {E : XK}
theorem len__law_whole (h : sp__law_whole K Cof vs H Q E) : vs.length = 1 := by
  obtain ⟨i, rfl, _⟩ := h; rfl
theorem rd__law_whole (h : sp__law_whole K Cof vs H Q E) : t__law_whole K Cof E { nx := fun _ H' => Q .non H', rt := Q } (start ["_law_found"] vs) H := by
  obtain ⟨i, rfl, q⟩ := h
  unfold t__law_whole
  walk_at "rd"
  refine r_isi (.base (.int i)) (.ty _) (kit_ty (r := true) (by decide +kernel)) ?_
  walk_at "rd"
  refine r_isi (.base (.int i)) (.ty _) (kit_ty (r := false) (by decide +kernel)) ?_
  walk_at "rd"
  exact q
end
theorem c__law_whole {K : PySem.W.Frag} {Cof : String → Addr} {H : Hp} {Q : VK} {E : XK} {i : Int} (q : Q (.bl true) H) : sp__law_whole K Cof [.int i] H Q E := ⟨i, rfl, q⟩
local macro_rules | `(tactic| walk_at "call") => `(tactic| with_reducible refine c__law_whole ?_)

/-! #### _law_number -/
def sp__law_number (K : PySem.W.Frag) (Cof : String → Addr) : Sp := fun vs H Q _ => ∃ c : Int, vs = [.int c] ∧ ∀ x : Int, x.natAbs < 2 ^ 140 → Q (.int x) H
def t__law_number (K : PySem.W.Frag) (Cof : String → Addr) (E : XK) : TS :=
  tSeq (tIfS (tTest (tOp rEq (tOp rMod (tVar 0) (tC (.int 3))) (tC (.int 0)))) (tRet (tOp rISub (tOp rMod (tOp rDiv (tVar 0) (tC (.int 3))) (tC (.int 7))) (tC (.int 3)))) (tNext))
  (tRet (tOp rISub (tOp rMod (tOp rDiv (tVar 0) (tC (.int 3))) (tOp rIAdd (tOp rMul (tC (.int 2)) (tOp rPow (tC (.int 10)) (tC (.int 40)))) (tC (.int 1)))) (tOp rPow (tC (.int 10)) (tC (.int 40)))))

section
variable {K : PySem.W.Frag} {Cof : String → Addr} {vs : List V} {H : Hp} {Q : VK} {E : XK}
theorem len__law_number (h : sp__law_number K Cof vs H Q E) : vs.length = 1 := by
  obtain ⟨c, rfl, _⟩ := h; rfl
theorem rd__law_number (h : sp__law_number K Cof vs H Q E) : t__law_number K Cof E { nx := fun _ H' => Q .non H', rt := Q } (start ["_law_cell"] vs) H := by
  obtain ⟨c, rfl, q⟩ := h
  unfold t__law_number
  have e40 : (10 : Int) ^ (40 : Int).toNat = 10000000000000000000000000000000000000000 := by decide
  walk_at "rd"
  refine ite_d (fun _ => ?_) (fun _ => ?_)
  · walk_at "rd"
    have d0 := Int.fmod_nonneg_of_pos (c.fdiv 3) (show (0 : Int) < 7 by decide)
    have d1 := Int.fmod_lt_of_pos (c.fdiv 3) (show (0 : Int) < 7 by decide)
    exact q _ (by omega)
  · walk_at "rd"
    refine r_mul (wide_mul (a := 2) (b := 140) (by decide) (by decide) (by decide) (by decide) (by decide)) ?_
    walk_at "rd"
    rw [e40]
    have d0 := Int.fmod_nonneg_of_pos (c.fdiv 3) (show (0 : Int) < 2 * 10000000000000000000000000000000000000000 + 1 by decide)
    have d1 := Int.fmod_lt_of_pos (c.fdiv 3) (show (0 : Int) < 2 * 10000000000000000000000000000000000000000 + 1 by decide)
    exact q _ (by omega)
theorem c__law_number {c : Int} (q : ∀ x : Int, x.natAbs < 2 ^ 140 → Q (.int x) H) : sp__law_number K Cof [.int c] H Q E := ⟨c, rfl, q⟩
end

/-! #### law -/
--USE MT2 RN RU
def sp_law (K : PySem.W.Frag) (Cof : String → Addr) : Sp := fun vs H Q _ => ∃ (a : Addr) (ns : List Int), vs = [.ref a] ∧ SqL K H a (ns.map V.int) ∧ ns.length ≤ 63 ∧ ∀ H', Q (.bl true) H'
def t_law (K : PySem.W.Frag) (Cof : String → Addr) (E : XK) : TS :=
  tSeq (tAsg (tCall (sp__law_number K Cof) [] E0 (tCons (tCall (sp__law_cell_at K Cof) [] E0 (tCons (tVar 0) (tCons (tC (.int 0)) (tNil)))) (tNil))) (gName 1))
  (tSeq (tAsg (tCall (sp__law_number K Cof) [] E0 (tCons (tCall (sp__law_cell_at K Cof) [] E0 (tCons (tVar 0) (tCons (tC (.int 1)) (tNil)))) (tNil))) (gName 2))
  (tSeq (tAsg (tCall (sp__law_number K Cof) [] E0 (tCons (tCall (sp__law_cell_at K Cof) [] E0 (tCons (tVar 0) (tCons (tC (.int 2)) (tNil)))) (tNil))) (gName 3))
  (tSeq (tAsg (tCall (sp__law_number K Cof) [] E0 (tCons (tCall (sp__law_cell_at K Cof) [] E0 (tCons (tVar 0) (tCons (tC (.int 3)) (tNil)))) (tNil))) (gName 4))
  (tCut (tIfS (tTest (tOp rEq (tOp rMod (tCall (sp__law_cell_at K Cof) [] E0 (tCons (tVar 0) (tCons (tC (.int 4)) (tNil)))) (tC (.int 8))) (tC (.int 1)))) (tSeq (tAsg (tOp rMul (tOp rMul (tOp rMul (tOp rMul (tOp rPow (tC (.int 10)) (tC (.int 60))) (tOp rPow (tC (.int 10)) (tC (.int 60)))) (tOp rPow (tC (.int 10)) (tC (.int 60)))) (tOp rPow (tC (.int 10)) (tC (.int 60)))) (tOp rPow (tC (.int 10)) (tC (.int 15)))) (gName 5))
  (tAsg (tLc (iTup K (tTup (tCons (tVar 1) (tCons (tVar 2) (tCons (tVar 3) (tCons (tVar 4) (tNil))))))) (gName 6) (tYes) (tOp rIAdd (tOp rMul (tVar 6) (tVar 5)) (tC (.int 1))) [6]) (gTupL K 4 (gCons (gName 1) (gCons (gName 2) (gCons (gName 3) (gCons (gName 4) (gNil)))))))) (tNext))
  (tSeq (tAsg (tLst (tCons (tLst (tCons (tVar 1) (tCons (tVar 2) (tNil)))) (tCons (tLst (tCons (tVar 3) (tCons (tVar 4) (tNil)))) (tNil)))) (gName 7))
  (tSeq (tAsg (tCall (sp_determinant K Cof) [] E0 (tCons (tVar 7) (tNil))) (gName 8))
  (tSeq (tIfS (tOr (tTest (tOp (rNeD K) (tVar 7) (tLst (tCons (tLst (tCons (tVar 1) (tCons (tVar 2) (tNil)))) (tCons (tLst (tCons (tVar 3) (tCons (tVar 4) (tNil)))) (tNil)))))) (tOr (tNot (tB (tCall (sp__law_whole K Cof) [] E0 (tCons (tVar 8) (tNil))))) (tTest (tOp rNe (tVar 8) (tOp rISub (tOp rMul (tVar 1) (tVar 4)) (tOp rMul (tVar 2) (tVar 3))))))) (tRet (tC (.bl false))) (tNext))
  (tSeq (tAsg (tCall (sp_determinant K Cof) [] E0 (tCons (tLst (tCons (tLst (tCons (tVar 1) (tNil))) (tNil))) (tNil))) (gName 6))
  (tSeq (tAsg (tCall (sp_determinant K Cof) [] E0 (tCons (tLst (tNil)) (tNil))) (gName 9))
  (tSeq (tIfS (tOr (tNot (tB (tCall (sp__law_whole K Cof) [] E0 (tCons (tVar 6) (tNil))))) (tNot (tB (tCall (sp__law_whole K Cof) [] E0 (tCons (tVar 9) (tNil)))))) (tRet (tC (.bl false))) (tNext))
  (tRet (tAndV (tOp rEq (tVar 6) (tVar 1)) (tAndV (tOp rEq (tVar 9) (tC (.int 1))) (tOp rEq (tCall (sp_determinant K Cof) [] E0 (tCons (tLst (tCons (tLst (tCons (tVar 2) (tCons (tVar 1) (tNil)))) (tCons (tLst (tCons (tVar 4) (tCons (tVar 3) (tNil)))) (tNil)))) (tNil))) (tOp rISub (tOp rMul (tVar 2) (tVar 3)) (tOp rMul (tVar 1) (tVar 4)))))))))))))))))

section
variable {K : PySem.W.Frag} {Cof : String → Addr} {vs : List V} {H : Hp} {Q : VK} {E : XK}
theorem len_law (h : sp_law K Cof vs H Q E) : vs.length = 1 := by
  obtain ⟨a, ns, rfl, _⟩ := h; rfl
theorem far_lt {x far : Int} (h1 : x.natAbs < 2 ^ 140) (h2 : far.natAbs < 2 ^ 850) : (x * far + 1).natAbs < 2 ^ 1000 := by
  have h := wide_lt h1 h2
  refine Nat.lt_of_lt_of_le (show _ < 2 ^ 998 by
    have e : (2 : Nat) ^ 998 = 256 * 2 ^ (140 + 850) := by decide
    have h0 : 8 ≤ (2 : Nat) ^ (140 + 850) := by decide
    rw [e]
    generalize (2 : Nat) ^ (140 + 850) = t at h h0
    omega) (Nat.pow_le_pow_right (by decide) (by decide))
theorem sz2 {n : Nat} {a b : Int} (h1 : a.natAbs < 2 ^ n) (h2 : b.natAbs < 2 ^ n) : ML.Sz n [a, b] := by
  intro x hx
  simp only [List.mem_cons, List.not_mem_nil, or_false] at hx
  rcases hx with rfl | rfl <;> assumption
theorem ok_nil : detOk 0 0 [] 1 := ⟨1, by decide, by decide, by decide⟩
theorem ok_one {a : Int} (ha : a.natAbs < 2 ^ 1000) : detOk 1 0 [[a]] 1 := by
  refine ⟨by simp, fun h => ?_⟩
  have e : MT.pivL [[a]] 0 = 0 := by
    have e := MT.pivL_one a
    by_cases h1 : a = 0
    · rw [if_pos h1] at e; exact absurd e h
    · rw [if_neg h1] at e; exact e
  rw [MT.swp_eq e, MT.clr1]
  refine ⟨⟨1000, by simp, by simp, by simp, by simp, by simp, ?_, by decide, by decide, by decide, by decide⟩, ⟨1000, by decide, by decide, ha⟩⟩
  intro R hR x hx
  simp only [List.mem_cons, List.not_mem_nil, or_false] at hR
  subst hR
  simp only [List.mem_cons, List.not_mem_nil, or_false] at hx
  subst hx
  exact ha
theorem cross_lt {p q r s : Int} (h1 : p.natAbs < 2 ^ 1000) (h2 : q.natAbs < 2 ^ 1000) (h3 : r.natAbs < 2 ^ 1000) (h4 : s.natAbs < 2 ^ 1000) : (p * s - r * q).natAbs < 2 ^ 2001 := by
  have a1 := wide_lt h1 h4
  have a2 := wide_lt h3 h2
  have e : (2 : Nat) ^ 2001 = 2 * 2 ^ (1000 + 1000) := by decide
  rw [e]
  generalize (2 : Nat) ^ (1000 + 1000) = t at a1 a2
  omega
theorem log_lt {p : Int} (h0 : p ≠ 0) (h1 : p.natAbs < 2 ^ 1000) : p.natAbs.log2 < 9000 := by
  have : p.natAbs.log2 < 1000 := (Nat.log2_lt (by omega)).mpr h1
  omega
theorem ok_two {a b c d : Int} (ha : a.natAbs < 2 ^ 1000) (hb : b.natAbs < 2 ^ 1000) (hc : c.natAbs < 2 ^ 1000) (hd : d.natAbs < 2 ^ 1000) : detOk 2 0 [[a, b], [c, d]] 1 := by
  refine ⟨by simp, fun h => ?_⟩
  obtain ⟨p, q, r, s, e, hw, p0⟩ := MT.swp_two a b c d h
  rw [e, MT.clr2]
  obtain ⟨hp, hq, hr, hs⟩ : p.natAbs < 2 ^ 1000 ∧ q.natAbs < 2 ^ 1000 ∧ r.natAbs < 2 ^ 1000 ∧ s.natAbs < 2 ^ 1000 := by
    rcases hw with ⟨rfl, rfl, rfl, rfl⟩ | ⟨rfl, rfl, rfl, rfl⟩
    · exact ⟨ha, hb, hc, hd⟩
    · exact ⟨hc, hd, ha, hb⟩
  have hx := cross_lt hp hq hr hs
  have up : ∀ {x : Nat}, x < 2 ^ 1000 → x < 2 ^ 2001 := fun h => Nat.lt_of_lt_of_le h (Nat.pow_le_pow_right (by decide) (by decide))
  refine ⟨⟨1000, by simp, by simp, by simp, by simp, by simp, ?_, by decide, by decide, by decide, by decide⟩, ?_⟩
  · intro R hR
    simp only [List.mem_cons, List.not_mem_nil, or_false] at hR
    rcases hR with rfl | rfl
    · exact sz2 hp hq
    · exact sz2 hr hs
  refine ⟨by simp, fun h => ?_⟩
  have e1 : MT.pivL [[p, q], [0, p * s - r * q]] 1 = 1 := by
    have e1 := MT.pivL_last [p, q] 0 (p * s - r * q)
    by_cases h1 : p * s - r * q = 0
    · rw [if_pos h1] at e1; exact absurd e1 h
    · rw [if_neg h1] at e1; exact e1
  rw [MT.swp_eq e1]
  refine ⟨⟨2001, by simp, by simp, by simp, by simp, by simp, ?_, by decide, by decide, p0, log_lt p0 hp⟩, ⟨2001, by decide, by decide, hx⟩⟩
  intro R hR
  simp only [List.mem_cons, List.not_mem_nil, or_false] at hR
  rcases hR with rfl | rfl
  · exact sz2 (up hp) (up hq)
  · exact sz2 (by exact Nat.two_pow_pos _) hx
theorem rd_law (h : sp_law K Cof vs H Q E) : t_law K Cof E { nx := fun _ H' => Q .non H', rt := Q } (start ["_law_script", "_law_a", "_law_b", "_law_c", "_law_d", "_law_far", "_law_one", "_law_rows", "_law_two", "_law_none"] vs) H := by
  obtain ⟨a, ns, rfl, hS, hl, q⟩ := h
  unfold t_law
  walk_at "rd"
  refine c__law_number fun a0 ha => ?_
  walk_at "rd"
  refine c__law_number fun b0 hb => ?_
  walk_at "rd"
  refine c__law_number fun c0 hc => ?_
  walk_at "rd"
  refine c__law_number fun d0 hd => ?_
  have pw : ∀ {x : Nat}, x < 2 ^ 140 → x < 2 ^ 1000 := fun h => Nat.lt_of_lt_of_le h (Nat.pow_le_pow_right (by decide) (by decide))
  walk_at "rd"
  refine ⟨fun σ' H' => ∃ (a1 b1 c1 d1 : Int) (u5 u6 : Option V), σ' = [some (.ref a), some (.int a1), some (.int b1), some (.int c1), some (.int d1), u5, u6, none, none, none] ∧ Ex H H' ∧ a1.natAbs < 2 ^ 1000 ∧ b1.natAbs < 2 ^ 1000 ∧ c1.natAbs < 2 ^ 1000 ∧ d1.natAbs < 2 ^ 1000, ?_, fun σ' H' hM => ?_⟩
  · walk_at "rd"
    refine ite_d (fun _ => ?_) (fun _ => ?_)
    · walk_at "rd"
      have k1 : ((10 : Int) ^ (60 : Int).toNat).natAbs < 2 ^ 200 := by decide
      have k2 : ((10 : Int) ^ (15 : Int).toNat).natAbs < 2 ^ 50 := by decide
      refine r_mul (wide_mul k1 k1 (by decide) (by decide) (by decide)) ?_
      walk_at "rd"
      refine r_mul (wide_mul (wide_lt k1 k1) k1 (by decide) (by decide) (by decide)) ?_
      walk_at "rd"
      refine r_mul (wide_mul (wide_lt (wide_lt k1 k1) k1) k1 (by decide) (by decide) (by decide)) ?_
      walk_at "rd"
      refine r_mul (wide_mul (wide_lt (wide_lt (wide_lt k1 k1) k1) k1) k2 (by decide) (by decide) (by decide)) ?_
      have k3 := wide_lt (wide_lt (wide_lt (wide_lt k1 k1) k1) k1) k2
      generalize (10 : Int) ^ (60 : Int).toNat * 10 ^ (60 : Int).toNat * 10 ^ (60 : Int).toNat * 10 ^ (60 : Int).toNat * 10 ^ (15 : Int).toNat = far at k3 ⊢
      have k4 : far.natAbs < 2 ^ 850 := k3
      walk_at "rd"
      refine r_tupK fun p2 H2 hp2 e2 h2 => ?_
      refine r_cTupA (xs := [.int a0, .int b0, .int c0, .int d0]) (.inl (.inl h2)) ?_
      refine lc_intsT (ns := [a0, b0, c0, d0]) (fun x => x * far + 1) h2 (by simp) (fun x hx H3 e3 Q' k' => ?_) fun p3 H3 hp3 e3 h3 => ?_
      · have hx200 : x.natAbs < 2 ^ 140 := by
          simp only [List.mem_cons, List.not_mem_nil, or_false] at hx
          rcases hx with rfl | rfl | rfl | rfl <;> assumption
        walk_at "rd"
        refine r_mul (wide_mul hx200 k4 (by decide) (by decide) (by decide)) ?_
        walk_at "rd"
        exact k' _ (Evl.Ex.refl _)
      refine r_gtupL (xs := [.int (a0 * far + 1), .int (b0 * far + 1), .int (c0 * far + 1), .int (d0 * far + 1)]) (SqL.inj h3) rfl ?_
      refine r_gcons (r_gn (r_gcons (r_gn (r_gcons (r_gn (r_gcons (r_gn (r_gnil ?_))))))))
      exact ⟨_, _, _, _, _, _, rfl, e2.trans e3, far_lt ha k4, far_lt hb k4, far_lt hc k4, far_lt hd k4⟩
    · walk_at "rd"
      exact ⟨_, _, _, _, _, _, rfl, Evl.Ex.refl _, pw ha, pw hb, pw hc, pw hd⟩
  clear ha hb hc hd
  obtain ⟨a1, b1, c1, d1, u5, u6, rfl, e1, ha, hb, hc, hd⟩ := hM
  walk_at "rd"
  refine r_lstK fun p1 H1 hp1 e2 h1 => ?_
  walk_at "rd"
  refine r_lstK fun p2 H2 hp2 e3 h2 => ?_
  walk_at "rd"
  refine r_lstK fun p3 H3 hp3 e4 h3 => ?_
  walk_at "rd"
  have hR : Rws H3 [p1, p2] [[a1, b1], [c1, d1]] := ⟨e4 _ _ (e3 _ _ h1), e4 _ _ h2, trivial⟩
  refine c_determinant (ps := [p1, p2]) (M := [[a1, b1], [c1, d1]]) (SqL.inj h3) hR (by simp) (ok_two ha hb hc hd) fun H4 e5 => ?_
  rw [MT.detL_two]
  walk_at "rd"
  refine r_lstK fun p4 H5 hp4 e6 h4 => ?_
  walk_at "rd"
  refine r_lstK fun p5 H6 hp5 e7 h5 => ?_
  walk_at "rd"
  refine r_lstK fun p6 H7 hp6 e8 h6 => ?_
  walk_at "rd"
  have hR2 : Rws H7 [p4, p5] [[a1, b1], [c1, d1]] := ⟨e8 _ _ (e7 _ _ h4), e8 _ _ h5, trivial⟩
  have e58 := ((e5.trans e6).trans e7).trans e8
  refine r_neRows (ps := [p1, p2]) (qs := [p4, p5]) (Rs := [[a1, b1], [c1, d1]]) (SqL.inj (e58 _ _ h3)) (hR.ex e58) (SqL.inj h6) hR2 ?_
  rw [decide_eq_true rfl]
  walk_at "rd"
  refine r_mul (wide_mul ha hd (by decide) (by decide) (by decide)) ?_
  walk_at "rd"
  refine r_mul (wide_mul hb hc (by decide) (by decide) (by decide)) ?_
  walk_at "rd"
  refine ite_nd (fun h => absurd rfl h) (fun _ => ?_)
  walk_at "rd"
  refine r_lstK fun p7 H8 hp7 e9 h7 => ?_
  walk_at "rd"
  refine r_lstK fun p8 H9 hp8 e10 h8 => ?_
  walk_at "rd"
  have hR3 : Rws H9 [p7] [[a1]] := ⟨e10 _ _ h7, trivial⟩
  refine c_determinant (ps := [p7]) (M := [[a1]]) (SqL.inj h8) hR3 (by simp) (ok_one ha) fun H10 e11 => ?_
  rw [MT.detL_one]
  walk_at "rd"
  refine r_lstK fun p9 H11 hp9 e12 h9 => ?_
  walk_at "rd"
  refine c_determinant (ps := []) (M := []) (SqL.inj h9) trivial (by decide) ok_nil fun H12 e13 => ?_
  rw [MT.detL_nil]
  walk_at "rd"
  refine ite_d (fun _ => ?_) (fun h => absurd rfl h)
  walk_at "rd"
  refine ite_d (fun _ => ?_) (fun h => absurd rfl h)
  walk_at "rd"
  refine r_lstK fun q1 H13 hq1 e14 g1 => ?_
  walk_at "rd"
  refine r_lstK fun q2 H14 hq2 e15 g2 => ?_
  walk_at "rd"
  refine r_lstK fun q3 H15 hq3 e16 g3 => ?_
  walk_at "rd"
  have hR4 : Rws H15 [q1, q2] [[b1, a1], [d1, c1]] := ⟨e16 _ _ (e15 _ _ g1), e16 _ _ g2, trivial⟩
  refine c_determinant (ps := [q1, q2]) (M := [[b1, a1], [d1, c1]]) (SqL.inj g3) hR4 (by simp) (ok_two hb ha hd hc) fun H16 e17 => ?_
  rw [MT.detL_two]
  walk_at "rd"
  refine r_mul (wide_mul hb hc (by decide) (by decide) (by decide)) ?_
  walk_at "rd"
  refine r_mul (wide_mul ha hd (by decide) (by decide) (by decide)) ?_
  walk_at "rd"
  rw [decide_eq_true rfl]
  exact q _
theorem c_law {a : Addr} {ns : List Int} (h : SqL K H a (ns.map V.int)) (hl : ns.length ≤ 63) (q : ∀ H', Q (.bl true) H') : sp_law K Cof [.ref a] H Q E := ⟨a, ns, rfl, h, hl, q⟩
end

def topS (i : Nat) : Stmt := PySem.Challenge.pw_rootspan_k31_determinant_two.main.body.getD i (.Pass ⟨0, 0, 0, 0⟩)
abbrev s_pivot_at : Stmt := topS 1
theorem sc_pivot_at : FnScope ["rows", "at", "k"] ["rows", "at"] (defScope s_pivot_at) := ⟨rfl, rfl, rfl, by decide +kernel, rfl, by decide +kernel, by decide +kernel⟩
abbrev s_cleared_rows : Stmt := topS 2
theorem sc_cleared_rows : FnScope ["rows", "at", "before", "top", "done", "row", "j"] ["rows", "at", "before"] (defScope s_cleared_rows) := ⟨rfl, rfl, rfl, by decide +kernel, rfl, by decide +kernel, by decide +kernel⟩
abbrev s_determinant : Stmt := topS 3
theorem sc_determinant : FnScope ["rows", "left", "row", "sign", "before", "at", "k", "kept"] ["rows"] (defScope s_determinant) := ⟨rfl, rfl, rfl, by decide +kernel, rfl, by decide +kernel, by decide +kernel⟩
abbrev s__law_cell_at : Stmt := topS 5
theorem sc__law_cell_at : FnScope ["_law_script", "_law_k"] ["_law_script", "_law_k"] (defScope s__law_cell_at) := ⟨rfl, rfl, rfl, by decide +kernel, rfl, by decide +kernel, by decide +kernel⟩
abbrev s__law_whole : Stmt := topS 6
theorem sc__law_whole : FnScope ["_law_found"] ["_law_found"] (defScope s__law_whole) := ⟨rfl, rfl, rfl, by decide +kernel, rfl, by decide +kernel, by decide +kernel⟩
abbrev s__law_number : Stmt := topS 7
theorem sc__law_number : FnScope ["_law_cell"] ["_law_cell"] (defScope s__law_number) := ⟨rfl, rfl, rfl, by decide +kernel, rfl, by decide +kernel, by decide +kernel⟩
abbrev s_law : Stmt := topS 8
theorem sc_law : FnScope ["_law_script", "_law_a", "_law_b", "_law_c", "_law_d", "_law_far", "_law_one", "_law_rows", "_law_two", "_law_none"] ["_law_script"] (defScope s_law) := ⟨rfl, rfl, rfl, by decide +kernel, rfl, by decide +kernel, by decide +kernel⟩
structure Txt (K : PySem.W.Frag) (mg : Str → Option Value) (Cof : String → Addr) (ad : Nat → Addr) (fd : Nat → FuncData) : Prop where
  z_bool : mg "bool" = none
  z_int : mg "int" = none
  z_isinstance : mg "isinstance" = none
  z_len : mg "len" = none
  z_list : mg "list" = none
  z_range : mg "range" = none
  g_pivot_at : mg "pivot_at" = some (.ref (ad 0))
  F_pivot_at : Fun K "pivot_at" "pivot_at" s_pivot_at (ad 0) (fd 0)
  g_cleared_rows : mg "cleared_rows" = some (.ref (ad 1))
  F_cleared_rows : Fun K "cleared_rows" "cleared_rows" s_cleared_rows (ad 1) (fd 1)
  g_determinant : mg "determinant" = some (.ref (ad 2))
  F_determinant : Fun K "determinant" "determinant" s_determinant (ad 2) (fd 2)
  g__law_cell_at : mg "_law_cell_at" = some (.ref (ad 3))
  F__law_cell_at : Fun K "_law_cell_at" "_law_cell_at" s__law_cell_at (ad 3) (fd 3)
  g__law_whole : mg "_law_whole" = some (.ref (ad 4))
  F__law_whole : Fun K "_law_whole" "_law_whole" s__law_whole (ad 4) (fd 4)
  g__law_number : mg "_law_number" = some (.ref (ad 5))
  F__law_number : Fun K "_law_number" "_law_number" s__law_number (ad 5) (fd 5)
  g_law : mg "law" = some (.ref (ad 6))
  F_law : Fun K "law" "law" s_law (ad 6) (fd 6)
section
variable {P : Program} {w : World} {K : PySem.W.Frag} {mg : Str → Option Value} {base : Heap} {Cof : String → Addr} {ad : Nat → Addr} {fd : Nat → FuncData}
theorem B_pivot_at (T : Txt K mg Cof ad fd) : Binds K (fd 0) ["rows", "at"] [] := T.F_pivot_at.binds (ps := ["rows", "at"]) fun _ _ _ _ _ _ us hl => match us, hl with | [_, _], _ => rfl
theorem B_cleared_rows (T : Txt K mg Cof ad fd) : Binds K (fd 1) ["rows", "at", "before"] [] := T.F_cleared_rows.binds (ps := ["rows", "at", "before"]) fun _ _ _ _ _ _ us hl => match us, hl with | [_, _, _], _ => rfl
theorem B_determinant (T : Txt K mg Cof ad fd) : Binds K (fd 2) ["rows"] [] := T.F_determinant.binds (ps := ["rows"]) fun _ _ _ _ _ _ us hl => match us, hl with | [_], _ => rfl
theorem B__law_cell_at (T : Txt K mg Cof ad fd) : Binds K (fd 3) ["_law_script", "_law_k"] [] := T.F__law_cell_at.binds (ps := ["_law_script", "_law_k"]) fun _ _ _ _ _ _ us hl => match us, hl with | [_, _], _ => rfl
theorem B__law_whole (T : Txt K mg Cof ad fd) : Binds K (fd 4) ["_law_found"] [] := T.F__law_whole.binds (ps := ["_law_found"]) fun _ _ _ _ _ _ us hl => match us, hl with | [_], _ => rfl
theorem B__law_number (T : Txt K mg Cof ad fd) : Binds K (fd 5) ["_law_cell"] [] := T.F__law_number.binds (ps := ["_law_cell"]) fun _ _ _ _ _ _ us hl => match us, hl with | [_], _ => rfl
theorem B_law (T : Txt K mg Cof ad fd) : Binds K (fd 6) ["_law_script"] [] := T.F_law.binds (ps := ["_law_script"]) fun _ _ _ _ _ _ us hl => match us, hl with | [_], _ => rfl
theorem ok_pivot_at (T : Txt K mg Cof ad fd) : FnOk P w K mg base CX0 1 (ad 0) (fd 0) ["rows", "at"] (sp_pivot_at K Cof) := by
  have nd := sc_pivot_at.nd
  refine T.F_pivot_at.ok sc_pivot_at (fun vs H Q E h => len_pivot_at h) (fun cdv A outer s H vs Q E hr h => ⟨t_pivot_at K Cof E, ?_, rd_pivot_at h⟩)
  exact pss_cons (ps_set (i := 2) nd rfl (by first | exact Or.inl rfl | exact Or.inr rfl) (pv 1))
       (pss_cons (ps_while PassesOwn.never (PW.pt (pw_and (pt_cmpR op_lt (pv 2) (pe_callB call_len_seq (by rfl) T.z_len (by decide +kernel) (pa_cons (pv 0) (pa_nil))) (nomark _)) (pw_and1 (pt_cmpR op_eq (pe_ix ix_list (pe_ix ix_list (pv 0) (pv 2) (fun _ _ => rfl)) (pv 1) (fun _ _ => rfl)) (pe_int) (nomark _))))) (pss_one (ps_set (i := 2) nd rfl (by first | exact Or.inl rfl | exact Or.inr rfl) (pe_op op_add (pv 2) (pe_int)))))
       (pss_one (ps_ret (pv 2))))
theorem ok_cleared_rows (T : Txt K mg Cof ad fd) : FnOk P w K mg base CX0 1 (ad 1) (fd 1) ["rows", "at", "before"] (sp_cleared_rows K Cof) := by
  have nd := sc_cleared_rows.nd
  refine T.F_cleared_rows.ok sc_cleared_rows (fun vs H Q E h => len_cleared_rows h) (fun cdv A outer s H vs Q E hr h => ⟨t_cleared_rows K Cof E, ?_, rd_cleared_rows h⟩)
  exact pss_cons (ps_set (i := 3) nd rfl (by first | exact Or.inl rfl | exact Or.inr rfl) (pe_ix ix_list (pv 0) (pv 1) (fun _ _ => rfl)))
       (pss_cons (ps_set (i := 4) nd rfl (by first | exact Or.inl rfl | exact Or.inr rfl) (pe_slice sl_list (pv 0) (po_none) (po_some (pe_op op_add (pv 1) (pe_int)))))
       (pss_cons (ps_for PassesOwn.never rfl (pi_list (pe_slice sl_list (pv 0) (po_some (pe_op op_add (pv 1) (pe_int))) (po_none))) (pg_name (i := 5) nd rfl (by first | exact Or.inl rfl | exact Or.inr rfl)) (pss_one (ps_expr (pe_bm PySem.F.plainAttrs_list PySem.F.slot_list_append PySem.F.type_list_append mt_append (pv 4) (pa_cons (pe_lc (own := [("j", 6)]) (by rfl) nd (pi_range1 (by rfl) T.z_range (pa_cons (pe_callB call_len_seq (by rfl) T.z_len (by decide +kernel) (pa_cons (pv 5) (pa_nil))) (pa_nil))) (blkOk_by (own := [("j", 6)]) (N := ["rows", "at", "before", "top", "done", "row", "j"]) (sc := defScope s_cleared_rows) (by decide +kernel)) (fun _ _ _ _ _ => pg_name (i := 6) nd rfl (by first | exact Or.inl rfl | exact Or.inr rfl)) (fun _ _ _ _ _ => pts_nil) (fun _ _ _ _ _ => pe_op op_fdivA (pe_op op_sub (pe_op op_mulW (pe_ix ix_list (pv 3) (pv 1) (fun _ _ => rfl)) (pe_ix ix_list (pv 5) (pv 6) (fun _ _ => rfl))) (pe_op op_mulW (pe_ix ix_list (pv 5) (pv 1) (fun _ _ => rfl)) (pe_ix ix_list (pv 3) (pv 6) (fun _ _ => rfl)))) (pv 2))) (pa_nil))))))
       (pss_one (ps_ret (pv 4)))))
theorem ok_determinant (T : Txt K mg Cof ad fd) : FnOk P w K mg base CX0 2 (ad 2) (fd 2) ["rows"] (sp_determinant K Cof) := by
  have G_cleared_rows := ok_cleared_rows (P := P) (w := w) (base := base) T
  have B_cleared_rows := B_cleared_rows T
  have G_pivot_at := ok_pivot_at (P := P) (w := w) (base := base) T
  have B_pivot_at := B_pivot_at T
  have nd := sc_determinant.nd
  refine T.F_determinant.ok sc_determinant (fun vs H Q E h => len_determinant h) (fun cdv A outer s H vs Q E hr h => ⟨t_determinant K Cof E, ?_, rd_determinant h⟩)
  exact pss_cons (ps_setLc (i := 1) (own := [("row", 2)]) (by rfl) nd rfl rfl (sw_true rfl rfl rfl (by decide +kernel)) (pi_list (pv 0)) (blkOk_by (own := [("row", 2)]) (N := ["rows", "left", "row", "sign", "before", "at", "k", "kept"]) (sc := defScope s_determinant) (by decide +kernel)) (fun _ _ _ _ _ => pg_name (i := 2) nd rfl (by first | exact Or.inl rfl | exact Or.inr rfl)) (fun _ _ _ _ _ => pts_nil) (fun _ _ _ _ _ => pe_callTy call_list_of (by rfl) T.z_list (by decide +kernel) (pa_cons (pv 2) (pa_nil))))
       (pss_cons (ps_set (i := 3) nd rfl (by first | exact Or.inl rfl | exact Or.inr rfl) (pe_int))
       (pss_cons (ps_set (i := 4) nd rfl (by first | exact Or.inl rfl | exact Or.inr rfl) (pe_int))
       (pss_cons (ps_for PassesOwn.never rfl (pi_range1 (by rfl) T.z_range (pa_cons (pe_callB call_len_seq (by rfl) T.z_len (by decide +kernel) (pa_cons (pv 0) (pa_nil))) (pa_nil))) (pg_name (i := 5) nd rfl (by first | exact Or.inl rfl | exact Or.inr rfl)) (pss_cons (ps_set (i := 6) nd rfl (by first | exact Or.inl rfl | exact Or.inr rfl) (pe_call G_pivot_at (hr.mono (by decide)) (by rfl) T.g_pivot_at T.F_pivot_at.kp B_pivot_at .nil pass0 (pa_cons (pv 1) (pa_cons (pv 5) (pa_nil)))))
       (pss_cons (ps_if (pt_cmpR op_eq (pv 6) (pe_callB call_len_seq (by rfl) T.z_len (by decide +kernel) (pa_cons (pv 0) (pa_nil))) (nomark _)) (pss_one (ps_ret (pe_int))) (pss_nil))
       (pss_cut (ps_if (pt_cmpR op_gt (pv 6) (pv 5) (nomark _)) (pss_cons (ps_set (i := 7) nd rfl (by first | exact Or.inl rfl | exact Or.inr rfl) (pe_ix ix_list (pv 1) (pv 5) (fun _ _ => rfl)))
       (pss_cons (ps_asg (pe_ix ix_list (pv 1) (pv 6) (fun _ _ => rfl)) (pg_sub (pv 1) (pv 5) set_list))
       (pss_cons (ps_asg (pv 7) (pg_sub (pv 1) (pv 6) set_list))
       (pss_one (ps_set (i := 3) nd rfl (by first | exact Or.inl rfl | exact Or.inr rfl) (pe_un un_neg (pv 3))))))) (pss_nil))
       (pss_cons (ps_set (i := 1) nd rfl (by first | exact Or.inl rfl | exact Or.inr rfl) (pe_call G_cleared_rows (hr.mono (by decide)) (by rfl) T.g_cleared_rows T.F_cleared_rows.kp B_cleared_rows .nil pass0 (pa_cons (pv 1) (pa_cons (pv 5) (pa_cons (pv 4) (pa_nil))))))
       (pss_one (ps_set (i := 4) nd rfl (by first | exact Or.inl rfl | exact Or.inr rfl) (pe_ix ix_list (pe_ix ix_list (pv 1) (pv 5) (fun _ _ => rfl)) (pv 5) (fun _ _ => rfl)))))))))
       (pss_one (ps_ret (pe_op op_mulW (pv 3) (pv 4)))))))
theorem ok__law_cell_at (T : Txt K mg Cof ad fd) : FnOk P w K mg base CX0 1 (ad 3) (fd 3) ["_law_script", "_law_k"] (sp__law_cell_at K Cof) := by
  have nd := sc__law_cell_at.nd
  refine T.F__law_cell_at.ok sc__law_cell_at (fun vs H Q E h => len__law_cell_at h) (fun cdv A outer s H vs Q E hr h => ⟨t__law_cell_at K Cof E, ?_, rd__law_cell_at h⟩)
  exact pss_cons (ps_if (pt_cmpR op_lt (pv 1) (pe_callB call_len_seq (by rfl) T.z_len (by decide +kernel) (pa_cons (pv 0) (pa_nil))) (nomark _)) (pss_one (ps_ret (pe_ix ix_list (pv 0) (pv 1) (fun _ _ => rfl)))) (pss_nil))
       (pss_one (ps_ret (pe_int)))
theorem ok__law_whole (T : Txt K mg Cof ad fd) : FnOk P w K mg base CX0 1 (ad 4) (fd 4) ["_law_found"] (sp__law_whole K Cof) := by
  have nd := sc__law_whole.nd
  refine T.F__law_whole.ok sc__law_whole (fun vs H Q E h => len__law_whole h) (fun cdv A outer s H vs Q E hr h => ⟨t__law_whole K Cof E, ?_, rd__law_whole h⟩)
  exact pss_one (ps_ret (pe_and (pe_callB call_isi (by rfl) T.z_isinstance (by decide +kernel) (pa_cons (pv 0) (pa_cons (pe_bltn (v := .ty "int") (by rfl) T.z_int (by decide +kernel) rfl) (pa_nil)))) (pe_one (pe_not (pe_callB call_isi (by rfl) T.z_isinstance (by decide +kernel) (pa_cons (pv 0) (pa_cons (pe_bltn (v := .ty "bool") (by rfl) T.z_bool (by decide +kernel) rfl) (pa_nil))))))))
theorem ok__law_number (T : Txt K mg Cof ad fd) : FnOk P w K mg base CX0 1 (ad 5) (fd 5) ["_law_cell"] (sp__law_number K Cof) := by
  have nd := sc__law_number.nd
  refine T.F__law_number.ok sc__law_number (fun vs H Q E h => len__law_number h) (fun cdv A outer s H vs Q E hr h => ⟨t__law_number K Cof E, ?_, rd__law_number h⟩)
  exact pss_cons (ps_if (pt_cmpR op_eq (pe_op op_modN (pv 0) (pe_int)) (pe_int) (nomark _)) (pss_one (ps_ret (pe_op op_sub (pe_op op_modN (pe_op op_fdivA (pv 0) (pe_int)) (pe_int)) (pe_int)))) (pss_nil))
       (pss_one (ps_ret (pe_op op_sub (pe_op op_modN (pe_op op_fdivA (pv 0) (pe_int)) (pe_op op_add (pe_op op_mulW (pe_int) (pe_op op_pow (pe_int) (pe_int))) (pe_int))) (pe_op op_pow (pe_int) (pe_int)))))
theorem ok_law (T : Txt K mg Cof ad fd) : FnOk P w K mg base CX0 3 (ad 6) (fd 6) ["_law_script"] (sp_law K Cof) := by
  have G__law_cell_at := ok__law_cell_at (P := P) (w := w) (base := base) T
  have B__law_cell_at := B__law_cell_at T
  have G__law_number := ok__law_number (P := P) (w := w) (base := base) T
  have B__law_number := B__law_number T
  have G__law_whole := ok__law_whole (P := P) (w := w) (base := base) T
  have B__law_whole := B__law_whole T
  have G_determinant := ok_determinant (P := P) (w := w) (base := base) T
  have B_determinant := B_determinant T
  have nd := sc_law.nd
  refine T.F_law.ok sc_law (fun vs H Q E h => len_law h) (fun cdv A outer s H vs Q E hr h => ⟨t_law K Cof E, ?_, rd_law h⟩)
  exact pss_cons (ps_set (i := 1) nd rfl (by first | exact Or.inl rfl | exact Or.inr rfl) (pe_call G__law_number (hr.mono (by decide)) (by rfl) T.g__law_number T.F__law_number.kp B__law_number .nil pass0 (pa_cons (pe_call G__law_cell_at (hr.mono (by decide)) (by rfl) T.g__law_cell_at T.F__law_cell_at.kp B__law_cell_at .nil pass0 (pa_cons (pv 0) (pa_cons (pe_int) (pa_nil)))) (pa_nil))))
       (pss_cons (ps_set (i := 2) nd rfl (by first | exact Or.inl rfl | exact Or.inr rfl) (pe_call G__law_number (hr.mono (by decide)) (by rfl) T.g__law_number T.F__law_number.kp B__law_number .nil pass0 (pa_cons (pe_call G__law_cell_at (hr.mono (by decide)) (by rfl) T.g__law_cell_at T.F__law_cell_at.kp B__law_cell_at .nil pass0 (pa_cons (pv 0) (pa_cons (pe_int) (pa_nil)))) (pa_nil))))
       (pss_cons (ps_set (i := 3) nd rfl (by first | exact Or.inl rfl | exact Or.inr rfl) (pe_call G__law_number (hr.mono (by decide)) (by rfl) T.g__law_number T.F__law_number.kp B__law_number .nil pass0 (pa_cons (pe_call G__law_cell_at (hr.mono (by decide)) (by rfl) T.g__law_cell_at T.F__law_cell_at.kp B__law_cell_at .nil pass0 (pa_cons (pv 0) (pa_cons (pe_int) (pa_nil)))) (pa_nil))))
       (pss_cons (ps_set (i := 4) nd rfl (by first | exact Or.inl rfl | exact Or.inr rfl) (pe_call G__law_number (hr.mono (by decide)) (by rfl) T.g__law_number T.F__law_number.kp B__law_number .nil pass0 (pa_cons (pe_call G__law_cell_at (hr.mono (by decide)) (by rfl) T.g__law_cell_at T.F__law_cell_at.kp B__law_cell_at .nil pass0 (pa_cons (pv 0) (pa_cons (pe_int) (pa_nil)))) (pa_nil))))
       (pss_cut (ps_if (pt_cmpR op_eq (pe_op op_modN (pe_call G__law_cell_at (hr.mono (by decide)) (by rfl) T.g__law_cell_at T.F__law_cell_at.kp B__law_cell_at .nil pass0 (pa_cons (pv 0) (pa_cons (pe_int) (pa_nil)))) (pe_int)) (pe_int) (nomark _)) (pss_cons (ps_set (i := 5) nd rfl (by first | exact Or.inl rfl | exact Or.inr rfl) (pe_op op_mulW (pe_op op_mulW (pe_op op_mulW (pe_op op_mulW (pe_op op_pow (pe_int) (pe_int)) (pe_op op_pow (pe_int) (pe_int))) (pe_op op_pow (pe_int) (pe_int))) (pe_op op_pow (pe_int) (pe_int))) (pe_op op_pow (pe_int) (pe_int))))
       (pss_one (ps_asg (pe_lc (own := [("_law_one", 6)]) (by rfl) nd (pi_tup (pe_tup (pa_cons (pv 1) (pa_cons (pv 2) (pa_cons (pv 3) (pa_cons (pv 4) (pa_nil))))))) (blkOk_by (own := [("_law_one", 6)]) (N := ["_law_script", "_law_a", "_law_b", "_law_c", "_law_d", "_law_far", "_law_one", "_law_rows", "_law_two", "_law_none"]) (sc := defScope s_law) (by decide +kernel)) (fun _ _ _ _ _ => pg_name (i := 6) nd rfl (by first | exact Or.inl rfl | exact Or.inr rfl)) (fun _ _ _ _ _ => pts_nil) (fun _ _ _ _ _ => pe_op op_add (pe_op op_mulW (pv 6) (pv 5)) (pe_int))) (pg_tupL rfl (pgs_cons (pg_name (i := 1) nd rfl (by first | exact Or.inl rfl | exact Or.inr rfl)) (pgs_cons (pg_name (i := 2) nd rfl (by first | exact Or.inl rfl | exact Or.inr rfl)) (pgs_cons (pg_name (i := 3) nd rfl (by first | exact Or.inl rfl | exact Or.inr rfl)) (pgs_cons (pg_name (i := 4) nd rfl (by first | exact Or.inl rfl | exact Or.inr rfl)) (pgs_nil))))))))) (pss_nil))
       (pss_cons (ps_set (i := 7) nd rfl (by first | exact Or.inl rfl | exact Or.inr rfl) (pe_lst (pa_cons (pe_lst (pa_cons (pv 1) (pa_cons (pv 2) (pa_nil)))) (pa_cons (pe_lst (pa_cons (pv 3) (pa_cons (pv 4) (pa_nil)))) (pa_nil)))))
       (pss_cons (ps_set (i := 8) nd rfl (by first | exact Or.inl rfl | exact Or.inr rfl) (pe_call G_determinant (hr.mono (by decide)) (by rfl) T.g_determinant T.F_determinant.kp B_determinant .nil pass0 (pa_cons (pv 7) (pa_nil))))
       (pss_cons (ps_if (PW.pt (pw_or (pt_cmpR (op_neD hr.units) (pv 7) (pe_lst (pa_cons (pe_lst (pa_cons (pv 1) (pa_cons (pv 2) (pa_nil)))) (pa_cons (pe_lst (pa_cons (pv 3) (pa_cons (pv 4) (pa_nil)))) (pa_nil)))) (nomark _)) (pw_or (pt_not (pt_val (pe_call G__law_whole (hr.mono (by decide)) (by rfl) T.g__law_whole T.F__law_whole.kp B__law_whole .nil pass0 (pa_cons (pv 8) (pa_nil))))) (pw_or1 (pt_cmpR op_ne (pv 8) (pe_op op_sub (pe_op op_mulW (pv 1) (pv 4)) (pe_op op_mulW (pv 2) (pv 3))) (nomark _)))))) (pss_one (ps_ret (pe_bl))) (pss_nil))
       (pss_cons (ps_set (i := 6) nd rfl (by first | exact Or.inl rfl | exact Or.inr rfl) (pe_call G_determinant (hr.mono (by decide)) (by rfl) T.g_determinant T.F_determinant.kp B_determinant .nil pass0 (pa_cons (pe_lst (pa_cons (pe_lst (pa_cons (pv 1) (pa_nil))) (pa_nil))) (pa_nil))))
       (pss_cons (ps_set (i := 9) nd rfl (by first | exact Or.inl rfl | exact Or.inr rfl) (pe_call G_determinant (hr.mono (by decide)) (by rfl) T.g_determinant T.F_determinant.kp B_determinant .nil pass0 (pa_cons (pe_lst (pa_nil)) (pa_nil))))
       (pss_cons (ps_if (PW.pt (pw_or (pt_not (pt_val (pe_call G__law_whole (hr.mono (by decide)) (by rfl) T.g__law_whole T.F__law_whole.kp B__law_whole .nil pass0 (pa_cons (pv 6) (pa_nil))))) (pw_or1 (pt_not (pt_val (pe_call G__law_whole (hr.mono (by decide)) (by rfl) T.g__law_whole T.F__law_whole.kp B__law_whole .nil pass0 (pa_cons (pv 9) (pa_nil)))))))) (pss_one (ps_ret (pe_bl))) (pss_nil))
       (pss_one (ps_ret (pe_and (pe_cmpR op_eq (pv 6) (pv 1) (nomark _)) (pe_and (pe_cmpR op_eq (pv 9) (pe_int) (nomark _)) (pe_one (pe_cmpR op_eq (pe_call G_determinant (hr.mono (by decide)) (by rfl) T.g_determinant T.F_determinant.kp B_determinant .nil pass0 (pa_cons (pe_lst (pa_cons (pe_lst (pa_cons (pv 2) (pa_cons (pv 1) (pa_nil)))) (pa_cons (pe_lst (pa_cons (pv 4) (pa_cons (pv 3) (pa_nil)))) (pa_nil)))) (pa_nil))) (pe_op op_sub (pe_op op_mulW (pv 2) (pv 3)) (pe_op op_mulW (pv 1) (pv 4))) (nomark _)))))))))))))))))
end
theorem all_mk {l : PySem.W.OpenLaw} {w : World} {K : PySem.W.Frag} {h : Heap} {mg : Str → Option Value} {fa : Addr} (X : K.In h) (G : h.Ns mainGlobals mg) (hfa : mg "law" = some (.ref fa))
    {f0 : Addr} {od0 an0 : Option Addr} {sl0 : Array (Option Value)} {oc0 kV0 dc0 pm0 cd0 ct0 : Value}
    {f1 : Addr} {od1 an1 : Option Addr} {sl1 : Array (Option Value)} {oc1 kV1 dc1 pm1 cd1 ct1 : Value}
    {f2 : Addr} {od2 an2 : Option Addr} {sl2 : Array (Option Value)} {oc2 kV2 dc2 pm2 cd2 ct2 : Value}
    {f3 : Addr} {od3 an3 : Option Addr} {sl3 : Array (Option Value)} {oc3 kV3 dc3 pm3 cd3 ct3 : Value}
    {f4 : Addr} {od4 an4 : Option Addr} {sl4 : Array (Option Value)} {oc4 kV4 dc4 pm4 cd4 ct4 : Value}
    {f5 : Addr} {od5 an5 : Option Addr} {sl5 : Array (Option Value)} {oc5 kV5 dc5 pm5 cd5 ct5 : Value}
    {f6 : Addr} {od6 an6 : Option Addr} {sl6 : Array (Option Value)} {oc6 kV6 dc6 pm6 cd6 ct6 : Value}
    (a0 : PySem.W.nsIn K mainGlobals "pivot_at" = some (some (.ref f0))) (l0 : K.lookup f0 = some ⟨oc0, od0, .func (PySem.W.fnOf "pivot_at" "pivot_at" (defArgs s_pivot_at) (defBody s_pivot_at) (defScope s_pivot_at) .none kV0 dc0 pm0 an0 cd0 ct0), sl0⟩) (c0 : PySem.W.codeIn K cd0 "pivot_at" = true) (k0 : PySem.W.keepIn K (.ref f0) = true)
    (a1 : PySem.W.nsIn K mainGlobals "cleared_rows" = some (some (.ref f1))) (l1 : K.lookup f1 = some ⟨oc1, od1, .func (PySem.W.fnOf "cleared_rows" "cleared_rows" (defArgs s_cleared_rows) (defBody s_cleared_rows) (defScope s_cleared_rows) .none kV1 dc1 pm1 an1 cd1 ct1), sl1⟩) (c1 : PySem.W.codeIn K cd1 "cleared_rows" = true) (k1 : PySem.W.keepIn K (.ref f1) = true)
    (a2 : PySem.W.nsIn K mainGlobals "determinant" = some (some (.ref f2))) (l2 : K.lookup f2 = some ⟨oc2, od2, .func (PySem.W.fnOf "determinant" "determinant" (defArgs s_determinant) (defBody s_determinant) (defScope s_determinant) .none kV2 dc2 pm2 an2 cd2 ct2), sl2⟩) (c2 : PySem.W.codeIn K cd2 "determinant" = true) (k2 : PySem.W.keepIn K (.ref f2) = true)
    (a3 : PySem.W.nsIn K mainGlobals "_law_cell_at" = some (some (.ref f3))) (l3 : K.lookup f3 = some ⟨oc3, od3, .func (PySem.W.fnOf "_law_cell_at" "_law_cell_at" (defArgs s__law_cell_at) (defBody s__law_cell_at) (defScope s__law_cell_at) .none kV3 dc3 pm3 an3 cd3 ct3), sl3⟩) (c3 : PySem.W.codeIn K cd3 "_law_cell_at" = true) (k3 : PySem.W.keepIn K (.ref f3) = true)
    (a4 : PySem.W.nsIn K mainGlobals "_law_whole" = some (some (.ref f4))) (l4 : K.lookup f4 = some ⟨oc4, od4, .func (PySem.W.fnOf "_law_whole" "_law_whole" (defArgs s__law_whole) (defBody s__law_whole) (defScope s__law_whole) .none kV4 dc4 pm4 an4 cd4 ct4), sl4⟩) (c4 : PySem.W.codeIn K cd4 "_law_whole" = true) (k4 : PySem.W.keepIn K (.ref f4) = true)
    (a5 : PySem.W.nsIn K mainGlobals "_law_number" = some (some (.ref f5))) (l5 : K.lookup f5 = some ⟨oc5, od5, .func (PySem.W.fnOf "_law_number" "_law_number" (defArgs s__law_number) (defBody s__law_number) (defScope s__law_number) .none kV5 dc5 pm5 an5 cd5 ct5), sl5⟩) (c5 : PySem.W.codeIn K cd5 "_law_number" = true) (k5 : PySem.W.keepIn K (.ref f5) = true)
    (a6 : PySem.W.nsIn K mainGlobals "law" = some (some (.ref f6))) (l6 : K.lookup f6 = some ⟨oc6, od6, .func (PySem.W.fnOf "law" "law" (defArgs s_law) (defBody s_law) (defScope s_law) .none kV6 dc6 pm6 an6 cd6 ct6), sl6⟩) (c6 : PySem.W.codeIn K cd6 "law" = true) (k6 : PySem.W.keepIn K (.ref f6) = true)
    (z_bool : PySem.W.nsIn K mainGlobals "bool" = some none)
    (z_int : PySem.W.nsIn K mainGlobals "int" = some none)
    (z_isinstance : PySem.W.nsIn K mainGlobals "isinstance" = some none)
    (z_len : PySem.W.nsIn K mainGlobals "len" = some none)
    (z_list : PySem.W.nsIn K mainGlobals "list" = some none)
    (z_range : PySem.W.nsIn K mainGlobals "range" = some none)
    : ∃ fd : FuncData, (∀ (s : Shared) (v : Value), BindsTo s fd ⟨[v], []⟩ [("_law_script", v)]) ∧ ∀ base : Heap, K.In base → base.Ns mainGlobals mg → FnOk l.prog w K mg base CX0 3 fa fd ["_law_script"] (sp_law K (fun _ => 0)) := by
  have e := hfa.symm.trans (PySem.W.mg_of X G a6)
  cases e
  have T : Txt K mg (fun _ => 0) (fun i => [f0, f1, f2, f3, f4, f5, fa].getD i 0) (fun i => [PySem.W.fnOf "pivot_at" "pivot_at" (defArgs s_pivot_at) (defBody s_pivot_at) (defScope s_pivot_at) .none kV0 dc0 pm0 an0 cd0 ct0, PySem.W.fnOf "cleared_rows" "cleared_rows" (defArgs s_cleared_rows) (defBody s_cleared_rows) (defScope s_cleared_rows) .none kV1 dc1 pm1 an1 cd1 ct1, PySem.W.fnOf "determinant" "determinant" (defArgs s_determinant) (defBody s_determinant) (defScope s_determinant) .none kV2 dc2 pm2 an2 cd2 ct2, PySem.W.fnOf "_law_cell_at" "_law_cell_at" (defArgs s__law_cell_at) (defBody s__law_cell_at) (defScope s__law_cell_at) .none kV3 dc3 pm3 an3 cd3 ct3, PySem.W.fnOf "_law_whole" "_law_whole" (defArgs s__law_whole) (defBody s__law_whole) (defScope s__law_whole) .none kV4 dc4 pm4 an4 cd4 ct4, PySem.W.fnOf "_law_number" "_law_number" (defArgs s__law_number) (defBody s__law_number) (defScope s__law_number) .none kV5 dc5 pm5 an5 cd5 ct5, PySem.W.fnOf "law" "law" (defArgs s_law) (defBody s_law) (defScope s_law) .none kV6 dc6 pm6 an6 cd6 ct6].getD i (PySem.W.fnOf "law" "law" (defArgs s_law) (defBody s_law) (defScope s_law) .none kV6 dc6 pm6 an6 cd6 ct6)) :=
    { z_bool := PySem.W.mg_none_of X G z_bool, z_int := PySem.W.mg_none_of X G z_int, z_isinstance := PySem.W.mg_none_of X G z_isinstance, z_len := PySem.W.mg_none_of X G z_len, z_list := PySem.W.mg_none_of X G z_list, z_range := PySem.W.mg_none_of X G z_range, g_pivot_at := PySem.W.mg_of X G a0, F_pivot_at := fun_mk (st := s_pivot_at) l0 c0 k0, g_cleared_rows := PySem.W.mg_of X G a1, F_cleared_rows := fun_mk (st := s_cleared_rows) l1 c1 k1, g_determinant := PySem.W.mg_of X G a2, F_determinant := fun_mk (st := s_determinant) l2 c2 k2, g__law_cell_at := PySem.W.mg_of X G a3, F__law_cell_at := fun_mk (st := s__law_cell_at) l3 c3 k3, g__law_whole := PySem.W.mg_of X G a4, F__law_whole := fun_mk (st := s__law_whole) l4 c4 k4, g__law_number := PySem.W.mg_of X G a5, F__law_number := fun_mk (st := s__law_number) l5 c5 k5, g_law := PySem.W.mg_of X G a6, F_law := fun_mk (st := s_law) l6 c6 k6 }
  exact ⟨PySem.W.fnOf "law" "law" (defArgs s_law) (defBody s_law) (defScope s_law) .none kV6 dc6 pm6 an6 cd6 ct6, fun s v => .of_eq rfl, fun base _ _ => ok_law T⟩
end RP
open PySem PySem.W PyProof.Rows
set_option maxHeartbeats 0 in
theorem PySem.Challenge.cw_rootspan_k31_determinant_two_holds : PySem.Challenge.rw_rootspan_k31_determinant_two.Holds := by
  w_on; o_law; k_head; (case hw => w_witness2)
  k_fill
  refine L2.walk_of (l := PySem.Challenge.rw_rootspan_k31_determinant_two) (n := 63) (k := 3) (x := "_law_script") (CX := fun _ => L2.CX0) (sp := fun w => RP.sp_law _ (fun _ => 0)) rfl (by decide) rfl ⟨rfl, by decide, by decide⟩ (fun w h Y => PySem.W.kIn_of Y) ?F (fun _ _ a ns hl _ hS => ⟨a, ns, rfl, hS, hl, fun _ => rfl⟩) (fun _ _ _ _ _ h => h)
  case F =>
    intro w mg fa h KX G hmg
    refine' RP.all_mk KX G hmg ?a0 ?l0 ?c0 ?k0 ?a1 ?l1 ?c1 ?k1 ?a2 ?l2 ?c2 ?k2 ?a3 ?l3 ?c3 ?k3 ?a4 ?l4 ?c4 ?k4 ?a5 ?l5 ?c5 ?k5 ?a6 ?l6 ?c6 ?k6 ?z_bool ?z_int ?z_isinstance ?z_len ?z_list ?z_range
    (case a0 => k_is); (case l0 => k_is); (case c0 => k_is); (case k0 => k_is); (case a1 => k_is); (case l1 => k_is); (case c1 => k_is); (case k1 => k_is); (case a2 => k_is); (case l2 => k_is); (case c2 => k_is); (case k2 => k_is); (case a3 => k_is); (case l3 => k_is); (case c3 => k_is); (case k3 => k_is); (case a4 => k_is); (case l4 => k_is); (case c4 => k_is); (case k4 => k_is); (case a5 => k_is); (case l5 => k_is); (case c5 => k_is); (case k5 => k_is); (case a6 => k_is); (case l6 => k_is); (case c6 => k_is); (case k6 => k_is); (case z_bool => k_is); (case z_int => k_is); (case z_isinstance => k_is); (case z_len => k_is); (case z_list => k_is); (case z_range => k_is)

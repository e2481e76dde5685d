import PyProof.Rows.All
import Wide.All
import OpenK.AllK
import Wide.FinOn
import HandS.ForMost
import HandS.Exc
import HandS.TryOnly
import HandS.ExcOwn
import HandS.WordsExc
import HandS.Wide
import HandS.IsInst
import HandS.Conv
import HandS.RevRange
import HandS.Evl
import HandS.More
import HandS.Style
import PySem.Challenge.RW_rootspan_k33_determinant_built
set_option Elab.async false
set_option linter.all false
set_option maxRecDepth 100000
set_option maxHeartbeats 4000000
set_option exponentiation.threshold 100000
set_option linter.all false
set_option maxRecDepth 100000
set_option maxHeartbeats 4000000
namespace RB
open PySem PySem.Spec PyProof.Rows L2
open Evl (Ex rLenS rListS rMax2 tCut pss_cut)

/-! ### the readings' names -/
def rIAdd : R2 := rI0 fun i j => .int (i + j)
def rISub : R2 := rI0 fun i j => .int (i - j)
def rMul : R2 := rI CMulW fun i j => .int (i * j)
def rMod : R2 := rI (fun _ j => j ≠ 0) fun i j => .int (i.fmod j)
def CDivA (_ j : Int) : Prop := j ≠ 0 ∧ j.natAbs.log2 < 9000
def rDiv : R2 := rI CDivA fun i j => .int (i.fdiv j)
def rPow : R2 := rI CPow fun i j => .int (i ^ j.toNat)
def rLt : R2 := rI0 fun i j => .bl (decide (i < j))
def rLe : R2 := rI0 fun i j => .bl (decide (i ≤ j))
def rGt : R2 := rI0 fun i j => .bl (decide (j < i))
def rGe : R2 := rI0 fun i j => .bl (decide (j ≤ i))
def rIsN : R2 := fun x y H Q => y = .non ∧ Q (.bl (decide (x = .non))) H
def rNotN : R2 := fun x y H Q => y = .non ∧ Q (.bl (!decide (x = .non))) H
def rNeg : V → Hp → VK → Prop := rU fun i => .int (-i)
def rAbs : List V → Hp → VK → Prop := fun xs H Q => ∃ i, xs = [.int i] ∧ Q (.int (if i < 0 then -i else i)) H
def rMin2 : List V → Hp → VK → Prop := fun xs H Q => ∃ i j, xs = [.int i, .int j] ∧ Q (.int (if j < i then j else i)) H
def rInt1 : List V → Hp → VK → Prop := fun xs H Q => (∃ i, xs = [.int i] ∧ Q (.int i) H) ∨ ∃ k, xs = [.bl k] ∧ Q (.int (if k then 1 else 0)) H
def rAddS : R2 := fun x y H Q => ∃ i j, x = .str i ∧ y = .str j ∧ i.length + j.length ≤ sizeLine ∧ Q (.str (i ++ j)) H
def rLenStr : List V → Hp → VK → Prop := fun xs H Q => ∃ z, xs = [.str z] ∧ z.length ≤ sizeLine ∧ Q (.int z.length) H
def rStrInt : List V → Hp → VK → Prop := fun xs H Q => ∃ i, xs = [.int i] ∧ i.natAbs.log2 < 1920 ∧ Q (.str (toString i)) H
def rInsert : V → List V → Hp → VK → Prop := fun x vs H Q => ∃ (l : Addr) (xs : List V) (i : Int) (y : V), x = .ref l ∧ vs = [.int i, y] ∧ H l = some (.lst xs) ∧ xs.length < sizeLine ∧ 0 ≤ i ∧ i < 2 ^ 63 ∧ Q .non (upd H l (.lst (xs.take i.toNat ++ [y] ++ xs.drop i.toNat)))
section
variable {X : Cx}
theorem op_fdivA : OpR X (binaryOp .FloorDiv) rDiv := opI fun i j _ _ _ _ _ hc q => floordiv_int hc.1 q (.inl (PyProof.noPylong_of_log2 hc.2))
theorem op_isN1 : OpR X (compareOp .Is) rIsN := op_isN
theorem op_notN1 : OpR X (compareOp .IsNot) rNotN := op_notN
end

/-! ### heaps -/
def Exb (l : Addr) (H H' : Hp) : Prop := ∀ a, a ≠ l → ∀ o, H a = some o → H' a = some o
theorem _root_.Evl.Ex.mutb {H0 H H' : Hp} {l : Addr} (e : Ex H0 H) (b : Exb l H H') (f : H0 l = none) : Ex H0 H' := fun a o h => b a (ne_of_none h f) o (e a o h)
theorem Exb.trans {l : Addr} {H H1 H2 : Hp} (a : Exb l H H1) (b : Exb l H1 H2) : Exb l H H2 := fun c n o h => b c n o (a c n o h)
theorem Exb.ex {l : Addr} {H H1 H2 : Hp} (a : Exb l H H1) (b : Ex H1 H2) : Exb l H H2 := fun c n o h => b c o (a c n o h)
theorem _root_.Evl.Ex.exb {l : Addr} {H H1 H2 : Hp} (a : Ex H H1) (b : Exb l H1 H2) : Exb l H H2 := fun c n o h => b c n o (a c o h)
/-- a list laid anew -/
theorem newL {H : Hp} {xs : List V} {Q : VK} (k : ∀ p H', H p = none → Ex H H' → H' p = some (.lst xs) → Q (.ref p) H') : ∀ p, H p = none → Q (.ref p) (upd H p (.lst xs)) :=
  fun p hp => k p _ hp (Evl.Ex.new hp) upd_same
theorem newT {H : Hp} {xs : List V} {Q : VK} (k : ∀ p H', H p = none → Ex H H' → H' p = some (.tup xs) → Q (.ref p) H') : ∀ p, H p = none → Q (.ref p) (upd H p (.tup xs)) :=
  fun p hp => k p _ hp (Evl.Ex.new hp) upd_same
/-- an object changed -/
theorem mutL {H : Hp} {l : Addr} {o : HO} {G : Hp → Prop} (k : ∀ H', Exb l H H' → H' l = some o → G H') : G (upd H l o) :=
  k _ (fun a n o h => by rw [upd_ne n]; exact h) upd_same
theorem _root_.Evl.Ex.free {H H' : Hp} (e : Ex H H') {p : Addr} (h : H' p = none) : H p = none := Evl.fresh_back e h
theorem _root_.Evl.Ex.l {K : PySem.W.Frag} {H H' : Hp} {a : Addr} {xs : List V} (e : Ex H H') (h : SqL K H a xs) : SqL K H' a xs := Evl.ex_l e h
theorem SqL.inj {K : PySem.W.Frag} {H : Hp} {a : Addr} {xs : List V} (h : H a = some (.lst xs)) : SqL K H a xs := .inl (.inl h)

def LstK (Q : VK) : List V → Hp → Prop := fun xs H1 => xs.length ≤ sizeLine ∧ ∀ p, H1 p = none → Q (.ref p) (upd H1 p (.lst xs))
def TupK (Q : VK) : List V → Hp → Prop := fun xs H1 => xs.length ≤ sizeLine ∧ ∀ p, H1 p = none → Q (.ref p) (upd H1 p (.tup xs))
theorem small0 {n : Nat} (h : n ≤ 16777216) : n ≤ sizeLine := by rw [sizeLine_eq]; exact h
/-! ### readings, step by step -/
section
variable {K : PySem.W.Frag} {σ : L2.St} {H : Hp} {Q : VK} {D : Ends} {ta tb te to ti : TE} {t u : TS} {tt t1 t2 : TT} {g : TG}
theorem r_seq (h : t { D with nx := u D } σ H) : tSeq t u D σ H := h
theorem r_next (h : D.nx σ H) : tNext D σ H := h
theorem r_var {i : Nat} {v : V} (h : σ[i]? = some (some v)) (q : Q v H) : tVar i σ H Q := ⟨v, h, q⟩
theorem r_c {v : V} (q : Q v H) : tC v σ H Q := q
theorem r_op {r : R2} (h : ta σ H fun x H1 => tb σ H1 fun y H2 => r x y H2 Q) : tOp r ta tb σ H Q := h
theorem r_un {r : V → Hp → VK → Prop} (h : ta σ H fun x H1 => r x H1 Q) : tUn r ta σ H Q := h
theorem r_add {i j : Int} (q : Q (.int (i + j)) H) : rIAdd (.int i) (.int j) H Q := ⟨i, j, rfl, rfl, q⟩
theorem r_sub {i j : Int} (q : Q (.int (i - j)) H) : rISub (.int i) (.int j) H Q := ⟨i, j, rfl, rfl, q⟩
theorem r_mul {i j : Int} (c : CMulW i j) (q : Q (.int (i * j)) H) : rMul (.int i) (.int j) H Q := ⟨i, j, rfl, rfl, c, q⟩
theorem r_mod {i j : Int} (c : j ≠ 0) (q : Q (.int (i.fmod j)) H) : rMod (.int i) (.int j) H Q := ⟨i, j, rfl, rfl, c, q⟩
theorem r_div {i j : Int} (c : CDivA i j) (q : Q (.int (i.fdiv j)) H) : rDiv (.int i) (.int j) H Q := ⟨i, j, rfl, rfl, c, q⟩
theorem r_pow {i j : Int} (c : CPow i j) (q : Q (.int (i ^ j.toNat)) H) : rPow (.int i) (.int j) H Q := ⟨i, j, rfl, rfl, c, q⟩
theorem r_lt {i j : Int} (q : Q (.bl (decide (i < j))) H) : rLt (.int i) (.int j) H Q := ⟨i, j, rfl, rfl, q⟩
theorem r_le {i j : Int} (q : Q (.bl (decide (i ≤ j))) H) : rLe (.int i) (.int j) H Q := ⟨i, j, rfl, rfl, q⟩
theorem r_gt {i j : Int} (q : Q (.bl (decide (j < i))) H) : rGt (.int i) (.int j) H Q := ⟨i, j, rfl, rfl, q⟩
theorem r_ge {i j : Int} (q : Q (.bl (decide (j ≤ i))) H) : rGe (.int i) (.int j) H Q := ⟨i, j, rfl, rfl, q⟩
theorem r_neg {i : Int} (q : Q (.int (-i)) H) : rNeg (.int i) H Q := ⟨i, rfl, q⟩
theorem d_int (i j : Int) : decide (V.int i = V.int j) = decide (i = j) := by
  by_cases h : i = j
  · rw [h]; simp
  · rw [decide_eq_false h, decide_eq_false (fun z => h (V.int.inj z))]
theorem d_bl (i j : Bool) : decide (V.bl i = V.bl j) = decide (i = j) := by
  by_cases h : i = j
  · rw [h]; simp
  · rw [decide_eq_false h, decide_eq_false (fun z => h (V.bl.inj z))]
theorem d_str (i j : Str) : decide (V.str i = V.str j) = decide (i = j) := by
  by_cases h : i = j
  · rw [h]; simp
  · rw [decide_eq_false h, decide_eq_false (fun z => h (V.str.inj z))]
theorem r_eqI {i j : Int} (q : Q (.bl (decide (i = j))) H) : rEq (.int i) (.int j) H Q := ⟨rfl, by rw [d_int]; exact q⟩
theorem r_neI {i j : Int} (q : Q (.bl (!decide (i = j))) H) : rNe (.int i) (.int j) H Q := ⟨rfl, by rw [d_int]; exact q⟩
theorem r_eqB {i j : Bool} (q : Q (.bl (decide (i = j))) H) : rEq (.bl i) (.bl j) H Q := ⟨rfl, by rw [d_bl]; exact q⟩
theorem r_eqS {i j : Str} (q : Q (.bl (decide (i = j))) H) : rEq (.str i) (.str j) H Q := ⟨rfl, by rw [d_str]; exact q⟩
theorem r_neS {i j : Str} (q : Q (.bl (!decide (i = j))) H) : rNe (.str i) (.str j) H Q := ⟨rfl, by rw [d_str]; exact q⟩
theorem r_isN {x : V} (q : Q (.bl (decide (x = .non))) H) : rIsN x .non H Q := ⟨rfl, q⟩
theorem r_notN {x : V} (q : Q (.bl (!decide (x = .non))) H) : rNotN x .non H Q := ⟨rfl, q⟩
theorem r_ixL {p : Addr} {i : Int} {xs : List V} {v : V} (h : SqL K H p xs) (a : atI xs i = some v) (q : Q v H) : rIxL K (.ref p) (.int i) H Q := ⟨p, xs, i, v, rfl, rfl, h, a, q⟩
theorem r_ixT {p : Addr} {i : Int} {xs : List V} {v : V} (h : SqT K H p xs) (a : atI xs i = some v) (q : Q v H) : rIxT K (.ref p) (.int i) H Q := ⟨p, xs, i, v, rfl, rfl, h, a, q⟩
theorem r_cons {ta : TE} {tr : TA} {Q : List V → Hp → Prop} (h : ta σ H fun x H1 => tr σ H1 fun xs H2 => Q (x :: xs) H2) : tCons ta tr σ H Q := h
theorem r_nil {Q : List V → Hp → Prop} (h : Q [] H) : tNil σ H Q := h
theorem r_cb {r : List V → Hp → VK → Prop} {ta : TA} (h : ta σ H fun vs H1 => r vs H1 Q) : tCB r ta σ H Q := h
theorem r_abs {i : Int} (q : Q (.int (if i < 0 then -i else i)) H) : rAbs [.int i] H Q := ⟨i, rfl, q⟩
theorem r_max2 {i j : Int} (q : Q (.int (if j > i then j else i)) H) : rMax2 [.int i, .int j] H Q := ⟨i, j, rfl, q⟩
theorem r_min2 {i j : Int} (q : Q (.int (if j < i then j else i)) H) : rMin2 [.int i, .int j] H Q := ⟨i, j, rfl, q⟩
theorem r_len {p : Addr} {xs : List V} (h : SqL K H p xs) (q : Q (.int xs.length) H) : rLenS K [.ref p] H Q := ⟨p, xs, rfl, .inl h, q⟩
theorem r_lenT {p : Addr} {xs : List V} (h : SqT K H p xs) (q : Q (.int xs.length) H) : rLenS K [.ref p] H Q := ⟨p, xs, rfl, .inr h, q⟩
theorem r_list {p : Addr} {xs : List V} (h : SqL K H p xs) (q : ∀ l H', H l = none → Ex H H' → H' l = some (.lst xs) → Q (.ref l) H') : rListS K [.ref p] H Q := ⟨p, xs, rfl, .inl h, newL q⟩
theorem r_intI {i : Int} (q : Q (.int i) H) : rInt1 [.int i] H Q := .inl ⟨i, rfl, q⟩
theorem r_intB {b : Bool} (q : Q (.int (if b then 1 else 0)) H) : rInt1 [.bl b] H Q := .inr ⟨b, rfl, q⟩
theorem r_call {sp : Sp} {E : XK} {ta : TA} (h : ta σ H fun vs H1 => sp vs H1 Q E) : tCall sp [] E ta σ H Q := by
  show ta σ H fun vs H1 => sp (vs ++ []) H1 Q E
  have e : (fun vs H1 => sp (vs ++ []) H1 Q E) = fun (vs : List V) H1 => sp vs H1 Q E := by
    funext vs H1; rw [List.append_nil]
  rw [e]; exact h
theorem r_lst {ta : TA} (h : ta σ H (LstK Q)) : tLst ta σ H Q := h
theorem r_lstK {xs : List V} (k : ∀ p H', H p = none → Ex H H' → H' p = some (.lst xs) → Q (.ref p) H') (hz : xs.length ≤ 16777216 := by simp) : LstK Q xs H := ⟨small0 hz, newL k⟩
theorem r_tup {ta : TA} (h : ta σ H (TupK Q)) : tTup ta σ H Q := h
theorem r_tupK {xs : List V} (k : ∀ p H', H p = none → Ex H H' → H' p = some (.tup xs) → Q (.ref p) H') (hz : xs.length ≤ 16777216 := by simp) : TupK Q xs H := ⟨small0 hz, newT k⟩
theorem r_asg (h : te σ H fun x H1 => g x σ H1 D.nx) : tAsg te g D σ H := h
theorem r_gn {i : Nat} {v : V} {Q : L2.St → Hp → Prop} (h : Q (σ.set i (some v)) H) : gName i v σ H Q := h
theorem r_ret (h : te σ H D.rt) : tRet te D σ H := h
theorem r_drop (h : te σ H fun _ H1 => D.nx σ H1) : tDrop te D σ H := h
theorem r_ifS (h : tt σ H fun b H1 => if b = true then t D σ H1 else u D σ H1) : tIfS tt t u D σ H := h
theorem r_test {Q : Bool → Hp → Prop} (h : te σ H fun x H1 => ∃ k, x = .bl k ∧ Q k H1) : tTest te σ H Q := h
theorem r_B {Q : Bool → Hp → Prop} (h : te σ H fun x H1 => ∃ k, x = .bl k ∧ Q k H1) : tB te σ H Q := h
theorem r_bl {k : Bool} {Q : Bool → Prop} (h : Q k) : ∃ k', V.bl k = .bl k' ∧ Q k' := ⟨k, rfl, h⟩
theorem r_and {Q : Bool → Hp → Prop} (h : t1 σ H fun c H1 => if c = true then t2 σ H1 Q else Q false H1) : tAnd t1 t2 σ H Q := h
theorem r_or {Q : Bool → Hp → Prop} (h : t1 σ H fun c H1 => if c = true then Q true H1 else t2 σ H1 Q) : tOr t1 t2 σ H Q := h
theorem r_not {Q : Bool → Hp → Prop} (h : tt σ H fun c H1 => Q (!c) H1) : tNot tt σ H Q := h
theorem r_andV (h : ta σ H fun x H1 => ∃ c, x = .bl c ∧ if c = true then tb σ H1 Q else Q (.bl false) H1) : tAndV ta tb σ H Q := h
theorem r_orV (h : ta σ H fun x H1 => ∃ c, x = .bl c ∧ if c = true then Q (.bl true) H1 else tb σ H1 Q) : tOrV ta tb σ H Q := h
theorem r_notV (h : ta σ H fun x H1 => ∃ c, x = .bl c ∧ Q (.bl (!c)) H1) : tNotV ta σ H Q := h
theorem r_if (h : tt σ H fun c H1 => if c = true then ta σ H1 Q else tb σ H1 Q) : tIf tt ta tb σ H Q := h
theorem r_bm {T : String} {r : V → List V → Hp → VK → Prop} {ta : TA} (h : to σ H fun x H1 => tyV K T x H1 ∧ ta σ H1 fun xs H2 => r x xs H2 Q) : tBM K T r to ta σ H Q := h
theorem r_bm0 {T : String} {r : V → List V → Hp → VK → Prop} (h : to σ H fun x H1 => tyV K T x H1 ∧ r x [] H1 Q) : tBM0 K T r to σ H Q := h
theorem r_append {l : Addr} {xs : List V} {y : V} (h : H l = some (.lst xs)) (z : xs.length < sizeLine) (q : ∀ H', Exb l H H' → H' l = some (.lst (xs ++ [y])) → Q .non H') : rAppend (.ref l) [y] H Q :=
  ⟨l, xs, y, rfl, rfl, h, z, mutL q⟩
theorem r_pop {l : Addr} {xs : List V} {y : V} (h : H l = some (.lst xs)) (z : xs[xs.length - 1]? = some y) (q : ∀ H', Exb l H H' → H' l = some (.lst xs.dropLast) → Q y H') : rPop (.ref l) [] H Q :=
  ⟨l, xs, y, rfl, rfl, h, z, mutL q⟩
theorem r_insert {l : Addr} {xs : List V} {y : V} {i : Int} (h : H l = some (.lst xs)) (z : xs.length < sizeLine) (h0 : 0 ≤ i) (h1 : i < 2 ^ 63) (q : ∀ H', Exb l H H' → H' l = some (.lst (xs.take i.toNat ++ [y] ++ xs.drop i.toNat)) → Q .non H') : rInsert (.ref l) [.int i, y] H Q :=
  ⟨l, xs, i, y, rfl, rfl, h, z, h0, h1, mutL q⟩
theorem tyL {p : Addr} {xs : List V} (h : H p = some (.lst xs)) : tyV K "list" (.ref p) H := .inl ⟨rfl, _, .inl (.inl h)⟩
theorem r_ty {T : String} {x : V} {B : Prop} (h : tyV K T x H) (q : B) : tyV K T x H ∧ B := ⟨h, q⟩
theorem r_sub_ {ts : TSet} {v : V} {Q : L2.St → Hp → Prop} (h : to σ H fun o H1 => ti σ H1 fun i H2 => ts o i v H2 fun H3 => Q σ H3) : gSub to ti ts v σ H Q := h
theorem r_setL {p : Addr} {xs : List V} {k : Int} {j : Nat} {v : V} {Q : Hp → Prop} (h : H p = some (.lst xs)) (hk : ixN xs.length k = some j) (q : ∀ H', Exb p H H' → H' p = some (.lst (xs.set j v)) → Q H') : rSetL (.ref p) (.int k) v H Q :=
  ⟨p, xs, k, j, rfl, rfl, h, hk, mutL q⟩
theorem r_cat {l b : Addr} {xs zs : List V} (h1 : H l = some (.lst xs)) (h2 : H b = some (.lst zs)) (z : xs.length + zs.length ≤ sizeLine) (q : ∀ p H', H p = none → Ex H H' → H' p = some (.lst (xs ++ zs)) → Q (.ref p) H') : rCat (.ref l) (.ref b) H Q :=
  ⟨l, b, xs, zs, rfl, rfl, h1, h2, z, newL q⟩
theorem flat_rep {α : Type} (x : α) : ∀ n : Nat, (List.replicate n [x]).flatten = List.replicate n x
  | 0 => rfl
  | n + 1 => by rw [List.replicate_succ, List.flatten_cons, flat_rep x n, List.replicate_succ]; rfl
/-- [x] * k -/
theorem r_rep1 {l : Addr} {x : V} {k : Int} (h1 : H l = some (.lst [x])) (z : k.toNat ≤ 1000000) (q : ∀ p H', H p = none → Ex H H' → H' p = some (.lst (List.replicate k.toNat x)) → Q (.ref p) H')  (h0 : -(2 ^ 63) ≤ k := by omega) : rRep (.ref l) (.int k) H Q :=
  ⟨l, k, [x], rfl, rfl, h1, h0, by omega, by
    show 1 * k.toNat ≤ sizeLine
    rw [Nat.one_mul]
    exact Nat.le_trans z (by decide), newL fun p H' a b c => q p H' a b (by rw [flat_rep] at c; exact c)⟩
theorem r_sl {r : V → Option Int → Option Int → Hp → VK → Prop} {tl th : TO} (h : te σ H fun x H1 => tl σ H1 fun l H2 => th σ H2 fun u H3 => r x l u H3 Q) : tSl r te tl th σ H Q := h
theorem r_part {Q : Option Int → Hp → Prop} (h : te σ H fun x H1 => ∃ i, x = .int i ∧ Q (some i) H1) : tPart te σ H Q := h
theorem r_int {i : Int} {Q : Int → Prop} (h : Q i) : ∃ j, V.int i = .int j ∧ Q j := ⟨i, rfl, h⟩
theorem r_nopart {Q : Option Int → Hp → Prop} (h : Q none H) : tNoPart σ H Q := h
theorem r_slL {a : Addr} {xs : List V} {lo hi : Option Int} (h : SqL K H a xs) (q : ∀ p H', H p = none → Ex H H' → H' p = some (.lst (cutV xs lo hi)) → Q (.ref p) H') : rSlL K (.ref a) lo hi H Q := ⟨a, xs, rfl, h, newL q⟩
theorem r_par {i j : Nat} {ta : TA} (h : ta σ H fun vs H1 => ∃ v w, vs = [v, w] ∧ D.nx ((σ.set i (some v)).set j (some w)) H1) : tPar i j ta D σ H := h
theorem r_par2 {i j : Nat} {v w : V} (h : D.nx ((σ.set i (some v)).set j (some w)) H) : ∃ v' w', [v, w] = [v', w'] ∧ D.nx ((σ.set i (some v')).set j (some w')) H := ⟨v, w, rfl, h⟩
end
/-- a truth that is decided, both ways -/
theorem ite_d {p A B : Prop} [Decidable p] (h1 : p → A) (h2 : ¬ p → B) : if decide p = true then A else B := by
  by_cases h : p
  · rw [if_pos (decide_eq_true h)]; exact h1 h
  · rw [if_neg (by rw [decide_eq_false h]; decide)]; exact h2 h
theorem ite_nd {p A B : Prop} [Decidable p] (h1 : ¬ p → A) (h2 : p → B) : if (!decide p) = true then A else B := by
  by_cases h : p
  · rw [if_neg (by rw [decide_eq_true h]; decide)]; exact h2 h
  · rw [if_pos (by rw [decide_eq_false h]; rfl)]; exact h1 h
theorem ite_b {b : Bool} {A B : Prop} (h1 : b = true → A) (h2 : b = false → B) : if b = true then A else B := by
  cases b with
  | true => rw [if_pos rfl]; exact h1 rfl
  | false => rw [if_neg (by decide)]; exact h2 rfl

theorem r_isi {K : PySem.W.Frag} {H : Hp} {Q : VK} {x c : V} {t u : Value} {b : Bool} (ht : TyX K H x t) (hc : ClsV c u) (hk : PySem.W.kitOne K t u = some b) (q : Q (.bl b) H) : rIsi K [x, c] H Q := ⟨x, c, t, u, b, rfl, hc, ht, hk, q⟩
theorem iteD {p A B : Prop} [Decidable p] (h : p) (a : A) : if decide p = true then A else B := by rw [if_pos (decide_eq_true h)]; exact a
theorem iteDF {p A B : Prop} [Decidable p] (h : ¬ p) (a : B) : if decide p = true then A else B := by rw [if_neg (by rw [decide_eq_false h]; decide)]; exact a
/-! ### lists of ints, compared -/
theorem dp_ints {K : PySem.W.Frag} {H : Hp} : ∀ ns : List Int, DpAll K H (ns.map V.int) (ns.map PyData.int)
  | [] => .nil
  | n :: r => .cons (.int n) (dp_ints r)
theorem dp_listI {K : PySem.W.Frag} {H : Hp} {a : Addr} {ns : List Int} (h : SqL K H a (ns.map V.int)) : Dp K H (.ref a) (.list (ns.map PyData.int)) := .lst h (dp_ints ns)
def dI (ns : List Int) : PyData := .list (ns.map PyData.int)
theorem canLay_ints : ∀ ns : List Int, PyData.canLayAll0 (ns.map PyData.int) = true
  | [] => by simp [PyData.canLayAll0]
  | n :: r => by
    rw [List.map_cons, PyData.canLayAll0, canLay_ints r]; simp [PyData.canLay0]
theorem depth_ints : ∀ ns : List Int, PyData.depthAll (ns.map PyData.int) ≤ 1
  | [] => by simp [PyData.depthAll]
  | n :: r => by
    have := depth_ints r
    rw [List.map_cons, PyData.depthAll]
    simp [PyData.depth]
    omega
theorem shaped_dI (ns : List Int) : SeqAt.shaped (dI ns) = true := by
  have h1 := canLay_ints ns
  have h2 := depth_ints ns
  unfold SeqAt.shaped dI
  rw [Bool.and_eq_true, PyData.canLay0, PyData.depth]
  exact ⟨h1, decide_eq_true (by omega)⟩
theorem eqvAll_ints : ∀ ns ms : List Int, PyData.eqvAll (ns.map PyData.int) (ms.map PyData.int) = decide (ns = ms)
  | [], [] => by simp [PyData.eqvAll]
  | [], m :: r => by simp [PyData.eqvAll]
  | n :: r, [] => by simp [PyData.eqvAll]
  | n :: r, m :: s => by
    rw [List.map_cons, List.map_cons, PyData.eqvAll, eqvAll_ints r s]
    simp [PyData.eqv, Bool.beq_eq_decide_eq]
theorem eqv_dI (ns ms : List Int) : PyData.eqv (dI ns) (dI ms) = decide (ns = ms) := by
  unfold dI
  rw [PyData.eqv, eqvAll_ints]
theorem r_eqInts {K : PySem.W.Frag} {H : Hp} {Q : VK} {a b : Addr} {ns ms : List Int} (h1 : SqL K H a (ns.map V.int)) (h2 : SqL K H b (ms.map V.int)) (q : Q (.bl (decide (ns = ms))) H) : rEqD K (.ref a) (.ref b) H Q :=
  ⟨_, _, dp_listI h1, dp_listI h2, shaped_dI ns, shaped_dI ms, by rw [show PyData.eqv (.list (ns.map PyData.int)) (.list (ms.map PyData.int)) = decide (ns = ms) from eqv_dI ns ms]; exact q⟩
theorem r_neInts {K : PySem.W.Frag} {H : Hp} {Q : VK} {a b : Addr} {ns ms : List Int} (h1 : SqL K H a (ns.map V.int)) (h2 : SqL K H b (ms.map V.int)) (q : Q (.bl (!decide (ns = ms))) H) : rNeD K (.ref a) (.ref b) H Q :=
  ⟨_, _, dp_listI h1, dp_listI h2, shaped_dI ns, shaped_dI ms, by rw [show PyData.eqv (.list (ns.map PyData.int)) (.list (ms.map PyData.int)) = decide (ns = ms) from eqv_dI ns ms]; exact q⟩
/-! ### loops -/
def Lp (J : It) (g : TG) (tb : TS) (D : Ends) (σ : L2.St) (H : Hp) : Prop := ∃ W : Nat → Nat → L2.St → Hp → Prop, (∃ m, W 0 m σ H) ∧ ∀ i m σ H, W i m σ H →
  (J.stop i H ∧ D.nx σ H) ∨ (J.go i H ∧ ∃ N : L2.St → Hp → Prop, (∀ σ' H', N σ' H' → ∃ m', m' < m ∧ W (i + 1) m' σ' H') ∧ ∀ x H', J.yld i H x H' → g x σ H' fun σ2 H2 => tb { D with nx := N, ct := N, bk := D.nx } σ2 H2)
section
variable {K : PySem.W.Frag} {σ : L2.St} {H : Hp} {D : Ends} {te : TE} {ta : TA} {tb : TS} {g : TG} {wi : TI}
theorem r_for (h : wi σ H fun J H1 => Lp J g tb D σ H1) : tFor wi g tb D σ H := h
theorem r_iList {R : It → Hp → Prop} (h : te σ H fun x H1 => ∃ a, x = .ref a ∧ (∃ xs, SqL K H1 a xs) ∧ R (Itl K a) H1) : iList K te σ H R := h
theorem r_iListA {a : Addr} {xs : List V} (h : SqL K H a xs) (q : Lp (Itl K a) g tb D σ H) : ∃ a', V.ref a = .ref a' ∧ (∃ xs, SqL K H a' xs) ∧ Lp (Itl K a') g tb D σ H := ⟨a, rfl, ⟨xs, h⟩, q⟩
theorem r_iTup {R : It → Hp → Prop} (h : te σ H fun x H1 => ∃ a, x = .ref a ∧ (∃ xs, SqT K H1 a xs) ∧ R (Itt K a) H1) : iTup K te σ H R := h
theorem r_iTupA {a : Addr} {xs : List V} (h : SqT K H a xs) (q : Lp (Itt K a) g tb D σ H) : ∃ a', V.ref a = .ref a' ∧ (∃ xs, SqT K H a' xs) ∧ Lp (Itt K a') g tb D σ H := ⟨a, rfl, ⟨xs, h⟩, q⟩
theorem r_iRng1 {R : It → Hp → Prop} (h : ta σ H fun vs H1 => ∃ j : Int, vs = [.int j] ∧ -(2 ^ 62) ≤ j ∧ j < 2 ^ 62 ∧ R (Itr 0 j.toNat) H1) : iRng1 ta σ H R := h
theorem r_iRng1A {j : Int} (h0 : -(2 ^ 62) ≤ j) (h1 : j < 2 ^ 62) (q : Lp (Itr 0 j.toNat) g tb D σ H) : ∃ j' : Int, [V.int j] = [.int j'] ∧ -(2 ^ 62) ≤ j' ∧ j' < 2 ^ 62 ∧ Lp (Itr 0 j'.toNat) g tb D σ H := ⟨j, rfl, h0, h1, q⟩
theorem r_iRng2 {R : It → Hp → Prop} (h : ta σ H fun vs H1 => ∃ i j : Int, vs = [.int i, .int j] ∧ (-(2 ^ 62) ≤ i ∧ i < 2 ^ 62 ∧ -(2 ^ 62) ≤ j ∧ j < 2 ^ 62) ∧ R (Itr i (j - i).toNat) H1) : iRng2 ta σ H R := h
theorem r_iRng2A {i j : Int} (hb : -(2 ^ 62) ≤ i ∧ i < 2 ^ 62 ∧ -(2 ^ 62) ≤ j ∧ j < 2 ^ 62) (q : Lp (Itr i (j - i).toNat) g tb D σ H) : ∃ i' j' : Int, [V.int i, V.int j] = [.int i', .int j'] ∧ (-(2 ^ 62) ≤ i' ∧ i' < 2 ^ 62 ∧ -(2 ^ 62) ≤ j' ∧ j' < 2 ^ 62) ∧ Lp (Itr i' (j' - i').toNat) g tb D σ H := ⟨i, j, rfl, hb, q⟩
theorem r_iRev {R : It → Hp → Prop} (h : ta σ H fun vs H1 => ∃ (a : Addr) (xs : List V), vs = [.ref a] ∧ SqL K H1 a xs ∧ R (Itv K a xs.length) H1) : iRev K ta σ H R := h
theorem r_iRevA {a : Addr} {xs : List V} (h : SqL K H a xs) (q : Lp (Itv K a xs.length) g tb D σ H) : ∃ (a' : Addr) (xs : List V), [V.ref a] = [.ref a'] ∧ SqL K H a' xs ∧ Lp (Itv K a' xs.length) g tb D σ H := ⟨a, xs, rfl, h, q⟩
theorem r_iEnum {R : It → Hp → Prop} (h : ta σ H fun vs H1 => ∃ a xs, vs = [.ref a] ∧ SqL K H1 a xs ∧ R (Ite K a) H1) : iEnum K ta σ H R := h
theorem r_iEnumA {a : Addr} {xs : List V} (h : SqL K H a xs) (q : Lp (Ite K a) g tb D σ H) : ∃ (a' : Addr) (xs : List V), [V.ref a] = [.ref a'] ∧ SqL K H a' xs ∧ Lp (Ite K a') g tb D σ H := ⟨a, xs, rfl, h, q⟩
theorem r_iRevR {tr : L2.St → Hp → (Int → Int → Hp → Prop) → Prop} {R : It → Hp → Prop} (h : tr σ H fun a b H1 => -(2 ^ 62) ≤ a ∧ a < 2 ^ 62 ∧ -(2 ^ 62) ≤ b ∧ b < 2 ^ 62 ∧ R (Itc (a + (((b - a).toNat : Nat) : Int) - 1) (-1) (b - a).toNat) H1) : iRevR tr σ H R := h

theorem loop_list {a : Addr} {xs : List V} (Pv : Nat → L2.St → Hp → Prop) (h0 : Pv 0 σ H) (hl : ∀ i σ H, i ≤ xs.length → Pv i σ H → SqL K H a xs)
    (hs : ∀ i x σ H, xs[i]? = some x → Pv i σ H → g x σ H fun σ2 H2 => tb { D with nx := Pv (i + 1), ct := Pv (i + 1), bk := D.nx } σ2 H2) (hd : ∀ σ H, Pv xs.length σ H → D.nx σ H) : Lp (Itl K a) g tb D σ H := for_list Pv h0 hl hs hd
/-- a loop over a list of ints -/
theorem loop_ints {a : Addr} {ns : List Int} {j : Nat} (Pv : Nat → L2.St → Hp → Prop) (h0 : Pv 0 σ H) (hl : ∀ i σ H, i ≤ ns.length → Pv i σ H → SqL K H a (ns.map V.int))
    (hs : ∀ i x σ H, ns[i]? = some x → Pv i σ H → tb { D with nx := Pv (i + 1), ct := Pv (i + 1), bk := D.nx } (σ.set j (some (.int x))) H) (hd : ∀ σ H, Pv ns.length σ H → D.nx σ H) : Lp (Itl K a) (gName j) tb D σ H :=
  for_list (xs := ns.map V.int) Pv h0 (fun i σ H h => hl i σ H (by rw [List.length_map] at h; exact h)) (fun i x σ H hx hp => by
    rw [List.getElem?_map] at hx
    cases e : ns[i]? with
    | none => rw [e] at hx; cases hx
    | some z => rw [e] at hx; cases hx; exact hs i z σ H e hp) (fun σ H h => hd σ H (by rw [List.length_map] at h; exact h))
theorem loop_tup {a : Addr} {xs : List V} (Pv : Nat → L2.St → Hp → Prop) (h0 : Pv 0 σ H) (hl : ∀ i σ H, i ≤ xs.length → Pv i σ H → SqT K H a xs)
    (hs : ∀ i x σ H, xs[i]? = some x → Pv i σ H → g x σ H fun σ2 H2 => tb { D with nx := Pv (i + 1), ct := Pv (i + 1), bk := D.nx } σ2 H2) (hd : ∀ σ H, Pv xs.length σ H → D.nx σ H) : Lp (Itt K a) g tb D σ H := for_tup Pv h0 hl hs hd
theorem loop_range {lo : Int} {n : Nat} {j : Nat} (Pv : Nat → L2.St → Hp → Prop) (h0 : Pv 0 σ H)
    (hs : ∀ i σ H, i < n → Pv i σ H → tb { D with nx := Pv (i + 1), ct := Pv (i + 1), bk := D.nx } (σ.set j (some (.int (lo + (i : Int))))) H) (hd : ∀ σ H, Pv n σ H → D.nx σ H) : Lp (Itr lo n) (gName j) tb D σ H := for_range Pv h0 hs hd
theorem loop_range0 {n : Nat} {j : Nat} (Pv : Nat → L2.St → Hp → Prop) (h0 : Pv 0 σ H)
    (hs : ∀ i σ H, i < n → Pv i σ H → tb { D with nx := Pv (i + 1), ct := Pv (i + 1), bk := D.nx } (σ.set j (some (.int (i : Int)))) H) (hd : ∀ σ H, Pv n σ H → D.nx σ H) : Lp (Itr 0 n) (gName j) tb D σ H :=
  for_range Pv h0 (fun i σ H hi hp => by
    have e : (0 : Int) + (i : Int) = (i : Int) := Int.zero_add _
    rw [e]
    exact hs i σ H hi hp) hd
theorem loop_rangeC {lo c : Int} {n : Nat} {j : Nat} (Pv : Nat → L2.St → Hp → Prop) (h0 : Pv 0 σ H)
    (hs : ∀ i σ H, i < n → Pv i σ H → tb { D with nx := Pv (i + 1), ct := Pv (i + 1), bk := D.nx } (σ.set j (some (.int (lo + (i : Int) * c)))) H) (hd : ∀ σ H, Pv n σ H → D.nx σ H) : Lp (Itc lo c n) (gName j) tb D σ H := for_rangeC Pv h0 hs hd
theorem loop_rev {a : Addr} {xs : List V} (Pv : Nat → L2.St → Hp → Prop) (h0 : Pv 0 σ H) (hl : ∀ i σ H, i ≤ xs.length → Pv i σ H → SqL K H a xs)
    (hs : ∀ i x σ H, xs[xs.length - 1 - i]? = some x → i < xs.length → Pv i σ H → g x σ H fun σ2 H2 => tb { D with nx := Pv (i + 1), ct := Pv (i + 1), bk := D.nx } σ2 H2) (hd : ∀ σ H, Pv xs.length σ H → D.nx σ H) : Lp (Itv K a xs.length) g tb D σ H := by
  refine ⟨fun i m σ H => m = xs.length - i ∧ i ≤ xs.length ∧ Pv i σ H, ⟨xs.length, by simp, Nat.zero_le _, h0⟩, ?_⟩
  rintro i m σ H ⟨rfl, hi, p⟩
  have q := hl i σ H hi p
  by_cases hlt : i < xs.length
  · have hk : xs.length - 1 - i < xs.length := by omega
    refine .inr ⟨⟨hlt, xs, xs[xs.length - 1 - i], q, by simp [hk]⟩, Pv (i + 1), fun σ' H' p' => ⟨xs.length - (i + 1), by omega, rfl, hlt, p'⟩, fun x H' y => ?_⟩
    obtain ⟨e, y⟩ := y
    subst e
    exact hs i x σ _ (y xs q) hlt p
  · have e : i = xs.length := by omega
    subst e
    exact .inl ⟨Nat.le_refl _, hd σ H p⟩
theorem loop_enum {a : Addr} {xs : List V} {j k : Nat} (Pv : Nat → L2.St → Hp → Prop) (h0 : Pv 0 σ H) (hl : ∀ i σ H, i ≤ xs.length → Pv i σ H → SqL K H a xs)
    (hs : ∀ i x σ H H', xs[i]? = some x → Pv i σ H → Ex H H' → tb { D with nx := Pv (i + 1), ct := Pv (i + 1), bk := D.nx } ((σ.set j (some (.int (i : Int)))).set k (some x)) H') (hd : ∀ σ H, Pv xs.length σ H → D.nx σ H) :
    Lp (Ite K a) (gTup K 2 (gCons (gName j) (gCons (gName k) gNil))) tb D σ H := by
  refine ⟨fun i m σ H => m = xs.length - i ∧ i ≤ xs.length ∧ Pv i σ H, ⟨xs.length, by simp, Nat.zero_le _, h0⟩, ?_⟩
  rintro i m σ H ⟨rfl, hi, p⟩
  have q := hl i σ H hi p
  by_cases hlt : i < xs.length
  · refine .inr ⟨⟨xs, xs[i], q, by simp [hlt]⟩, Pv (i + 1), fun σ' H' p' => ⟨xs.length - (i + 1), by omega, rfl, hlt, p'⟩, fun v H' y => ?_⟩
    obtain ⟨T, x, rfl, nT, rfl, y⟩ := y
    exact ⟨T, _, rfl, .inl (.inl upd_same), rfl, _, _, rfl, x, [], rfl, rfl, hs i x σ H _ (y xs q) p (Evl.Ex.new nT)⟩
  · have e : i = xs.length := by omega
    subst e
    exact .inl ⟨⟨xs, q, Nat.le_refl _⟩, hd σ H p⟩
theorem r_while {tt : TT} (W : Nat → L2.St → Hp → Prop) (m0 : Nat) (h0 : W m0 σ H)
    (hs : ∀ m σ' H', W m σ' H' → tt σ' H' fun b H1 => if b = true then ∃ N : L2.St → Hp → Prop, (∀ σ2 H2, N σ2 H2 → ∃ m', m' < m ∧ W m' σ2 H2) ∧ tb { D with nx := N, ct := N, bk := D.nx } σ' H1 else D.nx σ' H1) : tWhile tt tb D σ H :=
  ⟨W, ⟨m0, h0⟩, hs⟩
theorem wh_in {W : Nat → L2.St → Hp → Prop} {m : Nat} (h : tb { D with nx := fun σ2 H2 => ∃ m', m' < m ∧ W m' σ2 H2, ct := fun σ2 H2 => ∃ m', m' < m ∧ W m' σ2 H2, bk := D.nx } σ H) :
    ∃ N : L2.St → Hp → Prop, (∀ σ2 H2, N σ2 H2 → ∃ m', m' < m ∧ W m' σ2 H2) ∧ tb { D with nx := N, ct := N, bk := D.nx } σ H := ⟨_, fun _ _ h => h, h⟩
end
/-! ### bounds -/
theorem small_le {n : Nat} (h : n ≤ 16777216) : n ≤ sizeLine := by rw [sizeLine_eq]; exact h
theorem small_lt {n : Nat} (h : n < 16777216) : n < sizeLine := by rw [sizeLine_eq]; exact h
/-! ### comprehensions -/
def Lc (J : It) (g : TG) (tt : TT) (te : TE) (vs : List Nat) (σ : L2.St) (H1 : Hp) (Q : VK) : Prop := ∀ D, H1 D = none → ∃ W : Nat → Nat → Hp → Prop, (∃ m, W 0 m (upd H1 D (.lst []))) ∧ ∀ i m H, W i m H →
  (J.stop i H ∧ Q (.ref D) H) ∨ (J.go i H ∧ ∃ Nx : Hp → Prop, (∀ H', Nx H' → ∃ m', m' < m ∧ W (i + 1) m' H') ∧ ∀ x H', J.yld i H x H' → g x (wipe σ vs) H' fun σ2 H2 => wipe σ2 vs = wipe σ vs ∧ tt σ2 H2 fun b H3 =>
    if b = true then te σ2 H3 fun y H4 => ∃ acc, H4 D = some (.lst acc) ∧ acc.length < sizeLine ∧ Nx (upd H4 D (.lst (acc ++ [y]))) else Nx H3)
theorem r_lc {wi : TI} {g : TG} {tt : TT} {te : TE} {vs : List Nat} {σ : L2.St} {H : Hp} {Q : VK} (h : wi σ H fun J H1 => Lc J g tt te vs σ H1 Q) : tLc wi g tt te vs σ H Q := h
theorem set_set {α : Type} : ∀ (l : List α) (i : Nat) (a b : α), (l.set i a).set i b = l.set i b
  | [], _, _, _ => rfl
  | _ :: _, 0, _, _ => rfl
  | x :: l, i + 1, a, b => by show x :: (l.set i a).set i b = x :: l.set i b; rw [set_set l i a b]
section
variable {K : PySem.W.Frag} {σ : L2.St} {H : Hp} {te : TE} {Q : VK} {g : TG}
theorem r_cListA {a : Addr} {xs : List V} {tt : TT} {vs : List Nat} (h : SqL K H a xs) (q : Lc (Itl K a) g tt te vs σ H Q) : ∃ a', V.ref a = .ref a' ∧ (∃ xs, SqL K H a' xs) ∧ Lc (Itl K a') g tt te vs σ H Q := ⟨a, rfl, ⟨xs, h⟩, q⟩
theorem r_cRng1A {j : Int} {tt : TT} {vs : List Nat} (h0 : -(2 ^ 62) ≤ j) (h1 : j < 2 ^ 62) (q : Lc (Itr 0 j.toNat) g tt te vs σ H Q) : ∃ j' : Int, [V.int j] = [.int j'] ∧ -(2 ^ 62) ≤ j' ∧ j' < 2 ^ 62 ∧ Lc (Itr 0 j'.toNat) g tt te vs σ H Q := ⟨j, rfl, h0, h1, q⟩
theorem r_cRng2A {i j : Int} {tt : TT} {vs : List Nat} (hb : -(2 ^ 62) ≤ i ∧ i < 2 ^ 62 ∧ -(2 ^ 62) ≤ j ∧ j < 2 ^ 62) (q : Lc (Itr i (j - i).toNat) g tt te vs σ H Q) : ∃ i' j' : Int, [V.int i, V.int j] = [.int i', .int j'] ∧ (-(2 ^ 62) ≤ i' ∧ i' < 2 ^ 62 ∧ -(2 ^ 62) ≤ j' ∧ j' < 2 ^ 62) ∧ Lc (Itr i' (j' - i').toNat) g tt te vs σ H Q := ⟨i, j, rfl, hb, q⟩
/-- over a list, each item giving a value by a function -/
theorem lc_map {a : Addr} {xs : List V} {j : Nat} (f : V → V) (hx : SqL K H a xs) (hz : xs.length < 1000000)
    (he : ∀ x, x ∈ xs → ∀ H1, Ex H H1 → ∀ Q' : VK, (∀ H2, Ex H1 H2 → Q' (f x) H2) → te (σ.set j (some x)) H1 Q')
    (q : ∀ p H', H p = none → Ex H H' → H' p = some (.lst (xs.map f)) → Q (.ref p) H') : Lc (Itl K a) (gName j) tYes te [j] σ H Q := fun D hD =>
  lc_list (xs := xs) (fun i H' => Ex H H' ∧ H' D = some (.lst ((xs.take i).map f))) ⟨Evl.Ex.new hD, upd_same⟩ (fun i H' _ p => p.1.l hx)
    (fun i x H' hi p => ⟨by show ((σ.set j none).set j (some x)).set j none = σ.set j none; rw [set_set, set_set], by
      show te ((σ.set j none).set j (some x)) H' _
      rw [set_set]
      refine he x (List.mem_of_getElem? hi) H' p.1 _ fun H2 e2 => ⟨_, e2 D _ p.2, ?_, (Evl.Ex.mut (p.1.trans e2) hD), ?_⟩
      · rw [List.length_map, List.length_take]; exact small_lt (by omega)
      · rw [upd_same, List.take_add_one, hi, List.map_append]; rfl⟩)
    (fun H' p => q D H' hD p.1 (by rw [List.take_length] at p; exact p.2))
/-- over a list of ints, each giving an int -/
theorem lc_ints {a : Addr} {ns : List Int} {j : Nat} (f : Int → Int) (hx : SqL K H a (ns.map V.int)) (hz : ns.length < 1000000)
    (he : ∀ x, x ∈ ns → ∀ H1, Ex H H1 → ∀ Q' : VK, (∀ H2, Ex H1 H2 → Q' (.int (f x)) H2) → te (σ.set j (some (.int x))) H1 Q')
    (q : ∀ p H', H p = none → Ex H H' → H' p = some (.lst ((ns.map f).map V.int)) → Q (.ref p) H') : Lc (Itl K a) (gName j) tYes te [j] σ H Q :=
  lc_map (xs := ns.map V.int) (fun v => match v with | .int x => .int (f x) | v => v) hx (by rw [List.length_map]; exact hz)
    (fun v hv H1 e1 Q' k => by
      obtain ⟨x, hx', rfl⟩ := List.mem_map.mp hv
      exact he x hx' H1 e1 Q' k)
    (fun p H' hp e h => q p H' hp e (by
      rw [List.map_map] at h ⊢
      exact h))
/-- over a range from 0, each giving an int -/
theorem lc_rangeI {n : Nat} {j : Nat} (f : Nat → Int) (hz : n < 1000000)
    (he : ∀ i, i < n → ∀ H1, Ex H H1 → ∀ Q' : VK, (∀ H2, Ex H1 H2 → Q' (.int (f i)) H2) → te (σ.set j (some (.int (i : Int)))) H1 Q')
    (q : ∀ p H', H p = none → Ex H H' → H' p = some (.lst (((List.range n).map f).map V.int)) → Q (.ref p) H') : Lc (Itr 0 n) (gName j) tYes te [j] σ H Q := fun D hD =>
  lc_range (lo := 0) (n := n) (fun i H' => Ex H H' ∧ H' D = some (.lst (((List.range i).map f).map V.int))) ⟨Evl.Ex.new hD, upd_same⟩
    (fun i H' hi p => ⟨by show ((σ.set j none).set j _).set j none = σ.set j none; rw [set_set, set_set], by
      show te ((σ.set j none).set j (some (.int ((0 : Int) + (i : Int))))) H' _
      rw [set_set, show (0 : Int) + (i : Int) = (i : Int) from Int.zero_add _]
      refine he i hi H' p.1 _ fun H2 e2 => ⟨_, e2 D _ p.2, ?_, (Evl.Ex.mut (p.1.trans e2) hD), ?_⟩
      · rw [List.length_map, List.length_map, List.length_range]; exact small_lt (by omega)
      · rw [upd_same, List.range_succ, List.map_append, List.map_append]; rfl⟩)
    (fun H' p => q D H' hD p.1 p.2)
end
/-- an item of a list of ints -/
theorem r_ixI {K : PySem.W.Frag} {H : Hp} {Q : VK} {p : Addr} {i : Int} {ns : List Int} (h : SqL K H p (ns.map V.int)) (h0 : 0 ≤ i) (h1 : i < ns.length) (q : Q (.int (ns.getD i.toNat 0)) H) : rIxL K (.ref p) (.int i) H Q := by
  obtain ⟨k, rfl⟩ : ∃ k : Nat, i = (k : Int) := ⟨i.toNat, by omega⟩
  have hk : k < ns.length := by omega
  refine r_ixL h (atI_nat (j := k) (v := .int ns[k]) ?_) ?_
  · rw [List.getElem?_map, List.getElem?_eq_getElem hk]; rfl
  · rw [Int.toNat_natCast, List.getD_eq_getElem?_getD, List.getElem?_eq_getElem hk] at q
    exact q
/-- a slice of a list of ints, both ends in it -/
theorem cutI (ns : List Int) (lo hi : Option Int) : cutV (ns.map V.int) lo hi = ((ns.drop (HT.sIx ns.length 0 lo)).take (HT.sIx ns.length ns.length hi - HT.sIx ns.length 0 lo)).map V.int := by
  unfold cutV
  rw [List.length_map, List.map_take, List.map_drop]
/-- the part of a list between two bounds -/
def sliceI (ns : List Int) (lo hi : Option Int) : List Int := (ns.drop (HT.sIx ns.length 0 lo)).take (HT.sIx ns.length ns.length hi - HT.sIx ns.length 0 lo)
theorem sliceI_mem {ns : List Int} {lo hi : Option Int} {x : Int} (h : x ∈ sliceI ns lo hi) : x ∈ ns := List.mem_of_mem_drop (List.mem_of_mem_take h)
theorem sliceI_len (ns : List Int) (lo hi : Option Int) : (sliceI ns lo hi).length ≤ ns.length := by
  unfold sliceI
  rw [List.length_take, List.length_drop]; omega
theorem r_slI {K : PySem.W.Frag} {H : Hp} {Q : VK} {a : Addr} {ns : List Int} {lo hi : Option Int} (h : SqL K H a (ns.map V.int)) (q : ∀ p H', H p = none → Ex H H' → H' p = some (.lst ((sliceI ns lo hi).map V.int)) → Q (.ref p) H') : rSlL K (.ref a) lo hi H Q :=
  r_slL h fun p H' hp e hh => q p H' hp e (by rw [cutI] at hh; exact hh)
theorem r_repN {H : Hp} {Q : VK} {l : Addr} {ns : List Int} {k : Int} (h1 : H l = some (.lst (ns.map V.int))) (hk : k < 2 ^ 63) (z : ns.length * k.toNat ≤ 16777216) (q : ∀ p H', H p = none → Ex H H' → H' p = some (.lst (((List.replicate k.toNat ns).flatten).map V.int)) → Q (.ref p) H') (h0 : -(2 ^ 63) ≤ k := by omega) : rRep (.ref l) (.int k) H Q :=
  ⟨l, k, _, rfl, rfl, h1, h0, hk, by rw [List.length_map]; exact small0 z, newL fun p H' a b c => q p H' a b (by rw [List.map_flatten, List.map_replicate]; exact c)⟩
def insI (ns : List Int) (i : Int) (y : Int) : List Int := ns.take i.toNat ++ [y] ++ ns.drop i.toNat
theorem insI_mem {ns : List Int} {i y x : Int} : x ∈ insI ns i y ↔ x = y ∨ x ∈ ns := by
  unfold insI
  have h : x ∈ ns ↔ x ∈ ns.take i.toNat ∨ x ∈ ns.drop i.toNat := by rw [← List.mem_append, List.take_append_drop]
  rw [h, List.mem_append, List.mem_append, List.mem_singleton]
  constructor
  · rintro ((h | h) | h)
    · exact .inr (.inl h)
    · exact .inl h
    · exact .inr (.inr h)
  · rintro (h | h | h)
    · exact .inl (.inr h)
    · exact .inl (.inl h)
    · exact .inr h
theorem insI_len (ns : List Int) (i y : Int) : (insI ns i y).length = ns.length + 1 := by
  unfold insI
  rw [List.length_append, List.length_append, List.length_take, List.length_drop]
  show min i.toNat ns.length + 1 + (ns.length - i.toNat) = _
  omega
theorem r_insertI {H : Hp} {Q : VK} {l : Addr} {ns : List Int} {i y : Int} (h : H l = some (.lst (ns.map V.int))) (z : ns.length < 16777216) (h0 : 0 ≤ i) (h1 : i < 2 ^ 63) (q : ∀ H', Exb l H H' → H' l = some (.lst ((insI ns i y).map V.int)) → Q .non H') : rInsert (.ref l) [.int i, .int y] H Q :=
  r_insert h (by rw [List.length_map]; exact small_lt z) h0 h1 fun H' e hh => q H' e (by
    unfold insI
    rw [List.map_append, List.map_append, List.map_take, List.map_drop]
    exact hh)
theorem r_appendI {H : Hp} {Q : VK} {l : Addr} {ns : List Int} {y : Int} (h : H l = some (.lst (ns.map V.int))) (z : ns.length < 16777216) (q : ∀ H', Exb l H H' → H' l = some (.lst ((ns ++ [y]).map V.int)) → Q .non H') : rAppend (.ref l) [.int y] H Q :=
  r_append h (by rw [List.length_map]; exact small_lt z) fun H' e hh => q H' e (by rw [List.map_append]; exact hh)
theorem r_catI {H : Hp} {Q : VK} {l b : Addr} {ns ms : List Int} (h1 : H l = some (.lst (ns.map V.int))) (h2 : H b = some (.lst (ms.map V.int))) (z : ns.length + ms.length ≤ 16777216) (q : ∀ p H', H p = none → Ex H H' → H' p = some (.lst ((ns ++ ms).map V.int)) → Q (.ref p) H') : rCat (.ref l) (.ref b) H Q :=
  r_cat h1 h2 (by rw [List.length_map, List.length_map]; exact small0 z) fun p H' a e hh => q p H' a e (by rw [List.map_append]; exact hh)
theorem i_t {A B : Prop} (h : A) : if true = true then A else B := iteT h
theorem i_f {A B : Prop} (h : B) : if false = true then A else B := iteF h
theorem i_nt {A B : Prop} (h : B) : if (!true) = true then A else B := iteF h
theorem i_nf {A B : Prop} (h : A) : if (!false) = true then A else B := iteT h
theorem sliceI_to {ns : List Int} {n : Nat} (h : n ≤ ns.length) : sliceI ns none (some (n : Int)) = ns.take n := by
  unfold sliceI
  rw [HT.sIx_none, HT.sIx_nat, List.drop_zero, Nat.min_eq_left h]; rfl
theorem sliceI_toI {ns : List Int} {n : Int} (h0 : 0 ≤ n) : sliceI ns none (some n) = ns.take n.toNat := by
  obtain ⟨k, rfl⟩ : ∃ k : Nat, n = (k : Int) := ⟨n.toNat, by omega⟩
  unfold sliceI
  rw [HT.sIx_none, HT.sIx_nat, List.drop_zero, Int.toNat_natCast, Nat.sub_zero]
  by_cases h : k ≤ ns.length
  · rw [Nat.min_eq_left h]
  · rw [Nat.min_eq_right (by omega), List.take_length, List.take_of_length_le (by omega)]
theorem sliceI_fromI {ns : List Int} {n : Int} (h0 : 0 ≤ n) : sliceI ns (some n) none = ns.drop n.toNat := by
  obtain ⟨k, rfl⟩ : ∃ k : Nat, n = (k : Int) := ⟨n.toNat, by omega⟩
  unfold sliceI
  rw [HT.sIx_none, HT.sIx_nat, Int.toNat_natCast]
  by_cases h : k ≤ ns.length
  · rw [Nat.min_eq_left h, List.take_of_length_le (by rw [List.length_drop]; omega)]
  · rw [Nat.min_eq_right (by omega), List.drop_eq_nil_of_le (by omega : ns.length ≤ k), List.drop_length, List.take_nil]
theorem sliceI_bothI {ns : List Int} {n m : Int} (h0 : 0 ≤ n) (h1 : n ≤ m) : sliceI ns (some n) (some m) = (ns.drop n.toNat).take (m.toNat - n.toNat) := by
  obtain ⟨k, rfl⟩ : ∃ k : Nat, n = (k : Int) := ⟨n.toNat, by omega⟩
  obtain ⟨l, rfl⟩ : ∃ l : Nat, m = (l : Int) := ⟨m.toNat, by omega⟩
  unfold sliceI
  rw [HT.sIx_nat, HT.sIx_nat, Int.toNat_natCast, Int.toNat_natCast]
  by_cases h : k ≤ ns.length
  · rw [Nat.min_eq_left h]
    by_cases h' : l ≤ ns.length
    · rw [Nat.min_eq_left h']
    · rw [Nat.min_eq_right (by omega), List.take_of_length_le (by rw [List.length_drop]; omega), List.take_of_length_le (by rw [List.length_drop]; omega)]
  · rw [Nat.min_eq_right (show ns.length ≤ k by omega), List.drop_length, List.drop_eq_nil_of_le (by omega : ns.length ≤ k)]; simp
/-- what a def that makes a new list of ints promises -/
def RetI (xs : List Int) (H : Hp) (Q : VK) : Prop := ∀ p H', H p = none → Ex H H' → H' p = some (.lst (xs.map V.int)) → Q (.ref p) H'
theorem RetI.go {xs : List Int} {H H1 : Hp} {Q : VK} (k : RetI xs H Q) (e : Ex H H1) {p : Addr} {H2 : Hp} (hp : H1 p = none) (e2 : Ex H1 H2) (h : H2 p = some (.lst (xs.map V.int))) : Q (.ref p) H2 := k p H2 (Evl.fresh_back e hp) (e.trans e2) h
/-! ### the heap since the entry -/
/-- all that stood in H stands in H' (the same as Ex, kept apart) -/
structure Fx (H H' : Hp) : Prop where
  to : Ex H H'
theorem Fx.refl (H : Hp) : Fx H H := ⟨Evl.Ex.refl H⟩
theorem Fx.ex {H H1 H2 : Hp} (f : Fx H H1) (e : Ex H1 H2) : Fx H H2 := ⟨Evl.Ex.trans f.to e⟩
theorem Fx.of {H H1 : Hp} (e : Ex H H1) : Fx H H1 := ⟨e⟩
theorem Fx.mut {H H1 H2 : Hp} {l : Addr} (f : Fx H H1) (b : Exb l H1 H2) (h : H l = none) : Fx H H2 := ⟨Evl.Ex.mutb f.to b h⟩
theorem Fx.free {H H1 : Hp} {p : Addr} (f : Fx H H1) (h : H1 p = none) : H p = none := Evl.fresh_back f.to h
theorem Fx.l {K : PySem.W.Frag} {H H' : Hp} {a : Addr} {xs : List V} (e : Fx H H') (h : SqL K H a xs) : SqL K H' a xs := Evl.ex_l e.to h
theorem hx_e {H H' : Hp} {a : Addr} {o : HO} (e : Ex H H') (h : H a = some o) : H' a = some o := e a o h
theorem hx_b {H H' : Hp} {a l : Addr} {o : HO} (e : Exb l H H') (n : a ≠ l) (h : H a = some o) : H' a = some o := e a n o h
theorem ne_1 {H : Hp} {a l : Addr} {o : HO} (h' : H l = none) (h : H a = some o) : a ≠ l := ne_of_none h h'
theorem ne_2 {H : Hp} {a l : Addr} {o : HO} (h' : H a = none) (h : H l = some o) : a ≠ l := (ne_of_none h h').symm
def tTru (K : PySem.W.Frag) (te : TE) : TT := fun σ H Q => te σ H fun x H' => ∃ k, TruV K x H' k ∧ Q k H'
theorem pt_tru {X : Cx} {a : Expr} {ta : TE} (ha : PE X a ta) (he : ∀ whole, isTrue a X.env whole = (do let v ← whole; standAt a.pos; holding [v] (truthy v)) := by intro _; rfl) : PT X a (tTru X.K ta) := pt_truth ha he
theorem r_tru {K : PySem.W.Frag} {te : TE} {σ : L2.St} {H : Hp} {Q : Bool → Hp → Prop} (h : te σ H fun x H' => ∃ k, TruV K x H' k ∧ Q k H') : tTru K te σ H Q := h
theorem r_truL {K : PySem.W.Frag} {a : Addr} {xs : List V} {H : Hp} {Q : Bool → Prop} (h : SqL K H a xs) (q : Q (!xs.isEmpty)) : ∃ k, TruV K (.ref a) H k ∧ Q k := ⟨_, .inl ⟨xs, h, rfl⟩, q⟩
def RevK (K : PySem.W.Frag) (Q : VK) : V → Hp → Prop := fun x H1 => ∃ a xs, x = .ref a ∧ SqL K H1 a xs ∧ ∀ p, H1 p = none → Q (.ref p) (upd H1 p (.lst xs.reverse))
theorem r_rev {K : PySem.W.Frag} {te : TE} {σ : L2.St} {H : Hp} {Q : VK} (h : te σ H (RevK K Q)) : tRevL K te σ H Q := h
theorem r_revI {K : PySem.W.Frag} {H : Hp} {Q : VK} {a : Addr} {ns : List Int} (h : SqL K H a (ns.map V.int)) (q : ∀ p H', H p = none → Ex H H' → H' p = some (.lst (ns.reverse.map V.int)) → Q (.ref p) H') : RevK K Q (.ref a) H :=
  ⟨a, _, rfl, h, newL fun p H' hp e hh => q p H' hp e (by rw [List.map_reverse]; exact hh)⟩
theorem rg2 {a b : Int} (ha : 0 ≤ a) (ha' : a < 2 ^ 60) (hb : -(2 ^ 60) ≤ b) (hb' : b < 2 ^ 60) : RgC a b 2 ((b - a + 1) / 2).toNat := by
  have e : Builtin.Range.rangeSize a b 2 = (((b - a + 1) / 2).toNat : Int) := by
    unfold Builtin.Range.rangeSize
    rw [if_pos (by decide)]
    split <;> omega
  refine ⟨by decide, by decide, ?_, e⟩
  unfold Builtin.Range.small
  rw [e]
  simp only [Builtin.Range.rangeFitsLong, Bool.and_eq_true, Bool.or_eq_true, decide_eq_true_eq, beq_iff_eq, show ((2 : Int) > 0) by decide, if_true]
  omega
theorem r_iRng3 {ta : TA} {σ : L2.St} {H : Hp} {R : It → Hp → Prop} (h : ta σ H fun vs H1 => ∃ (i j c : Int) (n : Nat), vs = [.int i, .int j, .int c] ∧ RgC i j c n ∧ R (Itc i c n) H1) : iRng3 ta σ H R := h
theorem r_iRng3A {g : TG} {tb : TS} {D : Ends} {σ : L2.St} {H : Hp} {i j c : Int} {n : Nat} (h : RgC i j c n) (q : Lp (Itc i c n) g tb D σ H) : ∃ (i' j' c' : Int) (n : Nat), [V.int i, V.int j, V.int c] = [.int i', .int j', .int c'] ∧ RgC i' j' c' n ∧ Lp (Itc i' c' n) g tb D σ H := ⟨i, j, c, n, rfl, h, q⟩
/-- over a range from lo, each giving an int -/
theorem lc_rangeL {σ : L2.St} {H : Hp} {te : TE} {Q : VK} {lo : Int} {n : Nat} {j : Nat} (f : Nat → Int) (hz : n < 1000000)
    (he : ∀ i, i < n → ∀ H1, Ex H H1 → ∀ Q' : VK, (∀ H2, Ex H1 H2 → Q' (.int (f i)) H2) → te (σ.set j (some (.int (lo + (i : Int))))) H1 Q')
    (q : ∀ p H', H p = none → Ex H H' → H' p = some (.lst (((List.range n).map f).map V.int)) → Q (.ref p) H') : Lc (Itr lo n) (gName j) tYes te [j] σ H Q := fun D hD =>
  lc_range (lo := lo) (n := n) (fun i H' => Ex H H' ∧ H' D = some (.lst (((List.range i).map f).map V.int))) ⟨Evl.Ex.new hD, upd_same⟩
    (fun i H' hi p => ⟨by show ((σ.set j none).set j _).set j none = σ.set j none; rw [set_set, set_set], by
      show te ((σ.set j none).set j (some (.int (lo + (i : Int))))) H' _
      rw [set_set]
      refine he i hi H' p.1 _ fun H2 e2 => ⟨_, e2 D _ p.2, ?_, (Evl.Ex.mut (p.1.trans e2) hD), ?_⟩
      · rw [List.length_map, List.length_map, List.length_range]; exact small_lt (by omega)
      · rw [upd_same, List.range_succ, List.map_append, List.map_append]; rfl⟩)
    (fun H' p => q D H' hD p.1 p.2)
theorem r_lenI {K : PySem.W.Frag} {H : Hp} {Q : VK} {p : Addr} {ns : List Int} (h : SqL K H p (ns.map V.int)) (q : Q (.int ns.length) H) : rLenS K [.ref p] H Q := ⟨p, _, rfl, .inl h, by rw [List.length_map]; exact q⟩
/-- the last item -/
theorem r_ixLast {K : PySem.W.Frag} {H : Hp} {Q : VK} {p : Addr} {ns : List Int} (h : SqL K H p (ns.map V.int)) (h0 : ns ≠ []) (q : Q (.int (ns.getD (ns.length - 1) 0)) H) : rIxL K (.ref p) (.int (-1)) H Q := by
  have e : ns.map V.int = (ns.dropLast.map V.int) ++ [.int (ns.getD (ns.length - 1) 0)] := by
    have e1 : ns.getD (ns.length - 1) 0 = ns.getLast h0 := by
      rw [List.getD_eq_getElem?_getD, ← List.getLast?_eq_getElem?, List.getLast?_eq_some_getLast h0]; rfl
    rw [e1, ← List.map_singleton, ← List.map_append, List.dropLast_concat_getLast]
  exact r_ixL h (by rw [e]; exact atI_last _ _) q
theorem r_truI {K : PySem.W.Frag} {a : Addr} {ns : List Int} {H : Hp} {Q : Bool → Hp → Prop} (h : SqL K H a (ns.map V.int)) (q : Q (!decide (ns = [])) H) : ∃ k, TruV K (.ref a) H k ∧ Q k H := ⟨_, .inl ⟨_, h, rfl⟩, by
  have e : (!(ns.map V.int).isEmpty) = !decide (ns = []) := by
    cases ns with
    | nil => rfl
    | cons x r => rfl
  rw [e]; exact q⟩
theorem r_rg1 {te : TE} {σ : L2.St} {H : Hp} {R : Int → Int → Hp → Prop} (h : te σ H fun x H1 => ∃ b, x = .int b ∧ R 0 b H1) : tRg1 te σ H R := h
theorem r_revRA {g : TG} {tb : TS} {D : Ends} {σ : L2.St} {H : Hp} {b : Int} (h0 : -(2 ^ 62) ≤ b) (h1 : b < 2 ^ 62) (q : Lp (Itc (b.toNat - 1) (-1) b.toNat) g tb D σ H) : -(2 ^ 62) ≤ (0 : Int) ∧ (0 : Int) < 2 ^ 62 ∧ -(2 ^ 62) ≤ b ∧ b < 2 ^ 62 ∧ Lp (Itc (0 + (((b - 0).toNat : Nat) : Int) - 1) (-1) (b - 0).toNat) g tb D σ H := ⟨by decide, by decide, h0, h1, by
  rw [Int.sub_zero, Int.zero_add]; exact q⟩
/-- a loop over range(n), backwards -/
theorem loop_down {n : Nat} {j : Nat} {tb : TS} {D : Ends} {σ : L2.St} {H : Hp} (Pv : Nat → L2.St → Hp → Prop) (h0 : Pv n σ H)
    (hs : ∀ k σ H, k < n → Pv (k + 1) σ H → tb { D with nx := Pv k, ct := Pv k, bk := D.nx } (σ.set j (some (.int (k : Int)))) H) (hd : ∀ σ H, Pv 0 σ H → D.nx σ H) : Lp (Itc ((n : Int) - 1) (-1) n) (gName j) tb D σ H := by
  refine ⟨fun i m σ H => m = n - i ∧ i ≤ n ∧ Pv (n - i) σ H, ⟨n, by simp, Nat.zero_le _, h0⟩, ?_⟩
  rintro i m σ H ⟨rfl, hi, p⟩
  by_cases hlt : i < n
  · refine .inr ⟨hlt, Pv (n - (i + 1)), fun σ' H' p' => ⟨n - (i + 1), by omega, rfl, hlt, p'⟩, fun x H' y => ?_⟩
    obtain ⟨rfl, rfl⟩ := y
    have e1 : (n : Int) - 1 + (i : Int) * -1 = ((n - (i + 1) : Nat) : Int) := by omega
    have e2 : n - i = n - (i + 1) + 1 := by omega
    rw [e1]
    rw [e2] at p
    exact hs (n - (i + 1)) σ _ (by omega) p
  · have e : i = n := by omega
    subst e
    rw [Nat.sub_self] at p
    exact .inl ⟨Nat.le_refl _, hd σ H p⟩
theorem never_ {t : TS} {D : Ends} {σ : L2.St} {H : Hp} (h : False) : t D σ H := h.elim
end RB

set_option linter.all false
/-! Lists of coefficients. -/
namespace ML
/-- the coefficient at a place, 0 beyond -/
def cf (P : List Int) (k : Nat) : Int := P.getD k 0
theorem cf_nil (k : Nat) : cf [] k = 0 := by simp [cf]
theorem cf_zero (x : Int) (r : List Int) : cf (x :: r) 0 = x := rfl
theorem cf_succ (x : Int) (r : List Int) (k : Nat) : cf (x :: r) (k + 1) = cf r k := by simp [cf]
theorem cf_get {P : List Int} {k : Nat} (h : k < P.length) : cf P k = P[k] := by
  unfold cf; rw [List.getD_eq_getElem?_getD, List.getElem?_eq_getElem h]; rfl
theorem cf_some {P : List Int} {k : Nat} {x : Int} (h : P[k]? = some x) : cf P k = x := by
  unfold cf; rw [List.getD_eq_getElem?_getD, h]; rfl
theorem cf_beyond {P : List Int} {k : Nat} (h : P.length ≤ k) : cf P k = 0 := by
  unfold cf; rw [List.getD_eq_getElem?_getD, List.getElem?_eq_none h]; rfl
theorem cf_getElem? {P : List Int} {k : Nat} (h : k < P.length) : P[k]? = some (cf P k) := by
  rw [cf_get h, List.getElem?_eq_getElem h]
/-- two lists of one length with the same coefficients are alike -/
theorem ext {P Q : List Int} (hl : P.length = Q.length) (h : ∀ k, k < P.length → cf P k = cf Q k) : P = Q := by
  apply List.ext_getElem hl
  intro i h1 h2
  rw [← cf_get h1, ← cf_get h2]
  exact h i h1
/-- without noughts at the end -/
def Trim (P : List Int) : Prop := P = [] ∨ cf P (P.length - 1) ≠ 0
theorem trim_ext {P Q : List Int} (hP : Trim P) (hQ : Trim Q) (h : ∀ k, cf P k = cf Q k) : P = Q := by
  have aux : ∀ {P Q : List Int}, Trim P → (∀ k, cf P k = cf Q k) → P.length ≤ Q.length := fun {P Q} hP h => by
    rcases hP with rfl | hP
    · exact Nat.zero_le _
    · apply Nat.le_of_not_lt
      intro hl
      have := h (P.length - 1)
      rw [cf_beyond (P := Q) (by omega)] at this
      exact hP this
  exact ext (Nat.le_antisymm (aux hP h) (aux hQ fun k => (h k).symm)) fun k _ => h k
def trimL : List Int → List Int
  | [] => []
  | x :: r => match trimL r with
    | [] => if x = 0 then [] else [x]
    | y :: s => x :: y :: s
theorem cf_trimL : ∀ (P : List Int) (k : Nat), cf (trimL P) k = cf P k
  | [], k => rfl
  | x :: r, k => by
    have ih := cf_trimL r
    unfold trimL
    split
    · next e =>
      rw [e] at ih
      split
      · next hx =>
        subst hx
        cases k with
        | zero => rfl
        | succ k => rw [cf_succ, ← ih k, cf_nil, cf_nil]
      · cases k with
        | zero => rfl
        | succ k => rw [cf_succ, cf_succ, ← ih k]
    · next y s e =>
      rw [e] at ih
      cases k with
      | zero => rfl
      | succ k => rw [cf_succ, cf_succ, ← ih k]
theorem trim_trimL : ∀ P : List Int, Trim (trimL P)
  | [] => .inl rfl
  | x :: r => by
    have ih := trim_trimL r
    unfold trimL
    split
    · split
      · exact .inl rfl
      · next hx => exact .inr hx
    · next y s e =>
      rw [e] at ih
      rcases ih with h | h
      · cases h
      · refine .inr ?_
        show cf (x :: y :: s) (s.length + 1) ≠ 0
        rw [cf_succ]
        exact h
theorem trimL_eq {P Q : List Int} (hQ : Trim Q) (h : ∀ k, cf Q k = cf P k) : trimL P = Q := trim_ext (trim_trimL P) hQ fun k => by rw [cf_trimL, h]
theorem trimL_self {P : List Int} (h : Trim P) : trimL P = P := trimL_eq h fun _ => rfl
theorem trimL_trimL (P : List Int) : trimL (trimL P) = trimL P := trimL_self (trim_trimL P)
theorem trimL_len : ∀ P : List Int, (trimL P).length ≤ P.length
  | [] => Nat.le_refl _
  | x :: r => by
    have ih := trimL_len r
    unfold trimL
    split
    · split <;> simp
    · next y s e =>
      rw [e] at ih
      simp only [List.length_cons] at ih ⊢
      omega
theorem trimL_congr {P Q : List Int} (h : ∀ k, cf P k = cf Q k) : trimL P = trimL Q := trim_ext (trim_trimL P) (trim_trimL Q) fun k => by rw [cf_trimL, cf_trimL, h]
/-- what the loop finds -/
theorem trimL_take {P : List Int} {n : Nat} (hn : n ≤ P.length) (h0 : ∀ k, n ≤ k → cf P k = 0) (h1 : n = 0 ∨ cf P (n - 1) ≠ 0) : trimL P = P.take n := by
  have hc : ∀ k, cf (P.take n) k = cf P k := fun k => by
    by_cases hk : k < n
    · unfold cf
      rw [List.getD_eq_getElem?_getD, List.getD_eq_getElem?_getD, List.getElem?_take_of_lt hk]
    · rw [h0 k (by omega), cf_beyond (by rw [List.length_take]; omega)]
  refine trimL_eq ?_ hc
  rcases h1 with h1 | h1
  · left; subst h1; rfl
  · by_cases hz : n = 0
    · left; subst hz; rfl
    · right
      rw [List.length_take, Nat.min_eq_left hn, hc]
      exact h1
/-- all coefficients below 2 ^ n -/
def Sz (n : Nat) (P : List Int) : Prop := ∀ x ∈ P, x.natAbs < 2 ^ n
theorem Sz.cf {n : Nat} {P : List Int} (h : Sz n P) (k : Nat) : (cf P k).natAbs < 2 ^ n := by
  by_cases hk : k < P.length
  · rw [cf_get hk]; exact h _ (List.getElem_mem hk)
  · rw [cf_beyond (by omega)]; exact Nat.two_pow_pos n
theorem Sz.of {n : Nat} {P : List Int} (h : ∀ k, k < P.length → (ML.cf P k).natAbs < 2 ^ n) : Sz n P := fun x hx => by
  obtain ⟨k, hk, rfl⟩ := List.getElem_of_mem hx
  rw [← cf_get hk]; exact h k hk
theorem Sz.mono {n m : Nat} {P : List Int} (h : Sz n P) (hm : n ≤ m) : Sz m P := fun x hx => Nat.lt_of_lt_of_le (h x hx) (Nat.pow_le_pow_right (by decide) hm)
theorem Sz.trim {n : Nat} {P : List Int} (h : Sz n P) : Sz n (trimL P) := Sz.of fun k _ => by rw [cf_trimL]; exact h.cf k
theorem Sz.take {n : Nat} {P : List Int} (h : Sz n P) (k : Nat) : Sz n (P.take k) := fun x hx => h x (List.mem_of_mem_take hx)
theorem Sz.drop {n : Nat} {P : List Int} (h : Sz n P) (k : Nat) : Sz n (P.drop k) := fun x hx => h x (List.mem_of_mem_drop hx)
theorem Sz.append {n : Nat} {P Q : List Int} (h : Sz n P) (h' : Sz n Q) : Sz n (P ++ Q) := fun x hx => (List.mem_append.mp hx).elim (h x) (h' x)
theorem Sz.nil (n : Nat) : Sz n [] := fun x hx => by cases hx
theorem Sz.cons {n : Nat} {x : Int} {P : List Int} (hx : x.natAbs < 2 ^ n) (h : Sz n P) : Sz n (x :: P) := fun y hy => (List.mem_cons.mp hy).elim (fun e => by rw [e]; exact hx) (h y)
theorem Sz.rep0 (n k : Nat) : Sz n (List.replicate k 0) := fun x hx => by
  rw [List.mem_replicate] at hx
  rw [hx.2]; exact Nat.two_pow_pos n
theorem Sz.reverse {n : Nat} {P : List Int} (h : Sz n P) : Sz n P.reverse := fun x hx => h x (List.mem_reverse.mp hx)
theorem cf_map {f : Int → Int} (h0 : f 0 = 0) (P : List Int) (k : Nat) : cf (P.map f) k = f (cf P k) := by
  unfold cf
  rw [List.getD_eq_getElem?_getD, List.getD_eq_getElem?_getD, List.getElem?_map]
  cases P[k]? with
  | none => exact h0.symm
  | some x => rfl
theorem cf_range {n : Nat} {f : Nat → Int} {k : Nat} (h : k < n) : cf ((List.range n).map f) k = f k := by
  rw [cf_get (by simpa using h)]; simp
theorem cf_range_beyond {n : Nat} {f : Nat → Int} {k : Nat} (h : n ≤ k) : cf ((List.range n).map f) k = 0 := cf_beyond (by simpa using h)
theorem cf_set {P : List Int} {i k : Nat} {x : Int} (h : i < P.length) : cf (P.set i x) k = if k = i then x else cf P k := by
  unfold cf
  rw [List.getD_eq_getElem?_getD, List.getElem?_set, List.getD_eq_getElem?_getD]
  by_cases e : i = k
  · subst e; simp [h]
  · rw [if_neg e, if_neg (fun z => e z.symm)]
theorem cf_append_left {P Q : List Int} {k : Nat} (h : k < P.length) : cf (P ++ Q) k = cf P k := by
  unfold cf
  rw [List.getD_eq_getElem?_getD, List.getElem?_append_left h, List.getD_eq_getElem?_getD]
theorem cf_append_right {P Q : List Int} {k : Nat} (h : P.length ≤ k) : cf (P ++ Q) k = cf Q (k - P.length) := by
  unfold cf
  rw [List.getD_eq_getElem?_getD, List.getElem?_append_right h, List.getD_eq_getElem?_getD]
theorem cf_rep0 (n k : Nat) : cf (List.replicate n 0) k = 0 := by
  unfold cf
  rw [List.getD_eq_getElem?_getD, List.getElem?_replicate]
  split <;> rfl
theorem cf_drop (P : List Int) (n k : Nat) : cf (P.drop n) k = cf P (n + k) := by
  unfold cf
  rw [List.getD_eq_getElem?_getD, List.getElem?_drop, List.getD_eq_getElem?_getD]
theorem cf_take {P : List Int} {n k : Nat} (h : k < n) : cf (P.take n) k = cf P k := by
  unfold cf
  rw [List.getD_eq_getElem?_getD, List.getD_eq_getElem?_getD, List.getElem?_take_of_lt h]

/-! ### sums and products -/
def addL (P Q : List Int) : List Int := trimL ((List.range (max P.length Q.length)).map fun k => cf P k + cf Q k)
def subL (P Q : List Int) : List Int := trimL ((List.range (max P.length Q.length)).map fun k => cf P k - cf Q k)
theorem cf_addL (P Q : List Int) (k : Nat) : cf (addL P Q) k = cf P k + cf Q k := by
  unfold addL
  rw [cf_trimL]
  by_cases h : k < max P.length Q.length
  · rw [cf_range h]
  · rw [cf_range_beyond (by omega), cf_beyond (P := P) (by omega), cf_beyond (P := Q) (by omega)]; rfl
theorem cf_subL (P Q : List Int) (k : Nat) : cf (subL P Q) k = cf P k - cf Q k := by
  unfold subL
  rw [cf_trimL]
  by_cases h : k < max P.length Q.length
  · rw [cf_range h]
  · rw [cf_range_beyond (by omega), cf_beyond (P := P) (by omega), cf_beyond (P := Q) (by omega)]; rfl
theorem trim_addL (P Q : List Int) : Trim (addL P Q) := trim_trimL _
theorem trim_subL (P Q : List Int) : Trim (subL P Q) := trim_trimL _
/-- the sum of f over 0 .. n - 1 -/
def sm : Nat → (Nat → Int) → Int
  | 0, _ => 0
  | n + 1, f => sm n f + f n
theorem sm_succ (n : Nat) (f : Nat → Int) : sm (n + 1) f = sm n f + f n := rfl
theorem sm_congr {n : Nat} {f g : Nat → Int} (h : ∀ i, i < n → f i = g i) : sm n f = sm n g := by
  induction n with
  | zero => rfl
  | succ n ih => unfold sm; rw [ih fun i hi => h i (by omega), h n (by omega)]
theorem sm_zero {n : Nat} {f : Nat → Int} (h : ∀ i, i < n → f i = 0) : sm n f = 0 := by
  induction n with
  | zero => rfl
  | succ n ih => unfold sm; rw [ih fun i hi => h i (by omega), h n (by omega)]; rfl
theorem sm_add (n : Nat) (f g : Nat → Int) : sm n (fun i => f i + g i) = sm n f + sm n g := by
  induction n with
  | zero => rfl
  | succ n ih => simp only [sm_succ]; rw [ih]; omega
theorem sm_sub (n : Nat) (f g : Nat → Int) : sm n (fun i => f i - g i) = sm n f - sm n g := by
  induction n with
  | zero => rfl
  | succ n ih => simp only [sm_succ]; rw [ih]; omega
theorem sm_mul (n : Nat) (c : Int) (f : Nat → Int) : sm n (fun i => c * f i) = c * sm n f := by
  induction n with
  | zero => simp [sm]
  | succ n ih => unfold sm; rw [ih, Int.mul_add]
theorem sm_mul_r (n : Nat) (c : Int) (f : Nat → Int) : sm n (fun i => f i * c) = sm n f * c := by
  rw [Int.mul_comm, ← sm_mul]; exact sm_congr fun i _ => Int.mul_comm _ _
theorem sm_neg (n : Nat) (f : Nat → Int) : sm n (fun i => - f i) = - sm n f := by
  induction n with
  | zero => rfl
  | succ n ih => simp only [sm_succ]; rw [ih]; omega
theorem sm_ext {n m : Nat} {f : Nat → Int} (h : n ≤ m) (h0 : ∀ i, n ≤ i → i < m → f i = 0) : sm m f = sm n f := by
  induction m with
  | zero => have : n = 0 := by omega
            subst this; rfl
  | succ m ih =>
    by_cases e : n = m + 1
    · subst e; rfl
    · rw [sm_succ, ih (by omega) fun i h1 h2 => h0 i h1 (by omega), h0 m (by omega) (by omega)]
      omega
theorem sm_single {n : Nat} {f : Nat → Int} {j : Nat} (hj : j < n) (h : ∀ i, i < n → i ≠ j → f i = 0) : sm n f = f j := by
  induction n with
  | zero => omega
  | succ n ih =>
    unfold sm
    by_cases e : j = n
    · subst e
      rw [sm_zero fun i hi => h i (by omega) (by omega)]; omega
    · rw [ih (by omega) fun i hi hn => h i (by omega) hn, h n (by omega) (fun z => e z.symm)]; omega
theorem sm_shift (n : Nat) (f : Nat → Int) : sm (n + 1) f = f 0 + sm n (fun i => f (i + 1)) := by
  induction n with
  | zero => simp [sm]
  | succ n ih =>
    rw [sm, ih]
    show f 0 + sm n (fun i => f (i + 1)) + f (n + 1) = f 0 + (sm n (fun i => f (i + 1)) + f (n + 1))
    omega
theorem sm_rev (n : Nat) (f : Nat → Int) : sm n (fun i => f (n - 1 - i)) = sm n f := by
  induction n generalizing f with
  | zero => rfl
  | succ n ih =>
    rw [sm_shift, sm]
    have e : sm n (fun i => f (n + 1 - 1 - (i + 1))) = sm n f := by
      rw [← ih f]
      exact sm_congr fun i hi => by congr 1; omega
    rw [e]
    show f (n - 0) + sm n f = sm n f + f n
    rw [Nat.sub_zero]; omega
theorem sm_swap (n m : Nat) (f : Nat → Nat → Int) : sm n (fun i => sm m (fun j => f i j)) = sm m (fun j => sm n (fun i => f i j)) := by
  induction n with
  | zero => rw [sm]; exact (sm_zero fun _ _ => rfl).symm
  | succ n ih =>
    rw [sm, ih, ← sm_add]
    exact sm_congr fun j _ => rfl
/-- the coefficient of a product at a place -/
def cv (P Q : List Int) (k : Nat) : Int := sm (k + 1) fun i => cf P i * cf Q (k - i)
def mulL (P Q : List Int) : List Int := trimL ((List.range (P.length + Q.length)).map (cv P Q))
theorem cv_beyond {P Q : List Int} {k : Nat} (h : P.length + Q.length ≤ k + 1) : cv P Q k = 0 := sm_zero fun i hi => by
  by_cases h1 : i < P.length
  · rw [cf_beyond (P := Q) (by omega), Int.mul_zero]
  · rw [cf_beyond (P := P) (by omega), Int.zero_mul]
theorem cf_mulL (P Q : List Int) (k : Nat) : cf (mulL P Q) k = cv P Q k := by
  unfold mulL
  rw [cf_trimL]
  by_cases h : k < P.length + Q.length
  · rw [cf_range h]
  · rw [cf_range_beyond (by omega), cv_beyond (by omega)]
theorem trim_mulL (P Q : List Int) : Trim (mulL P Q) := trim_trimL _
/-- the product as it stands behind k turns of the outer loop and i of the inner one -/
def pcv (P Q : List Int) (k j : Nat) : Int := sm k fun a => if a ≤ j then cf P a * cf Q (j - a) else 0
def pcw (P Q : List Int) (k i j : Nat) : Int := pcv P Q k j + if k ≤ j ∧ j - k < i then cf P k * cf Q (j - k) else 0
theorem pcw_zero (P Q : List Int) (k j : Nat) : pcw P Q k 0 j = pcv P Q k j := by
  unfold pcw
  rw [if_neg (by omega)]; omega
theorem pcw_full (P Q : List Int) (k j : Nat) : pcw P Q k Q.length j = pcv P Q (k + 1) j := by
  unfold pcw
  show _ = pcv P Q k j + (if k ≤ j then cf P k * cf Q (j - k) else 0)
  by_cases h : k ≤ j
  · rw [if_pos h]
    by_cases h2 : j - k < Q.length
    · rw [if_pos ⟨h, h2⟩]
    · rw [if_neg (by omega), cf_beyond (P := Q) (by omega), Int.mul_zero]
  · rw [if_neg h, if_neg (by omega)]
theorem pcw_step (P Q : List Int) (k i j : Nat) : pcw P Q k (i + 1) j = if j = k + i then pcw P Q k i j + cf P k * cf Q i else pcw P Q k i j := by
  unfold pcw
  by_cases h : j = k + i
  · subst h
    rw [if_pos rfl, if_pos (by omega), if_neg (by omega), Nat.add_sub_cancel_left]; omega
  · rw [if_neg h]
    by_cases h2 : k ≤ j ∧ j - k < i
    · rw [if_pos h2, if_pos (by omega)]
    · rw [if_neg h2, if_neg (by omega)]
theorem pcv_full (P Q : List Int) (j : Nat) : pcv P Q P.length j = cv P Q j := by
  unfold pcv cv
  by_cases h : P.length ≤ j + 1
  · rw [sm_ext (f := fun i => cf P i * cf Q (j - i)) h fun i h1 h2 => by rw [cf_beyond (P := P) h1, Int.zero_mul]]
    exact sm_congr fun i hi => if_pos (by omega)
  · rw [sm_ext (n := j + 1) (by omega) fun i h1 h2 => if_neg (by omega)]
    exact sm_congr fun i hi => if_pos (by omega)
theorem mulL_of {P Q R : List Int} (hl : R.length = P.length + Q.length) (h : ∀ j, cf R j = pcv P Q P.length j) : trimL R = mulL P Q := by
  refine trim_ext (trim_trimL _) (trim_mulL P Q) fun j => ?_
  rw [cf_trimL, h, pcv_full, cf_mulL]
def linL (P Q : List Int) (f : Int) : List Int := trimL ((List.range (max P.length Q.length)).map fun k => cf P k + f * cf Q k)
theorem linL_one (P Q : List Int) : linL P Q 1 = addL P Q := by
  unfold linL addL
  congr 1
  apply List.map_congr_left
  intro k _
  rw [Int.one_mul]
theorem linL_neg (P Q : List Int) : linL P Q (-1) = subL P Q := by
  unfold linL subL
  congr 1
  apply List.map_congr_left
  intro k _
  omega
theorem linL_of {P Q R : List Int} {f : Int} (hl : R.length = max P.length Q.length) (h : ∀ j, j < max P.length Q.length → cf R j = cf P j + f * cf Q j) : trimL R = linL P Q f := by
  unfold linL
  congr 1
  refine ext (by simpa using hl) fun k hk => ?_
  rw [h k (by omega), cf_range (by omega)]
/-! ### slope, turned, flipped, lifted -/
def slopeL (P : List Int) : List Int := (List.range (P.length - 1)).map fun (k : Nat) => ((k : Int) + 1) * cf P (k + 1)
def turnL (P : List Int) : List Int := (List.range P.length).map fun k => if k % 2 = 1 then - cf P k else cf P k
def flipL (P : List Int) : List Int := trimL P.reverse
/-- each coefficient at so many times its place -/
def liftL (P : List Int) (m : Nat) : List Int := (List.range (if P.length = 0 then 0 else m * (P.length - 1) + 1)).map fun j => if j % m = 0 then cf P (j / m) else 0
theorem cf_slopeL (P : List Int) (k : Nat) : cf (slopeL P) k = ((k : Int) + 1) * cf P (k + 1) := by
  unfold slopeL
  by_cases h : k < P.length - 1
  · rw [cf_range h]
  · rw [cf_range_beyond (by omega), cf_beyond (P := P) (show P.length ≤ k + 1 by omega), Int.mul_zero]
theorem cf_turnL (P : List Int) (k : Nat) : cf (turnL P) k = if k % 2 = 1 then - cf P k else cf P k := by
  unfold turnL
  by_cases h : k < P.length
  · rw [cf_range h]
  · rw [cf_range_beyond (by omega), cf_beyond (P := P) (by omega)]; split <;> rfl
theorem turnL_len (P : List Int) : (turnL P).length = P.length := by unfold turnL; simp
theorem turnL_turnL (P : List Int) : turnL (turnL P) = P := by
  refine ext (by rw [turnL_len, turnL_len]) fun k _ => ?_
  rw [cf_turnL, cf_turnL]
  by_cases h : k % 2 = 1
  · rw [if_pos h, if_pos h]; omega
  · rw [if_neg h, if_neg h]
theorem cf_reverse {P : List Int} {k : Nat} (h : k < P.length) : cf P.reverse k = cf P (P.length - 1 - k) := by
  unfold cf
  rw [List.getD_eq_getElem?_getD, List.getElem?_reverse h, List.getD_eq_getElem?_getD]
theorem liftL_len (P : List Int) (m : Nat) : (liftL P m).length = if P.length = 0 then 0 else m * (P.length - 1) + 1 := by unfold liftL; simp
theorem div_bound {j m n : Nat} (hm : 0 < m) (h : j < m * n + 1) : j / m ≤ n := by
  rw [← Nat.lt_add_one_iff, Nat.div_lt_iff_lt_mul hm, Nat.add_mul, Nat.mul_comm n m]; omega
theorem liftL_step {P R : List Int} {m i : Nat} (hm : 0 < m) (hi : i < P.length) (hR : R = liftL (P.take i) m) : (if i = 0 then R else R ++ List.replicate (m - 1) 0) ++ [cf P i] = liftL (P.take (i + 1)) m := by
  have lt1 : (P.take i).length = i := by rw [List.length_take]; omega
  have lt2 : (P.take (i + 1)).length = i + 1 := by rw [List.length_take]; omega
  have lR : R.length = if i = 0 then 0 else m * (i - 1) + 1 := by rw [hR, liftL_len, lt1]
  have lL : (if i = 0 then R else R ++ List.replicate (m - 1) 0).length = m * i := by
    by_cases h : i = 0
    · subst h; rw [if_pos rfl, lR, if_pos rfl]; rfl
    · rw [if_neg h, List.length_append, List.length_replicate, lR, if_neg h]
      have : m * i = m * (i - 1) + m := by rw [← Nat.mul_succ]; congr 1; omega
      omega
  refine ext ?_ fun k hk => ?_
  · rw [List.length_append, lL, liftL_len, lt2, if_neg (by omega), Nat.add_sub_cancel]; rfl
  · rw [List.length_append, lL] at hk
    have hk' : k < m * i + 1 := hk
    have hr : cf (liftL (P.take (i + 1)) m) k = if k % m = 0 then cf (P.take (i + 1)) (k / m) else 0 := by
      unfold liftL
      rw [lt2, if_neg (by omega), Nat.add_sub_cancel, cf_range hk']
    rw [hr]
    by_cases hlast : k = m * i
    · rw [cf_append_right (by omega), lL, hlast, Nat.sub_self, Nat.mul_mod_right, if_pos rfl, Nat.mul_div_cancel_left _ hm, cf_take (by omega)]; rfl
    · rw [cf_append_left (by omega)]
      have i0 : i ≠ 0 := by intro e; subst e; omega
      rw [if_neg i0]
      rw [if_neg i0] at lR
      have em : m * i = m * (i - 1) + m := by rw [← Nat.mul_succ]; congr 1; omega
      by_cases hin : k < R.length
      · rw [cf_append_left hin, hR]
        unfold liftL
        rw [lt1, if_neg i0, cf_range (by omega)]
        split
        · have := div_bound hm (show k < m * (i - 1) + 1 by omega)
          rw [cf_take (by omega), cf_take (by omega)]
        · rfl
      · rw [cf_append_right (by omega), cf_rep0]
        have hd : k / m = i - 1 := by
          apply Nat.div_eq_of_lt_le
          · rw [Nat.mul_comm]; omega
          · rw [Nat.succ_mul, Nat.mul_comm]; omega
        have hne : k % m ≠ 0 := fun e => by
          have := Nat.div_add_mod k m
          rw [hd, e] at this
          omega
        rw [if_neg hne]
theorem liftL_all (P : List Int) (m : Nat) : liftL (P.take P.length) m = liftL P m := by rw [List.take_length]
theorem liftL_nil (P : List Int) (m : Nat) : liftL (P.take 0) m = [] := by simp [liftL]
theorem cf_liftL (P : List Int) {m : Nat} (hm : 0 < m) (j : Nat) : cf (liftL P m) j = if j % m = 0 then cf P (j / m) else 0 := by
  unfold liftL
  by_cases h : j < (if P.length = 0 then 0 else m * (P.length - 1) + 1)
  · rw [cf_range h]
  · rw [cf_range_beyond (by omega)]
    split
    · next e =>
      refine (cf_beyond ?_).symm
      by_cases h0 : P.length = 0
      · rw [h0]; exact Nat.zero_le _
      · rw [if_neg h0] at h
        have := Nat.div_add_mod j m
        rw [e] at this
        apply Nat.le_of_not_lt
        intro hlt
        have h2 : m * (j / m) ≤ m * (P.length - 1) := Nat.mul_le_mul_left m (by omega)
        omega
    · rfl
theorem trim_liftL {P : List Int} {m : Nat} (hm : 0 < m) (h : Trim P) : Trim (liftL P m) := by
  by_cases h0 : P.length = 0
  · left; unfold liftL; rw [if_pos h0]; rfl
  · right
    rw [liftL_len, if_neg h0, Nat.add_sub_cancel, cf_liftL P hm, Nat.mul_mod_right, if_pos rfl, Nat.mul_div_cancel_left _ hm]
    rcases h with h | h
    · rw [h] at h0; exact absurd rfl h0
    · exact h
/-- the product with its noughts -/
def mulU (P Q : List Int) : List Int := if P = [] ∨ Q = [] then [] else (List.range (P.length + Q.length - 1)).map (cv P Q)
theorem cf_mulU (P Q : List Int) (k : Nat) : cf (mulU P Q) k = cv P Q k := by
  unfold mulU
  split
  · next h =>
    rw [cf_nil]
    refine (cv_beyond' h k).symm
  · by_cases h : k < P.length + Q.length - 1
    · rw [cf_range h]
    · rw [cf_range_beyond (by omega), cv_beyond (by omega)]
where
  cv_beyond' {P Q : List Int} (h : P = [] ∨ Q = []) (k : Nat) : cv P Q k = 0 := sm_zero fun i _ => by
    rcases h with h | h
    · rw [h, cf_nil, Int.zero_mul]
    · rw [h, cf_nil, Int.mul_zero]
theorem mulU_len (P Q : List Int) : (mulU P Q).length ≤ P.length + Q.length := by
  unfold mulU
  split
  · simp
  · rw [List.length_map, List.length_range]; omega
theorem addL_len (P Q : List Int) : (addL P Q).length ≤ max P.length Q.length := Nat.le_trans (trimL_len _) (by simp)
theorem sm_abs {n : Nat} {f : Nat → Int} {b : Nat} (h : ∀ i, i < n → (f i).natAbs ≤ b) : (sm n f).natAbs ≤ n * b := by
  induction n with
  | zero => simp [sm]
  | succ n ih =>
    rw [sm_succ, Nat.add_mul]
    have := ih fun i hi => h i (by omega)
    have := h n (by omega)
    omega
theorem two_pow_ge (n : Nat) : n + 1 ≤ 2 ^ n := by
  induction n with
  | zero => decide
  | succ n ih => rw [Nat.pow_succ]; omega
theorem cv_sz {P Q : List Int} {n m : Nat} (hp : Sz n P) (hq : Sz m Q) (k : Nat) : (cv P Q k).natAbs < 2 ^ (n + m + P.length + 1) := by
  have h1 : cv P Q k = pcv P Q P.length k := (pcv_full P Q k).symm
  rw [h1]
  have h2 : (pcv P Q P.length k).natAbs ≤ P.length * 2 ^ (n + m) := sm_abs fun i _ => by
    split
    · rw [Int.natAbs_mul, Nat.pow_add]
      exact Nat.mul_le_mul (Nat.le_of_lt (hp.cf _)) (Nat.le_of_lt (hq.cf _))
    · exact Nat.zero_le _
  refine Nat.lt_of_le_of_lt h2 ?_
  have h3 := two_pow_ge P.length
  have h4 : 2 ^ (n + m + P.length + 1) = 2 ^ (P.length + 1) * 2 ^ (n + m) := by rw [← Nat.pow_add]; congr 1; omega
  rw [h4]
  exact Nat.mul_lt_mul_of_pos_right (by rw [Nat.pow_succ]; omega) (Nat.two_pow_pos _)
theorem Sz.mulL {P Q : List Int} {n m : Nat} (hp : Sz n P) (hq : Sz m Q) : Sz (n + m + P.length + 1) (mulL P Q) := Sz.of fun k _ => by rw [cf_mulL]; exact cv_sz hp hq k
theorem Sz.mulU {P Q : List Int} {n m : Nat} (hp : Sz n P) (hq : Sz m Q) : Sz (n + m + P.length + 1) (mulU P Q) := Sz.of fun k _ => by rw [cf_mulU]; exact cv_sz hp hq k
theorem Sz.addL {P Q : List Int} {n : Nat} (hp : Sz n P) (hq : Sz n Q) : Sz (n + 1) (addL P Q) := Sz.of fun k _ => by
  rw [cf_addL]
  have := hp.cf k
  have := hq.cf k
  have : 2 ^ (n + 1) = 2 ^ n + 2 ^ n := by rw [Nat.pow_succ]; omega
  omega
end ML

set_option linter.all false
/-! The determinant as the program reckons it. -/
namespace MT
open ML
/-- a cell -/
def at_ (M : List (List Int)) (i j : Nat) : Int := cf (M.getD i []) j
def pivL (M : List (List Int)) (k : Nat) : Nat := k + ((M.drop k).takeWhile (fun R => decide (cf R k = 0))).length
def clrRow (top : List Int) (k : Nat) (before : Int) (R : List Int) : List Int := (List.range R.length).map fun j => (cf top k * cf R j - cf R k * cf top j).fdiv before
def clrL (M : List (List Int)) (k : Nat) (before : Int) : List (List Int) := M.take (k + 1) ++ (M.drop (k + 1)).map (clrRow (M.getD k []) k before)
def swapL (M : List (List Int)) (i k : Nat) : List (List Int) := (M.set i (M.getD k [])).set k (M.getD i [])
/-- the rows as they stand when they are cleared -/
def swp (M : List (List Int)) (k : Nat) : List (List Int) := if pivL M k > k then swapL M k (pivL M k) else M
def sgn_ (M : List (List Int)) (k : Nat) (s : Int) : Int := if pivL M k > k then -s else s
def detG : Nat → Nat → List (List Int) → Int → Int → Int
  | 0, _, _, s, b => s * b
  | r + 1, k, M, s, b => if pivL M k = M.length then 0 else detG r (k + 1) (clrL (swp M k) k b) (sgn_ M k s) (at_ (clrL (swp M k) k b) k k)
def detL (M : List (List Int)) : Int := detG M.length 0 M 1 1
theorem pivL_ge (M : List (List Int)) (k : Nat) : k ≤ pivL M k := Nat.le_add_right ..
theorem pivL_le {M : List (List Int)} {k : Nat} (h : k ≤ M.length) : pivL M k ≤ M.length := by
  unfold pivL
  have : ((M.drop k).takeWhile (fun R => decide (cf R k = 0))).length ≤ (M.drop k).length := (List.takeWhile_sublist _).length_le
  rw [List.length_drop] at this
  omega
end MT
namespace MT
open ML
theorem swapL_len (M : List (List Int)) (i k : Nat) : (swapL M i k).length = M.length := by unfold swapL; simp
theorem swp_len (M : List (List Int)) (k : Nat) : (swp M k).length = M.length := by
  unfold swp
  split
  · exact swapL_len ..
  · rfl
theorem clrL_len (M : List (List Int)) (k : Nat) (b : Int) : (clrL M k b).length = M.length := by
  unfold clrL
  rw [List.length_append, List.length_map, List.length_take, List.length_drop]; omega
end MT

set_option linter.all false
set_option maxRecDepth 100000
/-! Lists of lists of ints. -/
namespace RB
open PySem PySem.Spec PyProof.Rows L2
open Evl (Ex rLenS rListS rMax2 tCut pss_cut)
def Rws (H : Hp) : List Addr → List (List Int) → Prop
  | [], [] => True
  | p :: ps, R :: Rs => H p = some (.lst (R.map V.int)) ∧ Rws H ps Rs
  | _, _ => False
theorem Rws.len {H : Hp} : ∀ {ps : List Addr} {Rs : List (List Int)}, Rws H ps Rs → ps.length = Rs.length
  | [], [], _ => rfl
  | p :: ps, R :: Rs, h => by rw [List.length_cons, List.length_cons, Rws.len h.2]
theorem Rws.ex {H H' : Hp} (e : Ex H H') : ∀ {ps : List Addr} {Rs : List (List Int)}, Rws H ps Rs → Rws H' ps Rs
  | [], [], _ => trivial
  | p :: ps, R :: Rs, h => ⟨e _ _ h.1, Rws.ex e h.2⟩
theorem Rws.exb {l : Addr} {H H' : Hp} (e : Exb l H H') : ∀ {ps : List Addr} {Rs : List (List Int)}, l ∉ ps → Rws H ps Rs → Rws H' ps Rs
  | [], [], _, _ => trivial
  | p :: ps, R :: Rs, hn, h => ⟨e _ (fun x => hn (by rw [x]; exact List.mem_cons_self ..)) _ h.1, Rws.exb e (fun x => hn (List.mem_cons_of_mem _ x)) h.2⟩
theorem Rws.append {H : Hp} : ∀ {ps qs : List Addr} {Rs Ss : List (List Int)}, Rws H ps Rs → Rws H qs Ss → Rws H (ps ++ qs) (Rs ++ Ss)
  | [], _, [], _, _, h => h
  | p :: ps, _, R :: Rs, _, h, h' => ⟨h.1, Rws.append h.2 h'⟩
theorem Rws.get {H : Hp} : ∀ {ps : List Addr} {Rs : List (List Int)} {i : Nat} {p : Addr}, Rws H ps Rs → ps[i]? = some p → ∃ R, Rs[i]? = some R ∧ H p = some (.lst (R.map V.int))
  | p :: ps, R :: Rs, 0, q, h, e => by
    simp only [List.getElem?_cons_zero, Option.some.injEq] at e
    exact ⟨R, rfl, by rw [← e]; exact h.1⟩
  | p :: ps, R :: Rs, i + 1, q, h, e => by
    simp only [List.getElem?_cons_succ] at e
    obtain ⟨S, h1, h2⟩ := Rws.get (i := i) h.2 e
    exact ⟨S, by simpa using h1, h2⟩
theorem dp_rows {K : PySem.W.Frag} {H : Hp} : ∀ {ps : List Addr} {Rs : List (List Int)}, Rws H ps Rs → DpAll K H (ps.map V.ref) (Rs.map dI)
  | [], [], _ => .nil
  | p :: ps, R :: Rs, h => .cons (dp_listI (SqL.inj h.1)) (dp_rows h.2)
theorem canLay_rows : ∀ Rs : List (List Int), PyData.canLayAll0 (Rs.map dI) = true
  | [] => by simp [PyData.canLayAll0]
  | n :: r => by
    rw [List.map_cons, PyData.canLayAll0, canLay_rows r]
    show (PyData.canLay0 (dI n) && true) = true
    unfold dI
    rw [PyData.canLay0, canLay_ints]; rfl
theorem depth_dI (n : List Int) : PyData.depth (dI n) ≤ 2 := by
  have := depth_ints n
  unfold dI
  rw [PyData.depth]
  omega
theorem depth_rows : ∀ Rs : List (List Int), PyData.depthAll (Rs.map dI) ≤ 2
  | [] => by simp [PyData.depthAll]
  | n :: r => by
    have h1 := depth_rows r
    have h2 := depth_dI n
    rw [List.map_cons, PyData.depthAll]
    omega
def dR (Rs : List (List Int)) : PyData := .list (Rs.map dI)
theorem shaped_dR (Rs : List (List Int)) : SeqAt.shaped (dR Rs) = true := by
  have h1 := canLay_rows Rs
  have h2 := depth_rows Rs
  unfold SeqAt.shaped dR
  rw [Bool.and_eq_true, PyData.canLay0, PyData.depth]
  exact ⟨h1, decide_eq_true (by omega)⟩
theorem eqvAll_rows : ∀ Rs Ss : List (List Int), PyData.eqvAll (Rs.map dI) (Ss.map dI) = decide (Rs = Ss)
  | [], [] => by simp [PyData.eqvAll]
  | [], m :: r => by simp [PyData.eqvAll]
  | n :: r, [] => by simp [PyData.eqvAll]
  | n :: r, m :: s => by
    rw [List.map_cons, List.map_cons, PyData.eqvAll, eqvAll_rows r s, eqv_dI]
    simp
theorem eqv_dR (Rs Ss : List (List Int)) : PyData.eqv (dR Rs) (dR Ss) = decide (Rs = Ss) := by
  unfold dR
  rw [PyData.eqv, eqvAll_rows]
def RowsK (K : PySem.W.Frag) (H : Hp) (a : Addr) (Rs : List (List Int)) : Prop := ∃ ps, SqL K H a (ps.map V.ref) ∧ Rws H ps Rs
theorem dp_listR {K : PySem.W.Frag} {H : Hp} {a : Addr} {ps : List Addr} {Rs : List (List Int)} (h : SqL K H a (ps.map V.ref)) (h' : Rws H ps Rs) : Dp K H (.ref a) (dR Rs) := .lst h (dp_rows h')
theorem r_eqRows {K : PySem.W.Frag} {H : Hp} {Q : VK} {a b : Addr} {ps qs : List Addr} {Rs Ss : List (List Int)} (h1 : SqL K H a (ps.map V.ref)) (h1' : Rws H ps Rs) (h2 : SqL K H b (qs.map V.ref)) (h2' : Rws H qs Ss) (q : Q (.bl (decide (Rs = Ss))) H) : rEqD K (.ref a) (.ref b) H Q :=
  ⟨_, _, dp_listR h1 h1', dp_listR h2 h2', shaped_dR Rs, shaped_dR Ss, by rw [eqv_dR]; exact q⟩
/-- what a row tells: new lists -/
def RetRow (Rs : List (List Int)) (H : Hp) (Q : VK) : Prop := ∀ (a : Addr) (ps : List Addr) (H' : Hp), H a = none → (∀ p ∈ ps, H p = none) → a ∉ ps → Ex H H' → H' a = some (.lst (ps.map V.ref)) → Rws H' ps Rs → Q (.ref a) H'
/-- the last two items -/
theorem r_ix2 {K : PySem.W.Frag} {H : Hp} {Q : VK} {p : Addr} {xs : List V} {x y : V} (h : SqL K H p (xs ++ [x, y])) (q : Q x H) : rIxL K (.ref p) (.int (-2)) H Q :=
  r_ixL h (by
    unfold atI
    have e : ixN (xs ++ [x, y]).length (-2) = some xs.length := by
      unfold ixN
      rw [if_neg (by decide), if_pos (by simp; omega)]
      simp
      omega
    rw [e]; simp) q
theorem r_ix1 {K : PySem.W.Frag} {H : Hp} {Q : VK} {p : Addr} {xs : List V} {x y : V} (h : SqL K H p (xs ++ [x, y])) (q : Q y H) : rIxL K (.ref p) (.int (-1)) H Q :=
  r_ixL h (by
    have : xs ++ [x, y] = (xs ++ [x]) ++ [y] := by simp
    rw [this]; exact atI_last _ _) q
end RB
namespace RB
open PySem PySem.Spec PyProof.Rows L2
open Evl (Ex)
theorem Rws.take {H : Hp} : ∀ (n : Nat) {ps : List Addr} {Rs : List (List Int)}, Rws H ps Rs → Rws H (ps.take n) (Rs.take n)
  | 0, _, _, _ => by rw [List.take_zero, List.take_zero]; trivial
  | n + 1, [], [], _ => trivial
  | n + 1, p :: ps, R :: Rs, h => ⟨h.1, Rws.take n h.2⟩
theorem Rws.flat {H : Hp} {ps : List Addr} {Rs : List (List Int)} (h : Rws H ps Rs) : ∀ n : Nat, Rws H (List.replicate n ps).flatten (List.replicate n Rs).flatten
  | 0 => trivial
  | n + 1 => by
    rw [List.replicate_succ, List.replicate_succ, List.flatten_cons, List.flatten_cons]
    exact Rws.append h (Rws.flat h n)
theorem flat_map {α β : Type} (f : α → β) (xs : List α) : ∀ n : Nat, (List.replicate n (xs.map f)).flatten = ((List.replicate n xs).flatten).map f
  | 0 => rfl
  | n + 1 => by rw [List.replicate_succ, List.replicate_succ, List.flatten_cons, List.flatten_cons, flat_map f xs n, List.map_append]
theorem flat_len {α : Type} (xs : List α) : ∀ n : Nat, ((List.replicate n xs).flatten).length = n * xs.length
  | 0 => by simp
  | n + 1 => by rw [List.replicate_succ, List.flatten_cons, List.length_append, flat_len xs n, Nat.add_mul]; omega
theorem flat_mem {α : Type} {xs : List α} {x : α} : ∀ {n : Nat}, x ∈ (List.replicate n xs).flatten → x ∈ xs
  | 0, h => by cases h
  | n + 1, h => by
    rw [List.replicate_succ, List.flatten_cons, List.mem_append] at h
    exact h.elim id flat_mem
/-- a list of lists times a number -/
theorem r_repR {H : Hp} {Q : VK} {l : Addr} {ps : List Addr} {k : Int} (h1 : H l = some (.lst (ps.map V.ref))) (hk : k < 2 ^ 63) (z : ps.length * k.toNat ≤ 16777216) (q : ∀ p H', H p = none → Ex H H' → H' p = some (.lst (((List.replicate k.toNat ps).flatten).map V.ref)) → Q (.ref p) H') (h0 : -(2 ^ 63) ≤ k := by omega) : rRep (.ref l) (.int k) H Q :=
  ⟨l, k, ps.map V.ref, rfl, rfl, h1, h0, hk, by rw [List.length_map]; exact small_le z, newL fun p H' hp e h => q p H' hp e (by rw [← flat_map]; exact h)⟩
theorem cutV_to {xs : List V} {n : Int} (h0 : 0 ≤ n) : cutV xs none (some n) = xs.take n.toNat := by
  obtain ⟨k, rfl⟩ : ∃ k : Nat, n = (k : Int) := ⟨n.toNat, by omega⟩
  unfold cutV
  rw [HT.sIx_none, HT.sIx_nat, List.drop_zero, Int.toNat_natCast, Nat.sub_zero]
  by_cases h : k ≤ xs.length
  · rw [Nat.min_eq_left h]
  · rw [Nat.min_eq_right (by omega), List.take_length, List.take_of_length_le (by omega)]
/-- over a list of lists, each giving a new list -/
theorem lc_rowsN {K : PySem.W.Frag} {σ : L2.St} {H : Hp} {te : TE} {Q : VK} {a : Addr} {ps : List Addr} {Rs : List (List Int)} {j : Nat} (f : List Int → List Int) (hx : SqL K H a (ps.map V.ref)) (hW : Rws H ps Rs) (hz : ps.length < 1000000)
    (he : ∀ p R H1, R ∈ Rs → H1 p = some (.lst (R.map V.int)) → Ex H H1 → ∀ Q' : VK, (∀ q H2, H1 q = none → Ex H1 H2 → H2 q = some (.lst ((f R).map V.int)) → Q' (.ref q) H2) → te (σ.set j (some (.ref p))) H1 Q')
    (q : ∀ D H' qs, H D = none → Ex H H' → H' D = some (.lst (qs.map V.ref)) → Rws H' qs (Rs.map f) → D ∉ qs → Q (.ref D) H') : Lc (Itl K a) (gName j) tYes te [j] σ H Q := fun D hD =>
  lc_list (xs := ps.map V.ref) (fun i H' => Ex H H' ∧ ∃ qs : List Addr, H' D = some (.lst (qs.map V.ref)) ∧ Rws H' qs ((Rs.take i).map f) ∧ D ∉ qs ∧ qs.length ≤ i) ⟨Evl.Ex.new hD, [], upd_same, trivial, (fun h => by cases h), Nat.le_refl _⟩ (fun i H' _ p => p.1.l hx)
    (fun i x H' hi p => ⟨by show ((σ.set j none).set j (some x)).set j none = σ.set j none; rw [set_set, set_set], by
      show te ((σ.set j none).set j (some x)) H' _
      rw [set_set]
      rw [List.getElem?_map] at hi
      obtain ⟨p', hp', rfl⟩ := Option.map_eq_some_iff.mp hi
      obtain ⟨e, qs, hq, hR, hn, hl⟩ := p
      obtain ⟨R, hRm, hpR⟩ := hW.get hp'
      have hlt : i < ps.length := (List.getElem?_eq_some_iff.mp hp').1
      refine he p' R H' (List.mem_of_getElem? hRm) (e _ _ hpR) e _ fun r H2 hr e2 hr2 => ⟨_, e2 D _ hq, ?_, Evl.Ex.mut (e.trans e2) hD, qs ++ [r], ?_, ?_, ?_, ?_⟩
      · rw [List.length_map]; exact small_lt (by omega)
      · rw [upd_same, List.map_append]; rfl
      · rw [List.take_add_one, hRm, List.map_append]
        have nD : r ≠ D := fun z => by rw [z, hq] at hr; cases hr
        refine Rws.append ?_ ⟨by rw [upd_ne nD]; exact hr2, trivial⟩
        exact (hR.ex e2).exb (l := D) (fun c n o h => by rw [upd_ne n]; exact h) hn
      · intro h
        rcases List.mem_append.mp h with h | h
        · exact hn h
        · rw [List.mem_singleton] at h
          rw [← h, hq] at hr
          cases hr
      · rw [List.length_append]; simp; omega⟩)
    (fun H' p => by
      obtain ⟨e, qs, hq, hR, hn, hl⟩ := p
      rw [List.length_map, hW.len, List.take_length] at hR
      exact q D H' qs hD e hq hR hn)
theorem lc_rows {K : PySem.W.Frag} {σ : L2.St} {H : Hp} {te : TE} {Q : VK} {a : Addr} {ps : List Addr} {Rs : List (List Int)} {j : Nat} (f : List Int → List Int) (hx : SqL K H a (ps.map V.ref)) (hW : Rws H ps Rs) (hz : ps.length < 1000000)
    (he : ∀ p R H1, R ∈ Rs → H1 p = some (.lst (R.map V.int)) → Ex H H1 → ∀ Q' : VK, (∀ q H2, H1 q = none → Ex H1 H2 → H2 q = some (.lst ((f R).map V.int)) → Q' (.ref q) H2) → te (σ.set j (some (.ref p))) H1 Q')
    (q : ∀ D H' qs, H D = none → Ex H H' → H' D = some (.lst (qs.map V.ref)) → Rws H' qs (Rs.map f) → Q (.ref D) H') : Lc (Itl K a) (gName j) tYes te [j] σ H Q := lc_rowsN f hx hW hz he fun D H' qs h1 h2 h3 h4 _ => q D H' qs h1 h2 h3 h4
theorem Rws.set {H : Hp} {p : Addr} {R : List Int} (hp : H p = some (.lst (R.map V.int))) : ∀ {ps : List Addr} {Rs : List (List Int)} (i : Nat), Rws H ps Rs → Rws H (ps.set i p) (Rs.set i R)
  | [], [], _, _ => trivial
  | _ :: _, _ :: _, 0, h => ⟨hp, h.2⟩
  | _ :: ps, _ :: Rs, i + 1, h => ⟨h.1, Rws.set hp i h.2⟩
end RB
namespace RB
open PySem PySem.Spec PyProof.Rows L2
theorem Rws.notin {H : Hp} {p : Addr} (hp : H p = none) : ∀ {ps : List Addr} {Rs : List (List Int)}, Rws H ps Rs → p ∉ ps
  | [], [], _ => fun h => by cases h
  | r :: ps, R :: Rs, h => fun hm => by
    rcases List.mem_cons.mp hm with e | e
    · have := h.1
      rw [← e, hp] at this
      cases this
    · exact Rws.notin hp h.2 e
end RB
namespace RB
open PySem PySem.Spec PyProof.Rows L2
theorem r_neRows {K : PySem.W.Frag} {H : Hp} {Q : VK} {a b : Addr} {ps qs : List Addr} {Rs Ss : List (List Int)} (h1 : SqL K H a (ps.map V.ref)) (h1' : Rws H ps Rs) (h2 : SqL K H b (qs.map V.ref)) (h2' : Rws H qs Ss) (q : Q (.bl (!decide (Rs = Ss))) H) : rNeD K (.ref a) (.ref b) H Q :=
  ⟨_, _, dp_listR h1 h1', dp_listR h2 h2', shaped_dR Rs, shaped_dR Ss, by rw [eqv_dR]; exact q⟩
end RB

set_option linter.all false
/-! What the walk of the determinant asks. -/
namespace RB
/-- rows that can be cleared -/
structure ClSz (n : Nat) (M : List (List Int)) (k : Nat) (b : Int) : Prop where
  k0 : k < M.length
  ln : M.length ≤ 100000
  wd : ∀ R ∈ M, R.length = (M.getD k []).length
  kw : k < (M.getD k []).length
  lw : (M.getD k []).length ≤ 100000
  sz : ∀ R ∈ M, ML.Sz n R
  n0 : 0 < n
  n9 : n ≤ 400000
  b0 : b ≠ 0
  b9 : b.natAbs.log2 < 9000
/-- what the walk asks of each step -/
def detOk : Nat → Nat → List (List Int) → Int → Prop
  | 0, _, _, b => ∃ n, 0 < n ∧ n ≤ 400000 ∧ b.natAbs < 2 ^ n
  | r + 1, k, M, b => (∀ R ∈ M, k < R.length) ∧ (MT.pivL M k ≠ M.length → (∃ n, ClSz n (MT.swp M k) k b) ∧ detOk r (k + 1) (MT.clrL (MT.swp M k) k b) (MT.at_ (MT.clrL (MT.swp M k) k b) k k))
end RB

set_option linter.all false
/-! The determinant of at most two rows. -/
namespace MT
open ML
theorem detG_no {r k : Nat} {M : List (List Int)} {s b : Int} (h : pivL M k = M.length) : detG (r + 1) k M s b = 0 := by
  unfold detG; rw [if_pos h]
theorem detG_go {r k : Nat} {M : List (List Int)} {s b : Int} (h : pivL M k ≠ M.length) : detG (r + 1) k M s b = detG r (k + 1) (clrL (swp M k) k b) (sgn_ M k s) (at_ (clrL (swp M k) k b) k k) := by
  conv => lhs; unfold detG
  rw [if_neg h]
theorem swp_eq {k : Nat} {M : List (List Int)} (h : pivL M k = k) : swp M k = M := by
  unfold swp; rw [if_neg (by omega)]
theorem sgn_eq {k : Nat} {M : List (List Int)} {s : Int} (h : pivL M k = k) : sgn_ M k s = s := by
  unfold sgn_; rw [if_neg (by omega)]
theorem swp_gt {k i : Nat} {M : List (List Int)} (h : pivL M k = i) (h' : k < i) : swp M k = swapL M k i := by
  unfold swp; rw [h, if_pos (by omega)]
theorem sgn_gt {k i : Nat} {M : List (List Int)} {s : Int} (h : pivL M k = i) (h' : k < i) : sgn_ M k s = -s := by
  unfold sgn_; rw [h, if_pos (by omega)]
theorem detL_nil : detL [] = 1 := rfl
theorem pivL_cons (R : List Int) (M : List (List Int)) : pivL (R :: M) 0 = if cf R 0 = 0 then 1 + pivL M 0 else 0 := by
  unfold pivL
  rw [List.drop_zero, List.drop_zero, Nat.zero_add, Nat.zero_add, List.takeWhile_cons]
  by_cases h : cf R 0 = 0
  · rw [if_pos h, if_pos (by simpa using h), List.length_cons]; omega
  · rw [if_neg h, if_neg (by simpa using h)]; rfl
theorem pivL_nil : pivL [] 0 = 0 := rfl
theorem pivL_one (a : Int) : pivL [[a]] 0 = if a = 0 then 1 else 0 := by
  rw [pivL_cons, pivL_nil]; rfl
theorem clr1 (a : Int) (b : Int) : clrL [[a]] 0 b = [[a]] := rfl
theorem clr2 (a b c d : Int) : clrL [[a, b], [c, d]] 0 1 = [[a, b], [0, a * d - c * b]] := by
  show [[a, b], [(a * c - c * a).fdiv 1, (a * d - c * b).fdiv 1]] = _
  rw [Int.fdiv_one, Int.fdiv_one, Int.mul_comm c a, Int.sub_self]
theorem detL_one (a : Int) : detL [[a]] = a := by
  show detG 1 0 [[a]] 1 1 = a
  have e := pivL_one a
  by_cases h : a = 0
  · rw [if_pos h] at e
    rw [detG_no e, h]
  · rw [if_neg h] at e
    rw [detG_go (by rw [e]; show 0 ≠ 1; decide), swp_eq e, sgn_eq e, clr1]
    show 1 * a = a
    omega
theorem pivL_last (R : List Int) (x y : Int) : pivL [R, [x, y]] 1 = if y = 0 then 2 else 1 := by
  show 1 + (List.takeWhile _ [[x, y]]).length = _
  rw [List.takeWhile_cons]
  show 1 + (if decide (y = 0) = true then _ else _ : List (List Int)).length = _
  by_cases h : y = 0
  · rw [if_pos h, if_pos (by simpa using h)]; rfl
  · rw [if_neg h, if_neg (by simpa using h)]; rfl
theorem detG_last (R : List Int) (x y s b : Int) : detG 1 1 [R, [x, y]] s b = s * y := by
  have e := pivL_last R x y
  by_cases h : y = 0
  · rw [if_pos h] at e
    rw [detG_no e, h, Int.mul_zero]
  · rw [if_neg h] at e
    rw [detG_go (by rw [e]; show 1 ≠ 2; decide), swp_eq e, sgn_eq e]
    rfl
theorem pivL_two (a b c d : Int) : pivL [[a, b], [c, d]] 0 = if a = 0 then if c = 0 then 2 else 1 else 0 := by
  rw [pivL_cons, pivL_cons, pivL_nil]
  show (if a = 0 then 1 + (if c = 0 then 1 + 0 else 0) else 0) = _
  split
  · split <;> rfl
  · rfl
theorem detL_two (a b c d : Int) : detL [[a, b], [c, d]] = a * d - b * c := by
  show detG 2 0 [[a, b], [c, d]] 1 1 = _
  have e := pivL_two a b c d
  by_cases h1 : a = 0
  · rw [if_pos h1] at e
    by_cases h2 : c = 0
    · rw [if_pos h2] at e
      rw [detG_no e, h1, h2]; simp
    · rw [if_neg h2] at e
      rw [detG_go (by rw [e]; show 1 ≠ 2; decide), swp_gt e (by decide), sgn_gt e (by decide)]
      show detG 1 1 (clrL [[c, d], [a, b]] 0 1) (-1) _ = _
      rw [clr2, detG_last, h1]
      grind
  · rw [if_neg h1] at e
    rw [detG_go (by rw [e]; show 0 ≠ 2; decide), swp_eq e, sgn_eq e, clr2, detG_last]
    grind
/-- the rows that are cleared -/
theorem swp_two (a b c d : Int) (h : pivL [[a, b], [c, d]] 0 ≠ 2) : ∃ p q r s, swp [[a, b], [c, d]] 0 = [[p, q], [r, s]] ∧ ((p = a ∧ q = b ∧ r = c ∧ s = d) ∨ (p = c ∧ q = d ∧ r = a ∧ s = b)) ∧ p ≠ 0 := by
  have e := pivL_two a b c d
  by_cases h1 : a = 0
  · rw [if_pos h1] at e
    by_cases h2 : c = 0
    · rw [if_pos h2] at e
      exact absurd e h
    · rw [if_neg h2] at e
      exact ⟨c, d, a, b, by rw [swp_gt e (by decide)]; rfl, .inr ⟨rfl, rfl, rfl, rfl⟩, h2⟩
  · rw [if_neg h1] at e
    exact ⟨a, b, c, d, by rw [swp_eq e], .inl ⟨rfl, rfl, rfl, rfl⟩, h1⟩
end MT

set_option linter.all false
/-! Determinants, expanded along the first of the columns. -/
namespace DT
abbrev Row := Nat → Int
def ex (c : Nat) (F : List Row → Int) : List Row → List Row → Int
  | _, [] => 0
  | pre, r :: post => r c * F (pre ++ post) - ex c F (pre ++ [r]) post
def D : List Nat → List Row → Int
  | [], [] => 1
  | [], _ :: _ => 0
  | c :: cs, rs => ex c (D cs) [] rs
def Anti (F : List Row → Int) : Prop := ∀ a b r s, F (a ++ r :: s :: b) = - F (a ++ s :: r :: b)
theorem ex_anti1 {F : List Row → Int} (h : Anti F) (c : Nat) (p : List Row) (r s : Row) : ∀ (b q : List Row), ex c F (p ++ r :: s :: q) b = - ex c F (p ++ s :: r :: q) b
  | [], q => rfl
  | t :: b, q => by
    have ih := ex_anti1 h c p r s b (q ++ [t])
    have hF := h p (q ++ b) r s
    unfold ex
    simp only [List.append_assoc, List.cons_append, List.nil_append] at ih hF ⊢
    rw [ih, hF]
    grind
theorem ex_anti2 {F : List Row → Int} (h : Anti F) (c : Nat) (r s : Row) (b : List Row) : ∀ (a p : List Row), ex c F p (a ++ r :: s :: b) = - ex c F p (a ++ s :: r :: b)
  | [], p => by
    have h1 := ex_anti1 h c p r s b []
    simp only [List.nil_append, ex, List.append_assoc, List.cons_append] at h1 ⊢
    rw [h1]
    grind
  | t :: a, p => by
    have ih := ex_anti2 h c r s b a (p ++ [t])
    have hF := h (p ++ a) b r s
    simp only [List.cons_append, ex]
    simp only [List.append_assoc, List.cons_append, List.nil_append] at ih hF ⊢
    rw [ih, hF]
    grind
theorem anti : ∀ cs : List Nat, Anti (D cs)
  | [] => fun a b r s => by
    cases a <;> rfl
  | c :: cs => fun a b r s => ex_anti2 (anti cs) c r s b a []
def Lin (F : List Row → Int) : Prop := ∀ (a b : List Row) (x y : Row) (l : Int), F (a ++ (fun j => x j + l * y j) :: b) = F (a ++ x :: b) + l * F (a ++ y :: b)
theorem ex_lin1 {F : List Row → Int} (h : Lin F) (c : Nat) (p : List Row) (x y : Row) (l : Int) : ∀ (b q : List Row), ex c F (p ++ (fun j => x j + l * y j) :: q) b = ex c F (p ++ x :: q) b + l * ex c F (p ++ y :: q) b
  | [], q => by simp [ex]
  | t :: b, q => by
    have ih := ex_lin1 h c p x y l b (q ++ [t])
    have hF := h p (q ++ b) x y l
    unfold ex
    simp only [List.append_assoc, List.cons_append, List.nil_append] at ih hF ⊢
    rw [ih, hF]
    grind
theorem ex_lin2 {F : List Row → Int} (h : Lin F) (c : Nat) (x y : Row) (l : Int) (b : List Row) : ∀ (a p : List Row), ex c F p (a ++ (fun j => x j + l * y j) :: b) = ex c F p (a ++ x :: b) + l * ex c F p (a ++ y :: b)
  | [], p => by
    have h1 := ex_lin1 h c p x y l b []
    simp only [List.nil_append, ex] at h1 ⊢
    rw [h1]
    grind
  | t :: a, p => by
    have ih := ex_lin2 h c x y l b a (p ++ [t])
    have hF := h (p ++ a) b x y l
    simp only [List.cons_append, ex]
    simp only [List.append_assoc, List.cons_append, List.nil_append] at ih hF ⊢
    rw [ih, hF]
    grind
theorem lin : ∀ cs : List Nat, Lin (D cs)
  | [] => fun a b x y l => by
    cases a <;> simp [D]
  | c :: cs => fun a b x y l => ex_lin2 (lin cs) c x y l b a []
/-- a row moved over others -/
theorem moved (cs : List Nat) (r : Row) (c : List Row) : ∀ (b a : List Row), D cs (a ++ r :: (b ++ c)) = (-1) ^ b.length * D cs (a ++ (b ++ r :: c))
  | [], a => by simp
  | t :: b, a => by
    have ih := moved cs r c b (a ++ [t])
    have h := anti cs a (b ++ c) r t
    simp only [List.append_assoc, List.cons_append, List.nil_append] at ih h ⊢
    rw [h, ih, List.length_cons, Int.pow_succ]
    grind
theorem alike0 (cs : List Nat) (a b : List Row) (r : Row) : D cs (a ++ r :: r :: b) = 0 := by
  have := anti cs a b r r
  omega
theorem alike (cs : List Nat) (a b c : List Row) (r : Row) : D cs (a ++ r :: (b ++ r :: c)) = 0 := by
  have h := moved cs r (r :: c) b a
  have h2 := alike0 cs (a ++ b) c r
  simp only [List.append_assoc] at h2
  rw [h, h2, Int.mul_zero]
theorem add_before (cs : List Nat) (a b c : List Row) (x y : Row) (l : Int) : D cs (a ++ y :: (b ++ (fun j => x j + l * y j) :: c)) = D cs (a ++ y :: (b ++ x :: c)) := by
  have h := lin cs (a ++ y :: b) c x y l
  simp only [List.append_assoc, List.cons_append] at h
  rw [h, alike]
  omega
theorem add_after (cs : List Nat) (a b c : List Row) (x y : Row) (l : Int) : D cs (a ++ (fun j => x j + l * y j) :: (b ++ y :: c)) = D cs (a ++ x :: (b ++ y :: c)) := by
  rw [lin cs a (b ++ y :: c) x y l, alike]
  omega
theorem swapped (cs : List Nat) (a b c : List Row) (r s : Row) : D cs (a ++ r :: (b ++ s :: c)) = - D cs (a ++ s :: (b ++ r :: c)) := by
  -- (r + s) twice
  have h := alike cs a b c (fun j => r j + 1 * s j)
  rw [lin cs a _ r s 1] at h
  have h1 := lin cs (a ++ r :: b) c r s 1
  have h2 := lin cs (a ++ s :: b) c r s 1
  simp only [List.append_assoc, List.cons_append] at h1 h2
  rw [h1, h2, alike, alike] at h
  omega
theorem ex_zero (c : Nat) (F : List Row → Int) : ∀ (us p : List Row), (∀ u ∈ us, u c = 0) → ex c F p us = 0
  | [], _, _ => rfl
  | u :: us, p, h => by
    unfold ex
    rw [h u (List.mem_cons_self ..), ex_zero c F us _ fun v hv => h v (List.mem_cons_of_mem _ hv)]
    omega
theorem block (ds : List Nat) (us : List Row) : ∀ (cs : List Nat) (as : List Row), as.length = cs.length → (∀ u ∈ us, ∀ c ∈ cs, u c = 0) → D (cs ++ ds) (as ++ us) = D cs as * D ds us
  | [], [], _, _ => by simp [D]
  | c :: cs, as, hl, h => by
    have ih := block ds us cs
    have hu : ∀ u ∈ us, ∀ d ∈ cs, u d = 0 := fun u hu d hd => h u hu d (List.mem_cons_of_mem _ hd)
    have aux : ∀ (post pre : List Row), pre.length + post.length = cs.length + 1 → ex c (D (cs ++ ds)) pre (post ++ us) = ex c (D cs) pre post * D ds us := by
      intro post
      induction post with
      | nil =>
        intro pre _
        rw [List.nil_append, ex_zero c _ us pre fun u hu' => h u hu' c (List.mem_cons_self ..)]
        show 0 = 0 * _
        rw [Int.zero_mul]
      | cons r post ih2 =>
        intro pre hp
        rw [List.length_cons] at hp
        rw [List.cons_append]
        unfold ex
        rw [ih2 (pre ++ [r]) (by rw [List.length_append, List.length_singleton]; omega), ← List.append_assoc, ih (pre ++ post) (by rw [List.length_append]; omega) hu]
        grind
    exact aux as [] (by rw [List.length_nil, hl, List.length_cons]; omega)
theorem one (j : Nat) (u : Row) : D [j] [u] = u j := by simp [D, ex]
theorem two (i j : Nat) (u v : Row) : D [i, j] [u, v] = u i * v j - v i * u j := by simp [D, ex]
/-- a bound -/
theorem ex_bound {c : Nat} {F : List Row → Int} {L B m : Nat} : ∀ (post pre : List Row), pre.length + post.length ≤ L + 1 → (∀ r ∈ post, (r c).natAbs ≤ B) → (∀ q, q.Sublist (pre ++ post) → q.length ≤ L → (F q).natAbs ≤ m) → (ex c F pre post).natAbs ≤ post.length * (B * m)
  | [], pre, _, _, _ => by simp [ex]
  | r :: post, pre, hl, hB, hF => by
    have ih := ex_bound (c := c) (F := F) (L := L) (B := B) (m := m) post (pre ++ [r]) (by rw [List.length_append, List.length_singleton]; rw [List.length_cons] at hl; omega) (fun s hs => hB s (List.mem_cons_of_mem _ hs)) (fun q hq hl' => hF q (by simpa using hq) hl')
    have h1 := hF (pre ++ post) (List.Sublist.append (List.Sublist.refl _) (List.sublist_cons_self ..)) (by rw [List.length_append]; rw [List.length_cons] at hl; omega)
    have h2 := hB r (List.mem_cons_self ..)
    unfold ex
    rw [List.length_cons, Nat.add_mul, Nat.one_mul]
    have h3 : (r c * F (pre ++ post)).natAbs ≤ B * m := by rw [Int.natAbs_mul]; exact Nat.mul_le_mul h2 h1
    omega
theorem bound {L B : Nat} (hL : 1 ≤ L) : ∀ (cs : List Nat) (rs : List Row), rs.length ≤ L → (∀ r ∈ rs, ∀ c ∈ cs, (r c).natAbs ≤ B) → (D cs rs).natAbs ≤ (L * B) ^ cs.length
  | [], [], _, _ => by simp [D]
  | [], _ :: _, _, _ => by simp [D]
  | c :: cs, rs, hl, h => by
    have ih := bound hL (B := B) cs
    have hh := ex_bound (c := c) (F := D cs) (L := L) (B := B) (m := (L * B) ^ cs.length) rs [] (by rw [List.length_nil]; omega) (fun r hr => h r hr c (List.mem_cons_self ..)) (fun q hq hl' => ih q hl' fun r hr d hd => h r (hq.subset (by simpa using hr)) d (List.mem_cons_of_mem _ hd))
    rw [List.length_cons, Nat.pow_succ]
    refine Nat.le_trans hh ?_
    calc rs.length * (B * (L * B) ^ cs.length) ≤ L * (B * (L * B) ^ cs.length) := Nat.mul_le_mul_right _ hl
      _ = (L * B) ^ cs.length * (L * B) := by rw [← Nat.mul_assoc, Nat.mul_comm]
end DT

set_option linter.all false
/-! The program's determinant is the determinant. -/
namespace DT
open ML MT
theorem getD_sw (M : List (List Int)) (k p j : Nat) (hk : k < M.length) (hp : p < M.length) : (swapL M k p).getD j [] = if j = p then M.getD k [] else if j = k then M.getD p [] else M.getD j [] := by
  unfold swapL
  simp only [List.getD_eq_getElem?_getD, List.getElem?_set, List.length_set]
  by_cases h1 : j = p
  · subst h1; simp [hp]
  · have h1' : ¬ p = j := fun z => h1 z.symm
    by_cases h2 : j = k
    · subst h2; simp [hk, h1, h1']
    · have h2' : ¬ k = j := fun z => h2 z.symm
      simp [h1, h1', h2, h2']
theorem split2 {α : Type} (A : List α) (k p : Nat) (h : k < p) (hp : p < A.length) : ∃ a r b s c, A = a ++ r :: (b ++ s :: c) ∧ a.length = k ∧ a.length + (1 + b.length) = p := by
  refine ⟨A.take k, A[k], (A.drop (k + 1)).take (p - k - 1), A[p], A.drop (p + 1), ?_, ?_, ?_⟩
  · conv => lhs; rw [← List.take_append_drop k A, List.drop_eq_getElem_cons (show k < A.length by omega), ← List.take_append_drop (p - k - 1) (A.drop (k + 1)), List.drop_drop, show k + 1 + (p - k - 1) = p by omega, List.drop_eq_getElem_cons hp]
  · rw [List.length_take]; omega
  · rw [List.length_take, List.length_take, List.length_drop]; omega
theorem swap_split (a b c : List (List Int)) (r s : List Int) : swapL (a ++ r :: (b ++ s :: c)) a.length (a.length + (1 + b.length)) = a ++ s :: (b ++ r :: c) := by
  unfold swapL
  have e1 : (a ++ r :: (b ++ s :: c)).getD (a.length + (1 + b.length)) [] = s := by
    rw [List.getD_eq_getElem?_getD, List.getElem?_append_right (by omega), show a.length + (1 + b.length) - a.length = b.length + 1 by omega, List.getElem?_cons_succ, List.getElem?_append_right (by omega), Nat.sub_self]
    rfl
  have e2 : (a ++ r :: (b ++ s :: c)).getD a.length [] = r := by
    rw [List.getD_eq_getElem?_getD, List.getElem?_append_right (by omega), Nat.sub_self]
    rfl
  rw [e1, e2, List.set_append_right _ _ (Nat.le_refl _), Nat.sub_self, List.set_cons_zero, List.set_append_right _ _ (by omega), show a.length + (1 + b.length) - a.length = b.length + 1 by omega, List.set_cons_succ, List.set_append_right _ _ (by omega), Nat.sub_self, List.set_cons_zero]
/-- two rows change places -/
theorem D_swap {A : List (List Int)} {k p : Nat} (h : k < p) (hp : p < A.length) (cs : List Nat) : D cs ((swapL A k p).map cf) = - D cs (A.map cf) := by
  obtain ⟨a, r, b, s, c, e, h1, h2⟩ := split2 A k p h hp
  rw [e, ← h1, ← h2, swap_split]
  simp only [List.map_append, List.map_cons]
  rw [swapped]
theorem take_swap {A : List (List Int)} {k p : Nat} (h : k < p) (hp : p < A.length) : (swapL A k p).take k = A.take k := by
  obtain ⟨a, r, b, s, c, e, h1, h2⟩ := split2 A k p h hp
  rw [e, ← h1, ← h2, swap_split, List.take_left, List.take_left]
theorem mem_swap {A : List (List Int)} {k p : Nat} (h : k < p) (hp : p < A.length) {R : List Int} (hR : R ∈ swapL A k p) : R ∈ A := by
  obtain ⟨a, r, b, s, c, e, h1, h2⟩ := split2 A k p h hp
  rw [e, ← h1, ← h2, swap_split] at hR
  rw [e]
  simp only [List.mem_append, List.mem_cons] at hR ⊢
  rcases hR with h | h | h | h | h
  · exact .inl h
  · exact .inr (.inr (.inr (.inl h)))
  · exact .inr (.inr (.inl h))
  · exact .inr (.inl h)
  · exact .inr (.inr (.inr (.inr h)))
theorem pivL_all {M : List (List Int)} {k : Nat} (hk : k ≤ M.length) (h : pivL M k = M.length) : ∀ i, k ≤ i → i < M.length → cf (M.getD i []) k = 0 := by
  unfold pivL at h
  have aux : ∀ (L : List (List Int)), (L.takeWhile (fun R => decide (cf R k = 0))).length = L.length → ∀ R ∈ L, cf R k = 0 := by
    intro L
    induction L with
    | nil => intro _ R hR; cases hR
    | cons R L ih =>
      intro e S hS
      rw [List.takeWhile_cons] at e
      by_cases hz : cf R k = 0
      · rw [if_pos (by simpa using hz), List.length_cons, List.length_cons] at e
        rcases List.mem_cons.mp hS with rfl | hS
        · exact hz
        · exact ih (by omega) S hS
      · rw [if_neg (by simpa using hz)] at e
        simp at e
  intro i h1 h2
  refine aux (M.drop k) (by rw [List.length_drop]; omega) _ ?_
  rw [List.getD_eq_getElem?_getD, List.getElem?_eq_getElem h2]
  rw [List.mem_drop_iff_getElem]
  exact ⟨i - k, by omega, by congr 1; omega⟩
theorem pivL_at {M : List (List Int)} {k : Nat} (hk : k ≤ M.length) (h : pivL M k ≠ M.length) : cf (M.getD (pivL M k) []) k ≠ 0 := by
  have aux : ∀ (L : List (List Int)), (L.takeWhile (fun R => decide (cf R k = 0))).length ≠ L.length → cf (L.getD (L.takeWhile (fun R => decide (cf R k = 0))).length []) k ≠ 0 := by
    intro L
    induction L with
    | nil => intro h; exact absurd rfl h
    | cons R L ih =>
      intro e
      rw [List.takeWhile_cons] at e ⊢
      by_cases hz : cf R k = 0
      · rw [if_pos (by simpa using hz), List.length_cons, List.length_cons] at e
        rw [if_pos (by simpa using hz), List.length_cons]
        exact ih (by omega)
      · rw [if_neg (by simpa using hz)]
        exact hz
  have h1 := aux (M.drop k) (by unfold pivL at h; rw [List.length_drop]; omega)
  have e : (M.drop k).getD ((M.drop k).takeWhile (fun R => decide (cf R k = 0))).length [] = M.getD (pivL M k) [] := by
    rw [List.getD_eq_getElem?_getD, List.getD_eq_getElem?_getD, List.getElem?_drop]; rfl
  rw [e] at h1
  exact h1
/-- what holds at each step -/
structure Inv (n B k : Nat) (A M : List (List Int)) (b : Int) : Prop where
  lA : A.length = n
  lM : M.length = n
  wd : ∀ R ∈ M, R.length = n
  hb : D (List.range k) ((A.take k).map cf) = b
  b0 : b ≠ 0
  z : ∀ i, k ≤ i → i < n → ∀ j, j < k → cf (M.getD i []) j = 0
  rel : ∀ i, k ≤ i → i < n → ∀ cs t, D cs ((A.take k).map cf ++ cf (M.getD i []) :: t) = b * D cs ((A.take k).map cf ++ cf (A.getD i []) :: t)
  sA : ∀ R ∈ A, ∀ j, (cf R j).natAbs ≤ B
  sM : ∀ R ∈ M, ∀ j, (cf R j).natAbs ≤ (n * B) ^ n
theorem mem_getD {M : List (List Int)} {i : Nat} (h : i < M.length) : M.getD i [] ∈ M := by
  rw [List.getD_eq_getElem?_getD, List.getElem?_eq_getElem h]
  exact List.getElem_mem h
theorem Inv.swap {n B k p : Nat} {A M : List (List Int)} {b : Int} (h : Inv n B k A M b) (hk : k < p) (hp : p < n) : Inv n B k (swapL A k p) (swapL M k p) b := by
  have lA := h.lA
  have lM := h.lM
  have tA := take_swap (A := A) hk (by omega)
  refine ⟨by rw [swapL_len, lA], by rw [swapL_len, lM], fun R hR => h.wd R (mem_swap hk (by omega) hR), by rw [tA]; exact h.hb, h.b0, ?_, ?_, fun R hR => h.sA R (mem_swap hk (by omega) hR), fun R hR => h.sM R (mem_swap hk (by omega) hR)⟩
  · intro i h1 h2 j hj
    rw [getD_sw M k p i (by omega) (by omega)]
    split
    · exact h.z k (by omega) (by omega) j hj
    · split
      · exact h.z p (by omega) (by omega) j hj
      · exact h.z i h1 h2 j hj
  · intro i h1 h2 cs t
    rw [tA, getD_sw M k p i (by omega) (by omega), getD_sw A k p i (by omega) (by omega)]
    split
    · exact h.rel k (by omega) (by omega) cs t
    · split
      · exact h.rel p (by omega) (by omega) cs t
      · exact h.rel i h1 h2 cs t
theorem cf_clrRow {top R : List Int} (k : Nat) (b : Int) (hl : top.length = R.length) (j : Nat) : cf (clrRow top k b R) j = (cf top k * cf R j - cf R k * cf top j).fdiv b := by
  by_cases h : j < R.length
  · rw [show cf (clrRow top k b R) j = _ from cf_some (x := (cf top k * cf R j - cf R k * cf top j).fdiv b) (by unfold clrRow; rw [List.getElem?_map, List.getElem?_range h]; rfl)]
  · rw [cf_beyond (P := clrRow top k b R) (by unfold clrRow; rw [List.length_map, List.length_range]; omega), cf_beyond (P := R) (k := j) (by omega), cf_beyond (P := top) (k := j) (by omega)]
    simp
theorem getD_clr {M : List (List Int)} {k : Nat} {b : Int} (i : Nat) (hk : k < M.length) (hi : i < M.length) : (clrL M k b).getD i [] = if i ≤ k then M.getD i [] else clrRow (M.getD k []) k b (M.getD i []) := by
  unfold clrL
  rw [List.getD_eq_getElem?_getD]
  split
  · rw [List.getElem?_append_left (by rw [List.length_take]; omega), List.getElem?_take, if_pos (by omega), List.getD_eq_getElem?_getD]
  · rw [List.getElem?_append_right (by rw [List.length_take]; omega), List.length_take, List.getElem?_map, List.getElem?_drop, show k + 1 + (i - min (k + 1) M.length) = i by omega, List.getD_eq_getElem?_getD (l := M) (i := i), List.getElem?_eq_getElem hi]
    rfl
theorem take_one {A : List (List Int)} {k : Nat} (hk : k < A.length) : (A.take (k + 1)).map cf = (A.take k).map cf ++ [cf (A.getD k [])] := by
  rw [List.take_add_one, List.map_append, List.getD_eq_getElem?_getD, List.getElem?_eq_getElem hk]
  rfl
theorem Inv.as_len {n B k : Nat} {A M : List (List Int)} {b : Int} (h : Inv n B k A M b) (hk : k ≤ n) : ((A.take k).map cf).length = (List.range k).length := by
  rw [List.length_map, List.length_take, List.length_range, h.lA]; omega
/-- the pivot is the next first minor -/
theorem Inv.pivot {n B k : Nat} {A M : List (List Int)} {b : Int} (h : Inv n B k A M b) (hk : k < n) : D (List.range (k + 1)) ((A.take (k + 1)).map cf) = at_ M k k := by
  have lA := h.lA
  rw [take_one (by omega), List.range_succ]
  have h1 := h.rel k (Nat.le_refl _) hk (List.range k ++ [k]) []
  rw [block [k] [cf (M.getD k [])] (List.range k) _ (h.as_len (by omega)) (fun u hu c hc => by
    rw [List.mem_singleton] at hu
    subst hu
    exact h.z k (Nat.le_refl _) hk c (List.mem_range.mp hc)), h.hb, one] at h1
  exact (Int.eq_of_mul_eq_mul_left h.b0 h1).symm
/-- the division has no rest: what comes is a minor -/
theorem Inv.exact {n B k i : Nat} {A M : List (List Int)} {b : Int} (h : Inv n B k A M b) (hk : k < n) (hi : k < i) (hin : i < n) (j : Nat) : cf (M.getD k []) k * cf (M.getD i []) j - cf (M.getD i []) k * cf (M.getD k []) j = b * D (List.range k ++ [k, j]) ((A.take k).map cf ++ [cf (A.getD k []), cf (A.getD i [])]) := by
  have h1 := block [k, j] [cf (M.getD k []), cf (M.getD i [])] (List.range k) _ (h.as_len (by omega)) (fun u hu c hc => by
    simp only [List.mem_cons, List.not_mem_nil, or_false] at hu
    rcases hu with rfl | rfl
    · exact h.z k (Nat.le_refl _) hk c (List.mem_range.mp hc)
    · exact h.z i (by omega) hin c (List.mem_range.mp hc))
  rw [h.hb, two, h.rel k (Nat.le_refl _) hk, anti, h.rel i (by omega) hin, anti] at h1
  have b0 := h.b0
  refine Int.eq_of_mul_eq_mul_left b0 ?_
  rw [← h1]
  grind
theorem Inv.step {n B k : Nat} {A M : List (List Int)} {b : Int} (h : Inv n B k A M b) (hk : k < n) (hB : 1 ≤ n * B) (hp : at_ M k k ≠ 0) : Inv n B (k + 1) A (clrL M k b) (at_ M k k) := by
  have lA := h.lA
  have lM := h.lM
  have b0 := h.b0
  have wk : (M.getD k []).length = n := h.wd _ (mem_getD (by omega))
  have ent : ∀ i, k < i → i < n → ∀ j, cf (clrRow (M.getD k []) k b (M.getD i [])) j = D (List.range k ++ [k, j]) ((A.take k).map cf ++ [cf (A.getD k []), cf (A.getD i [])]) := by
    intro i h1 h2 j
    rw [cf_clrRow k b (by rw [wk, h.wd _ (mem_getD (show i < M.length by omega))]) j, h.exact hk h1 h2 j, Int.mul_fdiv_cancel_left _ b0]
  have bent : ∀ i, k < i → i < n → ∀ j, b * cf (clrRow (M.getD k []) k b (M.getD i [])) j = cf (M.getD k []) k * cf (M.getD i []) j - cf (M.getD i []) k * cf (M.getD k []) j := by
    intro i h1 h2 j
    rw [ent i h1 h2 j, h.exact hk h1 h2 j]
  refine ⟨lA, by rw [clrL_len, lM], ?_, h.pivot hk, hp, ?_, ?_, h.sA, ?_⟩
  · intro R hR
    unfold clrL at hR
    rcases List.mem_append.mp hR with hR | hR
    · exact h.wd R (List.mem_of_mem_take hR)
    · obtain ⟨S, hS, rfl⟩ := List.mem_map.mp hR
      unfold clrRow
      rw [List.length_map, List.length_range]
      exact h.wd S (List.mem_of_mem_drop hS)
  · intro i h1 h2 j hj
    rw [getD_clr i (by omega) (by omega), if_neg (by omega)]
    have e := bent i (by omega) h2 j
    have : cf (M.getD k []) k * cf (M.getD i []) j - cf (M.getD i []) k * cf (M.getD k []) j = 0 := by
      by_cases hjk : j = k
      · subst hjk; rw [Int.mul_comm]; omega
      · rw [h.z i (by omega) h2 j (by omega), h.z k (Nat.le_refl _) hk j (by omega)]; simp
    rw [this] at e
    exact (Int.mul_eq_zero.mp e).resolve_left b0
  · intro i h1 h2 cs t
    rw [getD_clr i (by omega) (by omega), if_neg (by omega), take_one (by omega)]
    simp only [List.append_assoc, List.cons_append, List.nil_append]
    have e1 : (fun j => b * cf (clrRow (M.getD k []) k b (M.getD i [])) j) = fun j => (fun j => cf (M.getD k []) k * cf (M.getD i []) j) j + (-cf (M.getD i []) k) * cf (M.getD k []) j := by
      funext j
      rw [bent i (by omega) h2 j]
      grind
    have sc : ∀ (l : Int) (x : Row) (a : List Row), D cs (a ++ (fun j => l * x j) :: t) = l * D cs (a ++ x :: t) := by
      intro l x a
      have h1 := lin cs a t x x (l - 1)
      have e : (fun j => x j + (l - 1) * x j) = fun j => l * x j := by funext j; grind
      rw [e] at h1
      rw [h1]; grind
    have key := sc b (cf (clrRow (M.getD k []) k b (M.getD i []))) ((A.take k).map cf ++ [cf (A.getD k [])])
    rw [e1, lin, sc] at key
    simp only [List.append_assoc, List.cons_append, List.nil_append] at key
    rw [anti cs _ t (cf (A.getD k [])) (cf (M.getD i [])), anti cs _ t (cf (A.getD k [])) (cf (M.getD k [])), h.rel i (by omega) h2, h.rel k (Nat.le_refl _) hk, alike0, anti cs _ t (cf (A.getD i [])) (cf (A.getD k []))] at key
    have := Int.eq_of_mul_eq_mul_left b0 (a := b) (b := b) rfl
    refine Int.eq_of_mul_eq_mul_left b0 ?_
    rw [← key]
    show _ = b * (at_ M k k * _)
    unfold at_
    grind
  · intro R hR j
    unfold clrL at hR
    rcases List.mem_append.mp hR with hR | hR
    · exact h.sM R (List.mem_of_mem_take hR) j
    · obtain ⟨S, hS, rfl⟩ := List.mem_map.mp hR
      obtain ⟨i, hi, hSi⟩ := List.mem_iff_getElem.mp hS
      rw [List.length_drop] at hi
      have e : S = M.getD (k + 1 + i) [] := by
        rw [← hSi, List.getElem_drop, List.getD_eq_getElem?_getD, List.getElem?_eq_getElem (by omega)]; rfl
      rw [e, ent (k + 1 + i) (by omega) (by omega) j]
      refine Nat.le_trans (bound (L := n) (B := B) (by omega) _ _ ?_ ?_) ?_
      · rw [List.length_append, h.as_len (by omega), List.length_range]; show k + 2 ≤ n; omega
      · intro r hr c _
        rcases List.mem_append.mp hr with hr | hr
        · obtain ⟨a, ha, rfl⟩ := List.mem_map.mp hr
          exact h.sA a (List.mem_of_mem_take ha) c
        · simp only [List.mem_cons, List.not_mem_nil, or_false] at hr
          rcases hr with rfl | rfl
          · exact h.sA _ (mem_getD (by omega)) c
          · exact h.sA _ (mem_getD (by omega)) c
      · refine Nat.pow_le_pow_right hB ?_
        rw [List.length_append, List.length_range]; show k + 2 ≤ n; omega
/-- lists of rows, pair by pair -/
def All2 (P : Row → Row → Prop) : List Row → List Row → Prop
  | [], [] => True
  | e :: es, a :: as => P e a ∧ All2 P es as
  | _, _ => False
theorem rel_mid {as : List Row} {b : Int} {e a : Row} (h : ∀ cs t, D cs (as ++ e :: t) = b * D cs (as ++ a :: t)) (cs : List Nat) (mid t : List Row) : D cs (as ++ (mid ++ e :: t)) = b * D cs (as ++ (mid ++ a :: t)) := by
  have h1 := moved cs e t mid as
  have h2 := moved cs a t mid as
  rw [h cs (mid ++ t), h2] at h1
  have s : ((-1 : Int) ^ mid.length) ≠ 0 := Int.pow_ne_zero (by decide)
  refine Int.eq_of_mul_eq_mul_left s ?_
  rw [← h1]; grind
theorem rel_all {as : List Row} {b : Int} (cs : List Nat) : ∀ (es aas mid : List Row), All2 (fun e a => ∀ cs t, D cs (as ++ e :: t) = b * D cs (as ++ a :: t)) es aas → D cs (as ++ (mid ++ es)) = b ^ es.length * D cs (as ++ (mid ++ aas))
  | [], [], mid, _ => by simp
  | e :: es, a :: aas, mid, h => by
    have ih := rel_all cs es aas (mid ++ [a]) h.2
    have h1 := rel_mid h.1 cs mid es
    simp only [List.append_assoc, List.cons_append, List.nil_append] at ih
    rw [h1, ih, List.length_cons, Int.pow_succ]; grind
theorem all2_drop {P : Row → Row → Prop} {A M : List (List Int)} {n : Nat} (lA : A.length = n) (lM : M.length = n) : ∀ (d k : Nat), k + d = n → (∀ i, k ≤ i → i < n → P (cf (M.getD i [])) (cf (A.getD i []))) → All2 P ((M.drop k).map cf) ((A.drop k).map cf)
  | 0, k, hd, _ => by
    rw [List.drop_eq_nil_of_le (by omega), List.drop_eq_nil_of_le (by omega)]
    trivial
  | d + 1, k, hd, h => by
    rw [List.drop_eq_getElem_cons (show k < M.length by omega), List.drop_eq_getElem_cons (show k < A.length by omega)]
    refine ⟨?_, all2_drop lA lM d (k + 1) (by omega) fun i h1 h2 => h i (by omega) h2⟩
    have := h k (Nat.le_refl _) (by omega)
    rw [List.getD_eq_getElem?_getD, List.getD_eq_getElem?_getD, List.getElem?_eq_getElem (show k < M.length by omega), List.getElem?_eq_getElem (show k < A.length by omega)] at this
    exact this
theorem range_split {k n : Nat} (h : k ≤ n) : List.range n = List.range k ++ (List.range (n - k)).map (k + ·) := by
  conv => lhs; rw [show n = k + (n - k) by omega, List.range_add]
theorem Inv.none {n B k : Nat} {A M : List (List Int)} {b : Int} (h : Inv n B k A M b) (hk : k < n) (hp : pivL M k = M.length) : D (List.range n) (A.map cf) = 0 := by
  have lA := h.lA
  have lM := h.lM
  have h1 := rel_all (as := (A.take k).map cf) (b := b) (List.range n) ((M.drop k).map cf) ((A.drop k).map cf) [] (all2_drop lA lM (n - k) k (by omega) fun i h1 h2 => h.rel i h1 h2)
  have hz : ∀ u ∈ (M.drop k).map cf, ∀ c, c ≤ k → u c = 0 := by
    intro u hu c hc
    obtain ⟨S, hS, rfl⟩ := List.mem_map.mp hu
    obtain ⟨i, hi, hSi⟩ := List.mem_iff_getElem.mp hS
    rw [List.length_drop] at hi
    have e : S = M.getD (k + i) [] := by
      rw [← hSi, List.getElem_drop, List.getD_eq_getElem?_getD, List.getElem?_eq_getElem (by omega)]; rfl
    rw [e]
    by_cases hck : c = k
    · subst hck; exact pivL_all (by omega) hp (c + i) (by omega) (by omega)
    · exact h.z (k + i) (by omega) (by omega) c (by omega)
  rw [List.nil_append, List.nil_append, ← List.map_append (l₁ := A.take k) (l₂ := A.drop k), List.take_append_drop] at h1
  have h2 : D (List.range n) ((A.take k).map cf ++ (M.drop k).map cf) = 0 := by
    rw [range_split (k := k) (n := n) (by omega), block _ _ _ _ (h.as_len (by omega)) (fun u hu c hc => hz u hu c (by have := List.mem_range.mp hc; omega))]
    obtain ⟨m, hm⟩ : ∃ m, n - k = m + 1 := ⟨n - k - 1, by omega⟩
    rw [hm, List.range_succ_eq_map, List.map_cons]
    show _ * ex _ _ _ _ = 0
    rw [ex_zero _ _ _ _ fun u hu => hz u hu _ (by omega), Int.mul_zero]
  rw [h2] at h1
  exact (Int.mul_eq_zero.mp h1.symm).resolve_left (Int.pow_ne_zero h.b0)
theorem detG_eq {n B : Nat} (hB : 1 ≤ n * B) : ∀ (r k : Nat) (A M : List (List Int)) (s b : Int), Inv n B k A M b → k + r = n → detG r k M s b = s * D (List.range n) (A.map cf)
  | 0, k, A, M, s, b, h, hr => by
    have hk : k = n := by omega
    subst hk
    have := h.hb
    rw [List.take_of_length_le (by rw [h.lA]; exact Nat.le_refl _)] at this
    rw [this]; rfl
  | r + 1, k, A, M, s, b, h, hr => by
    have lA := h.lA
    have lM := h.lM
    by_cases hp : pivL M k = M.length
    · rw [detG_no hp, h.none (by omega) hp, Int.mul_zero]
    · rw [detG_go hp]
      have hge := pivL_ge M k
      have hle := pivL_le (M := M) (k := k) (by omega)
      have hat := pivL_at (M := M) (k := k) (by omega) hp
      have same : ∀ N : List (List Int), N.length = n → at_ (clrL N k b) k k = at_ N k k := by
        intro N hN
        unfold at_
        rw [getD_clr k (by omega) (by omega), if_pos (Nat.le_refl _)]
      by_cases hgt : k < pivL M k
      · rw [swp_gt rfl hgt, sgn_gt rfl hgt, same _ (by rw [swapL_len]; exact lM)]
        have hs := h.swap hgt (show pivL M k < n by omega)
        have := hs.step (by omega) hB (by
          unfold at_
          rw [getD_sw M k _ k (by omega) (by omega), if_neg (by omega), if_pos rfl]
          exact hat)
        rw [detG_eq hB r (k + 1) _ _ (-s) _ this (by omega), D_swap hgt (by omega)]
        grind
      · have he : pivL M k = k := by omega
        rw [he] at hat
        rw [swp_eq he, sgn_eq he, same _ lM]
        exact detG_eq hB r (k + 1) _ _ s _ (h.step (by omega) hB hat) (by omega)
theorem Inv.start {n B : Nat} {A : List (List Int)} (lA : A.length = n) (wd : ∀ R ∈ A, R.length = n) (sA : ∀ R ∈ A, ∀ j, (cf R j).natAbs ≤ B) (hB : 1 ≤ n * B) (hn : 0 < n) : Inv n B 0 A A 1 := by
  refine ⟨lA, lA, wd, by simp [D], by decide, fun _ _ _ j hj => absurd hj (by omega), fun i _ _ cs t => by simp, sA, fun R hR j => ?_⟩
  refine Nat.le_trans (sA R hR j) ?_
  have : n * B ≤ (n * B) ^ n := Nat.le_self_pow (by omega) _
  exact Nat.le_trans (Nat.le_mul_of_pos_left B hn) this
theorem detL_eq {n B : Nat} {A : List (List Int)} (lA : A.length = n) (wd : ∀ R ∈ A, R.length = n) (sA : ∀ R ∈ A, ∀ j, (cf R j).natAbs ≤ B) (hB : 1 ≤ B) : detL A = D (List.range n) (A.map cf) := by
  by_cases hn : n = 0
  · subst hn
    rw [List.length_eq_zero_iff] at lA
    subst lA; rfl
  · unfold detL
    have hB' : 1 ≤ n * B := Nat.mul_le_mul (show 1 ≤ n by omega) hB
    rw [lA, detG_eq hB' n 0 A A 1 1 (Inv.start lA wd sA hB' (by omega)) (by omega), Int.one_mul]
end DT

set_option linter.all false
/-! Determinants: sizes, and what is done to rows. -/
namespace DT
open ML MT RB
theorem Inv.cl {n B k N : Nat} {A M : List (List Int)} {b : Int} (h : Inv n B k A M b) (hk : k < n) (hn : n ≤ 100000) (hN : (n * B) ^ n < 2 ^ N) (N9 : N ≤ 9000) (N0 : 0 < N) (bb : b.natAbs < 2 ^ N) : ClSz N M k b := by
  have lM := h.lM
  have wk : (M.getD k []).length = n := h.wd _ (mem_getD (by omega))
  refine ⟨by omega, by omega, fun R hR => by rw [wk]; exact h.wd R hR, by omega, by omega, fun R hR => Sz.of fun j _ => Nat.lt_of_le_of_lt (h.sM R hR j) hN, N0, by omega, h.b0, ?_⟩
  have b0 := h.b0
  have : b.natAbs.log2 < N := (Nat.log2_lt (by omega)).mpr bb
  omega
theorem detOk_go {n B N : Nat} (hB : 1 ≤ n * B) (hn : n ≤ 100000) (hN : (n * B) ^ n < 2 ^ N) (N9 : N ≤ 9000) (N0 : 0 < N) : ∀ (r k : Nat) (A M : List (List Int)) (b : Int), Inv n B k A M b → k + r = n → b.natAbs < 2 ^ N → detOk r k M b
  | 0, k, A, M, b, h, hr, bb => ⟨N, N0, by omega, bb⟩
  | r + 1, k, A, M, b, h, hr, bb => by
    have lA := h.lA
    have lM := h.lM
    refine ⟨fun R hR => by rw [h.wd R hR]; omega, fun hp => ?_⟩
    have hge := pivL_ge M k
    have hle := pivL_le (M := M) (k := k) (by omega)
    have hat := pivL_at (M := M) (k := k) (by omega) hp
    have same : ∀ N : List (List Int), N.length = n → at_ (clrL N k b) k k = at_ N k k := by
      intro N hN
      unfold at_
      rw [getD_clr k (by omega) (by omega), if_pos (Nat.le_refl _)]
    by_cases hgt : k < pivL M k
    · rw [swp_gt rfl hgt, same _ (by rw [swapL_len]; exact lM)]
      have hs := h.swap hgt (show pivL M k < n by omega)
      have := hs.step (by omega) hB (by
        unfold at_
        rw [getD_sw M k _ k (by omega) (by omega), if_neg (by omega), if_pos rfl]
        exact hat)
      exact ⟨⟨N, hs.cl (by omega) hn hN N9 N0 bb⟩, detOk_go hB hn hN N9 N0 r (k + 1) _ _ _ this (by omega) (Nat.lt_of_le_of_lt (hs.sM _ (mem_getD (by have := hs.lM; omega)) k) hN)⟩
    · have he : pivL M k = k := by omega
      rw [he] at hat
      rw [swp_eq he, same _ lM]
      exact ⟨⟨N, h.cl (by omega) hn hN N9 N0 bb⟩, detOk_go hB hn hN N9 N0 r (k + 1) _ _ _ (h.step (by omega) hB hat) (by omega) (Nat.lt_of_le_of_lt (h.sM _ (mem_getD (by omega)) k) hN)⟩
theorem detOk_of {n B N : Nat} {A : List (List Int)} (lA : A.length = n) (wd : ∀ R ∈ A, R.length = n) (sA : ∀ R ∈ A, ∀ j, (cf R j).natAbs ≤ B) (hB : 1 ≤ B) (hn : n ≤ 100000) (hN : (n * B) ^ n < 2 ^ N) (N9 : N ≤ 9000) (N0 : 0 < N) : detOk A.length 0 A 1 := by
  have one : (1 : Int).natAbs < 2 ^ N := by
    show 1 < 2 ^ N
    exact Nat.one_lt_two_pow (by omega)
  by_cases h0 : n = 0
  · subst h0
    rw [lA]
    exact ⟨N, N0, by omega, one⟩
  · have hB' : 1 ≤ n * B := Nat.mul_le_mul (show 1 ≤ n by omega) hB
    rw [lA]
    exact detOk_go hB' hn hN N9 N0 n 0 A A 1 (Inv.start lA wd sA hB' (by omega)) (by omega) one
/-- the product along the slant -/
def pd (M : List (List Int)) : Nat → Int
  | 0 => 1
  | k + 1 => pd M k * at_ M k k
theorem D_tri {M : List (List Int)} {n : Nat} (hl : M.length = n) (h : ∀ i, i < n → ∀ j, j < i → at_ M i j = 0) : ∀ k, k ≤ n → D (List.range k) ((M.take k).map cf) = pd M k
  | 0, _ => by simp [D, pd]
  | k + 1, hk => by
    rw [take_one (by omega), List.range_succ, block [k] _ (List.range k) _ (by rw [List.length_map, List.length_take, List.length_range]; omega) (fun u hu c hc => by
      rw [List.mem_singleton] at hu
      subst hu
      exact h k (by omega) c (List.mem_range.mp hc)), D_tri hl h k (by omega), one]
    rfl
theorem swapL_comm (M : List (List Int)) {i j : Nat} (h : i ≠ j) : swapL M i j = swapL M j i := by
  unfold swapL
  rw [List.set_comm _ _ h]
theorem D_swap' {A : List (List Int)} {i j : Nat} (h : i ≠ j) (hi : i < A.length) (hj : j < A.length) (cs : List Nat) : D cs ((swapL A i j).map cf) = - D cs (A.map cf) := by
  rcases Nat.lt_or_gt_of_ne h with h | h
  · exact D_swap h hj cs
  · rw [swapL_comm _ (by omega)]
    exact D_swap h hi cs
/-- a row with so many times another one added -/
def addRow (n : Nat) (R S : List Int) (m : Int) : List Int := (List.range n).map fun k => cf R k + m * cf S k
theorem cf_addRow {n : Nat} {R S : List Int} (m : Int) (hR : R.length = n) (hS : S.length = n) : cf (addRow n R S m) = fun j => cf R j + m * cf S j := by
  funext j
  by_cases h : j < n
  · exact cf_some (by unfold addRow; rw [List.getElem?_map, List.getElem?_range h]; rfl)
  · rw [cf_beyond (P := addRow n R S m) (by unfold addRow; rw [List.length_map, List.length_range]; omega), cf_beyond (P := R) (by omega), cf_beyond (P := S) (by omega)]
    simp
theorem D_add {A : List (List Int)} {n i j : Nat} (wd : ∀ R ∈ A, R.length = n) (h : i ≠ j) (hi : i < A.length) (hj : j < A.length) (m : Int) (cs : List Nat) : D cs ((A.set i (addRow n (A.getD i []) (A.getD j []) m)).map cf) = D cs (A.map cf) := by
  have hR := wd _ (mem_getD hi)
  have hS := wd _ (mem_getD hj)
  rcases Nat.lt_or_gt_of_ne h with h | h
  · obtain ⟨a, r, b, s, c, e, h1, h2⟩ := split2 A i j h hj
    have e1 : A.getD i [] = r := by
      rw [e, List.getD_eq_getElem?_getD, List.getElem?_append_right (by omega), h1, Nat.sub_self]; rfl
    have e2 : A.getD j [] = s := by
      rw [e, ← h2, List.getD_eq_getElem?_getD, List.getElem?_append_right (by omega), show a.length + (1 + b.length) - a.length = b.length + 1 by omega, List.getElem?_cons_succ, List.getElem?_append_right (by omega), Nat.sub_self]; rfl
    rw [e1] at hR ⊢
    rw [e2] at hS ⊢
    have e3 : A.set i (addRow n r s m) = a ++ addRow n r s m :: (b ++ s :: c) := by
      rw [e, ← h1, List.set_append_right _ _ (Nat.le_refl _), Nat.sub_self, List.set_cons_zero]
    rw [e3, e]
    simp only [List.map_append, List.map_cons]
    rw [cf_addRow m hR hS, add_after]
  · obtain ⟨a, s, b, r, c, e, h1, h2⟩ := split2 A j i h hi
    have e1 : A.getD j [] = s := by
      rw [e, List.getD_eq_getElem?_getD, List.getElem?_append_right (by omega), h1, Nat.sub_self]; rfl
    have e2 : A.getD i [] = r := by
      rw [e, ← h2, List.getD_eq_getElem?_getD, List.getElem?_append_right (by omega), show a.length + (1 + b.length) - a.length = b.length + 1 by omega, List.getElem?_cons_succ, List.getElem?_append_right (by omega), Nat.sub_self]; rfl
    rw [e1] at hS ⊢
    rw [e2] at hR ⊢
    have e3 : A.set i (addRow n r s m) = a ++ s :: (b ++ addRow n r s m :: c) := by
      rw [e, ← h2, List.set_append_right _ _ (by omega), show a.length + (1 + b.length) - a.length = b.length + 1 by omega, List.set_cons_succ, List.set_append_right _ _ (by omega), Nat.sub_self, List.set_cons_zero]
    rw [e3, e]
    simp only [List.map_append, List.map_cons]
    rw [cf_addRow m hR hS, add_before]
end DT

set_option linter.all false
set_option maxRecDepth 100000
set_option maxHeartbeats 4000000
set_option exponentiation.threshold 100000
namespace RP
open PySem PySem.Spec PyProof.Rows L2 RB
open Evl (Ex rLenS rListS rMax2 tCut pss_cut)
local macro_rules | `(tactic| walk_at "ir") => `(tactic| first
  | assumption
  | exact IsR.ex (by assumption) (by walk_at "ir"))
local macro_rules | `(tactic| walk_at "hp") => `(tactic| first
  | assumption
  | exact hx_e (by assumption) (by walk_at "hp")
  | exact hx_b (by assumption) (by walk_at "ne") (by walk_at "hp"))
local macro_rules | `(tactic| walk_at "ne") => `(tactic| first
  | assumption
  | exact Ne.symm (by assumption)
  | exact ne_1 (by assumption) (by walk_at "hp")
  | exact ne_2 (by assumption) (by walk_at "hp"))
local macro_rules | `(tactic| walk_at "sq") => `(tactic| first
  | assumption
  | exact Fx.l (by assumption) (by assumption)
  | exact Evl.Ex.l (by assumption) (by assumption)
  | exact SqL.inj (by walk_at "hp"))
local macro_rules | `(tactic| walk_at "rd") => `(tactic| repeat (first
  | with_reducible refine r_seq ?_
  | with_reducible refine r_asg ?_
  | with_reducible refine r_gn ?_
  | ((with_reducible refine' r_var ?h ?_); (case h => exact rfl))
  | with_reducible refine r_c ?_
  | with_reducible refine r_op ?_
  | with_reducible refine r_un ?_
  | with_reducible refine r_add ?_
  | with_reducible refine r_sub ?_
  | ((with_reducible refine' r_pow ?h ?_); (case h => exact ⟨by decide, by decide, by decide⟩))
  | ((with_reducible refine' r_mod ?h ?_); (case h => first | decide | omega))
  | ((with_reducible refine' r_div ?h ?_); (case h => exact ⟨by decide, by decide⟩))
  | with_reducible refine r_lc ?_
  | ((with_reducible refine' r_cListA ?h ?_); (case h => walk_at "sq"))
  | with_reducible refine r_lt ?_
  | with_reducible refine r_le ?_
  | with_reducible refine r_gt ?_
  | with_reducible refine r_ge ?_
  | with_reducible refine r_eqI ?_
  | with_reducible refine r_neI ?_
  | with_reducible refine r_eqB ?_
  | with_reducible refine r_eqS ?_
  | with_reducible refine r_neg ?_
  | with_reducible refine r_ret ?_
  | with_reducible refine r_ifS ?_
  | with_reducible refine r_test ?_
  | with_reducible refine r_B ?_
  | with_reducible refine r_bl ?_
  | with_reducible refine r_int ?_
  | with_reducible refine r_cb ?_
  | with_reducible refine r_cons ?_
  | with_reducible refine r_nil ?_
  | with_reducible refine r_abs ?_
  | with_reducible refine r_max2 ?_
  | with_reducible refine r_min2 ?_
  | ((with_reducible refine' r_lenI ?h ?_); (case h => walk_at "sq"))
  | ((with_reducible refine' r_len ?h ?_); (case h => walk_at "sq"))
  | with_reducible refine r_tru ?_
  | with_reducible refine r_rev ?_
  | with_reducible refine r_iRng3 ?_
  | ((with_reducible refine' r_ixL ?h ?a ?_); (case h => walk_at "sq"); (case a => assumption))
  | ((with_reducible refine' r_ixT ?h ?a ?_); (case h => walk_at "sq"); (case a => assumption))
  | with_reducible refine r_intI ?_
  | with_reducible refine r_intB ?_
  | with_reducible refine r_call ?_
  | with_reducible refine r_lst ?_
  | with_reducible refine r_tup ?_
  | with_reducible refine r_drop ?_
  | with_reducible refine r_and ?_
  | with_reducible refine r_or ?_
  | with_reducible refine r_not ?_
  | with_reducible refine r_andV ?_
  | with_reducible refine r_orV ?_
  | with_reducible refine r_notV ?_
  | with_reducible refine r_if ?_
  | with_reducible refine r_bm ?_
  | with_reducible refine r_bm0 ?_
  | with_reducible refine r_sub_ ?_
  | with_reducible refine r_sl ?_
  | with_reducible refine r_part ?_
  | with_reducible refine r_nopart ?_
  | with_reducible refine r_par ?_
  | with_reducible refine r_par2 ?_
  | with_reducible refine r_for ?_
  | with_reducible refine r_iList ?_
  | ((with_reducible refine' r_iListA ?h ?_); (case h => walk_at "sq"))
  | with_reducible refine r_iTup ?_
  | ((with_reducible refine' r_iTupA ?h ?_); (case h => walk_at "sq"))
  | with_reducible refine r_iRng1 ?_
  | with_reducible refine r_iRng2 ?_
  | with_reducible refine r_iRev ?_
  | ((with_reducible refine' r_iRevA ?h ?_); (case h => walk_at "sq"))
  | with_reducible refine r_iEnum ?_
  | ((with_reducible refine' r_iEnumA ?h ?_); (case h => walk_at "sq"))
  | with_reducible refine r_iRevR ?_
  | with_reducible refine r_rg1 ?_
  | with_reducible refine r_make ?_
  | with_reducible refine r_fld ?_
  | with_reducible refine r_sfld ?_
  | with_reducible refine r_meth ?_
  | ((with_reducible refine' r_top ?c ?n ?h ?_); (case c => assumption); (case n => assumption); (case h => walk_at "ir"))
  | ((with_reducible refine' r_bottom ?c ?n ?h ?_); (case c => assumption); (case n => assumption); (case h => walk_at "ir"))
  | ((with_reducible refine' r_methR ?h ?h1 ?h2 ?_); (case h => walk_at "ir"); (case h1 => decide +kernel); (case h2 => decide +kernel))
  | with_reducible refine r_next ?_
  | ((with_reducible refine' r_ty ?h ?_); (case h => exact tyL (by walk_at "hp")))
  | with_reducible refine i_t ?_
  | with_reducible refine i_f ?_
  | with_reducible refine i_nt ?_
  | with_reducible refine i_nf ?_
  | walk_at "call"))
/-! #### pivot_at -/
--USE MT RN
def sp_pivot_at (K : PySem.W.Frag) (Cof : String → Addr) : Sp := fun vs H Q _ => ∃ (a : Addr) (ps : List Addr) (M : List (List Int)) (k : Nat), vs = [.ref a, .int (k : Int)] ∧ SqL K H a (ps.map V.ref) ∧ Rws H ps M ∧ k ≤ M.length ∧ M.length ≤ 100000 ∧ (∀ R ∈ M, k < R.length) ∧ Q (.int (MT.pivL M k : Nat)) H
def t_pivot_at (K : PySem.W.Frag) (Cof : String → Addr) (E : XK) : TS :=
  tSeq (tAsg (tVar 1) (gName 2))
  (tSeq (tWhile (tAnd (tTest (tOp rLt (tVar 2) (tCB (rLenS K) (tCons (tVar 0) (tNil))))) (tTest (tOp rEq (tOp (rIxL K) (tOp (rIxL K) (tVar 0) (tVar 2)) (tVar 1)) (tC (.int 0))))) (tAsg (tOp rIAdd (tVar 2) (tC (.int 1))) (gName 2)))
  (tRet (tVar 2)))

section
variable {K : PySem.W.Frag} {Cof : String → Addr} {vs : List V} {H : Hp} {Q : VK} {E : XK}
theorem len_pivot_at (h : sp_pivot_at K Cof vs H Q E) : vs.length = 2 := by
  obtain ⟨a, ps, M, k, rfl, _⟩ := h; rfl
/-- an item of a list of lists -/
theorem r_ixRow {p : Addr} {ps : List Addr} {M : List (List Int)} {i : Nat} (h : SqL K H p (ps.map V.ref)) (hW : Rws H ps M) (hi : i < M.length) (q : ∀ r, ps[i]? = some r → H r = some (.lst ((M.getD i []).map V.int)) → Q (.ref r) H) : rIxL K (.ref p) (.int (i : Int)) H Q := by
  have hl := hW.len
  have hr : ps[i]? = some ps[i] := List.getElem?_eq_getElem (by omega)
  obtain ⟨R, hR, hpR⟩ := hW.get hr
  have e : M.getD i [] = R := by rw [List.getD_eq_getElem?_getD, hR]; rfl
  refine r_ixL h (v := .ref ps[i]) (atI_nat (j := i) (by rw [List.getElem?_map, hr]; rfl)) (q _ hr (by rw [e]; exact hpR))
theorem rd_pivot_at (h : sp_pivot_at K Cof vs H Q E) : t_pivot_at K Cof E { nx := fun _ H' => Q .non H', rt := Q } (start ["rows", "at", "k"] vs) H := by
  obtain ⟨a, ps, M, k, rfl, hA, hW, hk, hl, hR, q⟩ := h
  have hlen := hW.len
  unfold t_pivot_at
  walk_at "rd"
  refine r_while (fun m σ' H' => ∃ j : Nat, σ' = [some (.ref a), some (.int (k : Int)), some (.int (j : Int))] ∧ H' = H ∧ m = M.length - j ∧ k ≤ j ∧ j ≤ M.length ∧ MT.pivL M k = j + ((M.drop j).takeWhile (fun R => decide (ML.cf R k = 0))).length) (M.length - k) ⟨k, rfl, rfl, rfl, Nat.le_refl _, hk, rfl⟩ (fun m σ' H' hw => ?_)
  obtain ⟨j, rfl, rfl, rfl, hj1, hj2, hp⟩ := hw
  walk_at "rd"
  try rw [List.length_map]
  refine ite_d (fun hlt => ?_) (fun hlt => ?_)
  · have hjl : j < M.length := by omega
    walk_at "rd"
    refine r_ixRow hA hW hjl fun r hr hpr => ?_
    have hm : M.getD j [] ∈ M := by
      rw [List.getD_eq_getElem?_getD, List.getElem?_eq_getElem hjl]
      exact List.getElem_mem hjl
    have hd : M.drop j = M.getD j [] :: M.drop (j + 1) := by
      rw [List.drop_eq_getElem_cons hjl, List.getD_eq_getElem?_getD, List.getElem?_eq_getElem hjl]; rfl
    walk_at "rd"
    refine r_ixI (SqL.inj hpr) (by omega) (by have := hR _ hm; omega) ?_
    rw [Int.toNat_natCast]
    walk_at "rd"
    refine ite_d (fun hz => wh_in ?_) (fun hz => ?_)
    · walk_at "rd"
      refine ⟨M.length - (j + 1), by omega, j + 1, by rw [Int.natCast_add]; rfl, rfl, rfl, by omega, by omega, ?_⟩
      rw [hp, hd, List.takeWhile_cons, if_pos (by exact decide_eq_true hz), List.length_cons]
      omega
    · walk_at "rd"
      have e : MT.pivL M k = j := by
        rw [hp, hd, List.takeWhile_cons, if_neg (by have hz' : ¬ ML.cf (M.getD j []) k = 0 := hz; rw [decide_eq_false hz']; decide)]; rfl
      rw [e] at q
      exact q
  · walk_at "rd"
    have e : MT.pivL M k = j := by
      rw [hp, List.drop_eq_nil_of_le (by omega)]; rfl
    rw [e] at q
    exact q
theorem c_pivot_at {a : Addr} {ps : List Addr} {M : List (List Int)} {k : Nat} (hA : SqL K H a (ps.map V.ref)) (hW : Rws H ps M) (hk : k ≤ M.length) (hl : M.length ≤ 100000) (hR : ∀ R ∈ M, k < R.length) (q : Q (.int (MT.pivL M k : Nat)) H) : sp_pivot_at K Cof [.ref a, .int (k : Int)] H Q E := ⟨a, ps, M, k, rfl, hA, hW, hk, hl, hR, q⟩
end

/-! #### cleared_rows -/
--USE MT RN MO
def sp_cleared_rows (K : PySem.W.Frag) (Cof : String → Addr) : Sp := fun vs H Q _ => ∃ (a : Addr) (ps : List Addr) (M : List (List Int)) (k n : Nat) (b : Int), vs = [.ref a, .int (k : Int), .int b] ∧ SqL K H a (ps.map V.ref) ∧ Rws H ps M ∧ ClSz n M k b ∧
  ∀ (D : Addr) (H' : Hp) (qs : List Addr), H D = none → Ex H H' → H' D = some (.lst (qs.map V.ref)) → Rws H' qs (MT.clrL M k b) → D ∉ qs → Q (.ref D) H'
def t_cleared_rows (K : PySem.W.Frag) (Cof : String → Addr) (E : XK) : TS :=
  tSeq (tAsg (tOp (rIxL K) (tVar 0) (tVar 1)) (gName 3))
  (tSeq (tAsg (tSl (rSlL K) (tVar 0) (tNoPart) (tPart (tOp rIAdd (tVar 1) (tC (.int 1))))) (gName 4))
  (tSeq (tFor (iList K (tSl (rSlL K) (tVar 0) (tPart (tOp rIAdd (tVar 1) (tC (.int 1)))) (tNoPart))) (gName 5) (tDrop (tBM K "list" rAppend (tVar 4) (tCons (tLc (iRng1 (tCons (tCB (rLenS K) (tCons (tVar 5) (tNil))) (tNil))) (gName 6) (tYes) (tOp rDiv (tOp rISub (tOp rMul (tOp (rIxL K) (tVar 3) (tVar 1)) (tOp (rIxL K) (tVar 5) (tVar 6))) (tOp rMul (tOp (rIxL K) (tVar 5) (tVar 1)) (tOp (rIxL K) (tVar 3) (tVar 6)))) (tVar 2)) [6]) (tNil)))))
  (tRet (tVar 4))))

section
variable {K : PySem.W.Frag} {Cof : String → Addr} {vs : List V} {H : Hp} {Q : VK} {E : XK}
theorem len_cleared_rows (h : sp_cleared_rows K Cof vs H Q E) : vs.length = 3 := by
  obtain ⟨a, ps, M, k, n, b, rfl, _⟩ := h; rfl
theorem rws_drop {H : Hp} : ∀ (n : Nat) {ps : List Addr} {Rs : List (List Int)}, Rws H ps Rs → Rws H (ps.drop n) (Rs.drop n)
  | 0, _, _, h => h
  | n + 1, [], [], _ => trivial
  | n + 1, p :: ps, R :: Rs, h => rws_drop n h.2
theorem cutV_from {xs : List V} {k : Nat} (h : k ≤ xs.length) : cutV xs (some (k : Int)) none = xs.drop k := by
  unfold cutV
  rw [HT.sIx_none, HT.sIx_nat, Nat.min_eq_left h, List.take_of_length_le (by rw [List.length_drop]; omega)]
theorem rd_cleared_rows (h : sp_cleared_rows K Cof vs H Q E) : t_cleared_rows K Cof E { nx := fun _ H' => Q .non H', rt := Q } (start ["rows", "at", "before", "top", "done", "row", "j"] vs) H := by
  obtain ⟨a, ps, M, k, n, b, rfl, hA, hW, s, q⟩ := h
  have hlen := hW.len
  have k0 := s.k0
  have kw := s.kw
  have lw := s.lw
  have ln := s.ln
  have n9 := s.n9
  unfold t_cleared_rows
  walk_at "rd"
  refine r_ixRow hA hW s.k0 fun r hr hpr => ?_
  have ek : (k : Int) + 1 = ((k + 1 : Nat) : Int) := by omega
  walk_at "rd"
  rw [ek]
  refine r_slL hA fun p1 H1 hp1 e1 h1 => ?_
  rw [cutV_to (by omega), Int.toNat_natCast, ← List.map_take] at h1
  have hW1 := hW.ex e1
  have hA1 := e1.l hA
  have hpr1 := e1 _ _ hpr
  have hmk : M.getD k [] ∈ M := by
    rw [List.getD_eq_getElem?_getD, List.getElem?_eq_getElem s.k0]
    exact List.getElem_mem s.k0
  have sT := s.sz _ hmk
  have hb9 : CDivA 0 b := ⟨s.b0, s.b9⟩
  generalize eT : M.getD k [] = T at hpr1 sT kw lw
  walk_at "rd"
  rw [ek]
  refine r_slL hA1 fun p2 H2 hp2 e2 h2 => ?_
  rw [cutV_from (by rw [List.length_map]; omega), ← List.map_drop] at h2
  have h1' := e2 _ _ h1
  have hD2 := rws_drop (k + 1) (hW1.ex e2)
  have hT2 := (hW1.ex e2).take (k + 1)
  have n1 : p1 ∉ ps.take (k + 1) := fun h => Rws.notin hp1 hW (List.mem_of_mem_take h)
  have n1d : p1 ∉ ps.drop (k + 1) := fun h => Rws.notin hp1 hW (List.mem_of_mem_drop h)
  have n12 : p2 ≠ p1 := fun z => by rw [z, h1] at hp2; cases hp2
  have hprt : H2 r = some (.lst (T.map V.int)) := e2 _ _ hpr1
  have nr : r ≠ p1 := fun z => by rw [z, hp1] at hpr; cases hpr
  walk_at "rd"
  refine loop_list (xs := (ps.drop (k + 1)).map V.ref) (fun i σ' H' => ∃ (qs : List Addr) (u5 : Option V), σ' = [some (.ref a), some (.int (k : Int)), some (.int b), some (.ref r), some (.ref p1), u5, none] ∧ Exb p1 H2 H' ∧ Ex H H' ∧ H' p1 = some (.lst ((ps.take (k + 1) ++ qs).map V.ref)) ∧ Rws H' qs (((M.drop (k + 1)).take i).map (MT.clrRow T k b)) ∧ p1 ∉ qs ∧ qs.length ≤ i) ⟨[], _, rfl, fun _ _ _ h => h, e1.trans e2, by rw [List.append_nil]; exact h1', trivial, (fun h => by cases h), Nat.le_refl _⟩ (fun i σ' H' _ hp => ?_) (fun i x σ' H' hx hp => ?_) (fun σ' H' hp => ?_)
  · obtain ⟨qs, u5, rfl, x1, _⟩ := hp
    exact SqL.inj (x1 _ n12 _ h2)
  · obtain ⟨qs, u5, rfl, x1, x2, x3, x4, x5, x6⟩ := hp
    rw [List.getElem?_map] at hx
    obtain ⟨p, hp, rfl⟩ := Option.map_eq_some_iff.mp hx
    obtain ⟨R, hR, hpR⟩ := hD2.get hp
    have hRM : R ∈ M := List.mem_of_mem_drop (List.mem_of_getElem? hR)
    have np : p ≠ p1 := fun z => n1d (by rw [← z]; exact List.mem_of_getElem? hp)
    have hpR' := x1 _ np _ hpR
    have hrT := x1 _ nr _ hprt
    have sR := s.sz R hRM
    have lR := s.wd R hRM
    rw [eT] at lR
    have hi : i < (ps.drop (k + 1)).length := (List.getElem?_eq_some_iff.mp hp).1
    rw [List.length_drop] at hi
    walk_at "rd"
    try rw [List.length_map]
    refine r_cRng1A (by omega) (by omega) ?_
    rw [Int.toNat_natCast]
    refine lc_rangeI (fun j => (ML.cf T k * ML.cf R j - ML.cf R k * ML.cf T j).fdiv b) (by omega) (fun j hj H3 e3 Q' k' => ?_) fun p3 H3 hp3 e3 h3 => ?_
    · have hT3 := e3 _ _ hrT
      have hR3 := e3 _ _ hpR'
      walk_at "rd"
      refine r_ixI (ns := T) (SqL.inj hT3) (by omega) (by omega) ?_
      walk_at "rd"
      refine r_ixI (ns := R) (SqL.inj hR3) (by omega) (by omega) ?_
      rw [Int.toNat_natCast, Int.toNat_natCast]
      refine r_mul (wide_mul (sT.cf k) (sR.cf j) s.n0 s.n0 (by omega)) ?_
      walk_at "rd"
      refine r_ixI (ns := R) (SqL.inj hR3) (by omega) (by omega) ?_
      walk_at "rd"
      refine r_ixI (ns := T) (SqL.inj hT3) (by omega) (by omega) ?_
      rw [Int.toNat_natCast, Int.toNat_natCast]
      refine r_mul (wide_mul (sR.cf k) (sT.cf j) s.n0 s.n0 (by omega)) ?_
      walk_at "rd"
      refine r_div hb9 ?_
      exact k' _ (Evl.Ex.refl _)
    have x3' := e3 _ _ x3
    have n3 : p3 ≠ p1 := fun z => by rw [z, x3] at hp3; cases hp3
    walk_at "rd"
    refine r_append x3' (by
      rw [List.length_map, List.length_append, List.length_take]
      exact small_lt (by omega)) fun H4 b4 h4 => ?_
    have fb : H p1 = none := hp1
    refine ⟨qs ++ [p3], _, rfl, (x1.ex e3).trans b4, Evl.Ex.mutb (x2.trans e3) b4 fb, by rw [h4, ← List.append_assoc, List.map_append (l₁ := ps.take (k + 1) ++ qs)]; rfl, ?_, ?_, by simp; omega⟩
    · rw [List.take_add_one, hR, List.map_append]
      exact Rws.append ((x4.ex e3).exb b4 x5) ⟨b4 _ n3 _ h3, trivial⟩
    · intro h
      rcases List.mem_append.mp h with h | h
      · exact x5 h
      · rw [List.mem_singleton] at h
        exact n3 h.symm
  · obtain ⟨qs, u5, rfl, x1, x2, x3, x4, x5, x6⟩ := hp
    walk_at "rd"
    have el : (ps.drop (k + 1)).length = (M.drop (k + 1)).length := by rw [List.length_drop, List.length_drop, hlen]
    rw [List.length_map, el, List.take_length] at x4
    refine q p1 H' (ps.take (k + 1) ++ qs) hp1 x2 x3 ?_ ?_
    · unfold MT.clrL
      rw [eT]
      exact Rws.append (hT2.exb x1 n1) x4
    · intro h
      rcases List.mem_append.mp h with h | h
      · exact n1 h
      · exact x5 h
theorem c_cleared_rows {a : Addr} {ps : List Addr} {M : List (List Int)} {k : Nat} {b : Int} (n : Nat) (hA : SqL K H a (ps.map V.ref)) (hW : Rws H ps M) (s : ClSz n M k b) (q : ∀ (D : Addr) (H' : Hp) (qs : List Addr), H D = none → Ex H H' → H' D = some (.lst (qs.map V.ref)) → Rws H' qs (MT.clrL M k b) → D ∉ qs → Q (.ref D) H') : sp_cleared_rows K Cof [.ref a, .int (k : Int), .int b] H Q E := ⟨a, ps, M, k, n, b, rfl, hA, hW, s, q⟩
end

/-! #### determinant -/
--USE MT RN MO
def sp_determinant (K : PySem.W.Frag) (Cof : String → Addr) : Sp := fun vs H Q _ => ∃ (a : Addr) (ps : List Addr) (M : List (List Int)), vs = [.ref a] ∧ SqL K H a (ps.map V.ref) ∧ Rws H ps M ∧ M.length ≤ 100000 ∧ detOk M.length 0 M 1 ∧ ∀ H', Ex H H' → Q (.int (MT.detL M)) H'
def t_determinant (K : PySem.W.Frag) (Cof : String → Addr) (E : XK) : TS :=
  tSeq (tAsg (tLc (iList K (tVar 0)) (gName 2) (tYes) (tCB (rListS K) (tCons (tVar 2) (tNil))) [2]) (gName 1))
  (tSeq (tAsg (tC (.int 1)) (gName 3))
  (tSeq (tAsg (tC (.int 1)) (gName 4))
  (tSeq (tFor (iRng1 (tCons (tCB (rLenS K) (tCons (tVar 0) (tNil))) (tNil))) (gName 5) (tSeq (tAsg (tCall (sp_pivot_at K Cof) [] E0 (tCons (tVar 1) (tCons (tVar 5) (tNil)))) (gName 6))
  (tSeq (tIfS (tTest (tOp rEq (tVar 6) (tCB (rLenS K) (tCons (tVar 0) (tNil))))) (tRet (tC (.int 0))) (tNext))
  (tCut (tIfS (tTest (tOp rGt (tVar 6) (tVar 5))) (tSeq (tAsg (tOp (rIxL K) (tVar 1) (tVar 5)) (gName 7))
  (tSeq (tAsg (tOp (rIxL K) (tVar 1) (tVar 6)) (gSub (tVar 1) (tVar 5) rSetL))
  (tSeq (tAsg (tVar 7) (gSub (tVar 1) (tVar 6) rSetL))
  (tAsg (tUn rNeg (tVar 3)) (gName 3))))) (tNext))
  (tSeq (tAsg (tCall (sp_cleared_rows K Cof) [] E0 (tCons (tVar 1) (tCons (tVar 5) (tCons (tVar 4) (tNil))))) (gName 1))
  (tAsg (tOp (rIxL K) (tOp (rIxL K) (tVar 1) (tVar 5)) (tVar 5)) (gName 4)))))))
  (tRet (tOp rMul (tVar 3) (tVar 4))))))

section
variable {K : PySem.W.Frag} {Cof : String → Addr} {vs : List V} {H : Hp} {Q : VK} {E : XK}
theorem len_determinant (h : sp_determinant K Cof vs H Q E) : vs.length = 1 := by
  obtain ⟨a, ps, M, rfl, _⟩ := h; rfl
theorem r_setRow {p r : Addr} {ps : List Addr} {i : Nat} {H : Hp} {Q : Hp → Prop} (h : H p = some (.lst (ps.map V.ref))) (hi : i < ps.length) (q : ∀ H', Exb p H H' → H' p = some (.lst ((ps.set i r).map V.ref)) → Q H') : rSetL (.ref p) (.int (i : Int)) (.ref r) H Q :=
  r_setL h (Evl.ixN_nat (by rw [List.length_map]; exact hi)) fun H' b h' => q H' b (by rw [h', List.map_set])
theorem rd_determinant (h : sp_determinant K Cof vs H Q E) : t_determinant K Cof E { nx := fun _ H' => Q .non H', rt := Q } (start ["rows", "left", "row", "sign", "before", "at", "k", "kept"] vs) H := by
  obtain ⟨a, ps, M, rfl, hA, hW, hl, hok, q⟩ := h
  have hlen := hW.len
  unfold t_determinant
  walk_at "rd"
  refine lc_rowsN (fun R => R) hA hW (by omega) (fun p R H1 hR hpR e1 Q' k' => ?_) fun D H1 qs hD e1 h1 hW1 hn1 => ?_
  · walk_at "rd"
    refine r_list (SqL.inj hpR) fun l H9 hl9 e9 h9 => ?_
    exact k' l H9 hl9 e9 h9
  rw [show M.map (fun R => R) = M from List.map_id' M] at hW1
  have hA1 := e1.l hA
  walk_at "rd"
  try rw [List.length_map]
  refine r_iRng1A (by omega) (by omega) ?_
  rw [Int.toNat_natCast, hlen]
  refine loop_range0 (fun k σ' H' => ∃ (D : Addr) (qs : List Addr) (M' : List (List Int)) (s b : Int) (u2 u5 u6 u7 : Option V), σ' = [some (.ref a), some (.ref D), u2, some (.int s), some (.int b), u5, u6, u7] ∧ Ex H H' ∧ H D = none ∧ H' D = some (.lst (qs.map V.ref)) ∧ Rws H' qs M' ∧ D ∉ qs ∧ M'.length = M.length ∧ k ≤ M.length ∧ detOk (M.length - k) k M' b ∧ MT.detG (M.length - k) k M' s b = MT.detL M ∧ (s = 1 ∨ s = -1)) ⟨D, qs, M, 1, 1, _, _, _, _, rfl, e1, hD, h1, hW1, hn1, rfl, Nat.zero_le _, hok, rfl, .inl rfl⟩ (fun k σ' H' hk hp' => ?_) (fun σ' H' hp' => ?_)
  · clear hD h1 hW1 hn1 hok e1 hA1
    obtain ⟨D, qs, M', s, b, u2, u5, u6, u7, rfl, e1, hD, h1, hW1, hn1, hM', _, hok, hdet, hs⟩ := hp'
    obtain ⟨r, hr⟩ : ∃ r, M.length - k = r + 1 := ⟨M.length - k - 1, by omega⟩
    have hr' : M.length - (k + 1) = r := by omega
    rw [hr] at hok hdet
    rw [hr']
    obtain ⟨hwd, hok⟩ := hok
    have hA1 := e1.l hA
    have hql := hW1.len
    walk_at "rd"
    refine c_pivot_at (SqL.inj h1) hW1 (by omega) (by omega) hwd ?_
    have hdet' : (if MT.pivL M' k = M'.length then 0 else MT.detG r (k + 1) (MT.clrL (MT.swp M' k) k b) (MT.sgn_ M' k s) (MT.at_ (MT.clrL (MT.swp M' k) k b) k k)) = MT.detL M := hdet
    walk_at "rd"
    try rw [List.length_map]
    refine ite_d (fun hz => ?_) (fun hz => ?_)
    · walk_at "rd"
      have hp0 : MT.pivL M' k = M'.length := by omega
      rw [if_pos hp0] at hdet'
      rw [hdet']
      exact q _ e1
    have hp0 : MT.pivL M' k ≠ M'.length := by omega
    have hpg := MT.pivL_ge M' k
    have hpl := MT.pivL_le (M := M') (k := k) (by omega)
    rw [if_neg hp0] at hdet'
    obtain ⟨⟨n, hcl⟩, hok⟩ := hok hp0
    walk_at "rd"
    refine ⟨fun σ2 H2 => ∃ (qs2 : List Addr) (v7 : Option V), σ2 = [some (.ref a), some (.ref D), u2, some (.int (MT.sgn_ M' k s)), some (.int b), some (.int (k : Int)), some (.int (MT.pivL M' k : Nat)), v7] ∧ Ex H H2 ∧ H2 D = some (.lst (qs2.map V.ref)) ∧ Rws H2 qs2 (MT.swp M' k) ∧ D ∉ qs2, ?_, fun σ2 H2 hM => ?_⟩
    · walk_at "rd"
      refine ite_d (fun hgt => ?_) (fun hgt => ?_)
      · have hgt' : MT.pivL M' k > k := by omega
        walk_at "rd"
        refine r_ixRow (SqL.inj h1) hW1 (i := k) (by omega) fun r1 hr1 hpr1 => ?_
        walk_at "rd"
        refine r_ixRow (SqL.inj h1) hW1 (i := MT.pivL M' k) (by omega) fun r2 hr2 hpr2 => ?_
        have m1 := List.mem_of_getElem? hr1
        have m2 := List.mem_of_getElem? hr2
        walk_at "rd"
        refine r_setRow h1 (by omega) fun H3 b3 h3 => ?_
        walk_at "rd"
        refine r_setRow h3 (by rw [List.length_set]; omega) fun H4 b4 h4 => ?_
        walk_at "rd"
        have b34 := b3.trans b4
        have nd1 : r1 ≠ D := fun z => hn1 (by rw [← z]; exact m1)
        have nd2 : r2 ≠ D := fun z => hn1 (by rw [← z]; exact m2)
        refine ⟨_, some (.ref r1), ?_, Evl.Ex.mutb e1 b34 hD, h4, ?_, ?_⟩
        · unfold MT.sgn_; rw [if_pos hgt']; rfl
        · unfold MT.swp
          rw [if_pos hgt']
          unfold MT.swapL
          exact Rws.set (b34 _ nd1 _ hpr1) _ (Rws.set (b34 _ nd2 _ hpr2) _ (hW1.exb b34 hn1))
        · intro h
          rcases List.mem_or_eq_of_mem_set h with h | h
          · rcases List.mem_or_eq_of_mem_set h with h | h
            · exact hn1 h
            · exact nd2 h.symm
          · exact nd1 h.symm
      · walk_at "rd"
        have hgt' : ¬ MT.pivL M' k > k := by omega
        refine ⟨qs, u7, ?_, e1, h1, ?_, hn1⟩
        · unfold MT.sgn_; rw [if_neg hgt']; rfl
        · unfold MT.swp; rw [if_neg hgt']; exact hW1
    obtain ⟨qs2, v7, rfl, e2, h2, hW2, hn2⟩ := hM
    walk_at "rd"
    refine c_cleared_rows n (SqL.inj h2) hW2 hcl fun D2 H3 qs3 hD2 e3 h3 hW3 hn3 => ?_
    have lcl : (MT.clrL (MT.swp M' k) k b).length = M.length := by rw [MT.clrL_len, MT.swp_len, hM']
    walk_at "rd"
    refine r_ixRow (SqL.inj h3) hW3 (i := k) (by omega) fun r1 hr1 hpr1 => ?_
    walk_at "rd"
    have hkw : k < ((MT.clrL (MT.swp M' k) k b).getD k []).length := by
      have hk0 := hcl.k0
      have e : (MT.clrL (MT.swp M' k) k b).getD k [] = (MT.swp M' k).getD k [] := by
        unfold MT.clrL
        rw [List.getD_eq_getElem?_getD, List.getD_eq_getElem?_getD, List.getElem?_append_left (by rw [List.length_take]; omega), List.getElem?_take, if_pos (by omega)]
      rw [e]; exact hcl.kw
    refine r_ixI (SqL.inj hpr1) (by omega) (by omega) ?_
    rw [Int.toNat_natCast]
    walk_at "rd"
    refine ⟨D2, qs3, MT.clrL (MT.swp M' k) k b, MT.sgn_ M' k s, MT.at_ (MT.clrL (MT.swp M' k) k b) k k, _, _, _, _, rfl, e2.trans e3, Evl.fresh_back e2 hD2, h3, hW3, hn3, lcl, by omega, hok, hdet', ?_⟩
    unfold MT.sgn_
    split <;> omega
  · obtain ⟨D, qs, M', s, b, u2, u5, u6, u7, rfl, e1, hD, h1, hW1, hn1, hM', _, hok, hdet, hs⟩ := hp'
    rw [Nat.sub_self] at hok hdet
    obtain ⟨n, n0, n9, hb⟩ := hok
    have hs' : s.natAbs < 2 ^ 1 := by omega
    walk_at "rd"
    refine r_mul (wide_mul hs' hb (by decide) n0 (by omega)) ?_
    have e : s * b = MT.detL M := hdet
    rw [e]
    exact q _ e1
theorem c_determinant {a : Addr} {ps : List Addr} {M : List (List Int)} (hA : SqL K H a (ps.map V.ref)) (hW : Rws H ps M) (hl : M.length ≤ 100000) (hok : detOk M.length 0 M 1) (q : ∀ H', Ex H H' → Q (.int (MT.detL M)) H') : sp_determinant K Cof [.ref a] H Q E := ⟨a, ps, M, rfl, hA, hW, hl, hok, q⟩
end

/-! #### _law_cell_at -/
/-- the k-th cell, 0 beyond the last one -/
def cellOf (ns : List Int) (k : Int) : Int := ns.getD k.toNat 0
def sp__law_cell_at (K : PySem.W.Frag) (Cof : String → Addr) : Sp := fun vs H Q _ => ∃ (a : Addr) (ns : List Int) (k : Int), vs = [.ref a, .int k] ∧ SqL K H a (ns.map V.int) ∧ 0 ≤ k ∧ Q (.int (cellOf ns k)) H
def t__law_cell_at (K : PySem.W.Frag) (Cof : String → Addr) (E : XK) : TS :=
  tSeq (tIfS (tTest (tOp rLt (tVar 1) (tCB (rLenS K) (tCons (tVar 0) (tNil))))) (tRet (tOp (rIxL K) (tVar 0) (tVar 1))) (tNext))
  (tRet (tC (.int 0)))

section
variable {K : PySem.W.Frag} {Cof : String → Addr} {vs : List V} {H : Hp} {Q : VK} {E : XK}
theorem len__law_cell_at (h : sp__law_cell_at K Cof vs H Q E) : vs.length = 2 := by
  obtain ⟨a, ns, k, rfl, _⟩ := h; rfl
theorem rd__law_cell_at (h : sp__law_cell_at K Cof vs H Q E) : t__law_cell_at K Cof E { nx := fun _ H' => Q .non H', rt := Q } (start ["_law_script", "_law_k"] vs) H := by
  obtain ⟨a, ns, k, rfl, hS, h0, q⟩ := h
  obtain ⟨k, rfl⟩ : ∃ n : Nat, k = (n : Int) := ⟨k.toNat, by omega⟩
  unfold t__law_cell_at
  walk_at "rd"
  try rw [List.length_map]
  refine ite_d (fun h => ?_) (fun h => ?_)
  · walk_at "rd"
    have hk : k < ns.length := by omega
    exact r_ixI hS h0 h q
  · walk_at "rd"
    have e : cellOf ns k = 0 := by
      unfold cellOf
      rw [List.getD_eq_getElem?_getD, List.getElem?_eq_none (by omega)]; rfl
    rw [e] at q
    exact q
theorem c__law_cell_at {a : Addr} {ns : List Int} {k : Int} (h : SqL K H a (ns.map V.int)) (h0 : 0 ≤ k) (q : Q (.int (cellOf ns k)) H) : sp__law_cell_at K Cof [.ref a, .int k] H Q E := ⟨a, ns, k, rfl, h, h0, q⟩
end
local macro_rules | `(tactic| walk_at "call") => `(tactic| ((with_reducible refine' c__law_cell_at ?h ?h0 ?_); (case h => walk_at "sq"); (case h0 => first | decide | omega)))

/-! #### _law_whole -/
def sp__law_whole (K : PySem.W.Frag) (Cof : String → Addr) : Sp := fun vs H Q _ => ∃ i : Int, vs = [.int i] ∧ Q (.bl true) H
def t__law_whole (K : PySem.W.Frag) (Cof : String → Addr) (E : XK) : TS :=
  tRet (tAndV (tCB (rIsi K) (tCons (tVar 0) (tCons (tC (.ty "int")) (tNil)))) (tNotV (tCB (rIsi K) (tCons (tVar 0) (tCons (tC (.ty "bool")) (tNil))))))

section
variable {K : PySem.W.Frag} {Cof : String → Addr} {vs : List V} {H : Hp} {Q : VK} {E : XK}
theorem len__law_whole (h : sp__law_whole K Cof vs H Q E) : vs.length = 1 := by
  obtain ⟨i, rfl, _⟩ := h; rfl
theorem rd__law_whole (h : sp__law_whole K Cof vs H Q E) : t__law_whole K Cof E { nx := fun _ H' => Q .non H', rt := Q } (start ["_law_found"] vs) H := by
  obtain ⟨i, rfl, q⟩ := h
  unfold t__law_whole
  walk_at "rd"
  refine r_isi (.base (.int i)) (.ty _) (kit_ty (r := true) (by decide +kernel)) ?_
  walk_at "rd"
  refine r_isi (.base (.int i)) (.ty _) (kit_ty (r := false) (by decide +kernel)) ?_
  walk_at "rd"
  exact q
end
theorem c__law_whole {K : PySem.W.Frag} {Cof : String → Addr} {H : Hp} {Q : VK} {E : XK} {i : Int} (q : Q (.bl true) H) : sp__law_whole K Cof [.int i] H Q E := ⟨i, rfl, q⟩
local macro_rules | `(tactic| walk_at "call") => `(tactic| with_reducible refine c__law_whole ?_)

/-! #### _law_along -/
def sp__law_along (K : PySem.W.Frag) (Cof : String → Addr) : Sp := fun vs H Q _ => ∃ c i : Int, vs = [.int c, .int i] ∧ i.natAbs < 2 ^ 40 ∧ ∀ x : Int, x.natAbs < 2 ^ 41 → Q (.int x) H
def t__law_along (K : PySem.W.Frag) (Cof : String → Addr) (E : XK) : TS :=
  tSeq (tIfS (tTest (tOp rEq (tOp rMod (tVar 0) (tC (.int 3))) (tC (.int 1)))) (tRet (tOp rISub (tOp rMod (tOp rDiv (tVar 0) (tC (.int 3))) (tOp rIAdd (tOp rMul (tC (.int 2)) (tOp rPow (tC (.int 10)) (tC (.int 12)))) (tC (.int 1)))) (tOp rPow (tC (.int 10)) (tC (.int 12))))) (tNext))
  (tRet (tOp rISub (tOp rMod (tOp rIAdd (tOp rDiv (tVar 0) (tC (.int 3))) (tOp rMul (tC (.int 5)) (tVar 1))) (tC (.int 13))) (tC (.int 6))))

section
variable {K : PySem.W.Frag} {Cof : String → Addr} {vs : List V} {H : Hp} {Q : VK} {E : XK}
theorem len__law_along (h : sp__law_along K Cof vs H Q E) : vs.length = 2 := by
  obtain ⟨c, i, rfl, _⟩ := h; rfl
theorem rd__law_along (h : sp__law_along K Cof vs H Q E) : t__law_along K Cof E { nx := fun _ H' => Q .non H', rt := Q } (start ["_law_cell", "_law_at"] vs) H := by
  obtain ⟨c, i, rfl, hi, q⟩ := h
  unfold t__law_along
  have e12 : (10 : Int) ^ (12 : Int).toNat = 1000000000000 := by decide
  walk_at "rd"
  refine ite_d (fun _ => ?_) (fun _ => ?_)
  · walk_at "rd"
    refine r_mul (wide_mul (a := 2) (b := 41) (by decide) (by decide) (by decide) (by decide) (by decide)) ?_
    walk_at "rd"
    rw [e12]
    have d0 := Int.fmod_nonneg_of_pos (c.fdiv 3) (show (0 : Int) < 2 * 1000000000000 + 1 by decide)
    have d1 := Int.fmod_lt_of_pos (c.fdiv 3) (show (0 : Int) < 2 * 1000000000000 + 1 by decide)
    exact q _ (by omega)
  · walk_at "rd"
    refine r_mul (wide_mul (a := 3) (b := 40) (by decide) hi (by decide) (by decide) (by decide)) ?_
    walk_at "rd"
    have d0 := Int.fmod_nonneg_of_pos (c.fdiv 3 + 5 * i) (show (0 : Int) < 13 by decide)
    have d1 := Int.fmod_lt_of_pos (c.fdiv 3 + 5 * i) (show (0 : Int) < 13 by decide)
    exact q _ (by omega)
theorem c__law_along {c i : Int} (hi : i.natAbs < 2 ^ 40) (q : ∀ x : Int, x.natAbs < 2 ^ 41 → Q (.int x) H) : sp__law_along K Cof [.int c, .int i] H Q E := ⟨c, i, rfl, hi, q⟩
end

/-! #### _law_slanted -/
--USE MT RN MO DK
/-- rows with noughts below the slant -/
structure Slant (n k : Nat) (M : List (List Int)) : Prop where
  ln : M.length = k
  wd : ∀ R ∈ M, R.length = n
  sz : ∀ R ∈ M, ML.Sz 41 R
  z : ∀ i, i < k → ∀ j, j < i → MT.at_ M i j = 0
def sp__law_slanted (K : PySem.W.Frag) (Cof : String → Addr) : Sp := fun vs H Q _ => ∃ (a : Addr) (ns : List Int) (n : Nat), vs = [.ref a, .int (n : Int)] ∧ SqL K H a (ns.map V.int) ∧ ns.length ≤ 63 ∧ n ≤ 16 ∧
  ∀ (D : Addr) (H' : Hp) (ps : List Addr) (M : List (List Int)), H D = none → Ex H H' → H' D = some (.lst (ps.map V.ref)) → Rws H' ps M → D ∉ ps → Slant n n M → Q (.ref D) H'
def t__law_slanted (K : PySem.W.Frag) (Cof : String → Addr) (E : XK) : TS :=
  tSeq (tAsg (tLst (tNil)) (gName 2))
  (tSeq (tFor (iRng1 (tCons (tVar 1) (tNil))) (gName 3) (tSeq (tAsg (tOp rCat (tOp rRep (tLst (tCons (tC (.int 0)) (tNil))) (tVar 3)) (tLst (tCons (tCall (sp__law_along K Cof) [] E0 (tCons (tCall (sp__law_cell_at K Cof) [] E0 (tCons (tVar 0) (tCons (tOp rIAdd (tC (.int 1)) (tVar 3)) (tNil)))) (tCons (tVar 3) (tNil)))) (tNil)))) (gName 4))
  (tDrop (tBM K "list" rAppend (tVar 2) (tCons (tOp rCat (tVar 4) (tLc (iRng2 (tCons (tOp rIAdd (tVar 3) (tC (.int 1))) (tCons (tVar 1) (tNil)))) (gName 5) (tYes) (tOp rISub (tOp rMod (tOp rIAdd (tOp rIAdd (tCall (sp__law_cell_at K Cof) [] E0 (tCons (tVar 0) (tCons (tC (.int 0)) (tNil)))) (tOp rMul (tC (.int 7)) (tVar 3))) (tOp rMul (tC (.int 3)) (tVar 5))) (tC (.int 5))) (tC (.int 2))) [5])) (tNil))))))
  (tRet (tVar 2)))

section
variable {K : PySem.W.Frag} {Cof : String → Addr} {vs : List V} {H : Hp} {Q : VK} {E : XK}
theorem len__law_slanted (h : sp__law_slanted K Cof vs H Q E) : vs.length = 2 := by
  obtain ⟨a, ns, n, rfl, _⟩ := h; rfl
theorem Slant.snoc {n k : Nat} {M : List (List Int)} (h : Slant n k M) {x : Int} (hx : x.natAbs < 2 ^ 41) {f : Nat → Int} (hf : ∀ j, (f j).natAbs < 2 ^ 41) (hk : k < n) : Slant n (k + 1) (M ++ [List.replicate k 0 ++ [x] ++ (List.range (n - (k + 1))).map f]) := by
  have ln := h.ln
  refine ⟨by rw [List.length_append, List.length_singleton, ln], fun R hR => ?_, fun R hR => ?_, fun i hi j hj => ?_⟩
  · rcases List.mem_append.mp hR with hR | hR
    · exact h.wd R hR
    · rw [List.mem_singleton] at hR
      subst hR
      simp only [List.length_append, List.length_replicate, List.length_map, List.length_range, List.length_singleton]
      omega
  · rcases List.mem_append.mp hR with hR | hR
    · exact h.sz R hR
    · rw [List.mem_singleton] at hR
      subst hR
      intro y hy
      simp only [List.mem_append, List.mem_replicate, List.mem_singleton, List.mem_map] at hy
      rcases hy with (⟨_, rfl⟩ | rfl) | ⟨j, _, rfl⟩
      · exact Nat.two_pow_pos _
      · exact hx
      · exact hf j
  · unfold MT.at_
    by_cases hik : i < k
    · rw [List.getD_eq_getElem?_getD, List.getElem?_append_left (by omega), ← List.getD_eq_getElem?_getD]
      exact h.z i hik j hj
    · have e : i = k := by omega
      subst e
      rw [List.getD_eq_getElem?_getD, List.getElem?_append_right (by omega), ln, Nat.sub_self, List.append_assoc]
      show ML.cf (List.replicate i 0 ++ _) j = 0
      exact ML.cf_some (by rw [List.getElem?_append_left (by rw [List.length_replicate]; omega), List.getElem?_replicate, if_pos hj])
theorem rd__law_slanted (h : sp__law_slanted K Cof vs H Q E) : t__law_slanted K Cof E { nx := fun _ H' => Q .non H', rt := Q } (start ["_law_script", "_law_size_here", "_law_rows", "_law_i", "_law_row", "_law_j"] vs) H := by
  obtain ⟨a, ns, n, rfl, hS, hl, hn, q⟩ := h
  unfold t__law_slanted
  walk_at "rd"
  refine r_lstK fun D H1 hD e1 h1 => ?_
  walk_at "rd"
  refine r_iRng1A (by omega) (by omega) ?_
  rw [Int.toNat_natCast]
  refine loop_range0 (fun k σ' H' => ∃ (ps : List Addr) (M : List (List Int)) (u3 u4 : Option V), σ' = [some (.ref a), some (.int (n : Int)), some (.ref D), u3, u4, none] ∧ Ex H H' ∧ H' D = some (.lst (ps.map V.ref)) ∧ Rws H' ps M ∧ D ∉ ps ∧ Slant n k M) ⟨[], [], _, _, rfl, e1, h1, trivial, (fun h => by cases h), ⟨rfl, fun _ h => (by cases h), fun _ h => (by cases h), fun _ h => (by omega)⟩⟩ (fun k σ' H' hk hp' => ?_) (fun σ' H' hp' => ?_)
  · clear h1 e1
    obtain ⟨ps, M, u3, u4, rfl, e1, h1, hW, hn1, hs⟩ := hp'
    have hlen := hW.len
    have ln := hs.ln
    have hS1 := e1.l hS
    walk_at "rd"
    refine r_lstK fun p1 H2 hp1 e2 h2 => ?_
    have hS2 := e2.l hS1
    walk_at "rd"
    refine r_rep1 h2 (by omega) fun p2 H3 hp2 e3 h3 => ?_
    rw [Int.toNat_natCast] at h3
    have h3' : H3 p2 = some (.lst ((List.replicate k (0 : Int)).map V.int)) := by rw [List.map_replicate]; exact h3
    have hS3 := e3.l hS2
    walk_at "rd"
    refine c__law_along (by omega) fun x hx => ?_
    walk_at "rd"
    refine r_lstK fun p3 H4 hp3 e4 h4 => ?_
    have h4' : H4 p3 = some (.lst (([x] : List Int).map V.int)) := h4
    walk_at "rd"
    refine r_catI (e4 _ _ h3') h4' (by rw [List.length_replicate, List.length_singleton]; omega) fun p4 H5 hp4 e5 h5 => ?_
    have hS5 := e5.l (e4.l hS3)
    walk_at "rd"
    have ek : (k : Int) + 1 = ((k + 1 : Nat) : Int) := by omega
    refine r_cRng2A (by omega) ?_
    rw [show ((n : Int) - ((k : Int) + 1)).toNat = n - (k + 1) by omega]
    refine lc_rangeL (fun j => (cellOf ns 0 + 7 * (k : Int) + 3 * ((k : Int) + 1 + (j : Int))).fmod 5 - 2) (by omega) (fun j hj H6 e6 Q' k' => ?_) fun p5 H6 hp5 e6 h6 => ?_
    · have hS6 := e6.l hS5
      walk_at "rd"
      refine r_mul (wide_mul (a := 3) (b := 40) (by decide) (show ((k : Nat) : Int).natAbs < 2 ^ 40 by omega) (by decide) (by decide) (by decide)) ?_
      walk_at "rd"
      refine r_mul (wide_mul (a := 3) (b := 40) (by decide) (show ((k : Int) + 1 + (j : Int)).natAbs < 2 ^ 40 by omega) (by decide) (by decide) (by decide)) ?_
      walk_at "rd"
      exact k' _ (Evl.Ex.refl _)
    walk_at "rd"
    refine r_catI (e6 _ _ h5) h6 (by simp only [List.length_append, List.length_replicate, List.length_map, List.length_range, List.length_singleton]; omega) fun p6 H7 hp6 e7 h7 => ?_
    have e17 := ((((e2.trans e3).trans e4).trans e5).trans e6).trans e7
    have hD7 := e17 _ _ h1
    walk_at "rd"
    refine r_append hD7 (by rw [List.length_map]; exact small_lt (by omega)) fun H8 b8 h8 => ?_
    walk_at "rd"
    have nD : p6 ≠ D := fun z => by
      have := ((((e2.trans e3).trans e4).trans e5).trans e6) _ _ h1
      rw [z, this] at hp6; cases hp6
    refine ⟨ps ++ [p6], M ++ [List.replicate k 0 ++ [x] ++ (List.range (n - (k + 1))).map fun (j : Nat) => (cellOf ns 0 + 7 * (k : Int) + 3 * ((k : Int) + 1 + (j : Int))).fmod 5 - 2], _, _, rfl, Evl.Ex.mutb (e1.trans e17) b8 hD, by rw [List.map_append]; exact h8, Rws.append ((hW.ex e17).exb b8 hn1) ⟨b8 _ nD _ h7, trivial⟩, ?_, hs.snoc hx (f := fun j => (cellOf ns 0 + 7 * (k : Int) + 3 * ((k : Int) + 1 + (j : Int))).fmod 5 - 2) (fun j => ?_) hk⟩
    · intro h
      rcases List.mem_append.mp h with h | h
      · exact hn1 h
      · exact nD (List.mem_singleton.mp h).symm
    · have d0 := Int.fmod_nonneg_of_pos (cellOf ns 0 + 7 * (k : Int) + 3 * ((k : Int) + 1 + (j : Int))) (show (0 : Int) < 5 by decide)
      have d1 := Int.fmod_lt_of_pos (cellOf ns 0 + 7 * (k : Int) + 3 * ((k : Int) + 1 + (j : Int))) (show (0 : Int) < 5 by decide)
      show ((cellOf ns 0 + 7 * (k : Int) + 3 * ((k : Int) + 1 + (j : Int))).fmod 5 - 2).natAbs < _
      omega
  · obtain ⟨ps, M, u3, u4, rfl, e1, h1, hW, hn1, hs⟩ := hp'
    walk_at "rd"
    exact q _ _ _ _ hD e1 h1 hW hn1 hs
theorem c__law_slanted {a : Addr} {ns : List Int} {n : Nat} (h : SqL K H a (ns.map V.int)) (hl : ns.length ≤ 63) (hn : n ≤ 16) (q : ∀ (D : Addr) (H' : Hp) (ps : List Addr) (M : List (List Int)), H D = none → Ex H H' → H' D = some (.lst (ps.map V.ref)) → Rws H' ps M → D ∉ ps → Slant n n M → Q (.ref D) H') : sp__law_slanted K Cof [.ref a, .int (n : Int)] H Q E := ⟨a, ns, n, rfl, h, hl, hn, q⟩
end

/-! #### _law_size -/
def sp__law_size (K : PySem.W.Frag) (Cof : String → Addr) : Sp := fun vs H Q _ => ∃ c : Int, vs = [.int c] ∧ ∀ n : Nat, n ≤ 16 → Q (.int (n : Int)) H
def t__law_size (K : PySem.W.Frag) (Cof : String → Addr) (E : XK) : TS :=
  tSeq (tIfS (tTest (tOp rEq (tOp rMod (tVar 0) (tC (.int 5))) (tC (.int 4)))) (tRet (tOp rIAdd (tC (.int 8)) (tOp rMod (tOp rDiv (tVar 0) (tC (.int 5))) (tC (.int 9))))) (tNext))
  (tRet (tOp rMod (tOp rDiv (tVar 0) (tC (.int 5))) (tC (.int 8))))

section
variable {K : PySem.W.Frag} {Cof : String → Addr} {vs : List V} {H : Hp} {Q : VK} {E : XK}
theorem len__law_size (h : sp__law_size K Cof vs H Q E) : vs.length = 1 := by
  obtain ⟨c, rfl, q⟩ := h; rfl
theorem rd__law_size (h : sp__law_size K Cof vs H Q E) : t__law_size K Cof E { nx := fun _ H' => Q .non H', rt := Q } (start ["_law_cell"] vs) H := by
  obtain ⟨c, rfl, q⟩ := h
  have q' : ∀ x : Int, 0 ≤ x → x ≤ 16 → Q (.int x) H := fun x h0 h1 => by
    have := q x.toNat (by omega)
    rw [Int.toNat_of_nonneg h0] at this
    exact this
  unfold t__law_size
  walk_at "rd"
  refine ite_d (fun _ => ?_) (fun _ => ?_)
  · walk_at "rd"
    have d0 := Int.fmod_nonneg_of_pos (c.fdiv 5) (show (0 : Int) < 9 by decide)
    have d1 := Int.fmod_lt_of_pos (c.fdiv 5) (show (0 : Int) < 9 by decide)
    exact q' _ (by omega) (by omega)
  · walk_at "rd"
    have d0 := Int.fmod_nonneg_of_pos (c.fdiv 5) (show (0 : Int) < 8 by decide)
    have d1 := Int.fmod_lt_of_pos (c.fdiv 5) (show (0 : Int) < 8 by decide)
    exact q' _ (by omega) (by omega)
theorem c__law_size {c : Int} (q : ∀ n : Nat, n ≤ 16 → Q (.int (n : Int)) H) : sp__law_size K Cof [.int c] H Q E := ⟨c, rfl, q⟩
end

/-! #### law -/
--USE MT RN MO DK
def sp_law (K : PySem.W.Frag) (Cof : String → Addr) : Sp := fun vs H Q _ => ∃ (a : Addr) (ns : List Int), vs = [.ref a] ∧ SqL K H a (ns.map V.int) ∧ ns.length ≤ 63 ∧ ∀ H', Q (.bl true) H'
def t_law (K : PySem.W.Frag) (Cof : String → Addr) (E : XK) : TS :=
  tSeq (tAsg (tCall (sp__law_size K Cof) [] E0 (tCons (tCall (sp__law_cell_at K Cof) [] E0 (tCons (tVar 0) (tCons (tC (.int 0)) (tNil)))) (tNil))) (gName 1))
  (tSeq (tAsg (tCall (sp__law_slanted K Cof) [] E0 (tCons (tVar 0) (tCons (tVar 1) (tNil)))) (gName 2))
  (tSeq (tAsg (tC (.int 1)) (gName 3))
  (tSeq (tFor (iRng1 (tCons (tVar 1) (tNil))) (gName 4) (tAsg (tOp rMul (tVar 3) (tOp (rIxL K) (tOp (rIxL K) (tVar 2) (tVar 4)) (tVar 4))) (gName 3)))
  (tCut (tIfS (tTest (tOp rGt (tVar 1) (tC (.int 1)))) (tFor (iList K (tSl (rSlL K) (tVar 0) (tPart (tC (.int 1))) (tPart (tC (.int 64))))) (gName 5) (tSeq (tAsg (tOp rMod (tVar 5) (tVar 1)) (gName 4))
  (tSeq (tAsg (tOp rMod (tOp rIAdd (tOp rIAdd (tVar 4) (tC (.int 1))) (tOp rMod (tOp rDiv (tVar 5) (tVar 1)) (tOp rISub (tVar 1) (tC (.int 1))))) (tVar 1)) (gName 6))
  (tSeq (tAsg (tOp rISub (tOp rMod (tOp rDiv (tVar 5) (tOp rMul (tVar 1) (tVar 1))) (tC (.int 5))) (tC (.int 2))) (gName 7))
  (tIfS (tTest (tOp rEq (tVar 7) (tC (.int 0)))) (tSeq (tAsg (tOp (rIxL K) (tVar 2) (tVar 4)) (gName 8))
  (tSeq (tAsg (tOp (rIxL K) (tVar 2) (tVar 6)) (gSub (tVar 2) (tVar 4) rSetL))
  (tSeq (tAsg (tVar 8) (gSub (tVar 2) (tVar 6) rSetL))
  (tAsg (tUn rNeg (tVar 3)) (gName 3))))) (tAsg (tLc (iRng1 (tCons (tVar 1) (tNil))) (gName 9) (tYes) (tOp rIAdd (tOp (rIxL K) (tOp (rIxL K) (tVar 2) (tVar 4)) (tVar 9)) (tOp rMul (tVar 7) (tOp (rIxL K) (tOp (rIxL K) (tVar 2) (tVar 6)) (tVar 9)))) [9]) (gSub (tVar 2) (tVar 4) rSetL))))))) (tNext))
  (tSeq (tAsg (tLc (iList K (tVar 2)) (gName 11) (tYes) (tCB (rListS K) (tCons (tVar 11) (tNil))) [11]) (gName 10))
  (tSeq (tAsg (tCall (sp_determinant K Cof) [] E0 (tCons (tVar 10) (tNil))) (gName 12))
  (tRet (tAndV (tCall (sp__law_whole K Cof) [] E0 (tCons (tVar 12) (tNil))) (tAndV (tOp rEq (tVar 12) (tVar 3)) (tOp (rEqD K) (tVar 10) (tVar 2)))))))))))

section
variable {K : PySem.W.Frag} {Cof : String → Addr} {vs : List V} {H : Hp} {Q : VK} {E : XK}
theorem len_law (h : sp_law K Cof vs H Q E) : vs.length = 1 := by
  obtain ⟨a, ns, rfl, _⟩ := h; rfl
/-- what holds of the rows after so many deeds -/
structure Deeds (n t : Nat) (M : List (List Int)) (due : Int) : Prop where
  ln : M.length = n
  wd : ∀ R ∈ M, R.length = n
  sz : ∀ R ∈ M, ML.Sz (41 + 2 * t) R
  du : DT.D (List.range n) (M.map ML.cf) = due
theorem Deeds.start {n : Nat} {M : List (List Int)} (h : Slant n n M) : Deeds n 0 M (DT.pd M n) :=
  ⟨h.ln, h.wd, h.sz, by
    have := DT.D_tri h.ln h.z n (Nat.le_refl _)
    rw [List.take_of_length_le (by rw [h.ln]; exact Nat.le_refl _)] at this
    exact this⟩
theorem Deeds.swap {n t i j : Nat} {M : List (List Int)} {due : Int} (h : Deeds n t M due) (hi : i < n) (hj : j < n) (hij : i ≠ j) : Deeds n (t + 1) ((M.set i (M.getD j [])).set j (M.getD i [])) (-due) := by
  have ln := h.ln
  have hm : ∀ R ∈ (M.set i (M.getD j [])).set j (M.getD i []), R ∈ M := fun R hR => by
    rcases List.mem_or_eq_of_mem_set hR with hR | rfl
    · rcases List.mem_or_eq_of_mem_set hR with hR | rfl
      · exact hR
      · exact DT.mem_getD (by omega)
    · exact DT.mem_getD (by omega)
  refine ⟨by rw [List.length_set, List.length_set, ln], fun R hR => h.wd R (hm R hR), fun R hR => (h.sz R (hm R hR)).mono (by omega), ?_⟩
  rw [← h.du]
  exact DT.D_swap' hij (by omega) (by omega) _
theorem Deeds.add {n t i j : Nat} {M : List (List Int)} {due m : Int} (h : Deeds n t M due) (hi : i < n) (hj : j < n) (hij : i ≠ j) (hm : m.natAbs ≤ 2) : Deeds n (t + 1) (M.set i (DT.addRow n (M.getD i []) (M.getD j []) m)) due := by
  have ln := h.ln
  refine ⟨by rw [List.length_set, ln], fun R hR => ?_, fun R hR => ?_, ?_⟩
  · rcases List.mem_or_eq_of_mem_set hR with hR | rfl
    · exact h.wd R hR
    · unfold DT.addRow; rw [List.length_map, List.length_range]
  · rcases List.mem_or_eq_of_mem_set hR with hR | rfl
    · exact (h.sz R hR).mono (by omega)
    · intro x hx
      obtain ⟨k, hk, rfl⟩ := List.mem_map.mp hx
      have s1 := (h.sz _ (DT.mem_getD (show i < M.length by omega))).cf k
      have s2 := (h.sz _ (DT.mem_getD (show j < M.length by omega))).cf k
      have e : (2 : Nat) ^ (41 + 2 * (t + 1)) = 4 * 2 ^ (41 + 2 * t) := by rw [show 41 + 2 * (t + 1) = 41 + 2 * t + 2 by omega, Nat.pow_add]; omega
      rw [e]
      generalize (2 : Nat) ^ (41 + 2 * t) = B at s1 s2
      have e2 : (m * ML.cf (M.getD j []) k).natAbs ≤ 2 * (B - 1) := by
        rw [Int.natAbs_mul]; exact Nat.mul_le_mul hm (by omega)
      omega
  · rw [← h.du]
    exact DT.D_add h.wd hij (by omega) (by omega) m _
theorem pd_lt {n : Nat} {M : List (List Int)} (h : Slant n n M) : ∀ k, k ≤ n → (DT.pd M k).natAbs < 2 ^ (41 * k + 1)
  | 0, _ => (show (1 : Int).natAbs < 2 ^ 1 by decide)
  | k + 1, hk => by
    have ih := pd_lt h k (by omega)
    have s := (h.sz _ (DT.mem_getD (show k < M.length by rw [h.ln]; omega))).cf k
    show (DT.pd M k * MT.at_ M k k).natAbs < _
    have := wide_lt ih s
    rw [show 41 * (k + 1) + 1 = 41 * k + 1 + 41 by omega]
    exact this
theorem Deeds.ok {n t : Nat} {M : List (List Int)} {due : Int} (h : Deeds n t M due) (ht : t ≤ 63) (hn : n ≤ 16) : detOk M.length 0 M 1 ∧ MT.detL M = due := by
  have sA : ∀ R ∈ M, ∀ j, (ML.cf R j).natAbs ≤ 2 ^ 167 := fun R hR j => Nat.le_of_lt (((h.sz R hR).mono (by omega)).cf j)
  refine ⟨DT.detOk_of (N := 3000) h.ln h.wd sA (by decide) (by omega) ?_ (by decide) (by decide), ?_⟩
  · have h1 : n * 2 ^ 167 ≤ 2 ^ 171 := by
      have : n * 2 ^ 167 ≤ 16 * 2 ^ 167 := Nat.mul_le_mul_right _ hn
      exact Nat.le_trans this (by decide)
    have h2 : (n * 2 ^ 167) ^ n ≤ (2 ^ 171) ^ n := Nat.pow_le_pow_left h1 n
    rw [← Nat.pow_mul] at h2
    exact Nat.lt_of_le_of_lt h2 (Nat.pow_lt_pow_right (by decide) (by omega))
  · rw [DT.detL_eq h.ln h.wd sA (by decide), h.du]
theorem places {n : Nat} (c : Int) (hn : 1 < n) : ∃ i j : Nat, i < n ∧ j < n ∧ i ≠ j ∧ c.fmod n = (i : Int) ∧ (((i : Int) + 1 + (c.fdiv n).fmod ((n : Int) - 1)).fmod n = (j : Int)) := by
  have a0 := Int.fmod_nonneg_of_pos c (show (0 : Int) < n by omega)
  have a1 := Int.fmod_lt_of_pos c (show (0 : Int) < n by omega)
  have b0 := Int.fmod_nonneg_of_pos (c.fdiv n) (show (0 : Int) < (n : Int) - 1 by omega)
  have b1 := Int.fmod_lt_of_pos (c.fdiv n) (show (0 : Int) < (n : Int) - 1 by omega)
  generalize c.fmod n = i at *
  generalize (c.fdiv n).fmod ((n : Int) - 1) = d at *
  have e : (i + 1 + d).fmod n = if i + 1 + d < n then i + 1 + d else i + 1 + d - n := by
    rw [Int.fmod_eq_emod_of_nonneg _ (by omega)]
    split
    · exact Int.emod_eq_of_lt (by omega) (by omega)
    · rw [← Int.sub_emod_right]
      exact Int.emod_eq_of_lt (by omega) (by omega)
  refine ⟨i.toNat, ((i + 1 + d).fmod n).toNat, by omega, ?_, ?_, by omega, ?_⟩
  · rw [e]; split <;> omega
  · rw [e]; split <;> omega
  · rw [Int.toNat_of_nonneg a0, e]; split <;> omega
theorem small_div {x : Int} (h0 : 0 < x) (h1 : x < 2 ^ 40) : CDivA 0 x := ⟨by omega, by
  have : x.natAbs.log2 < 40 := (Nat.log2_lt (by omega)).mpr (by omega)
  omega⟩
theorem rd_law (h : sp_law K Cof vs H Q E) : t_law K Cof E { nx := fun _ H' => Q .non H', rt := Q } (start ["_law_script", "_law_size_here", "_law_rows", "_law_due", "_law_i", "_law_cell", "_law_j", "_law_many", "_law_kept", "_law_k", "_law_handed", "_law_row", "_law_found"] vs) H := by
  obtain ⟨a, ns, rfl, hS, hl, q⟩ := h
  unfold t_law
  walk_at "rd"
  refine c__law_size fun n hn => ?_
  walk_at "rd"
  refine c__law_slanted hS hl hn fun D H1 ps M hD e1 h1 hW hn1 hs => ?_
  have hS1 := e1.l hS
  walk_at "rd"
  refine r_iRng1A (by omega) (by omega) ?_
  rw [Int.toNat_natCast]
  refine loop_range0 (fun k σ' H' => ∃ (u4 : Option V), σ' = [some (.ref a), some (.int (n : Int)), some (.ref D), some (.int (DT.pd M k)), u4, none, none, none, none, none, none, none, none] ∧ H' = H1) ⟨_, rfl, rfl⟩ (fun k σ' H' hk hp' => ?_) (fun σ' H' hp' => ?_)
  · obtain ⟨u4, rfl, rfl⟩ := hp'
    walk_at "rd"
    have ln := hs.ln
    refine r_ixRow (SqL.inj h1) hW (i := k) (by omega) fun r1 hr1 hpr1 => ?_
    have hm := DT.mem_getD (M := M) (show k < M.length by omega)
    have wd := hs.wd _ hm
    walk_at "rd"
    refine r_ixI (SqL.inj hpr1) (by omega) (by omega) ?_
    rw [Int.toNat_natCast]
    refine r_mul (wide_mul (pd_lt hs k (by omega)) ((hs.sz _ hm).cf k) (by omega) (by decide) (by omega)) ?_
    walk_at "rd"
    exact ⟨_, rfl, rfl⟩
  obtain ⟨u4, rfl, rfl⟩ := hp'
  walk_at "rd"
  refine ⟨fun σ' H' => ∃ (qs : List Addr) (M' : List (List Int)) (due : Int) (t : Nat) (u4 u5 u6 u7 u8 : Option V), σ' = [some (.ref a), some (.int (n : Int)), some (.ref D), some (.int due), u4, u5, u6, u7, u8, none, none, none, none] ∧ H' D = some (.lst (qs.map V.ref)) ∧ Rws H' qs M' ∧ Deeds n t M' due ∧ t ≤ 63, ?_, fun σ' H' hM => ?_⟩
  · walk_at "rd"
    refine ite_d (fun hn2 => ?_) (fun hn2 => ?_)
    · have hn2 : 1 < n := by omega
      walk_at "rd"
      refine r_slI hS1 fun p2 H2 hp2 e2 h2 => ?_
      have hsl := sliceI_len ns (some 1) (some 64)
      generalize sliceI ns (some 1) (some 64) = cs at h2 hsl
      have nDp : p2 ≠ D := fun z => by rw [z, h1] at hp2; cases hp2
      walk_at "rd"
      refine loop_ints (ns := cs) (fun t σ' H' => ∃ (qs : List Addr) (M' : List (List Int)) (due : Int) (u4 u5 u6 u7 u8 : Option V), σ' = [some (.ref a), some (.int (n : Int)), some (.ref D), some (.int due), u4, u5, u6, u7, u8, none, none, none, none] ∧ Exb D H2 H' ∧ H' D = some (.lst (qs.map V.ref)) ∧ D ∉ qs ∧ Rws H' qs M' ∧ Deeds n t M' due) ⟨ps, M, _, _, _, _, _, _, rfl, fun _ _ _ h => h, e2 _ _ h1, hn1, hW.ex e2, Deeds.start hs⟩ (fun t σ' H' _ hp => ?_) (fun t c σ' H' hc hp => ?_) (fun σ' H' hp => ?_)
      · obtain ⟨qs, M', due, u4, u5, u6, u7, u8, rfl, x1, _⟩ := hp
        exact SqL.inj (x1 _ nDp _ h2)
      · obtain ⟨qs, M', due, u4, u5, u6, u7, u8, rfl, x1, x2, x3, x4, x5⟩ := hp
        obtain ⟨i, j, hi, hj, hij, ei, ej⟩ := places c hn2
        have ln := x5.ln
        have hql := x4.len
        have ht : t < cs.length := (List.getElem?_eq_some_iff.mp hc).1
        walk_at "rd"
        rw [ei]
        refine r_div (small_div (by omega) (by omega)) ?_
        walk_at "rd"
        rw [ej]
        refine r_mul (wide_mul (a := 40) (b := 40) (show ((n : Nat) : Int).natAbs < 2 ^ 40 by omega) (show ((n : Nat) : Int).natAbs < 2 ^ 40 by omega) (by decide) (by decide) (by decide)) ?_
        walk_at "rd"
        have nn : (n : Int) * n ≤ 16 * 16 := Int.mul_le_mul (by omega) (by omega) (by omega) (by omega)
        have n0 : (0 : Int) < (n : Int) * n := Int.mul_pos (by omega) (by omega)
        refine r_div (small_div n0 (by omega)) ?_
        walk_at "rd"
        have m0 := Int.fmod_nonneg_of_pos (c.fdiv ((n : Int) * n)) (show (0 : Int) < 5 by decide)
        have m1 := Int.fmod_lt_of_pos (c.fdiv ((n : Int) * n)) (show (0 : Int) < 5 by decide)
        obtain ⟨m, em, hm⟩ : ∃ m : Int, (c.fdiv ((n : Int) * n)).fmod 5 - 2 = m ∧ m.natAbs ≤ 2 := ⟨_, rfl, by omega⟩
        rw [em]
        clear m0 m1 em nn n0
        refine ite_d (fun _ => ?_) (fun _ => ?_)
        · walk_at "rd"
          refine r_ixRow (SqL.inj x2) x4 (i := i) (by omega) fun r1 hr1 hpr1 => ?_
          walk_at "rd"
          refine r_ixRow (SqL.inj x2) x4 (i := j) (by omega) fun r2 hr2 hpr2 => ?_
          have m1 := List.mem_of_getElem? hr1
          have m2 := List.mem_of_getElem? hr2
          have nd1 : r1 ≠ D := fun z => x3 (by rw [← z]; exact m1)
          have nd2 : r2 ≠ D := fun z => x3 (by rw [← z]; exact m2)
          walk_at "rd"
          refine r_setRow x2 (by omega) fun H3 b3 h3 => ?_
          walk_at "rd"
          refine r_setRow h3 (by rw [List.length_set]; omega) fun H4 b4 h4 => ?_
          walk_at "rd"
          have b34 := b3.trans b4
          refine ⟨_, _, -due, _, _, _, _, _, rfl, x1.trans b34, h4, ?_, Rws.set (b34 _ nd1 _ hpr1) _ (Rws.set (b34 _ nd2 _ hpr2) _ (x4.exb b34 x3)), x5.swap hi hj hij⟩
          intro h
          rcases List.mem_or_eq_of_mem_set h with h | h
          · rcases List.mem_or_eq_of_mem_set h with h | h
            · exact x3 h
            · exact nd2 h.symm
          · exact nd1 h.symm
        · walk_at "rd"
          refine r_cRng1A (by omega) (by omega) ?_
          rw [Int.toNat_natCast]
          have hmi := DT.mem_getD (M := M') (show i < M'.length by omega)
          have hmj := DT.mem_getD (M := M') (show j < M'.length by omega)
          have wi := x5.wd _ hmi
          have wj := x5.wd _ hmj
          refine lc_rangeI (fun k => ML.cf (M'.getD i []) k + m * ML.cf (M'.getD j []) k) (by omega) (fun k hk H3 e3 Q' k' => ?_) fun p3 H3 hp3 e3 h3 => ?_
          · have x2' := e3 _ _ x2
            have x4' := x4.ex e3
            walk_at "rd"
            refine r_ixRow (SqL.inj x2') x4' (i := i) (by omega) fun r1 hr1 hpr1 => ?_
            walk_at "rd"
            refine r_ixI (SqL.inj hpr1) (by omega) (by omega) ?_
            rw [Int.toNat_natCast]
            walk_at "rd"
            refine r_ixRow (SqL.inj x2') x4' (i := j) (by omega) fun r2 hr2 hpr2 => ?_
            walk_at "rd"
            refine r_ixI (SqL.inj hpr2) (by omega) (by omega) ?_
            rw [Int.toNat_natCast]
            refine r_mul (wide_mul (a := 2) (b := 41 + 2 * t) (by omega) ((x5.sz _ hmj).cf k) (by decide) (by omega) (by omega)) ?_
            walk_at "rd"
            exact k' _ (Evl.Ex.refl _)
          have x2' := e3 _ _ x2
          have nd3 : p3 ≠ D := fun z => by rw [z, x2] at hp3; cases hp3
          walk_at "rd"
          refine r_setRow x2' (by omega) fun H4 b4 h4 => ?_
          walk_at "rd"
          refine ⟨_, _, due, _, _, _, _, _, rfl, fun b nb o ho => b4 _ nb _ (e3 _ _ (x1 b nb o ho)), h4, ?_, Rws.set (b4 _ nd3 _ h3) _ ((x4.ex e3).exb b4 x3), x5.add hi hj hij hm⟩
          intro h
          rcases List.mem_or_eq_of_mem_set h with h | h
          · exact x3 h
          · exact nd3 h.symm
      · obtain ⟨qs, M', due, u4, u5, u6, u7, u8, rfl, x1, x2, x3, x4, x5⟩ := hp
        exact ⟨qs, M', due, cs.length, _, _, _, _, _, rfl, x2, x4, x5, by omega⟩
    · walk_at "rd"
      exact ⟨ps, M, _, 0, _, _, _, _, _, rfl, h1, hW, Deeds.start hs, by decide⟩
  obtain ⟨qs, M', due, t, u4, u5, u6, u7, u8, rfl, x2, x4, x5, x6⟩ := hM
  have ln := x5.ln
  have hql := x4.len
  walk_at "rd"
  refine lc_rowsN (fun R => R) (SqL.inj x2) x4 (by omega) (fun p R H3 hR hpR e3 Q' k' => ?_) fun D2 H3 rs hD2 e3 h3 hW3 hn3 => ?_
  · walk_at "rd"
    refine r_list (SqL.inj hpR) fun l H9 hl9 e9 h9 => ?_
    exact k' l H9 hl9 e9 h9
  rw [show M'.map (fun R => R) = M' from List.map_id' M'] at hW3
  walk_at "rd"
  obtain ⟨ok, dl⟩ := x5.ok x6 hn
  refine c_determinant (SqL.inj h3) hW3 (by omega) ok fun H4 e4 => ?_
  rw [dl]
  walk_at "rd"
  refine ite_d (fun _ => ?_) (fun h => absurd rfl h)
  walk_at "rd"
  refine r_eqRows (SqL.inj (e4 _ _ h3)) (hW3.ex e4) (SqL.inj (e4 _ _ (e3 _ _ x2))) ((x4.ex e3).ex e4) ?_
  rw [decide_eq_true rfl]
  exact q _
theorem c_law {a : Addr} {ns : List Int} (h : SqL K H a (ns.map V.int)) (hl : ns.length ≤ 63) (q : ∀ H', Q (.bl true) H') : sp_law K Cof [.ref a] H Q E := ⟨a, ns, rfl, h, hl, q⟩
end

def topS (i : Nat) : Stmt := PySem.Challenge.pw_rootspan_k33_determinant_built.main.body.getD i (.Pass ⟨0, 0, 0, 0⟩)
abbrev s_pivot_at : Stmt := topS 1
theorem sc_pivot_at : FnScope ["rows", "at", "k"] ["rows", "at"] (defScope s_pivot_at) := ⟨rfl, rfl, rfl, by decide +kernel, rfl, by decide +kernel, by decide +kernel⟩
abbrev s_cleared_rows : Stmt := topS 2
theorem sc_cleared_rows : FnScope ["rows", "at", "before", "top", "done", "row", "j"] ["rows", "at", "before"] (defScope s_cleared_rows) := ⟨rfl, rfl, rfl, by decide +kernel, rfl, by decide +kernel, by decide +kernel⟩
abbrev s_determinant : Stmt := topS 3
theorem sc_determinant : FnScope ["rows", "left", "row", "sign", "before", "at", "k", "kept"] ["rows"] (defScope s_determinant) := ⟨rfl, rfl, rfl, by decide +kernel, rfl, by decide +kernel, by decide +kernel⟩
abbrev s__law_cell_at : Stmt := topS 5
theorem sc__law_cell_at : FnScope ["_law_script", "_law_k"] ["_law_script", "_law_k"] (defScope s__law_cell_at) := ⟨rfl, rfl, rfl, by decide +kernel, rfl, by decide +kernel, by decide +kernel⟩
abbrev s__law_whole : Stmt := topS 6
theorem sc__law_whole : FnScope ["_law_found"] ["_law_found"] (defScope s__law_whole) := ⟨rfl, rfl, rfl, by decide +kernel, rfl, by decide +kernel, by decide +kernel⟩
abbrev s__law_along : Stmt := topS 7
theorem sc__law_along : FnScope ["_law_cell", "_law_at"] ["_law_cell", "_law_at"] (defScope s__law_along) := ⟨rfl, rfl, rfl, by decide +kernel, rfl, by decide +kernel, by decide +kernel⟩
abbrev s__law_slanted : Stmt := topS 8
theorem sc__law_slanted : FnScope ["_law_script", "_law_size_here", "_law_rows", "_law_i", "_law_row", "_law_j"] ["_law_script", "_law_size_here"] (defScope s__law_slanted) := ⟨rfl, rfl, rfl, by decide +kernel, rfl, by decide +kernel, by decide +kernel⟩
abbrev s__law_size : Stmt := topS 9
theorem sc__law_size : FnScope ["_law_cell"] ["_law_cell"] (defScope s__law_size) := ⟨rfl, rfl, rfl, by decide +kernel, rfl, by decide +kernel, by decide +kernel⟩
abbrev s_law : Stmt := topS 10
theorem sc_law : FnScope ["_law_script", "_law_size_here", "_law_rows", "_law_due", "_law_i", "_law_cell", "_law_j", "_law_many", "_law_kept", "_law_k", "_law_handed", "_law_row", "_law_found"] ["_law_script"] (defScope s_law) := ⟨rfl, rfl, rfl, by decide +kernel, rfl, by decide +kernel, by decide +kernel⟩
structure Txt (K : PySem.W.Frag) (mg : Str → Option Value) (Cof : String → Addr) (ad : Nat → Addr) (fd : Nat → FuncData) : Prop where
  z_bool : mg "bool" = none
  z_int : mg "int" = none
  z_isinstance : mg "isinstance" = none
  z_len : mg "len" = none
  z_list : mg "list" = none
  z_range : mg "range" = none
  g_pivot_at : mg "pivot_at" = some (.ref (ad 0))
  F_pivot_at : Fun K "pivot_at" "pivot_at" s_pivot_at (ad 0) (fd 0)
  g_cleared_rows : mg "cleared_rows" = some (.ref (ad 1))
  F_cleared_rows : Fun K "cleared_rows" "cleared_rows" s_cleared_rows (ad 1) (fd 1)
  g_determinant : mg "determinant" = some (.ref (ad 2))
  F_determinant : Fun K "determinant" "determinant" s_determinant (ad 2) (fd 2)
  g__law_cell_at : mg "_law_cell_at" = some (.ref (ad 3))
  F__law_cell_at : Fun K "_law_cell_at" "_law_cell_at" s__law_cell_at (ad 3) (fd 3)
  g__law_whole : mg "_law_whole" = some (.ref (ad 4))
  F__law_whole : Fun K "_law_whole" "_law_whole" s__law_whole (ad 4) (fd 4)
  g__law_along : mg "_law_along" = some (.ref (ad 5))
  F__law_along : Fun K "_law_along" "_law_along" s__law_along (ad 5) (fd 5)
  g__law_slanted : mg "_law_slanted" = some (.ref (ad 6))
  F__law_slanted : Fun K "_law_slanted" "_law_slanted" s__law_slanted (ad 6) (fd 6)
  g__law_size : mg "_law_size" = some (.ref (ad 7))
  F__law_size : Fun K "_law_size" "_law_size" s__law_size (ad 7) (fd 7)
  g_law : mg "law" = some (.ref (ad 8))
  F_law : Fun K "law" "law" s_law (ad 8) (fd 8)
section
variable {P : Program} {w : World} {K : PySem.W.Frag} {mg : Str → Option Value} {base : Heap} {Cof : String → Addr} {ad : Nat → Addr} {fd : Nat → FuncData}
theorem B_pivot_at (T : Txt K mg Cof ad fd) : Binds K (fd 0) ["rows", "at"] [] := T.F_pivot_at.binds (ps := ["rows", "at"]) fun _ _ _ _ _ _ us hl => match us, hl with | [_, _], _ => rfl
theorem B_cleared_rows (T : Txt K mg Cof ad fd) : Binds K (fd 1) ["rows", "at", "before"] [] := T.F_cleared_rows.binds (ps := ["rows", "at", "before"]) fun _ _ _ _ _ _ us hl => match us, hl with | [_, _, _], _ => rfl
theorem B_determinant (T : Txt K mg Cof ad fd) : Binds K (fd 2) ["rows"] [] := T.F_determinant.binds (ps := ["rows"]) fun _ _ _ _ _ _ us hl => match us, hl with | [_], _ => rfl
theorem B__law_cell_at (T : Txt K mg Cof ad fd) : Binds K (fd 3) ["_law_script", "_law_k"] [] := T.F__law_cell_at.binds (ps := ["_law_script", "_law_k"]) fun _ _ _ _ _ _ us hl => match us, hl with | [_, _], _ => rfl
theorem B__law_whole (T : Txt K mg Cof ad fd) : Binds K (fd 4) ["_law_found"] [] := T.F__law_whole.binds (ps := ["_law_found"]) fun _ _ _ _ _ _ us hl => match us, hl with | [_], _ => rfl
theorem B__law_along (T : Txt K mg Cof ad fd) : Binds K (fd 5) ["_law_cell", "_law_at"] [] := T.F__law_along.binds (ps := ["_law_cell", "_law_at"]) fun _ _ _ _ _ _ us hl => match us, hl with | [_, _], _ => rfl
theorem B__law_slanted (T : Txt K mg Cof ad fd) : Binds K (fd 6) ["_law_script", "_law_size_here"] [] := T.F__law_slanted.binds (ps := ["_law_script", "_law_size_here"]) fun _ _ _ _ _ _ us hl => match us, hl with | [_, _], _ => rfl
theorem B__law_size (T : Txt K mg Cof ad fd) : Binds K (fd 7) ["_law_cell"] [] := T.F__law_size.binds (ps := ["_law_cell"]) fun _ _ _ _ _ _ us hl => match us, hl with | [_], _ => rfl
theorem B_law (T : Txt K mg Cof ad fd) : Binds K (fd 8) ["_law_script"] [] := T.F_law.binds (ps := ["_law_script"]) fun _ _ _ _ _ _ us hl => match us, hl with | [_], _ => rfl
theorem ok_pivot_at (T : Txt K mg Cof ad fd) : FnOk P w K mg base CX0 1 (ad 0) (fd 0) ["rows", "at"] (sp_pivot_at K Cof) := by
  have nd := sc_pivot_at.nd
  refine T.F_pivot_at.ok sc_pivot_at (fun vs H Q E h => len_pivot_at h) (fun cdv A outer s H vs Q E hr h => ⟨t_pivot_at K Cof E, ?_, rd_pivot_at h⟩)
  exact pss_cons (ps_set (i := 2) nd rfl (by first | exact Or.inl rfl | exact Or.inr rfl) (pv 1))
       (pss_cons (ps_while PassesOwn.never (PW.pt (pw_and (pt_cmpR op_lt (pv 2) (pe_callB call_len_seq (by rfl) T.z_len (by decide +kernel) (pa_cons (pv 0) (pa_nil))) (nomark _)) (pw_and1 (pt_cmpR op_eq (pe_ix ix_list (pe_ix ix_list (pv 0) (pv 2) (fun _ _ => rfl)) (pv 1) (fun _ _ => rfl)) (pe_int) (nomark _))))) (pss_one (ps_set (i := 2) nd rfl (by first | exact Or.inl rfl | exact Or.inr rfl) (pe_op op_add (pv 2) (pe_int)))))
       (pss_one (ps_ret (pv 2))))
theorem ok_cleared_rows (T : Txt K mg Cof ad fd) : FnOk P w K mg base CX0 1 (ad 1) (fd 1) ["rows", "at", "before"] (sp_cleared_rows K Cof) := by
  have nd := sc_cleared_rows.nd
  refine T.F_cleared_rows.ok sc_cleared_rows (fun vs H Q E h => len_cleared_rows h) (fun cdv A outer s H vs Q E hr h => ⟨t_cleared_rows K Cof E, ?_, rd_cleared_rows h⟩)
  exact pss_cons (ps_set (i := 3) nd rfl (by first | exact Or.inl rfl | exact Or.inr rfl) (pe_ix ix_list (pv 0) (pv 1) (fun _ _ => rfl)))
       (pss_cons (ps_set (i := 4) nd rfl (by first | exact Or.inl rfl | exact Or.inr rfl) (pe_slice sl_list (pv 0) (po_none) (po_some (pe_op op_add (pv 1) (pe_int)))))
       (pss_cons (ps_for PassesOwn.never rfl (pi_list (pe_slice sl_list (pv 0) (po_some (pe_op op_add (pv 1) (pe_int))) (po_none))) (pg_name (i := 5) nd rfl (by first | exact Or.inl rfl | exact Or.inr rfl)) (pss_one (ps_expr (pe_bm PySem.F.plainAttrs_list PySem.F.slot_list_append PySem.F.type_list_append mt_append (pv 4) (pa_cons (pe_lc (own := [("j", 6)]) (by rfl) nd (pi_range1 (by rfl) T.z_range (pa_cons (pe_callB call_len_seq (by rfl) T.z_len (by decide +kernel) (pa_cons (pv 5) (pa_nil))) (pa_nil))) (blkOk_by (own := [("j", 6)]) (N := ["rows", "at", "before", "top", "done", "row", "j"]) (sc := defScope s_cleared_rows) (by decide +kernel)) (fun _ _ _ _ _ => pg_name (i := 6) nd rfl (by first | exact Or.inl rfl | exact Or.inr rfl)) (fun _ _ _ _ _ => pts_nil) (fun _ _ _ _ _ => pe_op op_fdivA (pe_op op_sub (pe_op op_mulW (pe_ix ix_list (pv 3) (pv 1) (fun _ _ => rfl)) (pe_ix ix_list (pv 5) (pv 6) (fun _ _ => rfl))) (pe_op op_mulW (pe_ix ix_list (pv 5) (pv 1) (fun _ _ => rfl)) (pe_ix ix_list (pv 3) (pv 6) (fun _ _ => rfl)))) (pv 2))) (pa_nil))))))
       (pss_one (ps_ret (pv 4)))))
theorem ok_determinant (T : Txt K mg Cof ad fd) : FnOk P w K mg base CX0 2 (ad 2) (fd 2) ["rows"] (sp_determinant K Cof) := by
  have G_cleared_rows := ok_cleared_rows (P := P) (w := w) (base := base) T
  have B_cleared_rows := B_cleared_rows T
  have G_pivot_at := ok_pivot_at (P := P) (w := w) (base := base) T
  have B_pivot_at := B_pivot_at T
  have nd := sc_determinant.nd
  refine T.F_determinant.ok sc_determinant (fun vs H Q E h => len_determinant h) (fun cdv A outer s H vs Q E hr h => ⟨t_determinant K Cof E, ?_, rd_determinant h⟩)
  exact pss_cons (ps_setLc (i := 1) (own := [("row", 2)]) (by rfl) nd rfl rfl (sw_true rfl rfl rfl (by decide +kernel)) (pi_list (pv 0)) (blkOk_by (own := [("row", 2)]) (N := ["rows", "left", "row", "sign", "before", "at", "k", "kept"]) (sc := defScope s_determinant) (by decide +kernel)) (fun _ _ _ _ _ => pg_name (i := 2) nd rfl (by first | exact Or.inl rfl | exact Or.inr rfl)) (fun _ _ _ _ _ => pts_nil) (fun _ _ _ _ _ => pe_callTy call_list_of (by rfl) T.z_list (by decide +kernel) (pa_cons (pv 2) (pa_nil))))
       (pss_cons (ps_set (i := 3) nd rfl (by first | exact Or.inl rfl | exact Or.inr rfl) (pe_int))
       (pss_cons (ps_set (i := 4) nd rfl (by first | exact Or.inl rfl | exact Or.inr rfl) (pe_int))
       (pss_cons (ps_for PassesOwn.never rfl (pi_range1 (by rfl) T.z_range (pa_cons (pe_callB call_len_seq (by rfl) T.z_len (by decide +kernel) (pa_cons (pv 0) (pa_nil))) (pa_nil))) (pg_name (i := 5) nd rfl (by first | exact Or.inl rfl | exact Or.inr rfl)) (pss_cons (ps_set (i := 6) nd rfl (by first | exact Or.inl rfl | exact Or.inr rfl) (pe_call G_pivot_at (hr.mono (by decide)) (by rfl) T.g_pivot_at T.F_pivot_at.kp B_pivot_at .nil pass0 (pa_cons (pv 1) (pa_cons (pv 5) (pa_nil)))))
       (pss_cons (ps_if (pt_cmpR op_eq (pv 6) (pe_callB call_len_seq (by rfl) T.z_len (by decide +kernel) (pa_cons (pv 0) (pa_nil))) (nomark _)) (pss_one (ps_ret (pe_int))) (pss_nil))
       (pss_cut (ps_if (pt_cmpR op_gt (pv 6) (pv 5) (nomark _)) (pss_cons (ps_set (i := 7) nd rfl (by first | exact Or.inl rfl | exact Or.inr rfl) (pe_ix ix_list (pv 1) (pv 5) (fun _ _ => rfl)))
       (pss_cons (ps_asg (pe_ix ix_list (pv 1) (pv 6) (fun _ _ => rfl)) (pg_sub (pv 1) (pv 5) set_list))
       (pss_cons (ps_asg (pv 7) (pg_sub (pv 1) (pv 6) set_list))
       (pss_one (ps_set (i := 3) nd rfl (by first | exact Or.inl rfl | exact Or.inr rfl) (pe_un un_neg (pv 3))))))) (pss_nil))
       (pss_cons (ps_set (i := 1) nd rfl (by first | exact Or.inl rfl | exact Or.inr rfl) (pe_call G_cleared_rows (hr.mono (by decide)) (by rfl) T.g_cleared_rows T.F_cleared_rows.kp B_cleared_rows .nil pass0 (pa_cons (pv 1) (pa_cons (pv 5) (pa_cons (pv 4) (pa_nil))))))
       (pss_one (ps_set (i := 4) nd rfl (by first | exact Or.inl rfl | exact Or.inr rfl) (pe_ix ix_list (pe_ix ix_list (pv 1) (pv 5) (fun _ _ => rfl)) (pv 5) (fun _ _ => rfl)))))))))
       (pss_one (ps_ret (pe_op op_mulW (pv 3) (pv 4)))))))
theorem ok__law_cell_at (T : Txt K mg Cof ad fd) : FnOk P w K mg base CX0 1 (ad 3) (fd 3) ["_law_script", "_law_k"] (sp__law_cell_at K Cof) := by
  have nd := sc__law_cell_at.nd
  refine T.F__law_cell_at.ok sc__law_cell_at (fun vs H Q E h => len__law_cell_at h) (fun cdv A outer s H vs Q E hr h => ⟨t__law_cell_at K Cof E, ?_, rd__law_cell_at h⟩)
  exact pss_cons (ps_if (pt_cmpR op_lt (pv 1) (pe_callB call_len_seq (by rfl) T.z_len (by decide +kernel) (pa_cons (pv 0) (pa_nil))) (nomark _)) (pss_one (ps_ret (pe_ix ix_list (pv 0) (pv 1) (fun _ _ => rfl)))) (pss_nil))
       (pss_one (ps_ret (pe_int)))
theorem ok__law_whole (T : Txt K mg Cof ad fd) : FnOk P w K mg base CX0 1 (ad 4) (fd 4) ["_law_found"] (sp__law_whole K Cof) := by
  have nd := sc__law_whole.nd
  refine T.F__law_whole.ok sc__law_whole (fun vs H Q E h => len__law_whole h) (fun cdv A outer s H vs Q E hr h => ⟨t__law_whole K Cof E, ?_, rd__law_whole h⟩)
  exact pss_one (ps_ret (pe_and (pe_callB call_isi (by rfl) T.z_isinstance (by decide +kernel) (pa_cons (pv 0) (pa_cons (pe_bltn (v := .ty "int") (by rfl) T.z_int (by decide +kernel) rfl) (pa_nil)))) (pe_one (pe_not (pe_callB call_isi (by rfl) T.z_isinstance (by decide +kernel) (pa_cons (pv 0) (pa_cons (pe_bltn (v := .ty "bool") (by rfl) T.z_bool (by decide +kernel) rfl) (pa_nil))))))))
theorem ok__law_along (T : Txt K mg Cof ad fd) : FnOk P w K mg base CX0 1 (ad 5) (fd 5) ["_law_cell", "_law_at"] (sp__law_along K Cof) := by
  have nd := sc__law_along.nd
  refine T.F__law_along.ok sc__law_along (fun vs H Q E h => len__law_along h) (fun cdv A outer s H vs Q E hr h => ⟨t__law_along K Cof E, ?_, rd__law_along h⟩)
  exact pss_cons (ps_if (pt_cmpR op_eq (pe_op op_modN (pv 0) (pe_int)) (pe_int) (nomark _)) (pss_one (ps_ret (pe_op op_sub (pe_op op_modN (pe_op op_fdivA (pv 0) (pe_int)) (pe_op op_add (pe_op op_mulW (pe_int) (pe_op op_pow (pe_int) (pe_int))) (pe_int))) (pe_op op_pow (pe_int) (pe_int))))) (pss_nil))
       (pss_one (ps_ret (pe_op op_sub (pe_op op_modN (pe_op op_add (pe_op op_fdivA (pv 0) (pe_int)) (pe_op op_mulW (pe_int) (pv 1))) (pe_int)) (pe_int))))
theorem ok__law_slanted (T : Txt K mg Cof ad fd) : FnOk P w K mg base CX0 2 (ad 6) (fd 6) ["_law_script", "_law_size_here"] (sp__law_slanted K Cof) := by
  have G__law_along := ok__law_along (P := P) (w := w) (base := base) T
  have B__law_along := B__law_along T
  have G__law_cell_at := ok__law_cell_at (P := P) (w := w) (base := base) T
  have B__law_cell_at := B__law_cell_at T
  have nd := sc__law_slanted.nd
  refine T.F__law_slanted.ok sc__law_slanted (fun vs H Q E h => len__law_slanted h) (fun cdv A outer s H vs Q E hr h => ⟨t__law_slanted K Cof E, ?_, rd__law_slanted h⟩)
  exact pss_cons (ps_set (i := 2) nd rfl (by first | exact Or.inl rfl | exact Or.inr rfl) (pe_lst (pa_nil)))
       (pss_cons (ps_for PassesOwn.never rfl (pi_range1 (by rfl) T.z_range (pa_cons (pv 1) (pa_nil))) (pg_name (i := 3) nd rfl (by first | exact Or.inl rfl | exact Or.inr rfl)) (pss_cons (ps_set (i := 4) nd rfl (by first | exact Or.inl rfl | exact Or.inr rfl) (pe_op op_cat (pe_op op_rep (pe_lst (pa_cons (pe_int) (pa_nil))) (pv 3)) (pe_lst (pa_cons (pe_call G__law_along (hr.mono (by decide)) (by rfl) T.g__law_along T.F__law_along.kp B__law_along .nil pass0 (pa_cons (pe_call G__law_cell_at (hr.mono (by decide)) (by rfl) T.g__law_cell_at T.F__law_cell_at.kp B__law_cell_at .nil pass0 (pa_cons (pv 0) (pa_cons (pe_op op_add (pe_int) (pv 3)) (pa_nil)))) (pa_cons (pv 3) (pa_nil)))) (pa_nil)))))
       (pss_one (ps_expr (pe_bm PySem.F.plainAttrs_list PySem.F.slot_list_append PySem.F.type_list_append mt_append (pv 2) (pa_cons (pe_op op_cat (pv 4) (pe_lc (own := [("_law_j", 5)]) (by rfl) nd (pi_range2 (by rfl) T.z_range (pa_cons (pe_op op_add (pv 3) (pe_int)) (pa_cons (pv 1) (pa_nil)))) (blkOk_by (own := [("_law_j", 5)]) (N := ["_law_script", "_law_size_here", "_law_rows", "_law_i", "_law_row", "_law_j"]) (sc := defScope s__law_slanted) (by decide +kernel)) (fun _ _ _ _ _ => pg_name (i := 5) nd rfl (by first | exact Or.inl rfl | exact Or.inr rfl)) (fun _ _ _ _ _ => pts_nil) (fun _ _ _ _ _ => pe_op op_sub (pe_op op_modN (pe_op op_add (pe_op op_add (pe_call G__law_cell_at (hr.mono (by decide)) (by rfl) T.g__law_cell_at T.F__law_cell_at.kp B__law_cell_at .nil pass0 (pa_cons (pv 0) (pa_cons (pe_int) (pa_nil)))) (pe_op op_mulW (pe_int) (pv 3))) (pe_op op_mulW (pe_int) (pv 5))) (pe_int)) (pe_int)))) (pa_nil)))))))
       (pss_one (ps_ret (pv 2))))
theorem ok__law_size (T : Txt K mg Cof ad fd) : FnOk P w K mg base CX0 1 (ad 7) (fd 7) ["_law_cell"] (sp__law_size K Cof) := by
  have nd := sc__law_size.nd
  refine T.F__law_size.ok sc__law_size (fun vs H Q E h => len__law_size h) (fun cdv A outer s H vs Q E hr h => ⟨t__law_size K Cof E, ?_, rd__law_size h⟩)
  exact pss_cons (ps_if (pt_cmpR op_eq (pe_op op_modN (pv 0) (pe_int)) (pe_int) (nomark _)) (pss_one (ps_ret (pe_op op_add (pe_int) (pe_op op_modN (pe_op op_fdivA (pv 0) (pe_int)) (pe_int))))) (pss_nil))
       (pss_one (ps_ret (pe_op op_modN (pe_op op_fdivA (pv 0) (pe_int)) (pe_int))))
theorem ok_law (T : Txt K mg Cof ad fd) : FnOk P w K mg base CX0 3 (ad 8) (fd 8) ["_law_script"] (sp_law K Cof) := by
  have G__law_cell_at := ok__law_cell_at (P := P) (w := w) (base := base) T
  have B__law_cell_at := B__law_cell_at T
  have G__law_size := ok__law_size (P := P) (w := w) (base := base) T
  have B__law_size := B__law_size T
  have G__law_slanted := ok__law_slanted (P := P) (w := w) (base := base) T
  have B__law_slanted := B__law_slanted T
  have G__law_whole := ok__law_whole (P := P) (w := w) (base := base) T
  have B__law_whole := B__law_whole T
  have G_determinant := ok_determinant (P := P) (w := w) (base := base) T
  have B_determinant := B_determinant T
  have nd := sc_law.nd
  refine T.F_law.ok sc_law (fun vs H Q E h => len_law h) (fun cdv A outer s H vs Q E hr h => ⟨t_law K Cof E, ?_, rd_law h⟩)
  exact pss_cons (ps_set (i := 1) nd rfl (by first | exact Or.inl rfl | exact Or.inr rfl) (pe_call G__law_size (hr.mono (by decide)) (by rfl) T.g__law_size T.F__law_size.kp B__law_size .nil pass0 (pa_cons (pe_call G__law_cell_at (hr.mono (by decide)) (by rfl) T.g__law_cell_at T.F__law_cell_at.kp B__law_cell_at .nil pass0 (pa_cons (pv 0) (pa_cons (pe_int) (pa_nil)))) (pa_nil))))
       (pss_cons (ps_set (i := 2) nd rfl (by first | exact Or.inl rfl | exact Or.inr rfl) (pe_call G__law_slanted (hr.mono (by decide)) (by rfl) T.g__law_slanted T.F__law_slanted.kp B__law_slanted .nil pass0 (pa_cons (pv 0) (pa_cons (pv 1) (pa_nil)))))
       (pss_cons (ps_set (i := 3) nd rfl (by first | exact Or.inl rfl | exact Or.inr rfl) (pe_int))
       (pss_cons (ps_for PassesOwn.never rfl (pi_range1 (by rfl) T.z_range (pa_cons (pv 1) (pa_nil))) (pg_name (i := 4) nd rfl (by first | exact Or.inl rfl | exact Or.inr rfl)) (pss_one (ps_set (i := 3) nd rfl (by first | exact Or.inl rfl | exact Or.inr rfl) (pe_op op_mulW (pv 3) (pe_ix ix_list (pe_ix ix_list (pv 2) (pv 4) (fun _ _ => rfl)) (pv 4) (fun _ _ => rfl))))))
       (pss_cut (ps_if (pt_cmpR op_gt (pv 1) (pe_int) (nomark _)) (pss_one (ps_for PassesOwn.never rfl (pi_list (pe_slice sl_list (pv 0) (po_some (pe_int)) (po_some (pe_int)))) (pg_name (i := 5) nd rfl (by first | exact Or.inl rfl | exact Or.inr rfl)) (pss_cons (ps_set (i := 4) nd rfl (by first | exact Or.inl rfl | exact Or.inr rfl) (pe_op op_modN (pv 5) (pv 1)))
       (pss_cons (ps_set (i := 6) nd rfl (by first | exact Or.inl rfl | exact Or.inr rfl) (pe_op op_modN (pe_op op_add (pe_op op_add (pv 4) (pe_int)) (pe_op op_modN (pe_op op_fdivA (pv 5) (pv 1)) (pe_op op_sub (pv 1) (pe_int)))) (pv 1)))
       (pss_cons (ps_set (i := 7) nd rfl (by first | exact Or.inl rfl | exact Or.inr rfl) (pe_op op_sub (pe_op op_modN (pe_op op_fdivA (pv 5) (pe_op op_mulW (pv 1) (pv 1))) (pe_int)) (pe_int)))
       (pss_one (ps_if (pt_cmpR op_eq (pv 7) (pe_int) (nomark _)) (pss_cons (ps_set (i := 8) nd rfl (by first | exact Or.inl rfl | exact Or.inr rfl) (pe_ix ix_list (pv 2) (pv 4) (fun _ _ => rfl)))
       (pss_cons (ps_asg (pe_ix ix_list (pv 2) (pv 6) (fun _ _ => rfl)) (pg_sub (pv 2) (pv 4) set_list))
       (pss_cons (ps_asg (pv 8) (pg_sub (pv 2) (pv 6) set_list))
       (pss_one (ps_set (i := 3) nd rfl (by first | exact Or.inl rfl | exact Or.inr rfl) (pe_un un_neg (pv 3))))))) (pss_one (ps_asg (pe_lc (own := [("_law_k", 9)]) (by rfl) nd (pi_range1 (by rfl) T.z_range (pa_cons (pv 1) (pa_nil))) (blkOk_by (own := [("_law_k", 9)]) (N := ["_law_script", "_law_size_here", "_law_rows", "_law_due", "_law_i", "_law_cell", "_law_j", "_law_many", "_law_kept", "_law_k", "_law_handed", "_law_row", "_law_found"]) (sc := defScope s_law) (by decide +kernel)) (fun _ _ _ _ _ => pg_name (i := 9) nd rfl (by first | exact Or.inl rfl | exact Or.inr rfl)) (fun _ _ _ _ _ => pts_nil) (fun _ _ _ _ _ => pe_op op_add (pe_ix ix_list (pe_ix ix_list (pv 2) (pv 4) (fun _ _ => rfl)) (pv 9) (fun _ _ => rfl)) (pe_op op_mulW (pv 7) (pe_ix ix_list (pe_ix ix_list (pv 2) (pv 6) (fun _ _ => rfl)) (pv 9) (fun _ _ => rfl))))) (pg_sub (pv 2) (pv 4) set_list)))))))))) (pss_nil))
       (pss_cons (ps_setLc (i := 10) (own := [("_law_row", 11)]) (by rfl) nd rfl rfl (sw_true rfl rfl rfl (by decide +kernel)) (pi_list (pv 2)) (blkOk_by (own := [("_law_row", 11)]) (N := ["_law_script", "_law_size_here", "_law_rows", "_law_due", "_law_i", "_law_cell", "_law_j", "_law_many", "_law_kept", "_law_k", "_law_handed", "_law_row", "_law_found"]) (sc := defScope s_law) (by decide +kernel)) (fun _ _ _ _ _ => pg_name (i := 11) nd rfl (by first | exact Or.inl rfl | exact Or.inr rfl)) (fun _ _ _ _ _ => pts_nil) (fun _ _ _ _ _ => pe_callTy call_list_of (by rfl) T.z_list (by decide +kernel) (pa_cons (pv 11) (pa_nil))))
       (pss_cons (ps_set (i := 12) nd rfl (by first | exact Or.inl rfl | exact Or.inr rfl) (pe_call G_determinant (hr.mono (by decide)) (by rfl) T.g_determinant T.F_determinant.kp B_determinant .nil pass0 (pa_cons (pv 10) (pa_nil))))
       (pss_one (ps_ret (pe_and (pe_call G__law_whole (hr.mono (by decide)) (by rfl) T.g__law_whole T.F__law_whole.kp B__law_whole .nil pass0 (pa_cons (pv 12) (pa_nil))) (pe_and (pe_cmpR op_eq (pv 12) (pv 3) (nomark _)) (pe_one (pe_cmpR (op_eqD hr.units) (pv 10) (pv 2) (nomark _)))))))))))))
end
theorem all_mk {l : PySem.W.OpenLaw} {w : World} {K : PySem.W.Frag} {h : Heap} {mg : Str → Option Value} {fa : Addr} (X : K.In h) (G : h.Ns mainGlobals mg) (hfa : mg "law" = some (.ref fa))
    {f0 : Addr} {od0 an0 : Option Addr} {sl0 : Array (Option Value)} {oc0 kV0 dc0 pm0 cd0 ct0 : Value}
    {f1 : Addr} {od1 an1 : Option Addr} {sl1 : Array (Option Value)} {oc1 kV1 dc1 pm1 cd1 ct1 : Value}
    {f2 : Addr} {od2 an2 : Option Addr} {sl2 : Array (Option Value)} {oc2 kV2 dc2 pm2 cd2 ct2 : Value}
    {f3 : Addr} {od3 an3 : Option Addr} {sl3 : Array (Option Value)} {oc3 kV3 dc3 pm3 cd3 ct3 : Value}
    {f4 : Addr} {od4 an4 : Option Addr} {sl4 : Array (Option Value)} {oc4 kV4 dc4 pm4 cd4 ct4 : Value}
    {f5 : Addr} {od5 an5 : Option Addr} {sl5 : Array (Option Value)} {oc5 kV5 dc5 pm5 cd5 ct5 : Value}
    {f6 : Addr} {od6 an6 : Option Addr} {sl6 : Array (Option Value)} {oc6 kV6 dc6 pm6 cd6 ct6 : Value}
    {f7 : Addr} {od7 an7 : Option Addr} {sl7 : Array (Option Value)} {oc7 kV7 dc7 pm7 cd7 ct7 : Value}
    {f8 : Addr} {od8 an8 : Option Addr} {sl8 : Array (Option Value)} {oc8 kV8 dc8 pm8 cd8 ct8 : Value}
    (a0 : PySem.W.nsIn K mainGlobals "pivot_at" = some (some (.ref f0))) (l0 : K.lookup f0 = some ⟨oc0, od0, .func (PySem.W.fnOf "pivot_at" "pivot_at" (defArgs s_pivot_at) (defBody s_pivot_at) (defScope s_pivot_at) .none kV0 dc0 pm0 an0 cd0 ct0), sl0⟩) (c0 : PySem.W.codeIn K cd0 "pivot_at" = true) (k0 : PySem.W.keepIn K (.ref f0) = true)
    (a1 : PySem.W.nsIn K mainGlobals "cleared_rows" = some (some (.ref f1))) (l1 : K.lookup f1 = some ⟨oc1, od1, .func (PySem.W.fnOf "cleared_rows" "cleared_rows" (defArgs s_cleared_rows) (defBody s_cleared_rows) (defScope s_cleared_rows) .none kV1 dc1 pm1 an1 cd1 ct1), sl1⟩) (c1 : PySem.W.codeIn K cd1 "cleared_rows" = true) (k1 : PySem.W.keepIn K (.ref f1) = true)
    (a2 : PySem.W.nsIn K mainGlobals "determinant" = some (some (.ref f2))) (l2 : K.lookup f2 = some ⟨oc2, od2, .func (PySem.W.fnOf "determinant" "determinant" (defArgs s_determinant) (defBody s_determinant) (defScope s_determinant) .none kV2 dc2 pm2 an2 cd2 ct2), sl2⟩) (c2 : PySem.W.codeIn K cd2 "determinant" = true) (k2 : PySem.W.keepIn K (.ref f2) = true)
    (a3 : PySem.W.nsIn K mainGlobals "_law_cell_at" = some (some (.ref f3))) (l3 : K.lookup f3 = some ⟨oc3, od3, .func (PySem.W.fnOf "_law_cell_at" "_law_cell_at" (defArgs s__law_cell_at) (defBody s__law_cell_at) (defScope s__law_cell_at) .none kV3 dc3 pm3 an3 cd3 ct3), sl3⟩) (c3 : PySem.W.codeIn K cd3 "_law_cell_at" = true) (k3 : PySem.W.keepIn K (.ref f3) = true)
    (a4 : PySem.W.nsIn K mainGlobals "_law_whole" = some (some (.ref f4))) (l4 : K.lookup f4 = some ⟨oc4, od4, .func (PySem.W.fnOf "_law_whole" "_law_whole" (defArgs s__law_whole) (defBody s__law_whole) (defScope s__law_whole) .none kV4 dc4 pm4 an4 cd4 ct4), sl4⟩) (c4 : PySem.W.codeIn K cd4 "_law_whole" = true) (k4 : PySem.W.keepIn K (.ref f4) = true)
    (a5 : PySem.W.nsIn K mainGlobals "_law_along" = some (some (.ref f5))) (l5 : K.lookup f5 = some ⟨oc5, od5, .func (PySem.W.fnOf "_law_along" "_law_along" (defArgs s__law_along) (defBody s__law_along) (defScope s__law_along) .none kV5 dc5 pm5 an5 cd5 ct5), sl5⟩) (c5 : PySem.W.codeIn K cd5 "_law_along" = true) (k5 : PySem.W.keepIn K (.ref f5) = true)
    (a6 : PySem.W.nsIn K mainGlobals "_law_slanted" = some (some (.ref f6))) (l6 : K.lookup f6 = some ⟨oc6, od6, .func (PySem.W.fnOf "_law_slanted" "_law_slanted" (defArgs s__law_slanted) (defBody s__law_slanted) (defScope s__law_slanted) .none kV6 dc6 pm6 an6 cd6 ct6), sl6⟩) (c6 : PySem.W.codeIn K cd6 "_law_slanted" = true) (k6 : PySem.W.keepIn K (.ref f6) = true)
    (a7 : PySem.W.nsIn K mainGlobals "_law_size" = some (some (.ref f7))) (l7 : K.lookup f7 = some ⟨oc7, od7, .func (PySem.W.fnOf "_law_size" "_law_size" (defArgs s__law_size) (defBody s__law_size) (defScope s__law_size) .none kV7 dc7 pm7 an7 cd7 ct7), sl7⟩) (c7 : PySem.W.codeIn K cd7 "_law_size" = true) (k7 : PySem.W.keepIn K (.ref f7) = true)
    (a8 : PySem.W.nsIn K mainGlobals "law" = some (some (.ref f8))) (l8 : K.lookup f8 = some ⟨oc8, od8, .func (PySem.W.fnOf "law" "law" (defArgs s_law) (defBody s_law) (defScope s_law) .none kV8 dc8 pm8 an8 cd8 ct8), sl8⟩) (c8 : PySem.W.codeIn K cd8 "law" = true) (k8 : PySem.W.keepIn K (.ref f8) = true)
    (z_bool : PySem.W.nsIn K mainGlobals "bool" = some none)
    (z_int : PySem.W.nsIn K mainGlobals "int" = some none)
    (z_isinstance : PySem.W.nsIn K mainGlobals "isinstance" = some none)
    (z_len : PySem.W.nsIn K mainGlobals "len" = some none)
    (z_list : PySem.W.nsIn K mainGlobals "list" = some none)
    (z_range : PySem.W.nsIn K mainGlobals "range" = some none)
    : ∃ fd : FuncData, (∀ (s : Shared) (v : Value), BindsTo s fd ⟨[v], []⟩ [("_law_script", v)]) ∧ ∀ base : Heap, K.In base → base.Ns mainGlobals mg → FnOk l.prog w K mg base CX0 3 fa fd ["_law_script"] (sp_law K (fun _ => 0)) := by
  have e := hfa.symm.trans (PySem.W.mg_of X G a8)
  cases e
  have T : Txt K mg (fun _ => 0) (fun i => [f0, f1, f2, f3, f4, f5, f6, f7, fa].getD i 0) (fun i => [PySem.W.fnOf "pivot_at" "pivot_at" (defArgs s_pivot_at) (defBody s_pivot_at) (defScope s_pivot_at) .none kV0 dc0 pm0 an0 cd0 ct0, PySem.W.fnOf "cleared_rows" "cleared_rows" (defArgs s_cleared_rows) (defBody s_cleared_rows) (defScope s_cleared_rows) .none kV1 dc1 pm1 an1 cd1 ct1, PySem.W.fnOf "determinant" "determinant" (defArgs s_determinant) (defBody s_determinant) (defScope s_determinant) .none kV2 dc2 pm2 an2 cd2 ct2, PySem.W.fnOf "_law_cell_at" "_law_cell_at" (defArgs s__law_cell_at) (defBody s__law_cell_at) (defScope s__law_cell_at) .none kV3 dc3 pm3 an3 cd3 ct3, PySem.W.fnOf "_law_whole" "_law_whole" (defArgs s__law_whole) (defBody s__law_whole) (defScope s__law_whole) .none kV4 dc4 pm4 an4 cd4 ct4, PySem.W.fnOf "_law_along" "_law_along" (defArgs s__law_along) (defBody s__law_along) (defScope s__law_along) .none kV5 dc5 pm5 an5 cd5 ct5, PySem.W.fnOf "_law_slanted" "_law_slanted" (defArgs s__law_slanted) (defBody s__law_slanted) (defScope s__law_slanted) .none kV6 dc6 pm6 an6 cd6 ct6, PySem.W.fnOf "_law_size" "_law_size" (defArgs s__law_size) (defBody s__law_size) (defScope s__law_size) .none kV7 dc7 pm7 an7 cd7 ct7, PySem.W.fnOf "law" "law" (defArgs s_law) (defBody s_law) (defScope s_law) .none kV8 dc8 pm8 an8 cd8 ct8].getD i (PySem.W.fnOf "law" "law" (defArgs s_law) (defBody s_law) (defScope s_law) .none kV8 dc8 pm8 an8 cd8 ct8)) :=
    { z_bool := PySem.W.mg_none_of X G z_bool, z_int := PySem.W.mg_none_of X G z_int, z_isinstance := PySem.W.mg_none_of X G z_isinstance, z_len := PySem.W.mg_none_of X G z_len, z_list := PySem.W.mg_none_of X G z_list, z_range := PySem.W.mg_none_of X G z_range, g_pivot_at := PySem.W.mg_of X G a0, F_pivot_at := fun_mk (st := s_pivot_at) l0 c0 k0, g_cleared_rows := PySem.W.mg_of X G a1, F_cleared_rows := fun_mk (st := s_cleared_rows) l1 c1 k1, g_determinant := PySem.W.mg_of X G a2, F_determinant := fun_mk (st := s_determinant) l2 c2 k2, g__law_cell_at := PySem.W.mg_of X G a3, F__law_cell_at := fun_mk (st := s__law_cell_at) l3 c3 k3, g__law_whole := PySem.W.mg_of X G a4, F__law_whole := fun_mk (st := s__law_whole) l4 c4 k4, g__law_along := PySem.W.mg_of X G a5, F__law_along := fun_mk (st := s__law_along) l5 c5 k5, g__law_slanted := PySem.W.mg_of X G a6, F__law_slanted := fun_mk (st := s__law_slanted) l6 c6 k6, g__law_size := PySem.W.mg_of X G a7, F__law_size := fun_mk (st := s__law_size) l7 c7 k7, g_law := PySem.W.mg_of X G a8, F_law := fun_mk (st := s_law) l8 c8 k8 }
  exact ⟨PySem.W.fnOf "law" "law" (defArgs s_law) (defBody s_law) (defScope s_law) .none kV8 dc8 pm8 an8 cd8 ct8, fun s v => .of_eq rfl, fun base _ _ => ok_law T⟩
end RP
open PySem PySem.W PyProof.Rows
set_option maxHeartbeats 0 in
theorem PySem.Challenge.cw_rootspan_k33_determinant_built_holds : PySem.Challenge.rw_rootspan_k33_determinant_built.Holds := by
  w_on; o_law; k_head; (case hw => w_witness2)
  k_fill
  refine L2.walk_of (l := PySem.Challenge.rw_rootspan_k33_determinant_built) (n := 63) (k := 3) (x := "_law_script") (CX := fun _ => L2.CX0) (sp := fun w => RP.sp_law _ (fun _ => 0)) rfl (by decide) rfl ⟨rfl, by decide, by decide⟩ (fun w h Y => PySem.W.kIn_of Y) ?F (fun _ _ a ns hl _ hS => ⟨a, ns, rfl, hS, hl, fun _ => rfl⟩) (fun _ _ _ _ _ h => h)
  case F =>
    intro w mg fa h KX G hmg
    refine' RP.all_mk KX G hmg ?a0 ?l0 ?c0 ?k0 ?a1 ?l1 ?c1 ?k1 ?a2 ?l2 ?c2 ?k2 ?a3 ?l3 ?c3 ?k3 ?a4 ?l4 ?c4 ?k4 ?a5 ?l5 ?c5 ?k5 ?a6 ?l6 ?c6 ?k6 ?a7 ?l7 ?c7 ?k7 ?a8 ?l8 ?c8 ?k8 ?z_bool ?z_int ?z_isinstance ?z_len ?z_list ?z_range
    (case a0 => k_is); (case l0 => k_is); (case c0 => k_is); (case k0 => k_is); (case a1 => k_is); (case l1 => k_is); (case c1 => k_is); (case k1 => k_is); (case a2 => k_is); (case l2 => k_is); (case c2 => k_is); (case k2 => k_is); (case a3 => k_is); (case l3 => k_is); (case c3 => k_is); (case k3 => k_is); (case a4 => k_is); (case l4 => k_is); (case c4 => k_is); (case k4 => k_is); (case a5 => k_is); (case l5 => k_is); (case c5 => k_is); (case k5 => k_is); (case a6 => k_is); (case l6 => k_is); (case c6 => k_is); (case k6 => k_is); (case a7 => k_is); (case l7 => k_is); (case c7 => k_is); (case k7 => k_is); (case a8 => k_is); (case l8 => k_is); (case c8 => k_is); (case k8 => k_is); (case z_bool => k_is); (case z_int => k_is); (case z_isinstance => k_is); (case z_len => k_is); (case z_list => k_is); (case z_range => k_is)

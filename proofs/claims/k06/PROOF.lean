import PyProof.Rows.All
import Wide.All
import OpenK.AllK
import Wide.FinOn
import HandS.ForMost
import HandS.Exc
import HandS.TryOnly
import HandS.ExcOwn
import HandS.WordsExc
import HandS.Wide
import HandS.IsInst
import HandS.Conv
import HandS.RevRange
import HandS.Evl
import HandS.More
import HandS.Style
import HandS.Defaults
import PySem.Challenge.RW_rootspan_k06_values_and_roots
set_option Elab.async false
set_option linter.all false
set_option maxRecDepth 100000
set_option maxHeartbeats 4000000
set_option exponentiation.threshold 100000
set_option linter.all false
set_option maxRecDepth 100000
set_option maxHeartbeats 4000000
namespace RB
open PySem PySem.Spec PyProof.Rows L2
open Evl (Ex rLenS rListS rMax2 tCut pss_cut)

/-! ### the readings' names -/
def rIAdd : R2 := rI0 fun i j => .int (i + j)
def rISub : R2 := rI0 fun i j => .int (i - j)
def rMul : R2 := rI CMulW fun i j => .int (i * j)
def rMod : R2 := rI (fun _ j => j ≠ 0) fun i j => .int (i.fmod j)
def CDivA (_ j : Int) : Prop := j ≠ 0 ∧ j.natAbs.log2 < 9000
def rDiv : R2 := rI CDivA fun i j => .int (i.fdiv j)
def rPow : R2 := rI CPow fun i j => .int (i ^ j.toNat)
def rLt : R2 := rI0 fun i j => .bl (decide (i < j))
def rLe : R2 := rI0 fun i j => .bl (decide (i ≤ j))
def rGt : R2 := rI0 fun i j => .bl (decide (j < i))
def rGe : R2 := rI0 fun i j => .bl (decide (j ≤ i))
def rIsN : R2 := fun x y H Q => y = .non ∧ Q (.bl (decide (x = .non))) H
def rNotN : R2 := fun x y H Q => y = .non ∧ Q (.bl (!decide (x = .non))) H
def rNeg : V → Hp → VK → Prop := rU fun i => .int (-i)
def rAbs : List V → Hp → VK → Prop := fun xs H Q => ∃ i, xs = [.int i] ∧ Q (.int (if i < 0 then -i else i)) H
def rMin2 : List V → Hp → VK → Prop := fun xs H Q => ∃ i j, xs = [.int i, .int j] ∧ Q (.int (if j < i then j else i)) H
def rInt1 : List V → Hp → VK → Prop := fun xs H Q => (∃ i, xs = [.int i] ∧ Q (.int i) H) ∨ ∃ k, xs = [.bl k] ∧ Q (.int (if k then 1 else 0)) H
def rAddS : R2 := fun x y H Q => ∃ i j, x = .str i ∧ y = .str j ∧ i.length + j.length ≤ sizeLine ∧ Q (.str (i ++ j)) H
def rLenStr : List V → Hp → VK → Prop := fun xs H Q => ∃ z, xs = [.str z] ∧ z.length ≤ sizeLine ∧ Q (.int z.length) H
def rStrInt : List V → Hp → VK → Prop := fun xs H Q => ∃ i, xs = [.int i] ∧ i.natAbs.log2 < 1920 ∧ Q (.str (toString i)) H
def rInsert : V → List V → Hp → VK → Prop := fun x vs H Q => ∃ (l : Addr) (xs : List V) (i : Int) (y : V), x = .ref l ∧ vs = [.int i, y] ∧ H l = some (.lst xs) ∧ xs.length < sizeLine ∧ 0 ≤ i ∧ i < 2 ^ 63 ∧ Q .non (upd H l (.lst (xs.take i.toNat ++ [y] ++ xs.drop i.toNat)))
section
variable {X : Cx}
theorem op_fdivA : OpR X (binaryOp .FloorDiv) rDiv := opI fun i j _ _ _ _ _ hc q => floordiv_int hc.1 q (.inl (PyProof.noPylong_of_log2 hc.2))
theorem op_isN1 : OpR X (compareOp .Is) rIsN := op_isN
theorem op_notN1 : OpR X (compareOp .IsNot) rNotN := op_notN
end

/-! ### heaps -/
def Exb (l : Addr) (H H' : Hp) : Prop := ∀ a, a ≠ l → ∀ o, H a = some o → H' a = some o
theorem _root_.Evl.Ex.mutb {H0 H H' : Hp} {l : Addr} (e : Ex H0 H) (b : Exb l H H') (f : H0 l = none) : Ex H0 H' := fun a o h => b a (ne_of_none h f) o (e a o h)
theorem Exb.trans {l : Addr} {H H1 H2 : Hp} (a : Exb l H H1) (b : Exb l H1 H2) : Exb l H H2 := fun c n o h => b c n o (a c n o h)
theorem Exb.ex {l : Addr} {H H1 H2 : Hp} (a : Exb l H H1) (b : Ex H1 H2) : Exb l H H2 := fun c n o h => b c o (a c n o h)
theorem _root_.Evl.Ex.exb {l : Addr} {H H1 H2 : Hp} (a : Ex H H1) (b : Exb l H1 H2) : Exb l H H2 := fun c n o h => b c n o (a c o h)
/-- a list laid anew -/
theorem newL {H : Hp} {xs : List V} {Q : VK} (k : ∀ p H', H p = none → Ex H H' → H' p = some (.lst xs) → Q (.ref p) H') : ∀ p, H p = none → Q (.ref p) (upd H p (.lst xs)) :=
  fun p hp => k p _ hp (Evl.Ex.new hp) upd_same
theorem newT {H : Hp} {xs : List V} {Q : VK} (k : ∀ p H', H p = none → Ex H H' → H' p = some (.tup xs) → Q (.ref p) H') : ∀ p, H p = none → Q (.ref p) (upd H p (.tup xs)) :=
  fun p hp => k p _ hp (Evl.Ex.new hp) upd_same
/-- an object changed -/
theorem mutL {H : Hp} {l : Addr} {o : HO} {G : Hp → Prop} (k : ∀ H', Exb l H H' → H' l = some o → G H') : G (upd H l o) :=
  k _ (fun a n o h => by rw [upd_ne n]; exact h) upd_same
theorem _root_.Evl.Ex.free {H H' : Hp} (e : Ex H H') {p : Addr} (h : H' p = none) : H p = none := Evl.fresh_back e h
theorem _root_.Evl.Ex.l {K : PySem.W.Frag} {H H' : Hp} {a : Addr} {xs : List V} (e : Ex H H') (h : SqL K H a xs) : SqL K H' a xs := Evl.ex_l e h
theorem SqL.inj {K : PySem.W.Frag} {H : Hp} {a : Addr} {xs : List V} (h : H a = some (.lst xs)) : SqL K H a xs := .inl (.inl h)

def LstK (Q : VK) : List V → Hp → Prop := fun xs H1 => xs.length ≤ sizeLine ∧ ∀ p, H1 p = none → Q (.ref p) (upd H1 p (.lst xs))
def TupK (Q : VK) : List V → Hp → Prop := fun xs H1 => xs.length ≤ sizeLine ∧ ∀ p, H1 p = none → Q (.ref p) (upd H1 p (.tup xs))
theorem small0 {n : Nat} (h : n ≤ 16777216) : n ≤ sizeLine := by rw [sizeLine_eq]; exact h
/-! ### readings, step by step -/
section
variable {K : PySem.W.Frag} {σ : L2.St} {H : Hp} {Q : VK} {D : Ends} {ta tb te to ti : TE} {t u : TS} {tt t1 t2 : TT} {g : TG}
theorem r_seq (h : t { D with nx := u D } σ H) : tSeq t u D σ H := h
theorem r_next (h : D.nx σ H) : tNext D σ H := h
theorem r_var {i : Nat} {v : V} (h : σ[i]? = some (some v)) (q : Q v H) : tVar i σ H Q := ⟨v, h, q⟩
theorem r_c {v : V} (q : Q v H) : tC v σ H Q := q
theorem r_op {r : R2} (h : ta σ H fun x H1 => tb σ H1 fun y H2 => r x y H2 Q) : tOp r ta tb σ H Q := h
theorem r_un {r : V → Hp → VK → Prop} (h : ta σ H fun x H1 => r x H1 Q) : tUn r ta σ H Q := h
theorem r_add {i j : Int} (q : Q (.int (i + j)) H) : rIAdd (.int i) (.int j) H Q := ⟨i, j, rfl, rfl, q⟩
theorem r_sub {i j : Int} (q : Q (.int (i - j)) H) : rISub (.int i) (.int j) H Q := ⟨i, j, rfl, rfl, q⟩
theorem r_mul {i j : Int} (c : CMulW i j) (q : Q (.int (i * j)) H) : rMul (.int i) (.int j) H Q := ⟨i, j, rfl, rfl, c, q⟩
theorem r_mod {i j : Int} (c : j ≠ 0) (q : Q (.int (i.fmod j)) H) : rMod (.int i) (.int j) H Q := ⟨i, j, rfl, rfl, c, q⟩
theorem r_div {i j : Int} (c : CDivA i j) (q : Q (.int (i.fdiv j)) H) : rDiv (.int i) (.int j) H Q := ⟨i, j, rfl, rfl, c, q⟩
theorem r_pow {i j : Int} (c : CPow i j) (q : Q (.int (i ^ j.toNat)) H) : rPow (.int i) (.int j) H Q := ⟨i, j, rfl, rfl, c, q⟩
theorem r_lt {i j : Int} (q : Q (.bl (decide (i < j))) H) : rLt (.int i) (.int j) H Q := ⟨i, j, rfl, rfl, q⟩
theorem r_le {i j : Int} (q : Q (.bl (decide (i ≤ j))) H) : rLe (.int i) (.int j) H Q := ⟨i, j, rfl, rfl, q⟩
theorem r_gt {i j : Int} (q : Q (.bl (decide (j < i))) H) : rGt (.int i) (.int j) H Q := ⟨i, j, rfl, rfl, q⟩
theorem r_ge {i j : Int} (q : Q (.bl (decide (j ≤ i))) H) : rGe (.int i) (.int j) H Q := ⟨i, j, rfl, rfl, q⟩
theorem r_neg {i : Int} (q : Q (.int (-i)) H) : rNeg (.int i) H Q := ⟨i, rfl, q⟩
theorem d_int (i j : Int) : decide (V.int i = V.int j) = decide (i = j) := by
  by_cases h : i = j
  · rw [h]; simp
  · rw [decide_eq_false h, decide_eq_false (fun z => h (V.int.inj z))]
theorem d_bl (i j : Bool) : decide (V.bl i = V.bl j) = decide (i = j) := by
  by_cases h : i = j
  · rw [h]; simp
  · rw [decide_eq_false h, decide_eq_false (fun z => h (V.bl.inj z))]
theorem d_str (i j : Str) : decide (V.str i = V.str j) = decide (i = j) := by
  by_cases h : i = j
  · rw [h]; simp
  · rw [decide_eq_false h, decide_eq_false (fun z => h (V.str.inj z))]
theorem r_eqI {i j : Int} (q : Q (.bl (decide (i = j))) H) : rEq (.int i) (.int j) H Q := ⟨rfl, by rw [d_int]; exact q⟩
theorem r_neI {i j : Int} (q : Q (.bl (!decide (i = j))) H) : rNe (.int i) (.int j) H Q := ⟨rfl, by rw [d_int]; exact q⟩
theorem r_eqB {i j : Bool} (q : Q (.bl (decide (i = j))) H) : rEq (.bl i) (.bl j) H Q := ⟨rfl, by rw [d_bl]; exact q⟩
theorem r_eqS {i j : Str} (q : Q (.bl (decide (i = j))) H) : rEq (.str i) (.str j) H Q := ⟨rfl, by rw [d_str]; exact q⟩
theorem r_neS {i j : Str} (q : Q (.bl (!decide (i = j))) H) : rNe (.str i) (.str j) H Q := ⟨rfl, by rw [d_str]; exact q⟩
theorem r_isN {x : V} (q : Q (.bl (decide (x = .non))) H) : rIsN x .non H Q := ⟨rfl, q⟩
theorem r_notN {x : V} (q : Q (.bl (!decide (x = .non))) H) : rNotN x .non H Q := ⟨rfl, q⟩
theorem r_ixL {p : Addr} {i : Int} {xs : List V} {v : V} (h : SqL K H p xs) (a : atI xs i = some v) (q : Q v H) : rIxL K (.ref p) (.int i) H Q := ⟨p, xs, i, v, rfl, rfl, h, a, q⟩
theorem r_ixT {p : Addr} {i : Int} {xs : List V} {v : V} (h : SqT K H p xs) (a : atI xs i = some v) (q : Q v H) : rIxT K (.ref p) (.int i) H Q := ⟨p, xs, i, v, rfl, rfl, h, a, q⟩
theorem r_cons {ta : TE} {tr : TA} {Q : List V → Hp → Prop} (h : ta σ H fun x H1 => tr σ H1 fun xs H2 => Q (x :: xs) H2) : tCons ta tr σ H Q := h
theorem r_nil {Q : List V → Hp → Prop} (h : Q [] H) : tNil σ H Q := h
theorem r_cb {r : List V → Hp → VK → Prop} {ta : TA} (h : ta σ H fun vs H1 => r vs H1 Q) : tCB r ta σ H Q := h
theorem r_abs {i : Int} (q : Q (.int (if i < 0 then -i else i)) H) : rAbs [.int i] H Q := ⟨i, rfl, q⟩
theorem r_max2 {i j : Int} (q : Q (.int (if j > i then j else i)) H) : rMax2 [.int i, .int j] H Q := ⟨i, j, rfl, q⟩
theorem r_min2 {i j : Int} (q : Q (.int (if j < i then j else i)) H) : rMin2 [.int i, .int j] H Q := ⟨i, j, rfl, q⟩
theorem r_len {p : Addr} {xs : List V} (h : SqL K H p xs) (q : Q (.int xs.length) H) : rLenS K [.ref p] H Q := ⟨p, xs, rfl, .inl h, q⟩
theorem r_lenT {p : Addr} {xs : List V} (h : SqT K H p xs) (q : Q (.int xs.length) H) : rLenS K [.ref p] H Q := ⟨p, xs, rfl, .inr h, q⟩
theorem r_list {p : Addr} {xs : List V} (h : SqL K H p xs) (q : ∀ l H', H l = none → Ex H H' → H' l = some (.lst xs) → Q (.ref l) H') : rListS K [.ref p] H Q := ⟨p, xs, rfl, .inl h, newL q⟩
theorem r_intI {i : Int} (q : Q (.int i) H) : rInt1 [.int i] H Q := .inl ⟨i, rfl, q⟩
theorem r_intB {b : Bool} (q : Q (.int (if b then 1 else 0)) H) : rInt1 [.bl b] H Q := .inr ⟨b, rfl, q⟩
theorem r_call {sp : Sp} {E : XK} {ta : TA} (h : ta σ H fun vs H1 => sp vs H1 Q E) : tCall sp [] E ta σ H Q := by
  show ta σ H fun vs H1 => sp (vs ++ []) H1 Q E
  have e : (fun vs H1 => sp (vs ++ []) H1 Q E) = fun (vs : List V) H1 => sp vs H1 Q E := by
    funext vs H1; rw [List.append_nil]
  rw [e]; exact h
theorem r_lst {ta : TA} (h : ta σ H (LstK Q)) : tLst ta σ H Q := h
theorem r_lstK {xs : List V} (k : ∀ p H', H p = none → Ex H H' → H' p = some (.lst xs) → Q (.ref p) H') (hz : xs.length ≤ 16777216 := by simp) : LstK Q xs H := ⟨small0 hz, newL k⟩
theorem r_tup {ta : TA} (h : ta σ H (TupK Q)) : tTup ta σ H Q := h
theorem r_tupK {xs : List V} (k : ∀ p H', H p = none → Ex H H' → H' p = some (.tup xs) → Q (.ref p) H') (hz : xs.length ≤ 16777216 := by simp) : TupK Q xs H := ⟨small0 hz, newT k⟩
theorem r_asg (h : te σ H fun x H1 => g x σ H1 D.nx) : tAsg te g D σ H := h
theorem r_gn {i : Nat} {v : V} {Q : L2.St → Hp → Prop} (h : Q (σ.set i (some v)) H) : gName i v σ H Q := h
theorem r_ret (h : te σ H D.rt) : tRet te D σ H := h
theorem r_drop (h : te σ H fun _ H1 => D.nx σ H1) : tDrop te D σ H := h
theorem r_ifS (h : tt σ H fun b H1 => if b = true then t D σ H1 else u D σ H1) : tIfS tt t u D σ H := h
theorem r_test {Q : Bool → Hp → Prop} (h : te σ H fun x H1 => ∃ k, x = .bl k ∧ Q k H1) : tTest te σ H Q := h
theorem r_B {Q : Bool → Hp → Prop} (h : te σ H fun x H1 => ∃ k, x = .bl k ∧ Q k H1) : tB te σ H Q := h
theorem r_bl {k : Bool} {Q : Bool → Prop} (h : Q k) : ∃ k', V.bl k = .bl k' ∧ Q k' := ⟨k, rfl, h⟩
theorem r_and {Q : Bool → Hp → Prop} (h : t1 σ H fun c H1 => if c = true then t2 σ H1 Q else Q false H1) : tAnd t1 t2 σ H Q := h
theorem r_or {Q : Bool → Hp → Prop} (h : t1 σ H fun c H1 => if c = true then Q true H1 else t2 σ H1 Q) : tOr t1 t2 σ H Q := h
theorem r_not {Q : Bool → Hp → Prop} (h : tt σ H fun c H1 => Q (!c) H1) : tNot tt σ H Q := h
theorem r_andV (h : ta σ H fun x H1 => ∃ c, x = .bl c ∧ if c = true then tb σ H1 Q else Q (.bl false) H1) : tAndV ta tb σ H Q := h
theorem r_orV (h : ta σ H fun x H1 => ∃ c, x = .bl c ∧ if c = true then Q (.bl true) H1 else tb σ H1 Q) : tOrV ta tb σ H Q := h
theorem r_notV (h : ta σ H fun x H1 => ∃ c, x = .bl c ∧ Q (.bl (!c)) H1) : tNotV ta σ H Q := h
theorem r_if (h : tt σ H fun c H1 => if c = true then ta σ H1 Q else tb σ H1 Q) : tIf tt ta tb σ H Q := h
theorem r_bm {T : String} {r : V → List V → Hp → VK → Prop} {ta : TA} (h : to σ H fun x H1 => tyV K T x H1 ∧ ta σ H1 fun xs H2 => r x xs H2 Q) : tBM K T r to ta σ H Q := h
theorem r_bm0 {T : String} {r : V → List V → Hp → VK → Prop} (h : to σ H fun x H1 => tyV K T x H1 ∧ r x [] H1 Q) : tBM0 K T r to σ H Q := h
theorem r_append {l : Addr} {xs : List V} {y : V} (h : H l = some (.lst xs)) (z : xs.length < sizeLine) (q : ∀ H', Exb l H H' → H' l = some (.lst (xs ++ [y])) → Q .non H') : rAppend (.ref l) [y] H Q :=
  ⟨l, xs, y, rfl, rfl, h, z, mutL q⟩
theorem r_pop {l : Addr} {xs : List V} {y : V} (h : H l = some (.lst xs)) (z : xs[xs.length - 1]? = some y) (q : ∀ H', Exb l H H' → H' l = some (.lst xs.dropLast) → Q y H') : rPop (.ref l) [] H Q :=
  ⟨l, xs, y, rfl, rfl, h, z, mutL q⟩
theorem r_insert {l : Addr} {xs : List V} {y : V} {i : Int} (h : H l = some (.lst xs)) (z : xs.length < sizeLine) (h0 : 0 ≤ i) (h1 : i < 2 ^ 63) (q : ∀ H', Exb l H H' → H' l = some (.lst (xs.take i.toNat ++ [y] ++ xs.drop i.toNat)) → Q .non H') : rInsert (.ref l) [.int i, y] H Q :=
  ⟨l, xs, i, y, rfl, rfl, h, z, h0, h1, mutL q⟩
theorem tyL {p : Addr} {xs : List V} (h : H p = some (.lst xs)) : tyV K "list" (.ref p) H := .inl ⟨rfl, _, .inl (.inl h)⟩
theorem r_ty {T : String} {x : V} {B : Prop} (h : tyV K T x H) (q : B) : tyV K T x H ∧ B := ⟨h, q⟩
theorem r_sub_ {ts : TSet} {v : V} {Q : L2.St → Hp → Prop} (h : to σ H fun o H1 => ti σ H1 fun i H2 => ts o i v H2 fun H3 => Q σ H3) : gSub to ti ts v σ H Q := h
theorem r_setL {p : Addr} {xs : List V} {k : Int} {j : Nat} {v : V} {Q : Hp → Prop} (h : H p = some (.lst xs)) (hk : ixN xs.length k = some j) (q : ∀ H', Exb p H H' → H' p = some (.lst (xs.set j v)) → Q H') : rSetL (.ref p) (.int k) v H Q :=
  ⟨p, xs, k, j, rfl, rfl, h, hk, mutL q⟩
theorem r_cat {l b : Addr} {xs zs : List V} (h1 : H l = some (.lst xs)) (h2 : H b = some (.lst zs)) (z : xs.length + zs.length ≤ sizeLine) (q : ∀ p H', H p = none → Ex H H' → H' p = some (.lst (xs ++ zs)) → Q (.ref p) H') : rCat (.ref l) (.ref b) H Q :=
  ⟨l, b, xs, zs, rfl, rfl, h1, h2, z, newL q⟩
theorem flat_rep {α : Type} (x : α) : ∀ n : Nat, (List.replicate n [x]).flatten = List.replicate n x
  | 0 => rfl
  | n + 1 => by rw [List.replicate_succ, List.flatten_cons, flat_rep x n, List.replicate_succ]; rfl
/-- [x] * k -/
theorem r_rep1 {l : Addr} {x : V} {k : Int} (h1 : H l = some (.lst [x])) (z : k.toNat ≤ 1000000) (q : ∀ p H', H p = none → Ex H H' → H' p = some (.lst (List.replicate k.toNat x)) → Q (.ref p) H')  (h0 : -(2 ^ 63) ≤ k := by omega) : rRep (.ref l) (.int k) H Q :=
  ⟨l, k, [x], rfl, rfl, h1, h0, by omega, by
    show 1 * k.toNat ≤ sizeLine
    rw [Nat.one_mul]
    exact Nat.le_trans z (by decide), newL fun p H' a b c => q p H' a b (by rw [flat_rep] at c; exact c)⟩
theorem r_sl {r : V → Option Int → Option Int → Hp → VK → Prop} {tl th : TO} (h : te σ H fun x H1 => tl σ H1 fun l H2 => th σ H2 fun u H3 => r x l u H3 Q) : tSl r te tl th σ H Q := h
theorem r_part {Q : Option Int → Hp → Prop} (h : te σ H fun x H1 => ∃ i, x = .int i ∧ Q (some i) H1) : tPart te σ H Q := h
theorem r_int {i : Int} {Q : Int → Prop} (h : Q i) : ∃ j, V.int i = .int j ∧ Q j := ⟨i, rfl, h⟩
theorem r_nopart {Q : Option Int → Hp → Prop} (h : Q none H) : tNoPart σ H Q := h
theorem r_slL {a : Addr} {xs : List V} {lo hi : Option Int} (h : SqL K H a xs) (q : ∀ p H', H p = none → Ex H H' → H' p = some (.lst (cutV xs lo hi)) → Q (.ref p) H') : rSlL K (.ref a) lo hi H Q := ⟨a, xs, rfl, h, newL q⟩
theorem r_par {i j : Nat} {ta : TA} (h : ta σ H fun vs H1 => ∃ v w, vs = [v, w] ∧ D.nx ((σ.set i (some v)).set j (some w)) H1) : tPar i j ta D σ H := h
theorem r_par2 {i j : Nat} {v w : V} (h : D.nx ((σ.set i (some v)).set j (some w)) H) : ∃ v' w', [v, w] = [v', w'] ∧ D.nx ((σ.set i (some v')).set j (some w')) H := ⟨v, w, rfl, h⟩
end
/-- a truth that is decided, both ways -/
theorem ite_d {p A B : Prop} [Decidable p] (h1 : p → A) (h2 : ¬ p → B) : if decide p = true then A else B := by
  by_cases h : p
  · rw [if_pos (decide_eq_true h)]; exact h1 h
  · rw [if_neg (by rw [decide_eq_false h]; decide)]; exact h2 h
theorem ite_nd {p A B : Prop} [Decidable p] (h1 : ¬ p → A) (h2 : p → B) : if (!decide p) = true then A else B := by
  by_cases h : p
  · rw [if_neg (by rw [decide_eq_true h]; decide)]; exact h2 h
  · rw [if_pos (by rw [decide_eq_false h]; rfl)]; exact h1 h
theorem ite_b {b : Bool} {A B : Prop} (h1 : b = true → A) (h2 : b = false → B) : if b = true then A else B := by
  cases b with
  | true => rw [if_pos rfl]; exact h1 rfl
  | false => rw [if_neg (by decide)]; exact h2 rfl

theorem r_isi {K : PySem.W.Frag} {H : Hp} {Q : VK} {x c : V} {t u : Value} {b : Bool} (ht : TyX K H x t) (hc : ClsV c u) (hk : PySem.W.kitOne K t u = some b) (q : Q (.bl b) H) : rIsi K [x, c] H Q := ⟨x, c, t, u, b, rfl, hc, ht, hk, q⟩
theorem iteD {p A B : Prop} [Decidable p] (h : p) (a : A) : if decide p = true then A else B := by rw [if_pos (decide_eq_true h)]; exact a
theorem iteDF {p A B : Prop} [Decidable p] (h : ¬ p) (a : B) : if decide p = true then A else B := by rw [if_neg (by rw [decide_eq_false h]; decide)]; exact a
/-! ### lists of ints, compared -/
theorem dp_ints {K : PySem.W.Frag} {H : Hp} : ∀ ns : List Int, DpAll K H (ns.map V.int) (ns.map PyData.int)
  | [] => .nil
  | n :: r => .cons (.int n) (dp_ints r)
theorem dp_listI {K : PySem.W.Frag} {H : Hp} {a : Addr} {ns : List Int} (h : SqL K H a (ns.map V.int)) : Dp K H (.ref a) (.list (ns.map PyData.int)) := .lst h (dp_ints ns)
def dI (ns : List Int) : PyData := .list (ns.map PyData.int)
theorem canLay_ints : ∀ ns : List Int, PyData.canLayAll0 (ns.map PyData.int) = true
  | [] => by simp [PyData.canLayAll0]
  | n :: r => by
    rw [List.map_cons, PyData.canLayAll0, canLay_ints r]; simp [PyData.canLay0]
theorem depth_ints : ∀ ns : List Int, PyData.depthAll (ns.map PyData.int) ≤ 1
  | [] => by simp [PyData.depthAll]
  | n :: r => by
    have := depth_ints r
    rw [List.map_cons, PyData.depthAll]
    simp [PyData.depth]
    omega
theorem shaped_dI (ns : List Int) : SeqAt.shaped (dI ns) = true := by
  have h1 := canLay_ints ns
  have h2 := depth_ints ns
  unfold SeqAt.shaped dI
  rw [Bool.and_eq_true, PyData.canLay0, PyData.depth]
  exact ⟨h1, decide_eq_true (by omega)⟩
theorem eqvAll_ints : ∀ ns ms : List Int, PyData.eqvAll (ns.map PyData.int) (ms.map PyData.int) = decide (ns = ms)
  | [], [] => by simp [PyData.eqvAll]
  | [], m :: r => by simp [PyData.eqvAll]
  | n :: r, [] => by simp [PyData.eqvAll]
  | n :: r, m :: s => by
    rw [List.map_cons, List.map_cons, PyData.eqvAll, eqvAll_ints r s]
    simp [PyData.eqv, Bool.beq_eq_decide_eq]
theorem eqv_dI (ns ms : List Int) : PyData.eqv (dI ns) (dI ms) = decide (ns = ms) := by
  unfold dI
  rw [PyData.eqv, eqvAll_ints]
theorem r_eqInts {K : PySem.W.Frag} {H : Hp} {Q : VK} {a b : Addr} {ns ms : List Int} (h1 : SqL K H a (ns.map V.int)) (h2 : SqL K H b (ms.map V.int)) (q : Q (.bl (decide (ns = ms))) H) : rEqD K (.ref a) (.ref b) H Q :=
  ⟨_, _, dp_listI h1, dp_listI h2, shaped_dI ns, shaped_dI ms, by rw [show PyData.eqv (.list (ns.map PyData.int)) (.list (ms.map PyData.int)) = decide (ns = ms) from eqv_dI ns ms]; exact q⟩
theorem r_neInts {K : PySem.W.Frag} {H : Hp} {Q : VK} {a b : Addr} {ns ms : List Int} (h1 : SqL K H a (ns.map V.int)) (h2 : SqL K H b (ms.map V.int)) (q : Q (.bl (!decide (ns = ms))) H) : rNeD K (.ref a) (.ref b) H Q :=
  ⟨_, _, dp_listI h1, dp_listI h2, shaped_dI ns, shaped_dI ms, by rw [show PyData.eqv (.list (ns.map PyData.int)) (.list (ms.map PyData.int)) = decide (ns = ms) from eqv_dI ns ms]; exact q⟩
/-! ### loops -/
def Lp (J : It) (g : TG) (tb : TS) (D : Ends) (σ : L2.St) (H : Hp) : Prop := ∃ W : Nat → Nat → L2.St → Hp → Prop, (∃ m, W 0 m σ H) ∧ ∀ i m σ H, W i m σ H →
  (J.stop i H ∧ D.nx σ H) ∨ (J.go i H ∧ ∃ N : L2.St → Hp → Prop, (∀ σ' H', N σ' H' → ∃ m', m' < m ∧ W (i + 1) m' σ' H') ∧ ∀ x H', J.yld i H x H' → g x σ H' fun σ2 H2 => tb { D with nx := N, ct := N, bk := D.nx } σ2 H2)
section
variable {K : PySem.W.Frag} {σ : L2.St} {H : Hp} {D : Ends} {te : TE} {ta : TA} {tb : TS} {g : TG} {wi : TI}
theorem r_for (h : wi σ H fun J H1 => Lp J g tb D σ H1) : tFor wi g tb D σ H := h
theorem r_iList {R : It → Hp → Prop} (h : te σ H fun x H1 => ∃ a, x = .ref a ∧ (∃ xs, SqL K H1 a xs) ∧ R (Itl K a) H1) : iList K te σ H R := h
theorem r_iListA {a : Addr} {xs : List V} (h : SqL K H a xs) (q : Lp (Itl K a) g tb D σ H) : ∃ a', V.ref a = .ref a' ∧ (∃ xs, SqL K H a' xs) ∧ Lp (Itl K a') g tb D σ H := ⟨a, rfl, ⟨xs, h⟩, q⟩
theorem r_iTup {R : It → Hp → Prop} (h : te σ H fun x H1 => ∃ a, x = .ref a ∧ (∃ xs, SqT K H1 a xs) ∧ R (Itt K a) H1) : iTup K te σ H R := h
theorem r_iTupA {a : Addr} {xs : List V} (h : SqT K H a xs) (q : Lp (Itt K a) g tb D σ H) : ∃ a', V.ref a = .ref a' ∧ (∃ xs, SqT K H a' xs) ∧ Lp (Itt K a') g tb D σ H := ⟨a, rfl, ⟨xs, h⟩, q⟩
theorem r_iRng1 {R : It → Hp → Prop} (h : ta σ H fun vs H1 => ∃ j : Int, vs = [.int j] ∧ -(2 ^ 62) ≤ j ∧ j < 2 ^ 62 ∧ R (Itr 0 j.toNat) H1) : iRng1 ta σ H R := h
theorem r_iRng1A {j : Int} (h0 : -(2 ^ 62) ≤ j) (h1 : j < 2 ^ 62) (q : Lp (Itr 0 j.toNat) g tb D σ H) : ∃ j' : Int, [V.int j] = [.int j'] ∧ -(2 ^ 62) ≤ j' ∧ j' < 2 ^ 62 ∧ Lp (Itr 0 j'.toNat) g tb D σ H := ⟨j, rfl, h0, h1, q⟩
theorem r_iRng2 {R : It → Hp → Prop} (h : ta σ H fun vs H1 => ∃ i j : Int, vs = [.int i, .int j] ∧ (-(2 ^ 62) ≤ i ∧ i < 2 ^ 62 ∧ -(2 ^ 62) ≤ j ∧ j < 2 ^ 62) ∧ R (Itr i (j - i).toNat) H1) : iRng2 ta σ H R := h
theorem r_iRng2A {i j : Int} (hb : -(2 ^ 62) ≤ i ∧ i < 2 ^ 62 ∧ -(2 ^ 62) ≤ j ∧ j < 2 ^ 62) (q : Lp (Itr i (j - i).toNat) g tb D σ H) : ∃ i' j' : Int, [V.int i, V.int j] = [.int i', .int j'] ∧ (-(2 ^ 62) ≤ i' ∧ i' < 2 ^ 62 ∧ -(2 ^ 62) ≤ j' ∧ j' < 2 ^ 62) ∧ Lp (Itr i' (j' - i').toNat) g tb D σ H := ⟨i, j, rfl, hb, q⟩
theorem r_iRev {R : It → Hp → Prop} (h : ta σ H fun vs H1 => ∃ (a : Addr) (xs : List V), vs = [.ref a] ∧ SqL K H1 a xs ∧ R (Itv K a xs.length) H1) : iRev K ta σ H R := h
theorem r_iRevA {a : Addr} {xs : List V} (h : SqL K H a xs) (q : Lp (Itv K a xs.length) g tb D σ H) : ∃ (a' : Addr) (xs : List V), [V.ref a] = [.ref a'] ∧ SqL K H a' xs ∧ Lp (Itv K a' xs.length) g tb D σ H := ⟨a, xs, rfl, h, q⟩
theorem r_iEnum {R : It → Hp → Prop} (h : ta σ H fun vs H1 => ∃ a xs, vs = [.ref a] ∧ SqL K H1 a xs ∧ R (Ite K a) H1) : iEnum K ta σ H R := h
theorem r_iEnumA {a : Addr} {xs : List V} (h : SqL K H a xs) (q : Lp (Ite K a) g tb D σ H) : ∃ (a' : Addr) (xs : List V), [V.ref a] = [.ref a'] ∧ SqL K H a' xs ∧ Lp (Ite K a') g tb D σ H := ⟨a, xs, rfl, h, q⟩
theorem r_iRevR {tr : L2.St → Hp → (Int → Int → Hp → Prop) → Prop} {R : It → Hp → Prop} (h : tr σ H fun a b H1 => -(2 ^ 62) ≤ a ∧ a < 2 ^ 62 ∧ -(2 ^ 62) ≤ b ∧ b < 2 ^ 62 ∧ R (Itc (a + (((b - a).toNat : Nat) : Int) - 1) (-1) (b - a).toNat) H1) : iRevR tr σ H R := h

theorem loop_list {a : Addr} {xs : List V} (Pv : Nat → L2.St → Hp → Prop) (h0 : Pv 0 σ H) (hl : ∀ i σ H, i ≤ xs.length → Pv i σ H → SqL K H a xs)
    (hs : ∀ i x σ H, xs[i]? = some x → Pv i σ H → g x σ H fun σ2 H2 => tb { D with nx := Pv (i + 1), ct := Pv (i + 1), bk := D.nx } σ2 H2) (hd : ∀ σ H, Pv xs.length σ H → D.nx σ H) : Lp (Itl K a) g tb D σ H := for_list Pv h0 hl hs hd
/-- a loop over a list of ints -/
theorem loop_ints {a : Addr} {ns : List Int} {j : Nat} (Pv : Nat → L2.St → Hp → Prop) (h0 : Pv 0 σ H) (hl : ∀ i σ H, i ≤ ns.length → Pv i σ H → SqL K H a (ns.map V.int))
    (hs : ∀ i x σ H, ns[i]? = some x → Pv i σ H → tb { D with nx := Pv (i + 1), ct := Pv (i + 1), bk := D.nx } (σ.set j (some (.int x))) H) (hd : ∀ σ H, Pv ns.length σ H → D.nx σ H) : Lp (Itl K a) (gName j) tb D σ H :=
  for_list (xs := ns.map V.int) Pv h0 (fun i σ H h => hl i σ H (by rw [List.length_map] at h; exact h)) (fun i x σ H hx hp => by
    rw [List.getElem?_map] at hx
    cases e : ns[i]? with
    | none => rw [e] at hx; cases hx
    | some z => rw [e] at hx; cases hx; exact hs i z σ H e hp) (fun σ H h => hd σ H (by rw [List.length_map] at h; exact h))
theorem loop_tup {a : Addr} {xs : List V} (Pv : Nat → L2.St → Hp → Prop) (h0 : Pv 0 σ H) (hl : ∀ i σ H, i ≤ xs.length → Pv i σ H → SqT K H a xs)
    (hs : ∀ i x σ H, xs[i]? = some x → Pv i σ H → g x σ H fun σ2 H2 => tb { D with nx := Pv (i + 1), ct := Pv (i + 1), bk := D.nx } σ2 H2) (hd : ∀ σ H, Pv xs.length σ H → D.nx σ H) : Lp (Itt K a) g tb D σ H := for_tup Pv h0 hl hs hd
theorem loop_range {lo : Int} {n : Nat} {j : Nat} (Pv : Nat → L2.St → Hp → Prop) (h0 : Pv 0 σ H)
    (hs : ∀ i σ H, i < n → Pv i σ H → tb { D with nx := Pv (i + 1), ct := Pv (i + 1), bk := D.nx } (σ.set j (some (.int (lo + (i : Int))))) H) (hd : ∀ σ H, Pv n σ H → D.nx σ H) : Lp (Itr lo n) (gName j) tb D σ H := for_range Pv h0 hs hd
theorem loop_range0 {n : Nat} {j : Nat} (Pv : Nat → L2.St → Hp → Prop) (h0 : Pv 0 σ H)
    (hs : ∀ i σ H, i < n → Pv i σ H → tb { D with nx := Pv (i + 1), ct := Pv (i + 1), bk := D.nx } (σ.set j (some (.int (i : Int)))) H) (hd : ∀ σ H, Pv n σ H → D.nx σ H) : Lp (Itr 0 n) (gName j) tb D σ H :=
  for_range Pv h0 (fun i σ H hi hp => by
    have e : (0 : Int) + (i : Int) = (i : Int) := Int.zero_add _
    rw [e]
    exact hs i σ H hi hp) hd
theorem loop_rangeC {lo c : Int} {n : Nat} {j : Nat} (Pv : Nat → L2.St → Hp → Prop) (h0 : Pv 0 σ H)
    (hs : ∀ i σ H, i < n → Pv i σ H → tb { D with nx := Pv (i + 1), ct := Pv (i + 1), bk := D.nx } (σ.set j (some (.int (lo + (i : Int) * c)))) H) (hd : ∀ σ H, Pv n σ H → D.nx σ H) : Lp (Itc lo c n) (gName j) tb D σ H := for_rangeC Pv h0 hs hd
theorem loop_rev {a : Addr} {xs : List V} (Pv : Nat → L2.St → Hp → Prop) (h0 : Pv 0 σ H) (hl : ∀ i σ H, i ≤ xs.length → Pv i σ H → SqL K H a xs)
    (hs : ∀ i x σ H, xs[xs.length - 1 - i]? = some x → i < xs.length → Pv i σ H → g x σ H fun σ2 H2 => tb { D with nx := Pv (i + 1), ct := Pv (i + 1), bk := D.nx } σ2 H2) (hd : ∀ σ H, Pv xs.length σ H → D.nx σ H) : Lp (Itv K a xs.length) g tb D σ H := by
  refine ⟨fun i m σ H => m = xs.length - i ∧ i ≤ xs.length ∧ Pv i σ H, ⟨xs.length, by simp, Nat.zero_le _, h0⟩, ?_⟩
  rintro i m σ H ⟨rfl, hi, p⟩
  have q := hl i σ H hi p
  by_cases hlt : i < xs.length
  · have hk : xs.length - 1 - i < xs.length := by omega
    refine .inr ⟨⟨hlt, xs, xs[xs.length - 1 - i], q, by simp [hk]⟩, Pv (i + 1), fun σ' H' p' => ⟨xs.length - (i + 1), by omega, rfl, hlt, p'⟩, fun x H' y => ?_⟩
    obtain ⟨e, y⟩ := y
    subst e
    exact hs i x σ _ (y xs q) hlt p
  · have e : i = xs.length := by omega
    subst e
    exact .inl ⟨Nat.le_refl _, hd σ H p⟩
theorem loop_enum {a : Addr} {xs : List V} {j k : Nat} (Pv : Nat → L2.St → Hp → Prop) (h0 : Pv 0 σ H) (hl : ∀ i σ H, i ≤ xs.length → Pv i σ H → SqL K H a xs)
    (hs : ∀ i x σ H H', xs[i]? = some x → Pv i σ H → Ex H H' → tb { D with nx := Pv (i + 1), ct := Pv (i + 1), bk := D.nx } ((σ.set j (some (.int (i : Int)))).set k (some x)) H') (hd : ∀ σ H, Pv xs.length σ H → D.nx σ H) :
    Lp (Ite K a) (gTup K 2 (gCons (gName j) (gCons (gName k) gNil))) tb D σ H := by
  refine ⟨fun i m σ H => m = xs.length - i ∧ i ≤ xs.length ∧ Pv i σ H, ⟨xs.length, by simp, Nat.zero_le _, h0⟩, ?_⟩
  rintro i m σ H ⟨rfl, hi, p⟩
  have q := hl i σ H hi p
  by_cases hlt : i < xs.length
  · refine .inr ⟨⟨xs, xs[i], q, by simp [hlt]⟩, Pv (i + 1), fun σ' H' p' => ⟨xs.length - (i + 1), by omega, rfl, hlt, p'⟩, fun v H' y => ?_⟩
    obtain ⟨T, x, rfl, nT, rfl, y⟩ := y
    exact ⟨T, _, rfl, .inl (.inl upd_same), rfl, _, _, rfl, x, [], rfl, rfl, hs i x σ H _ (y xs q) p (Evl.Ex.new nT)⟩
  · have e : i = xs.length := by omega
    subst e
    exact .inl ⟨⟨xs, q, Nat.le_refl _⟩, hd σ H p⟩
theorem r_while {tt : TT} (W : Nat → L2.St → Hp → Prop) (m0 : Nat) (h0 : W m0 σ H)
    (hs : ∀ m σ' H', W m σ' H' → tt σ' H' fun b H1 => if b = true then ∃ N : L2.St → Hp → Prop, (∀ σ2 H2, N σ2 H2 → ∃ m', m' < m ∧ W m' σ2 H2) ∧ tb { D with nx := N, ct := N, bk := D.nx } σ' H1 else D.nx σ' H1) : tWhile tt tb D σ H :=
  ⟨W, ⟨m0, h0⟩, hs⟩
theorem wh_in {W : Nat → L2.St → Hp → Prop} {m : Nat} (h : tb { D with nx := fun σ2 H2 => ∃ m', m' < m ∧ W m' σ2 H2, ct := fun σ2 H2 => ∃ m', m' < m ∧ W m' σ2 H2, bk := D.nx } σ H) :
    ∃ N : L2.St → Hp → Prop, (∀ σ2 H2, N σ2 H2 → ∃ m', m' < m ∧ W m' σ2 H2) ∧ tb { D with nx := N, ct := N, bk := D.nx } σ H := ⟨_, fun _ _ h => h, h⟩
end
/-! ### bounds -/
theorem small_le {n : Nat} (h : n ≤ 16777216) : n ≤ sizeLine := by rw [sizeLine_eq]; exact h
theorem small_lt {n : Nat} (h : n < 16777216) : n < sizeLine := by rw [sizeLine_eq]; exact h
/-! ### comprehensions -/
def Lc (J : It) (g : TG) (tt : TT) (te : TE) (vs : List Nat) (σ : L2.St) (H1 : Hp) (Q : VK) : Prop := ∀ D, H1 D = none → ∃ W : Nat → Nat → Hp → Prop, (∃ m, W 0 m (upd H1 D (.lst []))) ∧ ∀ i m H, W i m H →
  (J.stop i H ∧ Q (.ref D) H) ∨ (J.go i H ∧ ∃ Nx : Hp → Prop, (∀ H', Nx H' → ∃ m', m' < m ∧ W (i + 1) m' H') ∧ ∀ x H', J.yld i H x H' → g x (wipe σ vs) H' fun σ2 H2 => wipe σ2 vs = wipe σ vs ∧ tt σ2 H2 fun b H3 =>
    if b = true then te σ2 H3 fun y H4 => ∃ acc, H4 D = some (.lst acc) ∧ acc.length < sizeLine ∧ Nx (upd H4 D (.lst (acc ++ [y]))) else Nx H3)
theorem r_lc {wi : TI} {g : TG} {tt : TT} {te : TE} {vs : List Nat} {σ : L2.St} {H : Hp} {Q : VK} (h : wi σ H fun J H1 => Lc J g tt te vs σ H1 Q) : tLc wi g tt te vs σ H Q := h
theorem set_set {α : Type} : ∀ (l : List α) (i : Nat) (a b : α), (l.set i a).set i b = l.set i b
  | [], _, _, _ => rfl
  | _ :: _, 0, _, _ => rfl
  | x :: l, i + 1, a, b => by show x :: (l.set i a).set i b = x :: l.set i b; rw [set_set l i a b]
section
variable {K : PySem.W.Frag} {σ : L2.St} {H : Hp} {te : TE} {Q : VK} {g : TG}
theorem r_cListA {a : Addr} {xs : List V} {tt : TT} {vs : List Nat} (h : SqL K H a xs) (q : Lc (Itl K a) g tt te vs σ H Q) : ∃ a', V.ref a = .ref a' ∧ (∃ xs, SqL K H a' xs) ∧ Lc (Itl K a') g tt te vs σ H Q := ⟨a, rfl, ⟨xs, h⟩, q⟩
theorem r_cRng1A {j : Int} {tt : TT} {vs : List Nat} (h0 : -(2 ^ 62) ≤ j) (h1 : j < 2 ^ 62) (q : Lc (Itr 0 j.toNat) g tt te vs σ H Q) : ∃ j' : Int, [V.int j] = [.int j'] ∧ -(2 ^ 62) ≤ j' ∧ j' < 2 ^ 62 ∧ Lc (Itr 0 j'.toNat) g tt te vs σ H Q := ⟨j, rfl, h0, h1, q⟩
theorem r_cRng2A {i j : Int} {tt : TT} {vs : List Nat} (hb : -(2 ^ 62) ≤ i ∧ i < 2 ^ 62 ∧ -(2 ^ 62) ≤ j ∧ j < 2 ^ 62) (q : Lc (Itr i (j - i).toNat) g tt te vs σ H Q) : ∃ i' j' : Int, [V.int i, V.int j] = [.int i', .int j'] ∧ (-(2 ^ 62) ≤ i' ∧ i' < 2 ^ 62 ∧ -(2 ^ 62) ≤ j' ∧ j' < 2 ^ 62) ∧ Lc (Itr i' (j' - i').toNat) g tt te vs σ H Q := ⟨i, j, rfl, hb, q⟩
/-- over a list, each item giving a value by a function -/
theorem lc_map {a : Addr} {xs : List V} {j : Nat} (f : V → V) (hx : SqL K H a xs) (hz : xs.length < 1000000)
    (he : ∀ x, x ∈ xs → ∀ H1, Ex H H1 → ∀ Q' : VK, (∀ H2, Ex H1 H2 → Q' (f x) H2) → te (σ.set j (some x)) H1 Q')
    (q : ∀ p H', H p = none → Ex H H' → H' p = some (.lst (xs.map f)) → Q (.ref p) H') : Lc (Itl K a) (gName j) tYes te [j] σ H Q := fun D hD =>
  lc_list (xs := xs) (fun i H' => Ex H H' ∧ H' D = some (.lst ((xs.take i).map f))) ⟨Evl.Ex.new hD, upd_same⟩ (fun i H' _ p => p.1.l hx)
    (fun i x H' hi p => ⟨by show ((σ.set j none).set j (some x)).set j none = σ.set j none; rw [set_set, set_set], by
      show te ((σ.set j none).set j (some x)) H' _
      rw [set_set]
      refine he x (List.mem_of_getElem? hi) H' p.1 _ fun H2 e2 => ⟨_, e2 D _ p.2, ?_, (Evl.Ex.mut (p.1.trans e2) hD), ?_⟩
      · rw [List.length_map, List.length_take]; exact small_lt (by omega)
      · rw [upd_same, List.take_add_one, hi, List.map_append]; rfl⟩)
    (fun H' p => q D H' hD p.1 (by rw [List.take_length] at p; exact p.2))
/-- over a list of ints, each giving an int -/
theorem lc_ints {a : Addr} {ns : List Int} {j : Nat} (f : Int → Int) (hx : SqL K H a (ns.map V.int)) (hz : ns.length < 1000000)
    (he : ∀ x, x ∈ ns → ∀ H1, Ex H H1 → ∀ Q' : VK, (∀ H2, Ex H1 H2 → Q' (.int (f x)) H2) → te (σ.set j (some (.int x))) H1 Q')
    (q : ∀ p H', H p = none → Ex H H' → H' p = some (.lst ((ns.map f).map V.int)) → Q (.ref p) H') : Lc (Itl K a) (gName j) tYes te [j] σ H Q :=
  lc_map (xs := ns.map V.int) (fun v => match v with | .int x => .int (f x) | v => v) hx (by rw [List.length_map]; exact hz)
    (fun v hv H1 e1 Q' k => by
      obtain ⟨x, hx', rfl⟩ := List.mem_map.mp hv
      exact he x hx' H1 e1 Q' k)
    (fun p H' hp e h => q p H' hp e (by
      rw [List.map_map] at h ⊢
      exact h))
/-- over a range from 0, each giving an int -/
theorem lc_rangeI {n : Nat} {j : Nat} (f : Nat → Int) (hz : n < 1000000)
    (he : ∀ i, i < n → ∀ H1, Ex H H1 → ∀ Q' : VK, (∀ H2, Ex H1 H2 → Q' (.int (f i)) H2) → te (σ.set j (some (.int (i : Int)))) H1 Q')
    (q : ∀ p H', H p = none → Ex H H' → H' p = some (.lst (((List.range n).map f).map V.int)) → Q (.ref p) H') : Lc (Itr 0 n) (gName j) tYes te [j] σ H Q := fun D hD =>
  lc_range (lo := 0) (n := n) (fun i H' => Ex H H' ∧ H' D = some (.lst (((List.range i).map f).map V.int))) ⟨Evl.Ex.new hD, upd_same⟩
    (fun i H' hi p => ⟨by show ((σ.set j none).set j _).set j none = σ.set j none; rw [set_set, set_set], by
      show te ((σ.set j none).set j (some (.int ((0 : Int) + (i : Int))))) H' _
      rw [set_set, show (0 : Int) + (i : Int) = (i : Int) from Int.zero_add _]
      refine he i hi H' p.1 _ fun H2 e2 => ⟨_, e2 D _ p.2, ?_, (Evl.Ex.mut (p.1.trans e2) hD), ?_⟩
      · rw [List.length_map, List.length_map, List.length_range]; exact small_lt (by omega)
      · rw [upd_same, List.range_succ, List.map_append, List.map_append]; rfl⟩)
    (fun H' p => q D H' hD p.1 p.2)
end
/-- an item of a list of ints -/
theorem r_ixI {K : PySem.W.Frag} {H : Hp} {Q : VK} {p : Addr} {i : Int} {ns : List Int} (h : SqL K H p (ns.map V.int)) (h0 : 0 ≤ i) (h1 : i < ns.length) (q : Q (.int (ns.getD i.toNat 0)) H) : rIxL K (.ref p) (.int i) H Q := by
  obtain ⟨k, rfl⟩ : ∃ k : Nat, i = (k : Int) := ⟨i.toNat, by omega⟩
  have hk : k < ns.length := by omega
  refine r_ixL h (atI_nat (j := k) (v := .int ns[k]) ?_) ?_
  · rw [List.getElem?_map, List.getElem?_eq_getElem hk]; rfl
  · rw [Int.toNat_natCast, List.getD_eq_getElem?_getD, List.getElem?_eq_getElem hk] at q
    exact q
/-- a slice of a list of ints, both ends in it -/
theorem cutI (ns : List Int) (lo hi : Option Int) : cutV (ns.map V.int) lo hi = ((ns.drop (HT.sIx ns.length 0 lo)).take (HT.sIx ns.length ns.length hi - HT.sIx ns.length 0 lo)).map V.int := by
  unfold cutV
  rw [List.length_map, List.map_take, List.map_drop]
/-- the part of a list between two bounds -/
def sliceI (ns : List Int) (lo hi : Option Int) : List Int := (ns.drop (HT.sIx ns.length 0 lo)).take (HT.sIx ns.length ns.length hi - HT.sIx ns.length 0 lo)
theorem sliceI_mem {ns : List Int} {lo hi : Option Int} {x : Int} (h : x ∈ sliceI ns lo hi) : x ∈ ns := List.mem_of_mem_drop (List.mem_of_mem_take h)
theorem sliceI_len (ns : List Int) (lo hi : Option Int) : (sliceI ns lo hi).length ≤ ns.length := by
  unfold sliceI
  rw [List.length_take, List.length_drop]; omega
theorem r_slI {K : PySem.W.Frag} {H : Hp} {Q : VK} {a : Addr} {ns : List Int} {lo hi : Option Int} (h : SqL K H a (ns.map V.int)) (q : ∀ p H', H p = none → Ex H H' → H' p = some (.lst ((sliceI ns lo hi).map V.int)) → Q (.ref p) H') : rSlL K (.ref a) lo hi H Q :=
  r_slL h fun p H' hp e hh => q p H' hp e (by rw [cutI] at hh; exact hh)
theorem r_repN {H : Hp} {Q : VK} {l : Addr} {ns : List Int} {k : Int} (h1 : H l = some (.lst (ns.map V.int))) (hk : k < 2 ^ 63) (z : ns.length * k.toNat ≤ 16777216) (q : ∀ p H', H p = none → Ex H H' → H' p = some (.lst (((List.replicate k.toNat ns).flatten).map V.int)) → Q (.ref p) H') (h0 : -(2 ^ 63) ≤ k := by omega) : rRep (.ref l) (.int k) H Q :=
  ⟨l, k, _, rfl, rfl, h1, h0, hk, by rw [List.length_map]; exact small0 z, newL fun p H' a b c => q p H' a b (by rw [List.map_flatten, List.map_replicate]; exact c)⟩
def insI (ns : List Int) (i : Int) (y : Int) : List Int := ns.take i.toNat ++ [y] ++ ns.drop i.toNat
theorem insI_mem {ns : List Int} {i y x : Int} : x ∈ insI ns i y ↔ x = y ∨ x ∈ ns := by
  unfold insI
  have h : x ∈ ns ↔ x ∈ ns.take i.toNat ∨ x ∈ ns.drop i.toNat := by rw [← List.mem_append, List.take_append_drop]
  rw [h, List.mem_append, List.mem_append, List.mem_singleton]
  constructor
  · rintro ((h | h) | h)
    · exact .inr (.inl h)
    · exact .inl h
    · exact .inr (.inr h)
  · rintro (h | h | h)
    · exact .inl (.inr h)
    · exact .inl (.inl h)
    · exact .inr h
theorem insI_len (ns : List Int) (i y : Int) : (insI ns i y).length = ns.length + 1 := by
  unfold insI
  rw [List.length_append, List.length_append, List.length_take, List.length_drop]
  show min i.toNat ns.length + 1 + (ns.length - i.toNat) = _
  omega
theorem r_insertI {H : Hp} {Q : VK} {l : Addr} {ns : List Int} {i y : Int} (h : H l = some (.lst (ns.map V.int))) (z : ns.length < 16777216) (h0 : 0 ≤ i) (h1 : i < 2 ^ 63) (q : ∀ H', Exb l H H' → H' l = some (.lst ((insI ns i y).map V.int)) → Q .non H') : rInsert (.ref l) [.int i, .int y] H Q :=
  r_insert h (by rw [List.length_map]; exact small_lt z) h0 h1 fun H' e hh => q H' e (by
    unfold insI
    rw [List.map_append, List.map_append, List.map_take, List.map_drop]
    exact hh)
theorem r_appendI {H : Hp} {Q : VK} {l : Addr} {ns : List Int} {y : Int} (h : H l = some (.lst (ns.map V.int))) (z : ns.length < 16777216) (q : ∀ H', Exb l H H' → H' l = some (.lst ((ns ++ [y]).map V.int)) → Q .non H') : rAppend (.ref l) [.int y] H Q :=
  r_append h (by rw [List.length_map]; exact small_lt z) fun H' e hh => q H' e (by rw [List.map_append]; exact hh)
theorem r_catI {H : Hp} {Q : VK} {l b : Addr} {ns ms : List Int} (h1 : H l = some (.lst (ns.map V.int))) (h2 : H b = some (.lst (ms.map V.int))) (z : ns.length + ms.length ≤ 16777216) (q : ∀ p H', H p = none → Ex H H' → H' p = some (.lst ((ns ++ ms).map V.int)) → Q (.ref p) H') : rCat (.ref l) (.ref b) H Q :=
  r_cat h1 h2 (by rw [List.length_map, List.length_map]; exact small0 z) fun p H' a e hh => q p H' a e (by rw [List.map_append]; exact hh)
theorem i_t {A B : Prop} (h : A) : if true = true then A else B := iteT h
theorem i_f {A B : Prop} (h : B) : if false = true then A else B := iteF h
theorem i_nt {A B : Prop} (h : B) : if (!true) = true then A else B := iteF h
theorem i_nf {A B : Prop} (h : A) : if (!false) = true then A else B := iteT h
theorem sliceI_to {ns : List Int} {n : Nat} (h : n ≤ ns.length) : sliceI ns none (some (n : Int)) = ns.take n := by
  unfold sliceI
  rw [HT.sIx_none, HT.sIx_nat, List.drop_zero, Nat.min_eq_left h]; rfl
theorem sliceI_toI {ns : List Int} {n : Int} (h0 : 0 ≤ n) : sliceI ns none (some n) = ns.take n.toNat := by
  obtain ⟨k, rfl⟩ : ∃ k : Nat, n = (k : Int) := ⟨n.toNat, by omega⟩
  unfold sliceI
  rw [HT.sIx_none, HT.sIx_nat, List.drop_zero, Int.toNat_natCast, Nat.sub_zero]
  by_cases h : k ≤ ns.length
  · rw [Nat.min_eq_left h]
  · rw [Nat.min_eq_right (by omega), List.take_length, List.take_of_length_le (by omega)]
theorem sliceI_fromI {ns : List Int} {n : Int} (h0 : 0 ≤ n) : sliceI ns (some n) none = ns.drop n.toNat := by
  obtain ⟨k, rfl⟩ : ∃ k : Nat, n = (k : Int) := ⟨n.toNat, by omega⟩
  unfold sliceI
  rw [HT.sIx_none, HT.sIx_nat, Int.toNat_natCast]
  by_cases h : k ≤ ns.length
  · rw [Nat.min_eq_left h, List.take_of_length_le (by rw [List.length_drop]; omega)]
  · rw [Nat.min_eq_right (by omega), List.drop_eq_nil_of_le (by omega : ns.length ≤ k), List.drop_length, List.take_nil]
theorem sliceI_bothI {ns : List Int} {n m : Int} (h0 : 0 ≤ n) (h1 : n ≤ m) : sliceI ns (some n) (some m) = (ns.drop n.toNat).take (m.toNat - n.toNat) := by
  obtain ⟨k, rfl⟩ : ∃ k : Nat, n = (k : Int) := ⟨n.toNat, by omega⟩
  obtain ⟨l, rfl⟩ : ∃ l : Nat, m = (l : Int) := ⟨m.toNat, by omega⟩
  unfold sliceI
  rw [HT.sIx_nat, HT.sIx_nat, Int.toNat_natCast, Int.toNat_natCast]
  by_cases h : k ≤ ns.length
  · rw [Nat.min_eq_left h]
    by_cases h' : l ≤ ns.length
    · rw [Nat.min_eq_left h']
    · rw [Nat.min_eq_right (by omega), List.take_of_length_le (by rw [List.length_drop]; omega), List.take_of_length_le (by rw [List.length_drop]; omega)]
  · rw [Nat.min_eq_right (show ns.length ≤ k by omega), List.drop_length, List.drop_eq_nil_of_le (by omega : ns.length ≤ k)]; simp
/-- what a def that makes a new list of ints promises -/
def RetI (xs : List Int) (H : Hp) (Q : VK) : Prop := ∀ p H', H p = none → Ex H H' → H' p = some (.lst (xs.map V.int)) → Q (.ref p) H'
theorem RetI.go {xs : List Int} {H H1 : Hp} {Q : VK} (k : RetI xs H Q) (e : Ex H H1) {p : Addr} {H2 : Hp} (hp : H1 p = none) (e2 : Ex H1 H2) (h : H2 p = some (.lst (xs.map V.int))) : Q (.ref p) H2 := k p H2 (Evl.fresh_back e hp) (e.trans e2) h
/-! ### the heap since the entry -/
/-- all that stood in H stands in H' (the same as Ex, kept apart) -/
structure Fx (H H' : Hp) : Prop where
  to : Ex H H'
theorem Fx.refl (H : Hp) : Fx H H := ⟨Evl.Ex.refl H⟩
theorem Fx.ex {H H1 H2 : Hp} (f : Fx H H1) (e : Ex H1 H2) : Fx H H2 := ⟨Evl.Ex.trans f.to e⟩
theorem Fx.of {H H1 : Hp} (e : Ex H H1) : Fx H H1 := ⟨e⟩
theorem Fx.mut {H H1 H2 : Hp} {l : Addr} (f : Fx H H1) (b : Exb l H1 H2) (h : H l = none) : Fx H H2 := ⟨Evl.Ex.mutb f.to b h⟩
theorem Fx.free {H H1 : Hp} {p : Addr} (f : Fx H H1) (h : H1 p = none) : H p = none := Evl.fresh_back f.to h
theorem Fx.l {K : PySem.W.Frag} {H H' : Hp} {a : Addr} {xs : List V} (e : Fx H H') (h : SqL K H a xs) : SqL K H' a xs := Evl.ex_l e.to h
theorem hx_e {H H' : Hp} {a : Addr} {o : HO} (e : Ex H H') (h : H a = some o) : H' a = some o := e a o h
theorem hx_b {H H' : Hp} {a l : Addr} {o : HO} (e : Exb l H H') (n : a ≠ l) (h : H a = some o) : H' a = some o := e a n o h
theorem ne_1 {H : Hp} {a l : Addr} {o : HO} (h' : H l = none) (h : H a = some o) : a ≠ l := ne_of_none h h'
theorem ne_2 {H : Hp} {a l : Addr} {o : HO} (h' : H a = none) (h : H l = some o) : a ≠ l := (ne_of_none h h').symm
def tTru (K : PySem.W.Frag) (te : TE) : TT := fun σ H Q => te σ H fun x H' => ∃ k, TruV K x H' k ∧ Q k H'
theorem pt_tru {X : Cx} {a : Expr} {ta : TE} (ha : PE X a ta) (he : ∀ whole, isTrue a X.env whole = (do let v ← whole; standAt a.pos; holding [v] (truthy v)) := by intro _; rfl) : PT X a (tTru X.K ta) := pt_truth ha he
theorem r_tru {K : PySem.W.Frag} {te : TE} {σ : L2.St} {H : Hp} {Q : Bool → Hp → Prop} (h : te σ H fun x H' => ∃ k, TruV K x H' k ∧ Q k H') : tTru K te σ H Q := h
theorem r_truL {K : PySem.W.Frag} {a : Addr} {xs : List V} {H : Hp} {Q : Bool → Prop} (h : SqL K H a xs) (q : Q (!xs.isEmpty)) : ∃ k, TruV K (.ref a) H k ∧ Q k := ⟨_, .inl ⟨xs, h, rfl⟩, q⟩
def RevK (K : PySem.W.Frag) (Q : VK) : V → Hp → Prop := fun x H1 => ∃ a xs, x = .ref a ∧ SqL K H1 a xs ∧ ∀ p, H1 p = none → Q (.ref p) (upd H1 p (.lst xs.reverse))
theorem r_rev {K : PySem.W.Frag} {te : TE} {σ : L2.St} {H : Hp} {Q : VK} (h : te σ H (RevK K Q)) : tRevL K te σ H Q := h
theorem r_revI {K : PySem.W.Frag} {H : Hp} {Q : VK} {a : Addr} {ns : List Int} (h : SqL K H a (ns.map V.int)) (q : ∀ p H', H p = none → Ex H H' → H' p = some (.lst (ns.reverse.map V.int)) → Q (.ref p) H') : RevK K Q (.ref a) H :=
  ⟨a, _, rfl, h, newL fun p H' hp e hh => q p H' hp e (by rw [List.map_reverse]; exact hh)⟩
theorem rg2 {a b : Int} (ha : 0 ≤ a) (ha' : a < 2 ^ 60) (hb : -(2 ^ 60) ≤ b) (hb' : b < 2 ^ 60) : RgC a b 2 ((b - a + 1) / 2).toNat := by
  have e : Builtin.Range.rangeSize a b 2 = (((b - a + 1) / 2).toNat : Int) := by
    unfold Builtin.Range.rangeSize
    rw [if_pos (by decide)]
    split <;> omega
  refine ⟨by decide, by decide, ?_, e⟩
  unfold Builtin.Range.small
  rw [e]
  simp only [Builtin.Range.rangeFitsLong, Bool.and_eq_true, Bool.or_eq_true, decide_eq_true_eq, beq_iff_eq, show ((2 : Int) > 0) by decide, if_true]
  omega
theorem r_iRng3 {ta : TA} {σ : L2.St} {H : Hp} {R : It → Hp → Prop} (h : ta σ H fun vs H1 => ∃ (i j c : Int) (n : Nat), vs = [.int i, .int j, .int c] ∧ RgC i j c n ∧ R (Itc i c n) H1) : iRng3 ta σ H R := h
theorem r_iRng3A {g : TG} {tb : TS} {D : Ends} {σ : L2.St} {H : Hp} {i j c : Int} {n : Nat} (h : RgC i j c n) (q : Lp (Itc i c n) g tb D σ H) : ∃ (i' j' c' : Int) (n : Nat), [V.int i, V.int j, V.int c] = [.int i', .int j', .int c'] ∧ RgC i' j' c' n ∧ Lp (Itc i' c' n) g tb D σ H := ⟨i, j, c, n, rfl, h, q⟩
/-- over a range from lo, each giving an int -/
theorem lc_rangeL {σ : L2.St} {H : Hp} {te : TE} {Q : VK} {lo : Int} {n : Nat} {j : Nat} (f : Nat → Int) (hz : n < 1000000)
    (he : ∀ i, i < n → ∀ H1, Ex H H1 → ∀ Q' : VK, (∀ H2, Ex H1 H2 → Q' (.int (f i)) H2) → te (σ.set j (some (.int (lo + (i : Int))))) H1 Q')
    (q : ∀ p H', H p = none → Ex H H' → H' p = some (.lst (((List.range n).map f).map V.int)) → Q (.ref p) H') : Lc (Itr lo n) (gName j) tYes te [j] σ H Q := fun D hD =>
  lc_range (lo := lo) (n := n) (fun i H' => Ex H H' ∧ H' D = some (.lst (((List.range i).map f).map V.int))) ⟨Evl.Ex.new hD, upd_same⟩
    (fun i H' hi p => ⟨by show ((σ.set j none).set j _).set j none = σ.set j none; rw [set_set, set_set], by
      show te ((σ.set j none).set j (some (.int (lo + (i : Int))))) H' _
      rw [set_set]
      refine he i hi H' p.1 _ fun H2 e2 => ⟨_, e2 D _ p.2, ?_, (Evl.Ex.mut (p.1.trans e2) hD), ?_⟩
      · rw [List.length_map, List.length_map, List.length_range]; exact small_lt (by omega)
      · rw [upd_same, List.range_succ, List.map_append, List.map_append]; rfl⟩)
    (fun H' p => q D H' hD p.1 p.2)
theorem r_lenI {K : PySem.W.Frag} {H : Hp} {Q : VK} {p : Addr} {ns : List Int} (h : SqL K H p (ns.map V.int)) (q : Q (.int ns.length) H) : rLenS K [.ref p] H Q := ⟨p, _, rfl, .inl h, by rw [List.length_map]; exact q⟩
/-- the last item -/
theorem r_ixLast {K : PySem.W.Frag} {H : Hp} {Q : VK} {p : Addr} {ns : List Int} (h : SqL K H p (ns.map V.int)) (h0 : ns ≠ []) (q : Q (.int (ns.getD (ns.length - 1) 0)) H) : rIxL K (.ref p) (.int (-1)) H Q := by
  have e : ns.map V.int = (ns.dropLast.map V.int) ++ [.int (ns.getD (ns.length - 1) 0)] := by
    have e1 : ns.getD (ns.length - 1) 0 = ns.getLast h0 := by
      rw [List.getD_eq_getElem?_getD, ← List.getLast?_eq_getElem?, List.getLast?_eq_some_getLast h0]; rfl
    rw [e1, ← List.map_singleton, ← List.map_append, List.dropLast_concat_getLast]
  exact r_ixL h (by rw [e]; exact atI_last _ _) q
theorem r_truI {K : PySem.W.Frag} {a : Addr} {ns : List Int} {H : Hp} {Q : Bool → Hp → Prop} (h : SqL K H a (ns.map V.int)) (q : Q (!decide (ns = [])) H) : ∃ k, TruV K (.ref a) H k ∧ Q k H := ⟨_, .inl ⟨_, h, rfl⟩, by
  have e : (!(ns.map V.int).isEmpty) = !decide (ns = []) := by
    cases ns with
    | nil => rfl
    | cons x r => rfl
  rw [e]; exact q⟩
theorem r_rg1 {te : TE} {σ : L2.St} {H : Hp} {R : Int → Int → Hp → Prop} (h : te σ H fun x H1 => ∃ b, x = .int b ∧ R 0 b H1) : tRg1 te σ H R := h
theorem r_revRA {g : TG} {tb : TS} {D : Ends} {σ : L2.St} {H : Hp} {b : Int} (h0 : -(2 ^ 62) ≤ b) (h1 : b < 2 ^ 62) (q : Lp (Itc (b.toNat - 1) (-1) b.toNat) g tb D σ H) : -(2 ^ 62) ≤ (0 : Int) ∧ (0 : Int) < 2 ^ 62 ∧ -(2 ^ 62) ≤ b ∧ b < 2 ^ 62 ∧ Lp (Itc (0 + (((b - 0).toNat : Nat) : Int) - 1) (-1) (b - 0).toNat) g tb D σ H := ⟨by decide, by decide, h0, h1, by
  rw [Int.sub_zero, Int.zero_add]; exact q⟩
/-- a loop over range(n), backwards -/
theorem loop_down {n : Nat} {j : Nat} {tb : TS} {D : Ends} {σ : L2.St} {H : Hp} (Pv : Nat → L2.St → Hp → Prop) (h0 : Pv n σ H)
    (hs : ∀ k σ H, k < n → Pv (k + 1) σ H → tb { D with nx := Pv k, ct := Pv k, bk := D.nx } (σ.set j (some (.int (k : Int)))) H) (hd : ∀ σ H, Pv 0 σ H → D.nx σ H) : Lp (Itc ((n : Int) - 1) (-1) n) (gName j) tb D σ H := by
  refine ⟨fun i m σ H => m = n - i ∧ i ≤ n ∧ Pv (n - i) σ H, ⟨n, by simp, Nat.zero_le _, h0⟩, ?_⟩
  rintro i m σ H ⟨rfl, hi, p⟩
  by_cases hlt : i < n
  · refine .inr ⟨hlt, Pv (n - (i + 1)), fun σ' H' p' => ⟨n - (i + 1), by omega, rfl, hlt, p'⟩, fun x H' y => ?_⟩
    obtain ⟨rfl, rfl⟩ := y
    have e1 : (n : Int) - 1 + (i : Int) * -1 = ((n - (i + 1) : Nat) : Int) := by omega
    have e2 : n - i = n - (i + 1) + 1 := by omega
    rw [e1]
    rw [e2] at p
    exact hs (n - (i + 1)) σ _ (by omega) p
  · have e : i = n := by omega
    subst e
    rw [Nat.sub_self] at p
    exact .inl ⟨Nat.le_refl _, hd σ H p⟩
theorem never_ {t : TS} {D : Ends} {σ : L2.St} {H : Hp} (h : False) : t D σ H := h.elim
end RB

set_option linter.all false
/-! Shared divisors. -/
namespace MG
def gcdN (ns : List Int) : Nat := ns.foldl (fun (g : Nat) x => Nat.gcd g x.natAbs) 0
def gcdL (ns : List Int) : Int := (gcdN ns : Int)
theorem fmod_lt {a b : Int} (h : b ≠ 0) : (a.fmod b).natAbs < b.natAbs := by
  by_cases hb : 0 < b
  · have h1 := Int.fmod_nonneg_of_pos a hb
    have h2 := Int.fmod_lt_of_pos a hb
    omega
  · have hb' : 0 < -b := by omega
    have e : a.fmod b = -((-a).fmod (-b)) := by rw [Int.neg_fmod_neg]; omega
    have h1 := Int.fmod_nonneg_of_pos (-a) hb'
    have h2 := Int.fmod_lt_of_pos (-a) hb'
    rw [e]
    omega
theorem gcd_fmod (a b : Int) : Int.gcd b (a.fmod b) = Int.gcd a b := by
  rw [Int.fmod_def, Int.gcd_sub_mul_left_right, Int.gcd_comm]
theorem foldl_gcd (ns : List Int) : ∀ g : Nat, ns.foldl (fun (g : Nat) x => Nat.gcd g x.natAbs) g = Nat.gcd g (gcdN ns) := by
  induction ns with
  | nil => intro g; simp [gcdN]
  | cons x r ih =>
    intro g
    show List.foldl _ (Nat.gcd g x.natAbs) r = _
    rw [ih]
    have e : gcdN (x :: r) = Nat.gcd (x.natAbs) (gcdN r) := by
      show List.foldl _ (Nat.gcd 0 x.natAbs) r = _
      rw [ih, Nat.gcd_zero_left]
    rw [e, Nat.gcd_assoc]
theorem gcdN_cons (x : Int) (r : List Int) : gcdN (x :: r) = Nat.gcd x.natAbs (gcdN r) := by
  show List.foldl _ (Nat.gcd 0 x.natAbs) r = _
  rw [foldl_gcd, Nat.gcd_zero_left]
theorem gcdN_nil : gcdN [] = 0 := rfl
theorem gcdN_append (xs ys : List Int) : gcdN (xs ++ ys) = Nat.gcd (gcdN xs) (gcdN ys) := by
  show List.foldl _ 0 (xs ++ ys) = _
  rw [List.foldl_append, foldl_gcd]; rfl
theorem gcdN_take {ns : List Int} {i : Nat} {x : Int} (h : ns[i]? = some x) : gcdN (ns.take (i + 1)) = Nat.gcd (gcdN (ns.take i)) x.natAbs := by
  rw [List.take_add_one, h, gcdN_append]
  congr 1
  show gcdN [x] = _
  rw [gcdN_cons, gcdN_nil, Nat.gcd_zero_right]
theorem gcdN_dvd {ns : List Int} : ∀ {x : Int}, x ∈ ns → (gcdN ns : Int) ∣ x := by
  induction ns with
  | nil => intro x h; cases h
  | cons y r ih =>
    intro x h
    rw [gcdN_cons]
    rcases List.mem_cons.mp h with rfl | h
    · exact Int.ofNat_dvd_left.mpr (Nat.gcd_dvd_left _ _)
    · exact Int.dvd_trans (Int.ofNat_dvd.mpr (Nat.gcd_dvd_right _ _)) (ih h)
theorem dvd_gcdN {ns : List Int} {d : Nat} (h : ∀ x ∈ ns, (d : Int) ∣ x) : d ∣ gcdN ns := by
  induction ns with
  | nil => exact Nat.dvd_zero _
  | cons y r ih =>
    rw [gcdN_cons]
    exact Nat.dvd_gcd (Int.ofNat_dvd_left.mp (h y (List.mem_cons_self))) (ih fun x hx => h x (List.mem_cons_of_mem _ hx))
theorem gcdN_eq {ns : List Int} {g : Nat} (h1 : ∀ x ∈ ns, (g : Int) ∣ x) (h2 : ∀ d : Nat, (∀ x ∈ ns, (d : Int) ∣ x) → d ∣ g) : gcdN ns = g :=
  Nat.dvd_antisymm (h2 _ fun _ hx => gcdN_dvd hx) (dvd_gcdN h1)
end MG

set_option linter.all false
set_option maxRecDepth 100000
/-! Instances: made, their fields, their methods; the fraction. -/
namespace RB
open PySem PySem.Spec PyProof.Rows L2
open Evl (Ex rLenS rListS rMax2 tCut pss_cut)
theorem okN {P : Program} {w : World} {K : PySem.W.Frag} {mg : Str → Option Value} {base : Heap} {x qual : Str} {params : Arguments} {body : List Stmt} {scope : Scope} {dvs : List V} {kws : List (Str × V)} {f : Addr} {fd : FuncData} {N ps : List Str} {k : Nat} {sp : Sp} (F : FunD K x qual params body scope dvs kws f fd) (S : FnScope N ps scope) (len : ∀ vs H Q E, sp vs H Q E → vs.length = ps.length)
    (hb : ∀ (cdv : Value) (A : Around) (outer : List Env) (s : Shared) (H : Hp) (vs : List V) (Q : VK) (E : XK), Room k (A.deeper (envOfC qual scope s.heap.objs.size f cdv)) → sp vs H Q E →
      ∃ t, PSs (cxOf CX0 P w K mg base N qual scope f cdv A outer s H E).nox body t ∧ t { nx := fun _ H' => Q .non H', rt := Q } (start N vs) H) : FnOk P w K mg base CX0 (k + 1) f fd ps sp :=
  F.ok S len fun cdv A outer s H vs Q E hr h => by
    obtain ⟨t, h1, h2⟩ := hb cdv A outer s H vs Q E hr h
    exact ⟨t, h1.nox, h2⟩
theorem funD_mk {K : PySem.W.Frag} {x qual : Str} {params : Arguments} {body : List Stmt} {scope : Scope} {i : Int} {f T : Addr} {oc : Value} {od an : Option Addr} {osl : Array (Option Value)} {kV doc pm cdv ct oc2 : Value} {od2 : Option Addr} {tk : Tok} {n2 : Nat} {sl2 : Array (Option Value)}
    (l : K.lookup f = some ⟨oc, od, .func (PySem.W.fnOf x qual params body scope (.ref T) kV doc pm an cdv ct), osl⟩) (d : K.lookup T = some ⟨oc2, od2, .seq #[.int i tk] n2, sl2⟩) (c : PySem.W.codeIn K cdv qual = true) (k : PySem.W.keepIn K (.ref f) = true) :
    FunD K x qual params body scope [.int i] [] f (PySem.W.fnOf x qual params body scope (.ref T) kV doc pm an cdv ct) :=
  ⟨⟨oc, od, .ref T, kV, doc, pm, an, cdv, ct, osl, rfl, l, c, .inr ⟨by simp, T, _, [.int i tk], n2, rfl, d, rfl, .cons ⟨tk, rfl⟩ .nil⟩, .inl rfl⟩, k⟩
theorem binds_full {K : PySem.W.Frag} {fd : FuncData} {ps : List Str} (h : ∃ ds, Vals ([] : List V) ds ∧ Binds K fd ps ds) : Binds K fd ps [] := by
  obtain ⟨ds, h1, h2⟩ := h
  cases h1
  exact h2
/-! ### making -/
def MakeK (C : Addr) (sp : Sp) (dvs : List V) (E : XK) (Q : VK) : List V → Hp → Prop := fun vs H1 => ∀ x dx, H1 x = none → H1 dx = none → dx ≠ x →
  sp (.ref x :: (vs ++ dvs)) (upd (upd H1 dx (.own x)) x (.ins C dx [])) (fun v H2 => v = .non ∧ Q (.ref x) H2) E
theorem r_make {C : Addr} {sp : Sp} {dvs : List V} {E : XK} {ta : TA} {σ : L2.St} {H : Hp} {Q : VK} (h : ta σ H (MakeK C sp dvs E Q)) : tMake C sp dvs E ta σ H Q := h
def FldK (K : PySem.W.Frag) (f : Str) (Q : VK) : V → Hp → Prop := fun x H1 => ∃ a C dx fs v, x = .ref a ∧ H1 a = some (.ins C dx fs) ∧ Cls K C ∧ NoAttr K C f ∧ fs.lookup f = some v ∧ Q v H1
theorem r_fld {K : PySem.W.Frag} {te : TE} {f : Str} {σ : L2.St} {H : Hp} {Q : VK} (h : te σ H (FldK K f Q)) : tFld K te f σ H Q := h
def SFldK (K : PySem.W.Frag) (f : Str) (y : V) (G : Hp → Prop) : V → Hp → Prop := fun x H2 => ∃ a C dx fs, x = .ref a ∧ H2 a = some (.ins C dx fs) ∧ Cls K C ∧ NoAttr K C f ∧ fs.length < 1000 ∧ G (upd H2 a (.ins C dx (putF f y fs)))
theorem r_sfld {K : PySem.W.Frag} {ta tv : TE} {f : Str} {D : Ends} {σ : L2.St} {H : Hp} (h : tv σ H fun y H1 => ta σ H1 (SFldK K f y (D.nx σ))) : sFld K ta tv f D σ H := h
def MethK (C : Addr) (m : Str) (sp : Sp) (dvs : List V) (E : XK) (t : TA) (σ : L2.St) (Q : VK) : V → Hp → Prop := fun x H1 => ∃ a dx fs, x = .ref a ∧ H1 a = some (.ins C dx fs) ∧ fs.lookup m = none ∧ t σ H1 fun vs H2 => sp (x :: (vs ++ dvs)) H2 Q E
theorem r_meth {C : Addr} {m : Str} {sp : Sp} {dvs : List V} {E : XK} {ta : TE} {t : TA} {σ : L2.St} {H : Hp} {Q : VK} (h : ta σ H (MethK C m sp dvs E t σ Q)) : tMeth C m sp dvs E ta t σ H Q := h
/-! ### the fraction -/
def rF (t b : Int) : List (Str × V) := [("top", .int t), ("bottom", .int b)]
def IsR (C : Addr) (H : Hp) (a : Addr) (t b : Int) : Prop := ∃ dx, H a = some (.ins C dx (rF t b))
theorem IsR.ex {C : Addr} {H H' : Hp} {a : Addr} {t b : Int} (e : Ex H H') (h : IsR C H a t b) : IsR C H' a t b := h.elim fun dx h => ⟨dx, e _ _ h⟩
theorem IsR.exb {C : Addr} {H H' : Hp} {a l : Addr} {t b : Int} (e : Exb l H H') (n : a ≠ l) (h : IsR C H a t b) : IsR C H' a t b := h.elim fun dx h => ⟨dx, e _ n _ h⟩
theorem rF_top (t b : Int) : (rF t b).lookup ("top" : Str) = some (.int t) := by
  unfold rF
  simp [List.lookup]
theorem rF_bottom (t b : Int) : (rF t b).lookup ("bottom" : Str) = some (.int b) := by
  unfold rF
  have e : (("bottom" : Str) == ("top" : Str)) = false := by decide +kernel
  simp [List.lookup, e]
theorem rF_none (t b : Int) {m : Str} (h1 : (m == ("top" : Str)) = false) (h2 : (m == ("bottom" : Str)) = false) : (rF t b).lookup m = none := by
  unfold rF
  simp [List.lookup, h1, h2]
theorem r_top {K : PySem.W.Frag} {C : Addr} {H : Hp} {Q : VK} {a : Addr} {t b : Int} (c : Cls K C) (n : NoAttr K C "top") (h : IsR C H a t b) (q : Q (.int t) H) : FldK K "top" Q (.ref a) H := by
  obtain ⟨dx, h⟩ := h
  exact ⟨a, C, dx, _, _, rfl, h, c, n, rF_top t b, q⟩
theorem r_bottom {K : PySem.W.Frag} {C : Addr} {H : Hp} {Q : VK} {a : Addr} {t b : Int} (c : Cls K C) (n : NoAttr K C "bottom") (h : IsR C H a t b) (q : Q (.int b) H) : FldK K "bottom" Q (.ref a) H := by
  obtain ⟨dx, h⟩ := h
  exact ⟨a, C, dx, _, _, rfl, h, c, n, rF_bottom t b, q⟩
theorem r_methR {C : Addr} {m : Str} {sp : Sp} {dvs : List V} {E : XK} {ta : TA} {σ : L2.St} {Q : VK} {H : Hp} {a : Addr} {t b : Int} (h : IsR C H a t b) (h1 : (m == ("top" : Str)) = false) (h2 : (m == ("bottom" : Str)) = false) (q : ta σ H fun vs H2 => sp (.ref a :: (vs ++ dvs)) H2 Q E) : MethK C m sp dvs E ta σ Q (.ref a) H := by
  obtain ⟨dx, h⟩ := h
  exact ⟨a, dx, _, rfl, h, rF_none t b h1 h2, q⟩
def RetR (C : Addr) (t b : Int) (H : Hp) (Q : VK) : Prop := ∀ p H', H p = none → Ex H H' → IsR C H' p t b → Q (.ref p) H'
theorem RetR.go {C : Addr} {t b : Int} {H H1 : Hp} {Q : VK} (k : RetR C t b H Q) (e : Ex H H1) : RetR C t b H1 Q := fun p H' hp e2 h => k p H' (Evl.fresh_back e hp) (e.trans e2) h
/-- the shared divisor with the bottom's sign -/
def rG (t b : Int) : Int := if b < 0 then -MG.gcdL [t, b] else MG.gcdL [t, b]
def rT (t b : Int) : Int := t.fdiv (rG t b)
def rB (t b : Int) : Int := b.fdiv (rG t b)
theorem gcdL_pair (t b : Int) : MG.gcdL [t, b] = (Int.gcd t b : Int) := by
  unfold MG.gcdL MG.gcdN Int.gcd
  simp
theorem rG_pos {t b : Int} (hb : b ≠ 0) : 0 < Int.gcd t b := Int.gcd_pos_of_ne_zero_right t hb
theorem rG_ne {t b : Int} (hb : b ≠ 0) : rG t b ≠ 0 := by
  have := rG_pos (t := t) hb
  unfold rG
  rw [gcdL_pair]
  split <;> omega
theorem rG_abs (t b : Int) : (rG t b).natAbs = Int.gcd t b := by
  unfold rG
  rw [gcdL_pair]
  split <;> omega
theorem rG_log {t b : Int} {n : Nat} (hb : b ≠ 0) (h0 : 0 < n) (h : b.natAbs < 2 ^ n) : (rG t b).natAbs.log2 < n := by
  rw [rG_abs]
  exact PySem.Flt.log2_lt_of h0 (Nat.lt_of_le_of_lt (Nat.gcd_le_right _ (by omega)) h)
theorem rG_dvd_t (t b : Int) : rG t b ∣ t := by
  rw [← Int.natAbs_dvd, rG_abs]; exact Int.gcd_dvd_left ..
theorem rG_dvd_b (t b : Int) : rG t b ∣ b := by
  rw [← Int.natAbs_dvd, rG_abs]; exact Int.gcd_dvd_right ..
theorem rT_mul {t b : Int} (hb : b ≠ 0) : rT t b * rG t b = t := by
  obtain ⟨k, hk⟩ := rG_dvd_t t b
  unfold rT
  conv => lhs; arg 1; arg 1; rw [hk]
  rw [Int.mul_fdiv_cancel_left _ (rG_ne hb), Int.mul_comm, ← hk]
theorem rB_mul {t b : Int} (hb : b ≠ 0) : rB t b * rG t b = b := by
  obtain ⟨k, hk⟩ := rG_dvd_b t b
  unfold rB
  conv => lhs; arg 1; arg 1; rw [hk]
  rw [Int.mul_fdiv_cancel_left _ (rG_ne hb), Int.mul_comm, ← hk]
theorem rB_pos {t b : Int} (hb : b ≠ 0) : 0 < rB t b := by
  have h1 := rB_mul (t := t) hb
  have h2 := rG_pos (t := t) hb
  have hs : (b < 0 → rG t b < 0) ∧ (¬ b < 0 → 0 < rG t b) := by
    unfold rG
    rw [gcdL_pair]
    constructor
    · intro h; rw [if_pos h]; omega
    · intro h; rw [if_neg h]; omega
  apply Classical.byContradiction
  intro h
  by_cases hn : b < 0
  · have := Int.mul_nonneg_of_nonpos_of_nonpos (show rB t b ≤ 0 by omega) (show rG t b ≤ 0 by have := hs.1 hn; omega)
    omega
  · have := Int.mul_nonneg (show 0 ≤ -rB t b by omega) (show 0 ≤ rG t b by have := hs.2 hn; omega)
    rw [Int.neg_mul] at this
    omega
theorem r_cross {t b : Int} (hb : b ≠ 0) : rT t b * b = t * rB t b := by
  have h1 := rT_mul (t := t) hb
  have h2 := rB_mul (t := t) hb
  generalize rT t b = p at *
  generalize rB t b = q at *
  generalize rG t b = g at *
  rw [← h1, ← h2, Int.mul_assoc, Int.mul_comm g q]
theorem r_low {t b : Int} (hb : b ≠ 0) : Int.gcd (rT t b) (rB t b) = 1 := by
  have h1 := rT_mul (t := t) hb
  have h2 := rB_mul (t := t) hb
  have h3 := rG_abs t b
  have h4 := rG_pos (t := t) hb
  have h5 := Int.gcd_mul_right (rT t b) (rG t b) (rB t b)
  rw [h1, h2, h3] at h5
  exact Nat.eq_of_mul_eq_mul_right h4 (by omega)
theorem rT_abs {t b : Int} (hb : b ≠ 0) : (rT t b).natAbs ≤ t.natAbs := by
  have h1 := rT_mul (t := t) hb
  have h4 := rG_pos (t := t) hb
  have h3 := rG_abs t b
  have h5 : (rT t b).natAbs * (rG t b).natAbs = t.natAbs := by rw [← Int.natAbs_mul, h1]
  rw [h3] at h5
  rw [← h5]
  exact Nat.le_mul_of_pos_right _ h4
theorem rB_abs {t b : Int} (hb : b ≠ 0) : (rB t b).natAbs ≤ b.natAbs := by
  have h1 := rB_mul (t := t) hb
  have h4 := rG_pos (t := t) hb
  have h3 := rG_abs t b
  have h5 : (rB t b).natAbs * (rG t b).natAbs = b.natAbs := by rw [← Int.natAbs_mul, h1]
  rw [h3] at h5
  rw [← h5]
  exact Nat.le_mul_of_pos_right _ h4
end RB
namespace RB
open PySem PySem.Spec PyProof.Rows L2
/-- what isinstance asks of a class of instances -/
structure InsC (K : PySem.W.Frag) (C : Addr) : Prop where
  ha : PySem.W.findIn K (.ref C) "__class__" = some (some (.builtin "object.__class__"))
  hn : PySem.W.specialIn K (.builtin "object.__class__") "__get__" = some (some (.builtin "getset_descriptor.__get__"))
  ht : PySem.W.takesIn K (.builtin "object.__class__") = some true
  hm : PySem.W.mroIn K C (.type "object") = some true
theorem kit_self (K : PySem.W.Frag) (t : Value) (h : (t == t) = true) : PySem.W.kitOne K t t = some true := by
  unfold PySem.W.kitOne
  rw [if_pos h]
theorem r_isR {K : PySem.W.Frag} {C : Addr} {H : Hp} {Q : VK} {a : Addr} {t b : Int} (c : Cls K C) (i : InsC K C) (h : IsR C H a t b) (q : Q (.bl true) H) : rIsi K [.ref a, .ref C] H Q := by
  obtain ⟨dx, h⟩ := h
  exact ⟨.ref a, .ref C, .ref C, .ref C, true, rfl, .own C, .base (.ins h c i.ha i.hn i.ht i.hm), kit_self K (.ref C) (beq_self_eq_true _), q⟩
end RB

set_option linter.all false
/-! Fractions: order, sign, floor. -/
namespace RB
/-- -1, 0 or 1 -/
def ordI (l r : Int) : Int := if l < r then -1 else if r < l then 1 else 0
theorem ordI_lt {l r : Int} (h : l < r) : ordI l r = -1 := if_pos h
theorem ordI_gt {l r : Int} (h : r < l) : ordI l r = 1 := by
  unfold ordI
  rw [if_neg (by omega), if_pos h]
theorem ordI_self (l : Int) : ordI l l = 0 := by
  unfold ordI
  rw [if_neg (by omega), if_neg (by omega)]
theorem ordI_swap (l r : Int) : ordI r l = - ordI l r := by
  rcases Int.lt_trichotomy l r with h | h | h
  · rw [ordI_lt h, ordI_gt h]; rfl
  · subst h; rw [ordI_self]; rfl
  · rw [ordI_gt h, ordI_lt h]
theorem ordI_scale {c : Int} (hc : 0 < c) (l r : Int) : ordI (l * c) (r * c) = ordI l r := by
  rcases Int.lt_trichotomy l r with h | h | h
  · rw [ordI_lt h, ordI_lt (Int.mul_lt_mul_of_pos_right h hc)]
  · subst h; rw [ordI_self, ordI_self]
  · rw [ordI_gt h, ordI_gt (Int.mul_lt_mul_of_pos_right h hc)]
theorem ordI_sub (l r : Int) : ordI (l - r) 0 = ordI l r := by
  rcases Int.lt_trichotomy l r with h | h | h
  · rw [ordI_lt h, ordI_lt (by omega)]
  · subst h; rw [ordI_self, Int.sub_self, ordI_self]
  · rw [ordI_gt h, ordI_gt (by omega)]
theorem rG_gt {t b : Int} (hb : 0 < b) : 0 < rG t b := by
  have := rG_pos (t := t) (b := b) (by omega)
  unfold rG
  rw [gcdL_pair, if_neg (by omega)]
  omega
/-- the order of two made fractions is that of what they are made of -/
theorem ord_made {t b u v : Int} (hb : 0 < b) (hv : 0 < v) : ordI (rT t b * rB u v) (rT u v * rB t b) = ordI (t * v) (u * b) := by
  have g1 := rG_gt (t := t) hb
  have g2 := rG_gt (t := u) hv
  have e1 := rT_mul (t := t) (b := b) (by omega)
  have e2 := rB_mul (t := t) (b := b) (by omega)
  have e3 := rT_mul (t := u) (b := v) (by omega)
  have e4 := rB_mul (t := u) (b := v) (by omega)
  generalize rT t b = p at *
  generalize rB t b = q at *
  generalize rT u v = p' at *
  generalize rB u v = q' at *
  generalize rG t b = g at *
  generalize rG u v = g' at *
  have hg : 0 < g * g' := Int.mul_pos g1 g2
  have a1 : t * v = (p * q') * (g * g') := by rw [← e1, ← e4]; simp only [Int.mul_assoc, Int.mul_left_comm, Int.mul_comm]
  have a2 : u * b = (p' * q) * (g * g') := by rw [← e3, ← e2]; simp only [Int.mul_assoc, Int.mul_left_comm, Int.mul_comm]
  rw [a1, a2, ordI_scale hg]
theorem sign_made {t b : Int} (hb : 0 < b) : ordI (rT t b) 0 = ordI t 0 := by
  have g1 := rG_gt (t := t) hb
  have e1 := rT_mul (t := t) (b := b) (by omega)
  have := ordI_scale g1 (rT t b) 0
  rw [e1, Int.zero_mul] at this
  exact this.symm
theorem rG_one (t : Int) : rG t 1 = 1 := by
  unfold rG
  rw [gcdL_pair, if_neg (by decide), Int.gcd_one_right]; rfl
theorem rT_one (t : Int) : rT t 1 = t := by
  unfold rT; rw [rG_one, Int.fdiv_one]
theorem rB_one (t : Int) : rB t 1 = 1 := by
  unfold rB; rw [rG_one]; rfl
theorem fdiv_two {p q : Int} (hq : 0 < q) : p.fdiv q * q ≤ p ∧ p < (p.fdiv q + 1) * q := by
  have h1 := Int.mul_fdiv_add_fmod p q
  have h2 := Int.fmod_nonneg_of_pos p hq
  have h3 := Int.fmod_lt_of_pos p hq
  rw [Int.add_mul, Int.one_mul, Int.mul_comm (p.fdiv q) q]
  omega
theorem fdiv_abs {p q : Int} (hq : 0 < q) : (p.fdiv q).natAbs ≤ p.natAbs := by
  obtain ⟨h1, h2⟩ := fdiv_two (p := p) hq
  generalize p.fdiv q = l at *
  by_cases hl : 0 ≤ l
  · have := Int.mul_le_mul_of_nonneg_left (show 1 ≤ q by omega) hl
    rw [Int.mul_one] at this
    omega
  · have := Int.mul_le_mul_of_nonneg_left (show 1 ≤ q by omega) (show 0 ≤ -(l + 1) by omega)
    rw [Int.mul_one, Int.neg_mul] at this
    omega
/-- the floor of a made fraction, told by what it is made of -/
theorem floor_made {t b : Int} (hb : 0 < b) : (rT t b).fdiv (rB t b) * b ≤ t ∧ t < ((rT t b).fdiv (rB t b) + 1) * b := by
  have g1 := rG_gt (t := t) hb
  have e1 := rT_mul (t := t) (b := b) (by omega)
  have e2 := rB_mul (t := t) (b := b) (by omega)
  obtain ⟨h1, h2⟩ := fdiv_two (p := rT t b) (rB_pos (t := t) (b := b) (by omega))
  generalize (rT t b).fdiv (rB t b) = l at *
  generalize rT t b = p at *
  generalize rB t b = q at *
  generalize rG t b = g at *
  have a1 := Int.mul_le_mul_of_nonneg_right h1 (show 0 ≤ g by omega)
  have a2 := Int.mul_lt_mul_of_pos_right h2 g1
  rw [Int.mul_assoc, e2, e1] at a1 a2
  exact ⟨a1, a2⟩
end RB
namespace RB
open PySem PySem.Spec PyProof.Rows L2
theorem r_strI {i : Int} {H : Hp} {Q : VK} (h : i.natAbs.log2 < 1920) (q : Q (.str (toString i)) H) : rStrInt [.int i] H Q := ⟨i, rfl, h, q⟩
theorem r_addS {i j : Str} {H : Hp} {Q : VK} (h : i.length + j.length ≤ sizeLine) (q : Q (.str (i ++ j)) H) : rAddS (.str i) (.str j) H Q := ⟨i, j, rfl, rfl, h, q⟩
theorem rG_low {t b : Int} (hb : 0 < b) (h : Int.gcd t b = 1) : rG t b = 1 := by
  unfold rG
  rw [gcdL_pair, if_neg (by omega), h]; rfl
theorem rT_low {t b : Int} (hb : 0 < b) (h : Int.gcd t b = 1) : rT t b = t := by
  unfold rT; rw [rG_low hb h, Int.fdiv_one]
theorem rB_low {t b : Int} (hb : 0 < b) (h : Int.gcd t b = 1) : rB t b = b := by
  unfold rB; rw [rG_low hb h, Int.fdiv_one]
/-- a fraction's text -/
def textR (t b : Int) : Str := if b = 1 then (toString t : String) else Str.ofString (toString t) ++ "/" ++ Str.ofString (toString b)
theorem text_len {i : Int} (h : i.natAbs.log2 < 1920) : (Str.ofString (toString i)).length ≤ 1921 := PyProof.Rows.int_text_len_1921 h
theorem cat_len (a b : Str) : (a ++ b).length = a.length + b.length := by
  show (a.cps ++ b.cps).size = _
  rw [Array.size_append]; rfl
theorem log_lt {i : Int} {n : Nat} (h0 : 0 < n) (h9 : n ≤ 1920) (h : i.natAbs < 2 ^ n) : i.natAbs.log2 < 1920 := Nat.lt_of_lt_of_le (PySem.Flt.log2_lt_of h0 h) h9
end RB
namespace RB
theorem cross_made {X Y T B : Int} (hY : Y ≠ 0) (h : X * B = T * Y) : rT X Y * B = T * rB X Y := by
  have h1 := rT_mul (t := X) hY
  have h2 := rB_mul (t := X) hY
  have hg := rG_ne (t := X) hY
  generalize rT X Y = p at *
  generalize rB X Y = q at *
  generalize rG X Y = g at *
  apply Int.eq_of_mul_eq_mul_right hg
  rw [Int.mul_assoc, Int.mul_comm B g, ← Int.mul_assoc, h1, h, Int.mul_assoc, h2]
theorem plus_cross {p q p' q' a b c d : Int} (h1 : p * b = a * q) (h2 : p' * d = c * q') : (p * q' + p' * q) * (b * d) = (a * d + c * b) * (q * q') := by grind
theorem minus_cross {p q p' q' a b c d : Int} (h1 : p * b = a * q) (h2 : p' * d = c * q') : (p * q' - p' * q) * (b * d) = (a * d - c * b) * (q * q') := by grind
theorem times_cross {p q p' q' a b c d : Int} (h1 : p * b = a * q) (h2 : p' * d = c * q') : (p * p') * (b * d) = (a * c) * (q * q') := by grind
theorem over_cross {p q p' q' a b c d : Int} (h1 : p * b = a * q) (h2 : p' * d = c * q') : (p * q') * (b * c) = (a * d) * (q * p') := by grind
theorem rT_zero (b : Int) : rT 0 b = 0 := by
  unfold rT; exact Int.zero_fdiv _
end RB

set_option linter.all false
/-! Lists of coefficients. -/
namespace ML
/-- the coefficient at a place, 0 beyond -/
def cf (P : List Int) (k : Nat) : Int := P.getD k 0
theorem cf_nil (k : Nat) : cf [] k = 0 := by simp [cf]
theorem cf_zero (x : Int) (r : List Int) : cf (x :: r) 0 = x := rfl
theorem cf_succ (x : Int) (r : List Int) (k : Nat) : cf (x :: r) (k + 1) = cf r k := by simp [cf]
theorem cf_get {P : List Int} {k : Nat} (h : k < P.length) : cf P k = P[k] := by
  unfold cf; rw [List.getD_eq_getElem?_getD, List.getElem?_eq_getElem h]; rfl
theorem cf_some {P : List Int} {k : Nat} {x : Int} (h : P[k]? = some x) : cf P k = x := by
  unfold cf; rw [List.getD_eq_getElem?_getD, h]; rfl
theorem cf_beyond {P : List Int} {k : Nat} (h : P.length ≤ k) : cf P k = 0 := by
  unfold cf; rw [List.getD_eq_getElem?_getD, List.getElem?_eq_none h]; rfl
theorem cf_getElem? {P : List Int} {k : Nat} (h : k < P.length) : P[k]? = some (cf P k) := by
  rw [cf_get h, List.getElem?_eq_getElem h]
/-- two lists of one length with the same coefficients are alike -/
theorem ext {P Q : List Int} (hl : P.length = Q.length) (h : ∀ k, k < P.length → cf P k = cf Q k) : P = Q := by
  apply List.ext_getElem hl
  intro i h1 h2
  rw [← cf_get h1, ← cf_get h2]
  exact h i h1
/-- without noughts at the end -/
def Trim (P : List Int) : Prop := P = [] ∨ cf P (P.length - 1) ≠ 0
theorem trim_ext {P Q : List Int} (hP : Trim P) (hQ : Trim Q) (h : ∀ k, cf P k = cf Q k) : P = Q := by
  have aux : ∀ {P Q : List Int}, Trim P → (∀ k, cf P k = cf Q k) → P.length ≤ Q.length := fun {P Q} hP h => by
    rcases hP with rfl | hP
    · exact Nat.zero_le _
    · apply Nat.le_of_not_lt
      intro hl
      have := h (P.length - 1)
      rw [cf_beyond (P := Q) (by omega)] at this
      exact hP this
  exact ext (Nat.le_antisymm (aux hP h) (aux hQ fun k => (h k).symm)) fun k _ => h k
def trimL : List Int → List Int
  | [] => []
  | x :: r => match trimL r with
    | [] => if x = 0 then [] else [x]
    | y :: s => x :: y :: s
theorem cf_trimL : ∀ (P : List Int) (k : Nat), cf (trimL P) k = cf P k
  | [], k => rfl
  | x :: r, k => by
    have ih := cf_trimL r
    unfold trimL
    split
    · next e =>
      rw [e] at ih
      split
      · next hx =>
        subst hx
        cases k with
        | zero => rfl
        | succ k => rw [cf_succ, ← ih k, cf_nil, cf_nil]
      · cases k with
        | zero => rfl
        | succ k => rw [cf_succ, cf_succ, ← ih k]
    · next y s e =>
      rw [e] at ih
      cases k with
      | zero => rfl
      | succ k => rw [cf_succ, cf_succ, ← ih k]
theorem trim_trimL : ∀ P : List Int, Trim (trimL P)
  | [] => .inl rfl
  | x :: r => by
    have ih := trim_trimL r
    unfold trimL
    split
    · split
      · exact .inl rfl
      · next hx => exact .inr hx
    · next y s e =>
      rw [e] at ih
      rcases ih with h | h
      · cases h
      · refine .inr ?_
        show cf (x :: y :: s) (s.length + 1) ≠ 0
        rw [cf_succ]
        exact h
theorem trimL_eq {P Q : List Int} (hQ : Trim Q) (h : ∀ k, cf Q k = cf P k) : trimL P = Q := trim_ext (trim_trimL P) hQ fun k => by rw [cf_trimL, h]
theorem trimL_self {P : List Int} (h : Trim P) : trimL P = P := trimL_eq h fun _ => rfl
theorem trimL_trimL (P : List Int) : trimL (trimL P) = trimL P := trimL_self (trim_trimL P)
theorem trimL_len : ∀ P : List Int, (trimL P).length ≤ P.length
  | [] => Nat.le_refl _
  | x :: r => by
    have ih := trimL_len r
    unfold trimL
    split
    · split <;> simp
    · next y s e =>
      rw [e] at ih
      simp only [List.length_cons] at ih ⊢
      omega
theorem trimL_congr {P Q : List Int} (h : ∀ k, cf P k = cf Q k) : trimL P = trimL Q := trim_ext (trim_trimL P) (trim_trimL Q) fun k => by rw [cf_trimL, cf_trimL, h]
/-- what the loop finds -/
theorem trimL_take {P : List Int} {n : Nat} (hn : n ≤ P.length) (h0 : ∀ k, n ≤ k → cf P k = 0) (h1 : n = 0 ∨ cf P (n - 1) ≠ 0) : trimL P = P.take n := by
  have hc : ∀ k, cf (P.take n) k = cf P k := fun k => by
    by_cases hk : k < n
    · unfold cf
      rw [List.getD_eq_getElem?_getD, List.getD_eq_getElem?_getD, List.getElem?_take_of_lt hk]
    · rw [h0 k (by omega), cf_beyond (by rw [List.length_take]; omega)]
  refine trimL_eq ?_ hc
  rcases h1 with h1 | h1
  · left; subst h1; rfl
  · by_cases hz : n = 0
    · left; subst hz; rfl
    · right
      rw [List.length_take, Nat.min_eq_left hn, hc]
      exact h1
/-- all coefficients below 2 ^ n -/
def Sz (n : Nat) (P : List Int) : Prop := ∀ x ∈ P, x.natAbs < 2 ^ n
theorem Sz.cf {n : Nat} {P : List Int} (h : Sz n P) (k : Nat) : (cf P k).natAbs < 2 ^ n := by
  by_cases hk : k < P.length
  · rw [cf_get hk]; exact h _ (List.getElem_mem hk)
  · rw [cf_beyond (by omega)]; exact Nat.two_pow_pos n
theorem Sz.of {n : Nat} {P : List Int} (h : ∀ k, k < P.length → (ML.cf P k).natAbs < 2 ^ n) : Sz n P := fun x hx => by
  obtain ⟨k, hk, rfl⟩ := List.getElem_of_mem hx
  rw [← cf_get hk]; exact h k hk
theorem Sz.mono {n m : Nat} {P : List Int} (h : Sz n P) (hm : n ≤ m) : Sz m P := fun x hx => Nat.lt_of_lt_of_le (h x hx) (Nat.pow_le_pow_right (by decide) hm)
theorem Sz.trim {n : Nat} {P : List Int} (h : Sz n P) : Sz n (trimL P) := Sz.of fun k _ => by rw [cf_trimL]; exact h.cf k
theorem Sz.take {n : Nat} {P : List Int} (h : Sz n P) (k : Nat) : Sz n (P.take k) := fun x hx => h x (List.mem_of_mem_take hx)
theorem Sz.drop {n : Nat} {P : List Int} (h : Sz n P) (k : Nat) : Sz n (P.drop k) := fun x hx => h x (List.mem_of_mem_drop hx)
theorem Sz.append {n : Nat} {P Q : List Int} (h : Sz n P) (h' : Sz n Q) : Sz n (P ++ Q) := fun x hx => (List.mem_append.mp hx).elim (h x) (h' x)
theorem Sz.nil (n : Nat) : Sz n [] := fun x hx => by cases hx
theorem Sz.cons {n : Nat} {x : Int} {P : List Int} (hx : x.natAbs < 2 ^ n) (h : Sz n P) : Sz n (x :: P) := fun y hy => (List.mem_cons.mp hy).elim (fun e => by rw [e]; exact hx) (h y)
theorem Sz.rep0 (n k : Nat) : Sz n (List.replicate k 0) := fun x hx => by
  rw [List.mem_replicate] at hx
  rw [hx.2]; exact Nat.two_pow_pos n
theorem Sz.reverse {n : Nat} {P : List Int} (h : Sz n P) : Sz n P.reverse := fun x hx => h x (List.mem_reverse.mp hx)
theorem cf_map {f : Int → Int} (h0 : f 0 = 0) (P : List Int) (k : Nat) : cf (P.map f) k = f (cf P k) := by
  unfold cf
  rw [List.getD_eq_getElem?_getD, List.getD_eq_getElem?_getD, List.getElem?_map]
  cases P[k]? with
  | none => exact h0.symm
  | some x => rfl
theorem cf_range {n : Nat} {f : Nat → Int} {k : Nat} (h : k < n) : cf ((List.range n).map f) k = f k := by
  rw [cf_get (by simpa using h)]; simp
theorem cf_range_beyond {n : Nat} {f : Nat → Int} {k : Nat} (h : n ≤ k) : cf ((List.range n).map f) k = 0 := cf_beyond (by simpa using h)
theorem cf_set {P : List Int} {i k : Nat} {x : Int} (h : i < P.length) : cf (P.set i x) k = if k = i then x else cf P k := by
  unfold cf
  rw [List.getD_eq_getElem?_getD, List.getElem?_set, List.getD_eq_getElem?_getD]
  by_cases e : i = k
  · subst e; simp [h]
  · rw [if_neg e, if_neg (fun z => e z.symm)]
theorem cf_append_left {P Q : List Int} {k : Nat} (h : k < P.length) : cf (P ++ Q) k = cf P k := by
  unfold cf
  rw [List.getD_eq_getElem?_getD, List.getElem?_append_left h, List.getD_eq_getElem?_getD]
theorem cf_append_right {P Q : List Int} {k : Nat} (h : P.length ≤ k) : cf (P ++ Q) k = cf Q (k - P.length) := by
  unfold cf
  rw [List.getD_eq_getElem?_getD, List.getElem?_append_right h, List.getD_eq_getElem?_getD]
theorem cf_rep0 (n k : Nat) : cf (List.replicate n 0) k = 0 := by
  unfold cf
  rw [List.getD_eq_getElem?_getD, List.getElem?_replicate]
  split <;> rfl
theorem cf_drop (P : List Int) (n k : Nat) : cf (P.drop n) k = cf P (n + k) := by
  unfold cf
  rw [List.getD_eq_getElem?_getD, List.getElem?_drop, List.getD_eq_getElem?_getD]
theorem cf_take {P : List Int} {n k : Nat} (h : k < n) : cf (P.take n) k = cf P k := by
  unfold cf
  rw [List.getD_eq_getElem?_getD, List.getD_eq_getElem?_getD, List.getElem?_take_of_lt h]

/-! ### sums and products -/
def addL (P Q : List Int) : List Int := trimL ((List.range (max P.length Q.length)).map fun k => cf P k + cf Q k)
def subL (P Q : List Int) : List Int := trimL ((List.range (max P.length Q.length)).map fun k => cf P k - cf Q k)
theorem cf_addL (P Q : List Int) (k : Nat) : cf (addL P Q) k = cf P k + cf Q k := by
  unfold addL
  rw [cf_trimL]
  by_cases h : k < max P.length Q.length
  · rw [cf_range h]
  · rw [cf_range_beyond (by omega), cf_beyond (P := P) (by omega), cf_beyond (P := Q) (by omega)]; rfl
theorem cf_subL (P Q : List Int) (k : Nat) : cf (subL P Q) k = cf P k - cf Q k := by
  unfold subL
  rw [cf_trimL]
  by_cases h : k < max P.length Q.length
  · rw [cf_range h]
  · rw [cf_range_beyond (by omega), cf_beyond (P := P) (by omega), cf_beyond (P := Q) (by omega)]; rfl
theorem trim_addL (P Q : List Int) : Trim (addL P Q) := trim_trimL _
theorem trim_subL (P Q : List Int) : Trim (subL P Q) := trim_trimL _
/-- the sum of f over 0 .. n - 1 -/
def sm : Nat → (Nat → Int) → Int
  | 0, _ => 0
  | n + 1, f => sm n f + f n
theorem sm_succ (n : Nat) (f : Nat → Int) : sm (n + 1) f = sm n f + f n := rfl
theorem sm_congr {n : Nat} {f g : Nat → Int} (h : ∀ i, i < n → f i = g i) : sm n f = sm n g := by
  induction n with
  | zero => rfl
  | succ n ih => unfold sm; rw [ih fun i hi => h i (by omega), h n (by omega)]
theorem sm_zero {n : Nat} {f : Nat → Int} (h : ∀ i, i < n → f i = 0) : sm n f = 0 := by
  induction n with
  | zero => rfl
  | succ n ih => unfold sm; rw [ih fun i hi => h i (by omega), h n (by omega)]; rfl
theorem sm_add (n : Nat) (f g : Nat → Int) : sm n (fun i => f i + g i) = sm n f + sm n g := by
  induction n with
  | zero => rfl
  | succ n ih => simp only [sm_succ]; rw [ih]; omega
theorem sm_sub (n : Nat) (f g : Nat → Int) : sm n (fun i => f i - g i) = sm n f - sm n g := by
  induction n with
  | zero => rfl
  | succ n ih => simp only [sm_succ]; rw [ih]; omega
theorem sm_mul (n : Nat) (c : Int) (f : Nat → Int) : sm n (fun i => c * f i) = c * sm n f := by
  induction n with
  | zero => simp [sm]
  | succ n ih => unfold sm; rw [ih, Int.mul_add]
theorem sm_mul_r (n : Nat) (c : Int) (f : Nat → Int) : sm n (fun i => f i * c) = sm n f * c := by
  rw [Int.mul_comm, ← sm_mul]; exact sm_congr fun i _ => Int.mul_comm _ _
theorem sm_neg (n : Nat) (f : Nat → Int) : sm n (fun i => - f i) = - sm n f := by
  induction n with
  | zero => rfl
  | succ n ih => simp only [sm_succ]; rw [ih]; omega
theorem sm_ext {n m : Nat} {f : Nat → Int} (h : n ≤ m) (h0 : ∀ i, n ≤ i → i < m → f i = 0) : sm m f = sm n f := by
  induction m with
  | zero => have : n = 0 := by omega
            subst this; rfl
  | succ m ih =>
    by_cases e : n = m + 1
    · subst e; rfl
    · rw [sm_succ, ih (by omega) fun i h1 h2 => h0 i h1 (by omega), h0 m (by omega) (by omega)]
      omega
theorem sm_single {n : Nat} {f : Nat → Int} {j : Nat} (hj : j < n) (h : ∀ i, i < n → i ≠ j → f i = 0) : sm n f = f j := by
  induction n with
  | zero => omega
  | succ n ih =>
    unfold sm
    by_cases e : j = n
    · subst e
      rw [sm_zero fun i hi => h i (by omega) (by omega)]; omega
    · rw [ih (by omega) fun i hi hn => h i (by omega) hn, h n (by omega) (fun z => e z.symm)]; omega
theorem sm_shift (n : Nat) (f : Nat → Int) : sm (n + 1) f = f 0 + sm n (fun i => f (i + 1)) := by
  induction n with
  | zero => simp [sm]
  | succ n ih =>
    rw [sm, ih]
    show f 0 + sm n (fun i => f (i + 1)) + f (n + 1) = f 0 + (sm n (fun i => f (i + 1)) + f (n + 1))
    omega
theorem sm_rev (n : Nat) (f : Nat → Int) : sm n (fun i => f (n - 1 - i)) = sm n f := by
  induction n generalizing f with
  | zero => rfl
  | succ n ih =>
    rw [sm_shift, sm]
    have e : sm n (fun i => f (n + 1 - 1 - (i + 1))) = sm n f := by
      rw [← ih f]
      exact sm_congr fun i hi => by congr 1; omega
    rw [e]
    show f (n - 0) + sm n f = sm n f + f n
    rw [Nat.sub_zero]; omega
theorem sm_swap (n m : Nat) (f : Nat → Nat → Int) : sm n (fun i => sm m (fun j => f i j)) = sm m (fun j => sm n (fun i => f i j)) := by
  induction n with
  | zero => rw [sm]; exact (sm_zero fun _ _ => rfl).symm
  | succ n ih =>
    rw [sm, ih, ← sm_add]
    exact sm_congr fun j _ => rfl
/-- the coefficient of a product at a place -/
def cv (P Q : List Int) (k : Nat) : Int := sm (k + 1) fun i => cf P i * cf Q (k - i)
def mulL (P Q : List Int) : List Int := trimL ((List.range (P.length + Q.length)).map (cv P Q))
theorem cv_beyond {P Q : List Int} {k : Nat} (h : P.length + Q.length ≤ k + 1) : cv P Q k = 0 := sm_zero fun i hi => by
  by_cases h1 : i < P.length
  · rw [cf_beyond (P := Q) (by omega), Int.mul_zero]
  · rw [cf_beyond (P := P) (by omega), Int.zero_mul]
theorem cf_mulL (P Q : List Int) (k : Nat) : cf (mulL P Q) k = cv P Q k := by
  unfold mulL
  rw [cf_trimL]
  by_cases h : k < P.length + Q.length
  · rw [cf_range h]
  · rw [cf_range_beyond (by omega), cv_beyond (by omega)]
theorem trim_mulL (P Q : List Int) : Trim (mulL P Q) := trim_trimL _
/-- the product as it stands behind k turns of the outer loop and i of the inner one -/
def pcv (P Q : List Int) (k j : Nat) : Int := sm k fun a => if a ≤ j then cf P a * cf Q (j - a) else 0
def pcw (P Q : List Int) (k i j : Nat) : Int := pcv P Q k j + if k ≤ j ∧ j - k < i then cf P k * cf Q (j - k) else 0
theorem pcw_zero (P Q : List Int) (k j : Nat) : pcw P Q k 0 j = pcv P Q k j := by
  unfold pcw
  rw [if_neg (by omega)]; omega
theorem pcw_full (P Q : List Int) (k j : Nat) : pcw P Q k Q.length j = pcv P Q (k + 1) j := by
  unfold pcw
  show _ = pcv P Q k j + (if k ≤ j then cf P k * cf Q (j - k) else 0)
  by_cases h : k ≤ j
  · rw [if_pos h]
    by_cases h2 : j - k < Q.length
    · rw [if_pos ⟨h, h2⟩]
    · rw [if_neg (by omega), cf_beyond (P := Q) (by omega), Int.mul_zero]
  · rw [if_neg h, if_neg (by omega)]
theorem pcw_step (P Q : List Int) (k i j : Nat) : pcw P Q k (i + 1) j = if j = k + i then pcw P Q k i j + cf P k * cf Q i else pcw P Q k i j := by
  unfold pcw
  by_cases h : j = k + i
  · subst h
    rw [if_pos rfl, if_pos (by omega), if_neg (by omega), Nat.add_sub_cancel_left]; omega
  · rw [if_neg h]
    by_cases h2 : k ≤ j ∧ j - k < i
    · rw [if_pos h2, if_pos (by omega)]
    · rw [if_neg h2, if_neg (by omega)]
theorem pcv_full (P Q : List Int) (j : Nat) : pcv P Q P.length j = cv P Q j := by
  unfold pcv cv
  by_cases h : P.length ≤ j + 1
  · rw [sm_ext (f := fun i => cf P i * cf Q (j - i)) h fun i h1 h2 => by rw [cf_beyond (P := P) h1, Int.zero_mul]]
    exact sm_congr fun i hi => if_pos (by omega)
  · rw [sm_ext (n := j + 1) (by omega) fun i h1 h2 => if_neg (by omega)]
    exact sm_congr fun i hi => if_pos (by omega)
theorem mulL_of {P Q R : List Int} (hl : R.length = P.length + Q.length) (h : ∀ j, cf R j = pcv P Q P.length j) : trimL R = mulL P Q := by
  refine trim_ext (trim_trimL _) (trim_mulL P Q) fun j => ?_
  rw [cf_trimL, h, pcv_full, cf_mulL]
def linL (P Q : List Int) (f : Int) : List Int := trimL ((List.range (max P.length Q.length)).map fun k => cf P k + f * cf Q k)
theorem linL_one (P Q : List Int) : linL P Q 1 = addL P Q := by
  unfold linL addL
  congr 1
  apply List.map_congr_left
  intro k _
  rw [Int.one_mul]
theorem linL_neg (P Q : List Int) : linL P Q (-1) = subL P Q := by
  unfold linL subL
  congr 1
  apply List.map_congr_left
  intro k _
  omega
theorem linL_of {P Q R : List Int} {f : Int} (hl : R.length = max P.length Q.length) (h : ∀ j, j < max P.length Q.length → cf R j = cf P j + f * cf Q j) : trimL R = linL P Q f := by
  unfold linL
  congr 1
  refine ext (by simpa using hl) fun k hk => ?_
  rw [h k (by omega), cf_range (by omega)]
/-! ### slope, turned, flipped, lifted -/
def slopeL (P : List Int) : List Int := (List.range (P.length - 1)).map fun (k : Nat) => ((k : Int) + 1) * cf P (k + 1)
def turnL (P : List Int) : List Int := (List.range P.length).map fun k => if k % 2 = 1 then - cf P k else cf P k
def flipL (P : List Int) : List Int := trimL P.reverse
/-- each coefficient at so many times its place -/
def liftL (P : List Int) (m : Nat) : List Int := (List.range (if P.length = 0 then 0 else m * (P.length - 1) + 1)).map fun j => if j % m = 0 then cf P (j / m) else 0
theorem cf_slopeL (P : List Int) (k : Nat) : cf (slopeL P) k = ((k : Int) + 1) * cf P (k + 1) := by
  unfold slopeL
  by_cases h : k < P.length - 1
  · rw [cf_range h]
  · rw [cf_range_beyond (by omega), cf_beyond (P := P) (show P.length ≤ k + 1 by omega), Int.mul_zero]
theorem cf_turnL (P : List Int) (k : Nat) : cf (turnL P) k = if k % 2 = 1 then - cf P k else cf P k := by
  unfold turnL
  by_cases h : k < P.length
  · rw [cf_range h]
  · rw [cf_range_beyond (by omega), cf_beyond (P := P) (by omega)]; split <;> rfl
theorem turnL_len (P : List Int) : (turnL P).length = P.length := by unfold turnL; simp
theorem turnL_turnL (P : List Int) : turnL (turnL P) = P := by
  refine ext (by rw [turnL_len, turnL_len]) fun k _ => ?_
  rw [cf_turnL, cf_turnL]
  by_cases h : k % 2 = 1
  · rw [if_pos h, if_pos h]; omega
  · rw [if_neg h, if_neg h]
theorem cf_reverse {P : List Int} {k : Nat} (h : k < P.length) : cf P.reverse k = cf P (P.length - 1 - k) := by
  unfold cf
  rw [List.getD_eq_getElem?_getD, List.getElem?_reverse h, List.getD_eq_getElem?_getD]
theorem liftL_len (P : List Int) (m : Nat) : (liftL P m).length = if P.length = 0 then 0 else m * (P.length - 1) + 1 := by unfold liftL; simp
theorem div_bound {j m n : Nat} (hm : 0 < m) (h : j < m * n + 1) : j / m ≤ n := by
  rw [← Nat.lt_add_one_iff, Nat.div_lt_iff_lt_mul hm, Nat.add_mul, Nat.mul_comm n m]; omega
theorem liftL_step {P R : List Int} {m i : Nat} (hm : 0 < m) (hi : i < P.length) (hR : R = liftL (P.take i) m) : (if i = 0 then R else R ++ List.replicate (m - 1) 0) ++ [cf P i] = liftL (P.take (i + 1)) m := by
  have lt1 : (P.take i).length = i := by rw [List.length_take]; omega
  have lt2 : (P.take (i + 1)).length = i + 1 := by rw [List.length_take]; omega
  have lR : R.length = if i = 0 then 0 else m * (i - 1) + 1 := by rw [hR, liftL_len, lt1]
  have lL : (if i = 0 then R else R ++ List.replicate (m - 1) 0).length = m * i := by
    by_cases h : i = 0
    · subst h; rw [if_pos rfl, lR, if_pos rfl]; rfl
    · rw [if_neg h, List.length_append, List.length_replicate, lR, if_neg h]
      have : m * i = m * (i - 1) + m := by rw [← Nat.mul_succ]; congr 1; omega
      omega
  refine ext ?_ fun k hk => ?_
  · rw [List.length_append, lL, liftL_len, lt2, if_neg (by omega), Nat.add_sub_cancel]; rfl
  · rw [List.length_append, lL] at hk
    have hk' : k < m * i + 1 := hk
    have hr : cf (liftL (P.take (i + 1)) m) k = if k % m = 0 then cf (P.take (i + 1)) (k / m) else 0 := by
      unfold liftL
      rw [lt2, if_neg (by omega), Nat.add_sub_cancel, cf_range hk']
    rw [hr]
    by_cases hlast : k = m * i
    · rw [cf_append_right (by omega), lL, hlast, Nat.sub_self, Nat.mul_mod_right, if_pos rfl, Nat.mul_div_cancel_left _ hm, cf_take (by omega)]; rfl
    · rw [cf_append_left (by omega)]
      have i0 : i ≠ 0 := by intro e; subst e; omega
      rw [if_neg i0]
      rw [if_neg i0] at lR
      have em : m * i = m * (i - 1) + m := by rw [← Nat.mul_succ]; congr 1; omega
      by_cases hin : k < R.length
      · rw [cf_append_left hin, hR]
        unfold liftL
        rw [lt1, if_neg i0, cf_range (by omega)]
        split
        · have := div_bound hm (show k < m * (i - 1) + 1 by omega)
          rw [cf_take (by omega), cf_take (by omega)]
        · rfl
      · rw [cf_append_right (by omega), cf_rep0]
        have hd : k / m = i - 1 := by
          apply Nat.div_eq_of_lt_le
          · rw [Nat.mul_comm]; omega
          · rw [Nat.succ_mul, Nat.mul_comm]; omega
        have hne : k % m ≠ 0 := fun e => by
          have := Nat.div_add_mod k m
          rw [hd, e] at this
          omega
        rw [if_neg hne]
theorem liftL_all (P : List Int) (m : Nat) : liftL (P.take P.length) m = liftL P m := by rw [List.take_length]
theorem liftL_nil (P : List Int) (m : Nat) : liftL (P.take 0) m = [] := by simp [liftL]
theorem cf_liftL (P : List Int) {m : Nat} (hm : 0 < m) (j : Nat) : cf (liftL P m) j = if j % m = 0 then cf P (j / m) else 0 := by
  unfold liftL
  by_cases h : j < (if P.length = 0 then 0 else m * (P.length - 1) + 1)
  · rw [cf_range h]
  · rw [cf_range_beyond (by omega)]
    split
    · next e =>
      refine (cf_beyond ?_).symm
      by_cases h0 : P.length = 0
      · rw [h0]; exact Nat.zero_le _
      · rw [if_neg h0] at h
        have := Nat.div_add_mod j m
        rw [e] at this
        apply Nat.le_of_not_lt
        intro hlt
        have h2 : m * (j / m) ≤ m * (P.length - 1) := Nat.mul_le_mul_left m (by omega)
        omega
    · rfl
theorem trim_liftL {P : List Int} {m : Nat} (hm : 0 < m) (h : Trim P) : Trim (liftL P m) := by
  by_cases h0 : P.length = 0
  · left; unfold liftL; rw [if_pos h0]; rfl
  · right
    rw [liftL_len, if_neg h0, Nat.add_sub_cancel, cf_liftL P hm, Nat.mul_mod_right, if_pos rfl, Nat.mul_div_cancel_left _ hm]
    rcases h with h | h
    · rw [h] at h0; exact absurd rfl h0
    · exact h
/-- the product with its noughts -/
def mulU (P Q : List Int) : List Int := if P = [] ∨ Q = [] then [] else (List.range (P.length + Q.length - 1)).map (cv P Q)
theorem cf_mulU (P Q : List Int) (k : Nat) : cf (mulU P Q) k = cv P Q k := by
  unfold mulU
  split
  · next h =>
    rw [cf_nil]
    refine (cv_beyond' h k).symm
  · by_cases h : k < P.length + Q.length - 1
    · rw [cf_range h]
    · rw [cf_range_beyond (by omega), cv_beyond (by omega)]
where
  cv_beyond' {P Q : List Int} (h : P = [] ∨ Q = []) (k : Nat) : cv P Q k = 0 := sm_zero fun i _ => by
    rcases h with h | h
    · rw [h, cf_nil, Int.zero_mul]
    · rw [h, cf_nil, Int.mul_zero]
theorem mulU_len (P Q : List Int) : (mulU P Q).length ≤ P.length + Q.length := by
  unfold mulU
  split
  · simp
  · rw [List.length_map, List.length_range]; omega
theorem addL_len (P Q : List Int) : (addL P Q).length ≤ max P.length Q.length := Nat.le_trans (trimL_len _) (by simp)
theorem sm_abs {n : Nat} {f : Nat → Int} {b : Nat} (h : ∀ i, i < n → (f i).natAbs ≤ b) : (sm n f).natAbs ≤ n * b := by
  induction n with
  | zero => simp [sm]
  | succ n ih =>
    rw [sm_succ, Nat.add_mul]
    have := ih fun i hi => h i (by omega)
    have := h n (by omega)
    omega
theorem two_pow_ge (n : Nat) : n + 1 ≤ 2 ^ n := by
  induction n with
  | zero => decide
  | succ n ih => rw [Nat.pow_succ]; omega
theorem cv_sz {P Q : List Int} {n m : Nat} (hp : Sz n P) (hq : Sz m Q) (k : Nat) : (cv P Q k).natAbs < 2 ^ (n + m + P.length + 1) := by
  have h1 : cv P Q k = pcv P Q P.length k := (pcv_full P Q k).symm
  rw [h1]
  have h2 : (pcv P Q P.length k).natAbs ≤ P.length * 2 ^ (n + m) := sm_abs fun i _ => by
    split
    · rw [Int.natAbs_mul, Nat.pow_add]
      exact Nat.mul_le_mul (Nat.le_of_lt (hp.cf _)) (Nat.le_of_lt (hq.cf _))
    · exact Nat.zero_le _
  refine Nat.lt_of_le_of_lt h2 ?_
  have h3 := two_pow_ge P.length
  have h4 : 2 ^ (n + m + P.length + 1) = 2 ^ (P.length + 1) * 2 ^ (n + m) := by rw [← Nat.pow_add]; congr 1; omega
  rw [h4]
  exact Nat.mul_lt_mul_of_pos_right (by rw [Nat.pow_succ]; omega) (Nat.two_pow_pos _)
theorem Sz.mulL {P Q : List Int} {n m : Nat} (hp : Sz n P) (hq : Sz m Q) : Sz (n + m + P.length + 1) (mulL P Q) := Sz.of fun k _ => by rw [cf_mulL]; exact cv_sz hp hq k
theorem Sz.mulU {P Q : List Int} {n m : Nat} (hp : Sz n P) (hq : Sz m Q) : Sz (n + m + P.length + 1) (mulU P Q) := Sz.of fun k _ => by rw [cf_mulU]; exact cv_sz hp hq k
theorem Sz.addL {P Q : List Int} {n : Nat} (hp : Sz n P) (hq : Sz n Q) : Sz (n + 1) (addL P Q) := Sz.of fun k _ => by
  rw [cf_addL]
  have := hp.cf k
  have := hq.cf k
  have : 2 ^ (n + 1) = 2 ^ n + 2 ^ n := by rw [Nat.pow_succ]; omega
  omega
end ML

set_option linter.all false
/-! A polynomial at a fraction, by places from the top (top_at), and changes of sign. -/
namespace MH
open ML
/-- the total behind the coefficients (that of the highest power first), the scale -/
def hs (t b : Int) : List Int → Int × Int
  | [] => (0, 1)
  | x :: r => ((hs t b r).1 * t + x * (hs t b r).2, (hs t b r).2 * b)
/-- P at t / b, times b to the power of P's degree; the list's head is the constant, so hs is read from behind -/
def topL (P : List Int) (t b : Int) : Int := (hs t b P).1
theorem hs_cons (t b x : Int) (r : List Int) : hs t b (x :: r) = ((hs t b r).1 * t + x * (hs t b r).2, (hs t b r).2 * b) := rfl
theorem hs_drop {t b : Int} {P : List Int} {i : Nat} {x : Int} (h : P[i]? = some x) : hs t b (P.drop i) = ((hs t b (P.drop (i + 1))).1 * t + x * (hs t b (P.drop (i + 1))).2, (hs t b (P.drop (i + 1))).2 * b) := by
  obtain ⟨hl, e⟩ := List.getElem?_eq_some_iff.mp h
  rw [List.drop_eq_getElem_cons hl, e, hs_cons]
theorem hs_sz {t b : Int} {n m : Nat} (ht : t.natAbs < 2 ^ m) (hb : b.natAbs < 2 ^ m) : ∀ P : List Int, Sz n P → ((hs t b P).1).natAbs < 2 ^ (n + (m + 1) * P.length + 1) ∧ ((hs t b P).2).natAbs < 2 ^ (m * P.length + 1)
  | [], _ => ⟨Nat.two_pow_pos _, by show (1 : Int).natAbs < 2 ^ (m * 0 + 1); simp⟩
  | x :: r, h => by
    obtain ⟨h1, h2⟩ := hs_sz ht hb r (fun y hy => h y (List.mem_cons_of_mem _ hy))
    have hx := h x (List.mem_cons_self ..)
    have a1 : ((hs t b r).1 * t).natAbs < 2 ^ (n + (m + 1) * r.length + 1 + m) := L2.wide_lt h1 ht
    have a2 : (x * (hs t b r).2).natAbs < 2 ^ (n + (m * r.length + 1)) := L2.wide_lt hx h2
    have a3 : ((hs t b r).2 * b).natAbs < 2 ^ (m * r.length + 1 + m) := L2.wide_lt h2 hb
    have e1 : (m + 1) * (r.length + 1) = m * r.length + r.length + m + 1 := by
      rw [Nat.mul_add, Nat.add_mul]; omega
    have e1' : (m + 1) * r.length = m * r.length + r.length := by rw [Nat.add_mul, Nat.one_mul]
    have e2 : m * (r.length + 1) = m * r.length + m := by rw [Nat.mul_add]; omega
    rw [hs_cons, List.length_cons, e1, e2]
    refine ⟨?_, Nat.lt_of_lt_of_le a3 (Nat.pow_le_pow_right (by decide) (by omega))⟩
    have b1 : ((hs t b r).1 * t).natAbs < 2 ^ (n + (m * r.length + r.length + m + 1)) := Nat.lt_of_lt_of_le a1 (Nat.pow_le_pow_right (by decide) (by omega))
    have b2 : (x * (hs t b r).2).natAbs < 2 ^ (n + (m * r.length + r.length + m + 1)) := Nat.lt_of_lt_of_le a2 (Nat.pow_le_pow_right (by decide) (by omega))
    rw [Nat.pow_succ]
    show ((hs t b r).1 * t + x * (hs t b r).2).natAbs < _
    generalize 2 ^ (n + (m * r.length + r.length + m + 1)) = z at b1 b2 ⊢
    omega
theorem hs_scale (p q g : Int) : ∀ P : List Int, (hs (p * g) (q * g) P).1 * g = (hs p q P).1 * g ^ P.length ∧ (hs (p * g) (q * g) P).2 = (hs p q P).2 * g ^ P.length
  | [] => ⟨by show (0 : Int) * g = 0 * g ^ 0; rw [Int.zero_mul, Int.zero_mul], by show (1 : Int) = 1 * g ^ 0; rw [Int.pow_zero]; rfl⟩
  | x :: r => by
    obtain ⟨h1, h2⟩ := hs_scale p q g r
    rw [hs_cons, hs_cons, List.length_cons, Int.pow_succ, h2]
    constructor
    · show ((hs (p * g) (q * g) r).1 * (p * g) + x * ((hs p q r).2 * g ^ r.length)) * g = ((hs p q r).1 * p + x * (hs p q r).2) * (g ^ r.length * g)
      generalize (hs (p * g) (q * g) r).1 = A at *
      generalize (hs p q r).1 = B at *
      generalize g ^ r.length = G at *
      grind
    · show (hs p q r).2 * g ^ r.length * (q * g) = (hs p q r).2 * q * (g ^ r.length * g)
      generalize g ^ r.length = G
      grind
theorem pow_pos {g : Int} (h : 0 < g) : ∀ n : Nat, 0 < g ^ n
  | 0 => by rw [Int.pow_zero]; decide
  | n + 1 => by rw [Int.pow_succ]; exact Int.mul_pos (pow_pos h n) h
/-- the sign at a made fraction is that at what it is made of -/
theorem sign_made (P : List Int) {t b : Int} (hb : 0 < b) : RB.ordI (topL P (RB.rT t b) (RB.rB t b)) 0 = RB.ordI (topL P t b) 0 := by
  have hg := RB.rG_gt (t := t) hb
  have e1 := RB.rT_mul (t := t) (b := b) (by omega)
  have e2 := RB.rB_mul (t := t) (b := b) (by omega)
  have h := (hs_scale (RB.rT t b) (RB.rB t b) (RB.rG t b) P).1
  rw [e1, e2] at h
  have a1 := RB.ordI_scale hg (topL P t b) 0
  have a2 := RB.ordI_scale (pow_pos hg P.length) (topL P (RB.rT t b) (RB.rB t b)) 0
  rw [Int.zero_mul] at a1 a2
  rw [← a1, ← a2]
  unfold topL
  rw [h]
/-- one more sign: how many changes, the last sign -/
def stp (s : Int × Int) (x : Int) : Int × Int := if x ≠ 0 then (if s.2 = 0 - x then s.1 + 1 else s.1, x) else s
def chg (Ps : List (List Int)) (t b : Int) : Int × Int := Ps.foldl (fun s P => stp s (RB.ordI (topL P t b) 0)) (0, 0)
theorem chg_take {Ps : List (List Int)} {t b : Int} {i : Nat} {P : List Int} (h : Ps[i]? = some P) : chg (Ps.take (i + 1)) t b = stp (chg (Ps.take i) t b) (RB.ordI (topL P t b) 0) := by
  unfold chg
  rw [List.take_add_one, h]
  simp [List.foldl_append]
theorem chg_made (Ps : List (List Int)) {t b : Int} (hb : 0 < b) : chg Ps (RB.rT t b) (RB.rB t b) = chg Ps t b := by
  unfold chg
  congr 1
  funext s P
  rw [sign_made P hb]
end MH

set_option linter.all false
/-! Division with a factor. -/
namespace MD
open ML
/-- the last coefficient -/
def lc (Q : List Int) : Int := cf Q (Q.length - 1)
def subShift (rs Q : List Int) (k : Nat) (many : Int) : List Int := (List.range rs.length).map fun j => if k ≤ j ∧ j - k < Q.length then cf rs j - many * cf Q (j - k) else cf rs j
theorem subShift_len (rs Q : List Int) (k : Nat) (many : Int) : (subShift rs Q k many).length = rs.length := by unfold subShift; simp
theorem cf_subShift {rs Q : List Int} {k : Nat} {many : Int} (j : Nat) (h : k + Q.length ≤ rs.length) : cf (subShift rs Q k many) j = cf rs j - if k ≤ j then many * cf Q (j - k) else 0 := by
  unfold subShift
  by_cases hj : j < rs.length
  · rw [cf_range hj]
    by_cases h1 : k ≤ j
    · rw [if_pos h1]
      by_cases h2 : j - k < Q.length
      · rw [if_pos ⟨h1, h2⟩]
      · rw [if_neg (by omega), cf_beyond (P := Q) (by omega), Int.mul_zero]; omega
    · rw [if_neg (by omega), if_neg h1]; omega
  · rw [cf_range_beyond (by omega), cf_beyond (P := rs) (by omega)]
    split
    · rw [cf_beyond (P := Q) (by omega), Int.mul_zero]; rfl
    · rfl
def dloop (Q : List Int) : Nat → List Int × List Int → List Int × List Int
  | 0, s => s
  | k + 1, (qs, rs) => dloop Q k (qs.set k ((cf rs (k + (Q.length - 1))).fdiv (lc Q)), subShift rs Q k ((cf rs (k + (Q.length - 1))).fdiv (lc Q)))
def facL (P Q : List Int) : Int := if P.length < Q.length then 1 else ((lc Q).natAbs : Int) ^ (P.length - Q.length + 1)
def quoL (P Q : List Int) : List Int := if P.length < Q.length then [] else trimL (dloop Q (P.length - Q.length + 1) (List.replicate (P.length - Q.length + 1) 0, P.map (· * facL P Q))).1
def remL (P Q : List Int) : List Int := if P.length < Q.length then P else trimL (dloop Q (P.length - Q.length + 1) (List.replicate (P.length - Q.length + 1) 0, P.map (· * facL P Q))).2
theorem cv_set {qs Q : List Int} {k : Nat} {x : Int} (hk : k < qs.length) (h0 : cf qs k = 0) (j : Nat) : cv (qs.set k x) Q j = cv qs Q j + if k ≤ j then x * cf Q (j - k) else 0 := by
  unfold cv
  have e : sm (j + 1) (fun i => cf (qs.set k x) i * cf Q (j - i)) = sm (j + 1) (fun i => cf qs i * cf Q (j - i) + if i = k then x * cf Q (j - k) else 0) := sm_congr fun i _ => by
    rw [cf_set hk]
    by_cases h : i = k
    · rw [if_pos h, if_pos h, h, h0, Int.zero_mul]; omega
    · rw [if_neg h, if_neg h]; omega
  rw [e, sm_add]
  congr 1
  by_cases hj : k ≤ j
  · rw [if_pos hj, sm_single (j := k) (by omega) fun i _ hn => if_neg hn, if_pos rfl]
  · rw [if_neg hj]
    exact sm_zero fun i hi => if_neg (by omega)
structure Inv (Q : List Int) (F : Nat → Int) (N g k : Nat) (s : List Int × List Int) : Prop where
  lq : s.1.length = g
  lr : s.2.length = N
  eq : ∀ j, F j = cv s.1 Q j + cf s.2 j
  hi : ∀ j, k + (Q.length - 1) ≤ j → cf s.2 j = 0
  dv : ∀ j, (((lc Q).natAbs ^ k : Nat) : Int) ∣ cf s.2 j
  lo : ∀ i, i < k → cf s.1 i = 0
theorem many_eq {Q rs : List Int} {k : Nat} (hl : lc Q ≠ 0) (dv : ∀ j, (((lc Q).natAbs ^ (k + 1) : Nat) : Int) ∣ cf rs j) (j : Nat) : lc Q * (cf rs j).fdiv (lc Q) = cf rs j := by
  have h1 : lc Q ∣ cf rs j := by
    refine Int.dvd_trans ?_ (dv j)
    refine Int.natAbs_dvd_natAbs.mp ?_
    rw [Int.natAbs_natCast, Nat.pow_succ]
    exact Nat.dvd_mul_left _ _
  rw [Int.fdiv_eq_ediv_of_dvd h1, Int.mul_ediv_cancel' h1]
theorem Inv.step {Q : List Int} {F : Nat → Int} {N g k : Nat} {qs rs : List Int} (I : Inv Q F N g (k + 1) (qs, rs)) (hl : lc Q ≠ 0) (hQ : 0 < Q.length) (hk : k < g) (hN : k + Q.length ≤ N) :
    Inv Q F N g k (qs.set k ((cf rs (k + (Q.length - 1))).fdiv (lc Q)), subShift rs Q k ((cf rs (k + (Q.length - 1))).fdiv (lc Q))) := by
  obtain ⟨lq, lr, eq, hi, dv, lo⟩ := I
  dsimp only at lq lr eq hi dv lo
  have me := many_eq hl dv (k + (Q.length - 1))
  have dm : (((lc Q).natAbs ^ k : Nat) : Int) ∣ (cf rs (k + (Q.length - 1))).fdiv (lc Q) := by
    have h1 := dv (k + (Q.length - 1))
    rw [← me] at h1
    have h2 := Int.natAbs_dvd_natAbs.mpr h1
    rw [Int.natAbs_natCast, Int.natAbs_mul, Nat.pow_succ, Nat.mul_comm] at h2
    have h3 := Nat.dvd_of_mul_dvd_mul_left (by omega) h2
    exact Int.natAbs_dvd_natAbs.mp (by rw [Int.natAbs_natCast]; exact h3)
  generalize (cf rs (k + (Q.length - 1))).fdiv (lc Q) = many at me dm ⊢
  refine ⟨by rw [List.length_set]; exact lq, by rw [subShift_len]; exact lr, fun j => ?_, fun j hj => ?_, fun j => ?_, fun i hi' => ?_⟩
  · dsimp only
    rw [eq j, cv_set (by omega) (lo k (by omega)), cf_subShift j (by omega)]; omega
  · dsimp only
    rw [cf_subShift j (by omega), if_pos (by omega)]
    by_cases h : j = k + (Q.length - 1)
    · have e2 : j - k = Q.length - 1 := by omega
      have e3 : cf Q (Q.length - 1) = lc Q := rfl
      rw [e2, e3, h, ← me, Int.mul_comm]; omega
    · rw [hi j (by omega), cf_beyond (P := Q) (by omega), Int.mul_zero]; rfl
  · dsimp only
    rw [cf_subShift j (by omega)]
    have d1 : (((lc Q).natAbs ^ k : Nat) : Int) ∣ cf rs j := Int.dvd_trans (Int.ofNat_dvd.mpr (Nat.pow_dvd_pow _ (by omega))) (dv j)
    refine Int.dvd_sub d1 ?_
    split
    · exact Int.dvd_mul_of_dvd_left dm
    · exact Int.dvd_zero _
  · dsimp only
    rw [cf_set (by omega), if_neg (by omega)]
    exact lo i (by omega)
theorem Inv.run {Q : List Int} {F : Nat → Int} {N g : Nat} (hl : lc Q ≠ 0) (hQ : 0 < Q.length) : ∀ (k : Nat) (s : List Int × List Int), k ≤ g → (k = 0 ∨ k - 1 + Q.length ≤ N) → Inv Q F N g k s → Inv Q F N g 0 (dloop Q k s)
  | 0, s, _, _, I => I
  | k + 1, (qs, rs), hk, hN, I => Inv.run hl hQ k _ (by omega) (by omega) (I.step hl hQ (by omega) (by omega))
theorem cv_zero_left {qs Q : List Int} (h : ∀ i, cf qs i = 0) (j : Nat) : cv qs Q j = 0 := sm_zero fun i _ => by rw [h, Int.zero_mul]
theorem lc_ne {Q : List Int} (hT : Trim Q) (h0 : Q ≠ []) : lc Q ≠ 0 := hT.elim (fun e => absurd e h0) id
theorem len_pos {Q : List Int} (h0 : Q ≠ []) : 0 < Q.length := List.length_pos_iff.mpr h0
theorem dstart {P Q : List Int} (hT : Trim Q) (h0 : Q ≠ []) (hg : ¬ P.length < Q.length) : Inv Q (fun j => cf P j * facL P Q) P.length (P.length - Q.length + 1) (P.length - Q.length + 1) (List.replicate (P.length - Q.length + 1) 0, P.map (· * facL P Q)) where
  lq := by simp
  lr := by simp
  eq := fun j => by
    dsimp only
    rw [cv_zero_left (fun i => cf_rep0 _ _), cf_map (f := (· * facL P Q)) (by omega)]; omega
  hi := fun j hj => by
    have := len_pos h0
    exact cf_beyond (by simp; omega)
  dv := fun j => by
    dsimp only
    rw [cf_map (f := (· * facL P Q)) (by omega)]
    refine Int.dvd_mul_of_dvd_right ?_
    unfold facL
    rw [if_neg hg, ← Int.natCast_pow]
    exact Int.dvd_refl _
  lo := fun i _ => cf_rep0 _ _
theorem dend {P Q : List Int} (hT : Trim Q) (h0 : Q ≠ []) (hg : ¬ P.length < Q.length) : Inv Q (fun j => cf P j * facL P Q) P.length (P.length - Q.length + 1) 0 (dloop Q (P.length - Q.length + 1) (List.replicate (P.length - Q.length + 1) 0, P.map (· * facL P Q))) :=
  Inv.run (lc_ne hT h0) (len_pos h0) _ _ (Nat.le_refl _) (.inr (by omega)) (dstart hT h0 hg)
theorem cv_trim_left (P Q : List Int) (j : Nat) : cv (trimL P) Q j = cv P Q j := sm_congr fun i _ => by rw [cf_trimL]
/-- factor times P is quotient times Q, added to the rest -/
theorem div_eq {P Q : List Int} (hT : Trim Q) (h0 : Q ≠ []) (j : Nat) : facL P Q * cf P j = cv (quoL P Q) Q j + cf (remL P Q) j := by
  by_cases hg : P.length < Q.length
  · unfold facL quoL remL
    rw [if_pos hg, if_pos hg, if_pos hg, cv_zero_left (fun i => cf_nil i)]; omega
  · have I := dend hT h0 hg
    unfold quoL remL
    rw [if_neg hg, if_neg hg, cv_trim_left, cf_trimL, Int.mul_comm]
    exact I.eq j
theorem rem_len {P Q : List Int} (hT : Trim Q) (h0 : Q ≠ []) : (remL P Q).length < Q.length := by
  by_cases hg : P.length < Q.length
  · unfold remL; rw [if_pos hg]; exact hg
  · have I := dend hT h0 hg
    have hq := len_pos h0
    have hz : ∀ j, Q.length - 1 ≤ j → cf (remL P Q) j = 0 := fun j hj => by
      unfold remL
      rw [if_neg hg, cf_trimL]
      exact I.hi j (by omega)
    have ht : Trim (remL P Q) := by
      unfold remL; rw [if_neg hg]; exact trim_trimL _
    rcases ht with h | h
    · rw [h]; exact hq
    · apply Nat.lt_of_not_le
      intro hle
      exact h (hz _ (by omega))
theorem trim_rem {P Q : List Int} (h : Trim P) : Trim (remL P Q) := by
  unfold remL
  split
  · exact h
  · exact trim_trimL _
theorem trim_quo (P Q : List Int) : Trim (quoL P Q) := by
  unfold quoL
  split
  · exact .inl rfl
  · exact trim_trimL _
/-! ### sizes -/
theorem abs_sub_lt {a b : Int} {n m : Nat} (ha : a.natAbs < 2 ^ n) (hb : b.natAbs < 2 ^ m) (h : n ≤ m) : (a - b).natAbs < 2 ^ (m + 1) := by
  have h1 : (2 : Nat) ^ n ≤ 2 ^ m := Nat.pow_le_pow_right (by decide) h
  have h2 : (2 : Nat) ^ (m + 1) = 2 ^ m + 2 ^ m := by rw [Nat.pow_succ]; omega
  omega
theorem many_lt {Q rs : List Int} {k n : Nat} (hl : lc Q ≠ 0) (dv : ∀ j, (((lc Q).natAbs ^ (k + 1) : Nat) : Int) ∣ cf rs j) (hs : Sz n rs) (j : Nat) : ((cf rs j).fdiv (lc Q)).natAbs < 2 ^ n := by
  have h1 := many_eq hl dv j
  have h2 := hs.cf j
  rw [← h1, Int.natAbs_mul] at h2
  exact Nat.lt_of_le_of_lt (Nat.le_mul_of_pos_left _ (by omega)) h2
theorem Sz.sub {Q rs : List Int} {k n m : Nat} {many : Int} (hs : Sz n rs) (hq : Sz m Q) (hm : many.natAbs < 2 ^ n) : Sz (n + m + 1) (subShift rs Q k many) := fun x hx => by
  unfold subShift at hx
  obtain ⟨j, _, rfl⟩ := List.mem_map.mp hx
  have h1 := hs.cf j
  have h2 : (many * cf Q (j - k)).natAbs < 2 ^ (n + m) := by
    rw [Int.natAbs_mul, Nat.pow_add]
    exact Nat.mul_lt_mul'' hm (hq.cf _)
  split
  · exact abs_sub_lt h1 h2 (by omega)
  · exact Nat.lt_of_lt_of_le h1 (Nat.pow_le_pow_right (by decide) (by omega))
theorem Sz.setq {qs : List Int} {n k : Nat} {x : Int} (hs : Sz n qs) (hx : x.natAbs < 2 ^ n) : Sz n (qs.set k x) := fun y hy => by
  rcases List.mem_or_eq_of_mem_set hy with h | h
  · exact hs y h
  · rw [h]; exact hx
theorem dloop_sz {Q : List Int} {F : Nat → Int} {N g m : Nat} (hl : lc Q ≠ 0) (hQ : 0 < Q.length) (hq : Sz m Q) : ∀ (k : Nat) (s : List Int × List Int) (n : Nat), k ≤ g → (k = 0 ∨ k - 1 + Q.length ≤ N) → Inv Q F N g k s → Sz n s.1 → Sz n s.2 → Sz (n + k * (m + 1)) (dloop Q k s).1 ∧ Sz (n + k * (m + 1)) (dloop Q k s).2
  | 0, s, n, _, _, _, h1, h2 => ⟨h1.mono (by omega), h2.mono (by omega)⟩
  | k + 1, (qs, rs), n, hk, hN, I, h1, h2 => by
    have hm := many_lt hl I.dv h2 (k + (Q.length - 1))
    have := dloop_sz hl hQ hq k _ (n + m + 1) (by omega) (by omega) (I.step hl hQ (by omega) (by omega)) ((Sz.setq h1 hm).mono (by omega)) (Sz.sub h2 hq hm)
    have e : n + m + 1 + k * (m + 1) = n + (k + 1) * (m + 1) := by rw [Nat.add_mul]; omega
    rw [e] at this
    exact this
theorem facL_lt {P Q : List Int} {m : Nat} (hq : Sz m Q) : (facL P Q).natAbs < 2 ^ (m * (P.length - Q.length + 1) + 1) := by
  unfold facL
  split
  · exact Nat.lt_of_lt_of_le (by decide : (1 : Int).natAbs < 2 ^ 1) (Nat.pow_le_pow_right (by decide) (by omega))
  · have h := hq.cf (Q.length - 1)
    rw [← Int.natCast_pow, Int.natAbs_natCast]
    refine Nat.lt_of_le_of_lt (Nat.pow_le_pow_left (Nat.le_of_lt h) _) ?_
    rw [← Nat.pow_mul]
    exact Nat.pow_lt_pow_right (by decide) (by omega)
/-- how great the quotient and the rest can be -/
theorem div_sz {P Q : List Int} {n m : Nat} (hT : Trim Q) (h0 : Q ≠ []) (hp : Sz n P) (hq : Sz m Q) : Sz (n + (2 * m + 1) * (P.length + 1) + 1) (quoL P Q) ∧ Sz (n + (2 * m + 1) * (P.length + 1) + 1) (remL P Q) := by
  by_cases hg : P.length < Q.length
  · unfold quoL remL
    rw [if_pos hg, if_pos hg]
    exact ⟨Sz.nil _, hp.mono (by omega)⟩
  · have hs0 : Sz (n + (m * (P.length - Q.length + 1) + 1)) (P.map (· * facL P Q)) := fun x hx => by
      obtain ⟨y, hy, rfl⟩ := List.mem_map.mp hx
      rw [Int.natAbs_mul, Nat.pow_add]
      exact Nat.mul_lt_mul'' (hp y hy) (facL_lt hq)
    have h := dloop_sz (lc_ne hT h0) (len_pos h0) hq (P.length - Q.length + 1) _ _ (Nat.le_refl _) (.inr (by omega)) (dstart hT h0 hg) (Sz.rep0 _ _) hs0
    have hle : n + (m * (P.length - Q.length + 1) + 1) + (P.length - Q.length + 1) * (m + 1) ≤ n + (2 * m + 1) * (P.length + 1) + 1 := by
      have e1 : (P.length - Q.length + 1) * (m + 1) = m * (P.length - Q.length + 1) + (P.length - Q.length + 1) := by rw [Nat.mul_add, Nat.mul_comm]; omega
      have e2 : (2 * m + 1) * (P.length + 1) = 2 * (m * (P.length + 1)) + (P.length + 1) := by rw [Nat.add_mul, Nat.mul_assoc]; omega
      have e3 : m * (P.length - Q.length + 1) ≤ m * (P.length + 1) := Nat.mul_le_mul_left m (by omega)
      omega
    unfold quoL remL
    rw [if_neg hg, if_neg hg]
    exact ⟨(h.1.mono hle).trim, (h.2.mono hle).trim⟩
theorem cv_one (f : Int) (P : List Int) (k : Nat) : cv [f] P k = f * cf P k := by
  unfold cv
  rw [sm_single (j := 0) (by omega) fun i _ hn => by rw [cf_beyond (P := [f]) (by simp; omega), Int.zero_mul]]
  rfl
theorem mul_one_trim {f : Int} {P : List Int} (hf : f ≠ 0) (hT : Trim P) : Trim (mulU [f] P) := by
  rcases hT with h | h
  · left; unfold mulU; rw [if_pos (.inr h)]
  · right
    have hP : P ≠ [] := fun e => by rw [e] at h; exact h (cf_nil _)
    have hl : (mulU [f] P).length = P.length := by
      unfold mulU
      rw [if_neg (fun z => z.elim (fun h => by cases h) hP), List.length_map, List.length_range]
      show 1 + P.length - 1 = _
      omega
    rw [hl, cf_mulU, cv_one]
    exact Int.mul_ne_zero hf h
theorem facL_pos {P Q : List Int} (hT : Trim Q) (h0 : Q ≠ []) : 0 < facL P Q := by
  unfold facL
  split
  · decide
  · have := lc_ne hT h0
    exact Int.pow_pos (by omega)
/-- the sentence of a division, as lists -/
theorem div_lists {P Q : List Int} (hP : Trim P) (hT : Trim Q) (h0 : Q ≠ []) : mulU [facL P Q] P = addL (mulU (quoL P Q) Q) (remL P Q) := by
  refine trim_ext (mul_one_trim (by have := facL_pos (P := P) hT h0; omega) hP) (trim_addL _ _) fun k => ?_
  rw [cf_mulU, cv_one, cf_addL, cf_mulU]
  exact div_eq hT h0 k
end MD

set_option linter.all false
/-! The ring of polynomials, by coefficients. -/
namespace MR
open ML MD
theorem cv_comm (P Q : List Int) (k : Nat) : cv P Q k = cv Q P k := by
  unfold cv
  rw [← sm_rev (k + 1) (fun i => cf Q i * cf P (k - i))]
  refine sm_congr fun i hi => ?_
  rw [show k + 1 - 1 - i = k - i by omega, show k - (k - i) = i by omega, Int.mul_comm]
theorem sm_tri (g : Nat → Nat → Int) : ∀ k : Nat, sm (k + 1) (fun i => sm (i + 1) (fun j => g j (i - j))) = sm (k + 1) (fun j => sm (k - j + 1) (fun l => g j l))
  | 0 => rfl
  | k + 1 => by
    rw [sm_succ, sm_tri g k, sm_succ (k + 1) (fun j => g j (k + 1 - j)), sm_succ (k + 1) (fun j => sm (k + 1 - j + 1) (fun l => g j l))]
    have e : sm (k + 1) (fun j => sm (k + 1 - j + 1) (fun l => g j l)) = sm (k + 1) (fun j => sm (k - j + 1) (fun l => g j l) + g j (k + 1 - j)) := sm_congr fun j hj => by
      have : k + 1 - j = k - j + 1 := by omega
      rw [this, sm_succ]
    rw [e, sm_add]
    have e2 : sm (k + 1 - (k + 1) + 1) (fun l => g (k + 1) l) = g (k + 1) (k + 1 - (k + 1)) := by
      rw [Nat.sub_self]; simp [sm]
    rw [e2]; omega
theorem cv_assoc' (P Q R : List Int) (k : Nat) : sm (k + 1) (fun i => cv P Q i * cf R (k - i)) = sm (k + 1) (fun j => cf P j * cv Q R (k - j)) := by
  have h := sm_tri (fun j l => cf P j * cf Q l * cf R (k - j - l)) k
  have e1 : sm (k + 1) (fun i => cv P Q i * cf R (k - i)) = sm (k + 1) (fun i => sm (i + 1) (fun j => cf P j * cf Q (i - j) * cf R (k - j - (i - j)))) := sm_congr fun i hi => by
    unfold cv
    rw [← sm_mul_r]
    exact sm_congr fun j hj => by rw [show k - j - (i - j) = k - i by omega]
  have e2 : sm (k + 1) (fun j => cf P j * cv Q R (k - j)) = sm (k + 1) (fun j => sm (k - j + 1) (fun l => cf P j * cf Q l * cf R (k - j - l))) := sm_congr fun j hj => by
    unfold cv
    rw [← sm_mul]
    exact sm_congr fun l _ => by rw [Int.mul_assoc]
  rw [e1, e2]; exact h
theorem cv_congr {P P' Q Q' : List Int} (h : ∀ i, cf P i = cf P' i) (h' : ∀ i, cf Q i = cf Q' i) (k : Nat) : cv P Q k = cv P' Q' k := sm_congr fun i _ => by rw [h, h']
theorem cv_assoc (P Q R : List Int) (k : Nat) : cv (mulL P Q) R k = cv P (mulL Q R) k := by
  have h := cv_assoc' P Q R k
  unfold cv at h ⊢
  rw [show sm (k + 1) (fun i => cf (mulL P Q) i * cf R (k - i)) = sm (k + 1) (fun i => sm (i + 1) (fun j => cf P j * cf Q (i - j)) * cf R (k - i)) from sm_congr fun i _ => by rw [cf_mulL]; rfl, h]
  exact sm_congr fun i _ => by rw [cf_mulL]; rfl
theorem cv_add_left (P P' Q : List Int) (k : Nat) : cv (addL P P') Q k = cv P Q k + cv P' Q k := by
  unfold cv
  rw [← sm_add]
  exact sm_congr fun i _ => by rw [cf_addL, Int.add_mul]
theorem cv_sub_left (P P' Q : List Int) (k : Nat) : cv (subL P P') Q k = cv P Q k - cv P' Q k := by
  unfold cv
  rw [← sm_sub]
  exact sm_congr fun i _ => by rw [cf_subL, Int.sub_mul]
theorem cv_add_right (P Q Q' : List Int) (k : Nat) : cv P (addL Q Q') k = cv P Q k + cv P Q' k := by
  rw [cv_comm, cv_add_left, cv_comm Q, cv_comm Q']
theorem cv_sub_right (P Q Q' : List Int) (k : Nat) : cv P (subL Q Q') k = cv P Q k - cv P Q' k := by
  rw [cv_comm, cv_sub_left, cv_comm Q, cv_comm Q']
/-- times a number -/
def sclL (c : Int) (P : List Int) : List Int := P.map (c * ·)
theorem cf_sclL (c : Int) (P : List Int) (k : Nat) : cf (sclL c P) k = c * cf P k := cf_map (f := (c * ·)) (by omega) P k
theorem sclL_len (c : Int) (P : List Int) : (sclL c P).length = P.length := by unfold sclL; simp
theorem trim_sclL {c : Int} {P : List Int} (hc : c ≠ 0) (h : Trim P) : Trim (sclL c P) := by
  rcases h with h | h
  · left; rw [h]; rfl
  · right; rw [sclL_len, cf_sclL]; exact Int.mul_ne_zero hc h
theorem cv_scl_left (c : Int) (P Q : List Int) (k : Nat) : cv (sclL c P) Q k = c * cv P Q k := by
  unfold cv
  rw [← sm_mul]
  exact sm_congr fun i _ => by rw [cf_sclL, Int.mul_assoc]
theorem cv_scl_right (c : Int) (P Q : List Int) (k : Nat) : cv P (sclL c Q) k = c * cv P Q k := by
  rw [cv_comm, cv_scl_left, cv_comm]
theorem mulL_comm (P Q : List Int) : mulL P Q = mulL Q P := trim_ext (trim_mulL _ _) (trim_mulL _ _) fun k => by rw [cf_mulL, cf_mulL, cv_comm]
theorem mulL_assoc (P Q R : List Int) : mulL (mulL P Q) R = mulL P (mulL Q R) := trim_ext (trim_mulL _ _) (trim_mulL _ _) fun k => by rw [cf_mulL, cf_mulL, cv_assoc]
theorem mulU_one {c : Int} (P : List Int) : mulU [c] P = sclL c P := by
  by_cases h : P = []
  · subst h; rfl
  · refine ext ?_ fun k _ => ?_
    · unfold mulU
      rw [if_neg (fun z => z.elim (fun h => by cases h) h), List.length_map, List.length_range, sclL_len]
      show 1 + P.length - 1 = _
      omega
    · rw [cf_mulU, cv_one, cf_sclL]
/-- the top of a product -/
theorem cv_top {D Q : List Int} {d e : Nat} (hd : ∀ i, d < i → cf D i = 0) (he : ∀ i, e < i → cf Q i = 0) : cv D Q (d + e) = cf D d * cf Q e := by
  unfold cv
  rw [sm_single (j := d) (by omega) fun i _ hn => ?_]
  · rw [Nat.add_sub_cancel_left]
  · by_cases h : d < i
    · rw [hd i h, Int.zero_mul]
    · rw [he (d + e - i) (by omega), Int.mul_zero]
theorem exists_top {D : List Int} (h : ∃ i, cf D i ≠ 0) : ∃ d, cf D d ≠ 0 ∧ ∀ i, d < i → cf D i = 0 := by
  have ht := trim_trimL D
  rcases ht with e | e
  · obtain ⟨i, hi⟩ := h
    rw [← cf_trimL, e, cf_nil] at hi
    exact absurd rfl hi
  · refine ⟨(trimL D).length - 1, by rw [cf_trimL] at e; exact e, fun i hi => ?_⟩
    rw [← cf_trimL]
    exact cf_beyond (by omega)
theorem top_of {Q : List Int} (hT : Trim Q) (h0 : Q ≠ []) : cf Q (Q.length - 1) ≠ 0 ∧ ∀ i, Q.length - 1 < i → cf Q i = 0 :=
  ⟨lc_ne hT h0, fun i hi => cf_beyond (by omega)⟩
/-- what is times Q and of a lower degree than Q is nought -/
theorem low_zero {D Q : List Int} (hT : Trim Q) (h0 : Q ≠ []) (h : ∀ k, Q.length - 1 ≤ k → cv D Q k = 0) : ∀ i, cf D i = 0 := by
  intro i
  apply Classical.byContradiction
  intro hi
  obtain ⟨d, hd, hd2⟩ := exists_top ⟨i, hi⟩
  obtain ⟨q1, q2⟩ := top_of hT h0
  have := cv_top hd2 q2
  rw [h _ (by omega)] at this
  exact Int.mul_ne_zero hd q1 this.symm
/-- the rest of a division is told by any such sentence -/
theorem rest_unique {P Q A R : List Int} {f : Int} (hT : Trim Q) (h0 : Q ≠ []) (hR : R.length < Q.length) (h : ∀ k, f * cf P k = cv A Q k + cf R k) (k : Nat) : facL P Q * cf R k = f * cf (remL P Q) k ∧ facL P Q * cf A k = f * cf (quoL P Q) k := by
  have hz : ∀ i, cf (subL (sclL (facL P Q) A) (sclL f (quoL P Q))) i = 0 := low_zero hT h0 fun k hk => by
    rw [cv_sub_left, cv_scl_left, cv_scl_left]
    have h1 := h k
    have h2 := div_eq (P := P) hT h0 k
    have hr := rem_len (P := P) hT h0
    rw [cf_beyond (P := R) (by omega)] at h1
    rw [cf_beyond (P := remL P Q) (by omega)] at h2
    rw [show cv A Q k = f * cf P k by omega, show cv (quoL P Q) Q k = facL P Q * cf P k by omega, ← Int.mul_assoc, ← Int.mul_assoc, Int.mul_comm (facL P Q) f]
    omega
  have ha : ∀ i, facL P Q * cf A i = f * cf (quoL P Q) i := fun i => by
    have := hz i
    rw [cf_subL, cf_sclL, cf_sclL] at this
    omega
  refine ⟨?_, ha k⟩
  have h1 := h k
  have h2 := div_eq (P := P) hT h0 k
  have h3 : facL P Q * cv A Q k = f * cv (quoL P Q) Q k := by
    rw [← cv_scl_left, ← cv_scl_left]
    exact cv_congr (fun i => by rw [cf_sclL, cf_sclL, ha]) (fun _ => rfl) k
  have h4 : cf R k = f * cf P k - cv A Q k := by omega
  have h5 : cf (remL P Q) k = facL P Q * cf P k - cv (quoL P Q) Q k := by omega
  rw [h4, h5, Int.mul_sub, Int.mul_sub, h3, ← Int.mul_assoc, ← Int.mul_assoc, Int.mul_comm (facL P Q) f]
theorem trim_mulU {P Q : List Int} (hP : Trim P) (hQ : Trim Q) : Trim (mulU P Q) := by
  by_cases h : P = [] ∨ Q = []
  · left; unfold mulU; rw [if_pos h]
  · right
    have h1 : P ≠ [] := fun e => h (.inl e)
    have h2 : Q ≠ [] := fun e => h (.inr e)
    have e : (mulU P Q).length = P.length + Q.length - 1 := by unfold mulU; rw [if_neg h]; simp
    have l1 := len_pos h1
    have l2 := len_pos h2
    obtain ⟨a1, a2⟩ := top_of hP h1
    obtain ⟨b1, b2⟩ := top_of hQ h2
    rw [e, cf_mulU, show P.length + Q.length - 1 - 1 = (P.length - 1) + (Q.length - 1) by omega, cv_top a2 b2]
    exact Int.mul_ne_zero a1 b1
theorem cf_zero_nil {P : List Int} (hT : Trim P) : P = [] ↔ ∀ k, cf P k = 0 :=
  ⟨fun h k => by rw [h, cf_nil], fun h => hT.elim id fun e => absurd (h _) e⟩
/-- Q divides P just where the rest is [] -/
theorem rem_nil {P Q A R : List Int} {f : Int} (hf : f ≠ 0) (hP : Trim P) (hT : Trim Q) (h0 : Q ≠ []) (hR : R.length < Q.length) (tR : Trim R) (h : ∀ k, f * cf P k = cv A Q k + cf R k) : remL P Q = [] ↔ R = [] := by
  have hp := facL_pos (P := P) hT h0
  rw [cf_zero_nil (trim_rem hP), cf_zero_nil tR]
  constructor
  · intro hz k
    have := (rest_unique hT h0 hR h k).1
    rw [hz k, Int.mul_zero] at this
    rcases Int.mul_eq_zero.mp this with e | e
    · omega
    · exact e
  · intro hz k
    have := (rest_unique hT h0 hR h k).1
    rw [hz k, Int.mul_zero] at this
    rcases Int.mul_eq_zero.mp this.symm with e | e
    · exact absurd e hf
    · exact e
end MR

set_option linter.all false
/-! Products of linear factors, at fractions. -/
namespace MH
open ML MR
/-- times b * x - a, the coefficient ahead given -/
def linM (a b : Int) : List Int → Int → List Int
  | [], p => [b * p]
  | x :: r, p => (b * p - a * x) :: linM a b r x
theorem linM_len (a b : Int) : ∀ (P : List Int) (p : Int), (linM a b P p).length = P.length + 1
  | [], _ => rfl
  | x :: r, p => by
    show (linM a b r x).length + 1 = _
    rw [linM_len a b r x]; rfl
theorem cf_linM (a b : Int) : ∀ (P : List Int) (p : Int) (k : Nat), cf (linM a b P p) k = b * (if k = 0 then p else cf P (k - 1)) - a * cf P k
  | [], p, 0 => by
    show b * p = _
    rw [if_pos rfl, cf_nil, Int.mul_zero, Int.sub_zero]
  | [], p, k + 1 => by
    rw [if_neg (by omega), cf_nil, cf_nil, Int.mul_zero, Int.mul_zero, Int.sub_zero]
    exact cf_beyond (by show 1 ≤ k + 1; omega)
  | x :: r, p, 0 => by
    show b * p - a * x = _
    rw [if_pos rfl, cf_zero]
  | x :: r, p, k + 1 => by
    have h := cf_linM a b r x k
    show cf ((b * p - a * x) :: linM a b r x) (k + 1) = _
    rw [cf_succ, h, cf_succ, if_neg (Nat.succ_ne_zero k), Nat.add_sub_cancel]
    cases k with
    | zero => rw [if_pos rfl, cf_zero]
    | succ k => rw [if_neg (Nat.succ_ne_zero k), cf_succ, Nat.add_sub_cancel]
theorem hs_linM (a b t u : Int) : ∀ (P : List Int) (p : Int), hs t u (linM a b P p) = ((hs t u P).1 * (b * t - a * u) + b * p * (hs t u P).2, (hs t u P).2 * u)
  | [], p => by
    show ((0 : Int) * t + b * p * 1, (1 : Int) * u) = (0 * (b * t - a * u) + b * p * 1, 1 * u)
    rw [Int.zero_mul, Int.zero_mul]
  | x :: r, p => by
    have h := hs_linM a b t u r x
    show ((hs t u (linM a b r x)).1 * t + (b * p - a * x) * (hs t u (linM a b r x)).2, (hs t u (linM a b r x)).2 * u) = (((hs t u r).1 * t + x * (hs t u r).2) * (b * t - a * u) + b * p * ((hs t u r).2 * u), (hs t u r).2 * u * u)
    rw [h]
    refine Prod.ext ?_ rfl
    show ((hs t u r).1 * (b * t - a * u) + b * x * (hs t u r).2) * t + (b * p - a * x) * ((hs t u r).2 * u) = ((hs t u r).1 * t + x * (hs t u r).2) * (b * t - a * u) + b * p * ((hs t u r).2 * u)
    grind
theorem topL_linM (a b t u : Int) (P : List Int) : topL (linM a b P 0) t u = topL P t u * (b * t - a * u) := by
  unfold topL
  rw [hs_linM, Int.mul_zero, Int.zero_mul, Int.add_zero]
theorem cv_lin (a b : Int) (P : List Int) (k : Nat) : cv P [a, b] k = (if k = 0 then 0 else cf P (k - 1) * b) + cf P k * a := by
  have h2 : ∀ j, 2 ≤ j → cf [a, b] j = 0 := fun j hj => cf_beyond (by show 2 ≤ j; exact hj)
  unfold cv
  cases k with
  | zero =>
    rw [if_pos rfl]
    show 0 + cf P 0 * cf [a, b] 0 = _
    rfl
  | succ k =>
    rw [if_neg (by omega), sm_succ, sm_succ]
    have z : sm k (fun i => cf P i * cf [a, b] (k + 1 - i)) = 0 := sm_zero fun i hi => by rw [h2 _ (by omega), Int.mul_zero]
    rw [z, show k + 1 - k = 1 by omega, Nat.sub_self, Nat.add_sub_cancel, Int.zero_add]
    rfl
theorem mul_lin {a b : Int} {P : List Int} (hT : Trim P) (h0 : P ≠ []) (hb : b ≠ 0) : mulL P [-a, b] = linM a b P 0 := by
  have hl := MD.len_pos h0
  refine trim_ext (trim_mulL _ _) (.inr ?_) fun k => ?_
  · rw [linM_len, Nat.add_sub_cancel, cf_linM, if_neg (by omega), cf_beyond (P := P) (Nat.le_refl _), Int.mul_zero, Int.sub_zero]
    exact Int.mul_ne_zero hb (MD.lc_ne hT h0)
  · rw [cf_mulL, cv_lin, cf_linM]
    cases k with
    | zero => rw [if_pos rfl, if_pos rfl, Int.mul_zero, Int.zero_add, Int.zero_sub, Int.mul_neg, Int.mul_comm]
    | succ k => rw [if_neg (by omega), if_neg (by omega), Int.mul_neg, Int.mul_comm b, Int.mul_comm a]; rfl
/-- the product of the factors b * t - a * u -/
def prodF (ab : List (Int × Int)) (t u : Int) : Int := ab.foldl (fun s q => s * (q.2 * t - q.1 * u)) 1
theorem prodF_take {ab : List (Int × Int)} {t u : Int} {i : Nat} {q : Int × Int} (h : ab[i]? = some q) : prodF (ab.take (i + 1)) t u = prodF (ab.take i) t u * (q.2 * t - q.1 * u) := by
  unfold prodF
  rw [List.take_add_one, h]
  simp [List.foldl_append]
theorem prodF_zero {ab : List (Int × Int)} {t u : Int} {q : Int × Int} (h : q ∈ ab) (hz : q.2 * t - q.1 * u = 0) : prodF ab t u = 0 := by
  have gen : ∀ (ab : List (Int × Int)) (s : Int), (s = 0 ∨ q ∈ ab) → ab.foldl (fun s q => s * (q.2 * t - q.1 * u)) s = 0 := by
    intro ab
    induction ab with
    | nil => intro s hs; exact hs.elim id (fun h => by cases h)
    | cons x r ih =>
      intro s hs
      rw [List.foldl_cons]
      apply ih
      rcases hs with hs | hs
      · left; rw [hs, Int.zero_mul]
      · rcases List.mem_cons.mp hs with e | e
        · left; rw [← e, hz, Int.mul_zero]
        · exact .inr e
  exact gen ab 1 (.inr h)
end MH

set_option linter.all false
set_option maxRecDepth 100000
/-! Lists of lists of ints. -/
namespace RB
open PySem PySem.Spec PyProof.Rows L2
open Evl (Ex rLenS rListS rMax2 tCut pss_cut)
def Rws (H : Hp) : List Addr → List (List Int) → Prop
  | [], [] => True
  | p :: ps, R :: Rs => H p = some (.lst (R.map V.int)) ∧ Rws H ps Rs
  | _, _ => False
theorem Rws.len {H : Hp} : ∀ {ps : List Addr} {Rs : List (List Int)}, Rws H ps Rs → ps.length = Rs.length
  | [], [], _ => rfl
  | p :: ps, R :: Rs, h => by rw [List.length_cons, List.length_cons, Rws.len h.2]
theorem Rws.ex {H H' : Hp} (e : Ex H H') : ∀ {ps : List Addr} {Rs : List (List Int)}, Rws H ps Rs → Rws H' ps Rs
  | [], [], _ => trivial
  | p :: ps, R :: Rs, h => ⟨e _ _ h.1, Rws.ex e h.2⟩
theorem Rws.exb {l : Addr} {H H' : Hp} (e : Exb l H H') : ∀ {ps : List Addr} {Rs : List (List Int)}, l ∉ ps → Rws H ps Rs → Rws H' ps Rs
  | [], [], _, _ => trivial
  | p :: ps, R :: Rs, hn, h => ⟨e _ (fun x => hn (by rw [x]; exact List.mem_cons_self ..)) _ h.1, Rws.exb e (fun x => hn (List.mem_cons_of_mem _ x)) h.2⟩
theorem Rws.append {H : Hp} : ∀ {ps qs : List Addr} {Rs Ss : List (List Int)}, Rws H ps Rs → Rws H qs Ss → Rws H (ps ++ qs) (Rs ++ Ss)
  | [], _, [], _, _, h => h
  | p :: ps, _, R :: Rs, _, h, h' => ⟨h.1, Rws.append h.2 h'⟩
theorem Rws.get {H : Hp} : ∀ {ps : List Addr} {Rs : List (List Int)} {i : Nat} {p : Addr}, Rws H ps Rs → ps[i]? = some p → ∃ R, Rs[i]? = some R ∧ H p = some (.lst (R.map V.int))
  | p :: ps, R :: Rs, 0, q, h, e => by
    simp only [List.getElem?_cons_zero, Option.some.injEq] at e
    exact ⟨R, rfl, by rw [← e]; exact h.1⟩
  | p :: ps, R :: Rs, i + 1, q, h, e => by
    simp only [List.getElem?_cons_succ] at e
    obtain ⟨S, h1, h2⟩ := Rws.get (i := i) h.2 e
    exact ⟨S, by simpa using h1, h2⟩
theorem dp_rows {K : PySem.W.Frag} {H : Hp} : ∀ {ps : List Addr} {Rs : List (List Int)}, Rws H ps Rs → DpAll K H (ps.map V.ref) (Rs.map dI)
  | [], [], _ => .nil
  | p :: ps, R :: Rs, h => .cons (dp_listI (SqL.inj h.1)) (dp_rows h.2)
theorem canLay_rows : ∀ Rs : List (List Int), PyData.canLayAll0 (Rs.map dI) = true
  | [] => by simp [PyData.canLayAll0]
  | n :: r => by
    rw [List.map_cons, PyData.canLayAll0, canLay_rows r]
    show (PyData.canLay0 (dI n) && true) = true
    unfold dI
    rw [PyData.canLay0, canLay_ints]; rfl
theorem depth_dI (n : List Int) : PyData.depth (dI n) ≤ 2 := by
  have := depth_ints n
  unfold dI
  rw [PyData.depth]
  omega
theorem depth_rows : ∀ Rs : List (List Int), PyData.depthAll (Rs.map dI) ≤ 2
  | [] => by simp [PyData.depthAll]
  | n :: r => by
    have h1 := depth_rows r
    have h2 := depth_dI n
    rw [List.map_cons, PyData.depthAll]
    omega
def dR (Rs : List (List Int)) : PyData := .list (Rs.map dI)
theorem shaped_dR (Rs : List (List Int)) : SeqAt.shaped (dR Rs) = true := by
  have h1 := canLay_rows Rs
  have h2 := depth_rows Rs
  unfold SeqAt.shaped dR
  rw [Bool.and_eq_true, PyData.canLay0, PyData.depth]
  exact ⟨h1, decide_eq_true (by omega)⟩
theorem eqvAll_rows : ∀ Rs Ss : List (List Int), PyData.eqvAll (Rs.map dI) (Ss.map dI) = decide (Rs = Ss)
  | [], [] => by simp [PyData.eqvAll]
  | [], m :: r => by simp [PyData.eqvAll]
  | n :: r, [] => by simp [PyData.eqvAll]
  | n :: r, m :: s => by
    rw [List.map_cons, List.map_cons, PyData.eqvAll, eqvAll_rows r s, eqv_dI]
    simp
theorem eqv_dR (Rs Ss : List (List Int)) : PyData.eqv (dR Rs) (dR Ss) = decide (Rs = Ss) := by
  unfold dR
  rw [PyData.eqv, eqvAll_rows]
def RowsK (K : PySem.W.Frag) (H : Hp) (a : Addr) (Rs : List (List Int)) : Prop := ∃ ps, SqL K H a (ps.map V.ref) ∧ Rws H ps Rs
theorem dp_listR {K : PySem.W.Frag} {H : Hp} {a : Addr} {ps : List Addr} {Rs : List (List Int)} (h : SqL K H a (ps.map V.ref)) (h' : Rws H ps Rs) : Dp K H (.ref a) (dR Rs) := .lst h (dp_rows h')
theorem r_eqRows {K : PySem.W.Frag} {H : Hp} {Q : VK} {a b : Addr} {ps qs : List Addr} {Rs Ss : List (List Int)} (h1 : SqL K H a (ps.map V.ref)) (h1' : Rws H ps Rs) (h2 : SqL K H b (qs.map V.ref)) (h2' : Rws H qs Ss) (q : Q (.bl (decide (Rs = Ss))) H) : rEqD K (.ref a) (.ref b) H Q :=
  ⟨_, _, dp_listR h1 h1', dp_listR h2 h2', shaped_dR Rs, shaped_dR Ss, by rw [eqv_dR]; exact q⟩
/-- what a row tells: new lists -/
def RetRow (Rs : List (List Int)) (H : Hp) (Q : VK) : Prop := ∀ (a : Addr) (ps : List Addr) (H' : Hp), H a = none → (∀ p ∈ ps, H p = none) → a ∉ ps → Ex H H' → H' a = some (.lst (ps.map V.ref)) → Rws H' ps Rs → Q (.ref a) H'
/-- the last two items -/
theorem r_ix2 {K : PySem.W.Frag} {H : Hp} {Q : VK} {p : Addr} {xs : List V} {x y : V} (h : SqL K H p (xs ++ [x, y])) (q : Q x H) : rIxL K (.ref p) (.int (-2)) H Q :=
  r_ixL h (by
    unfold atI
    have e : ixN (xs ++ [x, y]).length (-2) = some xs.length := by
      unfold ixN
      rw [if_neg (by decide), if_pos (by simp; omega)]
      simp
      omega
    rw [e]; simp) q
theorem r_ix1 {K : PySem.W.Frag} {H : Hp} {Q : VK} {p : Addr} {xs : List V} {x y : V} (h : SqL K H p (xs ++ [x, y])) (q : Q y H) : rIxL K (.ref p) (.int (-1)) H Q :=
  r_ixL h (by
    have : xs ++ [x, y] = (xs ++ [x]) ++ [y] := by simp
    rw [this]; exact atI_last _ _) q
end RB
namespace RB
open PySem PySem.Spec PyProof.Rows L2
open Evl (Ex)
theorem Rws.take {H : Hp} : ∀ (n : Nat) {ps : List Addr} {Rs : List (List Int)}, Rws H ps Rs → Rws H (ps.take n) (Rs.take n)
  | 0, _, _, _ => by rw [List.take_zero, List.take_zero]; trivial
  | n + 1, [], [], _ => trivial
  | n + 1, p :: ps, R :: Rs, h => ⟨h.1, Rws.take n h.2⟩
theorem Rws.flat {H : Hp} {ps : List Addr} {Rs : List (List Int)} (h : Rws H ps Rs) : ∀ n : Nat, Rws H (List.replicate n ps).flatten (List.replicate n Rs).flatten
  | 0 => trivial
  | n + 1 => by
    rw [List.replicate_succ, List.replicate_succ, List.flatten_cons, List.flatten_cons]
    exact Rws.append h (Rws.flat h n)
theorem flat_map {α β : Type} (f : α → β) (xs : List α) : ∀ n : Nat, (List.replicate n (xs.map f)).flatten = ((List.replicate n xs).flatten).map f
  | 0 => rfl
  | n + 1 => by rw [List.replicate_succ, List.replicate_succ, List.flatten_cons, List.flatten_cons, flat_map f xs n, List.map_append]
theorem flat_len {α : Type} (xs : List α) : ∀ n : Nat, ((List.replicate n xs).flatten).length = n * xs.length
  | 0 => by simp
  | n + 1 => by rw [List.replicate_succ, List.flatten_cons, List.length_append, flat_len xs n, Nat.add_mul]; omega
theorem flat_mem {α : Type} {xs : List α} {x : α} : ∀ {n : Nat}, x ∈ (List.replicate n xs).flatten → x ∈ xs
  | 0, h => by cases h
  | n + 1, h => by
    rw [List.replicate_succ, List.flatten_cons, List.mem_append] at h
    exact h.elim id flat_mem
/-- a list of lists times a number -/
theorem r_repR {H : Hp} {Q : VK} {l : Addr} {ps : List Addr} {k : Int} (h1 : H l = some (.lst (ps.map V.ref))) (hk : k < 2 ^ 63) (z : ps.length * k.toNat ≤ 16777216) (q : ∀ p H', H p = none → Ex H H' → H' p = some (.lst (((List.replicate k.toNat ps).flatten).map V.ref)) → Q (.ref p) H') (h0 : -(2 ^ 63) ≤ k := by omega) : rRep (.ref l) (.int k) H Q :=
  ⟨l, k, ps.map V.ref, rfl, rfl, h1, h0, hk, by rw [List.length_map]; exact small_le z, newL fun p H' hp e h => q p H' hp e (by rw [← flat_map]; exact h)⟩
theorem cutV_to {xs : List V} {n : Int} (h0 : 0 ≤ n) : cutV xs none (some n) = xs.take n.toNat := by
  obtain ⟨k, rfl⟩ : ∃ k : Nat, n = (k : Int) := ⟨n.toNat, by omega⟩
  unfold cutV
  rw [HT.sIx_none, HT.sIx_nat, List.drop_zero, Int.toNat_natCast, Nat.sub_zero]
  by_cases h : k ≤ xs.length
  · rw [Nat.min_eq_left h]
  · rw [Nat.min_eq_right (by omega), List.take_length, List.take_of_length_le (by omega)]
/-- over a list of lists, each giving a new list -/
theorem lc_rows {K : PySem.W.Frag} {σ : L2.St} {H : Hp} {te : TE} {Q : VK} {a : Addr} {ps : List Addr} {Rs : List (List Int)} {j : Nat} (f : List Int → List Int) (hx : SqL K H a (ps.map V.ref)) (hW : Rws H ps Rs) (hz : ps.length < 1000000)
    (he : ∀ p R H1, R ∈ Rs → H1 p = some (.lst (R.map V.int)) → Ex H H1 → ∀ Q' : VK, (∀ q H2, H1 q = none → Ex H1 H2 → H2 q = some (.lst ((f R).map V.int)) → Q' (.ref q) H2) → te (σ.set j (some (.ref p))) H1 Q')
    (q : ∀ D H' qs, H D = none → Ex H H' → H' D = some (.lst (qs.map V.ref)) → Rws H' qs (Rs.map f) → Q (.ref D) H') : Lc (Itl K a) (gName j) tYes te [j] σ H Q := fun D hD =>
  lc_list (xs := ps.map V.ref) (fun i H' => Ex H H' ∧ ∃ qs : List Addr, H' D = some (.lst (qs.map V.ref)) ∧ Rws H' qs ((Rs.take i).map f) ∧ D ∉ qs ∧ qs.length ≤ i) ⟨Evl.Ex.new hD, [], upd_same, trivial, (fun h => by cases h), Nat.le_refl _⟩ (fun i H' _ p => p.1.l hx)
    (fun i x H' hi p => ⟨by show ((σ.set j none).set j (some x)).set j none = σ.set j none; rw [set_set, set_set], by
      show te ((σ.set j none).set j (some x)) H' _
      rw [set_set]
      rw [List.getElem?_map] at hi
      obtain ⟨p', hp', rfl⟩ := Option.map_eq_some_iff.mp hi
      obtain ⟨e, qs, hq, hR, hn, hl⟩ := p
      obtain ⟨R, hRm, hpR⟩ := hW.get hp'
      have hlt : i < ps.length := (List.getElem?_eq_some_iff.mp hp').1
      refine he p' R H' (List.mem_of_getElem? hRm) (e _ _ hpR) e _ fun r H2 hr e2 hr2 => ⟨_, e2 D _ hq, ?_, Evl.Ex.mut (e.trans e2) hD, qs ++ [r], ?_, ?_, ?_, ?_⟩
      · rw [List.length_map]; exact small_lt (by omega)
      · rw [upd_same, List.map_append]; rfl
      · rw [List.take_add_one, hRm, List.map_append]
        have nD : r ≠ D := fun z => by rw [z, hq] at hr; cases hr
        refine Rws.append ?_ ⟨by rw [upd_ne nD]; exact hr2, trivial⟩
        exact (hR.ex e2).exb (l := D) (fun c n o h => by rw [upd_ne n]; exact h) hn
      · intro h
        rcases List.mem_append.mp h with h | h
        · exact hn h
        · rw [List.mem_singleton] at h
          rw [← h, hq] at hr
          cases hr
      · rw [List.length_append]; simp; omega⟩)
    (fun H' p => by
      obtain ⟨e, qs, hq, hR, hn, hl⟩ := p
      rw [List.length_map, hW.len, List.take_length] at hR
      exact q D H' qs hD e hq hR)
end RB
namespace RB
open PySem PySem.Spec PyProof.Rows L2
theorem Rws.notin {H : Hp} {p : Addr} (hp : H p = none) : ∀ {ps : List Addr} {Rs : List (List Int)}, Rws H ps Rs → p ∉ ps
  | [], [], _ => fun h => by cases h
  | r :: ps, R :: Rs, h => fun hm => by
    rcases List.mem_cons.mp hm with e | e
    · have := h.1
      rw [← e, hp] at this
      cases this
    · exact Rws.notin hp h.2 e
end RB

set_option linter.all false
set_option maxRecDepth 100000
/-! Lists of pairs of ints. -/
namespace RB
open PySem PySem.Spec PyProof.Rows L2
open Evl (Ex)
def Prs (H : Hp) : List Addr → List (Int × Int) → Prop
  | [], [] => True
  | p :: ps, q :: qs => H p = some (.tup [.int q.1, .int q.2]) ∧ Prs H ps qs
  | _, _ => False
theorem Prs.len {H : Hp} : ∀ {ps : List Addr} {qs : List (Int × Int)}, Prs H ps qs → ps.length = qs.length
  | [], [], _ => rfl
  | p :: ps, q :: qs, h => by rw [List.length_cons, List.length_cons, Prs.len h.2]
theorem Prs.ex {H H' : Hp} (e : Ex H H') : ∀ {ps : List Addr} {qs : List (Int × Int)}, Prs H ps qs → Prs H' ps qs
  | [], [], _ => trivial
  | p :: ps, q :: qs, h => ⟨e _ _ h.1, Prs.ex e h.2⟩
theorem Prs.exb {l : Addr} {H H' : Hp} (e : Exb l H H') : ∀ {ps : List Addr} {qs : List (Int × Int)}, l ∉ ps → Prs H ps qs → Prs H' ps qs
  | [], [], _, _ => trivial
  | p :: ps, q :: qs, hn, h => ⟨e _ (fun x => hn (by rw [x]; exact List.mem_cons_self ..)) _ h.1, Prs.exb e (fun x => hn (List.mem_cons_of_mem _ x)) h.2⟩
theorem Prs.append {H : Hp} : ∀ {ps qs : List Addr} {Rs Ss : List (Int × Int)}, Prs H ps Rs → Prs H qs Ss → Prs H (ps ++ qs) (Rs ++ Ss)
  | [], _, [], _, _, h => h
  | p :: ps, _, R :: Rs, _, h, h' => ⟨h.1, Prs.append h.2 h'⟩
theorem Prs.get {H : Hp} : ∀ {ps : List Addr} {qs : List (Int × Int)} {i : Nat} {p : Addr}, Prs H ps qs → ps[i]? = some p → ∃ q, qs[i]? = some q ∧ H p = some (.tup [.int q.1, .int q.2])
  | p :: ps, q :: qs, 0, r, h, e => by
    simp only [List.getElem?_cons_zero, Option.some.injEq] at e
    exact ⟨q, rfl, by rw [← e]; exact h.1⟩
  | p :: ps, q :: qs, i + 1, r, h, e => by
    simp only [List.getElem?_cons_succ] at e
    obtain ⟨s, h1, h2⟩ := Prs.get (i := i) h.2 e
    exact ⟨s, by simpa using h1, h2⟩
theorem Prs.take {H : Hp} : ∀ (n : Nat) {ps : List Addr} {qs : List (Int × Int)}, Prs H ps qs → Prs H (ps.take n) (qs.take n)
  | 0, _, _, _ => by rw [List.take_zero, List.take_zero]; trivial
  | n + 1, [], [], _ => trivial
  | n + 1, p :: ps, q :: qs, h => ⟨h.1, Prs.take n h.2⟩
theorem Prs.flat {H : Hp} {ps : List Addr} {qs : List (Int × Int)} (h : Prs H ps qs) : ∀ n : Nat, Prs H (List.replicate n ps).flatten (List.replicate n qs).flatten
  | 0 => trivial
  | n + 1 => by
    rw [List.replicate_succ, List.replicate_succ, List.flatten_cons, List.flatten_cons]
    exact Prs.append h (Prs.flat h n)
theorem r_gtup {K : PySem.W.Frag} {n : Nat} {t : TGs} {a : Addr} {xs : List V} {σ : L2.St} {H : Hp} {Q : L2.St → Hp → Prop} (h : H a = some (.tup xs)) (hn : xs.length = n) (q : t xs σ H Q) : gTup K n t (.ref a) σ H Q := ⟨a, xs, rfl, .inl (.inl h), hn, q⟩
theorem r_gcons' {t : TG} {u : TGs} {v : V} {r : List V} {σ : L2.St} {H : Hp} {Q : L2.St → Hp → Prop} (h : t v σ H fun σ' H' => u r σ' H' Q) : gCons t u (v :: r) σ H Q := ⟨v, r, rfl, h⟩
theorem r_gnil' {σ : L2.St} {H : Hp} {Q : L2.St → Hp → Prop} (h : Q σ H) : gNil [] σ H Q := ⟨rfl, h⟩
end RB

set_option linter.all false
set_option maxRecDepth 100000
set_option maxHeartbeats 4000000
set_option exponentiation.threshold 100000
namespace RP
open PySem PySem.Spec PyProof.Rows L2 RB
open Evl (Ex rLenS rListS rMax2 tCut pss_cut)
local macro_rules | `(tactic| walk_at "ir") => `(tactic| first
  | assumption
  | exact IsR.ex (by assumption) (by walk_at "ir"))
local macro_rules | `(tactic| walk_at "hp") => `(tactic| first
  | assumption
  | exact hx_e (by assumption) (by walk_at "hp")
  | exact hx_b (by assumption) (by walk_at "ne") (by walk_at "hp"))
local macro_rules | `(tactic| walk_at "ne") => `(tactic| first
  | assumption
  | exact Ne.symm (by assumption)
  | exact ne_1 (by assumption) (by walk_at "hp")
  | exact ne_2 (by assumption) (by walk_at "hp"))
local macro_rules | `(tactic| walk_at "sq") => `(tactic| first
  | assumption
  | exact Fx.l (by assumption) (by assumption)
  | exact Evl.Ex.l (by assumption) (by assumption)
  | exact SqL.inj (by walk_at "hp"))
local macro_rules | `(tactic| walk_at "rd") => `(tactic| repeat (first
  | with_reducible refine r_seq ?_
  | with_reducible refine r_asg ?_
  | with_reducible refine r_gn ?_
  | ((with_reducible refine' r_var ?h ?_); (case h => exact rfl))
  | with_reducible refine r_c ?_
  | with_reducible refine r_op ?_
  | with_reducible refine r_un ?_
  | with_reducible refine r_add ?_
  | with_reducible refine r_sub ?_
  | ((with_reducible refine' r_pow ?h ?_); (case h => exact ⟨by decide, by decide, by decide⟩))
  | ((with_reducible refine' r_mod ?h ?_); (case h => first | decide | omega))
  | ((with_reducible refine' r_div ?h ?_); (case h => exact ⟨by decide, by decide⟩))
  | with_reducible refine r_lc ?_
  | ((with_reducible refine' r_cListA ?h ?_); (case h => walk_at "sq"))
  | with_reducible refine r_lt ?_
  | with_reducible refine r_le ?_
  | with_reducible refine r_gt ?_
  | with_reducible refine r_ge ?_
  | with_reducible refine r_eqI ?_
  | with_reducible refine r_neI ?_
  | with_reducible refine r_eqB ?_
  | with_reducible refine r_eqS ?_
  | with_reducible refine r_neg ?_
  | with_reducible refine r_ret ?_
  | with_reducible refine r_ifS ?_
  | with_reducible refine r_test ?_
  | with_reducible refine r_B ?_
  | with_reducible refine r_bl ?_
  | with_reducible refine r_int ?_
  | with_reducible refine r_cb ?_
  | with_reducible refine r_cons ?_
  | with_reducible refine r_nil ?_
  | with_reducible refine r_abs ?_
  | with_reducible refine r_max2 ?_
  | with_reducible refine r_min2 ?_
  | ((with_reducible refine' r_lenI ?h ?_); (case h => walk_at "sq"))
  | ((with_reducible refine' r_len ?h ?_); (case h => walk_at "sq"))
  | with_reducible refine r_tru ?_
  | with_reducible refine r_rev ?_
  | with_reducible refine r_iRng3 ?_
  | ((with_reducible refine' r_ixL ?h ?a ?_); (case h => walk_at "sq"); (case a => assumption))
  | ((with_reducible refine' r_ixT ?h ?a ?_); (case h => walk_at "sq"); (case a => assumption))
  | with_reducible refine r_intI ?_
  | with_reducible refine r_intB ?_
  | with_reducible refine r_call ?_
  | with_reducible refine r_lst ?_
  | with_reducible refine r_tup ?_
  | with_reducible refine r_drop ?_
  | with_reducible refine r_and ?_
  | with_reducible refine r_or ?_
  | with_reducible refine r_not ?_
  | with_reducible refine r_andV ?_
  | with_reducible refine r_orV ?_
  | with_reducible refine r_notV ?_
  | with_reducible refine r_if ?_
  | with_reducible refine r_bm ?_
  | with_reducible refine r_bm0 ?_
  | with_reducible refine r_sub_ ?_
  | with_reducible refine r_sl ?_
  | with_reducible refine r_part ?_
  | with_reducible refine r_nopart ?_
  | with_reducible refine r_par ?_
  | with_reducible refine r_par2 ?_
  | with_reducible refine r_for ?_
  | with_reducible refine r_iList ?_
  | ((with_reducible refine' r_iListA ?h ?_); (case h => walk_at "sq"))
  | with_reducible refine r_iTup ?_
  | ((with_reducible refine' r_iTupA ?h ?_); (case h => walk_at "sq"))
  | with_reducible refine r_iRng1 ?_
  | with_reducible refine r_iRng2 ?_
  | with_reducible refine r_iRev ?_
  | ((with_reducible refine' r_iRevA ?h ?_); (case h => walk_at "sq"))
  | with_reducible refine r_iEnum ?_
  | ((with_reducible refine' r_iEnumA ?h ?_); (case h => walk_at "sq"))
  | with_reducible refine r_iRevR ?_
  | with_reducible refine r_rg1 ?_
  | with_reducible refine r_make ?_
  | with_reducible refine r_fld ?_
  | with_reducible refine r_sfld ?_
  | with_reducible refine r_meth ?_
  | ((with_reducible refine' r_top ?c ?n ?h ?_); (case c => assumption); (case n => assumption); (case h => walk_at "ir"))
  | ((with_reducible refine' r_bottom ?c ?n ?h ?_); (case c => assumption); (case n => assumption); (case h => walk_at "ir"))
  | ((with_reducible refine' r_methR ?h ?h1 ?h2 ?_); (case h => walk_at "ir"); (case h1 => decide +kernel); (case h2 => decide +kernel))
  | with_reducible refine r_next ?_
  | ((with_reducible refine' r_ty ?h ?_); (case h => exact tyL (by walk_at "hp")))
  | with_reducible refine i_t ?_
  | with_reducible refine i_f ?_
  | with_reducible refine i_nt ?_
  | with_reducible refine i_nf ?_
  | walk_at "call"))
structure ExT (K : PySem.W.Frag) (Cof : String → Addr) : Prop where
  cl_Ratio : Cls K (Cof "Ratio")
  is_Ratio : InsC K (Cof "Ratio")
  n_Ratio_bottom : NoAttr K (Cof "Ratio") "bottom"
  n_Ratio_top : NoAttr K (Cof "Ratio") "top"

/-! #### shared -/
--USE MG
def sp_shared (K : PySem.W.Frag) (Cof : String → Addr) : Sp := fun vs H Q _ => ∃ (a : Addr) (ns : List Int), vs = [.ref a] ∧ SqL K H a (ns.map V.int) ∧ Q (.int (MG.gcdL ns)) H
def t_shared (K : PySem.W.Frag) (Cof : String → Addr) (E : XK) : TS :=
  tSeq (tAsg (tC (.int 0)) (gName 1))
  (tSeq (tFor (iList K (tVar 0)) (gName 2) (tWhile (tTest (tOp rNe (tVar 2) (tC (.int 0)))) (tSeq (tAsg (tOp rMod (tVar 1) (tVar 2)) (gName 3))
  (tSeq (tAsg (tVar 2) (gName 1))
  (tAsg (tVar 3) (gName 2))))))
  (tRet (tCB rAbs (tCons (tVar 1) (tNil)))))

section
variable {K : PySem.W.Frag} {Cof : String → Addr} {vs : List V} {H : Hp} {Q : VK} {E : XK}
theorem len_shared (h : sp_shared K Cof vs H Q E) : vs.length = 1 := by
  obtain ⟨a, ns, rfl, _⟩ := h; rfl
theorem rd_shared (h : sp_shared K Cof vs H Q E) : t_shared K Cof E { nx := fun _ H' => Q .non H', rt := Q } (start ["row", "found", "one", "rest"] vs) H := by
  obtain ⟨a, ns, rfl, hS, q⟩ := h
  unfold t_shared
  walk_at "rd"
  refine loop_ints (ns := ns) (fun i σ' H' => ∃ (f : Int) (u r : Option V), σ' = [some (.ref a), some (.int f), u, r] ∧ H' = H ∧ f.natAbs = MG.gcdN (ns.take i)) ⟨0, none, none, rfl, rfl, rfl⟩ (fun i σ' H' _ hp => ?_) (fun i x σ' H' hx hp => ?_) (fun σ' H' hp => ?_)
  · obtain ⟨f, u, r, rfl, rfl, _⟩ := hp; exact hS
  · obtain ⟨f, u, r, rfl, rfl, hf⟩ := hp
    refine r_while (fun m σ2 H2 => ∃ (f o : Int) (r : Option V), σ2 = [some (.ref a), some (.int f), some (.int o), r] ∧ H2 = H' ∧ m = o.natAbs ∧ Int.gcd f o = MG.gcdN (ns.take (i + 1))) x.natAbs ⟨f, x, r, rfl, rfl, rfl, ?_⟩ (fun m σ2 H2 hw => ?_)
    · rw [MG.gcdN_take hx, ← hf]; rfl
    · obtain ⟨f, o, r, rfl, rfl, rfl, hg⟩ := hw
      walk_at "rd"
      refine ite_nd (fun h => wh_in ?_) (fun h => ?_)
      · walk_at "rd"
        exact ⟨_, MG.fmod_lt h, o, f.fmod o, _, rfl, rfl, rfl, by rw [MG.gcd_fmod]; exact hg⟩
      · refine ⟨f, _, _, rfl, rfl, ?_⟩
        rw [← hg, h, Int.gcd_zero_right]
  · obtain ⟨f, u, r, rfl, rfl, hf⟩ := hp
    walk_at "rd"
    rw [List.take_length] at hf
    have e : (if f < 0 then -f else f) = MG.gcdL ns := by
      unfold MG.gcdL
      rw [← hf]
      split <;> omega
    rw [e]
    exact q
end
theorem c_shared {K : PySem.W.Frag} {Cof : String → Addr} {H : Hp} {Q : VK} {E : XK} {a : Addr} {ns : List Int} (h : SqL K H a (ns.map V.int)) (q : Q (.int (MG.gcdL ns)) H) : sp_shared K Cof [.ref a] H Q E := ⟨a, ns, rfl, h, q⟩
local macro_rules | `(tactic| walk_at "call") => `(tactic| ((with_reducible refine' c_shared ?h ?_); (case h => walk_at "sq")))

/-! #### told_order -/
--USE MF
def sp_told_order (K : PySem.W.Frag) (Cof : String → Addr) : Sp := fun vs H Q _ => ∃ l r : Int, vs = [.int l, .int r] ∧ Q (.int (ordI l r)) H
def t_told_order (K : PySem.W.Frag) (Cof : String → Addr) (E : XK) : TS :=
  tSeq (tIfS (tTest (tOp rLt (tVar 0) (tVar 1))) (tRet (tUn rNeg (tC (.int 1)))) (tNext))
  (tRet (tCB rInt1 (tCons (tOp rGt (tVar 0) (tVar 1)) (tNil))))

section
variable {K : PySem.W.Frag} {Cof : String → Addr} {vs : List V} {H : Hp} {Q : VK} {E : XK}
theorem len_told_order (h : sp_told_order K Cof vs H Q E) : vs.length = 2 := by
  obtain ⟨l, r, rfl, _⟩ := h; rfl
theorem rd_told_order (h : sp_told_order K Cof vs H Q E) : t_told_order K Cof E { nx := fun _ H' => Q .non H', rt := Q } (start ["left", "right"] vs) H := by
  obtain ⟨l, r, rfl, q⟩ := h
  unfold t_told_order
  unfold ordI at q
  walk_at "rd"
  refine ite_d (fun h => ?_) (fun h => ?_)
  · walk_at "rd"
    rw [if_pos h] at q
    exact q
  · walk_at "rd"
    rw [if_neg h] at q
    by_cases h2 : r < l
    · rw [if_pos h2] at q
      rw [decide_eq_true h2]; exact q
    · rw [if_neg h2] at q
      rw [decide_eq_false h2]; exact q
theorem c_told_order {l r : Int} (q : Q (.int (ordI l r)) H) : sp_told_order K Cof [.int l, .int r] H Q E := ⟨l, r, rfl, q⟩
end
local macro_rules | `(tactic| walk_at "call") => `(tactic| with_reducible refine c_told_order ?_)

/-! #### Ratio.__init__ -/
--USE RC
def sp_Ratio___init__ (K : PySem.W.Frag) (Cof : String → Addr) : Sp := fun vs H Q _ => ∃ (x dx : Addr) (t b : Int) (n : Nat), vs = [.ref x, .int t, .int b] ∧ H x = some (.ins (Cof "Ratio") dx []) ∧ b ≠ 0 ∧ (b.natAbs < 2 ^ n ∧ 0 < n ∧ n ≤ 9000) ∧ ∀ H', Exb x H H' → H' x = some (.ins (Cof "Ratio") dx (rF (rT t b) (rB t b))) → Q .non H'
def t_Ratio___init__ (K : PySem.W.Frag) (Cof : String → Addr) (E : XK) : TS :=
  tSeq (tIfS (tTest (tOp rEq (tVar 2) (tC (.int 0)))) (tNever) (tNext))
  (tSeq (tAsg (tCall (sp_shared K Cof) [] E0 (tCons (tLst (tCons (tVar 1) (tCons (tVar 2) (tNil)))) (tNil))) (gName 3))
  (tCut (tIfS (tTest (tOp rLt (tVar 2) (tC (.int 0)))) (tAsg (tUn rNeg (tVar 3)) (gName 3)) (tNext))
  (tSeq (sFld K (tVar 0) (tOp rDiv (tVar 1) (tVar 3)) "top")
  (sFld K (tVar 0) (tOp rDiv (tVar 2) (tVar 3)) "bottom"))))

section
variable {K : PySem.W.Frag} {Cof : String → Addr} {vs : List V} {H : Hp} {Q : VK} {E : XK}
theorem len_Ratio___init__ (h : sp_Ratio___init__ K Cof vs H Q E) : vs.length = 3 := by
  obtain ⟨x, dx, t, b, n, rfl, _⟩ := h; rfl
theorem rd_Ratio___init__ (X : ExT K Cof) (h : sp_Ratio___init__ K Cof vs H Q E) : t_Ratio___init__ K Cof E { nx := fun _ H' => Q .non H', rt := Q } (start ["self", "top", "bottom", "part"] vs) H := by
  obtain ⟨x, dx, t, b, n, rfl, hx, hb, ⟨bn, n0, n9⟩, q⟩ := h
  unfold t_Ratio___init__
  walk_at "rd"
  refine ite_d (fun h => absurd h hb) (fun _ => ?_)
  walk_at "rd"
  refine r_lstK fun p1 H1 hp1 e1 h1 => ?_
  walk_at "rd"
  refine c_shared (ns := [t, b]) (SqL.inj h1) ?_
  walk_at "rd"
  refine ⟨fun σ' H' => σ' = [some (.ref x), some (.int t), some (.int b), some (.int (rG t b))] ∧ H' = H1, ?_, fun σ' H' hM => ?_⟩
  · walk_at "rd"
    unfold rG
    refine ite_d (fun h => ?_) (fun h => ?_)
    · walk_at "rd"
      rw [if_pos h]
      exact ⟨rfl, rfl⟩
    · walk_at "rd"
      rw [if_neg h]
      exact ⟨rfl, rfl⟩
  obtain ⟨rfl, rfl⟩ := hM
  have hd : CDivA t (rG t b) := ⟨rG_ne hb, Nat.lt_of_lt_of_le (rG_log hb n0 bn) n9⟩
  walk_at "rd"
  refine r_div hd ?_
  walk_at "rd"
  refine ⟨x, Cof "Ratio", dx, [], rfl, e1 _ _ hx, X.cl_Ratio, X.n_Ratio_top, (by show 0 < 1000; decide), ?_⟩
  walk_at "rd"
  refine r_div hd ?_
  walk_at "rd"
  refine ⟨x, Cof "Ratio", dx, _, rfl, upd_same, X.cl_Ratio, X.n_Ratio_bottom, (by show 1 < 1000; decide), ?_⟩
  refine q _ (fun a n o h => ?_) ?_
  · rw [upd_ne n, upd_ne n]
    exact e1 _ _ h
  · rw [upd_same]
    rfl
end
theorem c_Ratio {K : PySem.W.Frag} {Cof : String → Addr} {H : Hp} {Q : VK} {E : XK} {t b : Int} (n : Nat) (hb : b ≠ 0) (bn : b.natAbs < 2 ^ n) (n0 : 0 < n) (n9 : n ≤ 9000) (q : RetR (Cof "Ratio") (rT t b) (rB t b) H Q) : MakeK (Cof "Ratio") (sp_Ratio___init__ K Cof) [] E Q [.int t, .int b] H := fun x dx hx hdx hne =>
  ⟨x, dx, t, b, n, rfl, upd_same, hb, ⟨bn, n0, n9⟩, fun H' e h => ⟨rfl, q x H' hx (fun a o ha => e a (ne_of_none ha hx) o (by
    rw [upd_ne (ne_of_none ha hx), upd_ne (ne_of_none ha hdx)]
    exact ha)) ⟨dx, h⟩⟩⟩
theorem c_Ratio1 {K : PySem.W.Frag} {Cof : String → Addr} {H : Hp} {Q : VK} {E : XK} {t : Int} (q : RetR (Cof "Ratio") (rT t 1) (rB t 1) H Q) : MakeK (Cof "Ratio") (sp_Ratio___init__ K Cof) [.int 1] E Q [.int t] H := fun x dx hx hdx hne =>
  ⟨x, dx, t, 1, 1, rfl, upd_same, by decide, ⟨by decide, by decide, by decide⟩, fun H' e h => ⟨rfl, q x H' hx (fun a o ha => e a (ne_of_none ha hx) o (by
    rw [upd_ne (ne_of_none ha hx), upd_ne (ne_of_none ha hdx)]
    exact ha)) ⟨dx, h⟩⟩⟩
/-- two fractions that a deed can take -/
structure RSz (n : Nat) (t b u v : Int) : Prop where
  st : t.natAbs < 2 ^ n
  sb : b.natAbs < 2 ^ n
  su : u.natAbs < 2 ^ n
  sv : v.natAbs < 2 ^ n
  n0 : 0 < n
  n9 : n ≤ 4400
  b0 : b ≠ 0
  v0 : v ≠ 0

/-! #### poly -/
--USE ML
def sp_poly (K : PySem.W.Frag) (Cof : String → Addr) : Sp := fun vs H Q _ => ∃ (a : Addr) (ns : List Int), vs = [.ref a] ∧ SqL K H a (ns.map V.int) ∧ ns.length ≤ 1000000 ∧ RetI (ML.trimL ns) H Q
def t_poly (K : PySem.W.Frag) (Cof : String → Addr) (E : XK) : TS :=
  tSeq (tAsg (tCB (rLenS K) (tCons (tVar 0) (tNil))) (gName 1))
  (tSeq (tWhile (tAnd (tTest (tOp rGt (tVar 1) (tC (.int 0)))) (tTest (tOp rEq (tOp (rIxL K) (tVar 0) (tOp rISub (tVar 1) (tC (.int 1)))) (tC (.int 0))))) (tAsg (tOp rISub (tVar 1) (tC (.int 1))) (gName 1)))
  (tRet (tSl (rSlL K) (tVar 0) (tNoPart) (tPart (tVar 1)))))

section
variable {K : PySem.W.Frag} {Cof : String → Addr} {vs : List V} {H : Hp} {Q : VK} {E : XK}
theorem len_poly (h : sp_poly K Cof vs H Q E) : vs.length = 1 := by
  obtain ⟨a, ns, rfl, _⟩ := h; rfl
theorem rd_poly (h : sp_poly K Cof vs H Q E) : t_poly K Cof E { nx := fun _ H' => Q .non H', rt := Q } (start ["row", "size"] vs) H := by
  obtain ⟨a, ns, rfl, hS, hl, q⟩ := h
  unfold t_poly
  walk_at "rd"
  try rw [List.length_map]
  refine r_while (fun m σ' H' => σ' = [some (.ref a), some (.int (m : Int))] ∧ H' = H ∧ m ≤ ns.length ∧ ∀ k, m ≤ k → ML.cf ns k = 0) ns.length ⟨rfl, rfl, Nat.le_refl _, fun k hk => ML.cf_beyond hk⟩ (fun m σ' H' hw => ?_)
  obtain ⟨rfl, rfl, hm, h0⟩ := hw
  walk_at "rd"
  refine ite_d (fun hp => ?_) (fun hp => ?_)
  · walk_at "rd"
    refine r_ixI hS (by omega) (by omega) ?_
    walk_at "rd"
    have e : ns.getD ((m : Int) - 1).toNat 0 = ML.cf ns (m - 1) := by
      unfold ML.cf; congr 1; omega
    rw [e]
    refine ite_d (fun hz => wh_in ?_) (fun hz => ?_)
    · walk_at "rd"
      have e1 : (m : Int) - 1 = ((m - 1 : Nat) : Int) := by omega
      exact ⟨m - 1, by omega, by rw [e1]; rfl, rfl, by omega, fun k hk => by
        by_cases hk' : k = m - 1
        · rw [hk', hz]
        · exact h0 k (by omega)⟩
    · walk_at "rd"
      refine r_slI hS fun p H' hp e h => q p H' hp e ?_
      rw [ML.trimL_take hm h0 (.inr hz), ← sliceI_to hm]
      exact h
  · walk_at "rd"
    refine r_slI hS fun p H' hp e h => q p H' hp e ?_
    rw [ML.trimL_take hm h0 (.inl (by omega)), ← sliceI_to hm]
    exact h
theorem c_poly {a : Addr} {ns : List Int} (h : SqL K H a (ns.map V.int)) (hl : ns.length ≤ 1000000) (q : ∀ p H', H p = none → Ex H H' → H' p = some (.lst ((ML.trimL ns).map V.int)) → Q (.ref p) H') : sp_poly K Cof [.ref a] H Q E := ⟨a, ns, rfl, h, hl, q⟩
end

/-! #### degree -/
def sp_degree (K : PySem.W.Frag) (Cof : String → Addr) : Sp := fun vs H Q _ => ∃ (a : Addr) (ns : List Int), vs = [.ref a] ∧ SqL K H a (ns.map V.int) ∧ Q (.int ((ns.length : Int) - 1)) H
def t_degree (K : PySem.W.Frag) (Cof : String → Addr) (E : XK) : TS :=
  tRet (tOp rISub (tCB (rLenS K) (tCons (tVar 0) (tNil))) (tC (.int 1)))

section
variable {K : PySem.W.Frag} {Cof : String → Addr} {vs : List V} {H : Hp} {Q : VK} {E : XK}
theorem len_degree (h : sp_degree K Cof vs H Q E) : vs.length = 1 := by
  obtain ⟨a, ns, rfl, _⟩ := h; rfl
theorem rd_degree (h : sp_degree K Cof vs H Q E) : t_degree K Cof E { nx := fun _ H' => Q .non H', rt := Q } (start ["P"] vs) H := by
  obtain ⟨a, ns, rfl, hS, q⟩ := h
  unfold t_degree
  walk_at "rd"
  try rw [List.length_map]
  exact q
theorem c_degree {a : Addr} {ns : List Int} (h : SqL K H a (ns.map V.int)) (q : Q (.int ((ns.length : Int) - 1)) H) : sp_degree K Cof [.ref a] H Q E := ⟨a, ns, rfl, h, q⟩
end
local macro_rules | `(tactic| walk_at "call") => `(tactic| ((with_reducible refine' c_degree ?h ?_); (case h => walk_at "sq")))

/-! #### multiplied -/
def sp_multiplied (K : PySem.W.Frag) (Cof : String → Addr) : Sp := fun vs H Q _ => ∃ (a b : Addr) (P R : List Int) (n m : Nat), vs = [.ref a, .ref b] ∧ SqL K H a (P.map V.int) ∧ SqL K H b (R.map V.int) ∧ P.length ≤ 100000 ∧ R.length ≤ 100000 ∧ ML.Sz n P ∧ ML.Sz m R ∧ (0 < n ∧ 0 < m ∧ n + m ≤ 1000000) ∧ RetI (ML.mulL P R) H Q
def t_multiplied (K : PySem.W.Frag) (Cof : String → Addr) (E : XK) : TS :=
  tSeq (tAsg (tOp rRep (tLst (tCons (tC (.int 0)) (tNil))) (tOp rIAdd (tCB (rLenS K) (tCons (tVar 0) (tNil))) (tCB (rLenS K) (tCons (tVar 1) (tNil))))) (gName 2))
  (tSeq (tFor (iRng1 (tCons (tCB (rLenS K) (tCons (tVar 0) (tNil))) (tNil))) (gName 3) (tFor (iRng1 (tCons (tCB (rLenS K) (tCons (tVar 1) (tNil))) (tNil))) (gName 4) (tAsg (tOp rIAdd (tOp (rIxL K) (tVar 2) (tOp rIAdd (tVar 3) (tVar 4))) (tOp rMul (tOp (rIxL K) (tVar 0) (tVar 3)) (tOp (rIxL K) (tVar 1) (tVar 4)))) (gSub (tVar 2) (tOp rIAdd (tVar 3) (tVar 4)) rSetL))))
  (tRet (tCall (sp_poly K Cof) [] E0 (tCons (tVar 2) (tNil)))))

section
variable {K : PySem.W.Frag} {Cof : String → Addr} {vs : List V} {H : Hp} {Q : VK} {E : XK}
theorem len_multiplied (h : sp_multiplied K Cof vs H Q E) : vs.length = 2 := by
  obtain ⟨a, b, P, R, n, m, rfl, _⟩ := h; rfl
theorem rd_multiplied (h : sp_multiplied K Cof vs H Q E) : t_multiplied K Cof E { nx := fun _ H' => Q .non H', rt := Q } (start ["P", "Q", "row", "k", "i"] vs) H := by
  obtain ⟨a, b, P, R, n, m, rfl, hA, hB, lA, lB, sA, sB, ⟨n0, m0, nm⟩, q⟩ := h
  unfold t_multiplied
  walk_at "rd"
  refine r_lstK fun p0 H0 hp0 e0 h0 => ?_
  have hA0 := e0.l hA
  have hB0 := e0.l hB
  walk_at "rd"
  try rw [List.length_map, List.length_map]
  refine r_rep1 h0 (by omega) fun p H1 hp e1 h1 => ?_
  have hA1 := e1.l hA0
  have hB1 := e1.l hB0
  walk_at "rd"
  try rw [List.length_map]
  refine r_iRng1A (by omega) (by omega) ?_
  rw [Int.toNat_natCast]
  refine loop_range0 (fun k σ' H' => ∃ (rs : List Int) (u v : Option V), σ' = [some (.ref a), some (.ref b), some (.ref p), u, v] ∧ Ex H0 H' ∧ H' p = some (.lst (rs.map V.int)) ∧ rs.length = P.length + R.length ∧ ∀ j, ML.cf rs j = ML.pcv P R k j)
    ⟨List.replicate (P.length + R.length) 0, none, none, rfl, e1, by rw [List.map_replicate]; exact h1, by rw [List.length_replicate], fun j => by rw [ML.cf_rep0]; rfl⟩ (fun k σ' H' hk hp' => ?_) (fun σ' H' hp' => ?_)
  · obtain ⟨rs, u, v, rfl, e2, h2, l2, c2⟩ := hp'
    walk_at "rd"
    try rw [List.length_map]
    refine r_iRng1A (by omega) (by omega) ?_
    rw [Int.toNat_natCast]
    refine loop_range0 (fun i σ2 H2 => ∃ (rs : List Int) (v : Option V), σ2 = [some (.ref a), some (.ref b), some (.ref p), some (.int (k : Int)), v] ∧ Ex H0 H2 ∧ H2 p = some (.lst (rs.map V.int)) ∧ rs.length = P.length + R.length ∧ ∀ j, ML.cf rs j = ML.pcw P R k i j)
      ⟨rs, v, rfl, e2, h2, l2, fun j => by rw [ML.pcw_zero]; exact c2 j⟩ (fun i σ2 H2 hi hp2 => ?_) (fun σ2 H2 hp2 => ?_)
    · obtain ⟨rs, v, rfl, e3, h3, l3, c3⟩ := hp2
      have hA3 := e3.l hA0
      have hB3 := e3.l hB0
      have eki : (k : Int) + (i : Int) = ((k + i : Nat) : Int) := by omega
      walk_at "rd"
      rw [eki]
      refine r_ixI (SqL.inj h3) (by omega) (by omega) ?_
      walk_at "rd"
      refine r_ixI hA3 (by omega) (by omega) ?_
      walk_at "rd"
      refine r_ixI hB3 (by omega) (by omega) ?_
      rw [Int.toNat_natCast, Int.toNat_natCast, Int.toNat_natCast]
      refine r_mul (wide_mul (sA.cf k) (sB.cf i) n0 m0 nm) ?_
      walk_at "rd"
      rw [eki]
      refine r_setL h3 (Evl.ixN_nat (by rw [List.length_map]; omega)) fun H4 b4 h4 => ?_
      refine ⟨rs.set (k + i) (ML.cf rs (k + i) + ML.cf P k * ML.cf R i), _, rfl, e3.mutb b4 hp, by rw [List.map_set]; exact h4, by rw [List.length_set]; exact l3, fun j => ?_⟩
      rw [ML.cf_set (by omega), ML.pcw_step, c3]
      by_cases hj : j = k + i
      · rw [if_pos hj, if_pos hj, hj]
      · rw [if_neg hj, if_neg hj, c3]
    · obtain ⟨rs, v, rfl, e3, h3, l3, c3⟩ := hp2
      exact ⟨rs, _, v, rfl, e3, h3, l3, fun j => by rw [c3, ML.pcw_full]⟩
  · obtain ⟨rs, u, v, rfl, e2, h2, l2, c2⟩ := hp'
    walk_at "rd"
    refine c_poly (SqL.inj h2) (by omega) fun p3 H3 hp3 e3 h3 => ?_
    rw [ML.mulL_of l2 c2] at h3
    exact q p3 H3 (Evl.fresh_back (e0.trans e2) hp3) ((e0.trans e2).trans e3) h3
theorem c_multiplied {a b : Addr} {P R : List Int} (n m : Nat) (hA : SqL K H a (P.map V.int)) (hB : SqL K H b (R.map V.int)) (lA : P.length ≤ 100000) (lB : R.length ≤ 100000) (sA : ML.Sz n P) (sB : ML.Sz m R) (h0 : 0 < n ∧ 0 < m ∧ n + m ≤ 1000000) (q : ∀ p H', H p = none → Ex H H' → H' p = some (.lst ((ML.mulL P R).map V.int)) → Q (.ref p) H') : sp_multiplied K Cof [.ref a, .ref b] H Q E := ⟨a, b, P, R, n, m, rfl, hA, hB, lA, lB, sA, sB, h0, q⟩
end

/-! #### top_at -/
--USE MH
/-- sizes that a value at a fraction can take -/
structure HSz (n m : Nat) (P : List Int) (t b : Int) : Prop where
  sP : ML.Sz n P
  st : t.natAbs < 2 ^ m
  sb : b.natAbs < 2 ^ m
  n0 : 0 < n
  m0 : 0 < m
  le : n + (m + 1) * (P.length + 1) ≤ 900000
theorem HSz.steps {n m : Nat} {P : List Int} {t b : Int} (s : HSz n m P t b) (k : Nat) : (MH.hs t b (P.drop k)).1.natAbs < 2 ^ (n + (m + 1) * P.length + 1) ∧ (MH.hs t b (P.drop k)).2.natAbs < 2 ^ (m * P.length + 1) := by
  have h := MH.hs_sz s.st s.sb (P.drop k) (s.sP.drop k)
  have hl : (P.drop k).length ≤ P.length := by rw [List.length_drop]; omega
  have h1 := Nat.mul_le_mul_left (m + 1) hl
  have h2 := Nat.mul_le_mul_left m hl
  exact ⟨Nat.lt_of_lt_of_le h.1 (Nat.pow_le_pow_right (by decide) (by omega)), Nat.lt_of_lt_of_le h.2 (Nat.pow_le_pow_right (by decide) (by omega))⟩
def sp_top_at (K : PySem.W.Frag) (Cof : String → Addr) : Sp := fun vs H Q _ => ∃ (a r : Addr) (P : List Int) (t b : Int) (n m : Nat), vs = [.ref a, .ref r] ∧ SqL K H a (P.map V.int) ∧ IsR (Cof "Ratio") H r t b ∧ HSz n m P t b ∧ Q (.int (MH.topL P t b)) H
def t_top_at (K : PySem.W.Frag) (Cof : String → Addr) (E : XK) : TS :=
  tSeq (tAsg (tC (.int 0)) (gName 2))
  (tSeq (tAsg (tC (.int 1)) (gName 3))
  (tSeq (tFor (iRev K (tCons (tVar 0) (tNil))) (gName 4) (tSeq (tAsg (tOp rIAdd (tOp rMul (tVar 2) (tFld K (tVar 1) "top")) (tOp rMul (tVar 4) (tVar 3))) (gName 2))
  (tAsg (tOp rMul (tVar 3) (tFld K (tVar 1) "bottom")) (gName 3))))
  (tRet (tVar 2))))

section
variable {K : PySem.W.Frag} {Cof : String → Addr} {vs : List V} {H : Hp} {Q : VK} {E : XK}
theorem len_top_at (h : sp_top_at K Cof vs H Q E) : vs.length = 2 := by
  obtain ⟨a, r, P, t, b, n, m, rfl, _⟩ := h; rfl
theorem rd_top_at (X : ExT K Cof) (h : sp_top_at K Cof vs H Q E) : t_top_at K Cof E { nx := fun _ H' => Q .non H', rt := Q } (start ["P", "r", "total", "scale", "one"] vs) H := by
  obtain ⟨a, r, P, t, b, n, m, rfl, hA, hR, s, q⟩ := h
  have cl := X.cl_Ratio
  have nt := X.n_Ratio_top
  have nb := X.n_Ratio_bottom
  have n0 := s.n0
  have m0 := s.m0
  have le := s.le
  have e1 : (m + 1) * (P.length + 1) = m * P.length + P.length + m + 1 := by rw [Nat.mul_add, Nat.add_mul]; omega
  have e2 : (m + 1) * P.length = m * P.length + P.length := by rw [Nat.add_mul, Nat.one_mul]
  unfold t_top_at
  walk_at "rd"
  refine loop_rev (xs := P.map V.int) (fun i σ' H' => ∃ u, σ' = [some (.ref a), some (.ref r), some (.int (MH.hs t b (P.drop (P.length - i))).1), some (.int (MH.hs t b (P.drop (P.length - i))).2), u] ∧ H' = H) ⟨none, by rw [Nat.sub_zero, List.drop_length]; rfl, rfl⟩ (fun i σ' H' _ hp => ?_) (fun i x σ' H' hx hi hp => ?_) (fun σ' H' hp => ?_)
  · obtain ⟨u, rfl, rfl⟩ := hp
    exact hA
  · obtain ⟨u, rfl, rfl⟩ := hp
    rw [List.length_map] at hx hi
    rw [List.getElem?_map] at hx
    obtain ⟨c, hc, rfl⟩ := Option.map_eq_some_iff.mp hx
    have hd := MH.hs_drop (t := t) (b := b) hc
    have e3 : P.length - 1 - i + 1 = P.length - i := by omega
    have e4 : P.length - (i + 1) = P.length - 1 - i := by omega
    rw [e3] at hd
    obtain ⟨s1, s2⟩ := s.steps (P.length - i)
    have sc := s.sP c (List.mem_of_getElem? hc)
    rw [e4, hd]
    generalize (MH.hs t b (P.drop (P.length - i))).1 = tot at s1 ⊢
    generalize (MH.hs t b (P.drop (P.length - i))).2 = sca at s2 ⊢
    walk_at "rd"
    refine r_mul (wide_mul s1 s.st (by omega) m0 (by omega)) ?_
    walk_at "rd"
    refine r_mul (wide_mul sc s2 n0 (by omega) (by omega)) ?_
    walk_at "rd"
    refine r_mul (wide_mul s2 s.sb (by omega) m0 (by omega)) ?_
    walk_at "rd"
    exact ⟨_, rfl, rfl⟩
  · obtain ⟨u, rfl, rfl⟩ := hp
    rw [List.length_map, Nat.sub_self, List.drop_zero]
    walk_at "rd"
    exact q
theorem c_top_at {a r : Addr} {P : List Int} {t b : Int} (n m : Nat) (hA : SqL K H a (P.map V.int)) (hR : IsR (Cof "Ratio") H r t b) (s : HSz n m P t b) (q : Q (.int (MH.topL P t b)) H) : sp_top_at K Cof [.ref a, .ref r] H Q E := ⟨a, r, P, t, b, n, m, rfl, hA, hR, s, q⟩
end

/-! #### value_at -/
--USE MK
def sp_value_at (K : PySem.W.Frag) (Cof : String → Addr) : Sp := fun vs H Q _ => ∃ (a r : Addr) (P : List Int) (t b : Int) (n m : Nat), vs = [.ref a, .ref r] ∧ SqL K H a (P.map V.int) ∧ IsR (Cof "Ratio") H r t b ∧ HSz n m P t b ∧ b ≠ 0 ∧ m * P.length + 1 ≤ 9000 ∧ RetR (Cof "Ratio") (rT (MH.topL P t b) (b ^ (P.length - 1))) (rB (MH.topL P t b) (b ^ (P.length - 1))) H Q
def t_value_at (K : PySem.W.Frag) (Cof : String → Addr) (E : XK) : TS :=
  tSeq (tAsg (tC (.int 1)) (gName 2))
  (tSeq (tFor (iRng2 (tCons (tC (.int 1)) (tCons (tCB (rLenS K) (tCons (tVar 0) (tNil))) (tNil)))) (gName 3) (tAsg (tOp rMul (tVar 2) (tFld K (tVar 1) "bottom")) (gName 2)))
  (tRet (tMake (Cof "Ratio") (sp_Ratio___init__ K Cof) [] E0 (tCons (tCall (sp_top_at K Cof) [] E0 (tCons (tVar 0) (tCons (tVar 1) (tNil)))) (tCons (tVar 2) (tNil))))))

section
variable {K : PySem.W.Frag} {Cof : String → Addr} {vs : List V} {H : Hp} {Q : VK} {E : XK}
theorem len_value_at (h : sp_value_at K Cof vs H Q E) : vs.length = 2 := by
  obtain ⟨a, r, P, t, b, n, m, rfl, _⟩ := h; rfl
theorem pow_abs {b : Int} {m : Nat} (h : b.natAbs < 2 ^ m) (k : Nat) : (b ^ k).natAbs < 2 ^ (m * k + 1) := by
  rw [Int.natAbs_pow]
  refine Nat.lt_of_le_of_lt (Nat.pow_le_pow_left (Nat.le_of_lt h) _) ?_
  rw [← Nat.pow_mul]
  exact Nat.pow_lt_pow_right (by decide) (by omega)
theorem pow_ne {b : Int} (h : b ≠ 0) : ∀ k : Nat, b ^ k ≠ 0
  | 0 => by rw [Int.pow_zero]; decide
  | k + 1 => by rw [Int.pow_succ]; exact Int.mul_ne_zero (pow_ne h k) h
theorem rd_value_at (X : ExT K Cof) (h : sp_value_at K Cof vs H Q E) : t_value_at K Cof E { nx := fun _ H' => Q .non H', rt := Q } (start ["P", "r", "scale", "k"] vs) H := by
  obtain ⟨a, r, P, t, b, n, m, rfl, hA, hR, s, hb, h9, q⟩ := h
  have cl := X.cl_Ratio
  have nb := X.n_Ratio_bottom
  have m0 := s.m0
  have le := s.le
  have e1 : (m + 1) * (P.length + 1) = m * P.length + P.length + m + 1 := by rw [Nat.mul_add, Nat.add_mul]; omega
  unfold t_value_at
  walk_at "rd"
  try rw [List.length_map]
  refine r_iRng2A (by omega) ?_
  have en : ((P.length : Int) - 1).toNat = P.length - 1 := by omega
  rw [en]
  refine loop_range (fun k σ' H' => ∃ u, σ' = [some (.ref a), some (.ref r), some (.int (b ^ k)), u] ∧ H' = H) ⟨_, by rw [Int.pow_zero]; rfl, rfl⟩ (fun k σ' H' hk hp' => ?_) (fun σ' H' hp' => ?_)
  · obtain ⟨u, rfl, rfl⟩ := hp'
    walk_at "rd"
    have hk2 : m * k ≤ m * P.length := Nat.mul_le_mul_left m (by omega)
    refine r_mul (wide_mul (pow_abs s.sb k) s.sb (by omega) m0 (by omega)) ?_
    walk_at "rd"
    exact ⟨_, by rw [Int.pow_succ]; rfl, rfl⟩
  · obtain ⟨u, rfl, rfl⟩ := hp'
    walk_at "rd"
    refine c_top_at n m hA hR s ?_
    walk_at "rd"
    have hk2 : m * (P.length - 1) ≤ m * P.length := Nat.mul_le_mul_left m (by omega)
    exact c_Ratio (m * (P.length - 1) + 1) (pow_ne hb _) (pow_abs s.sb _) (by omega) (by omega) q
theorem c_value_at {a r : Addr} {P : List Int} {t b : Int} (n m : Nat) (hA : SqL K H a (P.map V.int)) (hR : IsR (Cof "Ratio") H r t b) (s : HSz n m P t b) (hb : b ≠ 0) (h9 : m * P.length + 1 ≤ 9000) (q : RetR (Cof "Ratio") (rT (MH.topL P t b) (b ^ (P.length - 1))) (rB (MH.topL P t b) (b ^ (P.length - 1))) H Q) : sp_value_at K Cof [.ref a, .ref r] H Q E := ⟨a, r, P, t, b, n, m, rfl, hA, hR, s, hb, h9, q⟩
end

/-! #### sign_at -/
def sp_sign_at (K : PySem.W.Frag) (Cof : String → Addr) : Sp := fun vs H Q _ => ∃ (a r : Addr) (P : List Int) (t b : Int) (n m : Nat), vs = [.ref a, .ref r] ∧ SqL K H a (P.map V.int) ∧ IsR (Cof "Ratio") H r t b ∧ HSz n m P t b ∧ Q (.int (ordI (MH.topL P t b) 0)) H
def t_sign_at (K : PySem.W.Frag) (Cof : String → Addr) (E : XK) : TS :=
  tRet (tCall (sp_told_order K Cof) [] E0 (tCons (tCall (sp_top_at K Cof) [] E0 (tCons (tVar 0) (tCons (tVar 1) (tNil)))) (tCons (tC (.int 0)) (tNil))))

section
variable {K : PySem.W.Frag} {Cof : String → Addr} {vs : List V} {H : Hp} {Q : VK} {E : XK}
theorem len_sign_at (h : sp_sign_at K Cof vs H Q E) : vs.length = 2 := by
  obtain ⟨a, r, P, t, b, n, m, rfl, _⟩ := h; rfl
theorem rd_sign_at (h : sp_sign_at K Cof vs H Q E) : t_sign_at K Cof E { nx := fun _ H' => Q .non H', rt := Q } (start ["P", "r"] vs) H := by
  obtain ⟨a, r, P, t, b, n, m, rfl, hA, hR, s, q⟩ := h
  unfold t_sign_at
  walk_at "rd"
  refine c_top_at n m hA hR s ?_
  walk_at "rd"
  exact q
theorem c_sign_at {a r : Addr} {P : List Int} {t b : Int} (n m : Nat) (hA : SqL K H a (P.map V.int)) (hR : IsR (Cof "Ratio") H r t b) (s : HSz n m P t b) (q : Q (.int (ordI (MH.topL P t b) 0)) H) : sp_sign_at K Cof [.ref a, .ref r] H Q E := ⟨a, r, P, t, b, n, m, rfl, hA, hR, s, q⟩
end

/-! #### _law_cell -/
/-- the k-th cell, 0 beyond the last one -/
def cellOf (ns : List Int) (k : Int) : Int := ns.getD k.toNat 0
def sp__law_cell (K : PySem.W.Frag) (Cof : String → Addr) : Sp := fun vs H Q _ => ∃ (a : Addr) (ns : List Int) (k : Int), vs = [.ref a, .int k] ∧ SqL K H a (ns.map V.int) ∧ 0 ≤ k ∧ Q (.int (cellOf ns k)) H
def t__law_cell (K : PySem.W.Frag) (Cof : String → Addr) (E : XK) : TS :=
  tSeq (tIfS (tTest (tOp rLt (tVar 1) (tCB (rLenS K) (tCons (tVar 0) (tNil))))) (tRet (tOp (rIxL K) (tVar 0) (tVar 1))) (tNext))
  (tRet (tC (.int 0)))

section
variable {K : PySem.W.Frag} {Cof : String → Addr} {vs : List V} {H : Hp} {Q : VK} {E : XK}
theorem len__law_cell (h : sp__law_cell K Cof vs H Q E) : vs.length = 2 := by
  obtain ⟨a, ns, k, rfl, _⟩ := h; rfl
theorem rd__law_cell (h : sp__law_cell K Cof vs H Q E) : t__law_cell K Cof E { nx := fun _ H' => Q .non H', rt := Q } (start ["_law_script", "_law_k"] vs) H := by
  obtain ⟨a, ns, k, rfl, hS, h0, q⟩ := h
  obtain ⟨k, rfl⟩ : ∃ n : Nat, k = (n : Int) := ⟨k.toNat, by omega⟩
  unfold t__law_cell
  walk_at "rd"
  try rw [List.length_map]
  refine ite_d (fun h => ?_) (fun h => ?_)
  · walk_at "rd"
    have hk : k < ns.length := by omega
    exact r_ixI hS h0 h q
  · walk_at "rd"
    have e : cellOf ns k = 0 := by
      unfold cellOf
      rw [List.getD_eq_getElem?_getD, List.getElem?_eq_none (by omega)]; rfl
    rw [e] at q
    exact q
theorem c__law_cell {a : Addr} {ns : List Int} {k : Int} (h : SqL K H a (ns.map V.int)) (h0 : 0 ≤ k) (q : Q (.int (cellOf ns k)) H) : sp__law_cell K Cof [.ref a, .int k] H Q E := ⟨a, ns, k, rfl, h, h0, q⟩
end
local macro_rules | `(tactic| walk_at "call") => `(tactic| ((with_reducible refine' c__law_cell ?h ?h0 ?_); (case h => walk_at "sq"); (case h0 => first | decide | omega)))

/-! #### _law_whole -/
def sp__law_whole (K : PySem.W.Frag) (Cof : String → Addr) : Sp := fun vs H Q _ => ∃ i : Int, vs = [.int i] ∧ Q (.bl true) H
def t__law_whole (K : PySem.W.Frag) (Cof : String → Addr) (E : XK) : TS :=
  tRet (tAndV (tCB (rIsi K) (tCons (tVar 0) (tCons (tC (.ty "int")) (tNil)))) (tNotV (tCB (rIsi K) (tCons (tVar 0) (tCons (tC (.ty "bool")) (tNil))))))

section
variable {K : PySem.W.Frag} {Cof : String → Addr} {vs : List V} {H : Hp} {Q : VK} {E : XK}
theorem len__law_whole (h : sp__law_whole K Cof vs H Q E) : vs.length = 1 := by
  obtain ⟨i, rfl, _⟩ := h; rfl
theorem rd__law_whole (h : sp__law_whole K Cof vs H Q E) : t__law_whole K Cof E { nx := fun _ H' => Q .non H', rt := Q } (start ["_law_found"] vs) H := by
  obtain ⟨i, rfl, q⟩ := h
  unfold t__law_whole
  walk_at "rd"
  refine r_isi (.base (.int i)) (.ty _) (kit_ty (r := true) (by decide +kernel)) ?_
  walk_at "rd"
  refine r_isi (.base (.int i)) (.ty _) (kit_ty (r := false) (by decide +kernel)) ?_
  walk_at "rd"
  exact q
end
theorem c__law_whole {K : PySem.W.Frag} {Cof : String → Addr} {H : Hp} {Q : VK} {E : XK} {i : Int} (q : Q (.bl true) H) : sp__law_whole K Cof [.int i] H Q E := ⟨i, rfl, q⟩
local macro_rules | `(tactic| walk_at "call") => `(tactic| with_reducible refine c__law_whole ?_)

/-! #### _law_signed -/
/-- a number from -s to s -/
def sgn (c s : Int) : Int := c.fmod (2 * s + 1) - s
theorem sgn_ge {c s : Int} (h : 0 ≤ s) : -s ≤ sgn c s := by
  have := Int.fmod_nonneg_of_pos c (show 0 < 2 * s + 1 by omega)
  unfold sgn; omega
theorem sgn_le {c s : Int} (h : 0 ≤ s) : sgn c s ≤ s := by
  have := Int.fmod_lt_of_pos c (show 0 < 2 * s + 1 by omega)
  unfold sgn; omega
theorem sgn_abs {c s : Int} {n : Nat} (h : 0 ≤ s) (hs : s.natAbs < 2 ^ n) : (sgn c s).natAbs < 2 ^ n := by
  have h1 := sgn_ge (c := c) h
  have h2 := sgn_le (c := c) h
  generalize 2 ^ n = m at hs ⊢
  omega
def sp__law_signed (K : PySem.W.Frag) (Cof : String → Addr) : Sp := fun vs H Q _ => ∃ c s : Int, vs = [.int c, .int s] ∧ 0 ≤ s ∧ s.natAbs < 2 ^ 4000 ∧ Q (.int (sgn c s)) H
def t__law_signed (K : PySem.W.Frag) (Cof : String → Addr) (E : XK) : TS :=
  tRet (tOp rISub (tOp rMod (tVar 0) (tOp rIAdd (tOp rMul (tC (.int 2)) (tVar 1)) (tC (.int 1)))) (tVar 1))

section
variable {K : PySem.W.Frag} {Cof : String → Addr} {vs : List V} {H : Hp} {Q : VK} {E : XK}
theorem len__law_signed (h : sp__law_signed K Cof vs H Q E) : vs.length = 2 := by
  obtain ⟨c, s, rfl, _⟩ := h; rfl
theorem rd__law_signed (h : sp__law_signed K Cof vs H Q E) : t__law_signed K Cof E { nx := fun _ H' => Q .non H', rt := Q } (start ["_law_cell_here", "_law_size"] vs) H := by
  obtain ⟨c, s, rfl, h0, hs, q⟩ := h
  unfold t__law_signed
  walk_at "rd"
  refine r_mul (wide_mul (a := 2) (by decide) hs (by decide) (by decide) (by decide)) ?_
  walk_at "rd"
  exact q
end
theorem c__law_signed {K : PySem.W.Frag} {Cof : String → Addr} {H : Hp} {Q : VK} {E : XK} {c s : Int} (h0 : 0 ≤ s) (h1 : s.natAbs < 2 ^ 4000) (q : Q (.int (sgn c s)) H) : sp__law_signed K Cof [.int c, .int s] H Q E := ⟨c, s, rfl, h0, h1, q⟩

/-! #### _law_divisor -/
--USE MG
def sp__law_divisor (K : PySem.W.Frag) (Cof : String → Addr) : Sp := fun vs H Q _ => ∃ x y : Int, vs = [.int x, .int y] ∧ Q (.int (Int.gcd x y)) H
def t__law_divisor (K : PySem.W.Frag) (Cof : String → Addr) (E : XK) : TS :=
  tSeq (tWhile (tTest (tOp rNe (tVar 1) (tC (.int 0)))) (tSeq (tAsg (tOp rMod (tVar 0) (tVar 1)) (gName 2))
  (tSeq (tAsg (tVar 1) (gName 0))
  (tAsg (tVar 2) (gName 1)))))
  (tRet (tCB rAbs (tCons (tVar 0) (tNil))))

section
variable {K : PySem.W.Frag} {Cof : String → Addr} {vs : List V} {H : Hp} {Q : VK} {E : XK}
theorem len__law_divisor (h : sp__law_divisor K Cof vs H Q E) : vs.length = 2 := by
  obtain ⟨x, y, rfl, _⟩ := h; rfl
theorem rd__law_divisor (h : sp__law_divisor K Cof vs H Q E) : t__law_divisor K Cof E { nx := fun _ H' => Q .non H', rt := Q } (start ["_law_one", "_law_other", "_law_rest"] vs) H := by
  obtain ⟨x, y, rfl, q⟩ := h
  unfold t__law_divisor
  walk_at "rd"
  refine r_while (fun m σ2 H2 => ∃ (f o : Int) (r : Option V), σ2 = [some (.int f), some (.int o), r] ∧ H2 = H ∧ m = o.natAbs ∧ Int.gcd f o = Int.gcd x y) y.natAbs ⟨_, _, _, rfl, rfl, rfl, rfl⟩ (fun m σ2 H2 hw => ?_)
  obtain ⟨f, o, r, rfl, rfl, rfl, hg⟩ := hw
  walk_at "rd"
  refine ite_nd (fun h => wh_in ?_) (fun h => ?_)
  · walk_at "rd"
    exact ⟨_, MG.fmod_lt h, o, f.fmod o, _, rfl, rfl, rfl, by rw [MG.gcd_fmod]; exact hg⟩
  · walk_at "rd"
    rw [h, Int.gcd_zero_right] at hg
    have e : (if f < 0 then -f else f) = (Int.gcd x y : Int) := by
      rw [← hg]
      split <;> omega
    rw [e]
    exact q
theorem c__law_divisor {x y : Int} (q : Q (.int (Int.gcd x y)) H) : sp__law_divisor K Cof [.int x, .int y] H Q E := ⟨x, y, rfl, q⟩
end
local macro_rules | `(tactic| walk_at "call") => `(tactic| with_reducible refine c__law_divisor ?_)

/-! #### _law_value -/
--USE MF
def sp__law_value (K : PySem.W.Frag) (Cof : String → Addr) : Sp := fun vs H Q _ => ∃ (a : Addr) (p q t b : Int) (n : Nat), vs = [.ref a, .int t, .int b] ∧ IsR (Cof "Ratio") H a p q ∧ 0 < q ∧ Int.gcd p q = 1 ∧ p * b = t * q ∧ (p.natAbs < 2 ^ n ∧ q.natAbs < 2 ^ n ∧ t.natAbs < 2 ^ n ∧ b.natAbs < 2 ^ n ∧ 0 < n ∧ n ≤ 400000) ∧ Q (.bl true) H
def t__law_value (K : PySem.W.Frag) (Cof : String → Addr) (E : XK) : TS :=
  tSeq (tIfS (tNot (tB (tCB (rIsi K) (tCons (tVar 0) (tCons (tC (.ref (Cof "Ratio"))) (tNil)))))) (tRet (tC (.bl false))) (tNext))
  (tSeq (tIfS (tOr (tNot (tB (tCall (sp__law_whole K Cof) [] E0 (tCons (tFld K (tVar 0) "top") (tNil))))) (tOr (tNot (tB (tCall (sp__law_whole K Cof) [] E0 (tCons (tFld K (tVar 0) "bottom") (tNil))))) (tTest (tOp rLt (tFld K (tVar 0) "bottom") (tC (.int 1)))))) (tRet (tC (.bl false))) (tNext))
  (tSeq (tIfS (tTest (tOp rNe (tOp rMul (tFld K (tVar 0) "top") (tVar 2)) (tOp rMul (tVar 1) (tFld K (tVar 0) "bottom")))) (tRet (tC (.bl false))) (tNext))
  (tRet (tOp rEq (tCall (sp__law_divisor K Cof) [] E0 (tCons (tFld K (tVar 0) "top") (tCons (tFld K (tVar 0) "bottom") (tNil)))) (tC (.int 1))))))

section
variable {K : PySem.W.Frag} {Cof : String → Addr} {vs : List V} {H : Hp} {Q : VK} {E : XK}
theorem len__law_value (h : sp__law_value K Cof vs H Q E) : vs.length = 3 := by
  obtain ⟨a, p, q, t, b, n, rfl, _⟩ := h; rfl
theorem rd__law_value (X : ExT K Cof) (h : sp__law_value K Cof vs H Q E) : t__law_value K Cof E { nx := fun _ H' => Q .non H', rt := Q } (start ["_law_found", "_law_top", "_law_bottom"] vs) H := by
  obtain ⟨a, p, q, t, b, n, rfl, hA, q0, hg, hc, ⟨sp, sq, st, sb, n0, n9⟩, k⟩ := h
  have cl := X.cl_Ratio
  have nt := X.n_Ratio_top
  have nb := X.n_Ratio_bottom
  unfold t__law_value
  walk_at "rd"
  refine r_isR cl X.is_Ratio hA ?_
  walk_at "rd"
  refine ite_d (fun h => ?_) (fun _ => ?_)
  · exfalso; omega
  walk_at "rd"
  refine r_mul (wide_mul sp sb n0 n0 (by omega)) ?_
  walk_at "rd"
  refine r_mul (wide_mul st sq n0 n0 (by omega)) ?_
  walk_at "rd"
  refine ite_nd (fun h => absurd hc h) (fun _ => ?_)
  walk_at "rd"
  have e : decide ((Int.gcd p q : Int) = 1) = true := by
    rw [hg]; rfl
  rw [e]
  exact k
theorem c__law_value {a : Addr} {p q t b : Int} (n : Nat) (hA : IsR (Cof "Ratio") H a p q) (q0 : 0 < q) (hg : Int.gcd p q = 1) (hc : p * b = t * q) (hs : p.natAbs < 2 ^ n ∧ q.natAbs < 2 ^ n ∧ t.natAbs < 2 ^ n ∧ b.natAbs < 2 ^ n ∧ 0 < n ∧ n ≤ 400000) (k : Q (.bl true) H) : sp__law_value K Cof [.ref a, .int t, .int b] H Q E := ⟨a, p, q, t, b, n, rfl, hA, q0, hg, hc, hs, k⟩
/-- of a fraction as it is made -/
theorem c__law_valueM {a : Addr} {t b : Int} (n : Nat) (hA : IsR (Cof "Ratio") H a (rT t b) (rB t b)) (hb : b ≠ 0) (st : t.natAbs < 2 ^ n) (sb : b.natAbs < 2 ^ n) (n0 : 0 < n) (n9 : n ≤ 400000) (k : Q (.bl true) H) : sp__law_value K Cof [.ref a, .int t, .int b] H Q E :=
  c__law_value n hA (rB_pos hb) (r_low hb) (r_cross hb) ⟨Nat.lt_of_le_of_lt (rT_abs hb) st, Nat.lt_of_le_of_lt (rB_abs hb) sb, st, sb, n0, n9⟩ k
end

/-! #### _law_at -/
--USE MK
def sp__law_at (K : PySem.W.Frag) (Cof : String → Addr) : Sp := fun vs H Q _ => ∃ (a r : Addr) (P : List Int) (p d t b : Int) (n m N : Nat), vs = [.ref a, .ref r, .int t, .int b] ∧ SqL K H a (P.map V.int) ∧ IsR (Cof "Ratio") H r p d ∧ HSz n m P p d ∧ 0 < d ∧ 0 < b ∧ m * P.length + 1 ≤ 9000 ∧ MH.topL P p d * b = t * d ^ (P.length - 1) ∧ (n + (m + 1) * P.length + 1 ≤ N ∧ m * P.length + 1 ≤ N ∧ N ≤ 400000 ∧ t.natAbs < 2 ^ N ∧ b.natAbs < 2 ^ N) ∧ ∀ H', Ex H H' → Q (.bl true) H'
def t__law_at (K : PySem.W.Frag) (Cof : String → Addr) (E : XK) : TS :=
  tSeq (tAsg (tCB (rListS K) (tCons (tVar 0) (tNil))) (gName 4))
  (tSeq (tIfS (tNot (tB (tCall (sp__law_value K Cof) [] E0 (tCons (tCall (sp_value_at K Cof) [] E0 (tCons (tVar 4) (tCons (tVar 1) (tNil)))) (tCons (tVar 2) (tCons (tVar 3) (tNil))))))) (tRet (tC (.bl false))) (tNext))
  (tSeq (tAsg (tCall (sp_sign_at K Cof) [] E0 (tCons (tVar 4) (tCons (tVar 1) (tNil)))) (gName 5))
  (tRet (tAndV (tCall (sp__law_whole K Cof) [] E0 (tCons (tVar 5) (tNil))) (tAndV (tOp rEq (tVar 5) (tOp rISub (tCB rInt1 (tCons (tOp rGt (tVar 2) (tC (.int 0))) (tNil))) (tCB rInt1 (tCons (tOp rLt (tVar 2) (tC (.int 0))) (tNil))))) (tOp (rEqD K) (tVar 4) (tVar 0)))))))

section
variable {K : PySem.W.Frag} {Cof : String → Addr} {vs : List V} {H : Hp} {Q : VK} {E : XK}
theorem len__law_at (h : sp__law_at K Cof vs H Q E) : vs.length = 4 := by
  obtain ⟨a, r, P, p, d, t, b, n, m, N, rfl, _⟩ := h; rfl
theorem ord_of {x y c e : Int} (hc : 0 < c) (he : 0 < e) (h : x * c = y * e) : ordI x 0 = ordI y 0 := by
  have h1 := ordI_scale hc x 0
  have h2 := ordI_scale he y 0
  rw [Int.zero_mul] at h1 h2
  rw [← h1, ← h2, h]
theorem rd__law_at (h : sp__law_at K Cof vs H Q E) : t__law_at K Cof E { nx := fun _ H' => Q .non H', rt := Q } (start ["_law_kp", "_law_r", "_law_top", "_law_bottom", "_law_handed", "_law_found"] vs) H := by
  obtain ⟨a, r, P, p, d, t, b, n, m, N, rfl, hA, hR, s, hd, hb, h9, hv, ⟨N1, N2, N3, N4, N5⟩, q⟩ := h
  have hY := pow_ne (b := d) (by omega) (P.length - 1)
  have hYp := MH.pow_pos hd (P.length - 1)
  obtain ⟨z1, _⟩ := s.steps 0
  rw [List.drop_zero] at z1
  have z2 : (MH.topL P p d).natAbs < 2 ^ N := Nat.lt_of_lt_of_le z1 (Nat.pow_le_pow_right (by decide) N1)
  have z3 : (d ^ (P.length - 1)).natAbs < 2 ^ N := by
    have hk2 : m * (P.length - 1) ≤ m * P.length := Nat.mul_le_mul_left m (by omega)
    exact Nat.lt_of_lt_of_le (pow_abs s.sb (P.length - 1)) (Nat.pow_le_pow_right (by decide) (by omega))
  have hlP : P.length < 1000000 := by
    have := s.le
    have e1 : (m + 1) * (P.length + 1) = m * P.length + P.length + m + 1 := by rw [Nat.mul_add, Nat.add_mul]; omega
    omega
  unfold t__law_at
  walk_at "rd"
  refine r_list hA fun p1 H1 hp1 e1 h1 => ?_
  have hR1 := IsR.ex e1 hR
  walk_at "rd"
  refine c_value_at n m (SqL.inj h1) hR1 s (by omega) h9 fun p2 H2 hp2 e2 h2 => ?_
  have hR2 := IsR.ex e2 hR1
  walk_at "rd"
  refine c__law_value N h2 (rB_pos hY) (r_low hY) (cross_made hY hv) ⟨Nat.lt_of_le_of_lt (rT_abs hY) z2, Nat.lt_of_le_of_lt (rB_abs hY) z3, N4, N5, by omega, N3⟩ ?_
  walk_at "rd"
  refine c_sign_at n m (SqL.inj (e2 _ _ h1)) hR2 s ?_
  walk_at "rd"
  have e : ordI (MH.topL P p d) 0 = (if decide (0 < t) then (1 : Int) else 0) - (if decide (t < 0) then 1 else 0) := by
    rw [ord_of hb hYp hv]
    rcases Int.lt_trichotomy t 0 with h | h | h
    · rw [ordI_lt h, if_neg (by simp; omega), if_pos (by simp; omega)]; rfl
    · subst h; rw [ordI_self]; rfl
    · rw [ordI_gt h, if_pos (by simp; omega), if_neg (by simp; omega)]; rfl
  refine iteD e ?_
  walk_at "rd"
  refine r_eqInts (ns := P) (ms := P) (SqL.inj (e2 _ _ h1)) ((e1.trans e2).l hA) ?_
  rw [decide_eq_true rfl]
  exact q _ (e1.trans e2)
theorem c__law_at {a r : Addr} {P : List Int} {p d t b : Int} (n m N : Nat) (hA : SqL K H a (P.map V.int)) (hR : IsR (Cof "Ratio") H r p d) (s : HSz n m P p d) (hd : 0 < d) (hb : 0 < b) (h9 : m * P.length + 1 ≤ 9000) (hv : MH.topL P p d * b = t * d ^ (P.length - 1)) (hN : n + (m + 1) * P.length + 1 ≤ N ∧ m * P.length + 1 ≤ N ∧ N ≤ 400000 ∧ t.natAbs < 2 ^ N ∧ b.natAbs < 2 ^ N) (q : ∀ H', Ex H H' → Q (.bl true) H') : sp__law_at K Cof [.ref a, .ref r, .int t, .int b] H Q E := ⟨a, r, P, p, d, t, b, n, m, N, rfl, hA, hR, s, hd, hb, h9, hv, hN, q⟩
end

/-! #### law -/
--USE MK RT
def sp_law (K : PySem.W.Frag) (Cof : String → Addr) : Sp := fun vs H Q _ => ∃ (a : Addr) (ns : List Int), vs = [.ref a] ∧ SqL K H a (ns.map V.int) ∧ ns.length ≤ 63 ∧ ∀ H', Q (.bl true) H'
def t_law (K : PySem.W.Frag) (Cof : String → Addr) (E : XK) : TS :=
  tSeq (tAsg (tOp (rIxL K) (tLst (tCons (tC (.int 9)) (tCons (tOp rPow (tC (.int 10)) (tC (.int 12))) (tNil)))) (tOp rMod (tCall (sp__law_cell K Cof) [] E0 (tCons (tVar 0) (tCons (tC (.int 3)) (tNil)))) (tC (.int 2)))) (gName 1))
  (tSeq (tAsg (tCall (sp__law_signed K Cof) [] E0 (tCons (tCall (sp__law_cell K Cof) [] E0 (tCons (tVar 0) (tCons (tC (.int 0)) (tNil)))) (tCons (tC (.int 20)) (tNil)))) (gName 2))
  (tSeq (tAsg (tCall (sp__law_signed K Cof) [] E0 (tCons (tCall (sp__law_cell K Cof) [] E0 (tCons (tVar 0) (tCons (tC (.int 1)) (tNil)))) (tCons (tOp rPow (tC (.int 10)) (tC (.int 20))) (tNil)))) (gName 3))
  (tSeq (tAsg (tOp rIAdd (tC (.int 1)) (tOp rMod (tCall (sp__law_cell K Cof) [] E0 (tCons (tVar 0) (tCons (tC (.int 2)) (tNil)))) (tOp rPow (tC (.int 10)) (tC (.int 20))))) (gName 4))
  (tCut (tIfS (tTest (tOp rEq (tOp rMod (tOp rDiv (tCall (sp__law_cell K Cof) [] E0 (tCons (tVar 0) (tCons (tC (.int 3)) (tNil)))) (tC (.int 2))) (tC (.int 2))) (tC (.int 1)))) (tSeq (tAsg (tOp rISub (tOp rMod (tVar 3) (tC (.int 40))) (tC (.int 20))) (gName 3))
  (tAsg (tOp rIAdd (tC (.int 1)) (tOp rMod (tVar 4) (tC (.int 12)))) (gName 4))) (tNext))
  (tSeq (tAsg (tLst (tCons (tVar 2) (tNil))) (gName 5))
  (tCut (tIfS (tTest (tOp rEq (tVar 2) (tC (.int 0)))) (tAsg (tLst (tNil)) (gName 5)) (tNext))
  (tSeq (tAsg (tVar 2) (gName 6))
  (tSeq (tAsg (tC (.int 1)) (gName 7))
  (tSeq (tAsg (tLst (tNil)) (gName 8))
  (tSeq (tFor (iRng3 (tCons (tC (.int 4)) (tCons (tOp rISub (tCB rMin2 (tCons (tCB (rLenS K) (tCons (tVar 0) (tNil))) (tCons (tC (.int 28)) (tNil)))) (tC (.int 1))) (tCons (tC (.int 2)) (tNil))))) (gName 9) (tDrop (tBM K "list" rAppend (tVar 8) (tCons (tTup (tCons (tCall (sp__law_signed K Cof) [] E0 (tCons (tOp (rIxL K) (tVar 0) (tVar 9)) (tCons (tVar 1) (tNil)))) (tCons (tOp rIAdd (tC (.int 1)) (tOp rMod (tOp (rIxL K) (tVar 0) (tOp rIAdd (tVar 9) (tC (.int 1)))) (tVar 1))) (tNil)))) (tNil)))))
  (tCut (tIfS (tAnd (tTest (tOp rEq (tVar 1) (tC (.int 9)))) (tTest (tOp rEq (tOp rMod (tOp rDiv (tCall (sp__law_cell K Cof) [] E0 (tCons (tVar 0) (tCons (tC (.int 3)) (tNil)))) (tC (.int 4))) (tC (.int 4))) (tC (.int 1))))) (tAsg (tSl (rSlL K) (tOp rRep (tVar 8) (tC (.int 40))) (tNoPart) (tPart (tC (.int 40)))) (gName 8)) (tNext))
  (tSeq (tFor (iList K (tVar 8)) (gTup K 2 (gCons (gName 10) (gCons (gName 11) (gNil)))) (tSeq (tAsg (tCall (sp_multiplied K Cof) [] E0 (tCons (tVar 5) (tCons (tLst (tCons (tUn rNeg (tVar 10)) (tCons (tVar 11) (tNil)))) (tNil)))) (gName 5))
  (tSeq (tAsg (tOp rMul (tVar 6) (tOp rISub (tOp rMul (tVar 11) (tVar 3)) (tOp rMul (tVar 10) (tVar 4)))) (gName 6))
  (tAsg (tOp rMul (tVar 7) (tVar 4)) (gName 7)))))
  (tSeq (tAsg (tCB (rLenS K) (tCons (tVar 8) (tNil))) (gName 12))
  (tCut (tIfS (tTest (tOp rEq (tVar 2) (tC (.int 0)))) (tAsg (tUn rNeg (tC (.int 1))) (gName 12)) (tNext))
  (tSeq (tAsg (tCall (sp_degree K Cof) [] E0 (tCons (tVar 5) (tNil))) (gName 13))
  (tSeq (tIfS (tOr (tNot (tB (tCall (sp__law_whole K Cof) [] E0 (tCons (tVar 13) (tNil))))) (tOr (tTest (tOp rNe (tVar 13) (tVar 12))) (tTest (tOp rNe (tCB (rLenS K) (tCons (tVar 5) (tNil))) (tOp rIAdd (tVar 12) (tC (.int 1))))))) (tRet (tC (.bl false))) (tNext))
  (tSeq (tFor (iList K (tSl (rSlL K) (tVar 8) (tNoPart) (tPart (tC (.int 12))))) (gName 14) (tSeq (tIfS (tNot (tB (tCall (sp__law_at K Cof) [] E0 (tCons (tVar 5) (tCons (tMake (Cof "Ratio") (sp_Ratio___init__ K Cof) [] E0 (tCons (tOp (rIxT K) (tVar 14) (tC (.int 0))) (tCons (tOp (rIxT K) (tVar 14) (tC (.int 1))) (tNil)))) (tCons (tC (.int 0)) (tCons (tC (.int 1)) (tNil)))))))) (tRet (tC (.bl false))) (tNext))
  (tIfS (tNot (tB (tCall (sp__law_at K Cof) [] E0 (tCons (tLst (tCons (tUn rNeg (tOp (rIxT K) (tVar 14) (tC (.int 0)))) (tCons (tOp (rIxT K) (tVar 14) (tC (.int 1))) (tNil)))) (tCons (tMake (Cof "Ratio") (sp_Ratio___init__ K Cof) [] E0 (tCons (tOp rIAdd (tOp rMul (tOp (rIxT K) (tVar 14) (tC (.int 0))) (tVar 4)) (tVar 2)) (tCons (tOp rMul (tOp (rIxT K) (tVar 14) (tC (.int 1))) (tVar 4)) (tNil)))) (tCons (tVar 2) (tCons (tVar 4) (tNil)))))))) (tRet (tC (.bl false))) (tNext))))
  (tRet (tAndV (tCall (sp__law_at K Cof) [] E0 (tCons (tVar 5) (tCons (tMake (Cof "Ratio") (sp_Ratio___init__ K Cof) [] E0 (tCons (tVar 3) (tCons (tVar 4) (tNil)))) (tCons (tVar 6) (tCons (tVar 7) (tNil)))))) (tCall (sp__law_at K Cof) [] E0 (tCons (tLst (tNil)) (tCons (tMake (Cof "Ratio") (sp_Ratio___init__ K Cof) [] E0 (tCons (tVar 3) (tCons (tVar 4) (tNil)))) (tCons (tC (.int 0)) (tCons (tC (.int 1)) (tNil)))))))))))))))))))))))))

section
variable {K : PySem.W.Frag} {Cof : String → Addr} {vs : List V} {H : Hp} {Q : VK} {E : XK}
theorem len_law (h : sp_law K Cof vs H Q E) : vs.length = 1 := by
  obtain ⟨a, ns, rfl, _⟩ := h; rfl
theorem two_sizes {x y : Int} (i : Nat) (h0 : i < 2) (h1 : 0 < x ∧ x.natAbs < 2 ^ 40) (h2 : 0 < y ∧ y.natAbs < 2 ^ 40) : 0 < ([x, y] : List Int).getD i 0 ∧ (([x, y] : List Int).getD i 0).natAbs < 2 ^ 40 := by
  rcases i with _ | _ | i
  · exact h1
  · exact h2
  · omega
/-- a factor of the law: a of either sign, b above 0 -/
def Fac (q : Int × Int) : Prop := q.1.natAbs < 2 ^ 40 ∧ q.2.natAbs < 2 ^ 40 ∧ 0 < q.2
theorem fac_sz {q : Int × Int} {t u : Int} (h : Fac q) (ht : t.natAbs < 2 ^ 67) (hu : u.natAbs < 2 ^ 67) : (q.2 * t - q.1 * u).natAbs < 2 ^ 108 := by
  have h1 := wide_lt h.2.1 ht
  have h2 := wide_lt h.1 hu
  have e : (2 : Nat) ^ 108 = 2 * 2 ^ (40 + 67) := by decide
  rw [e]
  generalize (2 : Nat) ^ (40 + 67) = z at h1 h2
  omega
theorem prod_sz {t u : Int} (ht : t.natAbs < 2 ^ 67) (hu : u.natAbs < 2 ^ 67) {c : Int} (hc : c.natAbs < 2 ^ 5) {ab : List (Int × Int)} (h : ∀ q ∈ ab, Fac q) : ∀ i, i ≤ ab.length → (c * MH.prodF (ab.take i) t u).natAbs < 2 ^ (5 + 108 * i)
  | 0, _ => by
    show (c * 1).natAbs < 2 ^ (5 + 108 * 0)
    rw [Int.mul_one]; exact hc
  | i + 1, hi => by
    have hlt : i < ab.length := by omega
    have hq : ab[i]? = some ab[i] := List.getElem?_eq_getElem hlt
    rw [MH.prodF_take hq, ← Int.mul_assoc]
    exact Nat.lt_of_lt_of_le (wide_lt (prod_sz ht hu hc h i (by omega)) (fac_sz (h _ (List.getElem_mem hlt)) ht hu)) (Nat.pow_le_pow_right (by decide) (by omega))
theorem mulL_nil (R : List Int) : ML.mulL [] R = [] := (MR.cf_zero_nil (ML.trim_mulL _ _)).mpr fun k => by rw [ML.cf_mulL]; exact MD.cv_zero_left (fun i => ML.cf_nil i) k
theorem rd_law (X : ExT K Cof) (h : sp_law K Cof vs H Q E) : t_law K Cof E { nx := fun _ H' => Q .non H', rt := Q } (start ["_law_script", "_law_size", "_law_lead", "_law_t", "_law_u", "_law_kp", "_law_top", "_law_bottom", "_law_pairs", "_law_k", "_law_a", "_law_b", "_law_many", "_law_found", "_law_pair"] vs) H := by
  obtain ⟨a, ns, rfl, hS, hl, q⟩ := h
  unfold t_law
  walk_at "rd"
  refine r_lstK fun p1 H1 hp1 e1 h1 => ?_
  have f1 := Fx.of e1
  have hS1 := f1.l hS
  walk_at "rd"
  have i0 := Int.fmod_nonneg_of_pos (cellOf ns 3) (show (0 : Int) < 2 by decide)
  have i1 := Int.fmod_lt_of_pos (cellOf ns 3) (show (0 : Int) < 2 by decide)
  refine r_ixI (ns := [9, 10 ^ 12]) (SqL.inj h1) i0 i1 ?_
  have hz := two_sizes (x := 9) (y := 10 ^ 12) ((cellOf ns 3).fmod 2).toNat (by omega) ⟨by decide, by decide⟩ ⟨by decide, by decide⟩
  generalize ([9, 10 ^ 12] : List Int).getD ((cellOf ns 3).fmod 2).toNat 0 = size at hz ⊢
  obtain ⟨zp, z1⟩ := hz
  have z0 : 0 ≤ size := by omega
  have wok : size.natAbs < 2 ^ 4000 := Nat.lt_of_lt_of_le z1 (Nat.pow_le_pow_right (by decide) (by decide))
  clear h1 i0 i1
  walk_at "rd"
  refine c__law_signed (by decide) (by decide) ?_
  have bl := sgn_abs (c := cellOf ns 0) (s := 20) (n := 5) (by decide) (by decide)
  generalize sgn (cellOf ns 0) 20 = lead at bl ⊢
  walk_at "rd"
  refine c__law_signed (by decide) (by decide) ?_
  have bt := sgn_abs (c := cellOf ns 1) (s := (10 : Int) ^ (20 : Int).toNat) (n := 67) (by decide) (by decide)
  generalize sgn (cellOf ns 1) ((10 : Int) ^ (20 : Int).toNat) = t0 at bt ⊢
  walk_at "rd"
  have u0 := Int.fmod_nonneg_of_pos (cellOf ns 2) (show (0 : Int) < 10 ^ (20 : Int).toNat by decide)
  have u1 := Int.fmod_lt_of_pos (cellOf ns 2) (show (0 : Int) < 10 ^ (20 : Int).toNat by decide)
  have u2 : (10 : Int) ^ (20 : Int).toNat = 100000000000000000000 := by decide
  rw [u2] at u0 u1 ⊢
  obtain ⟨v0, ev, hv, bv⟩ : ∃ b : Int, 1 + (cellOf ns 2).fmod 100000000000000000000 = b ∧ 0 < b ∧ b.natAbs < 2 ^ 67 := ⟨_, rfl, by omega, by omega⟩
  rw [ev]
  clear u0 u1 ev
  refine ⟨fun σ' H' => ∃ (t u : Int), σ' = [some (.ref a), some (.int size), some (.int lead), some (.int t), some (.int u), none, none, none, none, none, none, none, none, none, none] ∧ Fx H H' ∧ t.natAbs < 2 ^ 67 ∧ 0 < u ∧ u.natAbs < 2 ^ 67, ?_, fun σ' H' hM => ?_⟩
  · walk_at "rd"
    refine ite_d (fun _ => ?_) (fun _ => ?_)
    · walk_at "rd"
      have a0 := Int.fmod_nonneg_of_pos t0 (show (0 : Int) < 40 by decide)
      have a1 := Int.fmod_lt_of_pos t0 (show (0 : Int) < 40 by decide)
      have b0 := Int.fmod_nonneg_of_pos v0 (show (0 : Int) < 12 by decide)
      have b1 := Int.fmod_lt_of_pos v0 (show (0 : Int) < 12 by decide)
      exact ⟨_, _, rfl, f1, by omega, by omega, by omega⟩
    · walk_at "rd"
      exact ⟨_, _, rfl, f1, bt, hv, bv⟩
  clear bt hv bv f1 hS1 e1 hp1
  obtain ⟨t, u, rfl, f1, bt, hu, bu⟩ := hM
  walk_at "rd"
  refine r_lstK fun p2 H2 hp2 e2 h2 => ?_
  walk_at "rd"
  refine ⟨fun σ' G => ∃ (pk : Addr) (P : List Int), σ' = [some (.ref a), some (.int size), some (.int lead), some (.int t), some (.int u), some (.ref pk), none, none, none, none, none, none, none, none, none] ∧ Fx H G ∧ G pk = some (.lst (P.map V.int)) ∧ P = (if lead = 0 then [] else [lead]), ?_, fun σ' G hM => ?_⟩
  · walk_at "rd"
    refine ite_d (fun h0 => ?_) (fun h0 => ?_)
    · walk_at "rd"
      refine r_lstK fun p3 H3 hp3 e3 h3 => ?_
      walk_at "rd"
      exact ⟨p3, [], rfl, (f1.ex e2).ex e3, h3, by rw [if_pos h0]⟩
    · walk_at "rd"
      exact ⟨p2, [lead], rfl, f1.ex e2, h2, by rw [if_neg h0]⟩
  clear f1 e2 h2 hp2
  obtain ⟨pk, P0, rfl, f1, hpk, eP0⟩ := hM
  walk_at "rd"
  refine r_lstK fun p4 H4 hp4 e4 h4 => ?_
  have g4 := Fx.of e4
  have hS4 := (f1.ex e4).l hS
  walk_at "rd"
  obtain ⟨j, ej, jl, j28⟩ : ∃ j : Int, (if (28 : Int) < (ns.length : Int) then (28 : Int) else (ns.length : Int)) - 1 = j ∧ j ≤ (ns.length : Int) - 1 ∧ -1 ≤ j ∧ j ≤ 27 := ⟨_, rfl, by split <;> omega, by split <;> omega, by split <;> omega⟩
  rw [ej]
  refine r_iRng3A (rg2 (a := 4) (b := j) (by decide) (by decide) (by omega) (by omega)) ?_
  refine loop_rangeC (fun i σ' H' => ∃ (ps : List Addr) (ab : List (Int × Int)) (u9 : Option V), σ' = [some (.ref a), some (.int size), some (.int lead), some (.int t), some (.int u), some (.ref pk), some (.int lead), some (.int 1), some (.ref p4), u9, none, none, none, none, none] ∧ Fx G H' ∧ H' p4 = some (.lst (ps.map V.ref)) ∧ Prs H' ps ab ∧ p4 ∉ ps ∧ ps.length = i ∧ ∀ q ∈ ab, Fac q) ⟨[], [], none, rfl, g4, h4, trivial, (fun h => by cases h), rfl, fun R h => by cases h⟩ (fun i σ' H' hk hp' => ?_) (fun σ' H' hp' => ?_)
  · obtain ⟨ps, ab, u9, rfl, g7, h7, hW, hn, hlen, hab⟩ := hp'
    have hS7 := Evl.Ex.l g7.to (f1.l hS)
    walk_at "rd"
    refine r_ixI hS7 (by omega) (by omega) ?_
    walk_at "rd"
    refine c__law_signed z0 wok ?_
    have bx := sgn_abs (c := ns.getD (4 + (i : Int) * 2).toNat 0) z0 z1
    generalize sgn (ns.getD (4 + (i : Int) * 2).toNat 0) size = x at bx ⊢
    walk_at "rd"
    refine r_ixI hS7 (by omega) (by omega) ?_
    walk_at "rd"
    have m0 := Int.fmod_nonneg_of_pos (ns.getD (4 + (i : Int) * 2 + 1).toNat 0) zp
    have m1 := Int.fmod_lt_of_pos (ns.getD (4 + (i : Int) * 2 + 1).toNat 0) zp
    obtain ⟨y, ey, hy, by_⟩ : ∃ b : Int, 1 + (ns.getD (4 + (i : Int) * 2 + 1).toNat 0).fmod size = b ∧ 0 < b ∧ b.natAbs < 2 ^ 40 := ⟨_, rfl, by omega, by omega⟩
    rw [ey]
    refine r_tupK fun p8 H8 hp8 e8 h8 => ?_
    have n8 : p8 ≠ p4 := fun z => by rw [z, h7] at hp8; cases hp8
    have h7' := e8 _ _ h7
    walk_at "rd"
    refine r_append h7' (by rw [List.length_map]; exact small_lt (by omega)) fun H9 b9 h9 => ?_
    refine ⟨ps ++ [p8], ab ++ [(x, y)], _, rfl, (g7.ex e8).mut b9 hp4, by rw [h9, List.map_append]; rfl, ?_, ?_, by simp; omega, ?_⟩
    · exact Prs.append ((hW.ex e8).exb b9 hn) ⟨b9 _ n8 _ h8, trivial⟩
    · intro h
      rcases List.mem_append.mp h with h | h
      · exact hn h
      · rw [List.mem_singleton] at h
        exact n8 h.symm
    · intro q hq
      rcases List.mem_append.mp hq with h | h
      · exact hab q h
      · rw [List.mem_singleton] at h
        rw [h]; exact ⟨bx, by_, hy⟩
  obtain ⟨ps, ab, u9, rfl, g7, h7, hW, hn, hlen, hab⟩ := hp'
  have hpk7 := g7.to _ _ hpk
  have hl40 : ps.length ≤ 12 := by omega
  have hS7 := Evl.Ex.l g7.to (f1.l hS)
  clear hpk g4 h4 hS4 e4 hp4 hlen
  walk_at "rd"
  refine ⟨fun σ' G' => ∃ (pr : Addr) (ps : List Addr) (ab : List (Int × Int)), σ' = [some (.ref a), some (.int size), some (.int lead), some (.int t), some (.int u), some (.ref pk), some (.int lead), some (.int 1), some (.ref pr), u9, none, none, none, none, none] ∧ G' pk = some (.lst (P0.map V.int)) ∧ G' pr = some (.lst (ps.map V.ref)) ∧ Prs G' ps ab ∧ ps.length ≤ 40 ∧ ∀ q ∈ ab, Fac q, ?_, fun σ' G' hM => ?_⟩
  · skip
    walk_at "rd"
    refine ite_d (fun h9 => ?_) (fun h9 => ?_)
    · walk_at "rd"
      refine ite_d (fun h4 => ?_) (fun h4 => ?_)
      · walk_at "rd"
        refine r_repR h7 (by decide) (by
          have : (40 : Int).toNat = 40 := rfl
          rw [this]; omega) fun p8 H8 hp8 e8 h8 => ?_
        walk_at "rd"
        refine r_slL (SqL.inj h8) fun p9 H9 hp9 e9 h9 => ?_
        rw [cutV_to (by decide), ← List.map_take] at h9
        walk_at "rd"
        refine ⟨p9, _, _, rfl, e9 _ _ (e8 _ _ hpk7), h9, ((hW.ex (e8.trans e9)).flat _).take _, ?_, fun q hq => hab q (flat_mem (List.mem_of_mem_take hq))⟩
        rw [List.length_take]
        exact Nat.min_le_left _ _
      · walk_at "rd"
        exact ⟨p4, ps, ab, rfl, hpk7, h7, hW, by omega, hab⟩
    · walk_at "rd"
      exact ⟨p4, ps, ab, rfl, hpk7, h7, hW, by omega, hab⟩
  clear hpk7 h7 hW hn hl40 hab g7 hS7 f1 ps ab p4
  obtain ⟨pr, ps, ab, rfl, hpk, h7, hW, hl40, hab⟩ := hM
  walk_at "rd"
  refine loop_list (xs := ps.map V.ref) (fun i σ' H' => ∃ (pk' : Addr) (P : List Int) (v9 v10 v11 : Option V), σ' = [some (.ref a), some (.int size), some (.int lead), some (.int t), some (.int u), some (.ref pk'), some (.int (lead * MH.prodF (ab.take i) t u)), some (.int (u ^ i)), some (.ref pr), v9, v10, v11, none, none, none] ∧ Ex G' H' ∧ H' pk' = some (.lst (P.map V.int)) ∧ (lead = 0 → P = []) ∧ (lead ≠ 0 → P.length = i + 1 ∧ ML.Trim P ∧ ∀ p d, MH.topL P p d = lead * MH.prodF (ab.take i) p d) ∧ ML.Sz (5 + 83 * i) P) ⟨pk, P0, u9, none, none, ?_, Evl.Ex.refl _, hpk, fun h => by rw [eP0, if_pos h], fun h => ?_, ?_⟩ (fun i σ' H' _ hp => ?_) (fun i x σ' H' hx hp => ?_) (fun σ' H' hp => ?_)
  · show _ = [some (V.ref a), _, _, _, _, _, some (V.int (lead * 1)), some (V.int (u ^ 0)), _, _, _, _, _, _, _]
    rw [Int.mul_one, Int.pow_zero]
  · rw [eP0, if_neg h]
    refine ⟨rfl, .inr h, fun p d => ?_⟩
    show (0 : Int) * p + lead * 1 = lead * 1
    rw [Int.zero_mul, Int.zero_add]
  · rw [eP0]
    split
    · exact ML.Sz.nil _
    · exact ML.Sz.cons bl (ML.Sz.nil _)
  · obtain ⟨pk', P, v9, v10, v11, rfl, eG, _⟩ := hp
    exact SqL.inj (eG _ _ h7)
  · obtain ⟨pk', P, v9, v10, v11, rfl, eG, hP, hz, hnz, sP⟩ := hp
    rw [List.getElem?_map] at hx
    obtain ⟨p, hp, rfl⟩ := Option.map_eq_some_iff.mp hx
    obtain ⟨qq, hq, hpq⟩ := hW.get hp
    obtain ⟨x, y⟩ := qq
    have hfac := hab _ (List.mem_of_getElem? hq)
    have hi : i < ps.length := (List.getElem?_eq_some_iff.mp hp).1
    have hlen := hW.len
    have lP : P.length ≤ 41 := by
      by_cases h : lead = 0
      · rw [hz h]; simp
      · rw [(hnz h).1]; omega
    have hb1 := prod_sz bt bu bl hab i (by omega)
    have hpf := MH.prodF_take (t := t) (u := u) hq
    refine r_gtup (eG _ _ hpq) rfl ?_
    refine r_gcons' (r_gn (r_gcons' (r_gn (r_gnil' ?_))))
    walk_at "rd"
    refine r_lstK fun p2 H2 hp2 e2 h2 => ?_
    walk_at "rd"
    refine c_multiplied (P := P) (R := [-x, y]) (5 + 83 * i) 40 (SqL.inj (e2 _ _ hP)) (SqL.inj h2) (by omega) (by simp) sP (fun z hz => by
      rcases List.mem_cons.mp hz with e | hz
      · rw [e, Int.natAbs_neg]; exact hfac.1
      · rw [List.mem_singleton] at hz
        rw [hz]; exact hfac.2.1) ⟨by omega, by decide, by omega⟩ fun p3 H3 hp3 e3 h3 => ?_
    walk_at "rd"
    refine r_mul (wide_mul hfac.2.1 bt (by decide) (by decide) (by decide)) ?_
    walk_at "rd"
    refine r_mul (wide_mul hfac.1 bu (by decide) (by decide) (by decide)) ?_
    walk_at "rd"
    refine r_mul (wide_mul hb1 (fac_sz hfac bt bu) (by omega) (by decide) (by omega)) ?_
    walk_at "rd"
    refine r_mul (wide_mul (pow_abs bu i) bu (by omega) (by decide) (by omega)) ?_
    walk_at "rd"
    refine ⟨p3, _, v9, some (.int x), some (.int y), ?_, eG.trans (e2.trans e3), h3, fun h => by rw [hz h, mulL_nil], fun h => ?_, ?_⟩
    · rw [hpf, ← Int.mul_assoc, Int.pow_succ]
      try rfl
    · obtain ⟨l1, l2, l3⟩ := hnz h
      have hne : P ≠ [] := fun e => by rw [e] at l1; simp at l1
      rw [MH.mul_lin l2 hne (by have := hfac.2.2; show y ≠ 0; exact Int.ne_of_gt this)]
      have t2 := ML.trim_mulL P [-x, y]
      rw [MH.mul_lin l2 hne (by have := hfac.2.2; show y ≠ 0; exact Int.ne_of_gt this)] at t2
      refine ⟨by rw [MH.linM_len, l1], t2, fun p d => ?_⟩
      rw [MH.topL_linM, l3, MH.prodF_take hq, Int.mul_assoc]
    · refine (sP.mulL (m := 40) (fun z hz => ?_)).mono (by omega)
      rcases List.mem_cons.mp hz with e | hz
      · rw [e, Int.natAbs_neg]; exact hfac.1
      · rw [List.mem_singleton] at hz
        rw [hz]; exact hfac.2.1
  obtain ⟨pk', P, v9, v10, v11, rfl, eG, hP, hz, hnz, sP⟩ := hp
  have hlen := hW.len
  rw [List.length_map, hlen] at hnz sP ⊢
  rw [List.take_length] at hnz ⊢
  have h7' := eG _ _ h7
  have hW' := hW.ex eG
  have hn40 : ab.length ≤ 40 := by omega
  have lP : P.length ≤ 41 := by
    by_cases h : lead = 0
    · rw [hz h]; simp
    · rw [(hnz h).1]; omega
  have sP' : ML.Sz 3400 P := sP.mono (by omega)
  have htop : ∀ p d, MH.topL P p d = lead * MH.prodF ab p d := fun p d => by
    by_cases h : lead = 0
    · rw [hz h, h, Int.zero_mul]; rfl
    · exact (hnz h).2.2 p d
  have hPl : (P.length : Int) = (if lead = 0 then -1 else (ab.length : Int)) + 1 := by
    by_cases h : lead = 0
    · rw [hz h, if_pos h]; rfl
    · rw [if_neg h, (hnz h).1]; omega
  have btop := prod_sz bt bu bl hab ab.length (Nat.le_refl _)
  rw [List.take_length] at btop
  clear h7 hW eG hpk
  walk_at "rd"
  try rw [List.length_map]
  refine ⟨fun σ' G => σ' = [some (.ref a), some (.int size), some (.int lead), some (.int t), some (.int u), some (.ref pk'), some (.int (lead * MH.prodF ab t u)), some (.int (u ^ ab.length)), some (.ref pr), v9, v10, v11, some (.int (if lead = 0 then -1 else (ab.length : Int))), none, none] ∧ H' = G, ?_, fun σ' G hM => ?_⟩
  · walk_at "rd"
    refine ite_d (fun h => ?_) (fun h => ?_)
    · walk_at "rd"
      rw [if_pos h]
      exact ⟨rfl, rfl⟩
    · walk_at "rd"
      rw [if_neg h, hlen]
      exact ⟨rfl, rfl⟩
  obtain ⟨rfl, rfl⟩ := hM
  generalize (if lead = 0 then (-1 : Int) else (ab.length : Int)) = many at hPl ⊢
  walk_at "rd"
  refine ite_nd (fun h => absurd (show (P.length : Int) - 1 = many by omega) h) (fun _ => ?_)
  walk_at "rd"
  refine ite_nd (fun h => absurd hPl h) (fun _ => ?_)
  walk_at "rd"
  refine r_slL (SqL.inj h7') fun p9 H9 hp9 e9 h9 => ?_
  rw [cutV_to (by decide), ← List.map_take] at h9
  walk_at "rd"
  refine loop_list (xs := (ps.take (12 : Int).toNat).map V.ref) (fun i σ' J => ∃ v14, σ' = [some (.ref a), some (.int size), some (.int lead), some (.int t), some (.int u), some (.ref pk'), some (.int (lead * MH.prodF ab t u)), some (.int (u ^ ab.length)), some (.ref pr), v9, v10, v11, some (.int many), some (.int ((P.length : Int) - 1)), v14] ∧ Ex H9 J) ⟨_, rfl, Evl.Ex.refl _⟩ (fun i σ' J _ hp => ?_) (fun i x σ' J hx hp => ?_) (fun σ' J hp => ?_)
  · obtain ⟨v14, rfl, eJ⟩ := hp
    exact SqL.inj (eJ _ _ h9)
  · obtain ⟨v14, rfl, eJ⟩ := hp
    rw [List.getElem?_map] at hx
    obtain ⟨p, hp, rfl⟩ := Option.map_eq_some_iff.mp hx
    obtain ⟨qq, hq, hpq⟩ := (hW'.take _).get hp
    obtain ⟨x, y⟩ := qq
    have hm := List.mem_of_mem_take (List.mem_of_getElem? hq)
    have hfac := hab _ hm
    have hy : y ≠ 0 := Int.ne_of_gt hfac.2.2
    have hyp : 0 < y := hfac.2.2
    have hpJ := eJ _ _ (e9 _ _ hpq)
    have hPJ := eJ _ _ (e9 _ _ hP)
    walk_at "rd"
    refine r_ixT (xs := [.int x, .int y]) (.inl (.inl hpJ)) (atI_nat (j := 0) rfl) ?_
    walk_at "rd"
    refine r_ixT (xs := [.int x, .int y]) (.inl (.inl hpJ)) (atI_nat (j := 1) rfl) ?_
    walk_at "rd"
    refine c_Ratio 40 hy hfac.2.1 (by decide) (by decide) fun p2 H2 hp2 e2 h2 => ?_
    walk_at "rd"
    have xc := r_cross (t := x) hy
    refine c__law_at 3400 40 6000 (SqL.inj (e2 _ _ hPJ)) h2 ⟨sP', Nat.lt_of_le_of_lt (rT_abs hy) hfac.1, Nat.lt_of_le_of_lt (rB_abs hy) hfac.2.1, by decide, by decide, by omega⟩ (rB_pos hy) (by decide) (by omega) ?_ ⟨by omega, by omega, by decide, Nat.two_pow_pos _, Nat.lt_of_lt_of_le (show (1 : Int).natAbs < 2 ^ 1 by decide) (Nat.pow_le_pow_right (by decide) (by decide))⟩ fun H3 e3 => ?_
    · rw [htop, MH.prodF_zero hm (by show y * rT x y - x * rB x y = 0; rw [Int.mul_comm y]; omega), Int.mul_zero, Int.zero_mul, Int.zero_mul]
    have hp3 := e3 _ _ (e2 _ _ hpJ)
    walk_at "rd"
    refine r_ixT (xs := [.int x, .int y]) (.inl (.inl hp3)) (atI_nat (j := 0) rfl) ?_
    walk_at "rd"
    refine r_ixT (xs := [.int x, .int y]) (.inl (.inl hp3)) (atI_nat (j := 1) rfl) ?_
    walk_at "rd"
    refine r_lstK fun p4 H4 hp4 e4 h4 => ?_
    have hp4' := e4 _ _ hp3
    walk_at "rd"
    refine r_ixT (xs := [.int x, .int y]) (.inl (.inl hp4')) (atI_nat (j := 0) rfl) ?_
    walk_at "rd"
    refine r_mul (wide_mul hfac.1 bu (by decide) (by decide) (by decide)) ?_
    walk_at "rd"
    refine r_ixT (xs := [.int x, .int y]) (.inl (.inl hp4')) (atI_nat (j := 1) rfl) ?_
    walk_at "rd"
    refine r_mul (wide_mul hfac.2.1 bu (by decide) (by decide) (by decide)) ?_
    walk_at "rd"
    have hyu : y * u ≠ 0 := Int.mul_ne_zero hy (by omega)
    have byu := wide_lt hfac.2.1 bu
    have bxu : (x * u + lead).natAbs < 2 ^ 108 := by
      have h1 : (x * u).natAbs < 2 ^ (40 + 67) := wide_lt hfac.1 bu
      have e : (2 : Nat) ^ 108 = 2 * 2 ^ (40 + 67) := by decide
      have e5 : (2 : Nat) ^ 5 ≤ 2 ^ (40 + 67) := by decide
      rw [e]
      generalize (2 : Nat) ^ (40 + 67) = z at h1 e5
      generalize (2 : Nat) ^ 5 = z5 at bl e5
      omega
    have byu' : (y * u).natAbs < 2 ^ 108 := Nat.lt_of_lt_of_le byu (Nat.pow_le_pow_right (by decide) (by decide))
    refine c_Ratio 108 hyu byu' (by decide) (by decide) fun p5 H5 hp5 e5 h5 => ?_
    walk_at "rd"
    have xc2 := r_cross (t := x * u + lead) hyu
    refine c__law_at (P := [-x, y]) 40 108 400 (SqL.inj (e5 _ _ h4)) h5 ⟨fun z hz => by
      rcases List.mem_cons.mp hz with e | hz
      · rw [e, Int.natAbs_neg]; exact hfac.1
      · rw [List.mem_singleton] at hz
        rw [hz]; exact hfac.2.1, Nat.lt_of_le_of_lt (rT_abs hyu) bxu, Nat.lt_of_le_of_lt (rB_abs hyu) byu', by decide, by decide, by simp⟩ (rB_pos hyu) hu (by simp) ?_ ⟨by simp, by simp, by decide, Nat.lt_of_lt_of_le bl (Nat.pow_le_pow_right (by decide) (by decide)), Nat.lt_of_lt_of_le bu (Nat.pow_le_pow_right (by decide) (by decide))⟩ fun H6 e6 => ?_
    · show ((0 * rT (x * u + lead) (y * u) + y * 1) * rT (x * u + lead) (y * u) + -x * (1 * rB (x * u + lead) (y * u))) * u = lead * rB (x * u + lead) (y * u) ^ 1
      generalize rT (x * u + lead) (y * u) = p' at *
      generalize rB (x * u + lead) (y * u) = d' at *
      rw [Int.pow_succ, Int.pow_zero]
      grind
    walk_at "rd"
    exact ⟨_, rfl, eJ.trans (e2.trans (e3.trans (e4.trans (e5.trans e6))))⟩
  obtain ⟨v14, rfl, eJ⟩ := hp
  have hPJ := eJ _ _ (e9 _ _ hP)
  have u0 : u ≠ 0 := by omega
  walk_at "rd"
  refine c_Ratio 67 u0 bu (by decide) (by decide) fun p2 H2 hp2 e2 h2 => ?_
  walk_at "rd"
  refine c__law_at 3400 67 7000 (SqL.inj (e2 _ _ hPJ)) h2 ⟨sP', Nat.lt_of_le_of_lt (rT_abs u0) bt, Nat.lt_of_le_of_lt (rB_abs u0) bu, by decide, by decide, by omega⟩ (rB_pos u0) (MH.pow_pos hu _) (by omega) ?_ ⟨by omega, by omega, by decide, Nat.lt_of_lt_of_le btop (Nat.pow_le_pow_right (by decide) (by omega)), Nat.lt_of_lt_of_le (pow_abs bu ab.length) (Nat.pow_le_pow_right (by decide) (by omega))⟩ fun H3 e3 => ?_
  · by_cases h0 : lead = 0
    · simp only [htop, h0, Int.zero_mul]
    · have l1 := (hnz h0).1
      have g0 := rG_ne (t := t) u0
      have e1 := rT_mul (t := t) u0
      have e2 := rB_mul (t := t) u0
      have hs := (MH.hs_scale (rT t u) (rB t u) (rG t u) P).1
      rw [e1, e2, l1, Int.pow_succ, ← Int.mul_assoc] at hs
      have hs2 := Int.eq_of_mul_eq_mul_right g0 hs
      have hs3 : MH.topL P t u = MH.topL P (rT t u) (rB t u) * rG t u ^ ab.length := hs2
      rw [← htop, hs3, l1, Nat.add_sub_cancel, Int.mul_assoc, Int.mul_comm (rG t u ^ ab.length), ← Int.mul_pow, e2]
  walk_at "rd"
  refine r_lstK fun p4 H4 hp4 e4 h4 => ?_
  walk_at "rd"
  refine c_Ratio 67 u0 bu (by decide) (by decide) fun p5 H5 hp5 e5 h5 => ?_
  walk_at "rd"
  exact c__law_at (P := []) 1 67 400 (SqL.inj (e5 _ _ h4)) h5 ⟨ML.Sz.nil _, Nat.lt_of_le_of_lt (rT_abs u0) bt, Nat.lt_of_le_of_lt (rB_abs u0) bu, by decide, by decide, by simp⟩ (rB_pos u0) (by decide) (by simp) (by show (0 : Int) * 1 = 0 * _; rw [Int.zero_mul, Int.zero_mul]) ⟨by simp, by simp, by decide, Nat.two_pow_pos _, Nat.lt_of_lt_of_le (show (1 : Int).natAbs < 2 ^ 1 by decide) (Nat.pow_le_pow_right (by decide) (by decide))⟩ fun H6 e6 => q _
end

def topS (i : Nat) : Stmt := PySem.Challenge.pw_rootspan_k06_values_and_roots.main.body.getD i (.Pass ⟨0, 0, 0, 0⟩)
abbrev s_shared : Stmt := topS 6
theorem sc_shared : FnScope ["row", "found", "one", "rest"] ["row"] (defScope s_shared) := ⟨rfl, rfl, rfl, by decide +kernel, rfl, by decide +kernel, by decide +kernel⟩
abbrev s_told_order : Stmt := topS 7
theorem sc_told_order : FnScope ["left", "right"] ["left", "right"] (defScope s_told_order) := ⟨rfl, rfl, rfl, by decide +kernel, rfl, by decide +kernel, by decide +kernel⟩
abbrev s_Ratio___init__ : Stmt := inClass (topS 8) 0
theorem sc_Ratio___init__ : FnScope ["self", "top", "bottom", "part"] ["self", "top", "bottom"] (defScope s_Ratio___init__) := ⟨rfl, rfl, rfl, by decide +kernel, rfl, by decide +kernel, by decide +kernel⟩
abbrev s_poly : Stmt := topS 10
theorem sc_poly : FnScope ["row", "size"] ["row"] (defScope s_poly) := ⟨rfl, rfl, rfl, by decide +kernel, rfl, by decide +kernel, by decide +kernel⟩
abbrev s_degree : Stmt := topS 11
theorem sc_degree : FnScope ["P"] ["P"] (defScope s_degree) := ⟨rfl, rfl, rfl, by decide +kernel, rfl, by decide +kernel, by decide +kernel⟩
abbrev s_multiplied : Stmt := topS 12
theorem sc_multiplied : FnScope ["P", "Q", "row", "k", "i"] ["P", "Q"] (defScope s_multiplied) := ⟨rfl, rfl, rfl, by decide +kernel, rfl, by decide +kernel, by decide +kernel⟩
abbrev s_top_at : Stmt := topS 13
theorem sc_top_at : FnScope ["P", "r", "total", "scale", "one"] ["P", "r"] (defScope s_top_at) := ⟨rfl, rfl, rfl, by decide +kernel, rfl, by decide +kernel, by decide +kernel⟩
abbrev s_value_at : Stmt := topS 14
theorem sc_value_at : FnScope ["P", "r", "scale", "k"] ["P", "r"] (defScope s_value_at) := ⟨rfl, rfl, rfl, by decide +kernel, rfl, by decide +kernel, by decide +kernel⟩
abbrev s_sign_at : Stmt := topS 15
theorem sc_sign_at : FnScope ["P", "r"] ["P", "r"] (defScope s_sign_at) := ⟨rfl, rfl, rfl, by decide +kernel, rfl, by decide +kernel, by decide +kernel⟩
abbrev s__law_cell : Stmt := topS 17
theorem sc__law_cell : FnScope ["_law_script", "_law_k"] ["_law_script", "_law_k"] (defScope s__law_cell) := ⟨rfl, rfl, rfl, by decide +kernel, rfl, by decide +kernel, by decide +kernel⟩
abbrev s__law_whole : Stmt := topS 18
theorem sc__law_whole : FnScope ["_law_found"] ["_law_found"] (defScope s__law_whole) := ⟨rfl, rfl, rfl, by decide +kernel, rfl, by decide +kernel, by decide +kernel⟩
abbrev s__law_signed : Stmt := topS 19
theorem sc__law_signed : FnScope ["_law_cell_here", "_law_size"] ["_law_cell_here", "_law_size"] (defScope s__law_signed) := ⟨rfl, rfl, rfl, by decide +kernel, rfl, by decide +kernel, by decide +kernel⟩
abbrev s__law_divisor : Stmt := topS 20
theorem sc__law_divisor : FnScope ["_law_one", "_law_other", "_law_rest"] ["_law_one", "_law_other"] (defScope s__law_divisor) := ⟨rfl, rfl, rfl, by decide +kernel, rfl, by decide +kernel, by decide +kernel⟩
abbrev s__law_value : Stmt := topS 21
theorem sc__law_value : FnScope ["_law_found", "_law_top", "_law_bottom"] ["_law_found", "_law_top", "_law_bottom"] (defScope s__law_value) := ⟨rfl, rfl, rfl, by decide +kernel, rfl, by decide +kernel, by decide +kernel⟩
abbrev s__law_at : Stmt := topS 22
theorem sc__law_at : FnScope ["_law_kp", "_law_r", "_law_top", "_law_bottom", "_law_handed", "_law_found"] ["_law_kp", "_law_r", "_law_top", "_law_bottom"] (defScope s__law_at) := ⟨rfl, rfl, rfl, by decide +kernel, rfl, by decide +kernel, by decide +kernel⟩
abbrev s_law : Stmt := topS 23
theorem sc_law : FnScope ["_law_script", "_law_size", "_law_lead", "_law_t", "_law_u", "_law_kp", "_law_top", "_law_bottom", "_law_pairs", "_law_k", "_law_a", "_law_b", "_law_many", "_law_found", "_law_pair"] ["_law_script"] (defScope s_law) := ⟨rfl, rfl, rfl, by decide +kernel, rfl, by decide +kernel, by decide +kernel⟩
structure Txt (K : PySem.W.Frag) (mg : Str → Option Value) (Cof : String → Addr) (ad : Nat → Addr) (fd : Nat → FuncData) : Prop where
  z_abs : mg "abs" = none
  z_bool : mg "bool" = none
  z_int : mg "int" = none
  z_isinstance : mg "isinstance" = none
  z_len : mg "len" = none
  z_list : mg "list" = none
  z_min : mg "min" = none
  z_range : mg "range" = none
  z_reversed : mg "reversed" = none
  g_shared : mg "shared" = some (.ref (ad 0))
  F_shared : Fun K "shared" "shared" s_shared (ad 0) (fd 0)
  g_told_order : mg "told_order" = some (.ref (ad 1))
  F_told_order : Fun K "told_order" "told_order" s_told_order (ad 1) (fd 1)
  F_Ratio___init__ : FunD K "__init__" "Ratio.__init__" (defArgs s_Ratio___init__) (defBody s_Ratio___init__) (defScope s_Ratio___init__) [.int 1] [] (ad 2) (fd 2)
  mk_Ratio : Mk K (Cof "Ratio") (ad 2)
  g_poly : mg "poly" = some (.ref (ad 3))
  F_poly : Fun K "poly" "poly" s_poly (ad 3) (fd 3)
  g_degree : mg "degree" = some (.ref (ad 4))
  F_degree : Fun K "degree" "degree" s_degree (ad 4) (fd 4)
  g_multiplied : mg "multiplied" = some (.ref (ad 5))
  F_multiplied : Fun K "multiplied" "multiplied" s_multiplied (ad 5) (fd 5)
  g_top_at : mg "top_at" = some (.ref (ad 6))
  F_top_at : Fun K "top_at" "top_at" s_top_at (ad 6) (fd 6)
  g_value_at : mg "value_at" = some (.ref (ad 7))
  F_value_at : Fun K "value_at" "value_at" s_value_at (ad 7) (fd 7)
  g_sign_at : mg "sign_at" = some (.ref (ad 8))
  F_sign_at : Fun K "sign_at" "sign_at" s_sign_at (ad 8) (fd 8)
  g__law_cell : mg "_law_cell" = some (.ref (ad 9))
  F__law_cell : Fun K "_law_cell" "_law_cell" s__law_cell (ad 9) (fd 9)
  g__law_whole : mg "_law_whole" = some (.ref (ad 10))
  F__law_whole : Fun K "_law_whole" "_law_whole" s__law_whole (ad 10) (fd 10)
  g__law_signed : mg "_law_signed" = some (.ref (ad 11))
  F__law_signed : Fun K "_law_signed" "_law_signed" s__law_signed (ad 11) (fd 11)
  g__law_divisor : mg "_law_divisor" = some (.ref (ad 12))
  F__law_divisor : Fun K "_law_divisor" "_law_divisor" s__law_divisor (ad 12) (fd 12)
  g__law_value : mg "_law_value" = some (.ref (ad 13))
  F__law_value : Fun K "_law_value" "_law_value" s__law_value (ad 13) (fd 13)
  g__law_at : mg "_law_at" = some (.ref (ad 14))
  F__law_at : Fun K "_law_at" "_law_at" s__law_at (ad 14) (fd 14)
  g_law : mg "law" = some (.ref (ad 15))
  F_law : Fun K "law" "law" s_law (ad 15) (fd 15)
  q_Ratio : mg "Ratio" = some (.ref (Cof "Ratio"))
  cls_Ratio : Cls K (Cof "Ratio")
  ex : ExT K Cof
section
variable {P : Program} {w : World} {K : PySem.W.Frag} {mg : Str → Option Value} {base : Heap} {Cof : String → Addr} {ad : Nat → Addr} {fd : Nat → FuncData}
theorem B_shared (T : Txt K mg Cof ad fd) : Binds K (fd 0) ["row"] [] := T.F_shared.binds (ps := ["row"]) fun _ _ _ _ _ _ us hl => match us, hl with | [_], _ => rfl
theorem B_told_order (T : Txt K mg Cof ad fd) : Binds K (fd 1) ["left", "right"] [] := T.F_told_order.binds (ps := ["left", "right"]) fun _ _ _ _ _ _ us hl => match us, hl with | [_, _], _ => rfl
theorem B_Ratio___init__ (T : Txt K mg Cof ad fd) : Binds K (fd 2) ["self", "top", "bottom"] [] := binds_full (T.F_Ratio___init__.binds1 (ps := ["self", "top", "bottom"]) 3 1 (by simp) rfl fun _ _ _ _ _ _ _ us its h1 h2 => match us, its, h1, h2 with | [_, _, _], [_], _, _ => ⟨_, rfl, rfl⟩)
theorem D_Ratio___init__ (T : Txt K mg Cof ad fd) : ∃ ds, Vals [.int 1] ds ∧ Binds K (fd 2) ["self", "top", "bottom"] ds := T.F_Ratio___init__.binds1 (ps := ["self", "top", "bottom"]) 2 0 (by simp) rfl fun _ _ _ _ _ _ _ us its h1 h2 => match us, its, h1, h2 with | [_, _], [_], _, _ => ⟨_, rfl, rfl⟩
theorem B_poly (T : Txt K mg Cof ad fd) : Binds K (fd 3) ["row"] [] := T.F_poly.binds (ps := ["row"]) fun _ _ _ _ _ _ us hl => match us, hl with | [_], _ => rfl
theorem B_degree (T : Txt K mg Cof ad fd) : Binds K (fd 4) ["P"] [] := T.F_degree.binds (ps := ["P"]) fun _ _ _ _ _ _ us hl => match us, hl with | [_], _ => rfl
theorem B_multiplied (T : Txt K mg Cof ad fd) : Binds K (fd 5) ["P", "Q"] [] := T.F_multiplied.binds (ps := ["P", "Q"]) fun _ _ _ _ _ _ us hl => match us, hl with | [_, _], _ => rfl
theorem B_top_at (T : Txt K mg Cof ad fd) : Binds K (fd 6) ["P", "r"] [] := T.F_top_at.binds (ps := ["P", "r"]) fun _ _ _ _ _ _ us hl => match us, hl with | [_, _], _ => rfl
theorem B_value_at (T : Txt K mg Cof ad fd) : Binds K (fd 7) ["P", "r"] [] := T.F_value_at.binds (ps := ["P", "r"]) fun _ _ _ _ _ _ us hl => match us, hl with | [_, _], _ => rfl
theorem B_sign_at (T : Txt K mg Cof ad fd) : Binds K (fd 8) ["P", "r"] [] := T.F_sign_at.binds (ps := ["P", "r"]) fun _ _ _ _ _ _ us hl => match us, hl with | [_, _], _ => rfl
theorem B__law_cell (T : Txt K mg Cof ad fd) : Binds K (fd 9) ["_law_script", "_law_k"] [] := T.F__law_cell.binds (ps := ["_law_script", "_law_k"]) fun _ _ _ _ _ _ us hl => match us, hl with | [_, _], _ => rfl
theorem B__law_whole (T : Txt K mg Cof ad fd) : Binds K (fd 10) ["_law_found"] [] := T.F__law_whole.binds (ps := ["_law_found"]) fun _ _ _ _ _ _ us hl => match us, hl with | [_], _ => rfl
theorem B__law_signed (T : Txt K mg Cof ad fd) : Binds K (fd 11) ["_law_cell_here", "_law_size"] [] := T.F__law_signed.binds (ps := ["_law_cell_here", "_law_size"]) fun _ _ _ _ _ _ us hl => match us, hl with | [_, _], _ => rfl
theorem B__law_divisor (T : Txt K mg Cof ad fd) : Binds K (fd 12) ["_law_one", "_law_other"] [] := T.F__law_divisor.binds (ps := ["_law_one", "_law_other"]) fun _ _ _ _ _ _ us hl => match us, hl with | [_, _], _ => rfl
theorem B__law_value (T : Txt K mg Cof ad fd) : Binds K (fd 13) ["_law_found", "_law_top", "_law_bottom"] [] := T.F__law_value.binds (ps := ["_law_found", "_law_top", "_law_bottom"]) fun _ _ _ _ _ _ us hl => match us, hl with | [_, _, _], _ => rfl
theorem B__law_at (T : Txt K mg Cof ad fd) : Binds K (fd 14) ["_law_kp", "_law_r", "_law_top", "_law_bottom"] [] := T.F__law_at.binds (ps := ["_law_kp", "_law_r", "_law_top", "_law_bottom"]) fun _ _ _ _ _ _ us hl => match us, hl with | [_, _, _, _], _ => rfl
theorem B_law (T : Txt K mg Cof ad fd) : Binds K (fd 15) ["_law_script"] [] := T.F_law.binds (ps := ["_law_script"]) fun _ _ _ _ _ _ us hl => match us, hl with | [_], _ => rfl
theorem ok_shared (T : Txt K mg Cof ad fd) : FnOk P w K mg base CX0 1 (ad 0) (fd 0) ["row"] (sp_shared K Cof) := by
  have nd := sc_shared.nd
  refine T.F_shared.ok sc_shared (fun vs H Q E h => len_shared h) (fun cdv A outer s H vs Q E hr h => ⟨t_shared K Cof E, ?_, rd_shared h⟩)
  exact pss_cons (ps_set (i := 1) nd rfl (by first | exact Or.inl rfl | exact Or.inr rfl) (pe_int))
       (pss_cons (ps_for PassesOwn.never rfl (pi_list (pv 0)) (pg_name (i := 2) nd rfl (by first | exact Or.inl rfl | exact Or.inr rfl)) (pss_one (ps_while PassesOwn.never (pt_cmpR op_ne (pv 2) (pe_int) (nomark _)) (pss_cons (ps_set (i := 3) nd rfl (by first | exact Or.inl rfl | exact Or.inr rfl) (pe_op op_modN (pv 1) (pv 2)))
       (pss_cons (ps_set (i := 1) nd rfl (by first | exact Or.inl rfl | exact Or.inr rfl) (pv 2))
       (pss_one (ps_set (i := 2) nd rfl (by first | exact Or.inl rfl | exact Or.inr rfl) (pv 3))))))))
       (pss_one (ps_ret (pe_callB call_abs (by rfl) T.z_abs (by decide +kernel) (pa_cons (pv 1) (pa_nil))))))
theorem ok_told_order (T : Txt K mg Cof ad fd) : FnOk P w K mg base CX0 1 (ad 1) (fd 1) ["left", "right"] (sp_told_order K Cof) := by
  have nd := sc_told_order.nd
  refine T.F_told_order.ok sc_told_order (fun vs H Q E h => len_told_order h) (fun cdv A outer s H vs Q E hr h => ⟨t_told_order K Cof E, ?_, rd_told_order h⟩)
  exact pss_cons (ps_if (pt_cmpR op_lt (pv 0) (pv 1) (nomark _)) (pss_one (ps_ret (pe_un un_neg (pe_int)))) (pss_nil))
       (pss_one (ps_ret (pe_callTy call_int1 (by rfl) T.z_int (by decide +kernel) (pa_cons (pe_cmpR op_gt (pv 0) (pv 1) (nomark _)) (pa_nil)))))
theorem ok_Ratio___init__ (T : Txt K mg Cof ad fd) : FnOk P w K mg base CX0 2 (ad 2) (fd 2) ["self", "top", "bottom"] (sp_Ratio___init__ K Cof) := by
  have G_shared := ok_shared (P := P) (w := w) (base := base) T
  have B_shared := B_shared T
  have nd := sc_Ratio___init__.nd
  refine okN T.F_Ratio___init__ sc_Ratio___init__ (fun vs H Q E h => len_Ratio___init__ h) (fun cdv A outer s H vs Q E hr h => ⟨t_Ratio___init__ K Cof E, ?_, rd_Ratio___init__ T.ex h⟩)
  exact pss_cons (ps_if (pt_cmpR op_eq (pv 2) (pe_int) (nomark _)) (pss_one (ps_never)) (pss_nil))
       (pss_cons (ps_set (i := 3) nd rfl (by first | exact Or.inl rfl | exact Or.inr rfl) (pe_call G_shared (hr.mono (by decide)) (by rfl) T.g_shared T.F_shared.kp B_shared .nil pass0 (pa_cons (pe_lst (pa_cons (pv 1) (pa_cons (pv 2) (pa_nil)))) (pa_nil))))
       (pss_cut (ps_if (pt_cmpR op_lt (pv 2) (pe_int) (nomark _)) (pss_one (ps_set (i := 3) nd rfl (by first | exact Or.inl rfl | exact Or.inr rfl) (pe_un un_neg (pv 3)))) (pss_nil))
       (pss_cons (ps_fld (pv 0) (pe_op op_fdivA (pv 1) (pv 3)) rfl)
       (pss_one (ps_fld (pv 0) (pe_op op_fdivA (pv 2) (pv 3)) rfl)))))
theorem ok_poly (T : Txt K mg Cof ad fd) : FnOk P w K mg base CX0 1 (ad 3) (fd 3) ["row"] (sp_poly K Cof) := by
  have nd := sc_poly.nd
  refine T.F_poly.ok sc_poly (fun vs H Q E h => len_poly h) (fun cdv A outer s H vs Q E hr h => ⟨t_poly K Cof E, ?_, rd_poly h⟩)
  exact pss_cons (ps_set (i := 1) nd rfl (by first | exact Or.inl rfl | exact Or.inr rfl) (pe_callB call_len_seq (by rfl) T.z_len (by decide +kernel) (pa_cons (pv 0) (pa_nil))))
       (pss_cons (ps_while PassesOwn.never (PW.pt (pw_and (pt_cmpR op_gt (pv 1) (pe_int) (nomark _)) (pw_and1 (pt_cmpR op_eq (pe_ix ix_list (pv 0) (pe_op op_sub (pv 1) (pe_int)) (fun _ _ => rfl)) (pe_int) (nomark _))))) (pss_one (ps_set (i := 1) nd rfl (by first | exact Or.inl rfl | exact Or.inr rfl) (pe_op op_sub (pv 1) (pe_int)))))
       (pss_one (ps_ret (pe_slice sl_list (pv 0) (po_none) (po_some (pv 1))))))
theorem ok_degree (T : Txt K mg Cof ad fd) : FnOk P w K mg base CX0 1 (ad 4) (fd 4) ["P"] (sp_degree K Cof) := by
  have nd := sc_degree.nd
  refine T.F_degree.ok sc_degree (fun vs H Q E h => len_degree h) (fun cdv A outer s H vs Q E hr h => ⟨t_degree K Cof E, ?_, rd_degree h⟩)
  exact pss_one (ps_ret (pe_op op_sub (pe_callB call_len_seq (by rfl) T.z_len (by decide +kernel) (pa_cons (pv 0) (pa_nil))) (pe_int)))
theorem ok_multiplied (T : Txt K mg Cof ad fd) : FnOk P w K mg base CX0 2 (ad 5) (fd 5) ["P", "Q"] (sp_multiplied K Cof) := by
  have G_poly := ok_poly (P := P) (w := w) (base := base) T
  have B_poly := B_poly T
  have nd := sc_multiplied.nd
  refine T.F_multiplied.ok sc_multiplied (fun vs H Q E h => len_multiplied h) (fun cdv A outer s H vs Q E hr h => ⟨t_multiplied K Cof E, ?_, rd_multiplied h⟩)
  exact pss_cons (ps_set (i := 2) nd rfl (by first | exact Or.inl rfl | exact Or.inr rfl) (pe_op op_rep (pe_lst (pa_cons (pe_int) (pa_nil))) (pe_op op_add (pe_callB call_len_seq (by rfl) T.z_len (by decide +kernel) (pa_cons (pv 0) (pa_nil))) (pe_callB call_len_seq (by rfl) T.z_len (by decide +kernel) (pa_cons (pv 1) (pa_nil))))))
       (pss_cons (ps_for PassesOwn.never rfl (pi_range1 (by rfl) T.z_range (pa_cons (pe_callB call_len_seq (by rfl) T.z_len (by decide +kernel) (pa_cons (pv 0) (pa_nil))) (pa_nil))) (pg_name (i := 3) nd rfl (by first | exact Or.inl rfl | exact Or.inr rfl)) (pss_one (ps_for PassesOwn.never rfl (pi_range1 (by rfl) T.z_range (pa_cons (pe_callB call_len_seq (by rfl) T.z_len (by decide +kernel) (pa_cons (pv 1) (pa_nil))) (pa_nil))) (pg_name (i := 4) nd rfl (by first | exact Or.inl rfl | exact Or.inr rfl)) (pss_one (ps_asg (pe_op op_add (pe_ix ix_list (pv 2) (pe_op op_add (pv 3) (pv 4)) (fun _ _ => rfl)) (pe_op op_mulW (pe_ix ix_list (pv 0) (pv 3) (fun _ _ => rfl)) (pe_ix ix_list (pv 1) (pv 4) (fun _ _ => rfl)))) (pg_sub (pv 2) (pe_op op_add (pv 3) (pv 4)) set_list))))))
       (pss_one (ps_ret (pe_call G_poly (hr.mono (by decide)) (by rfl) T.g_poly T.F_poly.kp B_poly .nil pass0 (pa_cons (pv 2) (pa_nil))))))
theorem ok_top_at (T : Txt K mg Cof ad fd) : FnOk P w K mg base CX0 1 (ad 6) (fd 6) ["P", "r"] (sp_top_at K Cof) := by
  have nd := sc_top_at.nd
  refine T.F_top_at.ok sc_top_at (fun vs H Q E h => len_top_at h) (fun cdv A outer s H vs Q E hr h => ⟨t_top_at K Cof E, ?_, rd_top_at T.ex h⟩)
  exact pss_cons (ps_set (i := 2) nd rfl (by first | exact Or.inl rfl | exact Or.inr rfl) (pe_int))
       (pss_cons (ps_set (i := 3) nd rfl (by first | exact Or.inl rfl | exact Or.inr rfl) (pe_int))
       (pss_cons (ps_for PassesOwn.never rfl (pi_reversed (by rfl) T.z_reversed (pa_cons (pv 0) (pa_nil))) (pg_name (i := 4) nd rfl (by first | exact Or.inl rfl | exact Or.inr rfl)) (pss_cons (ps_set (i := 2) nd rfl (by first | exact Or.inl rfl | exact Or.inr rfl) (pe_op op_add (pe_op op_mulW (pv 2) (pe_fld (pv 1) rfl)) (pe_op op_mulW (pv 4) (pv 3))))
       (pss_one (ps_set (i := 3) nd rfl (by first | exact Or.inl rfl | exact Or.inr rfl) (pe_op op_mulW (pv 3) (pe_fld (pv 1) rfl))))))
       (pss_one (ps_ret (pv 2)))))
theorem ok_value_at (T : Txt K mg Cof ad fd) : FnOk P w K mg base CX0 4 (ad 7) (fd 7) ["P", "r"] (sp_value_at K Cof) := by
  have G_Ratio___init__ := ok_Ratio___init__ (P := P) (w := w) (base := base) T
  have B_Ratio___init__ := B_Ratio___init__ T
  have G_top_at := ok_top_at (P := P) (w := w) (base := base) T
  have B_top_at := B_top_at T
  have nd := sc_value_at.nd
  refine T.F_value_at.ok sc_value_at (fun vs H Q E h => len_value_at h) (fun cdv A outer s H vs Q E hr h => ⟨t_value_at K Cof E, ?_, rd_value_at T.ex h⟩)
  exact pss_cons (ps_set (i := 2) nd rfl (by first | exact Or.inl rfl | exact Or.inr rfl) (pe_int))
       (pss_cons (ps_for PassesOwn.never rfl (pi_range2 (by rfl) T.z_range (pa_cons (pe_int) (pa_cons (pe_callB call_len_seq (by rfl) T.z_len (by decide +kernel) (pa_cons (pv 0) (pa_nil))) (pa_nil)))) (pg_name (i := 3) nd rfl (by first | exact Or.inl rfl | exact Or.inr rfl)) (pss_one (ps_set (i := 2) nd rfl (by first | exact Or.inl rfl | exact Or.inr rfl) (pe_op op_mulW (pv 2) (pe_fld (pv 1) rfl)))))
       (pss_one (ps_ret (pe_make T.mk_Ratio G_Ratio___init__ (hr.mono (by decide)) (by rfl) T.q_Ratio B_Ratio___init__ .nil pass0 (pa_cons (pe_call G_top_at (hr.mono (by decide)) (by rfl) T.g_top_at T.F_top_at.kp B_top_at .nil pass0 (pa_cons (pv 0) (pa_cons (pv 1) (pa_nil)))) (pa_cons (pv 2) (pa_nil)))))))
theorem ok_sign_at (T : Txt K mg Cof ad fd) : FnOk P w K mg base CX0 2 (ad 8) (fd 8) ["P", "r"] (sp_sign_at K Cof) := by
  have G_told_order := ok_told_order (P := P) (w := w) (base := base) T
  have B_told_order := B_told_order T
  have G_top_at := ok_top_at (P := P) (w := w) (base := base) T
  have B_top_at := B_top_at T
  have nd := sc_sign_at.nd
  refine T.F_sign_at.ok sc_sign_at (fun vs H Q E h => len_sign_at h) (fun cdv A outer s H vs Q E hr h => ⟨t_sign_at K Cof E, ?_, rd_sign_at h⟩)
  exact pss_one (ps_ret (pe_call G_told_order (hr.mono (by decide)) (by rfl) T.g_told_order T.F_told_order.kp B_told_order .nil pass0 (pa_cons (pe_call G_top_at (hr.mono (by decide)) (by rfl) T.g_top_at T.F_top_at.kp B_top_at .nil pass0 (pa_cons (pv 0) (pa_cons (pv 1) (pa_nil)))) (pa_cons (pe_int) (pa_nil)))))
theorem ok__law_cell (T : Txt K mg Cof ad fd) : FnOk P w K mg base CX0 1 (ad 9) (fd 9) ["_law_script", "_law_k"] (sp__law_cell K Cof) := by
  have nd := sc__law_cell.nd
  refine T.F__law_cell.ok sc__law_cell (fun vs H Q E h => len__law_cell h) (fun cdv A outer s H vs Q E hr h => ⟨t__law_cell K Cof E, ?_, rd__law_cell h⟩)
  exact pss_cons (ps_if (pt_cmpR op_lt (pv 1) (pe_callB call_len_seq (by rfl) T.z_len (by decide +kernel) (pa_cons (pv 0) (pa_nil))) (nomark _)) (pss_one (ps_ret (pe_ix ix_list (pv 0) (pv 1) (fun _ _ => rfl)))) (pss_nil))
       (pss_one (ps_ret (pe_int)))
theorem ok__law_whole (T : Txt K mg Cof ad fd) : FnOk P w K mg base CX0 1 (ad 10) (fd 10) ["_law_found"] (sp__law_whole K Cof) := by
  have nd := sc__law_whole.nd
  refine T.F__law_whole.ok sc__law_whole (fun vs H Q E h => len__law_whole h) (fun cdv A outer s H vs Q E hr h => ⟨t__law_whole K Cof E, ?_, rd__law_whole h⟩)
  exact pss_one (ps_ret (pe_and (pe_callB call_isi (by rfl) T.z_isinstance (by decide +kernel) (pa_cons (pv 0) (pa_cons (pe_bltn (v := .ty "int") (by rfl) T.z_int (by decide +kernel) rfl) (pa_nil)))) (pe_one (pe_not (pe_callB call_isi (by rfl) T.z_isinstance (by decide +kernel) (pa_cons (pv 0) (pa_cons (pe_bltn (v := .ty "bool") (by rfl) T.z_bool (by decide +kernel) rfl) (pa_nil))))))))
theorem ok__law_signed (T : Txt K mg Cof ad fd) : FnOk P w K mg base CX0 1 (ad 11) (fd 11) ["_law_cell_here", "_law_size"] (sp__law_signed K Cof) := by
  have nd := sc__law_signed.nd
  refine T.F__law_signed.ok sc__law_signed (fun vs H Q E h => len__law_signed h) (fun cdv A outer s H vs Q E hr h => ⟨t__law_signed K Cof E, ?_, rd__law_signed h⟩)
  exact pss_one (ps_ret (pe_op op_sub (pe_op op_modN (pv 0) (pe_op op_add (pe_op op_mulW (pe_int) (pv 1)) (pe_int))) (pv 1)))
theorem ok__law_divisor (T : Txt K mg Cof ad fd) : FnOk P w K mg base CX0 1 (ad 12) (fd 12) ["_law_one", "_law_other"] (sp__law_divisor K Cof) := by
  have nd := sc__law_divisor.nd
  refine T.F__law_divisor.ok sc__law_divisor (fun vs H Q E h => len__law_divisor h) (fun cdv A outer s H vs Q E hr h => ⟨t__law_divisor K Cof E, ?_, rd__law_divisor h⟩)
  exact pss_cons (ps_while PassesOwn.never (pt_cmpR op_ne (pv 1) (pe_int) (nomark _)) (pss_cons (ps_set (i := 2) nd rfl (by first | exact Or.inl rfl | exact Or.inr rfl) (pe_op op_modN (pv 0) (pv 1)))
       (pss_cons (ps_set (i := 0) nd rfl (by first | exact Or.inl rfl | exact Or.inr rfl) (pv 1))
       (pss_one (ps_set (i := 1) nd rfl (by first | exact Or.inl rfl | exact Or.inr rfl) (pv 2))))))
       (pss_one (ps_ret (pe_callB call_abs (by rfl) T.z_abs (by decide +kernel) (pa_cons (pv 0) (pa_nil)))))
theorem ok__law_value (T : Txt K mg Cof ad fd) : FnOk P w K mg base CX0 2 (ad 13) (fd 13) ["_law_found", "_law_top", "_law_bottom"] (sp__law_value K Cof) := by
  have G__law_divisor := ok__law_divisor (P := P) (w := w) (base := base) T
  have B__law_divisor := B__law_divisor T
  have G__law_whole := ok__law_whole (P := P) (w := w) (base := base) T
  have B__law_whole := B__law_whole T
  have nd := sc__law_value.nd
  refine T.F__law_value.ok sc__law_value (fun vs H Q E h => len__law_value h) (fun cdv A outer s H vs Q E hr h => ⟨t__law_value K Cof E, ?_, rd__law_value T.ex h⟩)
  exact pss_cons (ps_if (pt_not (pt_val (pe_callB call_isi (by rfl) T.z_isinstance (by decide +kernel) (pa_cons (pv 0) (pa_cons (pe_glob (by rfl) T.q_Ratio rfl) (pa_nil)))))) (pss_one (ps_ret (pe_bl))) (pss_nil))
       (pss_cons (ps_if (PW.pt (pw_or (pt_not (pt_val (pe_call G__law_whole (hr.mono (by decide)) (by rfl) T.g__law_whole T.F__law_whole.kp B__law_whole .nil pass0 (pa_cons (pe_fld (pv 0) rfl) (pa_nil))))) (pw_or (pt_not (pt_val (pe_call G__law_whole (hr.mono (by decide)) (by rfl) T.g__law_whole T.F__law_whole.kp B__law_whole .nil pass0 (pa_cons (pe_fld (pv 0) rfl) (pa_nil))))) (pw_or1 (pt_cmpR op_lt (pe_fld (pv 0) rfl) (pe_int) (nomark _)))))) (pss_one (ps_ret (pe_bl))) (pss_nil))
       (pss_cons (ps_if (pt_cmpR op_ne (pe_op op_mulW (pe_fld (pv 0) rfl) (pv 2)) (pe_op op_mulW (pv 1) (pe_fld (pv 0) rfl)) (nomark _)) (pss_one (ps_ret (pe_bl))) (pss_nil))
       (pss_one (ps_ret (pe_cmpR op_eq (pe_call G__law_divisor (hr.mono (by decide)) (by rfl) T.g__law_divisor T.F__law_divisor.kp B__law_divisor .nil pass0 (pa_cons (pe_fld (pv 0) rfl) (pa_cons (pe_fld (pv 0) rfl) (pa_nil)))) (pe_int) (nomark _))))))
theorem ok__law_at (T : Txt K mg Cof ad fd) : FnOk P w K mg base CX0 5 (ad 14) (fd 14) ["_law_kp", "_law_r", "_law_top", "_law_bottom"] (sp__law_at K Cof) := by
  have G__law_value := ok__law_value (P := P) (w := w) (base := base) T
  have B__law_value := B__law_value T
  have G__law_whole := ok__law_whole (P := P) (w := w) (base := base) T
  have B__law_whole := B__law_whole T
  have G_sign_at := ok_sign_at (P := P) (w := w) (base := base) T
  have B_sign_at := B_sign_at T
  have G_value_at := ok_value_at (P := P) (w := w) (base := base) T
  have B_value_at := B_value_at T
  have nd := sc__law_at.nd
  refine T.F__law_at.ok sc__law_at (fun vs H Q E h => len__law_at h) (fun cdv A outer s H vs Q E hr h => ⟨t__law_at K Cof E, ?_, rd__law_at h⟩)
  exact pss_cons (ps_set (i := 4) nd rfl (by first | exact Or.inl rfl | exact Or.inr rfl) (pe_callTy call_list_of (by rfl) T.z_list (by decide +kernel) (pa_cons (pv 0) (pa_nil))))
       (pss_cons (ps_if (pt_not (pt_val (pe_call G__law_value (hr.mono (by decide)) (by rfl) T.g__law_value T.F__law_value.kp B__law_value .nil pass0 (pa_cons (pe_call G_value_at (hr.mono (by decide)) (by rfl) T.g_value_at T.F_value_at.kp B_value_at .nil pass0 (pa_cons (pv 4) (pa_cons (pv 1) (pa_nil)))) (pa_cons (pv 2) (pa_cons (pv 3) (pa_nil))))))) (pss_one (ps_ret (pe_bl))) (pss_nil))
       (pss_cons (ps_set (i := 5) nd rfl (by first | exact Or.inl rfl | exact Or.inr rfl) (pe_call G_sign_at (hr.mono (by decide)) (by rfl) T.g_sign_at T.F_sign_at.kp B_sign_at .nil pass0 (pa_cons (pv 4) (pa_cons (pv 1) (pa_nil)))))
       (pss_one (ps_ret (pe_and (pe_call G__law_whole (hr.mono (by decide)) (by rfl) T.g__law_whole T.F__law_whole.kp B__law_whole .nil pass0 (pa_cons (pv 5) (pa_nil))) (pe_and (pe_cmpR op_eq (pv 5) (pe_op op_sub (pe_callTy call_int1 (by rfl) T.z_int (by decide +kernel) (pa_cons (pe_cmpR op_gt (pv 2) (pe_int) (nomark _)) (pa_nil))) (pe_callTy call_int1 (by rfl) T.z_int (by decide +kernel) (pa_cons (pe_cmpR op_lt (pv 2) (pe_int) (nomark _)) (pa_nil)))) (nomark _)) (pe_one (pe_cmpR (op_eqD hr.units) (pv 4) (pv 0) (nomark _)))))))))
theorem ok_law (T : Txt K mg Cof ad fd) : FnOk P w K mg base CX0 6 (ad 15) (fd 15) ["_law_script"] (sp_law K Cof) := by
  have G_Ratio___init__ := ok_Ratio___init__ (P := P) (w := w) (base := base) T
  have B_Ratio___init__ := B_Ratio___init__ T
  have G__law_at := ok__law_at (P := P) (w := w) (base := base) T
  have B__law_at := B__law_at T
  have G__law_cell := ok__law_cell (P := P) (w := w) (base := base) T
  have B__law_cell := B__law_cell T
  have G__law_signed := ok__law_signed (P := P) (w := w) (base := base) T
  have B__law_signed := B__law_signed T
  have G__law_whole := ok__law_whole (P := P) (w := w) (base := base) T
  have B__law_whole := B__law_whole T
  have G_degree := ok_degree (P := P) (w := w) (base := base) T
  have B_degree := B_degree T
  have G_multiplied := ok_multiplied (P := P) (w := w) (base := base) T
  have B_multiplied := B_multiplied T
  have nd := sc_law.nd
  refine T.F_law.ok sc_law (fun vs H Q E h => len_law h) (fun cdv A outer s H vs Q E hr h => ⟨t_law K Cof E, ?_, rd_law T.ex h⟩)
  exact pss_cons (ps_set (i := 1) nd rfl (by first | exact Or.inl rfl | exact Or.inr rfl) (pe_ix ix_list (pe_lst (pa_cons (pe_int) (pa_cons (pe_op op_pow (pe_int) (pe_int)) (pa_nil)))) (pe_op op_modN (pe_call G__law_cell (hr.mono (by decide)) (by rfl) T.g__law_cell T.F__law_cell.kp B__law_cell .nil pass0 (pa_cons (pv 0) (pa_cons (pe_int) (pa_nil)))) (pe_int)) (fun _ _ => rfl)))
       (pss_cons (ps_set (i := 2) nd rfl (by first | exact Or.inl rfl | exact Or.inr rfl) (pe_call G__law_signed (hr.mono (by decide)) (by rfl) T.g__law_signed T.F__law_signed.kp B__law_signed .nil pass0 (pa_cons (pe_call G__law_cell (hr.mono (by decide)) (by rfl) T.g__law_cell T.F__law_cell.kp B__law_cell .nil pass0 (pa_cons (pv 0) (pa_cons (pe_int) (pa_nil)))) (pa_cons (pe_int) (pa_nil)))))
       (pss_cons (ps_set (i := 3) nd rfl (by first | exact Or.inl rfl | exact Or.inr rfl) (pe_call G__law_signed (hr.mono (by decide)) (by rfl) T.g__law_signed T.F__law_signed.kp B__law_signed .nil pass0 (pa_cons (pe_call G__law_cell (hr.mono (by decide)) (by rfl) T.g__law_cell T.F__law_cell.kp B__law_cell .nil pass0 (pa_cons (pv 0) (pa_cons (pe_int) (pa_nil)))) (pa_cons (pe_op op_pow (pe_int) (pe_int)) (pa_nil)))))
       (pss_cons (ps_set (i := 4) nd rfl (by first | exact Or.inl rfl | exact Or.inr rfl) (pe_op op_add (pe_int) (pe_op op_modN (pe_call G__law_cell (hr.mono (by decide)) (by rfl) T.g__law_cell T.F__law_cell.kp B__law_cell .nil pass0 (pa_cons (pv 0) (pa_cons (pe_int) (pa_nil)))) (pe_op op_pow (pe_int) (pe_int)))))
       (pss_cut (ps_if (pt_cmpR op_eq (pe_op op_modN (pe_op op_fdivA (pe_call G__law_cell (hr.mono (by decide)) (by rfl) T.g__law_cell T.F__law_cell.kp B__law_cell .nil pass0 (pa_cons (pv 0) (pa_cons (pe_int) (pa_nil)))) (pe_int)) (pe_int)) (pe_int) (nomark _)) (pss_cons (ps_set (i := 3) nd rfl (by first | exact Or.inl rfl | exact Or.inr rfl) (pe_op op_sub (pe_op op_modN (pv 3) (pe_int)) (pe_int)))
       (pss_one (ps_set (i := 4) nd rfl (by first | exact Or.inl rfl | exact Or.inr rfl) (pe_op op_add (pe_int) (pe_op op_modN (pv 4) (pe_int)))))) (pss_nil))
       (pss_cons (ps_set (i := 5) nd rfl (by first | exact Or.inl rfl | exact Or.inr rfl) (pe_lst (pa_cons (pv 2) (pa_nil))))
       (pss_cut (ps_if (pt_cmpR op_eq (pv 2) (pe_int) (nomark _)) (pss_one (ps_set (i := 5) nd rfl (by first | exact Or.inl rfl | exact Or.inr rfl) (pe_lst (pa_nil)))) (pss_nil))
       (pss_cons (ps_set (i := 6) nd rfl (by first | exact Or.inl rfl | exact Or.inr rfl) (pv 2))
       (pss_cons (ps_set (i := 7) nd rfl (by first | exact Or.inl rfl | exact Or.inr rfl) (pe_int))
       (pss_cons (ps_set (i := 8) nd rfl (by first | exact Or.inl rfl | exact Or.inr rfl) (pe_lst (pa_nil)))
       (pss_cons (ps_for PassesOwn.never rfl (pi_range3 (by rfl) T.z_range (pa_cons (pe_int) (pa_cons (pe_op op_sub (pe_callB (call_min2 (by rfl)) (by rfl) T.z_min (by decide +kernel) (pa_cons (pe_callB call_len_seq (by rfl) T.z_len (by decide +kernel) (pa_cons (pv 0) (pa_nil))) (pa_cons (pe_int) (pa_nil)))) (pe_int)) (pa_cons (pe_int) (pa_nil))))) (pg_name (i := 9) nd rfl (by first | exact Or.inl rfl | exact Or.inr rfl)) (pss_one (ps_expr (pe_bm PySem.F.plainAttrs_list PySem.F.slot_list_append PySem.F.type_list_append mt_append (pv 8) (pa_cons (pe_tup (pa_cons (pe_call G__law_signed (hr.mono (by decide)) (by rfl) T.g__law_signed T.F__law_signed.kp B__law_signed .nil pass0 (pa_cons (pe_ix ix_list (pv 0) (pv 9) (fun _ _ => rfl)) (pa_cons (pv 1) (pa_nil)))) (pa_cons (pe_op op_add (pe_int) (pe_op op_modN (pe_ix ix_list (pv 0) (pe_op op_add (pv 9) (pe_int)) (fun _ _ => rfl)) (pv 1))) (pa_nil)))) (pa_nil))))))
       (pss_cut (ps_if (PW.pt (pw_and (pt_cmpR op_eq (pv 1) (pe_int) (nomark _)) (pw_and1 (pt_cmpR op_eq (pe_op op_modN (pe_op op_fdivA (pe_call G__law_cell (hr.mono (by decide)) (by rfl) T.g__law_cell T.F__law_cell.kp B__law_cell .nil pass0 (pa_cons (pv 0) (pa_cons (pe_int) (pa_nil)))) (pe_int)) (pe_int)) (pe_int) (nomark _))))) (pss_one (ps_set (i := 8) nd rfl (by first | exact Or.inl rfl | exact Or.inr rfl) (pe_slice sl_list (pe_op op_rep (pv 8) (pe_int)) (po_none) (po_some (pe_int))))) (pss_nil))
       (pss_cons (ps_for PassesOwn.never rfl (pi_list (pv 8)) (pg_tup rfl (pgs_cons (pg_name (i := 10) nd rfl (by first | exact Or.inl rfl | exact Or.inr rfl)) (pgs_cons (pg_name (i := 11) nd rfl (by first | exact Or.inl rfl | exact Or.inr rfl)) (pgs_nil)))) (pss_cons (ps_set (i := 5) nd rfl (by first | exact Or.inl rfl | exact Or.inr rfl) (pe_call G_multiplied (hr.mono (by decide)) (by rfl) T.g_multiplied T.F_multiplied.kp B_multiplied .nil pass0 (pa_cons (pv 5) (pa_cons (pe_lst (pa_cons (pe_un un_neg (pv 10)) (pa_cons (pv 11) (pa_nil)))) (pa_nil)))))
       (pss_cons (ps_set (i := 6) nd rfl (by first | exact Or.inl rfl | exact Or.inr rfl) (pe_op op_mulW (pv 6) (pe_op op_sub (pe_op op_mulW (pv 11) (pv 3)) (pe_op op_mulW (pv 10) (pv 4)))))
       (pss_one (ps_set (i := 7) nd rfl (by first | exact Or.inl rfl | exact Or.inr rfl) (pe_op op_mulW (pv 7) (pv 4)))))))
       (pss_cons (ps_set (i := 12) nd rfl (by first | exact Or.inl rfl | exact Or.inr rfl) (pe_callB call_len_seq (by rfl) T.z_len (by decide +kernel) (pa_cons (pv 8) (pa_nil))))
       (pss_cut (ps_if (pt_cmpR op_eq (pv 2) (pe_int) (nomark _)) (pss_one (ps_set (i := 12) nd rfl (by first | exact Or.inl rfl | exact Or.inr rfl) (pe_un un_neg (pe_int)))) (pss_nil))
       (pss_cons (ps_set (i := 13) nd rfl (by first | exact Or.inl rfl | exact Or.inr rfl) (pe_call G_degree (hr.mono (by decide)) (by rfl) T.g_degree T.F_degree.kp B_degree .nil pass0 (pa_cons (pv 5) (pa_nil))))
       (pss_cons (ps_if (PW.pt (pw_or (pt_not (pt_val (pe_call G__law_whole (hr.mono (by decide)) (by rfl) T.g__law_whole T.F__law_whole.kp B__law_whole .nil pass0 (pa_cons (pv 13) (pa_nil))))) (pw_or (pt_cmpR op_ne (pv 13) (pv 12) (nomark _)) (pw_or1 (pt_cmpR op_ne (pe_callB call_len_seq (by rfl) T.z_len (by decide +kernel) (pa_cons (pv 5) (pa_nil))) (pe_op op_add (pv 12) (pe_int)) (nomark _)))))) (pss_one (ps_ret (pe_bl))) (pss_nil))
       (pss_cons (ps_for PassesOwn.never rfl (pi_list (pe_slice sl_list (pv 8) (po_none) (po_some (pe_int)))) (pg_name (i := 14) nd rfl (by first | exact Or.inl rfl | exact Or.inr rfl)) (pss_cons (ps_if (pt_not (pt_val (pe_call G__law_at (hr.mono (by decide)) (by rfl) T.g__law_at T.F__law_at.kp B__law_at .nil pass0 (pa_cons (pv 5) (pa_cons (pe_make T.mk_Ratio G_Ratio___init__ (hr.mono (by decide)) (by rfl) T.q_Ratio B_Ratio___init__ .nil pass0 (pa_cons (pe_ix ix_tup (pv 14) (pe_int) (fun _ _ => rfl)) (pa_cons (pe_ix ix_tup (pv 14) (pe_int) (fun _ _ => rfl)) (pa_nil)))) (pa_cons (pe_int) (pa_cons (pe_int) (pa_nil)))))))) (pss_one (ps_ret (pe_bl))) (pss_nil))
       (pss_one (ps_if (pt_not (pt_val (pe_call G__law_at (hr.mono (by decide)) (by rfl) T.g__law_at T.F__law_at.kp B__law_at .nil pass0 (pa_cons (pe_lst (pa_cons (pe_un un_neg (pe_ix ix_tup (pv 14) (pe_int) (fun _ _ => rfl))) (pa_cons (pe_ix ix_tup (pv 14) (pe_int) (fun _ _ => rfl)) (pa_nil)))) (pa_cons (pe_make T.mk_Ratio G_Ratio___init__ (hr.mono (by decide)) (by rfl) T.q_Ratio B_Ratio___init__ .nil pass0 (pa_cons (pe_op op_add (pe_op op_mulW (pe_ix ix_tup (pv 14) (pe_int) (fun _ _ => rfl)) (pv 4)) (pv 2)) (pa_cons (pe_op op_mulW (pe_ix ix_tup (pv 14) (pe_int) (fun _ _ => rfl)) (pv 4)) (pa_nil)))) (pa_cons (pv 2) (pa_cons (pv 4) (pa_nil)))))))) (pss_one (ps_ret (pe_bl))) (pss_nil)))))
       (pss_one (ps_ret (pe_and (pe_call G__law_at (hr.mono (by decide)) (by rfl) T.g__law_at T.F__law_at.kp B__law_at .nil pass0 (pa_cons (pv 5) (pa_cons (pe_make T.mk_Ratio G_Ratio___init__ (hr.mono (by decide)) (by rfl) T.q_Ratio B_Ratio___init__ .nil pass0 (pa_cons (pv 3) (pa_cons (pv 4) (pa_nil)))) (pa_cons (pv 6) (pa_cons (pv 7) (pa_nil)))))) (pe_one (pe_call G__law_at (hr.mono (by decide)) (by rfl) T.g__law_at T.F__law_at.kp B__law_at .nil pass0 (pa_cons (pe_lst (pa_nil)) (pa_cons (pe_make T.mk_Ratio G_Ratio___init__ (hr.mono (by decide)) (by rfl) T.q_Ratio B_Ratio___init__ .nil pass0 (pa_cons (pv 3) (pa_cons (pv 4) (pa_nil)))) (pa_cons (pe_int) (pa_cons (pe_int) (pa_nil)))))))))))))))))))))))))))
end
theorem all_mk {l : PySem.W.OpenLaw} {w : World} {K : PySem.W.Frag} {h : Heap} {mg : Str → Option Value} {fa : Addr} (X : K.In h) (G : h.Ns mainGlobals mg) (hfa : mg "law" = some (.ref fa))
    {CRatio : Addr} (aCRatio : PySem.W.nsIn K mainGlobals "Ratio" = some (some (.ref CRatio))) (kCRatio : PySem.W.keepIn K (.ref CRatio) = true)
    (pCRatio : PySem.W.plainGet K CRatio Str.empty = true) (hCRatio : PySem.W.hasDictIn K CRatio = true) (oCRatio : PySem.W.plainOver K CRatio = true) (yCRatio : PySem.W.findIn K (.ref CRatio) "__setattr__" = some (some (.builtin "object.__setattr__"))) (wCRatio : PySem.W.makesIn K CRatio = true)
    (lCRatio : PySem.W.findIn K (.ref CRatio) "__class__" = some (some (.builtin "object.__class__"))) (mCRatio : PySem.W.mroIn K CRatio (.type "object") = some true)
    (nRatio_bottom : PySem.W.findIn K (.ref CRatio) "bottom" = some none)
    (nRatio_top : PySem.W.findIn K (.ref CRatio) "top" = some none)
    {f0 : Addr} {od0 an0 : Option Addr} {sl0 : Array (Option Value)} {oc0 kV0 dc0 pm0 cd0 ct0 : Value}
    {f1 : Addr} {od1 an1 : Option Addr} {sl1 : Array (Option Value)} {oc1 kV1 dc1 pm1 cd1 ct1 : Value}
    {f2 : Addr} {od2 an2 : Option Addr} {sl2 : Array (Option Value)} {oc2 kV2 dc2 pm2 cd2 ct2 : Value}
    {f3 : Addr} {od3 an3 : Option Addr} {sl3 : Array (Option Value)} {oc3 kV3 dc3 pm3 cd3 ct3 : Value}
    {f4 : Addr} {od4 an4 : Option Addr} {sl4 : Array (Option Value)} {oc4 kV4 dc4 pm4 cd4 ct4 : Value}
    {f5 : Addr} {od5 an5 : Option Addr} {sl5 : Array (Option Value)} {oc5 kV5 dc5 pm5 cd5 ct5 : Value}
    {f6 : Addr} {od6 an6 : Option Addr} {sl6 : Array (Option Value)} {oc6 kV6 dc6 pm6 cd6 ct6 : Value}
    {f7 : Addr} {od7 an7 : Option Addr} {sl7 : Array (Option Value)} {oc7 kV7 dc7 pm7 cd7 ct7 : Value}
    {f8 : Addr} {od8 an8 : Option Addr} {sl8 : Array (Option Value)} {oc8 kV8 dc8 pm8 cd8 ct8 : Value}
    {f9 : Addr} {od9 an9 : Option Addr} {sl9 : Array (Option Value)} {oc9 kV9 dc9 pm9 cd9 ct9 : Value}
    {f10 : Addr} {od10 an10 : Option Addr} {sl10 : Array (Option Value)} {oc10 kV10 dc10 pm10 cd10 ct10 : Value}
    {f11 : Addr} {od11 an11 : Option Addr} {sl11 : Array (Option Value)} {oc11 kV11 dc11 pm11 cd11 ct11 : Value}
    {f12 : Addr} {od12 an12 : Option Addr} {sl12 : Array (Option Value)} {oc12 kV12 dc12 pm12 cd12 ct12 : Value}
    {f13 : Addr} {od13 an13 : Option Addr} {sl13 : Array (Option Value)} {oc13 kV13 dc13 pm13 cd13 ct13 : Value}
    {f14 : Addr} {od14 an14 : Option Addr} {sl14 : Array (Option Value)} {oc14 kV14 dc14 pm14 cd14 ct14 : Value}
    {f15 : Addr} {od15 an15 : Option Addr} {sl15 : Array (Option Value)} {oc15 kV15 dc15 pm15 cd15 ct15 : Value}
    (a0 : PySem.W.nsIn K mainGlobals "shared" = some (some (.ref f0))) (l0 : K.lookup f0 = some ⟨oc0, od0, .func (PySem.W.fnOf "shared" "shared" (defArgs s_shared) (defBody s_shared) (defScope s_shared) .none kV0 dc0 pm0 an0 cd0 ct0), sl0⟩) (c0 : PySem.W.codeIn K cd0 "shared" = true) (k0 : PySem.W.keepIn K (.ref f0) = true)
    (a1 : PySem.W.nsIn K mainGlobals "told_order" = some (some (.ref f1))) (l1 : K.lookup f1 = some ⟨oc1, od1, .func (PySem.W.fnOf "told_order" "told_order" (defArgs s_told_order) (defBody s_told_order) (defScope s_told_order) .none kV1 dc1 pm1 an1 cd1 ct1), sl1⟩) (c1 : PySem.W.codeIn K cd1 "told_order" = true) (k1 : PySem.W.keepIn K (.ref f1) = true)
    {T2 : Addr} {ocd2 : Value} {odd2 : Option Addr} {tkd2 : Tok} {nd2 : Nat} {sld2 : Array (Option Value)}
    (a2 : PySem.W.findIn K (.ref CRatio) "__init__" = some (some (.ref f2))) (i2 : PySem.W.isFn K (.ref f2) = true) (l2 : K.lookup f2 = some ⟨oc2, od2, .func (PySem.W.fnOf "__init__" "Ratio.__init__" (defArgs s_Ratio___init__) (defBody s_Ratio___init__) (defScope s_Ratio___init__) (.ref T2) kV2 dc2 pm2 an2 cd2 ct2), sl2⟩) (c2 : PySem.W.codeIn K cd2 "Ratio.__init__" = true) (k2 : PySem.W.keepIn K (.ref f2) = true)
    (d2 : K.lookup T2 = some ⟨ocd2, odd2, .seq #[.int 1 tkd2] nd2, sld2⟩)
    (a3 : PySem.W.nsIn K mainGlobals "poly" = some (some (.ref f3))) (l3 : K.lookup f3 = some ⟨oc3, od3, .func (PySem.W.fnOf "poly" "poly" (defArgs s_poly) (defBody s_poly) (defScope s_poly) .none kV3 dc3 pm3 an3 cd3 ct3), sl3⟩) (c3 : PySem.W.codeIn K cd3 "poly" = true) (k3 : PySem.W.keepIn K (.ref f3) = true)
    (a4 : PySem.W.nsIn K mainGlobals "degree" = some (some (.ref f4))) (l4 : K.lookup f4 = some ⟨oc4, od4, .func (PySem.W.fnOf "degree" "degree" (defArgs s_degree) (defBody s_degree) (defScope s_degree) .none kV4 dc4 pm4 an4 cd4 ct4), sl4⟩) (c4 : PySem.W.codeIn K cd4 "degree" = true) (k4 : PySem.W.keepIn K (.ref f4) = true)
    (a5 : PySem.W.nsIn K mainGlobals "multiplied" = some (some (.ref f5))) (l5 : K.lookup f5 = some ⟨oc5, od5, .func (PySem.W.fnOf "multiplied" "multiplied" (defArgs s_multiplied) (defBody s_multiplied) (defScope s_multiplied) .none kV5 dc5 pm5 an5 cd5 ct5), sl5⟩) (c5 : PySem.W.codeIn K cd5 "multiplied" = true) (k5 : PySem.W.keepIn K (.ref f5) = true)
    (a6 : PySem.W.nsIn K mainGlobals "top_at" = some (some (.ref f6))) (l6 : K.lookup f6 = some ⟨oc6, od6, .func (PySem.W.fnOf "top_at" "top_at" (defArgs s_top_at) (defBody s_top_at) (defScope s_top_at) .none kV6 dc6 pm6 an6 cd6 ct6), sl6⟩) (c6 : PySem.W.codeIn K cd6 "top_at" = true) (k6 : PySem.W.keepIn K (.ref f6) = true)
    (a7 : PySem.W.nsIn K mainGlobals "value_at" = some (some (.ref f7))) (l7 : K.lookup f7 = some ⟨oc7, od7, .func (PySem.W.fnOf "value_at" "value_at" (defArgs s_value_at) (defBody s_value_at) (defScope s_value_at) .none kV7 dc7 pm7 an7 cd7 ct7), sl7⟩) (c7 : PySem.W.codeIn K cd7 "value_at" = true) (k7 : PySem.W.keepIn K (.ref f7) = true)
    (a8 : PySem.W.nsIn K mainGlobals "sign_at" = some (some (.ref f8))) (l8 : K.lookup f8 = some ⟨oc8, od8, .func (PySem.W.fnOf "sign_at" "sign_at" (defArgs s_sign_at) (defBody s_sign_at) (defScope s_sign_at) .none kV8 dc8 pm8 an8 cd8 ct8), sl8⟩) (c8 : PySem.W.codeIn K cd8 "sign_at" = true) (k8 : PySem.W.keepIn K (.ref f8) = true)
    (a9 : PySem.W.nsIn K mainGlobals "_law_cell" = some (some (.ref f9))) (l9 : K.lookup f9 = some ⟨oc9, od9, .func (PySem.W.fnOf "_law_cell" "_law_cell" (defArgs s__law_cell) (defBody s__law_cell) (defScope s__law_cell) .none kV9 dc9 pm9 an9 cd9 ct9), sl9⟩) (c9 : PySem.W.codeIn K cd9 "_law_cell" = true) (k9 : PySem.W.keepIn K (.ref f9) = true)
    (a10 : PySem.W.nsIn K mainGlobals "_law_whole" = some (some (.ref f10))) (l10 : K.lookup f10 = some ⟨oc10, od10, .func (PySem.W.fnOf "_law_whole" "_law_whole" (defArgs s__law_whole) (defBody s__law_whole) (defScope s__law_whole) .none kV10 dc10 pm10 an10 cd10 ct10), sl10⟩) (c10 : PySem.W.codeIn K cd10 "_law_whole" = true) (k10 : PySem.W.keepIn K (.ref f10) = true)
    (a11 : PySem.W.nsIn K mainGlobals "_law_signed" = some (some (.ref f11))) (l11 : K.lookup f11 = some ⟨oc11, od11, .func (PySem.W.fnOf "_law_signed" "_law_signed" (defArgs s__law_signed) (defBody s__law_signed) (defScope s__law_signed) .none kV11 dc11 pm11 an11 cd11 ct11), sl11⟩) (c11 : PySem.W.codeIn K cd11 "_law_signed" = true) (k11 : PySem.W.keepIn K (.ref f11) = true)
    (a12 : PySem.W.nsIn K mainGlobals "_law_divisor" = some (some (.ref f12))) (l12 : K.lookup f12 = some ⟨oc12, od12, .func (PySem.W.fnOf "_law_divisor" "_law_divisor" (defArgs s__law_divisor) (defBody s__law_divisor) (defScope s__law_divisor) .none kV12 dc12 pm12 an12 cd12 ct12), sl12⟩) (c12 : PySem.W.codeIn K cd12 "_law_divisor" = true) (k12 : PySem.W.keepIn K (.ref f12) = true)
    (a13 : PySem.W.nsIn K mainGlobals "_law_value" = some (some (.ref f13))) (l13 : K.lookup f13 = some ⟨oc13, od13, .func (PySem.W.fnOf "_law_value" "_law_value" (defArgs s__law_value) (defBody s__law_value) (defScope s__law_value) .none kV13 dc13 pm13 an13 cd13 ct13), sl13⟩) (c13 : PySem.W.codeIn K cd13 "_law_value" = true) (k13 : PySem.W.keepIn K (.ref f13) = true)
    (a14 : PySem.W.nsIn K mainGlobals "_law_at" = some (some (.ref f14))) (l14 : K.lookup f14 = some ⟨oc14, od14, .func (PySem.W.fnOf "_law_at" "_law_at" (defArgs s__law_at) (defBody s__law_at) (defScope s__law_at) .none kV14 dc14 pm14 an14 cd14 ct14), sl14⟩) (c14 : PySem.W.codeIn K cd14 "_law_at" = true) (k14 : PySem.W.keepIn K (.ref f14) = true)
    (a15 : PySem.W.nsIn K mainGlobals "law" = some (some (.ref f15))) (l15 : K.lookup f15 = some ⟨oc15, od15, .func (PySem.W.fnOf "law" "law" (defArgs s_law) (defBody s_law) (defScope s_law) .none kV15 dc15 pm15 an15 cd15 ct15), sl15⟩) (c15 : PySem.W.codeIn K cd15 "law" = true) (k15 : PySem.W.keepIn K (.ref f15) = true)
    (spC : PySem.W.specialIn K (.builtin "object.__class__") "__get__" = some (some (.builtin "getset_descriptor.__get__"))) (tkC : PySem.W.takesIn K (.builtin "object.__class__") = some true)
    (z_abs : PySem.W.nsIn K mainGlobals "abs" = some none)
    (z_bool : PySem.W.nsIn K mainGlobals "bool" = some none)
    (z_int : PySem.W.nsIn K mainGlobals "int" = some none)
    (z_isinstance : PySem.W.nsIn K mainGlobals "isinstance" = some none)
    (z_len : PySem.W.nsIn K mainGlobals "len" = some none)
    (z_list : PySem.W.nsIn K mainGlobals "list" = some none)
    (z_min : PySem.W.nsIn K mainGlobals "min" = some none)
    (z_range : PySem.W.nsIn K mainGlobals "range" = some none)
    (z_reversed : PySem.W.nsIn K mainGlobals "reversed" = some none)
    : ∃ fd : FuncData, (∀ (s : Shared) (v : Value), BindsTo s fd ⟨[v], []⟩ [("_law_script", v)]) ∧ ∀ base : Heap, K.In base → base.Ns mainGlobals mg → FnOk l.prog w K mg base CX0 6 fa fd ["_law_script"] (sp_law K (fun _ => 0)) := by
  have e := hfa.symm.trans (PySem.W.mg_of X G a15)
  cases e
  have T : Txt K mg (fun s => if s = "Ratio" then CRatio else 0) (fun i => [f0, f1, f2, f3, f4, f5, f6, f7, f8, f9, f10, f11, f12, f13, f14, fa].getD i 0) (fun i => [PySem.W.fnOf "shared" "shared" (defArgs s_shared) (defBody s_shared) (defScope s_shared) .none kV0 dc0 pm0 an0 cd0 ct0, PySem.W.fnOf "told_order" "told_order" (defArgs s_told_order) (defBody s_told_order) (defScope s_told_order) .none kV1 dc1 pm1 an1 cd1 ct1, PySem.W.fnOf "__init__" "Ratio.__init__" (defArgs s_Ratio___init__) (defBody s_Ratio___init__) (defScope s_Ratio___init__) (.ref T2) kV2 dc2 pm2 an2 cd2 ct2, PySem.W.fnOf "poly" "poly" (defArgs s_poly) (defBody s_poly) (defScope s_poly) .none kV3 dc3 pm3 an3 cd3 ct3, PySem.W.fnOf "degree" "degree" (defArgs s_degree) (defBody s_degree) (defScope s_degree) .none kV4 dc4 pm4 an4 cd4 ct4, PySem.W.fnOf "multiplied" "multiplied" (defArgs s_multiplied) (defBody s_multiplied) (defScope s_multiplied) .none kV5 dc5 pm5 an5 cd5 ct5, PySem.W.fnOf "top_at" "top_at" (defArgs s_top_at) (defBody s_top_at) (defScope s_top_at) .none kV6 dc6 pm6 an6 cd6 ct6, PySem.W.fnOf "value_at" "value_at" (defArgs s_value_at) (defBody s_value_at) (defScope s_value_at) .none kV7 dc7 pm7 an7 cd7 ct7, PySem.W.fnOf "sign_at" "sign_at" (defArgs s_sign_at) (defBody s_sign_at) (defScope s_sign_at) .none kV8 dc8 pm8 an8 cd8 ct8, PySem.W.fnOf "_law_cell" "_law_cell" (defArgs s__law_cell) (defBody s__law_cell) (defScope s__law_cell) .none kV9 dc9 pm9 an9 cd9 ct9, PySem.W.fnOf "_law_whole" "_law_whole" (defArgs s__law_whole) (defBody s__law_whole) (defScope s__law_whole) .none kV10 dc10 pm10 an10 cd10 ct10, PySem.W.fnOf "_law_signed" "_law_signed" (defArgs s__law_signed) (defBody s__law_signed) (defScope s__law_signed) .none kV11 dc11 pm11 an11 cd11 ct11, PySem.W.fnOf "_law_divisor" "_law_divisor" (defArgs s__law_divisor) (defBody s__law_divisor) (defScope s__law_divisor) .none kV12 dc12 pm12 an12 cd12 ct12, PySem.W.fnOf "_law_value" "_law_value" (defArgs s__law_value) (defBody s__law_value) (defScope s__law_value) .none kV13 dc13 pm13 an13 cd13 ct13, PySem.W.fnOf "_law_at" "_law_at" (defArgs s__law_at) (defBody s__law_at) (defScope s__law_at) .none kV14 dc14 pm14 an14 cd14 ct14, PySem.W.fnOf "law" "law" (defArgs s_law) (defBody s_law) (defScope s_law) .none kV15 dc15 pm15 an15 cd15 ct15].getD i (PySem.W.fnOf "law" "law" (defArgs s_law) (defBody s_law) (defScope s_law) .none kV15 dc15 pm15 an15 cd15 ct15)) :=
    { z_abs := PySem.W.mg_none_of X G z_abs, z_bool := PySem.W.mg_none_of X G z_bool, z_int := PySem.W.mg_none_of X G z_int, z_isinstance := PySem.W.mg_none_of X G z_isinstance, z_len := PySem.W.mg_none_of X G z_len, z_list := PySem.W.mg_none_of X G z_list, z_min := PySem.W.mg_none_of X G z_min, z_range := PySem.W.mg_none_of X G z_range, z_reversed := PySem.W.mg_none_of X G z_reversed, g_shared := PySem.W.mg_of X G a0, F_shared := fun_mk (st := s_shared) l0 c0 k0, g_told_order := PySem.W.mg_of X G a1, F_told_order := fun_mk (st := s_told_order) l1 c1 k1, F_Ratio___init__ := funD_mk l2 d2 c2 k2, mk_Ratio := ⟨wCRatio, a2, i2, kCRatio⟩, g_poly := PySem.W.mg_of X G a3, F_poly := fun_mk (st := s_poly) l3 c3 k3, g_degree := PySem.W.mg_of X G a4, F_degree := fun_mk (st := s_degree) l4 c4 k4, g_multiplied := PySem.W.mg_of X G a5, F_multiplied := fun_mk (st := s_multiplied) l5 c5 k5, g_top_at := PySem.W.mg_of X G a6, F_top_at := fun_mk (st := s_top_at) l6 c6 k6, g_value_at := PySem.W.mg_of X G a7, F_value_at := fun_mk (st := s_value_at) l7 c7 k7, g_sign_at := PySem.W.mg_of X G a8, F_sign_at := fun_mk (st := s_sign_at) l8 c8 k8, g__law_cell := PySem.W.mg_of X G a9, F__law_cell := fun_mk (st := s__law_cell) l9 c9 k9, g__law_whole := PySem.W.mg_of X G a10, F__law_whole := fun_mk (st := s__law_whole) l10 c10 k10, g__law_signed := PySem.W.mg_of X G a11, F__law_signed := fun_mk (st := s__law_signed) l11 c11 k11, g__law_divisor := PySem.W.mg_of X G a12, F__law_divisor := fun_mk (st := s__law_divisor) l12 c12 k12, g__law_value := PySem.W.mg_of X G a13, F__law_value := fun_mk (st := s__law_value) l13 c13 k13, g__law_at := PySem.W.mg_of X G a14, F__law_at := fun_mk (st := s__law_at) l14 c14 k14, g_law := PySem.W.mg_of X G a15, F_law := fun_mk (st := s_law) l15 c15 k15, q_Ratio := PySem.W.mg_of X G aCRatio, cls_Ratio := ⟨pCRatio, hCRatio, oCRatio, yCRatio⟩, ex := { cl_Ratio := ⟨pCRatio, hCRatio, oCRatio, yCRatio⟩, is_Ratio := ⟨lCRatio, spC, tkC, mCRatio⟩, n_Ratio_bottom := nRatio_bottom, n_Ratio_top := nRatio_top } }
  exact ⟨PySem.W.fnOf "law" "law" (defArgs s_law) (defBody s_law) (defScope s_law) .none kV15 dc15 pm15 an15 cd15 ct15, fun s v => .of_eq rfl, fun base _ _ => ok_law T⟩
end RP
open PySem PySem.W PyProof.Rows
set_option maxHeartbeats 0 in
theorem PySem.Challenge.cw_rootspan_k06_values_and_roots_holds : PySem.Challenge.rw_rootspan_k06_values_and_roots.Holds := by
  w_on; o_law; k_head; (case hw => w_witness2)
  k_fill
  refine L2.walk_of (l := PySem.Challenge.rw_rootspan_k06_values_and_roots) (n := 63) (k := 6) (x := "_law_script") (CX := fun _ => L2.CX0) (sp := fun w => RP.sp_law _ (fun _ => 0)) rfl (by decide) rfl ⟨rfl, by decide, by decide⟩ (fun w h Y => PySem.W.kIn_of Y) ?F (fun _ _ a ns hl _ hS => ⟨a, ns, rfl, hS, hl, fun _ => rfl⟩) (fun _ _ _ _ _ h => h)
  case F =>
    intro w mg fa h KX G hmg
    refine' RP.all_mk KX G hmg ?aCRatio ?kCRatio ?pCRatio ?hCRatio ?oCRatio ?yCRatio ?wCRatio ?lCRatio ?mCRatio ?nRatio_bottom ?nRatio_top ?a0 ?l0 ?c0 ?k0 ?a1 ?l1 ?c1 ?k1 ?a2 ?i2 ?l2 ?c2 ?k2 ?d2 ?a3 ?l3 ?c3 ?k3 ?a4 ?l4 ?c4 ?k4 ?a5 ?l5 ?c5 ?k5 ?a6 ?l6 ?c6 ?k6 ?a7 ?l7 ?c7 ?k7 ?a8 ?l8 ?c8 ?k8 ?a9 ?l9 ?c9 ?k9 ?a10 ?l10 ?c10 ?k10 ?a11 ?l11 ?c11 ?k11 ?a12 ?l12 ?c12 ?k12 ?a13 ?l13 ?c13 ?k13 ?a14 ?l14 ?c14 ?k14 ?a15 ?l15 ?c15 ?k15 ?spC ?tkC ?z_abs ?z_bool ?z_int ?z_isinstance ?z_len ?z_list ?z_min ?z_range ?z_reversed
    (case aCRatio => k_is); (case kCRatio => k_is); (case pCRatio => k_is); (case hCRatio => k_is); (case oCRatio => k_is); (case yCRatio => k_is); (case wCRatio => k_is); (case lCRatio => k_is); (case mCRatio => k_is); (case nRatio_bottom => k_is); (case nRatio_top => k_is); (case a0 => k_is); (case l0 => k_is); (case c0 => k_is); (case k0 => k_is); (case a1 => k_is); (case l1 => k_is); (case c1 => k_is); (case k1 => k_is); (case a2 => k_is); (case i2 => k_is); (case l2 => k_is); (case c2 => k_is); (case k2 => k_is); (case d2 => k_is); (case a3 => k_is); (case l3 => k_is); (case c3 => k_is); (case k3 => k_is); (case a4 => k_is); (case l4 => k_is); (case c4 => k_is); (case k4 => k_is); (case a5 => k_is); (case l5 => k_is); (case c5 => k_is); (case k5 => k_is); (case a6 => k_is); (case l6 => k_is); (case c6 => k_is); (case k6 => k_is); (case a7 => k_is); (case l7 => k_is); (case c7 => k_is); (case k7 => k_is); (case a8 => k_is); (case l8 => k_is); (case c8 => k_is); (case k8 => k_is); (case a9 => k_is); (case l9 => k_is); (case c9 => k_is); (case k9 => k_is); (case a10 => k_is); (case l10 => k_is); (case c10 => k_is); (case k10 => k_is); (case a11 => k_is); (case l11 => k_is); (case c11 => k_is); (case k11 => k_is); (case a12 => k_is); (case l12 => k_is); (case c12 => k_is); (case k12 => k_is); (case a13 => k_is); (case l13 => k_is); (case c13 => k_is); (case k13 => k_is); (case a14 => k_is); (case l14 => k_is); (case c14 => k_is); (case k14 => k_is); (case a15 => k_is); (case l15 => k_is); (case c15 => k_is); (case k15 => k_is); (case spC => first | k_is | rfl | decide +kernel); (case tkC => first | k_is | rfl | decide +kernel); (case z_abs => k_is); (case z_bool => k_is); (case z_int => k_is); (case z_isinstance => k_is); (case z_len => k_is); (case z_list => k_is); (case z_min => k_is); (case z_range => k_is); (case z_reversed => k_is)

import PyProof.Rows.All
import Wide.All
import OpenK.AllK
import Wide.FinOn
import HandS.ForMost
import HandS.Exc
import HandS.TryOnly
import HandS.ExcOwn
import HandS.WordsExc
import HandS.Wide
import HandS.IsInst
import HandS.Conv
import HandS.RevRange
import HandS.Evl
import HandS.More
import HandS.Style
import HandS.ExcIs
import PySem.Challenge.RW_rootspan_k15_parts
set_option Elab.async false
set_option linter.all false
set_option maxRecDepth 100000
set_option maxHeartbeats 4000000
set_option exponentiation.threshold 100000
set_option linter.all false
set_option maxRecDepth 100000
set_option maxHeartbeats 4000000
namespace RB
open PySem PySem.Spec PyProof.Rows L2
open Evl (Ex rLenS rListS rMax2 tCut pss_cut)

/-! ### the readings' names -/
def rIAdd : R2 := rI0 fun i j => .int (i + j)
def rISub : R2 := rI0 fun i j => .int (i - j)
def rMul : R2 := rI CMulW fun i j => .int (i * j)
def rMod : R2 := rI (fun _ j => j ≠ 0) fun i j => .int (i.fmod j)
def CDivA (_ j : Int) : Prop := j ≠ 0 ∧ j.natAbs.log2 < 9000
def rDiv : R2 := rI CDivA fun i j => .int (i.fdiv j)
def rPow : R2 := rI CPow fun i j => .int (i ^ j.toNat)
def rLt : R2 := rI0 fun i j => .bl (decide (i < j))
def rLe : R2 := rI0 fun i j => .bl (decide (i ≤ j))
def rGt : R2 := rI0 fun i j => .bl (decide (j < i))
def rGe : R2 := rI0 fun i j => .bl (decide (j ≤ i))
def rIsN : R2 := fun x y H Q => y = .non ∧ Q (.bl (decide (x = .non))) H
def rNotN : R2 := fun x y H Q => y = .non ∧ Q (.bl (!decide (x = .non))) H
def rNeg : V → Hp → VK → Prop := rU fun i => .int (-i)
def rAbs : List V → Hp → VK → Prop := fun xs H Q => ∃ i, xs = [.int i] ∧ Q (.int (if i < 0 then -i else i)) H
def rMin2 : List V → Hp → VK → Prop := fun xs H Q => ∃ i j, xs = [.int i, .int j] ∧ Q (.int (if j < i then j else i)) H
def rInt1 : List V → Hp → VK → Prop := fun xs H Q => (∃ i, xs = [.int i] ∧ Q (.int i) H) ∨ ∃ k, xs = [.bl k] ∧ Q (.int (if k then 1 else 0)) H
def rAddS : R2 := fun x y H Q => ∃ i j, x = .str i ∧ y = .str j ∧ i.length + j.length ≤ sizeLine ∧ Q (.str (i ++ j)) H
def rLenStr : List V → Hp → VK → Prop := fun xs H Q => ∃ z, xs = [.str z] ∧ z.length ≤ sizeLine ∧ Q (.int z.length) H
def rStrInt : List V → Hp → VK → Prop := fun xs H Q => ∃ i, xs = [.int i] ∧ i.natAbs.log2 < 1920 ∧ Q (.str (toString i)) H
def rInsert : V → List V → Hp → VK → Prop := fun x vs H Q => ∃ (l : Addr) (xs : List V) (i : Int) (y : V), x = .ref l ∧ vs = [.int i, y] ∧ H l = some (.lst xs) ∧ xs.length < sizeLine ∧ 0 ≤ i ∧ i < 2 ^ 63 ∧ Q .non (upd H l (.lst (xs.take i.toNat ++ [y] ++ xs.drop i.toNat)))
section
variable {X : Cx}
theorem op_fdivA : OpR X (binaryOp .FloorDiv) rDiv := opI fun i j _ _ _ _ _ hc q => floordiv_int hc.1 q (.inl (PyProof.noPylong_of_log2 hc.2))
theorem op_isN1 : OpR X (compareOp .Is) rIsN := op_isN
theorem op_notN1 : OpR X (compareOp .IsNot) rNotN := op_notN
end

/-! ### heaps -/
def Exb (l : Addr) (H H' : Hp) : Prop := ∀ a, a ≠ l → ∀ o, H a = some o → H' a = some o
theorem _root_.Evl.Ex.mutb {H0 H H' : Hp} {l : Addr} (e : Ex H0 H) (b : Exb l H H') (f : H0 l = none) : Ex H0 H' := fun a o h => b a (ne_of_none h f) o (e a o h)
theorem Exb.trans {l : Addr} {H H1 H2 : Hp} (a : Exb l H H1) (b : Exb l H1 H2) : Exb l H H2 := fun c n o h => b c n o (a c n o h)
theorem Exb.ex {l : Addr} {H H1 H2 : Hp} (a : Exb l H H1) (b : Ex H1 H2) : Exb l H H2 := fun c n o h => b c o (a c n o h)
theorem _root_.Evl.Ex.exb {l : Addr} {H H1 H2 : Hp} (a : Ex H H1) (b : Exb l H1 H2) : Exb l H H2 := fun c n o h => b c n o (a c o h)
/-- a list laid anew -/
theorem newL {H : Hp} {xs : List V} {Q : VK} (k : ∀ p H', H p = none → Ex H H' → H' p = some (.lst xs) → Q (.ref p) H') : ∀ p, H p = none → Q (.ref p) (upd H p (.lst xs)) :=
  fun p hp => k p _ hp (Evl.Ex.new hp) upd_same
theorem newT {H : Hp} {xs : List V} {Q : VK} (k : ∀ p H', H p = none → Ex H H' → H' p = some (.tup xs) → Q (.ref p) H') : ∀ p, H p = none → Q (.ref p) (upd H p (.tup xs)) :=
  fun p hp => k p _ hp (Evl.Ex.new hp) upd_same
/-- an object changed -/
theorem mutL {H : Hp} {l : Addr} {o : HO} {G : Hp → Prop} (k : ∀ H', Exb l H H' → H' l = some o → G H') : G (upd H l o) :=
  k _ (fun a n o h => by rw [upd_ne n]; exact h) upd_same
theorem _root_.Evl.Ex.free {H H' : Hp} (e : Ex H H') {p : Addr} (h : H' p = none) : H p = none := Evl.fresh_back e h
theorem _root_.Evl.Ex.l {K : PySem.W.Frag} {H H' : Hp} {a : Addr} {xs : List V} (e : Ex H H') (h : SqL K H a xs) : SqL K H' a xs := Evl.ex_l e h
theorem SqL.inj {K : PySem.W.Frag} {H : Hp} {a : Addr} {xs : List V} (h : H a = some (.lst xs)) : SqL K H a xs := .inl (.inl h)

def LstK (Q : VK) : List V → Hp → Prop := fun xs H1 => xs.length ≤ sizeLine ∧ ∀ p, H1 p = none → Q (.ref p) (upd H1 p (.lst xs))
def TupK (Q : VK) : List V → Hp → Prop := fun xs H1 => xs.length ≤ sizeLine ∧ ∀ p, H1 p = none → Q (.ref p) (upd H1 p (.tup xs))
theorem small0 {n : Nat} (h : n ≤ 16777216) : n ≤ sizeLine := by rw [sizeLine_eq]; exact h
/-! ### readings, step by step -/
section
variable {K : PySem.W.Frag} {σ : L2.St} {H : Hp} {Q : VK} {D : Ends} {ta tb te to ti : TE} {t u : TS} {tt t1 t2 : TT} {g : TG}
theorem r_seq (h : t { D with nx := u D } σ H) : tSeq t u D σ H := h
theorem r_next (h : D.nx σ H) : tNext D σ H := h
theorem r_var {i : Nat} {v : V} (h : σ[i]? = some (some v)) (q : Q v H) : tVar i σ H Q := ⟨v, h, q⟩
theorem r_c {v : V} (q : Q v H) : tC v σ H Q := q
theorem r_op {r : R2} (h : ta σ H fun x H1 => tb σ H1 fun y H2 => r x y H2 Q) : tOp r ta tb σ H Q := h
theorem r_un {r : V → Hp → VK → Prop} (h : ta σ H fun x H1 => r x H1 Q) : tUn r ta σ H Q := h
theorem r_add {i j : Int} (q : Q (.int (i + j)) H) : rIAdd (.int i) (.int j) H Q := ⟨i, j, rfl, rfl, q⟩
theorem r_sub {i j : Int} (q : Q (.int (i - j)) H) : rISub (.int i) (.int j) H Q := ⟨i, j, rfl, rfl, q⟩
theorem r_mul {i j : Int} (c : CMulW i j) (q : Q (.int (i * j)) H) : rMul (.int i) (.int j) H Q := ⟨i, j, rfl, rfl, c, q⟩
theorem r_mod {i j : Int} (c : j ≠ 0) (q : Q (.int (i.fmod j)) H) : rMod (.int i) (.int j) H Q := ⟨i, j, rfl, rfl, c, q⟩
theorem r_div {i j : Int} (c : CDivA i j) (q : Q (.int (i.fdiv j)) H) : rDiv (.int i) (.int j) H Q := ⟨i, j, rfl, rfl, c, q⟩
theorem r_pow {i j : Int} (c : CPow i j) (q : Q (.int (i ^ j.toNat)) H) : rPow (.int i) (.int j) H Q := ⟨i, j, rfl, rfl, c, q⟩
theorem r_lt {i j : Int} (q : Q (.bl (decide (i < j))) H) : rLt (.int i) (.int j) H Q := ⟨i, j, rfl, rfl, q⟩
theorem r_le {i j : Int} (q : Q (.bl (decide (i ≤ j))) H) : rLe (.int i) (.int j) H Q := ⟨i, j, rfl, rfl, q⟩
theorem r_gt {i j : Int} (q : Q (.bl (decide (j < i))) H) : rGt (.int i) (.int j) H Q := ⟨i, j, rfl, rfl, q⟩
theorem r_ge {i j : Int} (q : Q (.bl (decide (j ≤ i))) H) : rGe (.int i) (.int j) H Q := ⟨i, j, rfl, rfl, q⟩
theorem r_neg {i : Int} (q : Q (.int (-i)) H) : rNeg (.int i) H Q := ⟨i, rfl, q⟩
theorem d_int (i j : Int) : decide (V.int i = V.int j) = decide (i = j) := by
  by_cases h : i = j
  · rw [h]; simp
  · rw [decide_eq_false h, decide_eq_false (fun z => h (V.int.inj z))]
theorem d_bl (i j : Bool) : decide (V.bl i = V.bl j) = decide (i = j) := by
  by_cases h : i = j
  · rw [h]; simp
  · rw [decide_eq_false h, decide_eq_false (fun z => h (V.bl.inj z))]
theorem d_str (i j : Str) : decide (V.str i = V.str j) = decide (i = j) := by
  by_cases h : i = j
  · rw [h]; simp
  · rw [decide_eq_false h, decide_eq_false (fun z => h (V.str.inj z))]
theorem r_eqI {i j : Int} (q : Q (.bl (decide (i = j))) H) : rEq (.int i) (.int j) H Q := ⟨rfl, by rw [d_int]; exact q⟩
theorem r_neI {i j : Int} (q : Q (.bl (!decide (i = j))) H) : rNe (.int i) (.int j) H Q := ⟨rfl, by rw [d_int]; exact q⟩
theorem r_eqB {i j : Bool} (q : Q (.bl (decide (i = j))) H) : rEq (.bl i) (.bl j) H Q := ⟨rfl, by rw [d_bl]; exact q⟩
theorem r_eqS {i j : Str} (q : Q (.bl (decide (i = j))) H) : rEq (.str i) (.str j) H Q := ⟨rfl, by rw [d_str]; exact q⟩
theorem r_neS {i j : Str} (q : Q (.bl (!decide (i = j))) H) : rNe (.str i) (.str j) H Q := ⟨rfl, by rw [d_str]; exact q⟩
theorem r_isN {x : V} (q : Q (.bl (decide (x = .non))) H) : rIsN x .non H Q := ⟨rfl, q⟩
theorem r_notN {x : V} (q : Q (.bl (!decide (x = .non))) H) : rNotN x .non H Q := ⟨rfl, q⟩
theorem r_ixL {p : Addr} {i : Int} {xs : List V} {v : V} (h : SqL K H p xs) (a : atI xs i = some v) (q : Q v H) : rIxL K (.ref p) (.int i) H Q := ⟨p, xs, i, v, rfl, rfl, h, a, q⟩
theorem r_ixT {p : Addr} {i : Int} {xs : List V} {v : V} (h : SqT K H p xs) (a : atI xs i = some v) (q : Q v H) : rIxT K (.ref p) (.int i) H Q := ⟨p, xs, i, v, rfl, rfl, h, a, q⟩
theorem r_cons {ta : TE} {tr : TA} {Q : List V → Hp → Prop} (h : ta σ H fun x H1 => tr σ H1 fun xs H2 => Q (x :: xs) H2) : tCons ta tr σ H Q := h
theorem r_nil {Q : List V → Hp → Prop} (h : Q [] H) : tNil σ H Q := h
theorem r_cb {r : List V → Hp → VK → Prop} {ta : TA} (h : ta σ H fun vs H1 => r vs H1 Q) : tCB r ta σ H Q := h
theorem r_abs {i : Int} (q : Q (.int (if i < 0 then -i else i)) H) : rAbs [.int i] H Q := ⟨i, rfl, q⟩
theorem r_max2 {i j : Int} (q : Q (.int (if j > i then j else i)) H) : rMax2 [.int i, .int j] H Q := ⟨i, j, rfl, q⟩
theorem r_min2 {i j : Int} (q : Q (.int (if j < i then j else i)) H) : rMin2 [.int i, .int j] H Q := ⟨i, j, rfl, q⟩
theorem r_len {p : Addr} {xs : List V} (h : SqL K H p xs) (q : Q (.int xs.length) H) : rLenS K [.ref p] H Q := ⟨p, xs, rfl, .inl h, q⟩
theorem r_lenT {p : Addr} {xs : List V} (h : SqT K H p xs) (q : Q (.int xs.length) H) : rLenS K [.ref p] H Q := ⟨p, xs, rfl, .inr h, q⟩
theorem r_list {p : Addr} {xs : List V} (h : SqL K H p xs) (q : ∀ l H', H l = none → Ex H H' → H' l = some (.lst xs) → Q (.ref l) H') : rListS K [.ref p] H Q := ⟨p, xs, rfl, .inl h, newL q⟩
theorem r_intI {i : Int} (q : Q (.int i) H) : rInt1 [.int i] H Q := .inl ⟨i, rfl, q⟩
theorem r_intB {b : Bool} (q : Q (.int (if b then 1 else 0)) H) : rInt1 [.bl b] H Q := .inr ⟨b, rfl, q⟩
theorem r_call {sp : Sp} {E : XK} {ta : TA} (h : ta σ H fun vs H1 => sp vs H1 Q E) : tCall sp [] E ta σ H Q := by
  show ta σ H fun vs H1 => sp (vs ++ []) H1 Q E
  have e : (fun vs H1 => sp (vs ++ []) H1 Q E) = fun (vs : List V) H1 => sp vs H1 Q E := by
    funext vs H1; rw [List.append_nil]
  rw [e]; exact h
theorem r_lst {ta : TA} (h : ta σ H (LstK Q)) : tLst ta σ H Q := h
theorem r_lstK {xs : List V} (k : ∀ p H', H p = none → Ex H H' → H' p = some (.lst xs) → Q (.ref p) H') (hz : xs.length ≤ 16777216 := by simp) : LstK Q xs H := ⟨small0 hz, newL k⟩
theorem r_tup {ta : TA} (h : ta σ H (TupK Q)) : tTup ta σ H Q := h
theorem r_tupK {xs : List V} (k : ∀ p H', H p = none → Ex H H' → H' p = some (.tup xs) → Q (.ref p) H') (hz : xs.length ≤ 16777216 := by simp) : TupK Q xs H := ⟨small0 hz, newT k⟩
theorem r_asg (h : te σ H fun x H1 => g x σ H1 D.nx) : tAsg te g D σ H := h
theorem r_gn {i : Nat} {v : V} {Q : L2.St → Hp → Prop} (h : Q (σ.set i (some v)) H) : gName i v σ H Q := h
theorem r_ret (h : te σ H D.rt) : tRet te D σ H := h
theorem r_drop (h : te σ H fun _ H1 => D.nx σ H1) : tDrop te D σ H := h
theorem r_ifS (h : tt σ H fun b H1 => if b = true then t D σ H1 else u D σ H1) : tIfS tt t u D σ H := h
theorem r_test {Q : Bool → Hp → Prop} (h : te σ H fun x H1 => ∃ k, x = .bl k ∧ Q k H1) : tTest te σ H Q := h
theorem r_B {Q : Bool → Hp → Prop} (h : te σ H fun x H1 => ∃ k, x = .bl k ∧ Q k H1) : tB te σ H Q := h
theorem r_bl {k : Bool} {Q : Bool → Prop} (h : Q k) : ∃ k', V.bl k = .bl k' ∧ Q k' := ⟨k, rfl, h⟩
theorem r_and {Q : Bool → Hp → Prop} (h : t1 σ H fun c H1 => if c = true then t2 σ H1 Q else Q false H1) : tAnd t1 t2 σ H Q := h
theorem r_or {Q : Bool → Hp → Prop} (h : t1 σ H fun c H1 => if c = true then Q true H1 else t2 σ H1 Q) : tOr t1 t2 σ H Q := h
theorem r_not {Q : Bool → Hp → Prop} (h : tt σ H fun c H1 => Q (!c) H1) : tNot tt σ H Q := h
theorem r_andV (h : ta σ H fun x H1 => ∃ c, x = .bl c ∧ if c = true then tb σ H1 Q else Q (.bl false) H1) : tAndV ta tb σ H Q := h
theorem r_orV (h : ta σ H fun x H1 => ∃ c, x = .bl c ∧ if c = true then Q (.bl true) H1 else tb σ H1 Q) : tOrV ta tb σ H Q := h
theorem r_notV (h : ta σ H fun x H1 => ∃ c, x = .bl c ∧ Q (.bl (!c)) H1) : tNotV ta σ H Q := h
theorem r_if (h : tt σ H fun c H1 => if c = true then ta σ H1 Q else tb σ H1 Q) : tIf tt ta tb σ H Q := h
theorem r_bm {T : String} {r : V → List V → Hp → VK → Prop} {ta : TA} (h : to σ H fun x H1 => tyV K T x H1 ∧ ta σ H1 fun xs H2 => r x xs H2 Q) : tBM K T r to ta σ H Q := h
theorem r_bm0 {T : String} {r : V → List V → Hp → VK → Prop} (h : to σ H fun x H1 => tyV K T x H1 ∧ r x [] H1 Q) : tBM0 K T r to σ H Q := h
theorem r_append {l : Addr} {xs : List V} {y : V} (h : H l = some (.lst xs)) (z : xs.length < sizeLine) (q : ∀ H', Exb l H H' → H' l = some (.lst (xs ++ [y])) → Q .non H') : rAppend (.ref l) [y] H Q :=
  ⟨l, xs, y, rfl, rfl, h, z, mutL q⟩
theorem r_pop {l : Addr} {xs : List V} {y : V} (h : H l = some (.lst xs)) (z : xs[xs.length - 1]? = some y) (q : ∀ H', Exb l H H' → H' l = some (.lst xs.dropLast) → Q y H') : rPop (.ref l) [] H Q :=
  ⟨l, xs, y, rfl, rfl, h, z, mutL q⟩
theorem r_insert {l : Addr} {xs : List V} {y : V} {i : Int} (h : H l = some (.lst xs)) (z : xs.length < sizeLine) (h0 : 0 ≤ i) (h1 : i < 2 ^ 63) (q : ∀ H', Exb l H H' → H' l = some (.lst (xs.take i.toNat ++ [y] ++ xs.drop i.toNat)) → Q .non H') : rInsert (.ref l) [.int i, y] H Q :=
  ⟨l, xs, i, y, rfl, rfl, h, z, h0, h1, mutL q⟩
theorem tyL {p : Addr} {xs : List V} (h : H p = some (.lst xs)) : tyV K "list" (.ref p) H := .inl ⟨rfl, _, .inl (.inl h)⟩
theorem r_ty {T : String} {x : V} {B : Prop} (h : tyV K T x H) (q : B) : tyV K T x H ∧ B := ⟨h, q⟩
theorem r_sub_ {ts : TSet} {v : V} {Q : L2.St → Hp → Prop} (h : to σ H fun o H1 => ti σ H1 fun i H2 => ts o i v H2 fun H3 => Q σ H3) : gSub to ti ts v σ H Q := h
theorem r_setL {p : Addr} {xs : List V} {k : Int} {j : Nat} {v : V} {Q : Hp → Prop} (h : H p = some (.lst xs)) (hk : ixN xs.length k = some j) (q : ∀ H', Exb p H H' → H' p = some (.lst (xs.set j v)) → Q H') : rSetL (.ref p) (.int k) v H Q :=
  ⟨p, xs, k, j, rfl, rfl, h, hk, mutL q⟩
theorem r_cat {l b : Addr} {xs zs : List V} (h1 : H l = some (.lst xs)) (h2 : H b = some (.lst zs)) (z : xs.length + zs.length ≤ sizeLine) (q : ∀ p H', H p = none → Ex H H' → H' p = some (.lst (xs ++ zs)) → Q (.ref p) H') : rCat (.ref l) (.ref b) H Q :=
  ⟨l, b, xs, zs, rfl, rfl, h1, h2, z, newL q⟩
theorem flat_rep {α : Type} (x : α) : ∀ n : Nat, (List.replicate n [x]).flatten = List.replicate n x
  | 0 => rfl
  | n + 1 => by rw [List.replicate_succ, List.flatten_cons, flat_rep x n, List.replicate_succ]; rfl
/-- [x] * k -/
theorem r_rep1 {l : Addr} {x : V} {k : Int} (h1 : H l = some (.lst [x])) (z : k.toNat ≤ 1000000) (q : ∀ p H', H p = none → Ex H H' → H' p = some (.lst (List.replicate k.toNat x)) → Q (.ref p) H')  (h0 : -(2 ^ 63) ≤ k := by omega) : rRep (.ref l) (.int k) H Q :=
  ⟨l, k, [x], rfl, rfl, h1, h0, by omega, by
    show 1 * k.toNat ≤ sizeLine
    rw [Nat.one_mul]
    exact Nat.le_trans z (by decide), newL fun p H' a b c => q p H' a b (by rw [flat_rep] at c; exact c)⟩
theorem r_sl {r : V → Option Int → Option Int → Hp → VK → Prop} {tl th : TO} (h : te σ H fun x H1 => tl σ H1 fun l H2 => th σ H2 fun u H3 => r x l u H3 Q) : tSl r te tl th σ H Q := h
theorem r_part {Q : Option Int → Hp → Prop} (h : te σ H fun x H1 => ∃ i, x = .int i ∧ Q (some i) H1) : tPart te σ H Q := h
theorem r_int {i : Int} {Q : Int → Prop} (h : Q i) : ∃ j, V.int i = .int j ∧ Q j := ⟨i, rfl, h⟩
theorem r_nopart {Q : Option Int → Hp → Prop} (h : Q none H) : tNoPart σ H Q := h
theorem r_slL {a : Addr} {xs : List V} {lo hi : Option Int} (h : SqL K H a xs) (q : ∀ p H', H p = none → Ex H H' → H' p = some (.lst (cutV xs lo hi)) → Q (.ref p) H') : rSlL K (.ref a) lo hi H Q := ⟨a, xs, rfl, h, newL q⟩
theorem r_par {i j : Nat} {ta : TA} (h : ta σ H fun vs H1 => ∃ v w, vs = [v, w] ∧ D.nx ((σ.set i (some v)).set j (some w)) H1) : tPar i j ta D σ H := h
theorem r_par2 {i j : Nat} {v w : V} (h : D.nx ((σ.set i (some v)).set j (some w)) H) : ∃ v' w', [v, w] = [v', w'] ∧ D.nx ((σ.set i (some v')).set j (some w')) H := ⟨v, w, rfl, h⟩
end
/-- a truth that is decided, both ways -/
theorem ite_d {p A B : Prop} [Decidable p] (h1 : p → A) (h2 : ¬ p → B) : if decide p = true then A else B := by
  by_cases h : p
  · rw [if_pos (decide_eq_true h)]; exact h1 h
  · rw [if_neg (by rw [decide_eq_false h]; decide)]; exact h2 h
theorem ite_nd {p A B : Prop} [Decidable p] (h1 : ¬ p → A) (h2 : p → B) : if (!decide p) = true then A else B := by
  by_cases h : p
  · rw [if_neg (by rw [decide_eq_true h]; decide)]; exact h2 h
  · rw [if_pos (by rw [decide_eq_false h]; rfl)]; exact h1 h
theorem ite_b {b : Bool} {A B : Prop} (h1 : b = true → A) (h2 : b = false → B) : if b = true then A else B := by
  cases b with
  | true => rw [if_pos rfl]; exact h1 rfl
  | false => rw [if_neg (by decide)]; exact h2 rfl

theorem r_isi {K : PySem.W.Frag} {H : Hp} {Q : VK} {x c : V} {t u : Value} {b : Bool} (ht : TyX K H x t) (hc : ClsV c u) (hk : PySem.W.kitOne K t u = some b) (q : Q (.bl b) H) : rIsi K [x, c] H Q := ⟨x, c, t, u, b, rfl, hc, ht, hk, q⟩
theorem iteD {p A B : Prop} [Decidable p] (h : p) (a : A) : if decide p = true then A else B := by rw [if_pos (decide_eq_true h)]; exact a
theorem iteDF {p A B : Prop} [Decidable p] (h : ¬ p) (a : B) : if decide p = true then A else B := by rw [if_neg (by rw [decide_eq_false h]; decide)]; exact a
/-! ### lists of ints, compared -/
theorem dp_ints {K : PySem.W.Frag} {H : Hp} : ∀ ns : List Int, DpAll K H (ns.map V.int) (ns.map PyData.int)
  | [] => .nil
  | n :: r => .cons (.int n) (dp_ints r)
theorem dp_listI {K : PySem.W.Frag} {H : Hp} {a : Addr} {ns : List Int} (h : SqL K H a (ns.map V.int)) : Dp K H (.ref a) (.list (ns.map PyData.int)) := .lst h (dp_ints ns)
def dI (ns : List Int) : PyData := .list (ns.map PyData.int)
theorem canLay_ints : ∀ ns : List Int, PyData.canLayAll0 (ns.map PyData.int) = true
  | [] => by simp [PyData.canLayAll0]
  | n :: r => by
    rw [List.map_cons, PyData.canLayAll0, canLay_ints r]; simp [PyData.canLay0]
theorem depth_ints : ∀ ns : List Int, PyData.depthAll (ns.map PyData.int) ≤ 1
  | [] => by simp [PyData.depthAll]
  | n :: r => by
    have := depth_ints r
    rw [List.map_cons, PyData.depthAll]
    simp [PyData.depth]
    omega
theorem shaped_dI (ns : List Int) : SeqAt.shaped (dI ns) = true := by
  have h1 := canLay_ints ns
  have h2 := depth_ints ns
  unfold SeqAt.shaped dI
  rw [Bool.and_eq_true, PyData.canLay0, PyData.depth]
  exact ⟨h1, decide_eq_true (by omega)⟩
theorem eqvAll_ints : ∀ ns ms : List Int, PyData.eqvAll (ns.map PyData.int) (ms.map PyData.int) = decide (ns = ms)
  | [], [] => by simp [PyData.eqvAll]
  | [], m :: r => by simp [PyData.eqvAll]
  | n :: r, [] => by simp [PyData.eqvAll]
  | n :: r, m :: s => by
    rw [List.map_cons, List.map_cons, PyData.eqvAll, eqvAll_ints r s]
    simp [PyData.eqv, Bool.beq_eq_decide_eq]
theorem eqv_dI (ns ms : List Int) : PyData.eqv (dI ns) (dI ms) = decide (ns = ms) := by
  unfold dI
  rw [PyData.eqv, eqvAll_ints]
theorem r_eqInts {K : PySem.W.Frag} {H : Hp} {Q : VK} {a b : Addr} {ns ms : List Int} (h1 : SqL K H a (ns.map V.int)) (h2 : SqL K H b (ms.map V.int)) (q : Q (.bl (decide (ns = ms))) H) : rEqD K (.ref a) (.ref b) H Q :=
  ⟨_, _, dp_listI h1, dp_listI h2, shaped_dI ns, shaped_dI ms, by rw [show PyData.eqv (.list (ns.map PyData.int)) (.list (ms.map PyData.int)) = decide (ns = ms) from eqv_dI ns ms]; exact q⟩
theorem r_neInts {K : PySem.W.Frag} {H : Hp} {Q : VK} {a b : Addr} {ns ms : List Int} (h1 : SqL K H a (ns.map V.int)) (h2 : SqL K H b (ms.map V.int)) (q : Q (.bl (!decide (ns = ms))) H) : rNeD K (.ref a) (.ref b) H Q :=
  ⟨_, _, dp_listI h1, dp_listI h2, shaped_dI ns, shaped_dI ms, by rw [show PyData.eqv (.list (ns.map PyData.int)) (.list (ms.map PyData.int)) = decide (ns = ms) from eqv_dI ns ms]; exact q⟩
/-! ### loops -/
def Lp (J : It) (g : TG) (tb : TS) (D : Ends) (σ : L2.St) (H : Hp) : Prop := ∃ W : Nat → Nat → L2.St → Hp → Prop, (∃ m, W 0 m σ H) ∧ ∀ i m σ H, W i m σ H →
  (J.stop i H ∧ D.nx σ H) ∨ (J.go i H ∧ ∃ N : L2.St → Hp → Prop, (∀ σ' H', N σ' H' → ∃ m', m' < m ∧ W (i + 1) m' σ' H') ∧ ∀ x H', J.yld i H x H' → g x σ H' fun σ2 H2 => tb { D with nx := N, ct := N, bk := D.nx } σ2 H2)
section
variable {K : PySem.W.Frag} {σ : L2.St} {H : Hp} {D : Ends} {te : TE} {ta : TA} {tb : TS} {g : TG} {wi : TI}
theorem r_for (h : wi σ H fun J H1 => Lp J g tb D σ H1) : tFor wi g tb D σ H := h
theorem r_iList {R : It → Hp → Prop} (h : te σ H fun x H1 => ∃ a, x = .ref a ∧ (∃ xs, SqL K H1 a xs) ∧ R (Itl K a) H1) : iList K te σ H R := h
theorem r_iListA {a : Addr} {xs : List V} (h : SqL K H a xs) (q : Lp (Itl K a) g tb D σ H) : ∃ a', V.ref a = .ref a' ∧ (∃ xs, SqL K H a' xs) ∧ Lp (Itl K a') g tb D σ H := ⟨a, rfl, ⟨xs, h⟩, q⟩
theorem r_iTup {R : It → Hp → Prop} (h : te σ H fun x H1 => ∃ a, x = .ref a ∧ (∃ xs, SqT K H1 a xs) ∧ R (Itt K a) H1) : iTup K te σ H R := h
theorem r_iTupA {a : Addr} {xs : List V} (h : SqT K H a xs) (q : Lp (Itt K a) g tb D σ H) : ∃ a', V.ref a = .ref a' ∧ (∃ xs, SqT K H a' xs) ∧ Lp (Itt K a') g tb D σ H := ⟨a, rfl, ⟨xs, h⟩, q⟩
theorem r_iRng1 {R : It → Hp → Prop} (h : ta σ H fun vs H1 => ∃ j : Int, vs = [.int j] ∧ -(2 ^ 62) ≤ j ∧ j < 2 ^ 62 ∧ R (Itr 0 j.toNat) H1) : iRng1 ta σ H R := h
theorem r_iRng1A {j : Int} (h0 : -(2 ^ 62) ≤ j) (h1 : j < 2 ^ 62) (q : Lp (Itr 0 j.toNat) g tb D σ H) : ∃ j' : Int, [V.int j] = [.int j'] ∧ -(2 ^ 62) ≤ j' ∧ j' < 2 ^ 62 ∧ Lp (Itr 0 j'.toNat) g tb D σ H := ⟨j, rfl, h0, h1, q⟩
theorem r_iRng2 {R : It → Hp → Prop} (h : ta σ H fun vs H1 => ∃ i j : Int, vs = [.int i, .int j] ∧ (-(2 ^ 62) ≤ i ∧ i < 2 ^ 62 ∧ -(2 ^ 62) ≤ j ∧ j < 2 ^ 62) ∧ R (Itr i (j - i).toNat) H1) : iRng2 ta σ H R := h
theorem r_iRng2A {i j : Int} (hb : -(2 ^ 62) ≤ i ∧ i < 2 ^ 62 ∧ -(2 ^ 62) ≤ j ∧ j < 2 ^ 62) (q : Lp (Itr i (j - i).toNat) g tb D σ H) : ∃ i' j' : Int, [V.int i, V.int j] = [.int i', .int j'] ∧ (-(2 ^ 62) ≤ i' ∧ i' < 2 ^ 62 ∧ -(2 ^ 62) ≤ j' ∧ j' < 2 ^ 62) ∧ Lp (Itr i' (j' - i').toNat) g tb D σ H := ⟨i, j, rfl, hb, q⟩
theorem r_iRev {R : It → Hp → Prop} (h : ta σ H fun vs H1 => ∃ (a : Addr) (xs : List V), vs = [.ref a] ∧ SqL K H1 a xs ∧ R (Itv K a xs.length) H1) : iRev K ta σ H R := h
theorem r_iRevA {a : Addr} {xs : List V} (h : SqL K H a xs) (q : Lp (Itv K a xs.length) g tb D σ H) : ∃ (a' : Addr) (xs : List V), [V.ref a] = [.ref a'] ∧ SqL K H a' xs ∧ Lp (Itv K a' xs.length) g tb D σ H := ⟨a, xs, rfl, h, q⟩
theorem r_iEnum {R : It → Hp → Prop} (h : ta σ H fun vs H1 => ∃ a xs, vs = [.ref a] ∧ SqL K H1 a xs ∧ R (Ite K a) H1) : iEnum K ta σ H R := h
theorem r_iEnumA {a : Addr} {xs : List V} (h : SqL K H a xs) (q : Lp (Ite K a) g tb D σ H) : ∃ (a' : Addr) (xs : List V), [V.ref a] = [.ref a'] ∧ SqL K H a' xs ∧ Lp (Ite K a') g tb D σ H := ⟨a, xs, rfl, h, q⟩
theorem r_iRevR {tr : L2.St → Hp → (Int → Int → Hp → Prop) → Prop} {R : It → Hp → Prop} (h : tr σ H fun a b H1 => -(2 ^ 62) ≤ a ∧ a < 2 ^ 62 ∧ -(2 ^ 62) ≤ b ∧ b < 2 ^ 62 ∧ R (Itc (a + (((b - a).toNat : Nat) : Int) - 1) (-1) (b - a).toNat) H1) : iRevR tr σ H R := h

theorem loop_list {a : Addr} {xs : List V} (Pv : Nat → L2.St → Hp → Prop) (h0 : Pv 0 σ H) (hl : ∀ i σ H, i ≤ xs.length → Pv i σ H → SqL K H a xs)
    (hs : ∀ i x σ H, xs[i]? = some x → Pv i σ H → g x σ H fun σ2 H2 => tb { D with nx := Pv (i + 1), ct := Pv (i + 1), bk := D.nx } σ2 H2) (hd : ∀ σ H, Pv xs.length σ H → D.nx σ H) : Lp (Itl K a) g tb D σ H := for_list Pv h0 hl hs hd
/-- a loop over a list of ints -/
theorem loop_ints {a : Addr} {ns : List Int} {j : Nat} (Pv : Nat → L2.St → Hp → Prop) (h0 : Pv 0 σ H) (hl : ∀ i σ H, i ≤ ns.length → Pv i σ H → SqL K H a (ns.map V.int))
    (hs : ∀ i x σ H, ns[i]? = some x → Pv i σ H → tb { D with nx := Pv (i + 1), ct := Pv (i + 1), bk := D.nx } (σ.set j (some (.int x))) H) (hd : ∀ σ H, Pv ns.length σ H → D.nx σ H) : Lp (Itl K a) (gName j) tb D σ H :=
  for_list (xs := ns.map V.int) Pv h0 (fun i σ H h => hl i σ H (by rw [List.length_map] at h; exact h)) (fun i x σ H hx hp => by
    rw [List.getElem?_map] at hx
    cases e : ns[i]? with
    | none => rw [e] at hx; cases hx
    | some z => rw [e] at hx; cases hx; exact hs i z σ H e hp) (fun σ H h => hd σ H (by rw [List.length_map] at h; exact h))
theorem loop_tup {a : Addr} {xs : List V} (Pv : Nat → L2.St → Hp → Prop) (h0 : Pv 0 σ H) (hl : ∀ i σ H, i ≤ xs.length → Pv i σ H → SqT K H a xs)
    (hs : ∀ i x σ H, xs[i]? = some x → Pv i σ H → g x σ H fun σ2 H2 => tb { D with nx := Pv (i + 1), ct := Pv (i + 1), bk := D.nx } σ2 H2) (hd : ∀ σ H, Pv xs.length σ H → D.nx σ H) : Lp (Itt K a) g tb D σ H := for_tup Pv h0 hl hs hd
theorem loop_range {lo : Int} {n : Nat} {j : Nat} (Pv : Nat → L2.St → Hp → Prop) (h0 : Pv 0 σ H)
    (hs : ∀ i σ H, i < n → Pv i σ H → tb { D with nx := Pv (i + 1), ct := Pv (i + 1), bk := D.nx } (σ.set j (some (.int (lo + (i : Int))))) H) (hd : ∀ σ H, Pv n σ H → D.nx σ H) : Lp (Itr lo n) (gName j) tb D σ H := for_range Pv h0 hs hd
theorem loop_range0 {n : Nat} {j : Nat} (Pv : Nat → L2.St → Hp → Prop) (h0 : Pv 0 σ H)
    (hs : ∀ i σ H, i < n → Pv i σ H → tb { D with nx := Pv (i + 1), ct := Pv (i + 1), bk := D.nx } (σ.set j (some (.int (i : Int)))) H) (hd : ∀ σ H, Pv n σ H → D.nx σ H) : Lp (Itr 0 n) (gName j) tb D σ H :=
  for_range Pv h0 (fun i σ H hi hp => by
    have e : (0 : Int) + (i : Int) = (i : Int) := Int.zero_add _
    rw [e]
    exact hs i σ H hi hp) hd
theorem loop_rangeC {lo c : Int} {n : Nat} {j : Nat} (Pv : Nat → L2.St → Hp → Prop) (h0 : Pv 0 σ H)
    (hs : ∀ i σ H, i < n → Pv i σ H → tb { D with nx := Pv (i + 1), ct := Pv (i + 1), bk := D.nx } (σ.set j (some (.int (lo + (i : Int) * c)))) H) (hd : ∀ σ H, Pv n σ H → D.nx σ H) : Lp (Itc lo c n) (gName j) tb D σ H := for_rangeC Pv h0 hs hd
theorem loop_rev {a : Addr} {xs : List V} (Pv : Nat → L2.St → Hp → Prop) (h0 : Pv 0 σ H) (hl : ∀ i σ H, i ≤ xs.length → Pv i σ H → SqL K H a xs)
    (hs : ∀ i x σ H, xs[xs.length - 1 - i]? = some x → i < xs.length → Pv i σ H → g x σ H fun σ2 H2 => tb { D with nx := Pv (i + 1), ct := Pv (i + 1), bk := D.nx } σ2 H2) (hd : ∀ σ H, Pv xs.length σ H → D.nx σ H) : Lp (Itv K a xs.length) g tb D σ H := by
  refine ⟨fun i m σ H => m = xs.length - i ∧ i ≤ xs.length ∧ Pv i σ H, ⟨xs.length, by simp, Nat.zero_le _, h0⟩, ?_⟩
  rintro i m σ H ⟨rfl, hi, p⟩
  have q := hl i σ H hi p
  by_cases hlt : i < xs.length
  · have hk : xs.length - 1 - i < xs.length := by omega
    refine .inr ⟨⟨hlt, xs, xs[xs.length - 1 - i], q, by simp [hk]⟩, Pv (i + 1), fun σ' H' p' => ⟨xs.length - (i + 1), by omega, rfl, hlt, p'⟩, fun x H' y => ?_⟩
    obtain ⟨e, y⟩ := y
    subst e
    exact hs i x σ _ (y xs q) hlt p
  · have e : i = xs.length := by omega
    subst e
    exact .inl ⟨Nat.le_refl _, hd σ H p⟩
theorem loop_enum {a : Addr} {xs : List V} {j k : Nat} (Pv : Nat → L2.St → Hp → Prop) (h0 : Pv 0 σ H) (hl : ∀ i σ H, i ≤ xs.length → Pv i σ H → SqL K H a xs)
    (hs : ∀ i x σ H H', xs[i]? = some x → Pv i σ H → Ex H H' → tb { D with nx := Pv (i + 1), ct := Pv (i + 1), bk := D.nx } ((σ.set j (some (.int (i : Int)))).set k (some x)) H') (hd : ∀ σ H, Pv xs.length σ H → D.nx σ H) :
    Lp (Ite K a) (gTup K 2 (gCons (gName j) (gCons (gName k) gNil))) tb D σ H := by
  refine ⟨fun i m σ H => m = xs.length - i ∧ i ≤ xs.length ∧ Pv i σ H, ⟨xs.length, by simp, Nat.zero_le _, h0⟩, ?_⟩
  rintro i m σ H ⟨rfl, hi, p⟩
  have q := hl i σ H hi p
  by_cases hlt : i < xs.length
  · refine .inr ⟨⟨xs, xs[i], q, by simp [hlt]⟩, Pv (i + 1), fun σ' H' p' => ⟨xs.length - (i + 1), by omega, rfl, hlt, p'⟩, fun v H' y => ?_⟩
    obtain ⟨T, x, rfl, nT, rfl, y⟩ := y
    exact ⟨T, _, rfl, .inl (.inl upd_same), rfl, _, _, rfl, x, [], rfl, rfl, hs i x σ H _ (y xs q) p (Evl.Ex.new nT)⟩
  · have e : i = xs.length := by omega
    subst e
    exact .inl ⟨⟨xs, q, Nat.le_refl _⟩, hd σ H p⟩
theorem r_while {tt : TT} (W : Nat → L2.St → Hp → Prop) (m0 : Nat) (h0 : W m0 σ H)
    (hs : ∀ m σ' H', W m σ' H' → tt σ' H' fun b H1 => if b = true then ∃ N : L2.St → Hp → Prop, (∀ σ2 H2, N σ2 H2 → ∃ m', m' < m ∧ W m' σ2 H2) ∧ tb { D with nx := N, ct := N, bk := D.nx } σ' H1 else D.nx σ' H1) : tWhile tt tb D σ H :=
  ⟨W, ⟨m0, h0⟩, hs⟩
theorem wh_in {W : Nat → L2.St → Hp → Prop} {m : Nat} (h : tb { D with nx := fun σ2 H2 => ∃ m', m' < m ∧ W m' σ2 H2, ct := fun σ2 H2 => ∃ m', m' < m ∧ W m' σ2 H2, bk := D.nx } σ H) :
    ∃ N : L2.St → Hp → Prop, (∀ σ2 H2, N σ2 H2 → ∃ m', m' < m ∧ W m' σ2 H2) ∧ tb { D with nx := N, ct := N, bk := D.nx } σ H := ⟨_, fun _ _ h => h, h⟩
end
/-! ### bounds -/
theorem small_le {n : Nat} (h : n ≤ 16777216) : n ≤ sizeLine := by rw [sizeLine_eq]; exact h
theorem small_lt {n : Nat} (h : n < 16777216) : n < sizeLine := by rw [sizeLine_eq]; exact h
/-! ### comprehensions -/
def Lc (J : It) (g : TG) (tt : TT) (te : TE) (vs : List Nat) (σ : L2.St) (H1 : Hp) (Q : VK) : Prop := ∀ D, H1 D = none → ∃ W : Nat → Nat → Hp → Prop, (∃ m, W 0 m (upd H1 D (.lst []))) ∧ ∀ i m H, W i m H →
  (J.stop i H ∧ Q (.ref D) H) ∨ (J.go i H ∧ ∃ Nx : Hp → Prop, (∀ H', Nx H' → ∃ m', m' < m ∧ W (i + 1) m' H') ∧ ∀ x H', J.yld i H x H' → g x (wipe σ vs) H' fun σ2 H2 => wipe σ2 vs = wipe σ vs ∧ tt σ2 H2 fun b H3 =>
    if b = true then te σ2 H3 fun y H4 => ∃ acc, H4 D = some (.lst acc) ∧ acc.length < sizeLine ∧ Nx (upd H4 D (.lst (acc ++ [y]))) else Nx H3)
theorem r_lc {wi : TI} {g : TG} {tt : TT} {te : TE} {vs : List Nat} {σ : L2.St} {H : Hp} {Q : VK} (h : wi σ H fun J H1 => Lc J g tt te vs σ H1 Q) : tLc wi g tt te vs σ H Q := h
theorem set_set {α : Type} : ∀ (l : List α) (i : Nat) (a b : α), (l.set i a).set i b = l.set i b
  | [], _, _, _ => rfl
  | _ :: _, 0, _, _ => rfl
  | x :: l, i + 1, a, b => by show x :: (l.set i a).set i b = x :: l.set i b; rw [set_set l i a b]
section
variable {K : PySem.W.Frag} {σ : L2.St} {H : Hp} {te : TE} {Q : VK} {g : TG}
theorem r_cListA {a : Addr} {xs : List V} {tt : TT} {vs : List Nat} (h : SqL K H a xs) (q : Lc (Itl K a) g tt te vs σ H Q) : ∃ a', V.ref a = .ref a' ∧ (∃ xs, SqL K H a' xs) ∧ Lc (Itl K a') g tt te vs σ H Q := ⟨a, rfl, ⟨xs, h⟩, q⟩
theorem r_cRng1A {j : Int} {tt : TT} {vs : List Nat} (h0 : -(2 ^ 62) ≤ j) (h1 : j < 2 ^ 62) (q : Lc (Itr 0 j.toNat) g tt te vs σ H Q) : ∃ j' : Int, [V.int j] = [.int j'] ∧ -(2 ^ 62) ≤ j' ∧ j' < 2 ^ 62 ∧ Lc (Itr 0 j'.toNat) g tt te vs σ H Q := ⟨j, rfl, h0, h1, q⟩
theorem r_cRng2A {i j : Int} {tt : TT} {vs : List Nat} (hb : -(2 ^ 62) ≤ i ∧ i < 2 ^ 62 ∧ -(2 ^ 62) ≤ j ∧ j < 2 ^ 62) (q : Lc (Itr i (j - i).toNat) g tt te vs σ H Q) : ∃ i' j' : Int, [V.int i, V.int j] = [.int i', .int j'] ∧ (-(2 ^ 62) ≤ i' ∧ i' < 2 ^ 62 ∧ -(2 ^ 62) ≤ j' ∧ j' < 2 ^ 62) ∧ Lc (Itr i' (j' - i').toNat) g tt te vs σ H Q := ⟨i, j, rfl, hb, q⟩
/-- over a list, each item giving a value by a function -/
theorem lc_map {a : Addr} {xs : List V} {j : Nat} (f : V → V) (hx : SqL K H a xs) (hz : xs.length < 1000000)
    (he : ∀ x, x ∈ xs → ∀ H1, Ex H H1 → ∀ Q' : VK, (∀ H2, Ex H1 H2 → Q' (f x) H2) → te (σ.set j (some x)) H1 Q')
    (q : ∀ p H', H p = none → Ex H H' → H' p = some (.lst (xs.map f)) → Q (.ref p) H') : Lc (Itl K a) (gName j) tYes te [j] σ H Q := fun D hD =>
  lc_list (xs := xs) (fun i H' => Ex H H' ∧ H' D = some (.lst ((xs.take i).map f))) ⟨Evl.Ex.new hD, upd_same⟩ (fun i H' _ p => p.1.l hx)
    (fun i x H' hi p => ⟨by show ((σ.set j none).set j (some x)).set j none = σ.set j none; rw [set_set, set_set], by
      show te ((σ.set j none).set j (some x)) H' _
      rw [set_set]
      refine he x (List.mem_of_getElem? hi) H' p.1 _ fun H2 e2 => ⟨_, e2 D _ p.2, ?_, (Evl.Ex.mut (p.1.trans e2) hD), ?_⟩
      · rw [List.length_map, List.length_take]; exact small_lt (by omega)
      · rw [upd_same, List.take_add_one, hi, List.map_append]; rfl⟩)
    (fun H' p => q D H' hD p.1 (by rw [List.take_length] at p; exact p.2))
/-- over a list of ints, each giving an int -/
theorem lc_ints {a : Addr} {ns : List Int} {j : Nat} (f : Int → Int) (hx : SqL K H a (ns.map V.int)) (hz : ns.length < 1000000)
    (he : ∀ x, x ∈ ns → ∀ H1, Ex H H1 → ∀ Q' : VK, (∀ H2, Ex H1 H2 → Q' (.int (f x)) H2) → te (σ.set j (some (.int x))) H1 Q')
    (q : ∀ p H', H p = none → Ex H H' → H' p = some (.lst ((ns.map f).map V.int)) → Q (.ref p) H') : Lc (Itl K a) (gName j) tYes te [j] σ H Q :=
  lc_map (xs := ns.map V.int) (fun v => match v with | .int x => .int (f x) | v => v) hx (by rw [List.length_map]; exact hz)
    (fun v hv H1 e1 Q' k => by
      obtain ⟨x, hx', rfl⟩ := List.mem_map.mp hv
      exact he x hx' H1 e1 Q' k)
    (fun p H' hp e h => q p H' hp e (by
      rw [List.map_map] at h ⊢
      exact h))
/-- over a range from 0, each giving an int -/
theorem lc_rangeI {n : Nat} {j : Nat} (f : Nat → Int) (hz : n < 1000000)
    (he : ∀ i, i < n → ∀ H1, Ex H H1 → ∀ Q' : VK, (∀ H2, Ex H1 H2 → Q' (.int (f i)) H2) → te (σ.set j (some (.int (i : Int)))) H1 Q')
    (q : ∀ p H', H p = none → Ex H H' → H' p = some (.lst (((List.range n).map f).map V.int)) → Q (.ref p) H') : Lc (Itr 0 n) (gName j) tYes te [j] σ H Q := fun D hD =>
  lc_range (lo := 0) (n := n) (fun i H' => Ex H H' ∧ H' D = some (.lst (((List.range i).map f).map V.int))) ⟨Evl.Ex.new hD, upd_same⟩
    (fun i H' hi p => ⟨by show ((σ.set j none).set j _).set j none = σ.set j none; rw [set_set, set_set], by
      show te ((σ.set j none).set j (some (.int ((0 : Int) + (i : Int))))) H' _
      rw [set_set, show (0 : Int) + (i : Int) = (i : Int) from Int.zero_add _]
      refine he i hi H' p.1 _ fun H2 e2 => ⟨_, e2 D _ p.2, ?_, (Evl.Ex.mut (p.1.trans e2) hD), ?_⟩
      · rw [List.length_map, List.length_map, List.length_range]; exact small_lt (by omega)
      · rw [upd_same, List.range_succ, List.map_append, List.map_append]; rfl⟩)
    (fun H' p => q D H' hD p.1 p.2)
end
/-- an item of a list of ints -/
theorem r_ixI {K : PySem.W.Frag} {H : Hp} {Q : VK} {p : Addr} {i : Int} {ns : List Int} (h : SqL K H p (ns.map V.int)) (h0 : 0 ≤ i) (h1 : i < ns.length) (q : Q (.int (ns.getD i.toNat 0)) H) : rIxL K (.ref p) (.int i) H Q := by
  obtain ⟨k, rfl⟩ : ∃ k : Nat, i = (k : Int) := ⟨i.toNat, by omega⟩
  have hk : k < ns.length := by omega
  refine r_ixL h (atI_nat (j := k) (v := .int ns[k]) ?_) ?_
  · rw [List.getElem?_map, List.getElem?_eq_getElem hk]; rfl
  · rw [Int.toNat_natCast, List.getD_eq_getElem?_getD, List.getElem?_eq_getElem hk] at q
    exact q
/-- a slice of a list of ints, both ends in it -/
theorem cutI (ns : List Int) (lo hi : Option Int) : cutV (ns.map V.int) lo hi = ((ns.drop (HT.sIx ns.length 0 lo)).take (HT.sIx ns.length ns.length hi - HT.sIx ns.length 0 lo)).map V.int := by
  unfold cutV
  rw [List.length_map, List.map_take, List.map_drop]
/-- the part of a list between two bounds -/
def sliceI (ns : List Int) (lo hi : Option Int) : List Int := (ns.drop (HT.sIx ns.length 0 lo)).take (HT.sIx ns.length ns.length hi - HT.sIx ns.length 0 lo)
theorem sliceI_mem {ns : List Int} {lo hi : Option Int} {x : Int} (h : x ∈ sliceI ns lo hi) : x ∈ ns := List.mem_of_mem_drop (List.mem_of_mem_take h)
theorem sliceI_len (ns : List Int) (lo hi : Option Int) : (sliceI ns lo hi).length ≤ ns.length := by
  unfold sliceI
  rw [List.length_take, List.length_drop]; omega
theorem r_slI {K : PySem.W.Frag} {H : Hp} {Q : VK} {a : Addr} {ns : List Int} {lo hi : Option Int} (h : SqL K H a (ns.map V.int)) (q : ∀ p H', H p = none → Ex H H' → H' p = some (.lst ((sliceI ns lo hi).map V.int)) → Q (.ref p) H') : rSlL K (.ref a) lo hi H Q :=
  r_slL h fun p H' hp e hh => q p H' hp e (by rw [cutI] at hh; exact hh)
theorem r_repN {H : Hp} {Q : VK} {l : Addr} {ns : List Int} {k : Int} (h1 : H l = some (.lst (ns.map V.int))) (hk : k < 2 ^ 63) (z : ns.length * k.toNat ≤ 16777216) (q : ∀ p H', H p = none → Ex H H' → H' p = some (.lst (((List.replicate k.toNat ns).flatten).map V.int)) → Q (.ref p) H') (h0 : -(2 ^ 63) ≤ k := by omega) : rRep (.ref l) (.int k) H Q :=
  ⟨l, k, _, rfl, rfl, h1, h0, hk, by rw [List.length_map]; exact small0 z, newL fun p H' a b c => q p H' a b (by rw [List.map_flatten, List.map_replicate]; exact c)⟩
def insI (ns : List Int) (i : Int) (y : Int) : List Int := ns.take i.toNat ++ [y] ++ ns.drop i.toNat
theorem insI_mem {ns : List Int} {i y x : Int} : x ∈ insI ns i y ↔ x = y ∨ x ∈ ns := by
  unfold insI
  have h : x ∈ ns ↔ x ∈ ns.take i.toNat ∨ x ∈ ns.drop i.toNat := by rw [← List.mem_append, List.take_append_drop]
  rw [h, List.mem_append, List.mem_append, List.mem_singleton]
  constructor
  · rintro ((h | h) | h)
    · exact .inr (.inl h)
    · exact .inl h
    · exact .inr (.inr h)
  · rintro (h | h | h)
    · exact .inl (.inr h)
    · exact .inl (.inl h)
    · exact .inr h
theorem insI_len (ns : List Int) (i y : Int) : (insI ns i y).length = ns.length + 1 := by
  unfold insI
  rw [List.length_append, List.length_append, List.length_take, List.length_drop]
  show min i.toNat ns.length + 1 + (ns.length - i.toNat) = _
  omega
theorem r_insertI {H : Hp} {Q : VK} {l : Addr} {ns : List Int} {i y : Int} (h : H l = some (.lst (ns.map V.int))) (z : ns.length < 16777216) (h0 : 0 ≤ i) (h1 : i < 2 ^ 63) (q : ∀ H', Exb l H H' → H' l = some (.lst ((insI ns i y).map V.int)) → Q .non H') : rInsert (.ref l) [.int i, .int y] H Q :=
  r_insert h (by rw [List.length_map]; exact small_lt z) h0 h1 fun H' e hh => q H' e (by
    unfold insI
    rw [List.map_append, List.map_append, List.map_take, List.map_drop]
    exact hh)
theorem r_appendI {H : Hp} {Q : VK} {l : Addr} {ns : List Int} {y : Int} (h : H l = some (.lst (ns.map V.int))) (z : ns.length < 16777216) (q : ∀ H', Exb l H H' → H' l = some (.lst ((ns ++ [y]).map V.int)) → Q .non H') : rAppend (.ref l) [.int y] H Q :=
  r_append h (by rw [List.length_map]; exact small_lt z) fun H' e hh => q H' e (by rw [List.map_append]; exact hh)
theorem r_catI {H : Hp} {Q : VK} {l b : Addr} {ns ms : List Int} (h1 : H l = some (.lst (ns.map V.int))) (h2 : H b = some (.lst (ms.map V.int))) (z : ns.length + ms.length ≤ 16777216) (q : ∀ p H', H p = none → Ex H H' → H' p = some (.lst ((ns ++ ms).map V.int)) → Q (.ref p) H') : rCat (.ref l) (.ref b) H Q :=
  r_cat h1 h2 (by rw [List.length_map, List.length_map]; exact small0 z) fun p H' a e hh => q p H' a e (by rw [List.map_append]; exact hh)
theorem i_t {A B : Prop} (h : A) : if true = true then A else B := iteT h
theorem i_f {A B : Prop} (h : B) : if false = true then A else B := iteF h
theorem i_nt {A B : Prop} (h : B) : if (!true) = true then A else B := iteF h
theorem i_nf {A B : Prop} (h : A) : if (!false) = true then A else B := iteT h
theorem sliceI_to {ns : List Int} {n : Nat} (h : n ≤ ns.length) : sliceI ns none (some (n : Int)) = ns.take n := by
  unfold sliceI
  rw [HT.sIx_none, HT.sIx_nat, List.drop_zero, Nat.min_eq_left h]; rfl
theorem sliceI_toI {ns : List Int} {n : Int} (h0 : 0 ≤ n) : sliceI ns none (some n) = ns.take n.toNat := by
  obtain ⟨k, rfl⟩ : ∃ k : Nat, n = (k : Int) := ⟨n.toNat, by omega⟩
  unfold sliceI
  rw [HT.sIx_none, HT.sIx_nat, List.drop_zero, Int.toNat_natCast, Nat.sub_zero]
  by_cases h : k ≤ ns.length
  · rw [Nat.min_eq_left h]
  · rw [Nat.min_eq_right (by omega), List.take_length, List.take_of_length_le (by omega)]
theorem sliceI_fromI {ns : List Int} {n : Int} (h0 : 0 ≤ n) : sliceI ns (some n) none = ns.drop n.toNat := by
  obtain ⟨k, rfl⟩ : ∃ k : Nat, n = (k : Int) := ⟨n.toNat, by omega⟩
  unfold sliceI
  rw [HT.sIx_none, HT.sIx_nat, Int.toNat_natCast]
  by_cases h : k ≤ ns.length
  · rw [Nat.min_eq_left h, List.take_of_length_le (by rw [List.length_drop]; omega)]
  · rw [Nat.min_eq_right (by omega), List.drop_eq_nil_of_le (by omega : ns.length ≤ k), List.drop_length, List.take_nil]
theorem sliceI_bothI {ns : List Int} {n m : Int} (h0 : 0 ≤ n) (h1 : n ≤ m) : sliceI ns (some n) (some m) = (ns.drop n.toNat).take (m.toNat - n.toNat) := by
  obtain ⟨k, rfl⟩ : ∃ k : Nat, n = (k : Int) := ⟨n.toNat, by omega⟩
  obtain ⟨l, rfl⟩ : ∃ l : Nat, m = (l : Int) := ⟨m.toNat, by omega⟩
  unfold sliceI
  rw [HT.sIx_nat, HT.sIx_nat, Int.toNat_natCast, Int.toNat_natCast]
  by_cases h : k ≤ ns.length
  · rw [Nat.min_eq_left h]
    by_cases h' : l ≤ ns.length
    · rw [Nat.min_eq_left h']
    · rw [Nat.min_eq_right (by omega), List.take_of_length_le (by rw [List.length_drop]; omega), List.take_of_length_le (by rw [List.length_drop]; omega)]
  · rw [Nat.min_eq_right (show ns.length ≤ k by omega), List.drop_length, List.drop_eq_nil_of_le (by omega : ns.length ≤ k)]; simp
/-- what a def that makes a new list of ints promises -/
def RetI (xs : List Int) (H : Hp) (Q : VK) : Prop := ∀ p H', H p = none → Ex H H' → H' p = some (.lst (xs.map V.int)) → Q (.ref p) H'
theorem RetI.go {xs : List Int} {H H1 : Hp} {Q : VK} (k : RetI xs H Q) (e : Ex H H1) {p : Addr} {H2 : Hp} (hp : H1 p = none) (e2 : Ex H1 H2) (h : H2 p = some (.lst (xs.map V.int))) : Q (.ref p) H2 := k p H2 (Evl.fresh_back e hp) (e.trans e2) h
/-! ### the heap since the entry -/
/-- all that stood in H stands in H' (the same as Ex, kept apart) -/
structure Fx (H H' : Hp) : Prop where
  to : Ex H H'
theorem Fx.refl (H : Hp) : Fx H H := ⟨Evl.Ex.refl H⟩
theorem Fx.ex {H H1 H2 : Hp} (f : Fx H H1) (e : Ex H1 H2) : Fx H H2 := ⟨Evl.Ex.trans f.to e⟩
theorem Fx.of {H H1 : Hp} (e : Ex H H1) : Fx H H1 := ⟨e⟩
theorem Fx.mut {H H1 H2 : Hp} {l : Addr} (f : Fx H H1) (b : Exb l H1 H2) (h : H l = none) : Fx H H2 := ⟨Evl.Ex.mutb f.to b h⟩
theorem Fx.free {H H1 : Hp} {p : Addr} (f : Fx H H1) (h : H1 p = none) : H p = none := Evl.fresh_back f.to h
theorem Fx.l {K : PySem.W.Frag} {H H' : Hp} {a : Addr} {xs : List V} (e : Fx H H') (h : SqL K H a xs) : SqL K H' a xs := Evl.ex_l e.to h
theorem hx_e {H H' : Hp} {a : Addr} {o : HO} (e : Ex H H') (h : H a = some o) : H' a = some o := e a o h
theorem hx_b {H H' : Hp} {a l : Addr} {o : HO} (e : Exb l H H') (n : a ≠ l) (h : H a = some o) : H' a = some o := e a n o h
theorem ne_1 {H : Hp} {a l : Addr} {o : HO} (h' : H l = none) (h : H a = some o) : a ≠ l := ne_of_none h h'
theorem ne_2 {H : Hp} {a l : Addr} {o : HO} (h' : H a = none) (h : H l = some o) : a ≠ l := (ne_of_none h h').symm
def tTru (K : PySem.W.Frag) (te : TE) : TT := fun σ H Q => te σ H fun x H' => ∃ k, TruV K x H' k ∧ Q k H'
theorem pt_tru {X : Cx} {a : Expr} {ta : TE} (ha : PE X a ta) (he : ∀ whole, isTrue a X.env whole = (do let v ← whole; standAt a.pos; holding [v] (truthy v)) := by intro _; rfl) : PT X a (tTru X.K ta) := pt_truth ha he
theorem r_tru {K : PySem.W.Frag} {te : TE} {σ : L2.St} {H : Hp} {Q : Bool → Hp → Prop} (h : te σ H fun x H' => ∃ k, TruV K x H' k ∧ Q k H') : tTru K te σ H Q := h
theorem r_truL {K : PySem.W.Frag} {a : Addr} {xs : List V} {H : Hp} {Q : Bool → Prop} (h : SqL K H a xs) (q : Q (!xs.isEmpty)) : ∃ k, TruV K (.ref a) H k ∧ Q k := ⟨_, .inl ⟨xs, h, rfl⟩, q⟩
def RevK (K : PySem.W.Frag) (Q : VK) : V → Hp → Prop := fun x H1 => ∃ a xs, x = .ref a ∧ SqL K H1 a xs ∧ ∀ p, H1 p = none → Q (.ref p) (upd H1 p (.lst xs.reverse))
theorem r_rev {K : PySem.W.Frag} {te : TE} {σ : L2.St} {H : Hp} {Q : VK} (h : te σ H (RevK K Q)) : tRevL K te σ H Q := h
theorem r_revI {K : PySem.W.Frag} {H : Hp} {Q : VK} {a : Addr} {ns : List Int} (h : SqL K H a (ns.map V.int)) (q : ∀ p H', H p = none → Ex H H' → H' p = some (.lst (ns.reverse.map V.int)) → Q (.ref p) H') : RevK K Q (.ref a) H :=
  ⟨a, _, rfl, h, newL fun p H' hp e hh => q p H' hp e (by rw [List.map_reverse]; exact hh)⟩
theorem rg2 {a b : Int} (ha : 0 ≤ a) (ha' : a < 2 ^ 60) (hb : -(2 ^ 60) ≤ b) (hb' : b < 2 ^ 60) : RgC a b 2 ((b - a + 1) / 2).toNat := by
  have e : Builtin.Range.rangeSize a b 2 = (((b - a + 1) / 2).toNat : Int) := by
    unfold Builtin.Range.rangeSize
    rw [if_pos (by decide)]
    split <;> omega
  refine ⟨by decide, by decide, ?_, e⟩
  unfold Builtin.Range.small
  rw [e]
  simp only [Builtin.Range.rangeFitsLong, Bool.and_eq_true, Bool.or_eq_true, decide_eq_true_eq, beq_iff_eq, show ((2 : Int) > 0) by decide, if_true]
  omega
theorem r_iRng3 {ta : TA} {σ : L2.St} {H : Hp} {R : It → Hp → Prop} (h : ta σ H fun vs H1 => ∃ (i j c : Int) (n : Nat), vs = [.int i, .int j, .int c] ∧ RgC i j c n ∧ R (Itc i c n) H1) : iRng3 ta σ H R := h
theorem r_iRng3A {g : TG} {tb : TS} {D : Ends} {σ : L2.St} {H : Hp} {i j c : Int} {n : Nat} (h : RgC i j c n) (q : Lp (Itc i c n) g tb D σ H) : ∃ (i' j' c' : Int) (n : Nat), [V.int i, V.int j, V.int c] = [.int i', .int j', .int c'] ∧ RgC i' j' c' n ∧ Lp (Itc i' c' n) g tb D σ H := ⟨i, j, c, n, rfl, h, q⟩
/-- over a range from lo, each giving an int -/
theorem lc_rangeL {σ : L2.St} {H : Hp} {te : TE} {Q : VK} {lo : Int} {n : Nat} {j : Nat} (f : Nat → Int) (hz : n < 1000000)
    (he : ∀ i, i < n → ∀ H1, Ex H H1 → ∀ Q' : VK, (∀ H2, Ex H1 H2 → Q' (.int (f i)) H2) → te (σ.set j (some (.int (lo + (i : Int))))) H1 Q')
    (q : ∀ p H', H p = none → Ex H H' → H' p = some (.lst (((List.range n).map f).map V.int)) → Q (.ref p) H') : Lc (Itr lo n) (gName j) tYes te [j] σ H Q := fun D hD =>
  lc_range (lo := lo) (n := n) (fun i H' => Ex H H' ∧ H' D = some (.lst (((List.range i).map f).map V.int))) ⟨Evl.Ex.new hD, upd_same⟩
    (fun i H' hi p => ⟨by show ((σ.set j none).set j _).set j none = σ.set j none; rw [set_set, set_set], by
      show te ((σ.set j none).set j (some (.int (lo + (i : Int))))) H' _
      rw [set_set]
      refine he i hi H' p.1 _ fun H2 e2 => ⟨_, e2 D _ p.2, ?_, (Evl.Ex.mut (p.1.trans e2) hD), ?_⟩
      · rw [List.length_map, List.length_map, List.length_range]; exact small_lt (by omega)
      · rw [upd_same, List.range_succ, List.map_append, List.map_append]; rfl⟩)
    (fun H' p => q D H' hD p.1 p.2)
theorem r_lenI {K : PySem.W.Frag} {H : Hp} {Q : VK} {p : Addr} {ns : List Int} (h : SqL K H p (ns.map V.int)) (q : Q (.int ns.length) H) : rLenS K [.ref p] H Q := ⟨p, _, rfl, .inl h, by rw [List.length_map]; exact q⟩
/-- the last item -/
theorem r_ixLast {K : PySem.W.Frag} {H : Hp} {Q : VK} {p : Addr} {ns : List Int} (h : SqL K H p (ns.map V.int)) (h0 : ns ≠ []) (q : Q (.int (ns.getD (ns.length - 1) 0)) H) : rIxL K (.ref p) (.int (-1)) H Q := by
  have e : ns.map V.int = (ns.dropLast.map V.int) ++ [.int (ns.getD (ns.length - 1) 0)] := by
    have e1 : ns.getD (ns.length - 1) 0 = ns.getLast h0 := by
      rw [List.getD_eq_getElem?_getD, ← List.getLast?_eq_getElem?, List.getLast?_eq_some_getLast h0]; rfl
    rw [e1, ← List.map_singleton, ← List.map_append, List.dropLast_concat_getLast]
  exact r_ixL h (by rw [e]; exact atI_last _ _) q
theorem r_truI {K : PySem.W.Frag} {a : Addr} {ns : List Int} {H : Hp} {Q : Bool → Hp → Prop} (h : SqL K H a (ns.map V.int)) (q : Q (!decide (ns = [])) H) : ∃ k, TruV K (.ref a) H k ∧ Q k H := ⟨_, .inl ⟨_, h, rfl⟩, by
  have e : (!(ns.map V.int).isEmpty) = !decide (ns = []) := by
    cases ns with
    | nil => rfl
    | cons x r => rfl
  rw [e]; exact q⟩
theorem r_rg1 {te : TE} {σ : L2.St} {H : Hp} {R : Int → Int → Hp → Prop} (h : te σ H fun x H1 => ∃ b, x = .int b ∧ R 0 b H1) : tRg1 te σ H R := h
theorem r_revRA {g : TG} {tb : TS} {D : Ends} {σ : L2.St} {H : Hp} {b : Int} (h0 : -(2 ^ 62) ≤ b) (h1 : b < 2 ^ 62) (q : Lp (Itc (b.toNat - 1) (-1) b.toNat) g tb D σ H) : -(2 ^ 62) ≤ (0 : Int) ∧ (0 : Int) < 2 ^ 62 ∧ -(2 ^ 62) ≤ b ∧ b < 2 ^ 62 ∧ Lp (Itc (0 + (((b - 0).toNat : Nat) : Int) - 1) (-1) (b - 0).toNat) g tb D σ H := ⟨by decide, by decide, h0, h1, by
  rw [Int.sub_zero, Int.zero_add]; exact q⟩
/-- a loop over range(n), backwards -/
theorem loop_down {n : Nat} {j : Nat} {tb : TS} {D : Ends} {σ : L2.St} {H : Hp} (Pv : Nat → L2.St → Hp → Prop) (h0 : Pv n σ H)
    (hs : ∀ k σ H, k < n → Pv (k + 1) σ H → tb { D with nx := Pv k, ct := Pv k, bk := D.nx } (σ.set j (some (.int (k : Int)))) H) (hd : ∀ σ H, Pv 0 σ H → D.nx σ H) : Lp (Itc ((n : Int) - 1) (-1) n) (gName j) tb D σ H := by
  refine ⟨fun i m σ H => m = n - i ∧ i ≤ n ∧ Pv (n - i) σ H, ⟨n, by simp, Nat.zero_le _, h0⟩, ?_⟩
  rintro i m σ H ⟨rfl, hi, p⟩
  by_cases hlt : i < n
  · refine .inr ⟨hlt, Pv (n - (i + 1)), fun σ' H' p' => ⟨n - (i + 1), by omega, rfl, hlt, p'⟩, fun x H' y => ?_⟩
    obtain ⟨rfl, rfl⟩ := y
    have e1 : (n : Int) - 1 + (i : Int) * -1 = ((n - (i + 1) : Nat) : Int) := by omega
    have e2 : n - i = n - (i + 1) + 1 := by omega
    rw [e1]
    rw [e2] at p
    exact hs (n - (i + 1)) σ _ (by omega) p
  · have e : i = n := by omega
    subst e
    rw [Nat.sub_self] at p
    exact .inl ⟨Nat.le_refl _, hd σ H p⟩
theorem never_ {t : TS} {D : Ends} {σ : L2.St} {H : Hp} (h : False) : t D σ H := h.elim
end RB

set_option linter.all false
/-! Shared divisors. -/
namespace MG
def gcdN (ns : List Int) : Nat := ns.foldl (fun (g : Nat) x => Nat.gcd g x.natAbs) 0
def gcdL (ns : List Int) : Int := (gcdN ns : Int)
theorem fmod_lt {a b : Int} (h : b ≠ 0) : (a.fmod b).natAbs < b.natAbs := by
  by_cases hb : 0 < b
  · have h1 := Int.fmod_nonneg_of_pos a hb
    have h2 := Int.fmod_lt_of_pos a hb
    omega
  · have hb' : 0 < -b := by omega
    have e : a.fmod b = -((-a).fmod (-b)) := by rw [Int.neg_fmod_neg]; omega
    have h1 := Int.fmod_nonneg_of_pos (-a) hb'
    have h2 := Int.fmod_lt_of_pos (-a) hb'
    rw [e]
    omega
theorem gcd_fmod (a b : Int) : Int.gcd b (a.fmod b) = Int.gcd a b := by
  rw [Int.fmod_def, Int.gcd_sub_mul_left_right, Int.gcd_comm]
theorem foldl_gcd (ns : List Int) : ∀ g : Nat, ns.foldl (fun (g : Nat) x => Nat.gcd g x.natAbs) g = Nat.gcd g (gcdN ns) := by
  induction ns with
  | nil => intro g; simp [gcdN]
  | cons x r ih =>
    intro g
    show List.foldl _ (Nat.gcd g x.natAbs) r = _
    rw [ih]
    have e : gcdN (x :: r) = Nat.gcd (x.natAbs) (gcdN r) := by
      show List.foldl _ (Nat.gcd 0 x.natAbs) r = _
      rw [ih, Nat.gcd_zero_left]
    rw [e, Nat.gcd_assoc]
theorem gcdN_cons (x : Int) (r : List Int) : gcdN (x :: r) = Nat.gcd x.natAbs (gcdN r) := by
  show List.foldl _ (Nat.gcd 0 x.natAbs) r = _
  rw [foldl_gcd, Nat.gcd_zero_left]
theorem gcdN_nil : gcdN [] = 0 := rfl
theorem gcdN_append (xs ys : List Int) : gcdN (xs ++ ys) = Nat.gcd (gcdN xs) (gcdN ys) := by
  show List.foldl _ 0 (xs ++ ys) = _
  rw [List.foldl_append, foldl_gcd]; rfl
theorem gcdN_take {ns : List Int} {i : Nat} {x : Int} (h : ns[i]? = some x) : gcdN (ns.take (i + 1)) = Nat.gcd (gcdN (ns.take i)) x.natAbs := by
  rw [List.take_add_one, h, gcdN_append]
  congr 1
  show gcdN [x] = _
  rw [gcdN_cons, gcdN_nil, Nat.gcd_zero_right]
theorem gcdN_dvd {ns : List Int} : ∀ {x : Int}, x ∈ ns → (gcdN ns : Int) ∣ x := by
  induction ns with
  | nil => intro x h; cases h
  | cons y r ih =>
    intro x h
    rw [gcdN_cons]
    rcases List.mem_cons.mp h with rfl | h
    · exact Int.ofNat_dvd_left.mpr (Nat.gcd_dvd_left _ _)
    · exact Int.dvd_trans (Int.ofNat_dvd.mpr (Nat.gcd_dvd_right _ _)) (ih h)
theorem dvd_gcdN {ns : List Int} {d : Nat} (h : ∀ x ∈ ns, (d : Int) ∣ x) : d ∣ gcdN ns := by
  induction ns with
  | nil => exact Nat.dvd_zero _
  | cons y r ih =>
    rw [gcdN_cons]
    exact Nat.dvd_gcd (Int.ofNat_dvd_left.mp (h y (List.mem_cons_self))) (ih fun x hx => h x (List.mem_cons_of_mem _ hx))
theorem gcdN_eq {ns : List Int} {g : Nat} (h1 : ∀ x ∈ ns, (g : Int) ∣ x) (h2 : ∀ d : Nat, (∀ x ∈ ns, (d : Int) ∣ x) → d ∣ g) : gcdN ns = g :=
  Nat.dvd_antisymm (h2 _ fun _ hx => gcdN_dvd hx) (dvd_gcdN h1)
end MG

set_option linter.all false
/-! Lists of coefficients. -/
namespace ML
/-- the coefficient at a place, 0 beyond -/
def cf (P : List Int) (k : Nat) : Int := P.getD k 0
theorem cf_nil (k : Nat) : cf [] k = 0 := by simp [cf]
theorem cf_zero (x : Int) (r : List Int) : cf (x :: r) 0 = x := rfl
theorem cf_succ (x : Int) (r : List Int) (k : Nat) : cf (x :: r) (k + 1) = cf r k := by simp [cf]
theorem cf_get {P : List Int} {k : Nat} (h : k < P.length) : cf P k = P[k] := by
  unfold cf; rw [List.getD_eq_getElem?_getD, List.getElem?_eq_getElem h]; rfl
theorem cf_some {P : List Int} {k : Nat} {x : Int} (h : P[k]? = some x) : cf P k = x := by
  unfold cf; rw [List.getD_eq_getElem?_getD, h]; rfl
theorem cf_beyond {P : List Int} {k : Nat} (h : P.length ≤ k) : cf P k = 0 := by
  unfold cf; rw [List.getD_eq_getElem?_getD, List.getElem?_eq_none h]; rfl
theorem cf_getElem? {P : List Int} {k : Nat} (h : k < P.length) : P[k]? = some (cf P k) := by
  rw [cf_get h, List.getElem?_eq_getElem h]
/-- two lists of one length with the same coefficients are alike -/
theorem ext {P Q : List Int} (hl : P.length = Q.length) (h : ∀ k, k < P.length → cf P k = cf Q k) : P = Q := by
  apply List.ext_getElem hl
  intro i h1 h2
  rw [← cf_get h1, ← cf_get h2]
  exact h i h1
/-- without noughts at the end -/
def Trim (P : List Int) : Prop := P = [] ∨ cf P (P.length - 1) ≠ 0
theorem trim_ext {P Q : List Int} (hP : Trim P) (hQ : Trim Q) (h : ∀ k, cf P k = cf Q k) : P = Q := by
  have aux : ∀ {P Q : List Int}, Trim P → (∀ k, cf P k = cf Q k) → P.length ≤ Q.length := fun {P Q} hP h => by
    rcases hP with rfl | hP
    · exact Nat.zero_le _
    · apply Nat.le_of_not_lt
      intro hl
      have := h (P.length - 1)
      rw [cf_beyond (P := Q) (by omega)] at this
      exact hP this
  exact ext (Nat.le_antisymm (aux hP h) (aux hQ fun k => (h k).symm)) fun k _ => h k
def trimL : List Int → List Int
  | [] => []
  | x :: r => match trimL r with
    | [] => if x = 0 then [] else [x]
    | y :: s => x :: y :: s
theorem cf_trimL : ∀ (P : List Int) (k : Nat), cf (trimL P) k = cf P k
  | [], k => rfl
  | x :: r, k => by
    have ih := cf_trimL r
    unfold trimL
    split
    · next e =>
      rw [e] at ih
      split
      · next hx =>
        subst hx
        cases k with
        | zero => rfl
        | succ k => rw [cf_succ, ← ih k, cf_nil, cf_nil]
      · cases k with
        | zero => rfl
        | succ k => rw [cf_succ, cf_succ, ← ih k]
    · next y s e =>
      rw [e] at ih
      cases k with
      | zero => rfl
      | succ k => rw [cf_succ, cf_succ, ← ih k]
theorem trim_trimL : ∀ P : List Int, Trim (trimL P)
  | [] => .inl rfl
  | x :: r => by
    have ih := trim_trimL r
    unfold trimL
    split
    · split
      · exact .inl rfl
      · next hx => exact .inr hx
    · next y s e =>
      rw [e] at ih
      rcases ih with h | h
      · cases h
      · refine .inr ?_
        show cf (x :: y :: s) (s.length + 1) ≠ 0
        rw [cf_succ]
        exact h
theorem trimL_eq {P Q : List Int} (hQ : Trim Q) (h : ∀ k, cf Q k = cf P k) : trimL P = Q := trim_ext (trim_trimL P) hQ fun k => by rw [cf_trimL, h]
theorem trimL_self {P : List Int} (h : Trim P) : trimL P = P := trimL_eq h fun _ => rfl
theorem trimL_trimL (P : List Int) : trimL (trimL P) = trimL P := trimL_self (trim_trimL P)
theorem trimL_len : ∀ P : List Int, (trimL P).length ≤ P.length
  | [] => Nat.le_refl _
  | x :: r => by
    have ih := trimL_len r
    unfold trimL
    split
    · split <;> simp
    · next y s e =>
      rw [e] at ih
      simp only [List.length_cons] at ih ⊢
      omega
theorem trimL_congr {P Q : List Int} (h : ∀ k, cf P k = cf Q k) : trimL P = trimL Q := trim_ext (trim_trimL P) (trim_trimL Q) fun k => by rw [cf_trimL, cf_trimL, h]
/-- what the loop finds -/
theorem trimL_take {P : List Int} {n : Nat} (hn : n ≤ P.length) (h0 : ∀ k, n ≤ k → cf P k = 0) (h1 : n = 0 ∨ cf P (n - 1) ≠ 0) : trimL P = P.take n := by
  have hc : ∀ k, cf (P.take n) k = cf P k := fun k => by
    by_cases hk : k < n
    · unfold cf
      rw [List.getD_eq_getElem?_getD, List.getD_eq_getElem?_getD, List.getElem?_take_of_lt hk]
    · rw [h0 k (by omega), cf_beyond (by rw [List.length_take]; omega)]
  refine trimL_eq ?_ hc
  rcases h1 with h1 | h1
  · left; subst h1; rfl
  · by_cases hz : n = 0
    · left; subst hz; rfl
    · right
      rw [List.length_take, Nat.min_eq_left hn, hc]
      exact h1
/-- all coefficients below 2 ^ n -/
def Sz (n : Nat) (P : List Int) : Prop := ∀ x ∈ P, x.natAbs < 2 ^ n
theorem Sz.cf {n : Nat} {P : List Int} (h : Sz n P) (k : Nat) : (cf P k).natAbs < 2 ^ n := by
  by_cases hk : k < P.length
  · rw [cf_get hk]; exact h _ (List.getElem_mem hk)
  · rw [cf_beyond (by omega)]; exact Nat.two_pow_pos n
theorem Sz.of {n : Nat} {P : List Int} (h : ∀ k, k < P.length → (ML.cf P k).natAbs < 2 ^ n) : Sz n P := fun x hx => by
  obtain ⟨k, hk, rfl⟩ := List.getElem_of_mem hx
  rw [← cf_get hk]; exact h k hk
theorem Sz.mono {n m : Nat} {P : List Int} (h : Sz n P) (hm : n ≤ m) : Sz m P := fun x hx => Nat.lt_of_lt_of_le (h x hx) (Nat.pow_le_pow_right (by decide) hm)
theorem Sz.trim {n : Nat} {P : List Int} (h : Sz n P) : Sz n (trimL P) := Sz.of fun k _ => by rw [cf_trimL]; exact h.cf k
theorem Sz.take {n : Nat} {P : List Int} (h : Sz n P) (k : Nat) : Sz n (P.take k) := fun x hx => h x (List.mem_of_mem_take hx)
theorem Sz.drop {n : Nat} {P : List Int} (h : Sz n P) (k : Nat) : Sz n (P.drop k) := fun x hx => h x (List.mem_of_mem_drop hx)
theorem Sz.append {n : Nat} {P Q : List Int} (h : Sz n P) (h' : Sz n Q) : Sz n (P ++ Q) := fun x hx => (List.mem_append.mp hx).elim (h x) (h' x)
theorem Sz.nil (n : Nat) : Sz n [] := fun x hx => by cases hx
theorem Sz.cons {n : Nat} {x : Int} {P : List Int} (hx : x.natAbs < 2 ^ n) (h : Sz n P) : Sz n (x :: P) := fun y hy => (List.mem_cons.mp hy).elim (fun e => by rw [e]; exact hx) (h y)
theorem Sz.rep0 (n k : Nat) : Sz n (List.replicate k 0) := fun x hx => by
  rw [List.mem_replicate] at hx
  rw [hx.2]; exact Nat.two_pow_pos n
theorem Sz.reverse {n : Nat} {P : List Int} (h : Sz n P) : Sz n P.reverse := fun x hx => h x (List.mem_reverse.mp hx)
theorem cf_map {f : Int → Int} (h0 : f 0 = 0) (P : List Int) (k : Nat) : cf (P.map f) k = f (cf P k) := by
  unfold cf
  rw [List.getD_eq_getElem?_getD, List.getD_eq_getElem?_getD, List.getElem?_map]
  cases P[k]? with
  | none => exact h0.symm
  | some x => rfl
theorem cf_range {n : Nat} {f : Nat → Int} {k : Nat} (h : k < n) : cf ((List.range n).map f) k = f k := by
  rw [cf_get (by simpa using h)]; simp
theorem cf_range_beyond {n : Nat} {f : Nat → Int} {k : Nat} (h : n ≤ k) : cf ((List.range n).map f) k = 0 := cf_beyond (by simpa using h)
theorem cf_set {P : List Int} {i k : Nat} {x : Int} (h : i < P.length) : cf (P.set i x) k = if k = i then x else cf P k := by
  unfold cf
  rw [List.getD_eq_getElem?_getD, List.getElem?_set, List.getD_eq_getElem?_getD]
  by_cases e : i = k
  · subst e; simp [h]
  · rw [if_neg e, if_neg (fun z => e z.symm)]
theorem cf_append_left {P Q : List Int} {k : Nat} (h : k < P.length) : cf (P ++ Q) k = cf P k := by
  unfold cf
  rw [List.getD_eq_getElem?_getD, List.getElem?_append_left h, List.getD_eq_getElem?_getD]
theorem cf_append_right {P Q : List Int} {k : Nat} (h : P.length ≤ k) : cf (P ++ Q) k = cf Q (k - P.length) := by
  unfold cf
  rw [List.getD_eq_getElem?_getD, List.getElem?_append_right h, List.getD_eq_getElem?_getD]
theorem cf_rep0 (n k : Nat) : cf (List.replicate n 0) k = 0 := by
  unfold cf
  rw [List.getD_eq_getElem?_getD, List.getElem?_replicate]
  split <;> rfl
theorem cf_drop (P : List Int) (n k : Nat) : cf (P.drop n) k = cf P (n + k) := by
  unfold cf
  rw [List.getD_eq_getElem?_getD, List.getElem?_drop, List.getD_eq_getElem?_getD]
theorem cf_take {P : List Int} {n k : Nat} (h : k < n) : cf (P.take n) k = cf P k := by
  unfold cf
  rw [List.getD_eq_getElem?_getD, List.getD_eq_getElem?_getD, List.getElem?_take_of_lt h]

/-! ### sums and products -/
def addL (P Q : List Int) : List Int := trimL ((List.range (max P.length Q.length)).map fun k => cf P k + cf Q k)
def subL (P Q : List Int) : List Int := trimL ((List.range (max P.length Q.length)).map fun k => cf P k - cf Q k)
theorem cf_addL (P Q : List Int) (k : Nat) : cf (addL P Q) k = cf P k + cf Q k := by
  unfold addL
  rw [cf_trimL]
  by_cases h : k < max P.length Q.length
  · rw [cf_range h]
  · rw [cf_range_beyond (by omega), cf_beyond (P := P) (by omega), cf_beyond (P := Q) (by omega)]; rfl
theorem cf_subL (P Q : List Int) (k : Nat) : cf (subL P Q) k = cf P k - cf Q k := by
  unfold subL
  rw [cf_trimL]
  by_cases h : k < max P.length Q.length
  · rw [cf_range h]
  · rw [cf_range_beyond (by omega), cf_beyond (P := P) (by omega), cf_beyond (P := Q) (by omega)]; rfl
theorem trim_addL (P Q : List Int) : Trim (addL P Q) := trim_trimL _
theorem trim_subL (P Q : List Int) : Trim (subL P Q) := trim_trimL _
/-- the sum of f over 0 .. n - 1 -/
def sm : Nat → (Nat → Int) → Int
  | 0, _ => 0
  | n + 1, f => sm n f + f n
theorem sm_succ (n : Nat) (f : Nat → Int) : sm (n + 1) f = sm n f + f n := rfl
theorem sm_congr {n : Nat} {f g : Nat → Int} (h : ∀ i, i < n → f i = g i) : sm n f = sm n g := by
  induction n with
  | zero => rfl
  | succ n ih => unfold sm; rw [ih fun i hi => h i (by omega), h n (by omega)]
theorem sm_zero {n : Nat} {f : Nat → Int} (h : ∀ i, i < n → f i = 0) : sm n f = 0 := by
  induction n with
  | zero => rfl
  | succ n ih => unfold sm; rw [ih fun i hi => h i (by omega), h n (by omega)]; rfl
theorem sm_add (n : Nat) (f g : Nat → Int) : sm n (fun i => f i + g i) = sm n f + sm n g := by
  induction n with
  | zero => rfl
  | succ n ih => simp only [sm_succ]; rw [ih]; omega
theorem sm_sub (n : Nat) (f g : Nat → Int) : sm n (fun i => f i - g i) = sm n f - sm n g := by
  induction n with
  | zero => rfl
  | succ n ih => simp only [sm_succ]; rw [ih]; omega
theorem sm_mul (n : Nat) (c : Int) (f : Nat → Int) : sm n (fun i => c * f i) = c * sm n f := by
  induction n with
  | zero => simp [sm]
  | succ n ih => unfold sm; rw [ih, Int.mul_add]
theorem sm_mul_r (n : Nat) (c : Int) (f : Nat → Int) : sm n (fun i => f i * c) = sm n f * c := by
  rw [Int.mul_comm, ← sm_mul]; exact sm_congr fun i _ => Int.mul_comm _ _
theorem sm_neg (n : Nat) (f : Nat → Int) : sm n (fun i => - f i) = - sm n f := by
  induction n with
  | zero => rfl
  | succ n ih => simp only [sm_succ]; rw [ih]; omega
theorem sm_ext {n m : Nat} {f : Nat → Int} (h : n ≤ m) (h0 : ∀ i, n ≤ i → i < m → f i = 0) : sm m f = sm n f := by
  induction m with
  | zero => have : n = 0 := by omega
            subst this; rfl
  | succ m ih =>
    by_cases e : n = m + 1
    · subst e; rfl
    · rw [sm_succ, ih (by omega) fun i h1 h2 => h0 i h1 (by omega), h0 m (by omega) (by omega)]
      omega
theorem sm_single {n : Nat} {f : Nat → Int} {j : Nat} (hj : j < n) (h : ∀ i, i < n → i ≠ j → f i = 0) : sm n f = f j := by
  induction n with
  | zero => omega
  | succ n ih =>
    unfold sm
    by_cases e : j = n
    · subst e
      rw [sm_zero fun i hi => h i (by omega) (by omega)]; omega
    · rw [ih (by omega) fun i hi hn => h i (by omega) hn, h n (by omega) (fun z => e z.symm)]; omega
theorem sm_shift (n : Nat) (f : Nat → Int) : sm (n + 1) f = f 0 + sm n (fun i => f (i + 1)) := by
  induction n with
  | zero => simp [sm]
  | succ n ih =>
    rw [sm, ih]
    show f 0 + sm n (fun i => f (i + 1)) + f (n + 1) = f 0 + (sm n (fun i => f (i + 1)) + f (n + 1))
    omega
theorem sm_rev (n : Nat) (f : Nat → Int) : sm n (fun i => f (n - 1 - i)) = sm n f := by
  induction n generalizing f with
  | zero => rfl
  | succ n ih =>
    rw [sm_shift, sm]
    have e : sm n (fun i => f (n + 1 - 1 - (i + 1))) = sm n f := by
      rw [← ih f]
      exact sm_congr fun i hi => by congr 1; omega
    rw [e]
    show f (n - 0) + sm n f = sm n f + f n
    rw [Nat.sub_zero]; omega
theorem sm_swap (n m : Nat) (f : Nat → Nat → Int) : sm n (fun i => sm m (fun j => f i j)) = sm m (fun j => sm n (fun i => f i j)) := by
  induction n with
  | zero => rw [sm]; exact (sm_zero fun _ _ => rfl).symm
  | succ n ih =>
    rw [sm, ih, ← sm_add]
    exact sm_congr fun j _ => rfl
/-- the coefficient of a product at a place -/
def cv (P Q : List Int) (k : Nat) : Int := sm (k + 1) fun i => cf P i * cf Q (k - i)
def mulL (P Q : List Int) : List Int := trimL ((List.range (P.length + Q.length)).map (cv P Q))
theorem cv_beyond {P Q : List Int} {k : Nat} (h : P.length + Q.length ≤ k + 1) : cv P Q k = 0 := sm_zero fun i hi => by
  by_cases h1 : i < P.length
  · rw [cf_beyond (P := Q) (by omega), Int.mul_zero]
  · rw [cf_beyond (P := P) (by omega), Int.zero_mul]
theorem cf_mulL (P Q : List Int) (k : Nat) : cf (mulL P Q) k = cv P Q k := by
  unfold mulL
  rw [cf_trimL]
  by_cases h : k < P.length + Q.length
  · rw [cf_range h]
  · rw [cf_range_beyond (by omega), cv_beyond (by omega)]
theorem trim_mulL (P Q : List Int) : Trim (mulL P Q) := trim_trimL _
/-- the product as it stands behind k turns of the outer loop and i of the inner one -/
def pcv (P Q : List Int) (k j : Nat) : Int := sm k fun a => if a ≤ j then cf P a * cf Q (j - a) else 0
def pcw (P Q : List Int) (k i j : Nat) : Int := pcv P Q k j + if k ≤ j ∧ j - k < i then cf P k * cf Q (j - k) else 0
theorem pcw_zero (P Q : List Int) (k j : Nat) : pcw P Q k 0 j = pcv P Q k j := by
  unfold pcw
  rw [if_neg (by omega)]; omega
theorem pcw_full (P Q : List Int) (k j : Nat) : pcw P Q k Q.length j = pcv P Q (k + 1) j := by
  unfold pcw
  show _ = pcv P Q k j + (if k ≤ j then cf P k * cf Q (j - k) else 0)
  by_cases h : k ≤ j
  · rw [if_pos h]
    by_cases h2 : j - k < Q.length
    · rw [if_pos ⟨h, h2⟩]
    · rw [if_neg (by omega), cf_beyond (P := Q) (by omega), Int.mul_zero]
  · rw [if_neg h, if_neg (by omega)]
theorem pcw_step (P Q : List Int) (k i j : Nat) : pcw P Q k (i + 1) j = if j = k + i then pcw P Q k i j + cf P k * cf Q i else pcw P Q k i j := by
  unfold pcw
  by_cases h : j = k + i
  · subst h
    rw [if_pos rfl, if_pos (by omega), if_neg (by omega), Nat.add_sub_cancel_left]; omega
  · rw [if_neg h]
    by_cases h2 : k ≤ j ∧ j - k < i
    · rw [if_pos h2, if_pos (by omega)]
    · rw [if_neg h2, if_neg (by omega)]
theorem pcv_full (P Q : List Int) (j : Nat) : pcv P Q P.length j = cv P Q j := by
  unfold pcv cv
  by_cases h : P.length ≤ j + 1
  · rw [sm_ext (f := fun i => cf P i * cf Q (j - i)) h fun i h1 h2 => by rw [cf_beyond (P := P) h1, Int.zero_mul]]
    exact sm_congr fun i hi => if_pos (by omega)
  · rw [sm_ext (n := j + 1) (by omega) fun i h1 h2 => if_neg (by omega)]
    exact sm_congr fun i hi => if_pos (by omega)
theorem mulL_of {P Q R : List Int} (hl : R.length = P.length + Q.length) (h : ∀ j, cf R j = pcv P Q P.length j) : trimL R = mulL P Q := by
  refine trim_ext (trim_trimL _) (trim_mulL P Q) fun j => ?_
  rw [cf_trimL, h, pcv_full, cf_mulL]
def linL (P Q : List Int) (f : Int) : List Int := trimL ((List.range (max P.length Q.length)).map fun k => cf P k + f * cf Q k)
theorem linL_one (P Q : List Int) : linL P Q 1 = addL P Q := by
  unfold linL addL
  congr 1
  apply List.map_congr_left
  intro k _
  rw [Int.one_mul]
theorem linL_neg (P Q : List Int) : linL P Q (-1) = subL P Q := by
  unfold linL subL
  congr 1
  apply List.map_congr_left
  intro k _
  omega
theorem linL_of {P Q R : List Int} {f : Int} (hl : R.length = max P.length Q.length) (h : ∀ j, j < max P.length Q.length → cf R j = cf P j + f * cf Q j) : trimL R = linL P Q f := by
  unfold linL
  congr 1
  refine ext (by simpa using hl) fun k hk => ?_
  rw [h k (by omega), cf_range (by omega)]
/-! ### slope, turned, flipped, lifted -/
def slopeL (P : List Int) : List Int := (List.range (P.length - 1)).map fun (k : Nat) => ((k : Int) + 1) * cf P (k + 1)
def turnL (P : List Int) : List Int := (List.range P.length).map fun k => if k % 2 = 1 then - cf P k else cf P k
def flipL (P : List Int) : List Int := trimL P.reverse
/-- each coefficient at so many times its place -/
def liftL (P : List Int) (m : Nat) : List Int := (List.range (if P.length = 0 then 0 else m * (P.length - 1) + 1)).map fun j => if j % m = 0 then cf P (j / m) else 0
theorem cf_slopeL (P : List Int) (k : Nat) : cf (slopeL P) k = ((k : Int) + 1) * cf P (k + 1) := by
  unfold slopeL
  by_cases h : k < P.length - 1
  · rw [cf_range h]
  · rw [cf_range_beyond (by omega), cf_beyond (P := P) (show P.length ≤ k + 1 by omega), Int.mul_zero]
theorem cf_turnL (P : List Int) (k : Nat) : cf (turnL P) k = if k % 2 = 1 then - cf P k else cf P k := by
  unfold turnL
  by_cases h : k < P.length
  · rw [cf_range h]
  · rw [cf_range_beyond (by omega), cf_beyond (P := P) (by omega)]; split <;> rfl
theorem turnL_len (P : List Int) : (turnL P).length = P.length := by unfold turnL; simp
theorem turnL_turnL (P : List Int) : turnL (turnL P) = P := by
  refine ext (by rw [turnL_len, turnL_len]) fun k _ => ?_
  rw [cf_turnL, cf_turnL]
  by_cases h : k % 2 = 1
  · rw [if_pos h, if_pos h]; omega
  · rw [if_neg h, if_neg h]
theorem cf_reverse {P : List Int} {k : Nat} (h : k < P.length) : cf P.reverse k = cf P (P.length - 1 - k) := by
  unfold cf
  rw [List.getD_eq_getElem?_getD, List.getElem?_reverse h, List.getD_eq_getElem?_getD]
theorem liftL_len (P : List Int) (m : Nat) : (liftL P m).length = if P.length = 0 then 0 else m * (P.length - 1) + 1 := by unfold liftL; simp
theorem div_bound {j m n : Nat} (hm : 0 < m) (h : j < m * n + 1) : j / m ≤ n := by
  rw [← Nat.lt_add_one_iff, Nat.div_lt_iff_lt_mul hm, Nat.add_mul, Nat.mul_comm n m]; omega
theorem liftL_step {P R : List Int} {m i : Nat} (hm : 0 < m) (hi : i < P.length) (hR : R = liftL (P.take i) m) : (if i = 0 then R else R ++ List.replicate (m - 1) 0) ++ [cf P i] = liftL (P.take (i + 1)) m := by
  have lt1 : (P.take i).length = i := by rw [List.length_take]; omega
  have lt2 : (P.take (i + 1)).length = i + 1 := by rw [List.length_take]; omega
  have lR : R.length = if i = 0 then 0 else m * (i - 1) + 1 := by rw [hR, liftL_len, lt1]
  have lL : (if i = 0 then R else R ++ List.replicate (m - 1) 0).length = m * i := by
    by_cases h : i = 0
    · subst h; rw [if_pos rfl, lR, if_pos rfl]; rfl
    · rw [if_neg h, List.length_append, List.length_replicate, lR, if_neg h]
      have : m * i = m * (i - 1) + m := by rw [← Nat.mul_succ]; congr 1; omega
      omega
  refine ext ?_ fun k hk => ?_
  · rw [List.length_append, lL, liftL_len, lt2, if_neg (by omega), Nat.add_sub_cancel]; rfl
  · rw [List.length_append, lL] at hk
    have hk' : k < m * i + 1 := hk
    have hr : cf (liftL (P.take (i + 1)) m) k = if k % m = 0 then cf (P.take (i + 1)) (k / m) else 0 := by
      unfold liftL
      rw [lt2, if_neg (by omega), Nat.add_sub_cancel, cf_range hk']
    rw [hr]
    by_cases hlast : k = m * i
    · rw [cf_append_right (by omega), lL, hlast, Nat.sub_self, Nat.mul_mod_right, if_pos rfl, Nat.mul_div_cancel_left _ hm, cf_take (by omega)]; rfl
    · rw [cf_append_left (by omega)]
      have i0 : i ≠ 0 := by intro e; subst e; omega
      rw [if_neg i0]
      rw [if_neg i0] at lR
      have em : m * i = m * (i - 1) + m := by rw [← Nat.mul_succ]; congr 1; omega
      by_cases hin : k < R.length
      · rw [cf_append_left hin, hR]
        unfold liftL
        rw [lt1, if_neg i0, cf_range (by omega)]
        split
        · have := div_bound hm (show k < m * (i - 1) + 1 by omega)
          rw [cf_take (by omega), cf_take (by omega)]
        · rfl
      · rw [cf_append_right (by omega), cf_rep0]
        have hd : k / m = i - 1 := by
          apply Nat.div_eq_of_lt_le
          · rw [Nat.mul_comm]; omega
          · rw [Nat.succ_mul, Nat.mul_comm]; omega
        have hne : k % m ≠ 0 := fun e => by
          have := Nat.div_add_mod k m
          rw [hd, e] at this
          omega
        rw [if_neg hne]
theorem liftL_all (P : List Int) (m : Nat) : liftL (P.take P.length) m = liftL P m := by rw [List.take_length]
theorem liftL_nil (P : List Int) (m : Nat) : liftL (P.take 0) m = [] := by simp [liftL]
theorem cf_liftL (P : List Int) {m : Nat} (hm : 0 < m) (j : Nat) : cf (liftL P m) j = if j % m = 0 then cf P (j / m) else 0 := by
  unfold liftL
  by_cases h : j < (if P.length = 0 then 0 else m * (P.length - 1) + 1)
  · rw [cf_range h]
  · rw [cf_range_beyond (by omega)]
    split
    · next e =>
      refine (cf_beyond ?_).symm
      by_cases h0 : P.length = 0
      · rw [h0]; exact Nat.zero_le _
      · rw [if_neg h0] at h
        have := Nat.div_add_mod j m
        rw [e] at this
        apply Nat.le_of_not_lt
        intro hlt
        have h2 : m * (j / m) ≤ m * (P.length - 1) := Nat.mul_le_mul_left m (by omega)
        omega
    · rfl
theorem trim_liftL {P : List Int} {m : Nat} (hm : 0 < m) (h : Trim P) : Trim (liftL P m) := by
  by_cases h0 : P.length = 0
  · left; unfold liftL; rw [if_pos h0]; rfl
  · right
    rw [liftL_len, if_neg h0, Nat.add_sub_cancel, cf_liftL P hm, Nat.mul_mod_right, if_pos rfl, Nat.mul_div_cancel_left _ hm]
    rcases h with h | h
    · rw [h] at h0; exact absurd rfl h0
    · exact h
/-- the product with its noughts -/
def mulU (P Q : List Int) : List Int := if P = [] ∨ Q = [] then [] else (List.range (P.length + Q.length - 1)).map (cv P Q)
theorem cf_mulU (P Q : List Int) (k : Nat) : cf (mulU P Q) k = cv P Q k := by
  unfold mulU
  split
  · next h =>
    rw [cf_nil]
    refine (cv_beyond' h k).symm
  · by_cases h : k < P.length + Q.length - 1
    · rw [cf_range h]
    · rw [cf_range_beyond (by omega), cv_beyond (by omega)]
where
  cv_beyond' {P Q : List Int} (h : P = [] ∨ Q = []) (k : Nat) : cv P Q k = 0 := sm_zero fun i _ => by
    rcases h with h | h
    · rw [h, cf_nil, Int.zero_mul]
    · rw [h, cf_nil, Int.mul_zero]
theorem mulU_len (P Q : List Int) : (mulU P Q).length ≤ P.length + Q.length := by
  unfold mulU
  split
  · simp
  · rw [List.length_map, List.length_range]; omega
theorem addL_len (P Q : List Int) : (addL P Q).length ≤ max P.length Q.length := Nat.le_trans (trimL_len _) (by simp)
theorem sm_abs {n : Nat} {f : Nat → Int} {b : Nat} (h : ∀ i, i < n → (f i).natAbs ≤ b) : (sm n f).natAbs ≤ n * b := by
  induction n with
  | zero => simp [sm]
  | succ n ih =>
    rw [sm_succ, Nat.add_mul]
    have := ih fun i hi => h i (by omega)
    have := h n (by omega)
    omega
theorem two_pow_ge (n : Nat) : n + 1 ≤ 2 ^ n := by
  induction n with
  | zero => decide
  | succ n ih => rw [Nat.pow_succ]; omega
theorem cv_sz {P Q : List Int} {n m : Nat} (hp : Sz n P) (hq : Sz m Q) (k : Nat) : (cv P Q k).natAbs < 2 ^ (n + m + P.length + 1) := by
  have h1 : cv P Q k = pcv P Q P.length k := (pcv_full P Q k).symm
  rw [h1]
  have h2 : (pcv P Q P.length k).natAbs ≤ P.length * 2 ^ (n + m) := sm_abs fun i _ => by
    split
    · rw [Int.natAbs_mul, Nat.pow_add]
      exact Nat.mul_le_mul (Nat.le_of_lt (hp.cf _)) (Nat.le_of_lt (hq.cf _))
    · exact Nat.zero_le _
  refine Nat.lt_of_le_of_lt h2 ?_
  have h3 := two_pow_ge P.length
  have h4 : 2 ^ (n + m + P.length + 1) = 2 ^ (P.length + 1) * 2 ^ (n + m) := by rw [← Nat.pow_add]; congr 1; omega
  rw [h4]
  exact Nat.mul_lt_mul_of_pos_right (by rw [Nat.pow_succ]; omega) (Nat.two_pow_pos _)
theorem Sz.mulL {P Q : List Int} {n m : Nat} (hp : Sz n P) (hq : Sz m Q) : Sz (n + m + P.length + 1) (mulL P Q) := Sz.of fun k _ => by rw [cf_mulL]; exact cv_sz hp hq k
theorem Sz.mulU {P Q : List Int} {n m : Nat} (hp : Sz n P) (hq : Sz m Q) : Sz (n + m + P.length + 1) (mulU P Q) := Sz.of fun k _ => by rw [cf_mulU]; exact cv_sz hp hq k
theorem Sz.addL {P Q : List Int} {n : Nat} (hp : Sz n P) (hq : Sz n Q) : Sz (n + 1) (addL P Q) := Sz.of fun k _ => by
  rw [cf_addL]
  have := hp.cf k
  have := hq.cf k
  have : 2 ^ (n + 1) = 2 ^ n + 2 ^ n := by rw [Nat.pow_succ]; omega
  omega
end ML

set_option linter.all false
/-! Shrunk, plain. -/
namespace MP
open MG ML
theorem mem_cf {P : List Int} {d : Int} : (∀ x ∈ P, d ∣ x) ↔ ∀ k, d ∣ cf P k := by
  constructor
  · intro h k
    by_cases hk : k < P.length
    · rw [cf_get hk]; exact h _ (List.getElem_mem hk)
    · rw [cf_beyond (by omega)]; exact Int.dvd_zero d
  · intro h x hx
    obtain ⟨k, hk, rfl⟩ := List.getElem_of_mem hx
    rw [← cf_get hk]; exact h k
theorem gcdN_congr {P Q : List Int} (h : ∀ k, cf P k = cf Q k) : gcdN P = gcdN Q := by
  refine gcdN_eq (mem_cf.mpr fun k => ?_) fun d hd => dvd_gcdN (mem_cf.mpr fun k => ?_)
  · rw [h]; exact mem_cf.mp (fun x hx => gcdN_dvd hx) k
  · rw [← h]; exact mem_cf.mp hd k
theorem gcdN_trim (P : List Int) : gcdN (trimL P) = gcdN P := gcdN_congr (cf_trimL P)
theorem gcdN_cf (P : List Int) (k : Nat) : (gcdN P : Int) ∣ cf P k := mem_cf.mp (fun x hx => gcdN_dvd hx) k
theorem gcdL_cf (P : List Int) (k : Nat) : gcdL P ∣ cf P k := gcdN_cf P k
theorem gcdN_zero {P : List Int} (h : gcdN P = 0) (k : Nat) : cf P k = 0 := by
  have := gcdN_cf P k
  rw [h] at this
  exact Int.zero_dvd.mp this
theorem gcdL_ne {P : List Int} {k : Nat} (h : cf P k ≠ 0) : gcdL P ≠ 0 := fun e => h (gcdN_zero (by unfold gcdL at e; omega) k)
theorem gcdL_nonneg (P : List Int) : 0 ≤ gcdL P := by unfold gcdL; omega
theorem gcdL_pos {P : List Int} {k : Nat} (h : cf P k ≠ 0) : 0 < gcdL P := by
  have := gcdL_ne h; have := gcdL_nonneg P; omega
theorem gcdL_le {P : List Int} {k : Nat} (h : cf P k ≠ 0) : (gcdL P).natAbs ≤ (cf P k).natAbs := Nat.le_of_dvd (by omega) (Int.natAbs_dvd_natAbs.mpr (gcdL_cf P k))
theorem trim_last {P : List Int} (h : Trim P) (h0 : P ≠ []) : cf P (P.length - 1) ≠ 0 := h.elim (fun e => absurd e h0) id
theorem gcdL_trim_pos {P : List Int} (h : Trim P) (h0 : P ≠ []) : 0 < gcdL P := gcdL_pos (trim_last h h0)
theorem gcdL_log {n : Nat} {P : List Int} (hn : 0 < n) (hs : Sz n P) (h : Trim P) (h0 : P ≠ []) : (gcdL P).natAbs < 2 ^ n := Nat.lt_of_le_of_lt (gcdL_le (trim_last h h0)) (hs.cf _)
theorem gcdN_mul (c : Int) (P : List Int) : gcdN (P.map (c * ·)) = c.natAbs * gcdN P := by
  induction P with
  | nil => simp [gcdN_nil]
  | cons x r ih => rw [List.map_cons, gcdN_cons, gcdN_cons, ih, Int.natAbs_mul, Nat.gcd_mul_left]
/-- divided by the shared divisor -/
def shrunkL (P : List Int) : List Int := P.map fun x => x.fdiv (gcdL P)
def negL (P : List Int) : List Int := P.map fun x => -x
def plainL (P : List Int) : List Int := if shrunkL P ≠ [] ∧ cf (shrunkL P) ((shrunkL P).length - 1) < 0 then negL (shrunkL P) else shrunkL P
theorem shrunkL_len (P : List Int) : (shrunkL P).length = P.length := by unfold shrunkL; simp
theorem fdiv_zero (c : Int) : (0 : Int).fdiv c = 0 := by simp
theorem cf_shrunkL (P : List Int) (k : Nat) : cf (shrunkL P) k = (cf P k).fdiv (gcdL P) := cf_map (f := fun x => x.fdiv (gcdL P)) (fdiv_zero _) P k
theorem fdiv_exact {c x : Int} (h : c ∣ x) : c * x.fdiv c = x := by
  rw [Int.fdiv_eq_ediv_of_dvd h, Int.mul_ediv_cancel' h]
theorem mul_shrunkL (P : List Int) (k : Nat) : gcdL P * cf (shrunkL P) k = cf P k := by
  rw [cf_shrunkL]; exact fdiv_exact (gcdL_cf P k)
theorem cf_negL (P : List Int) (k : Nat) : cf (negL P) k = - cf P k := cf_map (f := fun x => -x) (by omega) P k
theorem negL_len (P : List Int) : (negL P).length = P.length := by unfold negL; simp
theorem trim_shrunkL {P : List Int} (h : Trim P) : Trim (shrunkL P) := by
  rcases h with h | h
  · left; rw [h]; rfl
  · right
    rw [shrunkL_len]
    intro e
    apply h
    rw [← mul_shrunkL, e, Int.mul_zero]
theorem trim_negL {P : List Int} (h : Trim P) : Trim (negL P) := by
  rcases h with h | h
  · left; rw [h]; rfl
  · right
    rw [negL_len, cf_negL]; omega
theorem trim_plainL {P : List Int} (h : Trim P) : Trim (plainL P) := by
  unfold plainL
  split
  · exact trim_negL (trim_shrunkL h)
  · exact trim_shrunkL h
theorem plainL_len (P : List Int) : (plainL P).length = P.length := by
  unfold plainL
  split
  · rw [negL_len, shrunkL_len]
  · rw [shrunkL_len]
theorem shrunkL_nil : shrunkL [] = [] := rfl
theorem plainL_nil : plainL [] = [] := by simp [plainL, shrunkL_nil]
/-- what is c times a list whose shared divisor is 1, c above 0 -/
theorem shrunkL_of {P Q : List Int} {c : Int} (hc : 0 < c) (hl : P.length = Q.length) (h : ∀ k, cf P k = c * cf Q k) (h1 : gcdN Q = 1) : shrunkL P = Q := by
  have hP : P = Q.map (c * ·) := ext (by simpa using hl) fun k _ => by rw [h, cf_map (by omega)]
  have hg : gcdL P = c := by
    unfold gcdL
    rw [hP, gcdN_mul, h1, Nat.mul_one]; omega
  refine ext (by rw [shrunkL_len, hl]) fun k _ => ?_
  rw [cf_shrunkL, hg, h, Int.mul_fdiv_cancel_left _ (by omega)]
theorem gcdN_shrunkL {P : List Int} (h : gcdN P ≠ 0) : gcdN (shrunkL P) = 1 := by
  have e : P = (shrunkL P).map (gcdL P * ·) := ext (by simp [shrunkL_len]) fun k _ => by rw [cf_map (by omega), mul_shrunkL]
  have h2 := gcdN_mul (gcdL P) (shrunkL P)
  rw [← e] at h2
  have h3 : (gcdL P).natAbs = gcdN P := by unfold gcdL; omega
  rw [h3] at h2
  exact Nat.eq_of_mul_eq_mul_left (Nat.pos_of_ne_zero h) (by rw [← h2, Nat.mul_one])
theorem gcdN_negL (P : List Int) : gcdN (negL P) = gcdN P := by
  have e : negL P = P.map ((-1) * ·) := by
    unfold negL; apply List.map_congr_left; intro x _; omega
  rw [e, gcdN_mul]; simp
theorem gcdN_plainL {P : List Int} (h : gcdN P ≠ 0) : gcdN (plainL P) = 1 := by
  unfold plainL
  split
  · rw [gcdN_negL, gcdN_shrunkL h]
  · exact gcdN_shrunkL h
/-- a list with 1 as its shared divisor stays -/
theorem shrunkL_one {P : List Int} (h : gcdN P = 1) : shrunkL P = P := shrunkL_of (c := 1) (by decide) rfl (fun k => by omega) h
theorem plainL_last {P : List Int} (h : Trim P) (h0 : P ≠ []) : 0 < cf (plainL P) ((plainL P).length - 1) := by
  have h1 := trim_last (trim_plainL h) (fun e => h0 (by
    have := plainL_len P
    rw [e] at this
    exact List.eq_nil_of_length_eq_zero this.symm))
  have hl := plainL_len P
  unfold plainL at h1 ⊢
  split
  · next hh =>
    rw [cf_negL, negL_len]
    omega
  · next hh =>
    rw [if_neg hh] at h1
    have hs : shrunkL P ≠ [] := fun e => h0 (by
      have := shrunkL_len P
      rw [e] at this
      exact List.eq_nil_of_length_eq_zero this.symm)
    have : ¬ cf (shrunkL P) ((shrunkL P).length - 1) < 0 := fun z => hh ⟨hs, z⟩
    omega
theorem plainL_self {P : List Int} (h1 : gcdN P = 1) (h : P ≠ [] → 0 ≤ cf P (P.length - 1)) : plainL P = P := by
  unfold plainL
  rw [shrunkL_one h1, if_neg]
  rintro ⟨h2, h3⟩
  have := h h2
  omega
theorem plainL_of {P Q : List Int} {c : Int} (hc : c ≠ 0) (hl : P.length = Q.length) (h : ∀ k, cf P k = c * cf Q k) (h1 : gcdN Q = 1) (hq : Q ≠ [] → 0 < cf Q (Q.length - 1)) : plainL P = Q := by
  by_cases hp : 0 < c
  · have e := shrunkL_of hp hl h h1
    unfold plainL
    rw [e, if_neg]
    rintro ⟨h2, h3⟩
    have := hq h2
    omega
  · have e : shrunkL P = negL Q := shrunkL_of (c := -c) (by omega) (by rw [negL_len, hl]) (fun k => by rw [h, cf_negL, Int.neg_mul_neg]) (by rw [gcdN_negL, h1])
    unfold plainL
    rw [e]
    by_cases hn : Q = []
    · subst hn; simp [negL]
    · have := hq hn
      rw [if_pos]
      · unfold negL; rw [List.map_map]
        have : ((fun x : Int => -x) ∘ fun x => -x) = id := by funext x; simp
        rw [this, List.map_id]
      · refine ⟨fun e2 => hn ?_, by rw [negL_len, cf_negL]; omega⟩
        have := negL_len Q
        rw [e2] at this
        exact List.eq_nil_of_length_eq_zero this.symm
theorem Sz.shrunkL {n : Nat} {P : List Int} (h : Sz n P) : Sz n (shrunkL P) := Sz.of fun k _ => by
  have h1 := mul_shrunkL P k
  have h2 := h.cf k
  by_cases h0 : gcdL P = 0
  · rw [cf_shrunkL, h0, Int.fdiv_zero]; exact Nat.two_pow_pos n
  · rw [← h1, Int.natAbs_mul] at h2
    exact Nat.lt_of_le_of_lt (Nat.le_mul_of_pos_left _ (by omega)) h2
theorem Sz.negL {n : Nat} {P : List Int} (h : Sz n P) : Sz n (negL P) := Sz.of fun k _ => by rw [cf_negL, Int.natAbs_neg]; exact h.cf k
theorem Sz.plainL {n : Nat} {P : List Int} (h : Sz n P) : Sz n (plainL P) := by
  unfold MP.plainL
  split
  · exact Sz.negL (Sz.shrunkL h)
  · exact Sz.shrunkL h
end MP

set_option linter.all false
/-! Division with a factor. -/
namespace MD
open ML
/-- the last coefficient -/
def lc (Q : List Int) : Int := cf Q (Q.length - 1)
def subShift (rs Q : List Int) (k : Nat) (many : Int) : List Int := (List.range rs.length).map fun j => if k ≤ j ∧ j - k < Q.length then cf rs j - many * cf Q (j - k) else cf rs j
theorem subShift_len (rs Q : List Int) (k : Nat) (many : Int) : (subShift rs Q k many).length = rs.length := by unfold subShift; simp
theorem cf_subShift {rs Q : List Int} {k : Nat} {many : Int} (j : Nat) (h : k + Q.length ≤ rs.length) : cf (subShift rs Q k many) j = cf rs j - if k ≤ j then many * cf Q (j - k) else 0 := by
  unfold subShift
  by_cases hj : j < rs.length
  · rw [cf_range hj]
    by_cases h1 : k ≤ j
    · rw [if_pos h1]
      by_cases h2 : j - k < Q.length
      · rw [if_pos ⟨h1, h2⟩]
      · rw [if_neg (by omega), cf_beyond (P := Q) (by omega), Int.mul_zero]; omega
    · rw [if_neg (by omega), if_neg h1]; omega
  · rw [cf_range_beyond (by omega), cf_beyond (P := rs) (by omega)]
    split
    · rw [cf_beyond (P := Q) (by omega), Int.mul_zero]; rfl
    · rfl
def dloop (Q : List Int) : Nat → List Int × List Int → List Int × List Int
  | 0, s => s
  | k + 1, (qs, rs) => dloop Q k (qs.set k ((cf rs (k + (Q.length - 1))).fdiv (lc Q)), subShift rs Q k ((cf rs (k + (Q.length - 1))).fdiv (lc Q)))
def facL (P Q : List Int) : Int := if P.length < Q.length then 1 else ((lc Q).natAbs : Int) ^ (P.length - Q.length + 1)
def quoL (P Q : List Int) : List Int := if P.length < Q.length then [] else trimL (dloop Q (P.length - Q.length + 1) (List.replicate (P.length - Q.length + 1) 0, P.map (· * facL P Q))).1
def remL (P Q : List Int) : List Int := if P.length < Q.length then P else trimL (dloop Q (P.length - Q.length + 1) (List.replicate (P.length - Q.length + 1) 0, P.map (· * facL P Q))).2
theorem cv_set {qs Q : List Int} {k : Nat} {x : Int} (hk : k < qs.length) (h0 : cf qs k = 0) (j : Nat) : cv (qs.set k x) Q j = cv qs Q j + if k ≤ j then x * cf Q (j - k) else 0 := by
  unfold cv
  have e : sm (j + 1) (fun i => cf (qs.set k x) i * cf Q (j - i)) = sm (j + 1) (fun i => cf qs i * cf Q (j - i) + if i = k then x * cf Q (j - k) else 0) := sm_congr fun i _ => by
    rw [cf_set hk]
    by_cases h : i = k
    · rw [if_pos h, if_pos h, h, h0, Int.zero_mul]; omega
    · rw [if_neg h, if_neg h]; omega
  rw [e, sm_add]
  congr 1
  by_cases hj : k ≤ j
  · rw [if_pos hj, sm_single (j := k) (by omega) fun i _ hn => if_neg hn, if_pos rfl]
  · rw [if_neg hj]
    exact sm_zero fun i hi => if_neg (by omega)
structure Inv (Q : List Int) (F : Nat → Int) (N g k : Nat) (s : List Int × List Int) : Prop where
  lq : s.1.length = g
  lr : s.2.length = N
  eq : ∀ j, F j = cv s.1 Q j + cf s.2 j
  hi : ∀ j, k + (Q.length - 1) ≤ j → cf s.2 j = 0
  dv : ∀ j, (((lc Q).natAbs ^ k : Nat) : Int) ∣ cf s.2 j
  lo : ∀ i, i < k → cf s.1 i = 0
theorem many_eq {Q rs : List Int} {k : Nat} (hl : lc Q ≠ 0) (dv : ∀ j, (((lc Q).natAbs ^ (k + 1) : Nat) : Int) ∣ cf rs j) (j : Nat) : lc Q * (cf rs j).fdiv (lc Q) = cf rs j := by
  have h1 : lc Q ∣ cf rs j := by
    refine Int.dvd_trans ?_ (dv j)
    refine Int.natAbs_dvd_natAbs.mp ?_
    rw [Int.natAbs_natCast, Nat.pow_succ]
    exact Nat.dvd_mul_left _ _
  rw [Int.fdiv_eq_ediv_of_dvd h1, Int.mul_ediv_cancel' h1]
theorem Inv.step {Q : List Int} {F : Nat → Int} {N g k : Nat} {qs rs : List Int} (I : Inv Q F N g (k + 1) (qs, rs)) (hl : lc Q ≠ 0) (hQ : 0 < Q.length) (hk : k < g) (hN : k + Q.length ≤ N) :
    Inv Q F N g k (qs.set k ((cf rs (k + (Q.length - 1))).fdiv (lc Q)), subShift rs Q k ((cf rs (k + (Q.length - 1))).fdiv (lc Q))) := by
  obtain ⟨lq, lr, eq, hi, dv, lo⟩ := I
  dsimp only at lq lr eq hi dv lo
  have me := many_eq hl dv (k + (Q.length - 1))
  have dm : (((lc Q).natAbs ^ k : Nat) : Int) ∣ (cf rs (k + (Q.length - 1))).fdiv (lc Q) := by
    have h1 := dv (k + (Q.length - 1))
    rw [← me] at h1
    have h2 := Int.natAbs_dvd_natAbs.mpr h1
    rw [Int.natAbs_natCast, Int.natAbs_mul, Nat.pow_succ, Nat.mul_comm] at h2
    have h3 := Nat.dvd_of_mul_dvd_mul_left (by omega) h2
    exact Int.natAbs_dvd_natAbs.mp (by rw [Int.natAbs_natCast]; exact h3)
  generalize (cf rs (k + (Q.length - 1))).fdiv (lc Q) = many at me dm ⊢
  refine ⟨by rw [List.length_set]; exact lq, by rw [subShift_len]; exact lr, fun j => ?_, fun j hj => ?_, fun j => ?_, fun i hi' => ?_⟩
  · dsimp only
    rw [eq j, cv_set (by omega) (lo k (by omega)), cf_subShift j (by omega)]; omega
  · dsimp only
    rw [cf_subShift j (by omega), if_pos (by omega)]
    by_cases h : j = k + (Q.length - 1)
    · have e2 : j - k = Q.length - 1 := by omega
      have e3 : cf Q (Q.length - 1) = lc Q := rfl
      rw [e2, e3, h, ← me, Int.mul_comm]; omega
    · rw [hi j (by omega), cf_beyond (P := Q) (by omega), Int.mul_zero]; rfl
  · dsimp only
    rw [cf_subShift j (by omega)]
    have d1 : (((lc Q).natAbs ^ k : Nat) : Int) ∣ cf rs j := Int.dvd_trans (Int.ofNat_dvd.mpr (Nat.pow_dvd_pow _ (by omega))) (dv j)
    refine Int.dvd_sub d1 ?_
    split
    · exact Int.dvd_mul_of_dvd_left dm
    · exact Int.dvd_zero _
  · dsimp only
    rw [cf_set (by omega), if_neg (by omega)]
    exact lo i (by omega)
theorem Inv.run {Q : List Int} {F : Nat → Int} {N g : Nat} (hl : lc Q ≠ 0) (hQ : 0 < Q.length) : ∀ (k : Nat) (s : List Int × List Int), k ≤ g → (k = 0 ∨ k - 1 + Q.length ≤ N) → Inv Q F N g k s → Inv Q F N g 0 (dloop Q k s)
  | 0, s, _, _, I => I
  | k + 1, (qs, rs), hk, hN, I => Inv.run hl hQ k _ (by omega) (by omega) (I.step hl hQ (by omega) (by omega))
theorem cv_zero_left {qs Q : List Int} (h : ∀ i, cf qs i = 0) (j : Nat) : cv qs Q j = 0 := sm_zero fun i _ => by rw [h, Int.zero_mul]
theorem lc_ne {Q : List Int} (hT : Trim Q) (h0 : Q ≠ []) : lc Q ≠ 0 := hT.elim (fun e => absurd e h0) id
theorem len_pos {Q : List Int} (h0 : Q ≠ []) : 0 < Q.length := List.length_pos_iff.mpr h0
theorem dstart {P Q : List Int} (hT : Trim Q) (h0 : Q ≠ []) (hg : ¬ P.length < Q.length) : Inv Q (fun j => cf P j * facL P Q) P.length (P.length - Q.length + 1) (P.length - Q.length + 1) (List.replicate (P.length - Q.length + 1) 0, P.map (· * facL P Q)) where
  lq := by simp
  lr := by simp
  eq := fun j => by
    dsimp only
    rw [cv_zero_left (fun i => cf_rep0 _ _), cf_map (f := (· * facL P Q)) (by omega)]; omega
  hi := fun j hj => by
    have := len_pos h0
    exact cf_beyond (by simp; omega)
  dv := fun j => by
    dsimp only
    rw [cf_map (f := (· * facL P Q)) (by omega)]
    refine Int.dvd_mul_of_dvd_right ?_
    unfold facL
    rw [if_neg hg, ← Int.natCast_pow]
    exact Int.dvd_refl _
  lo := fun i _ => cf_rep0 _ _
theorem dend {P Q : List Int} (hT : Trim Q) (h0 : Q ≠ []) (hg : ¬ P.length < Q.length) : Inv Q (fun j => cf P j * facL P Q) P.length (P.length - Q.length + 1) 0 (dloop Q (P.length - Q.length + 1) (List.replicate (P.length - Q.length + 1) 0, P.map (· * facL P Q))) :=
  Inv.run (lc_ne hT h0) (len_pos h0) _ _ (Nat.le_refl _) (.inr (by omega)) (dstart hT h0 hg)
theorem cv_trim_left (P Q : List Int) (j : Nat) : cv (trimL P) Q j = cv P Q j := sm_congr fun i _ => by rw [cf_trimL]
/-- factor times P is quotient times Q, added to the rest -/
theorem div_eq {P Q : List Int} (hT : Trim Q) (h0 : Q ≠ []) (j : Nat) : facL P Q * cf P j = cv (quoL P Q) Q j + cf (remL P Q) j := by
  by_cases hg : P.length < Q.length
  · unfold facL quoL remL
    rw [if_pos hg, if_pos hg, if_pos hg, cv_zero_left (fun i => cf_nil i)]; omega
  · have I := dend hT h0 hg
    unfold quoL remL
    rw [if_neg hg, if_neg hg, cv_trim_left, cf_trimL, Int.mul_comm]
    exact I.eq j
theorem rem_len {P Q : List Int} (hT : Trim Q) (h0 : Q ≠ []) : (remL P Q).length < Q.length := by
  by_cases hg : P.length < Q.length
  · unfold remL; rw [if_pos hg]; exact hg
  · have I := dend hT h0 hg
    have hq := len_pos h0
    have hz : ∀ j, Q.length - 1 ≤ j → cf (remL P Q) j = 0 := fun j hj => by
      unfold remL
      rw [if_neg hg, cf_trimL]
      exact I.hi j (by omega)
    have ht : Trim (remL P Q) := by
      unfold remL; rw [if_neg hg]; exact trim_trimL _
    rcases ht with h | h
    · rw [h]; exact hq
    · apply Nat.lt_of_not_le
      intro hle
      exact h (hz _ (by omega))
theorem trim_rem {P Q : List Int} (h : Trim P) : Trim (remL P Q) := by
  unfold remL
  split
  · exact h
  · exact trim_trimL _
theorem trim_quo (P Q : List Int) : Trim (quoL P Q) := by
  unfold quoL
  split
  · exact .inl rfl
  · exact trim_trimL _
/-! ### sizes -/
theorem abs_sub_lt {a b : Int} {n m : Nat} (ha : a.natAbs < 2 ^ n) (hb : b.natAbs < 2 ^ m) (h : n ≤ m) : (a - b).natAbs < 2 ^ (m + 1) := by
  have h1 : (2 : Nat) ^ n ≤ 2 ^ m := Nat.pow_le_pow_right (by decide) h
  have h2 : (2 : Nat) ^ (m + 1) = 2 ^ m + 2 ^ m := by rw [Nat.pow_succ]; omega
  omega
theorem many_lt {Q rs : List Int} {k n : Nat} (hl : lc Q ≠ 0) (dv : ∀ j, (((lc Q).natAbs ^ (k + 1) : Nat) : Int) ∣ cf rs j) (hs : Sz n rs) (j : Nat) : ((cf rs j).fdiv (lc Q)).natAbs < 2 ^ n := by
  have h1 := many_eq hl dv j
  have h2 := hs.cf j
  rw [← h1, Int.natAbs_mul] at h2
  exact Nat.lt_of_le_of_lt (Nat.le_mul_of_pos_left _ (by omega)) h2
theorem Sz.sub {Q rs : List Int} {k n m : Nat} {many : Int} (hs : Sz n rs) (hq : Sz m Q) (hm : many.natAbs < 2 ^ n) : Sz (n + m + 1) (subShift rs Q k many) := fun x hx => by
  unfold subShift at hx
  obtain ⟨j, _, rfl⟩ := List.mem_map.mp hx
  have h1 := hs.cf j
  have h2 : (many * cf Q (j - k)).natAbs < 2 ^ (n + m) := by
    rw [Int.natAbs_mul, Nat.pow_add]
    exact Nat.mul_lt_mul'' hm (hq.cf _)
  split
  · exact abs_sub_lt h1 h2 (by omega)
  · exact Nat.lt_of_lt_of_le h1 (Nat.pow_le_pow_right (by decide) (by omega))
theorem Sz.setq {qs : List Int} {n k : Nat} {x : Int} (hs : Sz n qs) (hx : x.natAbs < 2 ^ n) : Sz n (qs.set k x) := fun y hy => by
  rcases List.mem_or_eq_of_mem_set hy with h | h
  · exact hs y h
  · rw [h]; exact hx
theorem dloop_sz {Q : List Int} {F : Nat → Int} {N g m : Nat} (hl : lc Q ≠ 0) (hQ : 0 < Q.length) (hq : Sz m Q) : ∀ (k : Nat) (s : List Int × List Int) (n : Nat), k ≤ g → (k = 0 ∨ k - 1 + Q.length ≤ N) → Inv Q F N g k s → Sz n s.1 → Sz n s.2 → Sz (n + k * (m + 1)) (dloop Q k s).1 ∧ Sz (n + k * (m + 1)) (dloop Q k s).2
  | 0, s, n, _, _, _, h1, h2 => ⟨h1.mono (by omega), h2.mono (by omega)⟩
  | k + 1, (qs, rs), n, hk, hN, I, h1, h2 => by
    have hm := many_lt hl I.dv h2 (k + (Q.length - 1))
    have := dloop_sz hl hQ hq k _ (n + m + 1) (by omega) (by omega) (I.step hl hQ (by omega) (by omega)) ((Sz.setq h1 hm).mono (by omega)) (Sz.sub h2 hq hm)
    have e : n + m + 1 + k * (m + 1) = n + (k + 1) * (m + 1) := by rw [Nat.add_mul]; omega
    rw [e] at this
    exact this
theorem facL_lt {P Q : List Int} {m : Nat} (hq : Sz m Q) : (facL P Q).natAbs < 2 ^ (m * (P.length - Q.length + 1) + 1) := by
  unfold facL
  split
  · exact Nat.lt_of_lt_of_le (by decide : (1 : Int).natAbs < 2 ^ 1) (Nat.pow_le_pow_right (by decide) (by omega))
  · have h := hq.cf (Q.length - 1)
    rw [← Int.natCast_pow, Int.natAbs_natCast]
    refine Nat.lt_of_le_of_lt (Nat.pow_le_pow_left (Nat.le_of_lt h) _) ?_
    rw [← Nat.pow_mul]
    exact Nat.pow_lt_pow_right (by decide) (by omega)
/-- how great the quotient and the rest can be -/
theorem div_sz {P Q : List Int} {n m : Nat} (hT : Trim Q) (h0 : Q ≠ []) (hp : Sz n P) (hq : Sz m Q) : Sz (n + (2 * m + 1) * (P.length + 1) + 1) (quoL P Q) ∧ Sz (n + (2 * m + 1) * (P.length + 1) + 1) (remL P Q) := by
  by_cases hg : P.length < Q.length
  · unfold quoL remL
    rw [if_pos hg, if_pos hg]
    exact ⟨Sz.nil _, hp.mono (by omega)⟩
  · have hs0 : Sz (n + (m * (P.length - Q.length + 1) + 1)) (P.map (· * facL P Q)) := fun x hx => by
      obtain ⟨y, hy, rfl⟩ := List.mem_map.mp hx
      rw [Int.natAbs_mul, Nat.pow_add]
      exact Nat.mul_lt_mul'' (hp y hy) (facL_lt hq)
    have h := dloop_sz (lc_ne hT h0) (len_pos h0) hq (P.length - Q.length + 1) _ _ (Nat.le_refl _) (.inr (by omega)) (dstart hT h0 hg) (Sz.rep0 _ _) hs0
    have hle : n + (m * (P.length - Q.length + 1) + 1) + (P.length - Q.length + 1) * (m + 1) ≤ n + (2 * m + 1) * (P.length + 1) + 1 := by
      have e1 : (P.length - Q.length + 1) * (m + 1) = m * (P.length - Q.length + 1) + (P.length - Q.length + 1) := by rw [Nat.mul_add, Nat.mul_comm]; omega
      have e2 : (2 * m + 1) * (P.length + 1) = 2 * (m * (P.length + 1)) + (P.length + 1) := by rw [Nat.add_mul, Nat.mul_assoc]; omega
      have e3 : m * (P.length - Q.length + 1) ≤ m * (P.length + 1) := Nat.mul_le_mul_left m (by omega)
      omega
    unfold quoL remL
    rw [if_neg hg, if_neg hg]
    exact ⟨(h.1.mono hle).trim, (h.2.mono hle).trim⟩
theorem cv_one (f : Int) (P : List Int) (k : Nat) : cv [f] P k = f * cf P k := by
  unfold cv
  rw [sm_single (j := 0) (by omega) fun i _ hn => by rw [cf_beyond (P := [f]) (by simp; omega), Int.zero_mul]]
  rfl
theorem mul_one_trim {f : Int} {P : List Int} (hf : f ≠ 0) (hT : Trim P) : Trim (mulU [f] P) := by
  rcases hT with h | h
  · left; unfold mulU; rw [if_pos (.inr h)]
  · right
    have hP : P ≠ [] := fun e => by rw [e] at h; exact h (cf_nil _)
    have hl : (mulU [f] P).length = P.length := by
      unfold mulU
      rw [if_neg (fun z => z.elim (fun h => by cases h) hP), List.length_map, List.length_range]
      show 1 + P.length - 1 = _
      omega
    rw [hl, cf_mulU, cv_one]
    exact Int.mul_ne_zero hf h
theorem facL_pos {P Q : List Int} (hT : Trim Q) (h0 : Q ≠ []) : 0 < facL P Q := by
  unfold facL
  split
  · decide
  · have := lc_ne hT h0
    exact Int.pow_pos (by omega)
/-- the sentence of a division, as lists -/
theorem div_lists {P Q : List Int} (hP : Trim P) (hT : Trim Q) (h0 : Q ≠ []) : mulU [facL P Q] P = addL (mulU (quoL P Q) Q) (remL P Q) := by
  refine trim_ext (mul_one_trim (by have := facL_pos (P := P) hT h0; omega) hP) (trim_addL _ _) fun k => ?_
  rw [cf_mulU, cv_one, cf_addL, cf_mulU]
  exact div_eq hT h0 k
end MD

set_option linter.all false
/-! The ring of polynomials, by coefficients. -/
namespace MR
open ML MD
theorem cv_comm (P Q : List Int) (k : Nat) : cv P Q k = cv Q P k := by
  unfold cv
  rw [← sm_rev (k + 1) (fun i => cf Q i * cf P (k - i))]
  refine sm_congr fun i hi => ?_
  rw [show k + 1 - 1 - i = k - i by omega, show k - (k - i) = i by omega, Int.mul_comm]
theorem sm_tri (g : Nat → Nat → Int) : ∀ k : Nat, sm (k + 1) (fun i => sm (i + 1) (fun j => g j (i - j))) = sm (k + 1) (fun j => sm (k - j + 1) (fun l => g j l))
  | 0 => rfl
  | k + 1 => by
    rw [sm_succ, sm_tri g k, sm_succ (k + 1) (fun j => g j (k + 1 - j)), sm_succ (k + 1) (fun j => sm (k + 1 - j + 1) (fun l => g j l))]
    have e : sm (k + 1) (fun j => sm (k + 1 - j + 1) (fun l => g j l)) = sm (k + 1) (fun j => sm (k - j + 1) (fun l => g j l) + g j (k + 1 - j)) := sm_congr fun j hj => by
      have : k + 1 - j = k - j + 1 := by omega
      rw [this, sm_succ]
    rw [e, sm_add]
    have e2 : sm (k + 1 - (k + 1) + 1) (fun l => g (k + 1) l) = g (k + 1) (k + 1 - (k + 1)) := by
      rw [Nat.sub_self]; simp [sm]
    rw [e2]; omega
theorem cv_assoc' (P Q R : List Int) (k : Nat) : sm (k + 1) (fun i => cv P Q i * cf R (k - i)) = sm (k + 1) (fun j => cf P j * cv Q R (k - j)) := by
  have h := sm_tri (fun j l => cf P j * cf Q l * cf R (k - j - l)) k
  have e1 : sm (k + 1) (fun i => cv P Q i * cf R (k - i)) = sm (k + 1) (fun i => sm (i + 1) (fun j => cf P j * cf Q (i - j) * cf R (k - j - (i - j)))) := sm_congr fun i hi => by
    unfold cv
    rw [← sm_mul_r]
    exact sm_congr fun j hj => by rw [show k - j - (i - j) = k - i by omega]
  have e2 : sm (k + 1) (fun j => cf P j * cv Q R (k - j)) = sm (k + 1) (fun j => sm (k - j + 1) (fun l => cf P j * cf Q l * cf R (k - j - l))) := sm_congr fun j hj => by
    unfold cv
    rw [← sm_mul]
    exact sm_congr fun l _ => by rw [Int.mul_assoc]
  rw [e1, e2]; exact h
theorem cv_congr {P P' Q Q' : List Int} (h : ∀ i, cf P i = cf P' i) (h' : ∀ i, cf Q i = cf Q' i) (k : Nat) : cv P Q k = cv P' Q' k := sm_congr fun i _ => by rw [h, h']
theorem cv_assoc (P Q R : List Int) (k : Nat) : cv (mulL P Q) R k = cv P (mulL Q R) k := by
  have h := cv_assoc' P Q R k
  unfold cv at h ⊢
  rw [show sm (k + 1) (fun i => cf (mulL P Q) i * cf R (k - i)) = sm (k + 1) (fun i => sm (i + 1) (fun j => cf P j * cf Q (i - j)) * cf R (k - i)) from sm_congr fun i _ => by rw [cf_mulL]; rfl, h]
  exact sm_congr fun i _ => by rw [cf_mulL]; rfl
theorem cv_add_left (P P' Q : List Int) (k : Nat) : cv (addL P P') Q k = cv P Q k + cv P' Q k := by
  unfold cv
  rw [← sm_add]
  exact sm_congr fun i _ => by rw [cf_addL, Int.add_mul]
theorem cv_sub_left (P P' Q : List Int) (k : Nat) : cv (subL P P') Q k = cv P Q k - cv P' Q k := by
  unfold cv
  rw [← sm_sub]
  exact sm_congr fun i _ => by rw [cf_subL, Int.sub_mul]
theorem cv_add_right (P Q Q' : List Int) (k : Nat) : cv P (addL Q Q') k = cv P Q k + cv P Q' k := by
  rw [cv_comm, cv_add_left, cv_comm Q, cv_comm Q']
theorem cv_sub_right (P Q Q' : List Int) (k : Nat) : cv P (subL Q Q') k = cv P Q k - cv P Q' k := by
  rw [cv_comm, cv_sub_left, cv_comm Q, cv_comm Q']
/-- times a number -/
def sclL (c : Int) (P : List Int) : List Int := P.map (c * ·)
theorem cf_sclL (c : Int) (P : List Int) (k : Nat) : cf (sclL c P) k = c * cf P k := cf_map (f := (c * ·)) (by omega) P k
theorem sclL_len (c : Int) (P : List Int) : (sclL c P).length = P.length := by unfold sclL; simp
theorem trim_sclL {c : Int} {P : List Int} (hc : c ≠ 0) (h : Trim P) : Trim (sclL c P) := by
  rcases h with h | h
  · left; rw [h]; rfl
  · right; rw [sclL_len, cf_sclL]; exact Int.mul_ne_zero hc h
theorem cv_scl_left (c : Int) (P Q : List Int) (k : Nat) : cv (sclL c P) Q k = c * cv P Q k := by
  unfold cv
  rw [← sm_mul]
  exact sm_congr fun i _ => by rw [cf_sclL, Int.mul_assoc]
theorem cv_scl_right (c : Int) (P Q : List Int) (k : Nat) : cv P (sclL c Q) k = c * cv P Q k := by
  rw [cv_comm, cv_scl_left, cv_comm]
theorem mulL_comm (P Q : List Int) : mulL P Q = mulL Q P := trim_ext (trim_mulL _ _) (trim_mulL _ _) fun k => by rw [cf_mulL, cf_mulL, cv_comm]
theorem mulL_assoc (P Q R : List Int) : mulL (mulL P Q) R = mulL P (mulL Q R) := trim_ext (trim_mulL _ _) (trim_mulL _ _) fun k => by rw [cf_mulL, cf_mulL, cv_assoc]
theorem mulU_one {c : Int} (P : List Int) : mulU [c] P = sclL c P := by
  by_cases h : P = []
  · subst h; rfl
  · refine ext ?_ fun k _ => ?_
    · unfold mulU
      rw [if_neg (fun z => z.elim (fun h => by cases h) h), List.length_map, List.length_range, sclL_len]
      show 1 + P.length - 1 = _
      omega
    · rw [cf_mulU, cv_one, cf_sclL]
/-- the top of a product -/
theorem cv_top {D Q : List Int} {d e : Nat} (hd : ∀ i, d < i → cf D i = 0) (he : ∀ i, e < i → cf Q i = 0) : cv D Q (d + e) = cf D d * cf Q e := by
  unfold cv
  rw [sm_single (j := d) (by omega) fun i _ hn => ?_]
  · rw [Nat.add_sub_cancel_left]
  · by_cases h : d < i
    · rw [hd i h, Int.zero_mul]
    · rw [he (d + e - i) (by omega), Int.mul_zero]
theorem exists_top {D : List Int} (h : ∃ i, cf D i ≠ 0) : ∃ d, cf D d ≠ 0 ∧ ∀ i, d < i → cf D i = 0 := by
  have ht := trim_trimL D
  rcases ht with e | e
  · obtain ⟨i, hi⟩ := h
    rw [← cf_trimL, e, cf_nil] at hi
    exact absurd rfl hi
  · refine ⟨(trimL D).length - 1, by rw [cf_trimL] at e; exact e, fun i hi => ?_⟩
    rw [← cf_trimL]
    exact cf_beyond (by omega)
theorem top_of {Q : List Int} (hT : Trim Q) (h0 : Q ≠ []) : cf Q (Q.length - 1) ≠ 0 ∧ ∀ i, Q.length - 1 < i → cf Q i = 0 :=
  ⟨lc_ne hT h0, fun i hi => cf_beyond (by omega)⟩
/-- what is times Q and of a lower degree than Q is nought -/
theorem low_zero {D Q : List Int} (hT : Trim Q) (h0 : Q ≠ []) (h : ∀ k, Q.length - 1 ≤ k → cv D Q k = 0) : ∀ i, cf D i = 0 := by
  intro i
  apply Classical.byContradiction
  intro hi
  obtain ⟨d, hd, hd2⟩ := exists_top ⟨i, hi⟩
  obtain ⟨q1, q2⟩ := top_of hT h0
  have := cv_top hd2 q2
  rw [h _ (by omega)] at this
  exact Int.mul_ne_zero hd q1 this.symm
/-- the rest of a division is told by any such sentence -/
theorem rest_unique {P Q A R : List Int} {f : Int} (hT : Trim Q) (h0 : Q ≠ []) (hR : R.length < Q.length) (h : ∀ k, f * cf P k = cv A Q k + cf R k) (k : Nat) : facL P Q * cf R k = f * cf (remL P Q) k ∧ facL P Q * cf A k = f * cf (quoL P Q) k := by
  have hz : ∀ i, cf (subL (sclL (facL P Q) A) (sclL f (quoL P Q))) i = 0 := low_zero hT h0 fun k hk => by
    rw [cv_sub_left, cv_scl_left, cv_scl_left]
    have h1 := h k
    have h2 := div_eq (P := P) hT h0 k
    have hr := rem_len (P := P) hT h0
    rw [cf_beyond (P := R) (by omega)] at h1
    rw [cf_beyond (P := remL P Q) (by omega)] at h2
    rw [show cv A Q k = f * cf P k by omega, show cv (quoL P Q) Q k = facL P Q * cf P k by omega, ← Int.mul_assoc, ← Int.mul_assoc, Int.mul_comm (facL P Q) f]
    omega
  have ha : ∀ i, facL P Q * cf A i = f * cf (quoL P Q) i := fun i => by
    have := hz i
    rw [cf_subL, cf_sclL, cf_sclL] at this
    omega
  refine ⟨?_, ha k⟩
  have h1 := h k
  have h2 := div_eq (P := P) hT h0 k
  have h3 : facL P Q * cv A Q k = f * cv (quoL P Q) Q k := by
    rw [← cv_scl_left, ← cv_scl_left]
    exact cv_congr (fun i => by rw [cf_sclL, cf_sclL, ha]) (fun _ => rfl) k
  have h4 : cf R k = f * cf P k - cv A Q k := by omega
  have h5 : cf (remL P Q) k = facL P Q * cf P k - cv (quoL P Q) Q k := by omega
  rw [h4, h5, Int.mul_sub, Int.mul_sub, h3, ← Int.mul_assoc, ← Int.mul_assoc, Int.mul_comm (facL P Q) f]
theorem trim_mulU {P Q : List Int} (hP : Trim P) (hQ : Trim Q) : Trim (mulU P Q) := by
  by_cases h : P = [] ∨ Q = []
  · left; unfold mulU; rw [if_pos h]
  · right
    have h1 : P ≠ [] := fun e => h (.inl e)
    have h2 : Q ≠ [] := fun e => h (.inr e)
    have e : (mulU P Q).length = P.length + Q.length - 1 := by unfold mulU; rw [if_neg h]; simp
    have l1 := len_pos h1
    have l2 := len_pos h2
    obtain ⟨a1, a2⟩ := top_of hP h1
    obtain ⟨b1, b2⟩ := top_of hQ h2
    rw [e, cf_mulU, show P.length + Q.length - 1 - 1 = (P.length - 1) + (Q.length - 1) by omega, cv_top a2 b2]
    exact Int.mul_ne_zero a1 b1
theorem cf_zero_nil {P : List Int} (hT : Trim P) : P = [] ↔ ∀ k, cf P k = 0 :=
  ⟨fun h k => by rw [h, cf_nil], fun h => hT.elim id fun e => absurd (h _) e⟩
/-- Q divides P just where the rest is [] -/
theorem rem_nil {P Q A R : List Int} {f : Int} (hf : f ≠ 0) (hP : Trim P) (hT : Trim Q) (h0 : Q ≠ []) (hR : R.length < Q.length) (tR : Trim R) (h : ∀ k, f * cf P k = cv A Q k + cf R k) : remL P Q = [] ↔ R = [] := by
  have hp := facL_pos (P := P) hT h0
  rw [cf_zero_nil (trim_rem hP), cf_zero_nil tR]
  constructor
  · intro hz k
    have := (rest_unique hT h0 hR h k).1
    rw [hz k, Int.mul_zero] at this
    rcases Int.mul_eq_zero.mp this with e | e
    · omega
    · exact e
  · intro hz k
    have := (rest_unique hT h0 hR h k).1
    rw [hz k, Int.mul_zero] at this
    rcases Int.mul_eq_zero.mp this.symm with e | e
    · exact absurd e hf
    · exact e
end MR

set_option linter.all false
/-! Polynomials that differ by a factor. -/
namespace MQ
open ML MD MP MR MG
theorem plain_mul (A : List Int) : ∃ a : Int, (A ≠ [] → Trim A → a ≠ 0) ∧ ∀ k, cf A k = a * cf (plainL A) k := by
  by_cases h : shrunkL A ≠ [] ∧ cf (shrunkL A) ((shrunkL A).length - 1) < 0
  · refine ⟨-gcdL A, fun h0 ht => ?_, fun k => ?_⟩
    · have := gcdL_trim_pos ht h0; omega
    · unfold plainL
      rw [if_pos h, cf_negL, Int.neg_mul_neg, mul_shrunkL]
  · refine ⟨gcdL A, fun h0 ht => ?_, fun k => ?_⟩
    · have := gcdL_trim_pos ht h0; omega
    · unfold plainL
      rw [if_neg h, mul_shrunkL]
theorem len_le_of {A B : List Int} (tA : Trim A) (h : ∀ k, cf B k = 0 → cf A k = 0) : A.length ≤ B.length := by
  rcases tA with e | e
  · rw [e]; simp
  · apply Classical.byContradiction
    intro hl
    exact e (h _ (cf_beyond (by omega)))
theorem gcd_one_of {p : List Int} {A : List Int} (h0 : A ≠ []) (tA : Trim A) : gcdN (plainL A) = 1 := by
  refine gcdN_plainL fun e => ?_
  have := gcdL_trim_pos tA h0
  unfold gcdL at this
  omega
/-- what divides all of y * p, p of the shared divisor 1, divides y -/
theorem dvd_all {p : List Int} (h : gcdN p = 1) {y z : Int} (hd : ∀ k, y ∣ z * cf p k) : y ∣ z := by
  have h1 := gcdN_mul z p
  rw [h, Nat.mul_one] at h1
  have h2 : y.natAbs ∣ gcdN (p.map (z * ·)) := dvd_gcdN fun x hx => by
    rw [Int.natAbs_dvd]
    obtain ⟨w, hw, rfl⟩ := List.mem_map.mp hx
    obtain ⟨k, hk, e⟩ := List.getElem_of_mem hw
    have := hd k
    rw [cf_get hk, e] at this
    exact this
  rw [h1] at h2
  exact Int.natAbs_dvd_natAbs.mp h2
theorem plain_prop {A B : List Int} {x y : Int} (tA : Trim A) (tB : Trim B) (hx : x ≠ 0) (hy : y ≠ 0) (h : ∀ k, x * cf A k = y * cf B k) : plainL A = plainL B := by
  have ab : ∀ k, cf A k = 0 → cf B k = 0 := fun k e => by
    have := h k
    rw [e, Int.mul_zero] at this
    exact (Int.mul_eq_zero.mp this.symm).resolve_left hy
  have ba : ∀ k, cf B k = 0 → cf A k = 0 := fun k e => by
    have := h k
    rw [e, Int.mul_zero] at this
    exact (Int.mul_eq_zero.mp this).resolve_left hx
  have hl : A.length = B.length := Nat.le_antisymm (len_le_of tA ba) (len_le_of tB ab)
  by_cases h0 : A = []
  · subst h0
    have : B = [] := List.eq_nil_of_length_eq_zero hl.symm
    rw [this]
  obtain ⟨a, ha, hA⟩ := plain_mul A
  have ha := ha h0 tA
  have h1 := gcd_one_of (p := []) h0 tA
  have hlast := plainL_last tA h0
  have hlen := plainL_len A
  generalize plainL A = p at *
  have hd : y ∣ x * a := dvd_all h1 fun k => ⟨cf B k, by rw [Int.mul_assoc, ← hA, h]⟩
  obtain ⟨b, hb⟩ := hd
  have hb0 : b ≠ 0 := fun e => by
    rw [e, Int.mul_zero] at hb
    exact (Int.mul_ne_zero hx ha) hb
  refine (plainL_of (c := b) hb0 (by omega) (fun k => ?_) h1 fun _ => hlast).symm
  have := h k
  rw [hA, ← Int.mul_assoc, hb, Int.mul_assoc] at this
  exact (Int.eq_of_mul_eq_mul_left hy this).symm
end MQ

set_option linter.all false
set_option maxRecDepth 100000
/-! Own errors: raised without an argument, caught, asked with isinstance. -/
namespace RB
open PySem PySem.Spec PyProof.Rows L2
open Evl (Ex rLenS rListS rMax2 tCut pss_cut)
/-- X() of an own exception class -/
theorem pmk_own0 {X : Cx} {C : Addr} {bmB : List Value} {B newId initId : String} {x : Str} {p pos : Pos} (F : ExcBaseFacts B newId initId bmB) (q : PySem.W.excIn X.K C bmB newId = true) (gC : X.mg x = some (.ref C)) (kC : PySem.W.keepIn X.K (.ref C) = true) (r : Raises X (.ref C)) (hg : Gl X x)
    (hdb : (x == ("__debug__" : Str)) = false := by decide) : PMk X (.Call (.Name x p) [] [] pos) (fun _ H Q => Q (.ref C) none H) := by
  intro pins s σ H Q I h
  refine wpAny_Call_Name_kw (ld_glob I hg gC ?_ hdb)
  refine PySem.W.callWith_K0 (first := []) I.kIn kC ?_
  show wpAny _ _ (call (.ref C) []) _ _ _
  obtain ⟨bm, N, nm, qn, bs, hdct, sn, sub, ab, col, dd, k0, k1, k2, k3, k5, mN, hC, hN, hni, T⟩ := exc_obj I.kIn q
  refine wpAny_call_exc_subT F T hC hN hni (fun h' e hm => ?_) (by show 0 ≤ sizeLine; omega)
  exact mk_of I hm r h (I.hok.gone hm.new)
/-- what a law needs of an own error class that has no __init__ -/
structure OwnE (K : PySem.W.Frag) (mg : Str → Option Value) (nm : Str) (C : Addr) : Prop where
  g : mg nm = some (.ref C)
  x : PySem.W.excIn K C [.type "ValueError", .type "Exception", .type "BaseException", .type "object"] "ValueError.__new__" = true
  k : PySem.W.keepIn K (.ref C) = true
  b : PySem.W.subIn K (.ref C) (.type "BaseException") = some true
  t : PySem.W.typeIn K (.ref C) = some (.type "type")
def tRz (C : Addr) (E : XK) : TS := fun _ _ H => E (.ref C) none H
theorem ps_rz {X : Cx} {W : WX} {C : Addr} {x : Str} {p pos pos2 : Pos} (T : OwnE X.K X.mg x C) (hc : X.calm = true) (tk : Takes X W) (hg : Gl X x) (hdb : (x == ("__debug__" : Str)) = false := by decide) : PS X (.Raise (some (.Call (.Name x p) [] [] pos)) none pos2) (fun _ σ H => W (.ref C) none σ H) :=
  ps_raise hc tk (pmk_own0 PySem.F.excBase_ValueError T.x T.g T.k (raises_own T.b T.t) hg hdb)
theorem r_rz {C : Addr} {E : XK} {D : Ends} {σ : L2.St} {H : Hp} (h : E (.ref C) none H) : tRz C E D σ H := h
/-- isinstance of a caught error -/
def rIsX (K : PySem.W.Frag) (a : Addr) (cls : Value) (d : Option Addr) : List V → Hp → VK → Prop := fun xs H Q => ∃ D : Addr, cls = .ref D ∧ d = none ∧ ExcC K D ∧ rIsE K D a xs H Q
theorem call_isX {X : Cx} {a : Addr} {cls : Value} {d : Option Addr} {oe : Obj} {pn : List (Addr × Obj)} (hz : Zc cls d oe) (hf : ∃ vs, oe.data = .fields vs) : CallR (X.suite a ((a, oe) :: pn)) (.builtin "isinstance") (rIsX X.K a cls d) := by
  intro pins s σ H xs us Q I r h
  obtain ⟨D, rfl, rfl, C, h⟩ := h
  exact call_isE C hz hf pins s σ H xs us Q I r h
theorem r_isX {K : PySem.W.Frag} {a D : Addr} {c : V} {cv : Value} {b : Bool} {H : Hp} {Q : VK} (C : ExcC K D) (hk : PySem.W.kitOne K (.ref D) cv = some b) (hc : ∀ u, RelV c u → u = cv) (q : Q (.bl b) H) : rIsX K a (.ref D) none [.ref a, c] H Q :=
  ⟨D, rfl, rfl, C, c, cv, b, rfl, hc, hk, q⟩
theorem rel_ref (D : Addr) : ∀ u, RelV (.ref D) u → u = .ref D := fun u h => h
theorem rel_ty (T : String) : ∀ u, RelV (.ty T) u → u = .type T := fun u h => h
theorem kit_ref {K : PySem.W.Frag} {C D : Addr} {b : Bool} (hd : PySem.W.hasDictIn K D = true) (ht : PySem.W.typeIn K (.ref D) = some (.type "type")) (hs : PySem.W.subIn K (.ref D) (.ref D) = some true) (h : PySem.W.subIn K (.ref C) (.ref D) = some b) : PySem.W.kitOne K (.ref C) (.ref D) = some b := by
  obtain ⟨cd, hc, _⟩ := PySem.W.any_some hd
  have e2 : ((PySem.W.clsIn K D).isSome && PySem.W.typeIn K (.ref D) == some (.type "type")) = true := by rw [hc, ht] <;> rfl
  unfold PySem.W.kitOne
  by_cases e : (Value.ref C == Value.ref D) = true
  · rw [if_pos e]
    have e' : C = D := Value.ref.inj (beq_iff_eq.mp e)
    subst e'
    rw [hs] at h
    exact h
  · rw [if_neg e]
    show (if ((PySem.W.clsIn K D).isSome && PySem.W.typeIn K (.ref D) == some (.type "type")) = true then PySem.W.subIn K (.ref C) (.ref D) else none) = some b
    rw [if_pos e2]
    exact h
theorem kit_ve {K : PySem.W.Frag} {C : Addr} (h : PySem.W.subIn K (.ref C) (.type "ValueError") = some true) : PySem.W.kitOne K (.ref C) (.type "ValueError") = some true := by
  unfold PySem.W.kitOne
  rw [if_neg (fun h => by have := beq_iff_eq.mp h; cases this)]
  show (if PySem.W.kitMeta "ValueError" = true then PySem.W.subIn K (.ref C) (.type "ValueError") else none) = some true
  rw [if_pos (by decide +kernel)]
  exact h
/-- try: .. except x as n: .. -/
def tTryAs (K : PySem.W.Frag) (c : Value) (i : Nat) (tb : WX → TS) (ts : Addr → Value → Option Addr → TS) : TS := fun D σ H => tb (wAs K c i ts (fun _ _ _ _ => False) D) D σ H
theorem r_tryAs {K : PySem.W.Frag} {c : Value} {i : Nat} {tb : WX → TS} {ts : Addr → Value → Option Addr → TS} {D : Ends} {σ : L2.St} {H : Hp} (h : tb (wAs K c i ts (fun _ _ _ _ => False) D) D σ H) : tTryAs K c i tb ts D σ H := h
/-- the clause takes it -/
theorem w_as {K : PySem.W.Frag} {c cls : Value} {i : Nat} {ts : Addr → Value → Option Addr → TS} {Wout : WX} {D : Ends} {d : Option Addr} {σ : L2.St} {H : Hp} (hm : PySem.W.exmOne K cls c = some true)
    (h : ∀ a, H a = none → ts a cls d { nx := fun σ' H' => D.nx (σ'.set i none) H', rt := D.rt, bk := fun σ' H' => D.bk (σ'.set i none) H', ct := fun σ' H' => D.ct (σ'.set i none) H' } (σ.set i (some (.ref a))) H) : wAs K c i ts Wout D cls d σ H :=
  ⟨true, hm, fun _ => h, fun z => by cases z⟩
theorem w_as_not {K : PySem.W.Frag} {c cls : Value} {i : Nat} {ts : Addr → Value → Option Addr → TS} {Wout : WX} {D : Ends} {d : Option Addr} {σ : L2.St} {H : Hp} (hm : PySem.W.exmOne K cls c = some false) (h : Wout cls d σ H) : wAs K c i ts Wout D cls d σ H :=
  ⟨false, hm, fun z => (by cases z), fun _ => h⟩
def tTryOnly (K : PySem.W.Frag) (c : Value) (tb : WX → TS) (ts : Addr → Value → Option Addr → TS) : TS := fun D σ H => tb (wOnly K c ts (fun _ _ _ _ => False) D) D σ H
theorem r_tryOnly {K : PySem.W.Frag} {c : Value} {tb : WX → TS} {ts : Addr → Value → Option Addr → TS} {D : Ends} {σ : L2.St} {H : Hp} (h : tb (wOnly K c ts (fun _ _ _ _ => False) D) D σ H) : tTryOnly K c tb ts D σ H := h
theorem w_only {K : PySem.W.Frag} {c cls : Value} {ts : Addr → Value → Option Addr → TS} {Wout : WX} {D : Ends} {d : Option Addr} {σ : L2.St} {H : Hp} (hm : PySem.W.exmOne K cls c = some true) (h : ∀ a, H a = none → ts a cls d D σ H) : wOnly K c ts Wout D cls d σ H :=
  ⟨true, hm, fun _ => h, fun z => by cases z⟩
theorem r_callS {sp : Sp} {E : L2.St → XK} {ta : TA} {σ : L2.St} {H : Hp} {Q : VK} (h : ta σ H fun vs H1 => sp vs H1 Q (E σ)) : tCallS sp E ta σ H Q := h
end RB

set_option linter.all false
set_option maxRecDepth 100000
set_option maxHeartbeats 1000000
/-! try with several clauses, each with a name of its own. -/
namespace RB
open PySem PySem.Spec PyProof.Rows L2
/-- a clause: its class, the slot of its name, its suite -/
abbrev Cl := Value × Nat × (Addr → Value → Option Addr → TS)
/-- behind a suite the name is gone -/
def goneE (D : Ends) (i : Nat) : Ends := { nx := fun τ G => D.nx (τ.set i none) G, rt := D.rt, bk := fun τ G => D.bk (τ.set i none) G, ct := fun τ G => D.ct (τ.set i none) G }
def wCl (K : PySem.W.Frag) (Wout : WX) (D : Ends) : List Cl → WX
  | [] => Wout
  | (c, i, ts) :: r => fun cls d τ G => ∃ yes, PySem.W.exmOne K cls c = some yes ∧ (yes = true → ∀ x, G x = none → ts x cls d (goneE D i) (τ.set i (some (.ref x))) G) ∧ (yes = false → wCl K Wout D r cls d τ G)
inductive ClOk (X : Cx) : List ExceptHandler → List Cl → Prop
  | nil : ClOk X [] []
  | cons {x n : Str} {i : Nat} {c : Value} {ts : Addr → Value → Option Addr → TS} {b₀ : Stmt} {suite : List Stmt} {np hp : Pos} {hs : List ExceptHandler} {l : List Cl} (hi : X.N[i]? = some n) (hl : X.env.kindOf n = some .local) (hc : Names X x c)
      (hsu : ∀ (e : Addr) (o : Obj) (cls : Value) (d : Option Addr) (pn : List (Addr × Obj)), Zc cls d o → (∃ v, o.data = .fields v) → PSs (X.suite e ((e, o) :: pn)) (b₀ :: suite) (ts e cls d)) (r : ClOk X hs l) :
      ClOk X (.ExceptHandler (some (.Name x np)) (some n) (b₀ :: suite) hp :: hs) ((c, i, ts) :: l)
section
variable {X : Cx} {body : List Stmt} {g₀ : ExceptHandler} {gs : List ExceptHandler} {l : List Cl} {tp : Pos} {tb : WX → TS} {Wout : WX}
theorem ps_try_cl (hst : X.stack = X.env :: X.outer) (hfr : X.env.frame = some X.env.locals) (hN : X.N.Nodup) (tk : Takes X Wout)
    (hb : ∀ (W : WX) (pn : List (Addr × Obj)) (xe : Value → Shared → Prop), Takes (X.tr pn xe) W → PassesOwn (model X.prog X.w) X.A X.env xe → PSs (X.tr pn xe) body (tb W))
    (hcl : ClOk X (g₀ :: gs) l) : PS X (.Try body (g₀ :: gs) [] [] tp) (fun D τ G => tb (wCl X.K Wout D l) D τ G) := by
  constructor
  intro pins s τ G D I h
  have okX := I.ok
  have frs0 : X.A.frames = some (X.env :: X.outer) := okX.frames.trans (congrArg some hst)
  apply wpAny_Try_except
  let caught : Value → Shared → Prop := fun e t1 => wpAny (model X.prog X.w) X.A (noteFrame e X.env) (fun _ t2 => wpAny (model X.prog X.w) X.A (setFlight e none)
    (fun _ t3 => wpAny (model X.prog X.w) X.A (handleBy e X.env (g₀ :: gs)) (SP X pins D) X.xe t3) X.xe t2) X.xe t1
  have taken : Takes (X.tr (X.pn ++ pins) caught) (wCl X.K Wout D l) := by
    intro u t xx
    obtain ⟨x, B, t0, pins', τ1, G1, cls, d, rfl, J0, nb, up, sky, nx, os, ag, w⟩ := xx
    have J1 : Inv X pins τ1 G1 t0 := J0.ofTry okX
    have sky1 : Sky B (X.env :: X.outer) x (Zc cls d) X.env.locals t.heap := hst ▸ sky
    show wpAny (model X.prog X.w) X.A (noteFrame (.ref x) X.env) _ _ _
    apply Sky.land Zc.steady frs0 hfr sky1
    intro k3 fl3 up3
    have J3 : Inv X pins τ1 G1 { t with heap := k3 } := J1.landed nb fl3.1 (up.trans up3) os ag
    obtain ⟨o3, v3, ho3, hz3, hv3⟩ := fl3.there
    have off : x ∉ frs (X.env :: X.outer) := by
      intro hm
      obtain ⟨_, o', eo, hno⟩ := fl3.2.2.1.mem hm
      rw [ho3] at eo
      cases eo
      exact hno _ hv3
    have offL : x ≠ X.env.locals := by
      intro z
      exact off (List.mem_filterMap.mpr ⟨X.env, List.mem_cons_self, by rw [hfr, z]⟩)
    have offF : x ∉ X.fs := by
      intro hm
      obtain ⟨y, hy, q⟩ := List.mem_filterMap.mp hm
      exact off (List.mem_filterMap.mpr ⟨y, List.mem_cons_of_mem _ hy, q⟩)
    have S3 := J3.suite ho3 hv3 nx offL offF
    have looks : PySem.W.Looks (model X.prog X.w) k3 (typeOf (.ref x)) cls := fun A Q E s k q => wpAny_typeOf_ref (k _ _ ho3) (hz3.1 ▸ q)
    have rounds : ∀ {gl : List ExceptHandler} {ll : List Cl}, ClOk X gl ll → wCl X.K Wout D ll cls d τ1 G1 → wpAny (model X.prog X.w) X.A (handleBy (.ref x) X.env gl) (SP X pins D) X.xe { t with heap := k3 } := by
      intro gl ll hk
      induction hk with
      | nil =>
        intro w
        apply wpAny_handleBy_nil
        obtain ⟨_, _, _, oe, vs, T, oT, _, he, _, hd, h1, _⟩ := id fl3
        unfold PySem.passOn
        refine wpAny_bind (wpAny_field he hd h1 ?_)
        rw [if_neg (show ¬ ((Value.ref T == Value.none) = true) by simp)]
        have last : wpAny (model X.prog X.w) X.A (setFlight (.ref x) X.env.frame) (fun _ t4 => wpAny (model X.prog X.w) X.A (throw (.ref x) : Sem Flow) (SP X pins D) X.xe t4) X.xe { t with heap := k3 } := by
          rw [hfr]
          apply HandSPX.setFlight_upZ fl3
          intro k4 hh4 up4
          exact wpAny_throw (tk _ _ ⟨x, B, t0, pins, τ1, G1, cls, d, rfl, J1, nb, (up.trans up3).trans up4, .inr (.inr (hst ▸ hh4)), nx, os, ag, w⟩)
        first
          | exact wpAny_bind (wpAny_pure (wpAny_bind last))
          | exact wpAny_bind last
      | @cons y n i c ts b₀ suite np hp hs2 l2 hi hln hc hsu r ih =>
        intro w
        obtain ⟨yes, hm, hyes, hno⟩ := w
        refine wpAny_handleBy_cons (codeAny_handlers_test ?_) (fun q => by cases q)
        have matches_ := PySem.W.exm_one (M := model X.prog X.w) J3.kIn looks hm
        have named : ∀ {Q : Value → Shared → Prop} {E : Value → Shared → Prop}, Q c { t with heap := k3 } → wpAny (model X.prog X.w) (X.A.mark (some (.ref x))) (eval (.Name y np) X.env) Q E { t with heap := k3 } := by
          intro Q E q
          rcases hc with ⟨hg, hdb, hm1 | ⟨hm1, hv, hnn⟩⟩
          · exact ld_glob (X := X.suite x ((x, o3) :: (X.pn ++ pins))) S3 hg hm1 q hdb
          · exact ld_blt (X := X.suite x ((x, o3) :: (X.pn ++ pins))) S3 hg hm1 hv q hnn hdb
        apply named
        apply matches_.here
        cases yes with
        | false =>
          show wpAny _ X.A (handleBy (.ref x) X.env hs2) _ _ _
          exact ih (hno rfl)
        | true =>
          apply codeAny_handlers_suite_as
          apply HandSPX.lands_againZ fl3
          intro k4 fl4 up4
          have J4 : Inv X pins τ1 G1 { t with heap := k4 } := J1.landed nb fl4.1 ((up.trans up3).trans up4) os ag
          obtain ⟨o4, v4, ho4, hz4, hv4⟩ := fl4.there
          have S4 := J4.suite ho4 hv4 nx offL offF
          refine store_ok (X := X.suite x ((x, o4) :: (X.pn ++ pins))) (v := .ref x) S4 hN hi (.inl hln) rfl (fun t5 S5 => ?_) (.inr hln)
          refine wpAny_mono ((hsu x o4 cls d (X.pn ++ pins) hz4 ⟨_, hv4⟩).run [] t5 _ G1 _ S5 (hyes rfl x nx)) (fun f t6 hsp => ?_) (fun _ _ z => False.elim z)
          have off_ : ∀ {τ6 : L2.St} {G6 : Hp} {Q : Shared → Prop}, Inv (X.suite x ((x, o4) :: (X.pn ++ pins))) [] τ6 G6 t6 → (∀ t7, Inv X pins (τ6.set i none) G6 t7 → Q t7) →
              wpAny (model X.prog X.w) X.A (do bindName X.env n .none; unbindBehindTheSuite X.env n hp) (fun _ t7 => Q t7) X.xe t6 := by
            intro τ6 G6 Q S6 hq
            exact gone_ok (S6.unsuite okX) hN hi hln hq
          cases f with
          | ret u =>
            obtain ⟨v6, τ6, G6, S6, r6, q6⟩ := hsp
            exact off_ S6 fun t7 J7 => ⟨_, _, _, J7, r6, q6⟩
          | next => obtain ⟨τ6, G6, S6, q6⟩ := hsp; exact off_ S6 fun t7 J7 => ⟨_, _, J7, q6⟩
          | brk => obtain ⟨τ6, G6, S6, q6⟩ := hsp; exact off_ S6 fun t7 J7 => ⟨_, _, J7, q6⟩
          | cont => obtain ⟨τ6, G6, S6, q6⟩ := hsp; exact off_ S6 fun t7 J7 => ⟨_, _, J7, q6⟩
    exact rounds hcl w
  refine wpAny_mono ((hb (wCl X.K Wout D l) (X.pn ++ pins) caught taken PassesOwn.looking).run [] s τ G D (I.toTry _) h) (fun f t1 hsp => ?_) (fun e t1 he => he)
  cases f with
  | ret u => obtain ⟨v, τ1, G1, J1, r, q⟩ := hsp; exact ⟨v, τ1, G1, J1.ofTry okX, r, q⟩
  | next => obtain ⟨τ1, G1, J1, q⟩ := hsp; exact wpAny_execs_nil ⟨τ1, G1, J1.ofTry okX, q⟩
  | brk => obtain ⟨τ1, G1, J1, q⟩ := hsp; exact ⟨τ1, G1, J1.ofTry okX, q⟩
  | cont => obtain ⟨τ1, G1, J1, q⟩ := hsp; exact ⟨τ1, G1, J1.ofTry okX, q⟩
end
def tTryCl (K : PySem.W.Frag) (tb : WX → TS) (l : List Cl) : TS := fun D σ H => tb (wCl K (fun _ _ _ _ => False) D l) D σ H
theorem r_tryCl {K : PySem.W.Frag} {tb : WX → TS} {l : List Cl} {D : Ends} {σ : L2.St} {H : Hp} (h : tb (wCl K (fun _ _ _ _ => False) D l) D σ H) : tTryCl K tb l D σ H := h
theorem w_cl {K : PySem.W.Frag} {c cls : Value} {i : Nat} {ts : Addr → Value → Option Addr → TS} {l : List Cl} {Wout : WX} {D : Ends} {d : Option Addr} {σ : L2.St} {H : Hp} (hm : PySem.W.exmOne K cls c = some true)
    (h : ∀ a, H a = none → ts a cls d (goneE D i) (σ.set i (some (.ref a))) H) : wCl K Wout D ((c, i, ts) :: l) cls d σ H := ⟨true, hm, fun _ => h, fun z => by cases z⟩
theorem w_cl_not {K : PySem.W.Frag} {c cls : Value} {i : Nat} {ts : Addr → Value → Option Addr → TS} {l : List Cl} {Wout : WX} {D : Ends} {d : Option Addr} {σ : L2.St} {H : Hp} (hm : PySem.W.exmOne K cls c = some false)
    (h : wCl K Wout D l cls d σ H) : wCl K Wout D ((c, i, ts) :: l) cls d σ H := ⟨false, hm, fun z => (by cases z), fun _ => h⟩
end RB

set_option linter.all false
set_option maxRecDepth 100000
set_option maxHeartbeats 4000000
set_option exponentiation.threshold 100000
namespace RP
open PySem PySem.Spec PyProof.Rows L2 RB
open Evl (Ex rLenS rListS rMax2 tCut pss_cut)
local macro_rules | `(tactic| walk_at "hp") => `(tactic| first
  | assumption
  | exact hx_e (by assumption) (by walk_at "hp")
  | exact hx_b (by assumption) (by walk_at "ne") (by walk_at "hp"))
local macro_rules | `(tactic| walk_at "ne") => `(tactic| first
  | assumption
  | exact Ne.symm (by assumption)
  | exact ne_1 (by assumption) (by walk_at "hp")
  | exact ne_2 (by assumption) (by walk_at "hp"))
local macro_rules | `(tactic| walk_at "sq") => `(tactic| first
  | assumption
  | exact Fx.l (by assumption) (by assumption)
  | exact Evl.Ex.l (by assumption) (by assumption)
  | exact SqL.inj (by walk_at "hp"))
local macro_rules | `(tactic| walk_at "rd") => `(tactic| repeat (first
  | with_reducible refine r_seq ?_
  | with_reducible refine r_asg ?_
  | with_reducible refine r_gn ?_
  | ((with_reducible refine' r_var ?h ?_); (case h => exact rfl))
  | with_reducible refine r_c ?_
  | with_reducible refine r_op ?_
  | with_reducible refine r_un ?_
  | with_reducible refine r_add ?_
  | with_reducible refine r_sub ?_
  | ((with_reducible refine' r_pow ?h ?_); (case h => exact ⟨by decide, by decide, by decide⟩))
  | ((with_reducible refine' r_mod ?h ?_); (case h => first | decide | omega))
  | ((with_reducible refine' r_div ?h ?_); (case h => exact ⟨by decide, by decide⟩))
  | with_reducible refine r_lc ?_
  | ((with_reducible refine' r_cListA ?h ?_); (case h => walk_at "sq"))
  | with_reducible refine r_lt ?_
  | with_reducible refine r_le ?_
  | with_reducible refine r_gt ?_
  | with_reducible refine r_ge ?_
  | with_reducible refine r_eqI ?_
  | with_reducible refine r_neI ?_
  | with_reducible refine r_eqB ?_
  | with_reducible refine r_eqS ?_
  | with_reducible refine r_neg ?_
  | with_reducible refine r_ret ?_
  | with_reducible refine r_ifS ?_
  | with_reducible refine r_test ?_
  | with_reducible refine r_B ?_
  | with_reducible refine r_bl ?_
  | with_reducible refine r_int ?_
  | with_reducible refine r_cb ?_
  | with_reducible refine r_cons ?_
  | with_reducible refine r_nil ?_
  | with_reducible refine r_abs ?_
  | with_reducible refine r_max2 ?_
  | with_reducible refine r_min2 ?_
  | ((with_reducible refine' r_lenI ?h ?_); (case h => walk_at "sq"))
  | ((with_reducible refine' r_len ?h ?_); (case h => walk_at "sq"))
  | with_reducible refine r_tru ?_
  | with_reducible refine r_rev ?_
  | with_reducible refine r_iRng3 ?_
  | ((with_reducible refine' r_ixL ?h ?a ?_); (case h => walk_at "sq"); (case a => assumption))
  | ((with_reducible refine' r_ixT ?h ?a ?_); (case h => walk_at "sq"); (case a => assumption))
  | with_reducible refine r_intI ?_
  | with_reducible refine r_intB ?_
  | with_reducible refine r_call ?_
  | with_reducible refine r_lst ?_
  | with_reducible refine r_tup ?_
  | with_reducible refine r_drop ?_
  | with_reducible refine r_and ?_
  | with_reducible refine r_or ?_
  | with_reducible refine r_not ?_
  | with_reducible refine r_andV ?_
  | with_reducible refine r_orV ?_
  | with_reducible refine r_notV ?_
  | with_reducible refine r_if ?_
  | with_reducible refine r_bm ?_
  | with_reducible refine r_bm0 ?_
  | with_reducible refine r_sub_ ?_
  | with_reducible refine r_sl ?_
  | with_reducible refine r_part ?_
  | with_reducible refine r_nopart ?_
  | with_reducible refine r_par ?_
  | with_reducible refine r_par2 ?_
  | with_reducible refine r_for ?_
  | with_reducible refine r_iList ?_
  | ((with_reducible refine' r_iListA ?h ?_); (case h => walk_at "sq"))
  | with_reducible refine r_iTup ?_
  | ((with_reducible refine' r_iTupA ?h ?_); (case h => walk_at "sq"))
  | with_reducible refine r_iRng1 ?_
  | with_reducible refine r_iRng2 ?_
  | with_reducible refine r_iRev ?_
  | ((with_reducible refine' r_iRevA ?h ?_); (case h => walk_at "sq"))
  | with_reducible refine r_iEnum ?_
  | ((with_reducible refine' r_iEnumA ?h ?_); (case h => walk_at "sq"))
  | with_reducible refine r_iRevR ?_
  | with_reducible refine r_rg1 ?_
  | with_reducible refine r_next ?_
  | ((with_reducible refine' r_ty ?h ?_); (case h => exact tyL (by walk_at "hp")))
  | with_reducible refine i_t ?_
  | with_reducible refine i_f ?_
  | with_reducible refine i_nt ?_
  | with_reducible refine i_nf ?_
  | walk_at "call"))
structure ExT (K : PySem.W.Frag) (Cof : String → Addr) : Prop where
  v_RootError : PySem.W.kitOne K (.ref (Cof "RootError")) (.type "ValueError") = some true
  c_RootError : ExcC K (Cof "RootError")
  m_RootError_RootError : PySem.W.exmOne K (.ref (Cof "RootError")) (.ref (Cof "RootError")) = some true
  i_RootError_RootError : PySem.W.kitOne K (.ref (Cof "RootError")) (.ref (Cof "RootError")) = some true
  m_RootError_ByNought : PySem.W.exmOne K (.ref (Cof "RootError")) (.ref (Cof "ByNought")) = some false
  i_RootError_ByNought : PySem.W.kitOne K (.ref (Cof "RootError")) (.ref (Cof "ByNought")) = some false
  m_RootError_NoPart : PySem.W.exmOne K (.ref (Cof "RootError")) (.ref (Cof "NoPart")) = some false
  i_RootError_NoPart : PySem.W.kitOne K (.ref (Cof "RootError")) (.ref (Cof "NoPart")) = some false
  v_ByNought : PySem.W.kitOne K (.ref (Cof "ByNought")) (.type "ValueError") = some true
  c_ByNought : ExcC K (Cof "ByNought")
  m_ByNought_RootError : PySem.W.exmOne K (.ref (Cof "ByNought")) (.ref (Cof "RootError")) = some true
  i_ByNought_RootError : PySem.W.kitOne K (.ref (Cof "ByNought")) (.ref (Cof "RootError")) = some true
  m_ByNought_ByNought : PySem.W.exmOne K (.ref (Cof "ByNought")) (.ref (Cof "ByNought")) = some true
  i_ByNought_ByNought : PySem.W.kitOne K (.ref (Cof "ByNought")) (.ref (Cof "ByNought")) = some true
  m_ByNought_NoPart : PySem.W.exmOne K (.ref (Cof "ByNought")) (.ref (Cof "NoPart")) = some false
  i_ByNought_NoPart : PySem.W.kitOne K (.ref (Cof "ByNought")) (.ref (Cof "NoPart")) = some false
  v_NoPart : PySem.W.kitOne K (.ref (Cof "NoPart")) (.type "ValueError") = some true
  c_NoPart : ExcC K (Cof "NoPart")
  m_NoPart_RootError : PySem.W.exmOne K (.ref (Cof "NoPart")) (.ref (Cof "RootError")) = some true
  i_NoPart_RootError : PySem.W.kitOne K (.ref (Cof "NoPart")) (.ref (Cof "RootError")) = some true
  m_NoPart_ByNought : PySem.W.exmOne K (.ref (Cof "NoPart")) (.ref (Cof "ByNought")) = some false
  i_NoPart_ByNought : PySem.W.kitOne K (.ref (Cof "NoPart")) (.ref (Cof "ByNought")) = some false
  m_NoPart_NoPart : PySem.W.exmOne K (.ref (Cof "NoPart")) (.ref (Cof "NoPart")) = some true
  i_NoPart_NoPart : PySem.W.kitOne K (.ref (Cof "NoPart")) (.ref (Cof "NoPart")) = some true

/-! #### shared -/
--USE MG
def sp_shared (K : PySem.W.Frag) (Cof : String → Addr) : Sp := fun vs H Q _ => ∃ (a : Addr) (ns : List Int), vs = [.ref a] ∧ SqL K H a (ns.map V.int) ∧ Q (.int (MG.gcdL ns)) H
def t_shared (K : PySem.W.Frag) (Cof : String → Addr) (E : XK) : TS :=
  tSeq (tAsg (tC (.int 0)) (gName 1))
  (tSeq (tFor (iList K (tVar 0)) (gName 2) (tWhile (tTest (tOp rNe (tVar 2) (tC (.int 0)))) (tSeq (tAsg (tOp rMod (tVar 1) (tVar 2)) (gName 3))
  (tSeq (tAsg (tVar 2) (gName 1))
  (tAsg (tVar 3) (gName 2))))))
  (tRet (tCB rAbs (tCons (tVar 1) (tNil)))))

section
variable {K : PySem.W.Frag} {Cof : String → Addr} {vs : List V} {H : Hp} {Q : VK} {E : XK}
theorem len_shared (h : sp_shared K Cof vs H Q E) : vs.length = 1 := by
  obtain ⟨a, ns, rfl, _⟩ := h; rfl
theorem rd_shared (h : sp_shared K Cof vs H Q E) : t_shared K Cof E { nx := fun _ H' => Q .non H', rt := Q } (start ["row", "found", "one", "rest"] vs) H := by
  obtain ⟨a, ns, rfl, hS, q⟩ := h
  unfold t_shared
  walk_at "rd"
  refine loop_ints (ns := ns) (fun i σ' H' => ∃ (f : Int) (u r : Option V), σ' = [some (.ref a), some (.int f), u, r] ∧ H' = H ∧ f.natAbs = MG.gcdN (ns.take i)) ⟨0, none, none, rfl, rfl, rfl⟩ (fun i σ' H' _ hp => ?_) (fun i x σ' H' hx hp => ?_) (fun σ' H' hp => ?_)
  · obtain ⟨f, u, r, rfl, rfl, _⟩ := hp; exact hS
  · obtain ⟨f, u, r, rfl, rfl, hf⟩ := hp
    refine r_while (fun m σ2 H2 => ∃ (f o : Int) (r : Option V), σ2 = [some (.ref a), some (.int f), some (.int o), r] ∧ H2 = H' ∧ m = o.natAbs ∧ Int.gcd f o = MG.gcdN (ns.take (i + 1))) x.natAbs ⟨f, x, r, rfl, rfl, rfl, ?_⟩ (fun m σ2 H2 hw => ?_)
    · rw [MG.gcdN_take hx, ← hf]; rfl
    · obtain ⟨f, o, r, rfl, rfl, rfl, hg⟩ := hw
      walk_at "rd"
      refine ite_nd (fun h => wh_in ?_) (fun h => ?_)
      · walk_at "rd"
        exact ⟨_, MG.fmod_lt h, o, f.fmod o, _, rfl, rfl, rfl, by rw [MG.gcd_fmod]; exact hg⟩
      · refine ⟨f, _, _, rfl, rfl, ?_⟩
        rw [← hg, h, Int.gcd_zero_right]
  · obtain ⟨f, u, r, rfl, rfl, hf⟩ := hp
    walk_at "rd"
    rw [List.take_length] at hf
    have e : (if f < 0 then -f else f) = MG.gcdL ns := by
      unfold MG.gcdL
      rw [← hf]
      split <;> omega
    rw [e]
    exact q
end
theorem c_shared {K : PySem.W.Frag} {Cof : String → Addr} {H : Hp} {Q : VK} {E : XK} {a : Addr} {ns : List Int} (h : SqL K H a (ns.map V.int)) (q : Q (.int (MG.gcdL ns)) H) : sp_shared K Cof [.ref a] H Q E := ⟨a, ns, rfl, h, q⟩
local macro_rules | `(tactic| walk_at "call") => `(tactic| ((with_reducible refine' c_shared ?h ?_); (case h => walk_at "sq")))

/-! #### poly -/
--USE ML
def sp_poly (K : PySem.W.Frag) (Cof : String → Addr) : Sp := fun vs H Q _ => ∃ (a : Addr) (ns : List Int), vs = [.ref a] ∧ SqL K H a (ns.map V.int) ∧ ns.length ≤ 1000000 ∧ RetI (ML.trimL ns) H Q
def t_poly (K : PySem.W.Frag) (Cof : String → Addr) (E : XK) : TS :=
  tSeq (tAsg (tCB (rLenS K) (tCons (tVar 0) (tNil))) (gName 1))
  (tSeq (tWhile (tAnd (tTest (tOp rGt (tVar 1) (tC (.int 0)))) (tTest (tOp rEq (tOp (rIxL K) (tVar 0) (tOp rISub (tVar 1) (tC (.int 1)))) (tC (.int 0))))) (tAsg (tOp rISub (tVar 1) (tC (.int 1))) (gName 1)))
  (tRet (tSl (rSlL K) (tVar 0) (tNoPart) (tPart (tVar 1)))))

section
variable {K : PySem.W.Frag} {Cof : String → Addr} {vs : List V} {H : Hp} {Q : VK} {E : XK}
theorem len_poly (h : sp_poly K Cof vs H Q E) : vs.length = 1 := by
  obtain ⟨a, ns, rfl, _⟩ := h; rfl
theorem rd_poly (h : sp_poly K Cof vs H Q E) : t_poly K Cof E { nx := fun _ H' => Q .non H', rt := Q } (start ["row", "size"] vs) H := by
  obtain ⟨a, ns, rfl, hS, hl, q⟩ := h
  unfold t_poly
  walk_at "rd"
  try rw [List.length_map]
  refine r_while (fun m σ' H' => σ' = [some (.ref a), some (.int (m : Int))] ∧ H' = H ∧ m ≤ ns.length ∧ ∀ k, m ≤ k → ML.cf ns k = 0) ns.length ⟨rfl, rfl, Nat.le_refl _, fun k hk => ML.cf_beyond hk⟩ (fun m σ' H' hw => ?_)
  obtain ⟨rfl, rfl, hm, h0⟩ := hw
  walk_at "rd"
  refine ite_d (fun hp => ?_) (fun hp => ?_)
  · walk_at "rd"
    refine r_ixI hS (by omega) (by omega) ?_
    walk_at "rd"
    have e : ns.getD ((m : Int) - 1).toNat 0 = ML.cf ns (m - 1) := by
      unfold ML.cf; congr 1; omega
    rw [e]
    refine ite_d (fun hz => wh_in ?_) (fun hz => ?_)
    · walk_at "rd"
      have e1 : (m : Int) - 1 = ((m - 1 : Nat) : Int) := by omega
      exact ⟨m - 1, by omega, by rw [e1]; rfl, rfl, by omega, fun k hk => by
        by_cases hk' : k = m - 1
        · rw [hk', hz]
        · exact h0 k (by omega)⟩
    · walk_at "rd"
      refine r_slI hS fun p H' hp e h => q p H' hp e ?_
      rw [ML.trimL_take hm h0 (.inr hz), ← sliceI_to hm]
      exact h
  · walk_at "rd"
    refine r_slI hS fun p H' hp e h => q p H' hp e ?_
    rw [ML.trimL_take hm h0 (.inl (by omega)), ← sliceI_to hm]
    exact h
theorem c_poly {a : Addr} {ns : List Int} (h : SqL K H a (ns.map V.int)) (hl : ns.length ≤ 1000000) (q : ∀ p H', H p = none → Ex H H' → H' p = some (.lst ((ML.trimL ns).map V.int)) → Q (.ref p) H') : sp_poly K Cof [.ref a] H Q E := ⟨a, ns, rfl, h, hl, q⟩
end

/-! #### degree -/
def sp_degree (K : PySem.W.Frag) (Cof : String → Addr) : Sp := fun vs H Q _ => ∃ (a : Addr) (ns : List Int), vs = [.ref a] ∧ SqL K H a (ns.map V.int) ∧ Q (.int ((ns.length : Int) - 1)) H
def t_degree (K : PySem.W.Frag) (Cof : String → Addr) (E : XK) : TS :=
  tRet (tOp rISub (tCB (rLenS K) (tCons (tVar 0) (tNil))) (tC (.int 1)))

section
variable {K : PySem.W.Frag} {Cof : String → Addr} {vs : List V} {H : Hp} {Q : VK} {E : XK}
theorem len_degree (h : sp_degree K Cof vs H Q E) : vs.length = 1 := by
  obtain ⟨a, ns, rfl, _⟩ := h; rfl
theorem rd_degree (h : sp_degree K Cof vs H Q E) : t_degree K Cof E { nx := fun _ H' => Q .non H', rt := Q } (start ["P"] vs) H := by
  obtain ⟨a, ns, rfl, hS, q⟩ := h
  unfold t_degree
  walk_at "rd"
  try rw [List.length_map]
  exact q
theorem c_degree {a : Addr} {ns : List Int} (h : SqL K H a (ns.map V.int)) (q : Q (.int ((ns.length : Int) - 1)) H) : sp_degree K Cof [.ref a] H Q E := ⟨a, ns, rfl, h, q⟩
end
local macro_rules | `(tactic| walk_at "call") => `(tactic| ((with_reducible refine' c_degree ?h ?_); (case h => walk_at "sq")))

/-! #### shrunk -/
--USE MP
def sp_shrunk (K : PySem.W.Frag) (Cof : String → Addr) : Sp := fun vs H Q _ => ∃ (a : Addr) (P : List Int), vs = [.ref a] ∧ SqL K H a (P.map V.int) ∧ P.length ≤ 100000 ∧ (P ≠ [] → MG.gcdL P ≠ 0 ∧ (MG.gcdL P).natAbs.log2 < 9000) ∧ RetI (MP.shrunkL P) H Q
def t_shrunk (K : PySem.W.Frag) (Cof : String → Addr) (E : XK) : TS :=
  tSeq (tAsg (tCall (sp_shared K Cof) [] E0 (tCons (tVar 0) (tNil))) (gName 1))
  (tRet (tLc (iList K (tVar 0)) (gName 2) (tYes) (tOp rDiv (tVar 2) (tVar 1)) [2]))

section
variable {K : PySem.W.Frag} {Cof : String → Addr} {vs : List V} {H : Hp} {Q : VK} {E : XK}
theorem len_shrunk (h : sp_shrunk K Cof vs H Q E) : vs.length = 1 := by
  obtain ⟨a, P, rfl, _⟩ := h; rfl
theorem rd_shrunk (h : sp_shrunk K Cof vs H Q E) : t_shrunk K Cof E { nx := fun _ H' => Q .non H', rt := Q } (start ["P", "part", "one"] vs) H := by
  obtain ⟨a, P, rfl, hS, hl, hg, q⟩ := h
  unfold t_shrunk
  walk_at "rd"
  refine lc_ints (fun x => x.fdiv (MG.gcdL P)) hS (by omega) (fun x hx H1 e1 Q' k' => ?_) (fun p H1 hp e1 h1 => q p H1 hp e1 h1)
  have hn : P ≠ [] := fun e => by rw [e] at hx; cases hx
  walk_at "rd"
  refine r_div (hg hn) ?_
  exact k' _ (Evl.Ex.refl _)
theorem c_shrunk {a : Addr} {P : List Int} (h : SqL K H a (P.map V.int)) (hl : P.length ≤ 100000) (hg : P ≠ [] → MG.gcdL P ≠ 0 ∧ (MG.gcdL P).natAbs.log2 < 9000) (q : ∀ p H', H p = none → Ex H H' → H' p = some (.lst ((MP.shrunkL P).map V.int)) → Q (.ref p) H') : sp_shrunk K Cof [.ref a] H Q E := ⟨a, P, rfl, h, hl, hg, q⟩
end
/-- what shrunk asks of a polynomial of coefficients below 2 ^ n -/
theorem shr_ok {P : List Int} {n : Nat} (hn : 0 < n) (h9 : n ≤ 9000) (hs : ML.Sz n P) (h : ML.Trim P) (h0 : P ≠ []) : MG.gcdL P ≠ 0 ∧ (MG.gcdL P).natAbs.log2 < 9000 := by
  have h1 := MP.gcdL_trim_pos h h0
  have h2 := MP.gcdL_log hn hs h h0
  exact ⟨by omega, Nat.lt_of_lt_of_le (PySem.Flt.log2_lt_of hn h2) h9⟩

/-! #### plain -/
--USE MP
def sp_plain (K : PySem.W.Frag) (Cof : String → Addr) : Sp := fun vs H Q _ => ∃ (a : Addr) (P : List Int), vs = [.ref a] ∧ SqL K H a (P.map V.int) ∧ P.length ≤ 100000 ∧ (P ≠ [] → MG.gcdL P ≠ 0 ∧ (MG.gcdL P).natAbs.log2 < 9000) ∧ RetI (MP.plainL P) H Q
def t_plain (K : PySem.W.Frag) (Cof : String → Addr) (E : XK) : TS :=
  tSeq (tAsg (tCall (sp_shrunk K Cof) [] E0 (tCons (tVar 0) (tNil))) (gName 1))
  (tSeq (tIfS (tAnd (tTru K (tVar 1)) (tTest (tOp rLt (tOp (rIxL K) (tVar 1) (tUn rNeg (tC (.int 1)))) (tC (.int 0))))) (tRet (tLc (iList K (tVar 1)) (gName 2) (tYes) (tUn rNeg (tVar 2)) [2])) (tNext))
  (tRet (tVar 1)))

section
variable {K : PySem.W.Frag} {Cof : String → Addr} {vs : List V} {H : Hp} {Q : VK} {E : XK}
theorem len_plain (h : sp_plain K Cof vs H Q E) : vs.length = 1 := by
  obtain ⟨a, P, rfl, _⟩ := h; rfl
theorem rd_plain (h : sp_plain K Cof vs H Q E) : t_plain K Cof E { nx := fun _ H' => Q .non H', rt := Q } (start ["P", "row", "one"] vs) H := by
  obtain ⟨a, P, rfl, hS, hl, hg, q⟩ := h
  unfold t_plain
  walk_at "rd"
  refine c_shrunk hS hl hg fun p1 H1 hp1 e1 h1 => ?_
  have hl1 := MP.shrunkL_len P
  walk_at "rd"
  refine ⟨!decide (MP.shrunkL P = []), .inl ⟨_, SqL.inj h1, ?_⟩, ?_⟩
  · cases MP.shrunkL P <;> rfl
  · refine ite_nd (fun hn => ?_) (fun hn => ?_)
    · walk_at "rd"
      refine r_ixLast (SqL.inj h1) hn ?_
      walk_at "rd"
      refine ite_d (fun hneg => ?_) (fun hneg => ?_)
      · walk_at "rd"
        refine lc_ints (fun x => -x) (SqL.inj h1) (by omega) (fun x hx H2 e2 Q' k' => ?_) (fun p2 H2 hp2 e2 h2 => ?_)
        · walk_at "rd"
          exact k' _ (Evl.Ex.refl _)
        · refine q p2 H2 (Evl.fresh_back e1 hp2) (e1.trans e2) ?_
          have e : MP.plainL P = (MP.shrunkL P).map (fun x => -x) := by
            unfold MP.plainL
            rw [if_pos ⟨hn, hneg⟩]; rfl
          rw [e]; exact h2
      · walk_at "rd"
        refine q p1 H1 hp1 e1 ?_
        have e : MP.plainL P = MP.shrunkL P := by
          unfold MP.plainL
          rw [if_neg]
          rintro ⟨_, h3⟩
          exact hneg h3
        rw [e]; exact h1
    · walk_at "rd"
      refine q p1 H1 hp1 e1 ?_
      have e : MP.plainL P = MP.shrunkL P := by
        unfold MP.plainL
        rw [if_neg]
        rintro ⟨h3, _⟩
        exact h3 hn
      rw [e]; exact h1
theorem c_plain {a : Addr} {P : List Int} (h : SqL K H a (P.map V.int)) (hl : P.length ≤ 100000) (hg : P ≠ [] → MG.gcdL P ≠ 0 ∧ (MG.gcdL P).natAbs.log2 < 9000) (q : ∀ p H', H p = none → Ex H H' → H' p = some (.lst ((MP.plainL P).map V.int)) → Q (.ref p) H') : sp_plain K Cof [.ref a] H Q E := ⟨a, P, rfl, h, hl, hg, q⟩
end

/-! #### divided -/
--USE MD
/-- what a division tells: a new tuple of the factor and two new lists -/
def RetDiv (f : Int) (qu re : List Int) (H : Hp) (Q : VK) : Prop := ∀ (t pq pr : Addr) (H' : Hp), H t = none → H pq = none → H pr = none → pq ≠ pr → Ex H H' → H' t = some (.tup [.int f, .ref pq, .ref pr]) → H' pq = some (.lst (qu.map V.int)) → H' pr = some (.lst (re.map V.int)) → Q (.ref t) H'
/-- sizes that a division can take -/
def DivSz (P R : List Int) (n m : Nat) : Prop := ML.Sz n P ∧ ML.Sz m R ∧ P.length ≤ 100000 ∧ R.length ≤ 100000 ∧ 0 < n ∧ 0 < m ∧ m ≤ 9000 ∧ n + (2 * m + 1) * (P.length + 1) ≤ 900000
def sq_divided (K : PySem.W.Frag) (Cof : String → Addr) : Sp := fun vs H Q E => ∃ (a b : Addr) (P R : List Int) (n m : Nat), vs = [.ref a, .ref b] ∧ SqL K H a (P.map V.int) ∧ SqL K H b (R.map V.int) ∧ R ≠ [] ∧ ML.Trim R ∧ DivSz P R n m ∧ RetDiv (MD.facL P R) (MD.quoL P R) (MD.remL P R) H Q
def t_divided (K : PySem.W.Frag) (Cof : String → Addr) (E : XK) : TS :=
  tSeq (tIfS (tTest (tOp (rEqD K) (tVar 1) (tLst (tNil)))) (tRz (Cof "ByNought") E) (tNext))
  (tSeq (tAsg (tOp rISub (tCall (sp_degree K Cof) [] E0 (tCons (tVar 0) (tNil))) (tCall (sp_degree K Cof) [] E0 (tCons (tVar 1) (tNil)))) (gName 2))
  (tSeq (tIfS (tTest (tOp rLt (tVar 2) (tC (.int 0)))) (tRet (tTup (tCons (tC (.int 1)) (tCons (tLst (tNil)) (tCons (tCB (rListS K) (tCons (tVar 0) (tNil))) (tNil)))))) (tNext))
  (tSeq (tAsg (tC (.int 1)) (gName 3))
  (tSeq (tFor (iRng1 (tCons (tOp rIAdd (tVar 2) (tC (.int 1))) (tNil))) (gName 4) (tAsg (tOp rMul (tVar 3) (tCB rAbs (tCons (tOp (rIxL K) (tVar 1) (tUn rNeg (tC (.int 1)))) (tNil)))) (gName 3)))
  (tSeq (tAsg (tLc (iList K (tVar 0)) (gName 6) (tYes) (tOp rMul (tVar 6) (tVar 3)) [6]) (gName 5))
  (tSeq (tAsg (tLc (iRng1 (tCons (tOp rIAdd (tVar 2) (tC (.int 1))) (tNil))) (gName 4) (tYes) (tC (.int 0)) [4]) (gName 7))
  (tSeq (tFor (iRevR (tRg1 (tOp rIAdd (tVar 2) (tC (.int 1))))) (gName 4) (tSeq (tAsg (tOp rDiv (tOp (rIxL K) (tVar 5) (tOp rIAdd (tVar 4) (tCall (sp_degree K Cof) [] E0 (tCons (tVar 1) (tNil))))) (tOp (rIxL K) (tVar 1) (tUn rNeg (tC (.int 1))))) (gName 8))
  (tSeq (tAsg (tVar 8) (gSub (tVar 7) (tVar 4) rSetL))
  (tFor (iEnum K (tCons (tVar 1) (tNil))) (gTup K 2 (gCons (gName 9) (gCons (gName 6) (gNil)))) (tAsg (tOp rISub (tOp (rIxL K) (tVar 5) (tOp rIAdd (tVar 4) (tVar 9))) (tOp rMul (tVar 8) (tVar 6))) (gSub (tVar 5) (tOp rIAdd (tVar 4) (tVar 9)) rSetL))))))
  (tRet (tTup (tCons (tVar 3) (tCons (tCall (sp_poly K Cof) [] E0 (tCons (tVar 7) (tNil))) (tCons (tCall (sp_poly K Cof) [] E0 (tCons (tVar 5) (tNil))) (tNil)))))))))))))

section
variable {K : PySem.W.Frag} {Cof : String → Addr} {vs : List V} {H : Hp} {Q : VK} {E : XK}
theorem lq_divided (h : sq_divided K Cof vs H Q E) : vs.length = 2 := by
  obtain ⟨a, b, P, R, n, m, rfl, _⟩ := h; rfl
theorem rq_divided (h : sq_divided K Cof vs H Q E) : t_divided K Cof E { nx := fun _ H' => Q .non H', rt := Q } (start ["P", "Q", "gap", "factor", "k", "rest", "one", "quotient", "many", "place"] vs) H := by
  obtain ⟨a, b, P, R, n, m, rfl, hA, hB, hne, hT, ⟨sA, sB, lA, lB, n0, m0, m9, hbud⟩, q⟩ := h
  unfold t_divided
  walk_at "rd"
  refine r_lstK fun p0 H0 hp0 e0 h0 => ?_
  have f0 := Fx.of e0
  walk_at "rd"
  refine r_eqInts (ns := R) (ms := []) (f0.l hB) (SqL.inj h0) ?_
  walk_at "rd"
  refine ite_d (fun h => absurd h hne) (fun _ => ?_)
  -- the degrees
  walk_at "rd"
  refine ite_d (fun hlt => ?_) (fun hge => ?_)
  · walk_at "rd"
    refine r_lstK fun p1 H1 hp1 e1 h1 => ?_
    have f1 := f0.ex e1
    walk_at "rd"
    refine r_list (f1.l hA) fun p2 H2 hp2 e2 h2 => ?_
    have f2 := f1.ex e2
    walk_at "rd"
    refine r_tupK fun p3 H3 hp3 e3 h3 => ?_
    have hl : P.length < R.length := by omega
    have ef : MD.facL P R = 1 := by unfold MD.facL; rw [if_pos hl]
    have eq' : MD.quoL P R = [] := by unfold MD.quoL; rw [if_pos hl]
    have er : MD.remL P R = P := by unfold MD.remL; rw [if_pos hl]
    exact q p3 p1 p2 H3 (f2.free hp3) (f0.free hp1) (f1.free hp2) (by walk_at "ne") (f2.ex e3).to (by rw [ef]; exact h3) (by rw [eq']; walk_at "hp") (by rw [er]; walk_at "hp")
  have hl : ¬ P.length < R.length := by omega
  have hR := MD.len_pos hne
  have hlc := MD.lc_ne hT hne
  obtain ⟨g, hg⟩ : ∃ g : Nat, g = P.length - R.length := ⟨_, rfl⟩
  have eg : (P.length : Int) - 1 - ((R.length : Int) - 1) = (g : Int) := by omega
  have eg1 : (g : Int) + 1 = ((g + 1 : Nat) : Int) := by omega
  have bl : (2 * m + 1) * (P.length + 1) = 2 * (m * (P.length + 1)) + (P.length + 1) := by rw [Nat.add_mul, Nat.mul_assoc]; omega
  have bm : m * (g + 1) ≤ m * (P.length + 1) := Nat.mul_le_mul_left m (by omega)
  -- the factor
  walk_at "rd"
  rw [eg, eg1]
  refine r_iRng1A (by omega) (by omega) ?_
  rw [Int.toNat_natCast]
  refine loop_range0 (fun k σ' H' => ∃ u, σ' = [some (.ref a), some (.ref b), some (.int (g : Int)), some (.int (((MD.lc R).natAbs : Int) ^ k)), u, none, none, none, none, none] ∧ H' = H0) ⟨none, by rw [Int.pow_zero]; rfl, rfl⟩ (fun k σ' H' hk hp' => ?_) (fun σ' H' hp' => ?_)
  · obtain ⟨u, rfl, rfl⟩ := hp'
    walk_at "rd"
    refine r_ixLast (f0.l hB) hne ?_
    walk_at "rd"
    have ea : (if R.getD (R.length - 1) 0 < 0 then -R.getD (R.length - 1) 0 else R.getD (R.length - 1) 0) = ((MD.lc R).natAbs : Int) := by
      show (if MD.lc R < 0 then -MD.lc R else MD.lc R) = _
      split <;> omega
    rw [ea]
    have hb := sB.cf (R.length - 1)
    have hk1 : m * k ≤ m * (g + 1) := Nat.mul_le_mul_left m (by omega)
    have hpow : (((MD.lc R).natAbs : Int) ^ k).natAbs < 2 ^ (m * k + 1) := by
      rw [← Int.natCast_pow, Int.natAbs_natCast]
      refine Nat.lt_of_le_of_lt (Nat.pow_le_pow_left (Nat.le_of_lt hb) _) ?_
      rw [← Nat.pow_mul]
      exact Nat.pow_lt_pow_right (by decide) (by omega)
    refine r_mul (wide_mul hpow (b := m) (by rw [Int.natAbs_natCast]; exact hb) (by omega) m0 (by omega)) ?_
    walk_at "rd"
    exact ⟨_, by rw [Int.pow_succ]; rfl, rfl⟩
  obtain ⟨u, rfl, rfl⟩ := hp'
  have ef : ((MD.lc R).natAbs : Int) ^ (g + 1) = MD.facL P R := by unfold MD.facL; rw [if_neg hl, hg]
  rw [ef]
  have hfs := MD.facL_lt (P := P) (Q := R) sB
  rw [← hg] at hfs
  -- the rest
  have hA0 := f0.l hA
  walk_at "rd"
  refine lc_ints (fun x => x * MD.facL P R) hA0 (by omega) (fun x hx H4 e4 Q' k' => ?_) fun p5 H5 hp5 e5 h5 => ?_
  · walk_at "rd"
    refine r_mul (wide_mul (sA x hx) hfs n0 (by omega) (by omega)) ?_
    exact k' _ (Evl.Ex.refl _)
  have f5 := f0.ex e5
  walk_at "rd"
  rw [eg1]
  refine r_cRng1A (by omega) (by omega) ?_
  rw [Int.toNat_natCast]
  refine lc_rangeI (fun _ => 0) (by omega) (fun i hi H4 e4 Q' k' => ?_) fun p6 H6 hp6 e6 h6 => ?_
  · walk_at "rd"
    exact k' _ (Evl.Ex.refl _)
  have f6 := f5.ex e6
  have e0 : (List.range (g + 1)).map (fun _ => (0 : Int)) = List.replicate (g + 1) 0 := by
    rw [List.map_const', List.length_range]
  rw [e0] at h6
  have h5' : H6 p5 = some (.lst ((P.map fun x => x * MD.facL P R).map V.int)) := by walk_at "hp"
  have n56 : p5 ≠ p6 := by walk_at "ne"
  have z5 : H p5 = none := f0.free hp5
  have z6 : H p6 = none := f5.free hp6
  have st := MD.dstart (P := P) hT hne hl
  rw [← hg] at st
  have s0 : ML.Sz (n + (m * (g + 1) + 1)) (P.map fun x => x * MD.facL P R) := fun x hx => by
    obtain ⟨y, hy, rfl⟩ := List.mem_map.mp hx
    exact wide_lt (sA y hy) hfs
  clear hp5 hp6 h5 e5 e6
  walk_at "rd"
  rw [eg1]
  refine r_revRA (by omega) (by omega) ?_
  rw [Int.toNat_natCast]
  refine loop_down (fun k σ' H' => ∃ (qs rs : List Int) (u1 u2 u3 u4 : Option V), σ' = [some (.ref a), some (.ref b), some (.int (g : Int)), some (.int (MD.facL P R)), u1, some (.ref p5), u2, some (.ref p6), u3, u4] ∧ Fx H H' ∧ H' p6 = some (.lst (qs.map V.int)) ∧ H' p5 = some (.lst (rs.map V.int)) ∧
      MD.Inv R (fun j => ML.cf P j * MD.facL P R) P.length (g + 1) k (qs, rs) ∧ MD.dloop R k (qs, rs) = MD.dloop R (g + 1) (List.replicate (g + 1) 0, P.map fun x => x * MD.facL P R) ∧ ML.Sz (n + (m * (g + 1) + 1) + (g + 1 - k) * (m + 1)) rs)
    ⟨_, _, _, _, _, _, rfl, f6, h6, h5', st, rfl, s0.mono (by omega)⟩ (fun k σ' H' hk hp' => ?_) (fun σ' H' hp' => ?_)
  · obtain ⟨qs, rs, u1, u2, u3, u4, rfl, f7, h7, h8, I, hd, sz⟩ := hp'
    have lr := I.lr
    have lq := I.lq
    dsimp only at lr lq
    walk_at "rd"
    have ek : (k : Int) + ((R.length : Int) - 1) = ((k + (R.length - 1) : Nat) : Int) := by omega
    rw [ek]
    refine r_ixI (SqL.inj h8) (by omega) (by omega) ?_
    rw [Int.toNat_natCast]
    walk_at "rd"
    refine r_ixLast (f7.l hB) hne ?_
    refine r_div ⟨hlc, Nat.lt_of_lt_of_le (PySem.Flt.log2_lt_of m0 (sB.cf _)) m9⟩ ?_
    have hmany := MD.many_lt hlc I.dv sz (k + (R.length - 1))
    have hstep := I.step hlc hR (by omega) (by omega)
    have hds : MD.dloop R (k + 1) (qs, rs) = MD.dloop R k (qs.set k ((ML.cf rs (k + (R.length - 1))).fdiv (MD.lc R)), MD.subShift rs R k ((ML.cf rs (k + (R.length - 1))).fdiv (MD.lc R))) := rfl
    rw [hds] at hd
    show _
    have em : (rs.getD (k + (R.length - 1)) 0).fdiv (R.getD (R.length - 1) 0) = (ML.cf rs (k + (R.length - 1))).fdiv (MD.lc R) := rfl
    rw [em]
    generalize (ML.cf rs (k + (R.length - 1))).fdiv (MD.lc R) = many at hmany hstep hd ⊢
    walk_at "rd"
    refine r_setL h7 (Evl.ixN_nat (by rw [List.length_map]; omega)) fun H9 b9 h9 => ?_
    have f9 := f7.mut b9 z6
    have h8' : H9 p5 = some (.lst (rs.map V.int)) := by walk_at "hp"
    have hbk : (g + 1 - (k + 1)) * (m + 1) + (m + 1) = (g + 1 - k) * (m + 1) := by
      have : g + 1 - k = (g + 1 - (k + 1)) + 1 := by omega
      rw [this, Nat.add_mul _ 1]; omega
    have hbb : (g + 1 - k) * (m + 1) ≤ (g + 1) * (m + 1) := Nat.mul_le_mul_right _ (by omega)
    have hbe : (g + 1) * (m + 1) = m * (g + 1) + (g + 1) := by rw [Nat.mul_add, Nat.mul_comm]; omega
    have snew := MD.Sz.sub (k := k) sz sB hmany
    walk_at "rd"
    refine loop_enum (xs := R.map V.int) (fun j σ2 H2 => ∃ (rs2 : List Int) (u2 u4 : Option V), σ2 = [some (.ref a), some (.ref b), some (.int (g : Int)), some (.int (MD.facL P R)), some (.int (k : Int)), some (.ref p5), u2, some (.ref p6), some (.int many), u4] ∧ Fx H H2 ∧ H2 p6 = some (.lst ((qs.set k many).map V.int)) ∧ H2 p5 = some (.lst (rs2.map V.int)) ∧ rs2.length = P.length ∧
        ∀ t, ML.cf rs2 t = if k ≤ t ∧ t - k < j then ML.cf rs t - many * ML.cf R (t - k) else ML.cf rs t)
      ⟨rs, _, _, rfl, f9, by rw [List.map_set]; exact h9, h8', lr, fun t => by rw [if_neg (by omega)]⟩ (fun i σ2 H2 _ hp2 => ?_) (fun j x σ2 H2 H2' hx hp2 e2 => ?_) (fun σ2 H2 hp2 => ?_)
    · obtain ⟨rs2, u2, u4, rfl, f10, _⟩ := hp2
      exact f10.l hB
    · obtain ⟨rs2, u2, u4, rfl, f10, h10, h11, l11, c11⟩ := hp2
      have f10' := f10.ex e2
      obtain ⟨hj, ej⟩ := List.getElem?_eq_some_iff.mp hx
      rw [List.length_map] at hj
      have ex : x = .int (ML.cf R j) := by
        rw [← ej, List.getElem_map, ML.cf_get hj]
      subst ex
      have ekj : (k : Int) + (j : Int) = ((k + j : Nat) : Int) := by omega
      walk_at "rd"
      rw [ekj]
      refine r_ixI (ns := rs2) (by walk_at "sq") (by omega) (by omega) ?_
      rw [Int.toNat_natCast]
      walk_at "rd"
      refine r_mul (wide_mul hmany (sB.cf j) (by omega) m0 (by omega)) ?_
      walk_at "rd"
      rw [ekj]
      refine r_setL (p := p5) (xs := rs2.map V.int) (by walk_at "hp") (Evl.ixN_nat (by rw [List.length_map]; omega)) fun H12 b12 h12 => ?_
      refine ⟨rs2.set (k + j) (ML.cf rs2 (k + j) - many * ML.cf R j), _, _, rfl, f10'.mut b12 z5, by walk_at "hp", by rw [List.map_set]; exact h12, by rw [List.length_set]; exact l11, fun t => ?_⟩
      rw [ML.cf_set (by omega), c11 (k + j), c11 t]
      by_cases ht : t = k + j
      · subst ht
        rw [if_pos (rfl : k + j = k + j), if_neg (by omega), if_pos (by omega), Nat.add_sub_cancel_left]
      · rw [if_neg ht]
        by_cases h3 : k ≤ t ∧ t - k < j
        · rw [if_pos h3, if_pos (by omega)]
        · rw [if_neg h3, if_neg (by omega)]
    · obtain ⟨rs2, u2, u4, rfl, f10, h10, h11, l11, c11⟩ := hp2
      have er : rs2 = MD.subShift rs R k many := ML.ext (by rw [MD.subShift_len, l11, lr]) fun t ht => by
        rw [c11, List.length_map]
        unfold MD.subShift
        rw [ML.cf_range (by omega)]
      subst er
      exact ⟨qs.set k many, _, _, _, _, _, rfl, f10, h10, h11, hstep, hd, snew.mono (by omega)⟩
  obtain ⟨qs, rs, u1, u2, u3, u4, rfl, f7, h7, h8, I, hd, sz⟩ := hp'
  have lr := I.lr
  have lq := I.lq
  dsimp only at lr lq
  have hd' : (qs, rs) = MD.dloop R (g + 1) (List.replicate (g + 1) 0, P.map fun x => x * MD.facL P R) := hd
  have e1 : ML.trimL qs = MD.quoL P R := by
    unfold MD.quoL
    rw [if_neg hl, ← hg, ← hd']
  have e2 : ML.trimL rs = MD.remL P R := by
    unfold MD.remL
    rw [if_neg hl, ← hg, ← hd']
  walk_at "rd"
  refine c_poly (SqL.inj h7) (by omega) fun p10 H10 hp10 e10 h10 => ?_
  have f10 := f7.ex e10
  walk_at "rd"
  refine c_poly (ns := rs) (by walk_at "sq") (by omega) fun p11 H11 hp11 e11 h11 => ?_
  have f11 := f10.ex e11
  walk_at "rd"
  refine r_tupK fun p12 H12 hp12 e12 h12 => ?_
  exact q p12 p10 p11 H12 (f11.free hp12) (f7.free hp10) (f10.free hp11) (by walk_at "ne") (f11.ex e12).to h12 (by rw [← e1]; walk_at "hp") (by rw [← e2]; walk_at "hp")
theorem cq_divided {a b : Addr} {P R : List Int} (n m : Nat) (hA : SqL K H a (P.map V.int)) (hB : SqL K H b (R.map V.int)) (hne : R ≠ []) (hT : ML.Trim R) (hs : DivSz P R n m) (q : RetDiv (MD.facL P R) (MD.quoL P R) (MD.remL P R) H Q) : sq_divided K Cof [.ref a, .ref b] H Q E := ⟨a, b, P, R, n, m, rfl, hA, hB, hne, hT, hs, q⟩
end

def sp_divided (K : PySem.W.Frag) (Cof : String → Addr) : Sp := fun vs H Q E => sq_divided K Cof vs H Q E ∨ ∃ (a b : Addr) (P : List Int), vs = [.ref a, .ref b] ∧ SqL K H a (P.map V.int) ∧ SqL K H b [] ∧ ∀ H', Ex H H' → E (.ref (Cof "ByNought")) none H'
section
variable {K : PySem.W.Frag} {Cof : String → Addr} {vs : List V} {H : Hp} {Q : VK} {E : XK}
theorem len_divided (h : sp_divided K Cof vs H Q E) : vs.length = 2 := by
  rcases h with h | ⟨a, b, P, rfl, _⟩
  · exact lq_divided h
  · rfl
theorem rd_divided (h : sp_divided K Cof vs H Q E) : t_divided K Cof E { nx := fun _ H' => Q .non H', rt := Q } (start ["P", "Q", "gap", "factor", "k", "rest", "one", "quotient", "many", "place"] vs) H := by
  rcases h with h | ⟨a, b, P, rfl, hA, hB, q⟩
  · exact rq_divided h
  unfold t_divided
  walk_at "rd"
  refine r_lstK fun p0 H0 hp0 e0 h0 => ?_
  walk_at "rd"
  refine r_eqInts (ns := []) (ms := []) (e0.l hB) (SqL.inj h0) ?_
  walk_at "rd"
  refine iteD rfl ?_
  exact r_rz (q _ e0)
theorem c_divided {a b : Addr} {P R : List Int} (n m : Nat) (hA : SqL K H a (P.map V.int)) (hB : SqL K H b (R.map V.int)) (hne : R ≠ []) (hT : ML.Trim R) (hs : DivSz P R n m) (q : RetDiv (MD.facL P R) (MD.quoL P R) (MD.remL P R) H Q) : sp_divided K Cof [.ref a, .ref b] H Q E := .inl (cq_divided n m hA hB hne hT hs q)
theorem c_divided0 {a b : Addr} {P : List Int} (hA : SqL K H a (P.map V.int)) (hB : SqL K H b []) (q : ∀ H', Ex H H' → E (.ref (Cof "ByNought")) none H') : sp_divided K Cof [.ref a, .ref b] H Q E := .inr ⟨a, b, P, rfl, hA, hB, q⟩
end

/-! #### part -/
--USE MQ
def sp_part (K : PySem.W.Frag) (Cof : String → Addr) : Sp := fun vs H Q E => ∃ (a b : Addr) (P R : List Int), vs = [.ref a, .ref b] ∧ SqL K H a (P.map V.int) ∧ SqL K H b (R.map V.int) ∧
  ((R = [] ∧ ∀ H', Ex H H' → E (.ref (Cof "ByNought")) none H') ∨
   (R ≠ [] ∧ ML.Trim R ∧ ∃ n m, DivSz P R n m ∧
     ((MD.remL P R ≠ [] ∧ ∀ H', Ex H H' → E (.ref (Cof "NoPart")) none H') ∨
      (MD.remL P R = [] ∧ (MD.quoL P R ≠ [] → MG.gcdL (MD.quoL P R) ≠ 0 ∧ (MG.gcdL (MD.quoL P R)).natAbs.log2 < 9000) ∧ RetI (MP.plainL (MD.quoL P R)) H Q))))
def t_part (K : PySem.W.Frag) (Cof : String → Addr) (E : XK) : TS :=
  tSeq (tAsg (tCall (sp_divided K Cof) [] E (tCons (tVar 0) (tCons (tVar 1) (tNil)))) (gName 2))
  (tSeq (tIfS (tTest (tOp (rNeD K) (tOp (rIxT K) (tVar 2) (tC (.int 2))) (tLst (tNil)))) (tRz (Cof "NoPart") E) (tNext))
  (tRet (tCall (sp_plain K Cof) [] E0 (tCons (tOp (rIxT K) (tVar 2) (tC (.int 1))) (tNil)))))

section
variable {K : PySem.W.Frag} {Cof : String → Addr} {vs : List V} {H : Hp} {Q : VK} {E : XK}
theorem len_part (h : sp_part K Cof vs H Q E) : vs.length = 2 := by
  obtain ⟨a, b, P, R, rfl, _⟩ := h; rfl
theorem quo_len {P R : List Int} (hT : ML.Trim R) (hne : R ≠ []) : (MD.quoL P R).length ≤ P.length := by
  have := MD.len_pos hne
  unfold MD.quoL
  split
  · simp
  · next hg =>
    refine Nat.le_trans (ML.trimL_len _) ?_
    rw [(MD.dend hT hne hg).lq]; omega
theorem rd_part (h : sp_part K Cof vs H Q E) : t_part K Cof E { nx := fun _ H' => Q .non H', rt := Q } (start ["P", "Q", "found"] vs) H := by
  obtain ⟨a, b, P, R, rfl, hA, hB, h⟩ := h
  unfold t_part
  walk_at "rd"
  rcases h with ⟨rfl, q⟩ | ⟨hne, hT, n, m, hs, h⟩
  · exact c_divided0 hA hB q
  refine c_divided (P := P) (R := R) n m hA hB hne hT hs ?_
  intro t pq pr H1 ht hpq hpr npq e1 hT1 hq1 hr1
  walk_at "rd"
  refine r_ixT (.inl (.inl hT1)) (atI_nat (j := 2) rfl) ?_
  walk_at "rd"
  refine r_lstK fun p2 H2 hp2 e2 h2 => ?_
  walk_at "rd"
  refine r_neInts (ns := MD.remL P R) (ms := []) (by walk_at "sq") (SqL.inj h2) ?_
  walk_at "rd"
  rcases h with ⟨hr, q⟩ | ⟨hr, hg, q⟩
  · refine ite_nd (fun _ => ?_) (fun h => absurd h hr)
    exact r_rz (q _ (e1.trans e2))
  · refine ite_nd (fun h => absurd hr h) (fun _ => ?_)
    walk_at "rd"
    refine r_ixT (xs := [.int (MD.facL P R), .ref pq, .ref pr]) (.inl (.inl (by walk_at "hp"))) (atI_nat (j := 1) rfl) ?_
    walk_at "rd"
    refine c_plain (P := MD.quoL P R) (by walk_at "sq") (by
      have := quo_len (P := P) hT hne
      have := hs.2.2.1
      omega) hg fun p3 H3 hp3 e3 h3 => ?_
    exact q.go (e1.trans e2) hp3 e3 h3
theorem c_part {a b : Addr} {P R : List Int} (n m : Nat) (hA : SqL K H a (P.map V.int)) (hB : SqL K H b (R.map V.int)) (hne : R ≠ []) (hT : ML.Trim R) (hs : DivSz P R n m) (hr : MD.remL P R = []) (hg : MD.quoL P R ≠ [] → MG.gcdL (MD.quoL P R) ≠ 0 ∧ (MG.gcdL (MD.quoL P R)).natAbs.log2 < 9000) (q : ∀ p H', H p = none → Ex H H' → H' p = some (.lst ((MP.plainL (MD.quoL P R)).map V.int)) → Q (.ref p) H') : sp_part K Cof [.ref a, .ref b] H Q E := ⟨a, b, P, R, rfl, hA, hB, .inr ⟨hne, hT, n, m, hs, .inr ⟨hr, hg, q⟩⟩⟩
end

/-! #### _law_cell_at -/
/-- the k-th cell, 0 beyond the last one -/
def cellOf (ns : List Int) (k : Int) : Int := ns.getD k.toNat 0
def sp__law_cell_at (K : PySem.W.Frag) (Cof : String → Addr) : Sp := fun vs H Q _ => ∃ (a : Addr) (ns : List Int) (k : Int), vs = [.ref a, .int k] ∧ SqL K H a (ns.map V.int) ∧ 0 ≤ k ∧ Q (.int (cellOf ns k)) H
def t__law_cell_at (K : PySem.W.Frag) (Cof : String → Addr) (E : XK) : TS :=
  tSeq (tIfS (tTest (tOp rLt (tVar 1) (tCB (rLenS K) (tCons (tVar 0) (tNil))))) (tRet (tOp (rIxL K) (tVar 0) (tVar 1))) (tNext))
  (tRet (tC (.int 0)))

section
variable {K : PySem.W.Frag} {Cof : String → Addr} {vs : List V} {H : Hp} {Q : VK} {E : XK}
theorem len__law_cell_at (h : sp__law_cell_at K Cof vs H Q E) : vs.length = 2 := by
  obtain ⟨a, ns, k, rfl, _⟩ := h; rfl
theorem rd__law_cell_at (h : sp__law_cell_at K Cof vs H Q E) : t__law_cell_at K Cof E { nx := fun _ H' => Q .non H', rt := Q } (start ["_law_script", "_law_k"] vs) H := by
  obtain ⟨a, ns, k, rfl, hS, h0, q⟩ := h
  obtain ⟨k, rfl⟩ : ∃ n : Nat, k = (n : Int) := ⟨k.toNat, by omega⟩
  unfold t__law_cell_at
  walk_at "rd"
  try rw [List.length_map]
  refine ite_d (fun h => ?_) (fun h => ?_)
  · walk_at "rd"
    have hk : k < ns.length := by omega
    exact r_ixI hS h0 h q
  · walk_at "rd"
    have e : cellOf ns k = 0 := by
      unfold cellOf
      rw [List.getD_eq_getElem?_getD, List.getElem?_eq_none (by omega)]; rfl
    rw [e] at q
    exact q
theorem c__law_cell_at {a : Addr} {ns : List Int} {k : Int} (h : SqL K H a (ns.map V.int)) (h0 : 0 ≤ k) (q : Q (.int (cellOf ns k)) H) : sp__law_cell_at K Cof [.ref a, .int k] H Q E := ⟨a, ns, k, rfl, h, h0, q⟩
end
local macro_rules | `(tactic| walk_at "call") => `(tactic| ((with_reducible refine' c__law_cell_at ?h ?h0 ?_); (case h => walk_at "sq"); (case h0 => first | decide | omega)))

/-! #### _law_whole -/
def sp__law_whole (K : PySem.W.Frag) (Cof : String → Addr) : Sp := fun vs H Q _ => ∃ i : Int, vs = [.int i] ∧ Q (.bl true) H
def t__law_whole (K : PySem.W.Frag) (Cof : String → Addr) (E : XK) : TS :=
  tRet (tAndV (tCB (rIsi K) (tCons (tVar 0) (tCons (tC (.ty "int")) (tNil)))) (tNotV (tCB (rIsi K) (tCons (tVar 0) (tCons (tC (.ty "bool")) (tNil))))))

section
variable {K : PySem.W.Frag} {Cof : String → Addr} {vs : List V} {H : Hp} {Q : VK} {E : XK}
theorem len__law_whole (h : sp__law_whole K Cof vs H Q E) : vs.length = 1 := by
  obtain ⟨i, rfl, _⟩ := h; rfl
theorem rd__law_whole (h : sp__law_whole K Cof vs H Q E) : t__law_whole K Cof E { nx := fun _ H' => Q .non H', rt := Q } (start ["_law_found"] vs) H := by
  obtain ⟨i, rfl, q⟩ := h
  unfold t__law_whole
  walk_at "rd"
  refine r_isi (.base (.int i)) (.ty _) (kit_ty (r := true) (by decide +kernel)) ?_
  walk_at "rd"
  refine r_isi (.base (.int i)) (.ty _) (kit_ty (r := false) (by decide +kernel)) ?_
  walk_at "rd"
  exact q
end
theorem c__law_whole {K : PySem.W.Frag} {Cof : String → Addr} {H : Hp} {Q : VK} {E : XK} {i : Int} (q : Q (.bl true) H) : sp__law_whole K Cof [.int i] H Q E := ⟨i, rfl, q⟩
local macro_rules | `(tactic| walk_at "call") => `(tactic| with_reducible refine c__law_whole ?_)

/-! #### _law_within -/
/-- a number from -s to s -/
def sgn (c s : Int) : Int := c.fmod (2 * s + 1) - s
theorem sgn_ge {c s : Int} (h : 0 ≤ s) : -s ≤ sgn c s := by
  have := Int.fmod_nonneg_of_pos c (show 0 < 2 * s + 1 by omega)
  unfold sgn; omega
theorem sgn_le {c s : Int} (h : 0 ≤ s) : sgn c s ≤ s := by
  have := Int.fmod_lt_of_pos c (show 0 < 2 * s + 1 by omega)
  unfold sgn; omega
theorem sgn_abs {c s : Int} {n : Nat} (h : 0 ≤ s) (hs : s.natAbs < 2 ^ n) : (sgn c s).natAbs < 2 ^ n := by
  have h1 := sgn_ge (c := c) h
  have h2 := sgn_le (c := c) h
  generalize 2 ^ n = m at hs ⊢
  omega
def sp__law_within (K : PySem.W.Frag) (Cof : String → Addr) : Sp := fun vs H Q _ => ∃ c s : Int, vs = [.int c, .int s] ∧ 0 ≤ s ∧ s.natAbs < 2 ^ 4000 ∧ Q (.int (sgn c s)) H
def t__law_within (K : PySem.W.Frag) (Cof : String → Addr) (E : XK) : TS :=
  tRet (tOp rISub (tOp rMod (tVar 0) (tOp rIAdd (tOp rMul (tC (.int 2)) (tVar 1)) (tC (.int 1)))) (tVar 1))

section
variable {K : PySem.W.Frag} {Cof : String → Addr} {vs : List V} {H : Hp} {Q : VK} {E : XK}
theorem len__law_within (h : sp__law_within K Cof vs H Q E) : vs.length = 2 := by
  obtain ⟨c, s, rfl, _⟩ := h; rfl
theorem rd__law_within (h : sp__law_within K Cof vs H Q E) : t__law_within K Cof E { nx := fun _ H' => Q .non H', rt := Q } (start ["_law_cell", "_law_most"] vs) H := by
  obtain ⟨c, s, rfl, h0, hs, q⟩ := h
  unfold t__law_within
  walk_at "rd"
  refine r_mul (wide_mul (a := 2) (by decide) hs (by decide) (by decide) (by decide)) ?_
  walk_at "rd"
  exact q
end
theorem c__law_within {K : PySem.W.Frag} {Cof : String → Addr} {H : Hp} {Q : VK} {E : XK} {c s : Int} (h0 : 0 ≤ s) (h1 : s.natAbs < 2 ^ 4000) (q : Q (.int (sgn c s)) H) : sp__law_within K Cof [.int c, .int s] H Q E := ⟨c, s, rfl, h0, h1, q⟩

/-! #### _law_trim -/
--USE ML
def sp__law_trim (K : PySem.W.Frag) (Cof : String → Addr) : Sp := fun vs H Q _ => ∃ (a : Addr) (ns : List Int), vs = [.ref a] ∧ SqL K H a (ns.map V.int) ∧ ns.length ≤ 1000000 ∧ RetI (ML.trimL ns) H Q
def t__law_trim (K : PySem.W.Frag) (Cof : String → Addr) (E : XK) : TS :=
  tSeq (tAsg (tCB (rLenS K) (tCons (tVar 0) (tNil))) (gName 1))
  (tSeq (tWhile (tAnd (tTest (tOp rGt (tVar 1) (tC (.int 0)))) (tTest (tOp rEq (tOp (rIxL K) (tVar 0) (tOp rISub (tVar 1) (tC (.int 1)))) (tC (.int 0))))) (tAsg (tOp rISub (tVar 1) (tC (.int 1))) (gName 1)))
  (tRet (tSl (rSlL K) (tVar 0) (tNoPart) (tPart (tVar 1)))))

section
variable {K : PySem.W.Frag} {Cof : String → Addr} {vs : List V} {H : Hp} {Q : VK} {E : XK}
theorem len__law_trim (h : sp__law_trim K Cof vs H Q E) : vs.length = 1 := by
  obtain ⟨a, ns, rfl, _⟩ := h; rfl
theorem rd__law_trim (h : sp__law_trim K Cof vs H Q E) : t__law_trim K Cof E { nx := fun _ H' => Q .non H', rt := Q } (start ["_law_row", "_law_size"] vs) H := by
  obtain ⟨a, ns, rfl, hS, hl, q⟩ := h
  unfold t__law_trim
  walk_at "rd"
  try rw [List.length_map]
  refine r_while (fun m σ' H' => σ' = [some (.ref a), some (.int (m : Int))] ∧ H' = H ∧ m ≤ ns.length ∧ ∀ k, m ≤ k → ML.cf ns k = 0) ns.length ⟨rfl, rfl, Nat.le_refl _, fun k hk => ML.cf_beyond hk⟩ (fun m σ' H' hw => ?_)
  obtain ⟨rfl, rfl, hm, h0⟩ := hw
  walk_at "rd"
  refine ite_d (fun hp => ?_) (fun hp => ?_)
  · walk_at "rd"
    refine r_ixI hS (by omega) (by omega) ?_
    walk_at "rd"
    have e : ns.getD ((m : Int) - 1).toNat 0 = ML.cf ns (m - 1) := by
      unfold ML.cf; congr 1; omega
    rw [e]
    refine ite_d (fun hz => wh_in ?_) (fun hz => ?_)
    · walk_at "rd"
      have e1 : (m : Int) - 1 = ((m - 1 : Nat) : Int) := by omega
      exact ⟨m - 1, by omega, by rw [e1]; rfl, rfl, by omega, fun k hk => by
        by_cases hk' : k = m - 1
        · rw [hk', hz]
        · exact h0 k (by omega)⟩
    · walk_at "rd"
      refine r_slI hS fun p H' hp e h => q p H' hp e ?_
      rw [ML.trimL_take hm h0 (.inr hz), ← sliceI_to hm]
      exact h
  · walk_at "rd"
    refine r_slI hS fun p H' hp e h => q p H' hp e ?_
    rw [ML.trimL_take hm h0 (.inl (by omega)), ← sliceI_to hm]
    exact h
theorem c__law_trim {a : Addr} {ns : List Int} (h : SqL K H a (ns.map V.int)) (hl : ns.length ≤ 1000000) (q : ∀ p H', H p = none → Ex H H' → H' p = some (.lst ((ML.trimL ns).map V.int)) → Q (.ref p) H') : sp__law_trim K Cof [.ref a] H Q E := ⟨a, ns, rfl, h, hl, q⟩
end

/-! #### _law_mul -/
--USE ML
def sp__law_mul (K : PySem.W.Frag) (Cof : String → Addr) : Sp := fun vs H Q _ => ∃ (a b : Addr) (P R : List Int) (n m : Nat), vs = [.ref a, .ref b] ∧ SqL K H a (P.map V.int) ∧ SqL K H b (R.map V.int) ∧ P.length ≤ 100000 ∧ R.length ≤ 100000 ∧ ML.Sz n P ∧ ML.Sz m R ∧ (0 < n ∧ 0 < m ∧ n + m ≤ 1000000) ∧ RetI (ML.mulU P R) H Q
def t__law_mul (K : PySem.W.Frag) (Cof : String → Addr) (E : XK) : TS :=
  tSeq (tIfS (tOr (tTest (tOp rEq (tCB (rLenS K) (tCons (tVar 0) (tNil))) (tC (.int 0)))) (tTest (tOp rEq (tCB (rLenS K) (tCons (tVar 1) (tNil))) (tC (.int 0))))) (tRet (tLst (tNil))) (tNext))
  (tSeq (tAsg (tLc (iRng1 (tCons (tOp rISub (tOp rIAdd (tCB (rLenS K) (tCons (tVar 0) (tNil))) (tCB (rLenS K) (tCons (tVar 1) (tNil)))) (tC (.int 1))) (tNil))) (gName 3) (tYes) (tC (.int 0)) [3]) (gName 2))
  (tSeq (tFor (iEnum K (tCons (tVar 0) (tNil))) (gTup K 2 (gCons (gName 4) (gCons (gName 5) (gNil)))) (tFor (iEnum K (tCons (tVar 1) (tNil))) (gTup K 2 (gCons (gName 6) (gCons (gName 7) (gNil)))) (tAsg (tOp rIAdd (tOp (rIxL K) (tVar 2) (tOp rIAdd (tVar 4) (tVar 6))) (tOp rMul (tVar 5) (tVar 7))) (gSub (tVar 2) (tOp rIAdd (tVar 4) (tVar 6)) rSetL))))
  (tRet (tVar 2))))

section
variable {K : PySem.W.Frag} {Cof : String → Addr} {vs : List V} {H : Hp} {Q : VK} {E : XK}
theorem len__law_mul (h : sp__law_mul K Cof vs H Q E) : vs.length = 2 := by
  obtain ⟨a, b, P, R, n, m, rfl, _⟩ := h; rfl
theorem rd__law_mul (h : sp__law_mul K Cof vs H Q E) : t__law_mul K Cof E { nx := fun _ H' => Q .non H', rt := Q } (start ["_law_kp", "_law_kq", "_law_made", "_law_k", "_law_i", "_law_one", "_law_j", "_law_other"] vs) H := by
  obtain ⟨a, b, P, R, n, m, rfl, hA, hB, lA, lB, sA, sB, ⟨n0, m0, nm⟩, q⟩ := h
  unfold t__law_mul
  have f0 := Fx.refl H
  have nil_ : ∀ {D : Ends} {σ : L2.St}, ML.mulU P R = [] → D.rt = Q → tRet (tLst tNil) D σ H := fun {D σ} e eD => by
    walk_at "rd"
    rw [eD]
    exact r_lstK fun p1 H1 hp1 e1 h1 => q p1 H1 hp1 e1 (by rw [e]; exact h1)
  walk_at "rd"
  refine ite_d (fun h0 => ?_) (fun h0 => ?_)
  · walk_at "rd"
    refine r_lstK fun p1 H1 hp1 e1 h1 => q p1 H1 hp1 e1 ?_
    have : P = [] := List.eq_nil_of_length_eq_zero (by omega)
    unfold ML.mulU
    rw [if_pos (.inl this)]; exact h1
  walk_at "rd"
  refine ite_d (fun h1 => ?_) (fun h1 => ?_)
  · walk_at "rd"
    refine r_lstK fun p1 H1 hp1 e1 hh1 => q p1 H1 hp1 e1 ?_
    have : R = [] := List.eq_nil_of_length_eq_zero (by omega)
    unfold ML.mulU
    rw [if_pos (.inr this)]; exact hh1
  clear nil_
  walk_at "rd"
  refine r_cRng1A (by omega) (by omega) ?_
  have el : ((P.length : Int) + (R.length : Int) - 1).toNat = P.length + R.length - 1 := by omega
  rw [el]
  refine lc_rangeI (fun _ => 0) (by omega) (fun i hi H4 e4 Q' k' => ?_) fun p H1 hp e1 h2 => ?_
  · walk_at "rd"
    exact k' _ (Evl.Ex.refl _)
  have f1 := f0.ex e1
  rw [List.map_const', List.length_range] at h2
  walk_at "rd"
  refine loop_enum (xs := P.map V.int) (fun k σ' H' => ∃ (rs : List Int) (u1 u2 u3 u4 u5 : Option V), σ' = [some (.ref a), some (.ref b), some (.ref p), u1, u2, u3, u4, u5] ∧ Fx H H' ∧ H' p = some (.lst (rs.map V.int)) ∧ rs.length = P.length + R.length - 1 ∧ ∀ j, ML.cf rs j = ML.pcv P R k j)
    ⟨_, _, _, _, _, _, rfl, f1, h2, by rw [List.length_replicate], fun j => by rw [ML.cf_rep0]; rfl⟩ (fun i σ' H' _ hp' => ?_) (fun k x σ' H' H2' hx hp' e2 => ?_) (fun σ' H' hp' => ?_)
  · obtain ⟨rs, u1, u2, u3, u4, u5, rfl, f2, _⟩ := hp'
    exact f2.l hA
  · obtain ⟨rs, u1, u2, u3, u4, u5, rfl, f2, h3, l3, c3⟩ := hp'
    have f2' := f2.ex e2
    obtain ⟨hk, ek⟩ := List.getElem?_eq_some_iff.mp hx
    rw [List.length_map] at hk
    have ex : x = .int (ML.cf P k) := by
      rw [← ek, List.getElem_map, ML.cf_get hk]
    subst ex
    have hB2 := f2'.l hB
    walk_at "rd"
    refine loop_enum (xs := R.map V.int) (fun i σ2 H2 => ∃ (rs : List Int) (u4 u5 : Option V), σ2 = [some (.ref a), some (.ref b), some (.ref p), u1, some (.int (k : Int)), some (.int (ML.cf P k)), u4, u5] ∧ Fx H H2 ∧ H2 p = some (.lst (rs.map V.int)) ∧ rs.length = P.length + R.length - 1 ∧ ∀ j, ML.cf rs j = ML.pcw P R k i j)
      ⟨rs, _, _, rfl, f2', by walk_at "hp", l3, fun j => by rw [ML.pcw_zero]; exact c3 j⟩ (fun i σ2 H2 _ hp2 => ?_) (fun i x σ2 H2 H2' hx hp2 e2 => ?_) (fun σ2 H2 hp2 => ?_)
    · obtain ⟨rs, u4, u5, rfl, f3, _⟩ := hp2
      exact f3.l hB
    · obtain ⟨rs, u4, u5, rfl, f3, h4, l4, c4⟩ := hp2
      have f3' := f3.ex e2
      obtain ⟨hi, ei⟩ := List.getElem?_eq_some_iff.mp hx
      rw [List.length_map] at hi
      have ex : x = .int (ML.cf R i) := by
        rw [← ei, List.getElem_map, ML.cf_get hi]
      subst ex
      have eki : (k : Int) + (i : Int) = ((k + i : Nat) : Int) := by omega
      walk_at "rd"
      rw [eki]
      refine r_ixI (ns := rs) (by walk_at "sq") (by omega) (by omega) ?_
      rw [Int.toNat_natCast]
      walk_at "rd"
      refine r_mul (wide_mul (sA.cf k) (sB.cf i) n0 m0 nm) ?_
      walk_at "rd"
      rw [eki]
      refine r_setL (p := p) (xs := rs.map V.int) (by walk_at "hp") (Evl.ixN_nat (by rw [List.length_map]; omega)) fun H4 b4 h5 => ?_
      refine ⟨rs.set (k + i) (ML.cf rs (k + i) + ML.cf P k * ML.cf R i), _, _, rfl, f3'.mut b4 hp, by rw [List.map_set]; exact h5, by rw [List.length_set]; exact l4, fun j => ?_⟩
      rw [ML.cf_set (by omega), ML.pcw_step, c4]
      by_cases hj : j = k + i
      · rw [if_pos hj, if_pos hj, hj]
      · rw [if_neg hj, if_neg hj, c4]
    · obtain ⟨rs, u4, u5, rfl, f3, h4, l4, c4⟩ := hp2
      exact ⟨rs, _, _, _, _, _, rfl, f3, h4, l4, fun j => by rw [c4, List.length_map, ML.pcw_full]⟩
  · obtain ⟨rs, u1, u2, u3, u4, u5, rfl, f2, h3, l3, c3⟩ := hp'
    walk_at "rd"
    refine q p H' hp f2.to ?_
    have e : rs = ML.mulU P R := by
      have hne : ¬ (P = [] ∨ R = []) := by
        rintro (h | h)
        · subst h; exact h0 rfl
        · subst h; exact h1 rfl
      refine ML.ext (by unfold ML.mulU; rw [if_neg hne]; simpa using l3) fun j _ => ?_
      rw [c3, List.length_map, ML.pcv_full, ML.cf_mulU]
    rw [← e]
    exact h3
theorem c__law_mul {a b : Addr} {P R : List Int} (n m : Nat) (hA : SqL K H a (P.map V.int)) (hB : SqL K H b (R.map V.int)) (lA : P.length ≤ 100000) (lB : R.length ≤ 100000) (sA : ML.Sz n P) (sB : ML.Sz m R) (h0 : 0 < n ∧ 0 < m ∧ n + m ≤ 1000000) (q : ∀ p H', H p = none → Ex H H' → H' p = some (.lst ((ML.mulU P R).map V.int)) → Q (.ref p) H') : sp__law_mul K Cof [.ref a, .ref b] H Q E := ⟨a, b, P, R, n, m, rfl, hA, hB, lA, lB, sA, sB, h0, q⟩
end

/-! #### _law_add -/
--USE ML
def sp__law_add (K : PySem.W.Frag) (Cof : String → Addr) : Sp := fun vs H Q _ => ∃ (a b : Addr) (P R : List Int), vs = [.ref a, .ref b] ∧ SqL K H a (P.map V.int) ∧ SqL K H b (R.map V.int) ∧ P.length ≤ 100000 ∧ R.length ≤ 100000 ∧ RetI (ML.addL P R) H Q
def t__law_add (K : PySem.W.Frag) (Cof : String → Addr) (E : XK) : TS :=
  tSeq (tAsg (tLst (tNil)) (gName 2))
  (tSeq (tFor (iRng1 (tCons (tCB rMax2 (tCons (tCB (rLenS K) (tCons (tVar 0) (tNil))) (tCons (tCB (rLenS K) (tCons (tVar 1) (tNil))) (tNil)))) (tNil))) (gName 3) (tDrop (tBM K "list" rAppend (tVar 2) (tCons (tOp rIAdd (tCall (sp__law_cell_at K Cof) [] E0 (tCons (tVar 0) (tCons (tVar 3) (tNil)))) (tCall (sp__law_cell_at K Cof) [] E0 (tCons (tVar 1) (tCons (tVar 3) (tNil))))) (tNil)))))
  (tRet (tCall (sp__law_trim K Cof) [] E0 (tCons (tVar 2) (tNil)))))

section
variable {K : PySem.W.Frag} {Cof : String → Addr} {vs : List V} {H : Hp} {Q : VK} {E : XK}
theorem len__law_add (h : sp__law_add K Cof vs H Q E) : vs.length = 2 := by
  obtain ⟨a, b, P, R, rfl, _⟩ := h; rfl
theorem rd__law_add (h : sp__law_add K Cof vs H Q E) : t__law_add K Cof E { nx := fun _ H' => Q .non H', rt := Q } (start ["_law_kp", "_law_kq", "_law_made", "_law_k"] vs) H := by
  obtain ⟨a, b, P, R, rfl, hA, hB, lA, lB, q⟩ := h
  unfold t__law_add
  have f0 := Fx.refl H
  walk_at "rd"
  refine r_lstK fun p H1 hp e1 h1 => ?_
  have f1 := f0.ex e1
  walk_at "rd"
  have em : (if (R.length : Int) > (P.length : Int) then (R.length : Int) else (P.length : Int)) = ((max P.length R.length : Nat) : Int) := by
    split <;> omega
  rw [em]
  refine r_iRng1A (by omega) (by omega) ?_
  rw [Int.toNat_natCast]
  refine loop_range0 (fun k σ' H' => ∃ u : Option V, σ' = [some (.ref a), some (.ref b), some (.ref p), u] ∧ Fx H H' ∧ H' p = some (.lst (((List.range k).map fun k => ML.cf P k + ML.cf R k).map V.int))) ⟨_, rfl, f1, h1⟩ (fun k σ' H' hk hp' => ?_) (fun σ' H' hp' => ?_)
  · obtain ⟨u, rfl, f2, h2⟩ := hp'
    have hA2 := f2.l hA
    have hB2 := f2.l hB
    walk_at "rd"
    refine r_appendI h2 (by rw [List.length_map, List.length_range]; omega) fun H3 b3 h3 => ?_
    refine ⟨_, rfl, f2.mut b3 hp, ?_⟩
    rw [List.range_succ, List.map_append]
    have e : cellOf P (k : Int) + cellOf R (k : Int) = ML.cf P k + ML.cf R k := by
      unfold cellOf ML.cf; rw [Int.toNat_natCast]
    rw [e] at h3
    exact h3
  · obtain ⟨u, rfl, f2, h2⟩ := hp'
    walk_at "rd"
    refine c__law_trim (SqL.inj h2) (by rw [List.length_map, List.length_range]; omega) fun p3 H3 hp3 e3 h3 => ?_
    exact q p3 H3 (f2.free hp3) (f2.ex e3).to h3
theorem c__law_add {a b : Addr} {P R : List Int} (hA : SqL K H a (P.map V.int)) (hB : SqL K H b (R.map V.int)) (lA : P.length ≤ 100000) (lB : R.length ≤ 100000) (q : ∀ p H', H p = none → Ex H H' → H' p = some (.lst ((ML.addL P R).map V.int)) → Q (.ref p) H') : sp__law_add K Cof [.ref a, .ref b] H Q E := ⟨a, b, P, R, rfl, hA, hB, lA, lB, q⟩
end

/-! #### _law_is_poly -/
--USE ML
def sp__law_is_poly (K : PySem.W.Frag) (Cof : String → Addr) : Sp := fun vs H Q _ => ∃ (a : Addr) (P : List Int), vs = [.ref a] ∧ H a = some (.lst (P.map V.int)) ∧ ML.Trim P ∧ Q (.bl true) H
def t__law_is_poly (K : PySem.W.Frag) (Cof : String → Addr) (E : XK) : TS :=
  tSeq (tIfS (tNot (tB (tCB (rIsi K) (tCons (tVar 0) (tCons (tC (.ty "list")) (tNil)))))) (tRet (tC (.bl false))) (tNext))
  (tSeq (tFor (iList K (tVar 0)) (gName 1) (tIfS (tNot (tB (tCall (sp__law_whole K Cof) [] E0 (tCons (tVar 1) (tNil))))) (tRet (tC (.bl false))) (tNext)))
  (tRet (tOrV (tOp rEq (tCB (rLenS K) (tCons (tVar 0) (tNil))) (tC (.int 0))) (tOp rNe (tOp (rIxL K) (tVar 0) (tUn rNeg (tC (.int 1)))) (tC (.int 0))))))

section
variable {K : PySem.W.Frag} {Cof : String → Addr} {vs : List V} {H : Hp} {Q : VK} {E : XK}
theorem len__law_is_poly (h : sp__law_is_poly K Cof vs H Q E) : vs.length = 1 := by
  obtain ⟨a, P, rfl, _⟩ := h; rfl
theorem rd__law_is_poly (h : sp__law_is_poly K Cof vs H Q E) : t__law_is_poly K Cof E { nx := fun _ H' => Q .non H', rt := Q } (start ["_law_found", "_law_one"] vs) H := by
  obtain ⟨a, P, rfl, hA, hT, q⟩ := h
  unfold t__law_is_poly
  walk_at "rd"
  refine r_isi (.base (.lst hA)) (.ty _) (kit_ty (r := true) (by decide +kernel)) ?_
  walk_at "rd"
  refine loop_ints (ns := P) (fun i σ' H' => ∃ u, σ' = [some (.ref a), u] ∧ H' = H) ⟨_, rfl, rfl⟩ (fun i σ' H' _ hp => ?_) (fun i x σ' H' hx hp => ?_) (fun σ' H' hp => ?_)
  · obtain ⟨u, rfl, rfl⟩ := hp
    exact SqL.inj hA
  · obtain ⟨u, rfl, rfl⟩ := hp
    walk_at "rd"
    exact ⟨_, rfl, rfl⟩
  · obtain ⟨u, rfl, rfl⟩ := hp
    walk_at "rd"
    refine ite_d (fun h => ?_) (fun h => ?_)
    · exact q
    · have hne : P ≠ [] := fun e => h (by rw [e]; rfl)
      walk_at "rd"
      refine r_ixLast (SqL.inj hA) hne ?_
      walk_at "rd"
      have hl : ML.cf P (P.length - 1) ≠ 0 := hT.elim (fun e => absurd e hne) id
      have e : (!decide (P.getD (P.length - 1) 0 = 0)) = true := by
        have e0 : ¬ P.getD (P.length - 1) 0 = 0 := hl
        rw [decide_eq_false e0]; rfl
      rw [e]
      exact q
theorem c__law_is_poly {a : Addr} {P : List Int} (hA : H a = some (.lst (P.map V.int))) (hT : ML.Trim P) (q : Q (.bl true) H) : sp__law_is_poly K Cof [.ref a] H Q E := ⟨a, P, rfl, hA, hT, q⟩
end

/-! #### _law_gcd -/
--USE MG
def sp__law_gcd (K : PySem.W.Frag) (Cof : String → Addr) : Sp := fun vs H Q _ => ∃ x y : Int, vs = [.int x, .int y] ∧ Q (.int (Int.gcd x y)) H
def t__law_gcd (K : PySem.W.Frag) (Cof : String → Addr) (E : XK) : TS :=
  tSeq (tAsg (tCB rAbs (tCons (tVar 0) (tNil))) (gName 0))
  (tSeq (tAsg (tCB rAbs (tCons (tVar 1) (tNil))) (gName 1))
  (tSeq (tWhile (tTest (tOp rGt (tVar 1) (tC (.int 0)))) (tSeq (tAsg (tOp rMod (tVar 0) (tVar 1)) (gName 2))
  (tSeq (tAsg (tVar 1) (gName 0))
  (tAsg (tVar 2) (gName 1)))))
  (tRet (tVar 0))))

section
variable {K : PySem.W.Frag} {Cof : String → Addr} {vs : List V} {H : Hp} {Q : VK} {E : XK}
theorem len__law_gcd (h : sp__law_gcd K Cof vs H Q E) : vs.length = 2 := by
  obtain ⟨x, y, rfl, _⟩ := h; rfl
theorem rd__law_gcd (h : sp__law_gcd K Cof vs H Q E) : t__law_gcd K Cof E { nx := fun _ H' => Q .non H', rt := Q } (start ["_law_a", "_law_b", "_law_rest"] vs) H := by
  obtain ⟨x, y, rfl, q⟩ := h
  unfold t__law_gcd
  walk_at "rd"
  have ex : (if x < 0 then -x else x) = (x.natAbs : Int) := by split <;> omega
  have ey : (if y < 0 then -y else y) = (y.natAbs : Int) := by split <;> omega
  rw [ex, ey]
  refine r_while (fun m σ2 H2 => ∃ (f o : Int) (r : Option V), σ2 = [some (.int f), some (.int o), r] ∧ H2 = H ∧ m = o.natAbs ∧ 0 ≤ f ∧ 0 ≤ o ∧ Int.gcd f o = Int.gcd x y) y.natAbs ⟨_, _, _, rfl, rfl, by omega, by omega, by omega, by unfold Int.gcd; rfl⟩ (fun m σ2 H2 hw => ?_)
  obtain ⟨f, o, r, rfl, rfl, rfl, hf, ho, hg⟩ := hw
  walk_at "rd"
  refine ite_d (fun h => wh_in ?_) (fun h => ?_)
  · walk_at "rd"
    exact ⟨_, MG.fmod_lt (by omega), o, f.fmod o, _, rfl, rfl, rfl, ho, Int.fmod_nonneg_of_pos _ h, by rw [MG.gcd_fmod]; exact hg⟩
  · walk_at "rd"
    have : o = 0 := by omega
    rw [this, Int.gcd_zero_right] at hg
    have e : f = (Int.gcd x y : Int) := by omega
    rw [e]
    exact q
theorem c__law_gcd {x y : Int} (q : Q (.int (Int.gcd x y)) H) : sp__law_gcd K Cof [.int x, .int y] H Q E := ⟨x, y, rfl, q⟩
end
local macro_rules | `(tactic| walk_at "call") => `(tactic| with_reducible refine c__law_gcd ?_)

/-! #### _law_shrunk -/
--USE MP
def sp__law_shrunk (K : PySem.W.Frag) (Cof : String → Addr) : Sp := fun vs H Q _ => ∃ (a : Addr) (P : List Int), vs = [.ref a] ∧ SqL K H a (P.map V.int) ∧ P.length ≤ 100000 ∧ ML.Trim P ∧ (P ≠ [] → MG.gcdL P ≠ 0 ∧ (MG.gcdL P).natAbs.log2 < 9000) ∧ RetI (MP.shrunkL P) H Q
def t__law_shrunk (K : PySem.W.Frag) (Cof : String → Addr) (E : XK) : TS :=
  tSeq (tAsg (tC (.int 0)) (gName 1))
  (tSeq (tFor (iList K (tVar 0)) (gName 2) (tAsg (tCall (sp__law_gcd K Cof) [] E0 (tCons (tVar 1) (tCons (tVar 2) (tNil)))) (gName 1)))
  (tSeq (tIfS (tTest (tOp rEq (tVar 1) (tC (.int 0)))) (tRet (tLst (tNil))) (tNext))
  (tRet (tLc (iList K (tVar 0)) (gName 2) (tYes) (tOp rDiv (tVar 2) (tVar 1)) [2]))))

section
variable {K : PySem.W.Frag} {Cof : String → Addr} {vs : List V} {H : Hp} {Q : VK} {E : XK}
theorem len__law_shrunk (h : sp__law_shrunk K Cof vs H Q E) : vs.length = 1 := by
  obtain ⟨a, P, rfl, _⟩ := h; rfl
theorem rd__law_shrunk (h : sp__law_shrunk K Cof vs H Q E) : t__law_shrunk K Cof E { nx := fun _ H' => Q .non H', rt := Q } (start ["_law_kp", "_law_most", "_law_one"] vs) H := by
  obtain ⟨a, P, rfl, hS, hl, hT, hg, q⟩ := h
  unfold t__law_shrunk
  walk_at "rd"
  refine loop_ints (ns := P) (fun i σ' H' => ∃ u, σ' = [some (.ref a), some (.int (MG.gcdN (P.take i))), u] ∧ H' = H) ⟨_, rfl, rfl⟩ (fun i σ' H' _ hp => ?_) (fun i x σ' H' hx hp => ?_) (fun σ' H' hp => ?_)
  · obtain ⟨u, rfl, rfl⟩ := hp
    exact hS
  · obtain ⟨u, rfl, rfl⟩ := hp
    walk_at "rd"
    exact ⟨_, by rw [MG.gcdN_take hx]; rfl, rfl⟩
  obtain ⟨u, rfl, rfl⟩ := hp
  rw [List.take_length]
  walk_at "rd"
  refine ite_d (fun h0 => ?_) (fun h0 => ?_)
  · walk_at "rd"
    refine r_lstK fun p1 H1 hp1 e1 h1 => q p1 H1 hp1 e1 ?_
    have e : P = [] := by
      apply Classical.byContradiction
      intro hn
      exact (hg hn).1 h0
    rw [e]; exact h1
  · walk_at "rd"
    have hn : P ≠ [] := fun e => h0 (by rw [e]; rfl)
    refine lc_ints (fun x => x.fdiv (MG.gcdL P)) hS (by omega) (fun x hx H1 e1 Q' k' => ?_) (fun p H1 hp e1 h1 => q p H1 hp e1 h1)
    walk_at "rd"
    refine r_div (hg hn) ?_
    exact k' _ (Evl.Ex.refl _)
theorem c__law_shrunk {a : Addr} {P : List Int} (h : SqL K H a (P.map V.int)) (hl : P.length ≤ 100000) (hT : ML.Trim P) (hg : P ≠ [] → MG.gcdL P ≠ 0 ∧ (MG.gcdL P).natAbs.log2 < 9000) (q : ∀ p H', H p = none → Ex H H' → H' p = some (.lst ((MP.shrunkL P).map V.int)) → Q (.ref p) H') : sp__law_shrunk K Cof [.ref a] H Q E := ⟨a, P, rfl, h, hl, hT, hg, q⟩
end

/-! #### _law_plain -/
--USE MP
def sp__law_plain (K : PySem.W.Frag) (Cof : String → Addr) : Sp := fun vs H Q _ => ∃ (a : Addr) (P : List Int), vs = [.ref a] ∧ SqL K H a (P.map V.int) ∧ P.length ≤ 100000 ∧ ML.Trim P ∧ (P ≠ [] → MG.gcdL P ≠ 0 ∧ (MG.gcdL P).natAbs.log2 < 9000) ∧ RetI (MP.plainL P) H Q
def t__law_plain (K : PySem.W.Frag) (Cof : String → Addr) (E : XK) : TS :=
  tSeq (tAsg (tCall (sp__law_shrunk K Cof) [] E0 (tCons (tVar 0) (tNil))) (gName 1))
  (tSeq (tIfS (tAnd (tTest (tOp rGt (tCB (rLenS K) (tCons (tVar 1) (tNil))) (tC (.int 0)))) (tTest (tOp rLt (tOp (rIxL K) (tVar 1) (tUn rNeg (tC (.int 1)))) (tC (.int 0))))) (tRet (tLc (iList K (tVar 1)) (gName 2) (tYes) (tOp rISub (tC (.int 0)) (tVar 2)) [2])) (tNext))
  (tRet (tVar 1)))

section
variable {K : PySem.W.Frag} {Cof : String → Addr} {vs : List V} {H : Hp} {Q : VK} {E : XK}
theorem len__law_plain (h : sp__law_plain K Cof vs H Q E) : vs.length = 1 := by
  obtain ⟨a, P, rfl, _⟩ := h; rfl
theorem rd__law_plain (h : sp__law_plain K Cof vs H Q E) : t__law_plain K Cof E { nx := fun _ H' => Q .non H', rt := Q } (start ["_law_kp", "_law_made", "_law_one"] vs) H := by
  obtain ⟨a, P, rfl, hS, hl, hT, hg, q⟩ := h
  unfold t__law_plain
  walk_at "rd"
  refine c__law_shrunk hS hl hT hg fun p1 H1 hp1 e1 h1 => ?_
  have l1 := MP.shrunkL_len P
  walk_at "rd"
  refine ite_d (fun hn => ?_) (fun hn => ?_)
  · have hn' : MP.shrunkL P ≠ [] := fun e => by rw [e] at hn; simp at hn
    walk_at "rd"
    refine r_ixLast (SqL.inj h1) hn' ?_
    walk_at "rd"
    refine ite_d (fun hneg => ?_) (fun hneg => ?_)
    · walk_at "rd"
      refine lc_ints (fun x => 0 - x) (SqL.inj h1) (by omega) (fun x hx H2 e2 Q' k' => ?_) (fun p2 H2 hp2 e2 h2 => ?_)
      · walk_at "rd"
        exact k' _ (Evl.Ex.refl _)
      · refine q p2 H2 (Evl.fresh_back e1 hp2) (e1.trans e2) ?_
        have e : MP.plainL P = (MP.shrunkL P).map (fun x => 0 - x) := by
          unfold MP.plainL
          rw [if_pos ⟨hn', hneg⟩]
          exact List.map_congr_left fun x _ => by omega
        rw [e]; exact h2
    · walk_at "rd"
      refine q p1 H1 hp1 e1 ?_
      have e : MP.plainL P = MP.shrunkL P := by
        unfold MP.plainL
        rw [if_neg]
        rintro ⟨_, h3⟩
        exact hneg h3
      rw [e]; exact h1
  · walk_at "rd"
    refine q p1 H1 hp1 e1 ?_
    have e : MP.shrunkL P = [] := by
      cases h : MP.shrunkL P with
      | nil => rfl
      | cons x r => rw [h] at hn; exact absurd (by simp) hn
    have e : MP.plainL P = MP.shrunkL P := by
      unfold MP.plainL
      rw [if_neg]
      rintro ⟨h2, _⟩
      exact h2 e
    rw [e]; exact h1
theorem c__law_plain {a : Addr} {P : List Int} (h : SqL K H a (P.map V.int)) (hl : P.length ≤ 100000) (hT : ML.Trim P) (hg : P ≠ [] → MG.gcdL P ≠ 0 ∧ (MG.gcdL P).natAbs.log2 < 9000) (q : ∀ p H', H p = none → Ex H H' → H' p = some (.lst ((MP.plainL P).map V.int)) → Q (.ref p) H') : sp__law_plain K Cof [.ref a] H Q E := ⟨a, P, rfl, h, hl, hT, hg, q⟩
end

/-! #### _law_nonzero -/
def sp__law_nonzero (K : PySem.W.Frag) (Cof : String → Addr) : Sp := fun vs H Q _ => ∃ (c s : Int), vs = [.int c, .int s] ∧ 0 < s ∧ s.natAbs < 2 ^ 70 ∧ ∀ x : Int, x ≠ 0 → x.natAbs < 2 ^ 72 → Q (.int x) H
def t__law_nonzero (K : PySem.W.Frag) (Cof : String → Addr) (E : XK) : TS :=
  tRet (tOp rMul (tOp rIAdd (tC (.int 1)) (tOp rMod (tOp rDiv (tVar 0) (tC (.int 2))) (tVar 1))) (tOp rISub (tC (.int 1)) (tOp rMul (tC (.int 2)) (tOp rMod (tVar 0) (tC (.int 2))))))

section
variable {K : PySem.W.Frag} {Cof : String → Addr} {vs : List V} {H : Hp} {Q : VK} {E : XK}
theorem len__law_nonzero (h : sp__law_nonzero K Cof vs H Q E) : vs.length = 2 := by
  obtain ⟨c, s, rfl, _⟩ := h; rfl
theorem rd__law_nonzero (h : sp__law_nonzero K Cof vs H Q E) : t__law_nonzero K Cof E { nx := fun _ H' => Q .non H', rt := Q } (start ["_law_cell", "_law_most"] vs) H := by
  obtain ⟨c, s, rfl, s0, s1, q⟩ := h
  unfold t__law_nonzero
  walk_at "rd"
  have m0 := Int.fmod_nonneg_of_pos (c.fdiv 2) s0
  have m1 := Int.fmod_lt_of_pos (c.fdiv 2) s0
  generalize (c.fdiv 2).fmod s = many at m0 m1 ⊢
  have u0 := Int.fmod_nonneg_of_pos c (show (0 : Int) < 2 by decide)
  have u1 := Int.fmod_lt_of_pos c (show (0 : Int) < 2 by decide)
  generalize c.fmod 2 = u at u0 u1 ⊢
  refine r_mul (wide_mul (a := 2) (b := 2) (by decide) (by omega) (by decide) (by decide) (by decide)) ?_
  walk_at "rd"
  have b1 : (1 + many).natAbs < 2 ^ 71 := by omega
  have b2 : (1 - 2 * u).natAbs < 2 ^ 1 := by omega
  refine r_mul (wide_mul b1 b2 (by decide) (by decide) (by decide)) ?_
  exact q _ (Int.mul_ne_zero (by omega) (by omega)) (wide_lt b1 b2)
theorem c__law_nonzero {c s : Int} (h0 : 0 < s) (h1 : s.natAbs < 2 ^ 70) (q : ∀ x : Int, x ≠ 0 → x.natAbs < 2 ^ 72 → Q (.int x) H) : sp__law_nonzero K Cof [.int c, .int s] H Q E := ⟨c, s, rfl, h0, h1, q⟩
end

/-! #### _law_refused -/
def sp__law_refused (K : PySem.W.Frag) (Cof : String → Addr) : Sp := fun vs H Q _ => ∃ (a b : Addr) (P R : List Int), vs = [.ref a, .ref b] ∧ SqL K H a (P.map V.int) ∧ SqL K H b (R.map V.int) ∧
  ((R = [] ∧ ∀ H', Ex H H' → Q (.str "by nought") H') ∨
   (R ≠ [] ∧ ML.Trim R ∧ ∃ n m, DivSz P R n m ∧ MD.remL P R ≠ [] ∧ ∀ H', Ex H H' → Q (.str "no part") H'))
def t__law_refused (K : PySem.W.Frag) (Cof : String → Addr) (E : XK) : TS :=
  tSeq (tAsg (tC (.str "")) (gName 2))
  (tSeq (tTryCl K (fun W => tDrop (tCallS (sp_part K Cof) (WE W) (tCons (tVar 0) (tCons (tVar 1) (tNil))))) [((.ref (Cof "NoPart"), 3, fun a cls d => tSeq (tAsg (tAndV (tCB (rIsX K a cls d) (tCons (tVar 3) (tCons (tC (.ref (Cof "RootError"))) (tNil)))) (tCB (rIsX K a cls d) (tCons (tVar 3) (tCons (tC (.ty "ValueError")) (tNil))))) (gName 4))
  (tAsg (tOp (rIxL K) (tLst (tCons (tC (.str "")) (tCons (tC (.str "no part")) (tNil)))) (tCB rInt1 (tCons (tAndV (tVar 4) (tNotV (tCB (rIsX K a cls d) (tCons (tVar 3) (tCons (tC (.ref (Cof "ByNought"))) (tNil)))))) (tNil)))) (gName 2))) : Cl), ((.ref (Cof "ByNought"), 3, fun a cls d => tAsg (tOp (rIxL K) (tLst (tCons (tC (.str "")) (tCons (tC (.str "by nought")) (tNil)))) (tCB rInt1 (tCons (tAndV (tCB (rIsX K a cls d) (tCons (tVar 3) (tCons (tC (.ref (Cof "RootError"))) (tNil)))) (tCB (rIsX K a cls d) (tCons (tVar 3) (tCons (tC (.ty "ValueError")) (tNil))))) (tNil)))) (gName 2)) : Cl)])
  (tRet (tVar 2)))

section
variable {K : PySem.W.Frag} {Cof : String → Addr} {vs : List V} {H : Hp} {Q : VK} {E : XK}
theorem len__law_refused (h : sp__law_refused K Cof vs H Q E) : vs.length = 2 := by
  obtain ⟨a, b, P, R, rfl, _⟩ := h; rfl
theorem rd__law_refused (X : ExT K Cof) (h : sp__law_refused K Cof vs H Q E) : t__law_refused K Cof E { nx := fun _ H' => Q .non H', rt := Q } (start ["_law_kp", "_law_kq", "_law_told", "e", "_law_based"] vs) H := by
  obtain ⟨a, b, P, R, rfl, hA, hB, h⟩ := h
  unfold t__law_refused
  walk_at "rd"
  refine r_tryCl ?_
  walk_at "rd"
  refine r_callS ?_
  walk_at "rd"
  refine ⟨a, b, P, R, rfl, hA, hB, ?_⟩
  rcases h with ⟨rfl, q⟩ | ⟨hne, hT, n, m, hs, hr, q⟩
  · refine .inl ⟨rfl, fun H1 e1 => ?_⟩
    refine w_cl_not X.m_ByNought_NoPart (w_cl X.m_ByNought_ByNought fun x hx => ?_)
    walk_at "rd"
    refine r_lstK fun p2 H2 hp2 e2 h2 => ?_
    walk_at "rd"
    refine r_isX X.c_ByNought X.i_ByNought_RootError (rel_ref _) ?_
    walk_at "rd"
    refine r_isX X.c_ByNought X.v_ByNought (rel_ty _) ?_
    walk_at "rd"
    refine r_ixL (SqL.inj h2) (atI_nat (j := 1) rfl) ?_
    refine r_gn ?_
    show tRet (tVar 2) _ _ _
    walk_at "rd"
    exact q _ (e1.trans e2)
  · refine .inr ⟨hne, hT, n, m, hs, .inl ⟨hr, fun H1 e1 => ?_⟩⟩
    refine w_cl X.m_NoPart_NoPart fun x hx => ?_
    walk_at "rd"
    refine r_isX X.c_NoPart X.i_NoPart_RootError (rel_ref _) ?_
    walk_at "rd"
    refine r_isX X.c_NoPart X.v_NoPart (rel_ty _) ?_
    walk_at "rd"
    refine r_lstK fun p2 H2 hp2 e2 h2 => ?_
    walk_at "rd"
    refine r_isX X.c_NoPart X.i_NoPart_ByNought (rel_ref _) ?_
    walk_at "rd"
    refine r_ixL (SqL.inj h2) (atI_nat (j := 1) rfl) ?_
    refine r_gn ?_
    show tRet (tVar 2) _ _ _
    walk_at "rd"
    exact q _ (e1.trans e2)
theorem c__law_refused0 {a b : Addr} {P : List Int} (hA : SqL K H a (P.map V.int)) (hB : SqL K H b (([] : List Int).map V.int)) (q : ∀ H', Ex H H' → Q (.str "by nought") H') : sp__law_refused K Cof [.ref a, .ref b] H Q E := ⟨a, b, P, [], rfl, hA, hB, .inl ⟨rfl, q⟩⟩
theorem c__law_refused {a b : Addr} {P R : List Int} (n m : Nat) (hA : SqL K H a (P.map V.int)) (hB : SqL K H b (R.map V.int)) (hne : R ≠ []) (hT : ML.Trim R) (hs : DivSz P R n m) (hr : MD.remL P R ≠ []) (q : ∀ H', Ex H H' → Q (.str "no part") H') : sp__law_refused K Cof [.ref a, .ref b] H Q E := ⟨a, b, P, R, rfl, hA, hB, .inr ⟨hne, hT, n, m, hs, hr, q⟩⟩
end

/-! #### law -/
--USE MQ
def sp_law (K : PySem.W.Frag) (Cof : String → Addr) : Sp := fun vs H Q _ => ∃ (a : Addr) (ns : List Int), vs = [.ref a] ∧ SqL K H a (ns.map V.int) ∧ ns.length ≤ 63 ∧ ∀ H', Q (.bl true) H'
def t_law (K : PySem.W.Frag) (Cof : String → Addr) (E : XK) : TS :=
  tSeq (tAsg (tCall (sp__law_cell_at K Cof) [] E0 (tCons (tVar 0) (tCons (tC (.int 0)) (tNil)))) (gName 1))
  (tSeq (tAsg (tOp (rIxL K) (tLst (tCons (tC (.int 3)) (tCons (tOp rPow (tC (.int 10)) (tC (.int 20))) (tNil)))) (tOp rMod (tVar 1) (tC (.int 2)))) (gName 2))
  (tSeq (tAsg (tOp rMod (tOp rDiv (tVar 1) (tC (.int 2))) (tC (.int 4))) (gName 3))
  (tSeq (tAsg (tCall (sp__law_trim K Cof) [] E0 (tCons (tLc (iRng1 (tCons (tOp rIAdd (tC (.int 1)) (tOp rMod (tOp rDiv (tVar 1) (tC (.int 8))) (tC (.int 4)))) (tNil))) (gName 5) (tYes) (tCall (sp__law_within K Cof) [] E0 (tCons (tCall (sp__law_cell_at K Cof) [] E0 (tCons (tVar 0) (tCons (tOp rIAdd (tC (.int 3)) (tVar 5)) (tNil)))) (tCons (tVar 2) (tNil)))) [5]) (tNil))) (gName 4))
  (tCut (tIfS (tTest (tOp rEq (tCB (rLenS K) (tCons (tVar 4) (tNil))) (tC (.int 0)))) (tAsg (tLst (tCons (tC (.int 2)) (tCons (tUn rNeg (tC (.int 4))) (tNil)))) (gName 4)) (tNext))
  (tSeq (tAsg (tCall (sp__law_trim K Cof) [] E0 (tCons (tLc (iList K (tSl (rSlL K) (tVar 0) (tPart (tC (.int 10))) (tPart (tC (.int 46))))) (gName 7) (tYes) (tCall (sp__law_within K Cof) [] E0 (tCons (tVar 7) (tCons (tVar 2) (tNil)))) [7]) (tNil))) (gName 6))
  (tSeq (tAsg (tCall (sp__law_trim K Cof) [] E0 (tCons (tLc (iRng1 (tCons (tOp rISub (tCB (rLenS K) (tCons (tVar 4) (tNil))) (tC (.int 1))) (tNil))) (gName 5) (tYes) (tCall (sp__law_within K Cof) [] E0 (tCons (tCall (sp__law_cell_at K Cof) [] E0 (tCons (tVar 0) (tCons (tOp rIAdd (tC (.int 7)) (tVar 5)) (tNil)))) (tCons (tVar 2) (tNil)))) [5]) (tNil))) (gName 8))
  (tSeq (tAsg (tCall (sp__law_mul K Cof) [] E0 (tCons (tLst (tCons (tCall (sp__law_nonzero K Cof) [] E0 (tCons (tCall (sp__law_cell_at K Cof) [] E0 (tCons (tVar 0) (tCons (tC (.int 1)) (tNil)))) (tCons (tVar 2) (tNil)))) (tNil))) (tCons (tCall (sp__law_mul K Cof) [] E0 (tCons (tVar 6) (tCons (tVar 4) (tNil)))) (tNil)))) (gName 9))
  (tSeq (tAsg (tCall (sp__law_mul K Cof) [] E0 (tCons (tLst (tCons (tCall (sp__law_nonzero K Cof) [] E0 (tCons (tCall (sp__law_cell_at K Cof) [] E0 (tCons (tVar 0) (tCons (tC (.int 2)) (tNil)))) (tCons (tVar 2) (tNil)))) (tNil))) (tCons (tVar 4) (tNil)))) (gName 4))
  (tCut (tIfS (tTest (tOp rEq (tVar 3) (tC (.int 1)))) (tAsg (tCall (sp__law_add K Cof) [] E0 (tCons (tVar 9) (tCons (tVar 8) (tNil)))) (gName 9)) (tNext))
  (tCut (tIfS (tTest (tOp rEq (tVar 3) (tC (.int 2)))) (tAsg (tLst (tNil)) (gName 4)) (tNext))
  (tSeq (tAsg (tCB (rListS K) (tCons (tVar 9) (tNil))) (gName 10))
  (tSeq (tAsg (tCB (rListS K) (tCons (tVar 4) (tNil))) (gName 11))
  (tSeq (tIfS (tTest (tOp rEq (tVar 3) (tC (.int 2)))) (tRet (tAndV (tOp rEq (tCall (sp__law_refused K Cof) [] E0 (tCons (tVar 10) (tCons (tVar 11) (tNil)))) (tC (.str "by nought"))) (tAndV (tOp (rEqD K) (tVar 10) (tVar 9)) (tOp (rEqD K) (tVar 11) (tVar 4))))) (tNext))
  (tSeq (tIfS (tAnd (tTest (tOp rEq (tVar 3) (tC (.int 1)))) (tTest (tOp rGt (tCB (rLenS K) (tCons (tVar 8) (tNil))) (tC (.int 0))))) (tRet (tAndV (tOp rEq (tCall (sp__law_refused K Cof) [] E0 (tCons (tVar 10) (tCons (tVar 11) (tNil)))) (tC (.str "no part"))) (tAndV (tOp (rEqD K) (tVar 10) (tVar 9)) (tOp (rEqD K) (tVar 11) (tVar 4))))) (tNext))
  (tSeq (tAsg (tCall (sp_part K Cof) [] E0 (tCons (tVar 10) (tCons (tVar 11) (tNil)))) (gName 12))
  (tSeq (tIfS (tOr (tNot (tB (tCall (sp__law_is_poly K Cof) [] E0 (tCons (tVar 12) (tNil))))) (tTest (tOp (rNeD K) (tVar 12) (tCall (sp__law_plain K Cof) [] E0 (tCons (tVar 6) (tNil)))))) (tRet (tC (.bl false))) (tNext))
  (tSeq (tDrop (tBM K "list" rAppend (tVar 12) (tCons (tC (.int 9)) (tNil))))
  (tSeq (tAsg (tCall (sp_part K Cof) [] E0 (tCons (tVar 10) (tCons (tVar 11) (tNil)))) (gName 13))
  (tRet (tAndV (tCall (sp__law_is_poly K Cof) [] E0 (tCons (tVar 13) (tNil))) (tAndV (tOp (rEqD K) (tVar 13) (tCall (sp__law_plain K Cof) [] E0 (tCons (tVar 6) (tNil)))) (tAndV (tOp (rEqD K) (tVar 10) (tVar 9)) (tOp (rEqD K) (tVar 11) (tVar 4))))))))))))))))))))))))

section
variable {K : PySem.W.Frag} {Cof : String → Addr} {vs : List V} {H : Hp} {Q : VK} {E : XK}
theorem len_law (h : sp_law K Cof vs H Q E) : vs.length = 1 := by
  obtain ⟨a, ns, rfl, _⟩ := h; rfl
theorem two_sizes {x y : Int} (i : Nat) (h0 : i < 2) (h1 : 0 < x ∧ x.natAbs < 2 ^ 70) (h2 : 0 < y ∧ y.natAbs < 2 ^ 70) : 0 < ([x, y] : List Int).getD i 0 ∧ (([x, y] : List Int).getD i 0).natAbs < 2 ^ 70 := by
  rcases i with _ | _ | i
  · exact h1
  · exact h2
  · omega
/-- the quotient's size, where P is d'th part of c * A * Q -/
theorem quo_sz {P A R : List Int} {c d : Int} (hT : ML.Trim R) (hne : R ≠ []) (hd : d ≠ 0) (hr : ∀ k, MD.facL P R * (c * ML.cf A k) = d * ML.cf (MD.quoL P R) k) {f g h : Nat} (hf : (MD.facL P R).natAbs < 2 ^ f) (hc : c.natAbs < 2 ^ g) (hA : ML.Sz h A) : ML.Sz (f + (g + h)) (MD.quoL P R) := ML.Sz.of fun k _ => by
  have h1 := wide_lt hf (wide_lt hc (hA.cf k))
  rw [hr, Int.natAbs_mul] at h1
  exact Nat.lt_of_le_of_lt (Nat.le_mul_of_pos_left _ (by omega)) h1
theorem rd_law (h : sp_law K Cof vs H Q E) : t_law K Cof E { nx := fun _ H' => Q .non H', rt := Q } (start ["_law_script", "_law_first", "_law_most", "_law_way", "_law_kq", "_law_k", "_law_ka", "_law_cell", "_law_kr", "_law_kp", "_law_handed", "_law_other", "_law_found", "_law_again"] vs) H := by
  obtain ⟨a, ns, rfl, hS, hl, q⟩ := h
  unfold t_law
  walk_at "rd"
  refine r_lstK fun p1 H1 hp1 e1 h1 => ?_
  have f1 := Fx.of e1
  walk_at "rd"
  have i0 := Int.fmod_nonneg_of_pos (cellOf ns 0) (show (0 : Int) < 2 by decide)
  have i1 := Int.fmod_lt_of_pos (cellOf ns 0) (show (0 : Int) < 2 by decide)
  refine r_ixI (ns := [3, 10 ^ 20]) (SqL.inj h1) i0 i1 ?_
  have hz := two_sizes (x := 3) (y := 10 ^ 20) ((cellOf ns 0).fmod 2).toNat (by omega) ⟨by decide, by decide⟩ ⟨by decide, by decide⟩
  generalize ([3, 10 ^ 20] : List Int).getD ((cellOf ns 0).fmod 2).toNat 0 = most at hz ⊢
  obtain ⟨zp, z1⟩ := hz
  have z0 : 0 ≤ most := by omega
  have wok : most.natAbs < 2 ^ 4000 := Nat.lt_of_lt_of_le z1 (Nat.pow_le_pow_right (by decide) (by decide))
  walk_at "rd"
  obtain ⟨size, esz, hsz⟩ : ∃ size : Nat, 1 + ((cellOf ns 0).fdiv 8).fmod 4 = (size : Int) ∧ size ≤ 4 := by
    have d0 := Int.fmod_nonneg_of_pos ((cellOf ns 0).fdiv 8) (show (0 : Int) < 4 by decide)
    have d1 := Int.fmod_lt_of_pos ((cellOf ns 0).fdiv 8) (show (0 : Int) < 4 by decide)
    exact ⟨(1 + ((cellOf ns 0).fdiv 8).fmod 4).toNat, by omega, by omega⟩
  rw [esz]
  generalize ((cellOf ns 0).fdiv 2).fmod 4 = way
  refine r_cRng1A (by omega) (by omega) ?_
  rw [Int.toNat_natCast]
  refine lc_rangeI (fun (k : Nat) => sgn (cellOf ns (3 + (k : Int))) most) (by omega) (fun i hi H4 e4 Q' k' => ?_) fun p2 H2 hp2 e2 h2 => ?_
  · have hS4 := (f1.ex e4).l hS
    walk_at "rd"
    refine c__law_within z0 wok ?_
    exact k' _ (Evl.Ex.refl _)
  have f2 := f1.ex e2
  have s2 : ML.Sz 70 ((List.range size).map fun (k : Nat) => sgn (cellOf ns (3 + (k : Int))) most) := fun x hx => by
    obtain ⟨k, _, rfl⟩ := List.mem_map.mp hx
    exact sgn_abs z0 z1
  walk_at "rd"
  refine c__law_trim (SqL.inj h2) (by rw [List.length_map, List.length_range]; omega) fun p3 H3 hp3 e3 h3 => ?_
  have f3 := f2.ex e3
  have s3 := s2.trim
  have l3 : (ML.trimL ((List.range size).map fun (k : Nat) => sgn (cellOf ns (3 + (k : Int))) most)).length ≤ 4 := Nat.le_trans (ML.trimL_len _) (by rw [List.length_map, List.length_range]; exact hsz)
  have t3 := ML.trim_trimL ((List.range size).map fun (k : Nat) => sgn (cellOf ns (3 + (k : Int))) most)
  generalize ML.trimL ((List.range size).map fun (k : Nat) => sgn (cellOf ns (3 + (k : Int))) most) = kq at h3 s3 l3 t3
  generalize cellOf ns 0 = first
  walk_at "rd"
  refine ⟨fun σ' H' => ∃ (p : Addr) (R : List Int) (u5 : Option V), σ' = [some (.ref a), some (.int first), some (.int most), some (.int way), some (.ref p), u5, none, none, none, none, none, none, none, none] ∧ Fx H H' ∧ H' p = some (.lst (R.map V.int)) ∧ R ≠ [] ∧ ML.Trim R ∧ ML.Sz 70 R ∧ R.length ≤ 4, ?_, fun σ' H' hM => ?_⟩
  · walk_at "rd"
    refine ite_d (fun h0 => ?_) (fun h0 => ?_)
    · walk_at "rd"
      refine r_lstK fun p4 H4 hp4 e4 h4 => ?_
      walk_at "rd"
      exact ⟨p4, [2, -4], _, rfl, f3.ex e4, h4, by simp, .inr (by decide), fun x hx => by
        rcases List.mem_cons.mp hx with e | hx
        · rw [e]; decide
        · rw [List.mem_singleton] at hx; rw [hx]; decide, by simp⟩
    · walk_at "rd"
      exact ⟨p3, kq, _, rfl, f3, h3, fun e => h0 (by rw [e]; rfl), t3, s3, l3⟩
  clear h1 h2 h3 s2 s3 l3 t3 f1 f2 f3 e1 e2 e3 hp1 hp2 hp3 esz hsz
  obtain ⟨p3, B, u5, rfl, f3, h3, hne, hT, sB, lB⟩ := hM
  walk_at "rd"
  refine r_slI (f3.l hS) fun p5 H5 hp5 e5 h5 => ?_
  have f5 := f3.ex e5
  refine r_cListA (SqL.inj h5) ?_
  refine lc_ints (fun c => sgn c most) (SqL.inj h5) (Nat.lt_of_le_of_lt (sliceI_len _ _ _) (by omega)) (fun c hc H3 e3 Q' k' => ?_) fun p6 H6 hp6 e6 h6 => ?_
  · walk_at "rd"
    refine c__law_within z0 wok ?_
    exact k' _ (Evl.Ex.refl _)
  have f6 := f5.ex e6
  have s6 : ML.Sz 70 ((sliceI ns (some 10) (some 46)).map (fun c => sgn c most)) := fun x hx => by
    obtain ⟨c, _, rfl⟩ := List.mem_map.mp hx
    exact sgn_abs z0 z1
  have l6 : ((sliceI ns (some 10) (some 46)).map (fun c => sgn c most)).length ≤ 36 := by
    rw [List.length_map, sliceI_bothI (by decide) (by decide), List.length_take]
    exact Nat.min_le_left _ _
  walk_at "rd"
  refine c__law_trim (SqL.inj h6) (by omega) fun p7 H7 hp7 e7 h7 => ?_
  have f7 := f6.ex e7
  have sA := s6.trim
  have lA := Nat.le_trans (ML.trimL_len _) l6
  have tA := ML.trim_trimL ((sliceI ns (some 10) (some 46)).map (fun c => sgn c most))
  generalize ML.trimL ((sliceI ns (some 10) (some 46)).map (fun c => sgn c most)) = A at h7 sA lA tA
  have h3' : H7 p3 = some (.lst (B.map V.int)) := by walk_at "hp"
  clear h3 h5 h6 s6 l6 f3 f5 f6 e5 e6 e7 hp5 hp6
  walk_at "rd"
  have hB := MD.len_pos hne
  have eb : (B.length : Int) - 1 = ((B.length - 1 : Nat) : Int) := by omega
  rw [eb]
  refine r_cRng1A (by omega) (by omega) ?_
  rw [Int.toNat_natCast]
  refine lc_rangeI (fun (k : Nat) => sgn (cellOf ns (7 + (k : Int))) most) (by omega) (fun i hi H4 e4 Q' k' => ?_) fun p8 H8 hp8 e8 h8 => ?_
  · have hS4 := (f7.ex e4).l hS
    walk_at "rd"
    refine c__law_within z0 wok ?_
    exact k' _ (Evl.Ex.refl _)
  have f8 := f7.ex e8
  have s8 : ML.Sz 70 ((List.range (B.length - 1)).map fun (k : Nat) => sgn (cellOf ns (7 + (k : Int))) most) := fun x hx => by
    obtain ⟨k, _, rfl⟩ := List.mem_map.mp hx
    exact sgn_abs z0 z1
  walk_at "rd"
  refine c__law_trim (SqL.inj h8) (by rw [List.length_map, List.length_range]; omega) fun p9 H9 hp9 e9 h9 => ?_
  have f9 := f8.ex e9
  have l9 : (ML.trimL ((List.range (B.length - 1)).map fun (k : Nat) => sgn (cellOf ns (7 + (k : Int))) most)).length ≤ B.length - 1 := Nat.le_trans (ML.trimL_len _) (by rw [List.length_map, List.length_range]; exact Nat.le_refl _)
  have tR := ML.trim_trimL ((List.range (B.length - 1)).map fun (k : Nat) => sgn (cellOf ns (7 + (k : Int))) most)
  have sR := s8.trim
  generalize ML.trimL ((List.range (B.length - 1)).map fun (k : Nat) => sgn (cellOf ns (7 + (k : Int))) most) = R at h9 l9 tR sR
  have h3'' : H9 p3 = some (.lst (B.map V.int)) := by walk_at "hp"
  have h7' : H9 p7 = some (.lst (A.map V.int)) := by walk_at "hp"
  clear h3' h7 h8 s8 f7 f8 e8 e9 hp7 hp8 hp9
  walk_at "rd"
  refine c__law_nonzero zp z1 fun c c0 cb => ?_
  walk_at "rd"
  refine r_lstK fun p10 H10 hp10 e10 h10 => ?_
  have f10 := f9.ex e10
  walk_at "rd"
  refine c__law_mul (P := A) (R := B) 70 70 (by walk_at "sq") (by walk_at "sq") (by omega) (by omega) sA sB ⟨by decide, by decide, by decide⟩ fun p11 H11 hp11 e11 h11 => ?_
  have f11 := f10.ex e11
  have s11 := (sA.mulU sB).mono (show 70 + 70 + A.length + 1 ≤ 180 by omega)
  have l11 := ML.mulU_len A B
  walk_at "rd"
  refine c__law_mul (P := [c]) (R := ML.mulU A B) 72 180 (by walk_at "sq") (by walk_at "sq") (by simp) (by omega) (fun x hx => by
    rw [List.mem_singleton] at hx
    rw [hx]; exact cb) s11 ⟨by decide, by decide, by decide⟩ fun p12 H12 hp12 e12 h12 => ?_
  have f12 := f11.ex e12
  have s12 := (show ML.Sz 72 [c] from fun x hx => by
    rw [List.mem_singleton] at hx
    rw [hx]; exact cb).mulU s11
  rw [MR.mulU_one] at h12 s12
  have l12 := MR.sclL_len c (ML.mulU A B)
  have c12 : ∀ k, ML.cf (MR.sclL c (ML.mulU A B)) k = c * ML.cv A B k := fun k => by rw [MR.cf_sclL, ML.cf_mulU]
  have t12 : ML.Trim (MR.sclL c (ML.mulU A B)) := MR.trim_sclL c0 (MR.trim_mulU tA hT)
  generalize MR.sclL c (ML.mulU A B) = P0 at h12 s12 l12 c12 t12
  have lP0 : P0.length ≤ 40 := by omega
  have g3 : H12 p3 = some (.lst (B.map V.int)) := by walk_at "hp"
  have g7 : H12 p7 = some (.lst (A.map V.int)) := by walk_at "hp"
  have g9 : H12 p9 = some (.lst (R.map V.int)) := by walk_at "hp"
  clear h3'' h7' h9 h10 h11 f9 f10 f11 e10 e11 e12 hp10 hp11 hp12
  walk_at "rd"
  refine c__law_nonzero zp z1 fun d d0 db => ?_
  walk_at "rd"
  refine r_lstK fun p13 H13 hp13 e13 h13 => ?_
  have f13 := f12.ex e13
  walk_at "rd"
  refine c__law_mul (P := [d]) (R := B) 72 70 (by walk_at "sq") (by walk_at "sq") (by simp) (by omega) (fun x hx => by
    rw [List.mem_singleton] at hx
    rw [hx]; exact db) sB ⟨by decide, by decide, by decide⟩ fun p14 H14 hp14 e14 h14 => ?_
  have f14 := f13.ex e14
  have s14 := (show ML.Sz 72 [d] from fun x hx => by
    rw [List.mem_singleton] at hx
    rw [hx]; exact db).mulU sB
  rw [MR.mulU_one] at h14 s14
  have t14 := MR.trim_sclL d0 hT
  have l14 := MR.sclL_len d B
  have n14 : MR.sclL d B ≠ [] := fun e => by
    rw [e] at l14
    simp at l14
    omega
  have c14 : ∀ k, ML.cv A (MR.sclL d B) k = d * ML.cv A B k := fun k => by rw [MR.cv_scl_right]
  generalize MR.sclL d B = D at h14 s14 t14 l14 n14 c14
  have k7 : H14 p7 = some (.lst (A.map V.int)) := by walk_at "hp"
  have k9 : H14 p9 = some (.lst (R.map V.int)) := by walk_at "hp"
  have k12 : H14 p12 = some (.lst (P0.map V.int)) := by walk_at "hp"
  have sD : ML.Sz 144 D := s14.mono (by simp)
  have sP0 : ML.Sz 254 P0 := s12.mono (by simp)
  clear g3 g7 g9 h12 h13 f12 f13 e13 e14 hp13 hp14 s12 s14 s11
  walk_at "rd"
  -- with or without R
  refine ⟨fun σ' H' => ∃ (p : Addr) (P : List Int), σ' = [some (.ref a), some (.int first), some (.int most), some (.int way), some (.ref p14), u5, some (.ref p7), none, some (.ref p9), some (.ref p), none, none, none, none] ∧ Fx H H' ∧ H' p = some (.lst (P.map V.int)) ∧ H' p7 = some (.lst (A.map V.int)) ∧ H' p9 = some (.lst (R.map V.int)) ∧ H' p14 = some (.lst (D.map V.int)) ∧ ML.Trim P ∧ ML.Sz 260 P ∧ P.length ≤ 40 ∧ (way = 1 → ∀ k, ML.cf P k = c * ML.cv A B k + ML.cf R k) ∧ (way ≠ 1 → ∀ k, ML.cf P k = c * ML.cv A B k), ?_, fun σ' H' hM => ?_⟩
  · walk_at "rd"
    refine ite_d (fun h0 => ?_) (fun h0 => ?_)
    · walk_at "rd"
      refine c__law_add (P := P0) (R := R) (by walk_at "sq") (by walk_at "sq") (by omega) (by omega) fun p15 H15 hp15 e15 h15 => ?_
      have l15 := ML.addL_len P0 R
      walk_at "rd"
      exact ⟨p15, _, rfl, f14.ex e15, h15, e15 _ _ k7, e15 _ _ k9, e15 _ _ h14, ML.trim_addL _ _, (sP0.addL (sR.mono (by decide))).mono (by decide), by omega, fun _ k => by rw [ML.cf_addL, c12], fun h => absurd h0 h⟩
    · walk_at "rd"
      exact ⟨p12, _, rfl, f14, k12, k7, k9, h14, t12, sP0.mono (by decide), lP0, fun h => absurd h h0, fun _ k => c12 k⟩
  clear k7 k9 k12 h14 f14 sP0 lP0 c12 t12 l12 P0
  obtain ⟨pP, P, rfl, f15, h12, h7, h9, h14, tP, sP, lP, cw1, cw2⟩ := hM
  walk_at "rd"
  refine ⟨fun σ' H' => ∃ (p : Addr) (D' : List Int), σ' = [some (.ref a), some (.int first), some (.int most), some (.int way), some (.ref p), u5, some (.ref p7), none, some (.ref p9), some (.ref pP), none, none, none, none] ∧ Fx H H' ∧ H' pP = some (.lst (P.map V.int)) ∧ H' p7 = some (.lst (A.map V.int)) ∧ H' p9 = some (.lst (R.map V.int)) ∧ H' p = some (.lst (D'.map V.int)) ∧ (way = 2 → D' = []) ∧ (way ≠ 2 → D' = D), ?_, fun σ' H' hM => ?_⟩
  · walk_at "rd"
    refine ite_d (fun h0 => ?_) (fun h0 => ?_)
    · walk_at "rd"
      refine r_lstK fun p16 H16 hp16 e16 h16 => ?_
      walk_at "rd"
      exact ⟨p16, [], rfl, f15.ex e16, e16 _ _ h12, e16 _ _ h7, e16 _ _ h9, h16, fun _ => rfl, fun h => absurd h0 h⟩
    · walk_at "rd"
      exact ⟨p14, D, rfl, f15, h12, h7, h9, h14, fun h => absurd h h0, fun _ => rfl⟩
  clear h12 h7 h9 h14 f15
  obtain ⟨pD, D', rfl, f16, h12, h7, h9, h14, d1, d2⟩ := hM
  walk_at "rd"
  refine r_list (SqL.inj h12) fun p17 H17 hp17 e17 h17 => ?_
  have h14' := e17 _ _ h14
  walk_at "rd"
  refine r_list (SqL.inj h14') fun p18 H18 hp18 e18 h18 => ?_
  have k12 := e18 _ _ (e17 _ _ h12)
  have k7 := e18 _ _ (e17 _ _ h7)
  have k9 := e18 _ _ (e17 _ _ h9)
  have k14 := e18 _ _ h14'
  have k17 := e18 _ _ h17
  clear h12 h7 h9 h14 h14' h17 e17 e18 hp17 hp18 f16
  walk_at "rd"
  refine ite_d (fun w2 => ?_) (fun w2 => ?_)
  · have := d1 w2
    subst this
    walk_at "rd"
    refine c__law_refused0 (SqL.inj k17) (SqL.inj h18) fun H19 e19 => ?_
    walk_at "rd"
    refine iteD rfl ?_
    walk_at "rd"
    refine r_eqInts (ns := P) (ms := P) (SqL.inj (e19 _ _ k17)) (SqL.inj (e19 _ _ k12)) ?_
    walk_at "rd"
    refine iteD rfl ?_
    walk_at "rd"
    refine r_eqInts (ns := []) (ms := []) (SqL.inj (e19 _ _ h18)) (SqL.inj (e19 _ _ k14)) ?_
    exact q _
  have := d2 w2
  subst this
  clear d1 d2
  have ds : DivSz P D' 260 144 := ⟨sP, sD, by omega, by omega, by decide, by decide, by decide, by omega⟩
  have goal2 : ∀ R', (∀ k, ML.cf P k = c * ML.cv A B k + ML.cf R' k) → ML.Trim R' → R'.length < B.length → (MD.remL P D' = [] ↔ R' = []) ∧ (R' = [] → MP.plainL (MD.quoL P D') = MP.plainL A ∧ (MD.quoL P D' ≠ [] → MG.gcdL (MD.quoL P D') ≠ 0 ∧ (MG.gcdL (MD.quoL P D')).natAbs.log2 < 9000)) := by
    intro R' hP tR' lR'
    have hs : ∀ k, d * ML.cf P k = ML.cv (MR.sclL c A) D' k + ML.cf (MR.sclL d R') k := fun k => by
      rw [hP, MR.cv_scl_left, c14, MR.cf_sclL, Int.mul_add, ← Int.mul_assoc, ← Int.mul_assoc, Int.mul_comm d c]
    have hz : MR.sclL d R' = [] ↔ R' = [] := by
      unfold MR.sclL
      exact List.map_eq_nil_iff
    refine ⟨(MR.rem_nil d0 tP t14 n14 (by rw [MR.sclL_len]; omega) (MR.trim_sclL d0 tR') hs).trans hz, fun he => ?_⟩
    have hq : ∀ k, MD.facL P D' * (c * ML.cf A k) = d * ML.cf (MD.quoL P D') k := fun k => by
      have := (MR.rest_unique t14 n14 (by rw [MR.sclL_len]; omega) hs k).2
      rw [MR.cf_sclL] at this
      exact this
    have hf0 := MD.facL_pos (P := P) t14 n14
    refine ⟨?_, fun hn => ?_⟩
    · refine (MQ.plain_prop (x := MD.facL P D' * c) (y := d) tA (MD.trim_quo P D') (Int.mul_ne_zero (by omega) c0) d0 fun k => ?_).symm
      rw [Int.mul_assoc, hq]
    · have hfac := MD.facL_lt (P := P) sD
      have hsz := quo_sz t14 n14 d0 hq hfac cb sA
      refine shr_ok (n := 8000) (by decide) (by decide) (hsz.mono ?_) (MD.trim_quo P D') hn
      have : P.length - D'.length + 1 ≤ 40 := by have := MD.len_pos n14; omega
      have := Nat.mul_le_mul_left 144 this
      omega
  walk_at "rd"
  by_cases wr : way = 1 ∧ R ≠ []
  · have hg := goal2 R (cw1 wr.1) tR (by omega)
    have hr : MD.remL P D' ≠ [] := fun e => wr.2 (hg.1.mp e)
    refine iteD wr.1 ?_
    walk_at "rd"
    refine iteD (by have := List.length_pos_iff.mpr wr.2; omega) ?_
    walk_at "rd"
    refine c__law_refused (P := P) (R := D') 260 144 (SqL.inj k17) (SqL.inj h18) n14 t14 ds hr fun H19 e19 => ?_
    walk_at "rd"
    refine iteD rfl ?_
    walk_at "rd"
    refine r_eqInts (ns := P) (ms := P) (SqL.inj (e19 _ _ k17)) (SqL.inj (e19 _ _ k12)) ?_
    walk_at "rd"
    refine iteD rfl ?_
    walk_at "rd"
    refine r_eqInts (ns := D') (ms := D') (SqL.inj (e19 _ _ h18)) (SqL.inj (e19 _ _ k14)) ?_
    rw [decide_eq_true rfl]
    exact q _
  have hP0 : ∀ k, ML.cf P k = c * ML.cv A B k + ML.cf [] k := fun k => by
    rw [ML.cf_nil, Int.add_zero]
    by_cases w1 : way = 1
    · have hR : R = [] := Classical.byContradiction fun h => wr ⟨w1, h⟩
      rw [cw1 w1, hR, ML.cf_nil, Int.add_zero]
    · exact cw2 w1 k
  obtain ⟨g1, g2⟩ := goal2 [] hP0 (.inl rfl) (by simp; omega)
  have hr := g1.mpr rfl
  obtain ⟨epl, hgq⟩ := g2 rfl
  have hgA : A ≠ [] → MG.gcdL A ≠ 0 ∧ (MG.gcdL A).natAbs.log2 < 9000 := shr_ok (by decide) (by decide) sA tA
  have lpA := MP.plainL_len A
  have tpA := MP.trim_plainL tA
  refine ite_d (fun w1 => ?_) (fun w1 => ?_)
  all_goals (walk_at "rd"; try (refine iteDF (by have hR : R = [] := Classical.byContradiction fun h => wr ⟨w1, h⟩; rw [hR]; simp) ?_; walk_at "rd"))
  all_goals (
    refine c_part (P := P) (R := D') 260 144 (SqL.inj k17) (SqL.inj h18) n14 t14 ds hr hgq fun p19 H19 hp19 e19 h19 => ?_
    rw [epl] at h19
    have m7 := e19 _ _ k7
    walk_at "rd"
    refine c__law_is_poly h19 tpA ?_
    walk_at "rd"
    refine c__law_plain (SqL.inj m7) (by omega) tA hgA fun p20 H20 hp20 e20 h20 => ?_
    have h19' := e20 _ _ h19
    walk_at "rd"
    refine r_neInts (ns := MP.plainL A) (ms := MP.plainL A) (SqL.inj h19') (SqL.inj h20) ?_
    walk_at "rd"
    refine ite_nd (fun h => absurd rfl h) (fun _ => ?_)
    walk_at "rd"
    refine r_appendI h19' (by omega) fun H21 b21 h21 => ?_
    have f21 := ((Fx.of e19).ex e20).mut b21 hp19
    have m12 := f21.to _ _ k12
    have m14 := f21.to _ _ k14
    have m17 := f21.to _ _ k17
    have m18 := f21.to _ _ h18
    have m7 := f21.to _ _ k7
    walk_at "rd"
    refine c_part (P := P) (R := D') 260 144 (SqL.inj m17) (SqL.inj m18) n14 t14 ds hr hgq fun p22 H22 hp22 e22 h22 => ?_
    rw [epl] at h22
    have m7' := e22 _ _ m7
    walk_at "rd"
    refine c__law_is_poly h22 tpA ?_
    walk_at "rd"
    refine c__law_plain (SqL.inj m7') (by omega) tA hgA fun p23 H23 hp23 e23 h23 => ?_
    walk_at "rd"
    refine r_eqInts (ns := MP.plainL A) (ms := MP.plainL A) (SqL.inj (e23 _ _ h22)) (SqL.inj h23) ?_
    walk_at "rd"
    refine iteD rfl ?_
    walk_at "rd"
    refine r_eqInts (ns := P) (ms := P) (SqL.inj (e23 _ _ (e22 _ _ m17))) (SqL.inj (e23 _ _ (e22 _ _ m12))) ?_
    walk_at "rd"
    refine iteD rfl ?_
    walk_at "rd"
    refine r_eqInts (ns := D') (ms := D') (SqL.inj (e23 _ _ (e22 _ _ m18))) (SqL.inj (e23 _ _ (e22 _ _ m14))) ?_
    rw [decide_eq_true rfl]
    exact q _)
end

def topS (i : Nat) : Stmt := PySem.Challenge.pw_rootspan_k15_parts.main.body.getD i (.Pass ⟨0, 0, 0, 0⟩)
abbrev s_shared : Stmt := topS 5
theorem sc_shared : FnScope ["row", "found", "one", "rest"] ["row"] (defScope s_shared) := ⟨rfl, rfl, rfl, by decide +kernel, rfl, by decide +kernel, by decide +kernel⟩
abbrev s_poly : Stmt := topS 7
theorem sc_poly : FnScope ["row", "size"] ["row"] (defScope s_poly) := ⟨rfl, rfl, rfl, by decide +kernel, rfl, by decide +kernel, by decide +kernel⟩
abbrev s_degree : Stmt := topS 8
theorem sc_degree : FnScope ["P"] ["P"] (defScope s_degree) := ⟨rfl, rfl, rfl, by decide +kernel, rfl, by decide +kernel, by decide +kernel⟩
abbrev s_shrunk : Stmt := topS 9
theorem sc_shrunk : FnScope ["P", "part", "one"] ["P"] (defScope s_shrunk) := ⟨rfl, rfl, rfl, by decide +kernel, rfl, by decide +kernel, by decide +kernel⟩
abbrev s_plain : Stmt := topS 10
theorem sc_plain : FnScope ["P", "row", "one"] ["P"] (defScope s_plain) := ⟨rfl, rfl, rfl, by decide +kernel, rfl, by decide +kernel, by decide +kernel⟩
abbrev s_divided : Stmt := topS 12
theorem sc_divided : FnScope ["P", "Q", "gap", "factor", "k", "rest", "one", "quotient", "many", "place"] ["P", "Q"] (defScope s_divided) := ⟨rfl, rfl, rfl, by decide +kernel, rfl, by decide +kernel, by decide +kernel⟩
abbrev s_part : Stmt := topS 14
theorem sc_part : FnScope ["P", "Q", "found"] ["P", "Q"] (defScope s_part) := ⟨rfl, rfl, rfl, by decide +kernel, rfl, by decide +kernel, by decide +kernel⟩
abbrev s__law_cell_at : Stmt := topS 16
theorem sc__law_cell_at : FnScope ["_law_script", "_law_k"] ["_law_script", "_law_k"] (defScope s__law_cell_at) := ⟨rfl, rfl, rfl, by decide +kernel, rfl, by decide +kernel, by decide +kernel⟩
abbrev s__law_whole : Stmt := topS 17
theorem sc__law_whole : FnScope ["_law_found"] ["_law_found"] (defScope s__law_whole) := ⟨rfl, rfl, rfl, by decide +kernel, rfl, by decide +kernel, by decide +kernel⟩
abbrev s__law_within : Stmt := topS 18
theorem sc__law_within : FnScope ["_law_cell", "_law_most"] ["_law_cell", "_law_most"] (defScope s__law_within) := ⟨rfl, rfl, rfl, by decide +kernel, rfl, by decide +kernel, by decide +kernel⟩
abbrev s__law_trim : Stmt := topS 19
theorem sc__law_trim : FnScope ["_law_row", "_law_size"] ["_law_row"] (defScope s__law_trim) := ⟨rfl, rfl, rfl, by decide +kernel, rfl, by decide +kernel, by decide +kernel⟩
abbrev s__law_mul : Stmt := topS 20
theorem sc__law_mul : FnScope ["_law_kp", "_law_kq", "_law_made", "_law_k", "_law_i", "_law_one", "_law_j", "_law_other"] ["_law_kp", "_law_kq"] (defScope s__law_mul) := ⟨rfl, rfl, rfl, by decide +kernel, rfl, by decide +kernel, by decide +kernel⟩
abbrev s__law_add : Stmt := topS 21
theorem sc__law_add : FnScope ["_law_kp", "_law_kq", "_law_made", "_law_k"] ["_law_kp", "_law_kq"] (defScope s__law_add) := ⟨rfl, rfl, rfl, by decide +kernel, rfl, by decide +kernel, by decide +kernel⟩
abbrev s__law_is_poly : Stmt := topS 22
theorem sc__law_is_poly : FnScope ["_law_found", "_law_one"] ["_law_found"] (defScope s__law_is_poly) := ⟨rfl, rfl, rfl, by decide +kernel, rfl, by decide +kernel, by decide +kernel⟩
abbrev s__law_gcd : Stmt := topS 23
theorem sc__law_gcd : FnScope ["_law_a", "_law_b", "_law_rest"] ["_law_a", "_law_b"] (defScope s__law_gcd) := ⟨rfl, rfl, rfl, by decide +kernel, rfl, by decide +kernel, by decide +kernel⟩
abbrev s__law_shrunk : Stmt := topS 24
theorem sc__law_shrunk : FnScope ["_law_kp", "_law_most", "_law_one"] ["_law_kp"] (defScope s__law_shrunk) := ⟨rfl, rfl, rfl, by decide +kernel, rfl, by decide +kernel, by decide +kernel⟩
abbrev s__law_plain : Stmt := topS 25
theorem sc__law_plain : FnScope ["_law_kp", "_law_made", "_law_one"] ["_law_kp"] (defScope s__law_plain) := ⟨rfl, rfl, rfl, by decide +kernel, rfl, by decide +kernel, by decide +kernel⟩
abbrev s__law_nonzero : Stmt := topS 26
theorem sc__law_nonzero : FnScope ["_law_cell", "_law_most"] ["_law_cell", "_law_most"] (defScope s__law_nonzero) := ⟨rfl, rfl, rfl, by decide +kernel, rfl, by decide +kernel, by decide +kernel⟩
abbrev s__law_refused : Stmt := topS 27
theorem sc__law_refused : FnScope ["_law_kp", "_law_kq", "_law_told", "e", "_law_based"] ["_law_kp", "_law_kq"] (defScope s__law_refused) := ⟨rfl, rfl, rfl, by decide +kernel, rfl, by decide +kernel, by decide +kernel⟩
abbrev s_law : Stmt := topS 28
theorem sc_law : FnScope ["_law_script", "_law_first", "_law_most", "_law_way", "_law_kq", "_law_k", "_law_ka", "_law_cell", "_law_kr", "_law_kp", "_law_handed", "_law_other", "_law_found", "_law_again"] ["_law_script"] (defScope s_law) := ⟨rfl, rfl, rfl, by decide +kernel, rfl, by decide +kernel, by decide +kernel⟩
structure Txt (K : PySem.W.Frag) (mg : Str → Option Value) (Cof : String → Addr) (ad : Nat → Addr) (fd : Nat → FuncData) : Prop where
  z_ValueError : mg "ValueError" = none
  z_abs : mg "abs" = none
  z_bool : mg "bool" = none
  z_enumerate : mg "enumerate" = none
  z_int : mg "int" = none
  z_isinstance : mg "isinstance" = none
  z_len : mg "len" = none
  z_list : mg "list" = none
  z_max : mg "max" = none
  z_range : mg "range" = none
  z_reversed : mg "reversed" = none
  g_shared : mg "shared" = some (.ref (ad 0))
  F_shared : Fun K "shared" "shared" s_shared (ad 0) (fd 0)
  g_poly : mg "poly" = some (.ref (ad 1))
  F_poly : Fun K "poly" "poly" s_poly (ad 1) (fd 1)
  g_degree : mg "degree" = some (.ref (ad 2))
  F_degree : Fun K "degree" "degree" s_degree (ad 2) (fd 2)
  g_shrunk : mg "shrunk" = some (.ref (ad 3))
  F_shrunk : Fun K "shrunk" "shrunk" s_shrunk (ad 3) (fd 3)
  g_plain : mg "plain" = some (.ref (ad 4))
  F_plain : Fun K "plain" "plain" s_plain (ad 4) (fd 4)
  g_divided : mg "divided" = some (.ref (ad 5))
  F_divided : Fun K "divided" "divided" s_divided (ad 5) (fd 5)
  g_part : mg "part" = some (.ref (ad 6))
  F_part : Fun K "part" "part" s_part (ad 6) (fd 6)
  g__law_cell_at : mg "_law_cell_at" = some (.ref (ad 7))
  F__law_cell_at : Fun K "_law_cell_at" "_law_cell_at" s__law_cell_at (ad 7) (fd 7)
  g__law_whole : mg "_law_whole" = some (.ref (ad 8))
  F__law_whole : Fun K "_law_whole" "_law_whole" s__law_whole (ad 8) (fd 8)
  g__law_within : mg "_law_within" = some (.ref (ad 9))
  F__law_within : Fun K "_law_within" "_law_within" s__law_within (ad 9) (fd 9)
  g__law_trim : mg "_law_trim" = some (.ref (ad 10))
  F__law_trim : Fun K "_law_trim" "_law_trim" s__law_trim (ad 10) (fd 10)
  g__law_mul : mg "_law_mul" = some (.ref (ad 11))
  F__law_mul : Fun K "_law_mul" "_law_mul" s__law_mul (ad 11) (fd 11)
  g__law_add : mg "_law_add" = some (.ref (ad 12))
  F__law_add : Fun K "_law_add" "_law_add" s__law_add (ad 12) (fd 12)
  g__law_is_poly : mg "_law_is_poly" = some (.ref (ad 13))
  F__law_is_poly : Fun K "_law_is_poly" "_law_is_poly" s__law_is_poly (ad 13) (fd 13)
  g__law_gcd : mg "_law_gcd" = some (.ref (ad 14))
  F__law_gcd : Fun K "_law_gcd" "_law_gcd" s__law_gcd (ad 14) (fd 14)
  g__law_shrunk : mg "_law_shrunk" = some (.ref (ad 15))
  F__law_shrunk : Fun K "_law_shrunk" "_law_shrunk" s__law_shrunk (ad 15) (fd 15)
  g__law_plain : mg "_law_plain" = some (.ref (ad 16))
  F__law_plain : Fun K "_law_plain" "_law_plain" s__law_plain (ad 16) (fd 16)
  g__law_nonzero : mg "_law_nonzero" = some (.ref (ad 17))
  F__law_nonzero : Fun K "_law_nonzero" "_law_nonzero" s__law_nonzero (ad 17) (fd 17)
  g__law_refused : mg "_law_refused" = some (.ref (ad 18))
  F__law_refused : Fun K "_law_refused" "_law_refused" s__law_refused (ad 18) (fd 18)
  g_law : mg "law" = some (.ref (ad 19))
  F_law : Fun K "law" "law" s_law (ad 19) (fd 19)
  q_RootError : mg "RootError" = some (.ref (Cof "RootError"))
  e_RootError : OwnE K mg "RootError" (Cof "RootError")
  q_ByNought : mg "ByNought" = some (.ref (Cof "ByNought"))
  e_ByNought : OwnE K mg "ByNought" (Cof "ByNought")
  q_NoPart : mg "NoPart" = some (.ref (Cof "NoPart"))
  e_NoPart : OwnE K mg "NoPart" (Cof "NoPart")
  ex : ExT K Cof
section
variable {P : Program} {w : World} {K : PySem.W.Frag} {mg : Str → Option Value} {base : Heap} {Cof : String → Addr} {ad : Nat → Addr} {fd : Nat → FuncData}
theorem B_shared (T : Txt K mg Cof ad fd) : Binds K (fd 0) ["row"] [] := T.F_shared.binds (ps := ["row"]) fun _ _ _ _ _ _ us hl => match us, hl with | [_], _ => rfl
theorem B_poly (T : Txt K mg Cof ad fd) : Binds K (fd 1) ["row"] [] := T.F_poly.binds (ps := ["row"]) fun _ _ _ _ _ _ us hl => match us, hl with | [_], _ => rfl
theorem B_degree (T : Txt K mg Cof ad fd) : Binds K (fd 2) ["P"] [] := T.F_degree.binds (ps := ["P"]) fun _ _ _ _ _ _ us hl => match us, hl with | [_], _ => rfl
theorem B_shrunk (T : Txt K mg Cof ad fd) : Binds K (fd 3) ["P"] [] := T.F_shrunk.binds (ps := ["P"]) fun _ _ _ _ _ _ us hl => match us, hl with | [_], _ => rfl
theorem B_plain (T : Txt K mg Cof ad fd) : Binds K (fd 4) ["P"] [] := T.F_plain.binds (ps := ["P"]) fun _ _ _ _ _ _ us hl => match us, hl with | [_], _ => rfl
theorem B_divided (T : Txt K mg Cof ad fd) : Binds K (fd 5) ["P", "Q"] [] := T.F_divided.binds (ps := ["P", "Q"]) fun _ _ _ _ _ _ us hl => match us, hl with | [_, _], _ => rfl
theorem B_part (T : Txt K mg Cof ad fd) : Binds K (fd 6) ["P", "Q"] [] := T.F_part.binds (ps := ["P", "Q"]) fun _ _ _ _ _ _ us hl => match us, hl with | [_, _], _ => rfl
theorem B__law_cell_at (T : Txt K mg Cof ad fd) : Binds K (fd 7) ["_law_script", "_law_k"] [] := T.F__law_cell_at.binds (ps := ["_law_script", "_law_k"]) fun _ _ _ _ _ _ us hl => match us, hl with | [_, _], _ => rfl
theorem B__law_whole (T : Txt K mg Cof ad fd) : Binds K (fd 8) ["_law_found"] [] := T.F__law_whole.binds (ps := ["_law_found"]) fun _ _ _ _ _ _ us hl => match us, hl with | [_], _ => rfl
theorem B__law_within (T : Txt K mg Cof ad fd) : Binds K (fd 9) ["_law_cell", "_law_most"] [] := T.F__law_within.binds (ps := ["_law_cell", "_law_most"]) fun _ _ _ _ _ _ us hl => match us, hl with | [_, _], _ => rfl
theorem B__law_trim (T : Txt K mg Cof ad fd) : Binds K (fd 10) ["_law_row"] [] := T.F__law_trim.binds (ps := ["_law_row"]) fun _ _ _ _ _ _ us hl => match us, hl with | [_], _ => rfl
theorem B__law_mul (T : Txt K mg Cof ad fd) : Binds K (fd 11) ["_law_kp", "_law_kq"] [] := T.F__law_mul.binds (ps := ["_law_kp", "_law_kq"]) fun _ _ _ _ _ _ us hl => match us, hl with | [_, _], _ => rfl
theorem B__law_add (T : Txt K mg Cof ad fd) : Binds K (fd 12) ["_law_kp", "_law_kq"] [] := T.F__law_add.binds (ps := ["_law_kp", "_law_kq"]) fun _ _ _ _ _ _ us hl => match us, hl with | [_, _], _ => rfl
theorem B__law_is_poly (T : Txt K mg Cof ad fd) : Binds K (fd 13) ["_law_found"] [] := T.F__law_is_poly.binds (ps := ["_law_found"]) fun _ _ _ _ _ _ us hl => match us, hl with | [_], _ => rfl
theorem B__law_gcd (T : Txt K mg Cof ad fd) : Binds K (fd 14) ["_law_a", "_law_b"] [] := T.F__law_gcd.binds (ps := ["_law_a", "_law_b"]) fun _ _ _ _ _ _ us hl => match us, hl with | [_, _], _ => rfl
theorem B__law_shrunk (T : Txt K mg Cof ad fd) : Binds K (fd 15) ["_law_kp"] [] := T.F__law_shrunk.binds (ps := ["_law_kp"]) fun _ _ _ _ _ _ us hl => match us, hl with | [_], _ => rfl
theorem B__law_plain (T : Txt K mg Cof ad fd) : Binds K (fd 16) ["_law_kp"] [] := T.F__law_plain.binds (ps := ["_law_kp"]) fun _ _ _ _ _ _ us hl => match us, hl with | [_], _ => rfl
theorem B__law_nonzero (T : Txt K mg Cof ad fd) : Binds K (fd 17) ["_law_cell", "_law_most"] [] := T.F__law_nonzero.binds (ps := ["_law_cell", "_law_most"]) fun _ _ _ _ _ _ us hl => match us, hl with | [_, _], _ => rfl
theorem B__law_refused (T : Txt K mg Cof ad fd) : Binds K (fd 18) ["_law_kp", "_law_kq"] [] := T.F__law_refused.binds (ps := ["_law_kp", "_law_kq"]) fun _ _ _ _ _ _ us hl => match us, hl with | [_, _], _ => rfl
theorem B_law (T : Txt K mg Cof ad fd) : Binds K (fd 19) ["_law_script"] [] := T.F_law.binds (ps := ["_law_script"]) fun _ _ _ _ _ _ us hl => match us, hl with | [_], _ => rfl
theorem ok_shared (T : Txt K mg Cof ad fd) : FnOk P w K mg base CX0 1 (ad 0) (fd 0) ["row"] (sp_shared K Cof) := by
  have nd := sc_shared.nd
  refine T.F_shared.ok sc_shared (fun vs H Q E h => len_shared h) (fun cdv A outer s H vs Q E hr h => ⟨t_shared K Cof E, ?_, rd_shared h⟩)
  exact pss_cons (ps_set (i := 1) nd rfl (by first | exact Or.inl rfl | exact Or.inr rfl) (pe_int))
       (pss_cons (ps_for PassesOwn.never rfl (pi_list (pv 0)) (pg_name (i := 2) nd rfl (by first | exact Or.inl rfl | exact Or.inr rfl)) (pss_one (ps_while PassesOwn.never (pt_cmpR op_ne (pv 2) (pe_int) (nomark _)) (pss_cons (ps_set (i := 3) nd rfl (by first | exact Or.inl rfl | exact Or.inr rfl) (pe_op op_modN (pv 1) (pv 2)))
       (pss_cons (ps_set (i := 1) nd rfl (by first | exact Or.inl rfl | exact Or.inr rfl) (pv 2))
       (pss_one (ps_set (i := 2) nd rfl (by first | exact Or.inl rfl | exact Or.inr rfl) (pv 3))))))))
       (pss_one (ps_ret (pe_callB call_abs (by rfl) T.z_abs (by decide +kernel) (pa_cons (pv 1) (pa_nil))))))
theorem ok_poly (T : Txt K mg Cof ad fd) : FnOk P w K mg base CX0 1 (ad 1) (fd 1) ["row"] (sp_poly K Cof) := by
  have nd := sc_poly.nd
  refine T.F_poly.ok sc_poly (fun vs H Q E h => len_poly h) (fun cdv A outer s H vs Q E hr h => ⟨t_poly K Cof E, ?_, rd_poly h⟩)
  exact pss_cons (ps_set (i := 1) nd rfl (by first | exact Or.inl rfl | exact Or.inr rfl) (pe_callB call_len_seq (by rfl) T.z_len (by decide +kernel) (pa_cons (pv 0) (pa_nil))))
       (pss_cons (ps_while PassesOwn.never (PW.pt (pw_and (pt_cmpR op_gt (pv 1) (pe_int) (nomark _)) (pw_and1 (pt_cmpR op_eq (pe_ix ix_list (pv 0) (pe_op op_sub (pv 1) (pe_int)) (fun _ _ => rfl)) (pe_int) (nomark _))))) (pss_one (ps_set (i := 1) nd rfl (by first | exact Or.inl rfl | exact Or.inr rfl) (pe_op op_sub (pv 1) (pe_int)))))
       (pss_one (ps_ret (pe_slice sl_list (pv 0) (po_none) (po_some (pv 1))))))
theorem ok_degree (T : Txt K mg Cof ad fd) : FnOk P w K mg base CX0 1 (ad 2) (fd 2) ["P"] (sp_degree K Cof) := by
  have nd := sc_degree.nd
  refine T.F_degree.ok sc_degree (fun vs H Q E h => len_degree h) (fun cdv A outer s H vs Q E hr h => ⟨t_degree K Cof E, ?_, rd_degree h⟩)
  exact pss_one (ps_ret (pe_op op_sub (pe_callB call_len_seq (by rfl) T.z_len (by decide +kernel) (pa_cons (pv 0) (pa_nil))) (pe_int)))
theorem ok_shrunk (T : Txt K mg Cof ad fd) : FnOk P w K mg base CX0 2 (ad 3) (fd 3) ["P"] (sp_shrunk K Cof) := by
  have G_shared := ok_shared (P := P) (w := w) (base := base) T
  have B_shared := B_shared T
  have nd := sc_shrunk.nd
  refine T.F_shrunk.ok sc_shrunk (fun vs H Q E h => len_shrunk h) (fun cdv A outer s H vs Q E hr h => ⟨t_shrunk K Cof E, ?_, rd_shrunk h⟩)
  exact pss_cons (ps_set (i := 1) nd rfl (by first | exact Or.inl rfl | exact Or.inr rfl) (pe_call G_shared (hr.mono (by decide)) (by rfl) T.g_shared T.F_shared.kp B_shared .nil pass0 (pa_cons (pv 0) (pa_nil))))
       (pss_one (ps_ret (pe_lc (own := [("one", 2)]) (by rfl) nd (pi_list (pv 0)) (blkOk_by (own := [("one", 2)]) (N := ["P", "part", "one"]) (sc := defScope s_shrunk) (by decide +kernel)) (fun _ _ _ _ _ => pg_name (i := 2) nd rfl (by first | exact Or.inl rfl | exact Or.inr rfl)) (fun _ _ _ _ _ => pts_nil) (fun _ _ _ _ _ => pe_op op_fdivA (pv 2) (pv 1)))))
theorem ok_plain (T : Txt K mg Cof ad fd) : FnOk P w K mg base CX0 3 (ad 4) (fd 4) ["P"] (sp_plain K Cof) := by
  have G_shrunk := ok_shrunk (P := P) (w := w) (base := base) T
  have B_shrunk := B_shrunk T
  have nd := sc_plain.nd
  refine T.F_plain.ok sc_plain (fun vs H Q E h => len_plain h) (fun cdv A outer s H vs Q E hr h => ⟨t_plain K Cof E, ?_, rd_plain h⟩)
  exact pss_cons (ps_set (i := 1) nd rfl (by first | exact Or.inl rfl | exact Or.inr rfl) (pe_call G_shrunk (hr.mono (by decide)) (by rfl) T.g_shrunk T.F_shrunk.kp B_shrunk .nil pass0 (pa_cons (pv 0) (pa_nil))))
       (pss_cons (ps_if (PW.pt (pw_and (pt_tru (pv 1)) (pw_and1 (pt_cmpR op_lt (pe_ix ix_list (pv 1) (pe_un un_neg (pe_int)) (fun _ _ => rfl)) (pe_int) (nomark _))))) (pss_one (ps_ret (pe_lc (own := [("one", 2)]) (by rfl) nd (pi_list (pv 1)) (blkOk_by (own := [("one", 2)]) (N := ["P", "row", "one"]) (sc := defScope s_plain) (by decide +kernel)) (fun _ _ _ _ _ => pg_name (i := 2) nd rfl (by first | exact Or.inl rfl | exact Or.inr rfl)) (fun _ _ _ _ _ => pts_nil) (fun _ _ _ _ _ => pe_un un_neg (pv 2))))) (pss_nil))
       (pss_one (ps_ret (pv 1))))
theorem ok_divided (T : Txt K mg Cof ad fd) : FnOk P w K mg base (L2.CX P w) 2 (ad 5) (fd 5) ["P", "Q"] (sp_divided K Cof) := by
  have G_degree := ok_degree (P := P) (w := w) (base := base) T
  have B_degree := B_degree T
  have G_poly := ok_poly (P := P) (w := w) (base := base) T
  have B_poly := B_poly T
  have nd := sc_divided.nd
  refine T.F_divided.okX sc_divided (fun vs H Q E h => len_divided h) (fun cdv A outer s H vs Q E hr h => ⟨t_divided K Cof E, ?_, rd_divided h⟩)
  exact pss_cons (ps_if (pt_cmpR (op_eqD hr.units) (pv 1) (pe_lst (pa_nil)) (nomark _)) (pss_one (ps_rz (W := fun cls d _ H => E cls d H) T.e_ByNought rfl (takes_of rfl rfl rfl rfl) (by exact rfl))) (pss_nil))
       (pss_cons (ps_set (i := 2) nd rfl (by first | exact Or.inl rfl | exact Or.inr rfl) (pe_op op_sub (pe_call G_degree (hr.mono (by decide)) (by rfl) T.g_degree T.F_degree.kp B_degree .nil pass0 (pa_cons (pv 0) (pa_nil))) (pe_call G_degree (hr.mono (by decide)) (by rfl) T.g_degree T.F_degree.kp B_degree .nil pass0 (pa_cons (pv 1) (pa_nil)))))
       (pss_cons (ps_if (pt_cmpR op_lt (pv 2) (pe_int) (nomark _)) (pss_one (ps_ret (pe_tup (pa_cons (pe_int) (pa_cons (pe_lst (pa_nil)) (pa_cons (pe_callTy call_list_of (by rfl) T.z_list (by decide +kernel) (pa_cons (pv 0) (pa_nil))) (pa_nil))))))) (pss_nil))
       (pss_cons (ps_set (i := 3) nd rfl (by first | exact Or.inl rfl | exact Or.inr rfl) (pe_int))
       (pss_cons (ps_for (passes_of rfl) rfl (pi_range1 (by rfl) T.z_range (pa_cons (pe_op op_add (pv 2) (pe_int)) (pa_nil))) (pg_name (i := 4) nd rfl (by first | exact Or.inl rfl | exact Or.inr rfl)) (pss_one (ps_set (i := 3) nd rfl (by first | exact Or.inl rfl | exact Or.inr rfl) (pe_op op_mulW (pv 3) (pe_callB call_abs (by rfl) T.z_abs (by decide +kernel) (pa_cons (pe_ix ix_list (pv 1) (pe_un un_neg (pe_int)) (fun _ _ => rfl)) (pa_nil)))))))
       (pss_cons (ps_setLc (i := 5) (own := [("one", 6)]) (by rfl) nd rfl rfl (sw_true rfl rfl rfl (by decide +kernel)) (pi_list (pv 0)) (blkOk_by (own := [("one", 6)]) (N := ["P", "Q", "gap", "factor", "k", "rest", "one", "quotient", "many", "place"]) (sc := defScope s_divided) (by decide +kernel)) (fun _ _ _ _ _ => pg_name (i := 6) nd rfl (by first | exact Or.inl rfl | exact Or.inr rfl)) (fun _ _ _ _ _ => pts_nil) (fun _ _ _ _ _ => pe_op op_mulW (pv 6) (pv 3)))
       (pss_cons (ps_setLc (i := 7) (own := [("k", 4)]) (by rfl) nd rfl rfl (sw_true rfl rfl rfl (by decide +kernel)) (pi_range1 (by rfl) T.z_range (pa_cons (pe_op op_add (pv 2) (pe_int)) (pa_nil))) (blkOk_by (own := [("k", 4)]) (N := ["P", "Q", "gap", "factor", "k", "rest", "one", "quotient", "many", "place"]) (sc := defScope s_divided) (by decide +kernel)) (fun _ _ _ _ _ => pg_name (i := 4) nd rfl (by first | exact Or.inl rfl | exact Or.inr rfl)) (fun _ _ _ _ _ => pts_nil) (fun _ _ _ _ _ => pe_int))
       (pss_cons (ps_for (passes_of rfl) rfl (pi_revR (by rfl) T.z_reversed (prg_1 (by rfl) T.z_range (pe_op op_add (pv 2) (pe_int)))) (pg_name (i := 4) nd rfl (by first | exact Or.inl rfl | exact Or.inr rfl)) (pss_cons (ps_set (i := 8) nd rfl (by first | exact Or.inl rfl | exact Or.inr rfl) (pe_op op_fdivA (pe_ix ix_list (pv 5) (pe_op op_add (pv 4) (pe_call G_degree (hr.mono (by decide)) (by rfl) T.g_degree T.F_degree.kp B_degree .nil pass0 (pa_cons (pv 1) (pa_nil)))) (fun _ _ => rfl)) (pe_ix ix_list (pv 1) (pe_un un_neg (pe_int)) (fun _ _ => rfl))))
       (pss_cons (ps_asg (pv 8) (pg_sub (pv 7) (pv 4) set_list))
       (pss_one (ps_for (passes_of rfl) rfl (pi_enum (by rfl) T.z_enumerate (pa_cons (pv 1) (pa_nil))) (pg_tup rfl (pgs_cons (pg_name (i := 9) nd rfl (by first | exact Or.inl rfl | exact Or.inr rfl)) (pgs_cons (pg_name (i := 6) nd rfl (by first | exact Or.inl rfl | exact Or.inr rfl)) (pgs_nil)))) (pss_one (ps_asg (pe_op op_sub (pe_ix ix_list (pv 5) (pe_op op_add (pv 4) (pv 9)) (fun _ _ => rfl)) (pe_op op_mulW (pv 8) (pv 6))) (pg_sub (pv 5) (pe_op op_add (pv 4) (pv 9)) set_list))))))))
       (pss_one (ps_ret (pe_tup (pa_cons (pv 3) (pa_cons (pe_call G_poly (hr.mono (by decide)) (by rfl) T.g_poly T.F_poly.kp B_poly .nil pass0 (pa_cons (pv 7) (pa_nil))) (pa_cons (pe_call G_poly (hr.mono (by decide)) (by rfl) T.g_poly T.F_poly.kp B_poly .nil pass0 (pa_cons (pv 5) (pa_nil))) (pa_nil))))))))))))))
theorem ok_part (T : Txt K mg Cof ad fd) : FnOk P w K mg base (L2.CX P w) 4 (ad 6) (fd 6) ["P", "Q"] (sp_part K Cof) := by
  have G_divided := ok_divided (P := P) (w := w) (base := base) T
  have B_divided := B_divided T
  have G_plain := ok_plain (P := P) (w := w) (base := base) T
  have B_plain := B_plain T
  have nd := sc_part.nd
  refine T.F_part.okX sc_part (fun vs H Q E h => len_part h) (fun cdv A outer s H vs Q E hr h => ⟨t_part K Cof E, ?_, rd_part h⟩)
  exact pss_cons (ps_set (i := 2) nd rfl (by first | exact Or.inl rfl | exact Or.inr rfl) (pe_call G_divided (hr.mono (by decide)) (by rfl) T.g_divided T.F_divided.kp B_divided .nil (passes_call (takes_of rfl rfl rfl rfl) (fun _ _ _ _ h => h)) (pa_cons (pv 0) (pa_cons (pv 1) (pa_nil)))))
       (pss_cons (ps_if (pt_cmpR (op_neD hr.units) (pe_ix ix_tup (pv 2) (pe_int) (fun _ _ => rfl)) (pe_lst (pa_nil)) (nomark _)) (pss_one (ps_rz (W := fun cls d _ H => E cls d H) T.e_NoPart rfl (takes_of rfl rfl rfl rfl) (by exact rfl))) (pss_nil))
       (pss_one (ps_ret (pe_call G_plain (hr.mono (by decide)) (by rfl) T.g_plain T.F_plain.kp B_plain .nil pass0 (pa_cons (pe_ix ix_tup (pv 2) (pe_int) (fun _ _ => rfl)) (pa_nil))))))
theorem ok__law_cell_at (T : Txt K mg Cof ad fd) : FnOk P w K mg base CX0 1 (ad 7) (fd 7) ["_law_script", "_law_k"] (sp__law_cell_at K Cof) := by
  have nd := sc__law_cell_at.nd
  refine T.F__law_cell_at.ok sc__law_cell_at (fun vs H Q E h => len__law_cell_at h) (fun cdv A outer s H vs Q E hr h => ⟨t__law_cell_at K Cof E, ?_, rd__law_cell_at h⟩)
  exact pss_cons (ps_if (pt_cmpR op_lt (pv 1) (pe_callB call_len_seq (by rfl) T.z_len (by decide +kernel) (pa_cons (pv 0) (pa_nil))) (nomark _)) (pss_one (ps_ret (pe_ix ix_list (pv 0) (pv 1) (fun _ _ => rfl)))) (pss_nil))
       (pss_one (ps_ret (pe_int)))
theorem ok__law_whole (T : Txt K mg Cof ad fd) : FnOk P w K mg base CX0 1 (ad 8) (fd 8) ["_law_found"] (sp__law_whole K Cof) := by
  have nd := sc__law_whole.nd
  refine T.F__law_whole.ok sc__law_whole (fun vs H Q E h => len__law_whole h) (fun cdv A outer s H vs Q E hr h => ⟨t__law_whole K Cof E, ?_, rd__law_whole h⟩)
  exact pss_one (ps_ret (pe_and (pe_callB call_isi (by rfl) T.z_isinstance (by decide +kernel) (pa_cons (pv 0) (pa_cons (pe_bltn (v := .ty "int") (by rfl) T.z_int (by decide +kernel) rfl) (pa_nil)))) (pe_one (pe_not (pe_callB call_isi (by rfl) T.z_isinstance (by decide +kernel) (pa_cons (pv 0) (pa_cons (pe_bltn (v := .ty "bool") (by rfl) T.z_bool (by decide +kernel) rfl) (pa_nil))))))))
theorem ok__law_within (T : Txt K mg Cof ad fd) : FnOk P w K mg base CX0 1 (ad 9) (fd 9) ["_law_cell", "_law_most"] (sp__law_within K Cof) := by
  have nd := sc__law_within.nd
  refine T.F__law_within.ok sc__law_within (fun vs H Q E h => len__law_within h) (fun cdv A outer s H vs Q E hr h => ⟨t__law_within K Cof E, ?_, rd__law_within h⟩)
  exact pss_one (ps_ret (pe_op op_sub (pe_op op_modN (pv 0) (pe_op op_add (pe_op op_mulW (pe_int) (pv 1)) (pe_int))) (pv 1)))
theorem ok__law_trim (T : Txt K mg Cof ad fd) : FnOk P w K mg base CX0 1 (ad 10) (fd 10) ["_law_row"] (sp__law_trim K Cof) := by
  have nd := sc__law_trim.nd
  refine T.F__law_trim.ok sc__law_trim (fun vs H Q E h => len__law_trim h) (fun cdv A outer s H vs Q E hr h => ⟨t__law_trim K Cof E, ?_, rd__law_trim h⟩)
  exact pss_cons (ps_set (i := 1) nd rfl (by first | exact Or.inl rfl | exact Or.inr rfl) (pe_callB call_len_seq (by rfl) T.z_len (by decide +kernel) (pa_cons (pv 0) (pa_nil))))
       (pss_cons (ps_while PassesOwn.never (PW.pt (pw_and (pt_cmpR op_gt (pv 1) (pe_int) (nomark _)) (pw_and1 (pt_cmpR op_eq (pe_ix ix_list (pv 0) (pe_op op_sub (pv 1) (pe_int)) (fun _ _ => rfl)) (pe_int) (nomark _))))) (pss_one (ps_set (i := 1) nd rfl (by first | exact Or.inl rfl | exact Or.inr rfl) (pe_op op_sub (pv 1) (pe_int)))))
       (pss_one (ps_ret (pe_slice sl_list (pv 0) (po_none) (po_some (pv 1))))))
theorem ok__law_mul (T : Txt K mg Cof ad fd) : FnOk P w K mg base CX0 1 (ad 11) (fd 11) ["_law_kp", "_law_kq"] (sp__law_mul K Cof) := by
  have nd := sc__law_mul.nd
  refine T.F__law_mul.ok sc__law_mul (fun vs H Q E h => len__law_mul h) (fun cdv A outer s H vs Q E hr h => ⟨t__law_mul K Cof E, ?_, rd__law_mul h⟩)
  exact pss_cons (ps_if (PW.pt (pw_or (pt_cmpR op_eq (pe_callB call_len_seq (by rfl) T.z_len (by decide +kernel) (pa_cons (pv 0) (pa_nil))) (pe_int) (nomark _)) (pw_or1 (pt_cmpR op_eq (pe_callB call_len_seq (by rfl) T.z_len (by decide +kernel) (pa_cons (pv 1) (pa_nil))) (pe_int) (nomark _))))) (pss_one (ps_ret (pe_lst (pa_nil)))) (pss_nil))
       (pss_cons (ps_setLc (i := 2) (own := [("_law_k", 3)]) (by rfl) nd rfl rfl (sw_true rfl rfl rfl (by decide +kernel)) (pi_range1 (by rfl) T.z_range (pa_cons (pe_op op_sub (pe_op op_add (pe_callB call_len_seq (by rfl) T.z_len (by decide +kernel) (pa_cons (pv 0) (pa_nil))) (pe_callB call_len_seq (by rfl) T.z_len (by decide +kernel) (pa_cons (pv 1) (pa_nil)))) (pe_int)) (pa_nil))) (blkOk_by (own := [("_law_k", 3)]) (N := ["_law_kp", "_law_kq", "_law_made", "_law_k", "_law_i", "_law_one", "_law_j", "_law_other"]) (sc := defScope s__law_mul) (by decide +kernel)) (fun _ _ _ _ _ => pg_name (i := 3) nd rfl (by first | exact Or.inl rfl | exact Or.inr rfl)) (fun _ _ _ _ _ => pts_nil) (fun _ _ _ _ _ => pe_int))
       (pss_cons (ps_for PassesOwn.never rfl (pi_enum (by rfl) T.z_enumerate (pa_cons (pv 0) (pa_nil))) (pg_tup rfl (pgs_cons (pg_name (i := 4) nd rfl (by first | exact Or.inl rfl | exact Or.inr rfl)) (pgs_cons (pg_name (i := 5) nd rfl (by first | exact Or.inl rfl | exact Or.inr rfl)) (pgs_nil)))) (pss_one (ps_for PassesOwn.never rfl (pi_enum (by rfl) T.z_enumerate (pa_cons (pv 1) (pa_nil))) (pg_tup rfl (pgs_cons (pg_name (i := 6) nd rfl (by first | exact Or.inl rfl | exact Or.inr rfl)) (pgs_cons (pg_name (i := 7) nd rfl (by first | exact Or.inl rfl | exact Or.inr rfl)) (pgs_nil)))) (pss_one (ps_asg (pe_op op_add (pe_ix ix_list (pv 2) (pe_op op_add (pv 4) (pv 6)) (fun _ _ => rfl)) (pe_op op_mulW (pv 5) (pv 7))) (pg_sub (pv 2) (pe_op op_add (pv 4) (pv 6)) set_list))))))
       (pss_one (ps_ret (pv 2)))))
theorem ok__law_add (T : Txt K mg Cof ad fd) : FnOk P w K mg base CX0 2 (ad 12) (fd 12) ["_law_kp", "_law_kq"] (sp__law_add K Cof) := by
  have G__law_cell_at := ok__law_cell_at (P := P) (w := w) (base := base) T
  have B__law_cell_at := B__law_cell_at T
  have G__law_trim := ok__law_trim (P := P) (w := w) (base := base) T
  have B__law_trim := B__law_trim T
  have nd := sc__law_add.nd
  refine T.F__law_add.ok sc__law_add (fun vs H Q E h => len__law_add h) (fun cdv A outer s H vs Q E hr h => ⟨t__law_add K Cof E, ?_, rd__law_add h⟩)
  exact pss_cons (ps_set (i := 2) nd rfl (by first | exact Or.inl rfl | exact Or.inr rfl) (pe_lst (pa_nil)))
       (pss_cons (ps_for PassesOwn.never rfl (pi_range1 (by rfl) T.z_range (pa_cons (pe_callB (call_max2 (by rfl)) (by rfl) T.z_max (by decide +kernel) (pa_cons (pe_callB call_len_seq (by rfl) T.z_len (by decide +kernel) (pa_cons (pv 0) (pa_nil))) (pa_cons (pe_callB call_len_seq (by rfl) T.z_len (by decide +kernel) (pa_cons (pv 1) (pa_nil))) (pa_nil)))) (pa_nil))) (pg_name (i := 3) nd rfl (by first | exact Or.inl rfl | exact Or.inr rfl)) (pss_one (ps_expr (pe_bm PySem.F.plainAttrs_list PySem.F.slot_list_append PySem.F.type_list_append mt_append (pv 2) (pa_cons (pe_op op_add (pe_call G__law_cell_at (hr.mono (by decide)) (by rfl) T.g__law_cell_at T.F__law_cell_at.kp B__law_cell_at .nil pass0 (pa_cons (pv 0) (pa_cons (pv 3) (pa_nil)))) (pe_call G__law_cell_at (hr.mono (by decide)) (by rfl) T.g__law_cell_at T.F__law_cell_at.kp B__law_cell_at .nil pass0 (pa_cons (pv 1) (pa_cons (pv 3) (pa_nil))))) (pa_nil))))))
       (pss_one (ps_ret (pe_call G__law_trim (hr.mono (by decide)) (by rfl) T.g__law_trim T.F__law_trim.kp B__law_trim .nil pass0 (pa_cons (pv 2) (pa_nil))))))
theorem ok__law_is_poly (T : Txt K mg Cof ad fd) : FnOk P w K mg base CX0 2 (ad 13) (fd 13) ["_law_found"] (sp__law_is_poly K Cof) := by
  have G__law_whole := ok__law_whole (P := P) (w := w) (base := base) T
  have B__law_whole := B__law_whole T
  have nd := sc__law_is_poly.nd
  refine T.F__law_is_poly.ok sc__law_is_poly (fun vs H Q E h => len__law_is_poly h) (fun cdv A outer s H vs Q E hr h => ⟨t__law_is_poly K Cof E, ?_, rd__law_is_poly h⟩)
  exact pss_cons (ps_if (pt_not (pt_val (pe_callB call_isi (by rfl) T.z_isinstance (by decide +kernel) (pa_cons (pv 0) (pa_cons (pe_bltn (v := .ty "list") (by rfl) T.z_list (by decide +kernel) rfl) (pa_nil)))))) (pss_one (ps_ret (pe_bl))) (pss_nil))
       (pss_cons (ps_for PassesOwn.never rfl (pi_list (pv 0)) (pg_name (i := 1) nd rfl (by first | exact Or.inl rfl | exact Or.inr rfl)) (pss_one (ps_if (pt_not (pt_val (pe_call G__law_whole (hr.mono (by decide)) (by rfl) T.g__law_whole T.F__law_whole.kp B__law_whole .nil pass0 (pa_cons (pv 1) (pa_nil))))) (pss_one (ps_ret (pe_bl))) (pss_nil))))
       (pss_one (ps_ret (pe_or (pe_cmpR op_eq (pe_callB call_len_seq (by rfl) T.z_len (by decide +kernel) (pa_cons (pv 0) (pa_nil))) (pe_int) (nomark _)) (pe_one (pe_cmpR op_ne (pe_ix ix_list (pv 0) (pe_un un_neg (pe_int)) (fun _ _ => rfl)) (pe_int) (nomark _)))))))
theorem ok__law_gcd (T : Txt K mg Cof ad fd) : FnOk P w K mg base CX0 1 (ad 14) (fd 14) ["_law_a", "_law_b"] (sp__law_gcd K Cof) := by
  have nd := sc__law_gcd.nd
  refine T.F__law_gcd.ok sc__law_gcd (fun vs H Q E h => len__law_gcd h) (fun cdv A outer s H vs Q E hr h => ⟨t__law_gcd K Cof E, ?_, rd__law_gcd h⟩)
  exact pss_cons (ps_set (i := 0) nd rfl (by first | exact Or.inl rfl | exact Or.inr rfl) (pe_callB call_abs (by rfl) T.z_abs (by decide +kernel) (pa_cons (pv 0) (pa_nil))))
       (pss_cons (ps_set (i := 1) nd rfl (by first | exact Or.inl rfl | exact Or.inr rfl) (pe_callB call_abs (by rfl) T.z_abs (by decide +kernel) (pa_cons (pv 1) (pa_nil))))
       (pss_cons (ps_while PassesOwn.never (pt_cmpR op_gt (pv 1) (pe_int) (nomark _)) (pss_cons (ps_set (i := 2) nd rfl (by first | exact Or.inl rfl | exact Or.inr rfl) (pe_op op_modN (pv 0) (pv 1)))
       (pss_cons (ps_set (i := 0) nd rfl (by first | exact Or.inl rfl | exact Or.inr rfl) (pv 1))
       (pss_one (ps_set (i := 1) nd rfl (by first | exact Or.inl rfl | exact Or.inr rfl) (pv 2))))))
       (pss_one (ps_ret (pv 0)))))
theorem ok__law_shrunk (T : Txt K mg Cof ad fd) : FnOk P w K mg base CX0 2 (ad 15) (fd 15) ["_law_kp"] (sp__law_shrunk K Cof) := by
  have G__law_gcd := ok__law_gcd (P := P) (w := w) (base := base) T
  have B__law_gcd := B__law_gcd T
  have nd := sc__law_shrunk.nd
  refine T.F__law_shrunk.ok sc__law_shrunk (fun vs H Q E h => len__law_shrunk h) (fun cdv A outer s H vs Q E hr h => ⟨t__law_shrunk K Cof E, ?_, rd__law_shrunk h⟩)
  exact pss_cons (ps_set (i := 1) nd rfl (by first | exact Or.inl rfl | exact Or.inr rfl) (pe_int))
       (pss_cons (ps_for PassesOwn.never rfl (pi_list (pv 0)) (pg_name (i := 2) nd rfl (by first | exact Or.inl rfl | exact Or.inr rfl)) (pss_one (ps_set (i := 1) nd rfl (by first | exact Or.inl rfl | exact Or.inr rfl) (pe_call G__law_gcd (hr.mono (by decide)) (by rfl) T.g__law_gcd T.F__law_gcd.kp B__law_gcd .nil pass0 (pa_cons (pv 1) (pa_cons (pv 2) (pa_nil)))))))
       (pss_cons (ps_if (pt_cmpR op_eq (pv 1) (pe_int) (nomark _)) (pss_one (ps_ret (pe_lst (pa_nil)))) (pss_nil))
       (pss_one (ps_ret (pe_lc (own := [("_law_one", 2)]) (by rfl) nd (pi_list (pv 0)) (blkOk_by (own := [("_law_one", 2)]) (N := ["_law_kp", "_law_most", "_law_one"]) (sc := defScope s__law_shrunk) (by decide +kernel)) (fun _ _ _ _ _ => pg_name (i := 2) nd rfl (by first | exact Or.inl rfl | exact Or.inr rfl)) (fun _ _ _ _ _ => pts_nil) (fun _ _ _ _ _ => pe_op op_fdivA (pv 2) (pv 1)))))))
theorem ok__law_plain (T : Txt K mg Cof ad fd) : FnOk P w K mg base CX0 3 (ad 16) (fd 16) ["_law_kp"] (sp__law_plain K Cof) := by
  have G__law_shrunk := ok__law_shrunk (P := P) (w := w) (base := base) T
  have B__law_shrunk := B__law_shrunk T
  have nd := sc__law_plain.nd
  refine T.F__law_plain.ok sc__law_plain (fun vs H Q E h => len__law_plain h) (fun cdv A outer s H vs Q E hr h => ⟨t__law_plain K Cof E, ?_, rd__law_plain h⟩)
  exact pss_cons (ps_set (i := 1) nd rfl (by first | exact Or.inl rfl | exact Or.inr rfl) (pe_call G__law_shrunk (hr.mono (by decide)) (by rfl) T.g__law_shrunk T.F__law_shrunk.kp B__law_shrunk .nil pass0 (pa_cons (pv 0) (pa_nil))))
       (pss_cons (ps_if (PW.pt (pw_and (pt_cmpR op_gt (pe_callB call_len_seq (by rfl) T.z_len (by decide +kernel) (pa_cons (pv 1) (pa_nil))) (pe_int) (nomark _)) (pw_and1 (pt_cmpR op_lt (pe_ix ix_list (pv 1) (pe_un un_neg (pe_int)) (fun _ _ => rfl)) (pe_int) (nomark _))))) (pss_one (ps_ret (pe_lc (own := [("_law_one", 2)]) (by rfl) nd (pi_list (pv 1)) (blkOk_by (own := [("_law_one", 2)]) (N := ["_law_kp", "_law_made", "_law_one"]) (sc := defScope s__law_plain) (by decide +kernel)) (fun _ _ _ _ _ => pg_name (i := 2) nd rfl (by first | exact Or.inl rfl | exact Or.inr rfl)) (fun _ _ _ _ _ => pts_nil) (fun _ _ _ _ _ => pe_op op_sub (pe_int) (pv 2))))) (pss_nil))
       (pss_one (ps_ret (pv 1))))
theorem ok__law_nonzero (T : Txt K mg Cof ad fd) : FnOk P w K mg base CX0 1 (ad 17) (fd 17) ["_law_cell", "_law_most"] (sp__law_nonzero K Cof) := by
  have nd := sc__law_nonzero.nd
  refine T.F__law_nonzero.ok sc__law_nonzero (fun vs H Q E h => len__law_nonzero h) (fun cdv A outer s H vs Q E hr h => ⟨t__law_nonzero K Cof E, ?_, rd__law_nonzero h⟩)
  exact pss_one (ps_ret (pe_op op_mulW (pe_op op_add (pe_int) (pe_op op_modN (pe_op op_fdivA (pv 0) (pe_int)) (pv 1))) (pe_op op_sub (pe_int) (pe_op op_mulW (pe_int) (pe_op op_modN (pv 0) (pe_int))))))
theorem ok__law_refused (T : Txt K mg Cof ad fd) : FnOk P w K mg base CX0 5 (ad 18) (fd 18) ["_law_kp", "_law_kq"] (sp__law_refused K Cof) := by
  have G_part := ok_part (P := P) (w := w) (base := base) T
  have B_part := B_part T
  have nd := sc__law_refused.nd
  refine T.F__law_refused.ok sc__law_refused (fun vs H Q E h => len__law_refused h) (fun cdv A outer s H vs Q E hr h => ⟨t__law_refused K Cof E, ?_, rd__law_refused T.ex h⟩)
  exact pss_cons (ps_set (i := 2) nd rfl (by first | exact Or.inl rfl | exact Or.inr rfl) (pe_str))
       (pss_cons (ps_try_cl (tb := fun W => tDrop (tCallS (sp_part K Cof) (WE W) (tCons (tVar 0) (tCons (tVar 1) (tNil))))) (l := [((.ref (Cof "NoPart"), 3, fun a cls d => tSeq (tAsg (tAndV (tCB (rIsX K a cls d) (tCons (tVar 3) (tCons (tC (.ref (Cof "RootError"))) (tNil)))) (tCB (rIsX K a cls d) (tCons (tVar 3) (tCons (tC (.ty "ValueError")) (tNil))))) (gName 4))
       (tAsg (tOp (rIxL K) (tLst (tCons (tC (.str "")) (tCons (tC (.str "no part")) (tNil)))) (tCB rInt1 (tCons (tAndV (tVar 4) (tNotV (tCB (rIsX K a cls d) (tCons (tVar 3) (tCons (tC (.ref (Cof "ByNought"))) (tNil)))))) (tNil)))) (gName 2))) : Cl), ((.ref (Cof "ByNought"), 3, fun a cls d => tAsg (tOp (rIxL K) (tLst (tCons (tC (.str "")) (tCons (tC (.str "by nought")) (tNil)))) (tCB rInt1 (tCons (tAndV (tCB (rIsX K a cls d) (tCons (tVar 3) (tCons (tC (.ref (Cof "RootError"))) (tNil)))) (tCB (rIsX K a cls d) (tCons (tVar 3) (tCons (tC (.ty "ValueError")) (tNil))))) (tNil)))) (gName 2)) : Cl)]) (Wout := fun _ _ _ _ => False) rfl rfl nd takes0 (fun W pn xe tk hpo => pss_one (ps_expr (pe_callS G_part (hr.mono (by decide)) (by rfl) T.g_part T.F_part.kp B_part (fun σ => passAt tk σ) (pa_cons (pv 0) (pa_cons (pv 1) (pa_nil)))))) (.cons (ts := fun a cls d => tSeq (tAsg (tAndV (tCB (rIsX K a cls d) (tCons (tVar 3) (tCons (tC (.ref (Cof "RootError"))) (tNil)))) (tCB (rIsX K a cls d) (tCons (tVar 3) (tCons (tC (.ty "ValueError")) (tNil))))) (gName 4))
       (tAsg (tOp (rIxL K) (tLst (tCons (tC (.str "")) (tCons (tC (.str "no part")) (tNil)))) (tCB rInt1 (tCons (tAndV (tVar 4) (tNotV (tCB (rIsX K a cls d) (tCons (tVar 3) (tCons (tC (.ref (Cof "ByNought"))) (tNil)))))) (tNil)))) (gName 2))) rfl rfl ⟨rfl, by decide, Or.inl T.q_NoPart⟩ (fun a oe cls d pn hz hf => pss_cons (ps_set (i := 4) nd rfl (by first | exact Or.inl rfl | exact Or.inr rfl) (pe_and (pe_callB (call_isX hz hf) (by rfl) T.z_isinstance (by decide +kernel) (pa_cons (pv 3) (pa_cons (pe_glob (by rfl) T.q_RootError rfl) (pa_nil)))) (pe_one (pe_callB (call_isX hz hf) (by rfl) T.z_isinstance (by decide +kernel) (pa_cons (pv 3) (pa_cons (pe_bltn (v := .ty "ValueError") (by rfl) T.z_ValueError (by decide +kernel) rfl) (pa_nil)))))))
       (pss_one (ps_set (i := 2) nd rfl (by first | exact Or.inl rfl | exact Or.inr rfl) (pe_ix ix_list (pe_lst (pa_cons (pe_str) (pa_cons (pe_str) (pa_nil)))) (pe_callTy call_int1 (by rfl) T.z_int (by decide +kernel) (pa_cons (pe_and (pv 4) (pe_one (pe_not (pe_callB (call_isX hz hf) (by rfl) T.z_isinstance (by decide +kernel) (pa_cons (pv 3) (pa_cons (pe_glob (by rfl) T.q_ByNought rfl) (pa_nil))))))) (pa_nil))) (fun _ _ => rfl))))) (.cons (ts := fun a cls d => tAsg (tOp (rIxL K) (tLst (tCons (tC (.str "")) (tCons (tC (.str "by nought")) (tNil)))) (tCB rInt1 (tCons (tAndV (tCB (rIsX K a cls d) (tCons (tVar 3) (tCons (tC (.ref (Cof "RootError"))) (tNil)))) (tCB (rIsX K a cls d) (tCons (tVar 3) (tCons (tC (.ty "ValueError")) (tNil))))) (tNil)))) (gName 2)) rfl rfl ⟨rfl, by decide, Or.inl T.q_ByNought⟩ (fun a oe cls d pn hz hf => pss_one (ps_set (i := 2) nd rfl (by first | exact Or.inl rfl | exact Or.inr rfl) (pe_ix ix_list (pe_lst (pa_cons (pe_str) (pa_cons (pe_str) (pa_nil)))) (pe_callTy call_int1 (by rfl) T.z_int (by decide +kernel) (pa_cons (pe_and (pe_callB (call_isX hz hf) (by rfl) T.z_isinstance (by decide +kernel) (pa_cons (pv 3) (pa_cons (pe_glob (by rfl) T.q_RootError rfl) (pa_nil)))) (pe_one (pe_callB (call_isX hz hf) (by rfl) T.z_isinstance (by decide +kernel) (pa_cons (pv 3) (pa_cons (pe_bltn (v := .ty "ValueError") (by rfl) T.z_ValueError (by decide +kernel) rfl) (pa_nil)))))) (pa_nil))) (fun _ _ => rfl)))) (.nil))))
       (pss_one (ps_ret (pv 2))))
theorem ok_law (T : Txt K mg Cof ad fd) : FnOk P w K mg base CX0 6 (ad 19) (fd 19) ["_law_script"] (sp_law K Cof) := by
  have G__law_add := ok__law_add (P := P) (w := w) (base := base) T
  have B__law_add := B__law_add T
  have G__law_cell_at := ok__law_cell_at (P := P) (w := w) (base := base) T
  have B__law_cell_at := B__law_cell_at T
  have G__law_is_poly := ok__law_is_poly (P := P) (w := w) (base := base) T
  have B__law_is_poly := B__law_is_poly T
  have G__law_mul := ok__law_mul (P := P) (w := w) (base := base) T
  have B__law_mul := B__law_mul T
  have G__law_nonzero := ok__law_nonzero (P := P) (w := w) (base := base) T
  have B__law_nonzero := B__law_nonzero T
  have G__law_plain := ok__law_plain (P := P) (w := w) (base := base) T
  have B__law_plain := B__law_plain T
  have G__law_refused := ok__law_refused (P := P) (w := w) (base := base) T
  have B__law_refused := B__law_refused T
  have G__law_trim := ok__law_trim (P := P) (w := w) (base := base) T
  have B__law_trim := B__law_trim T
  have G__law_within := ok__law_within (P := P) (w := w) (base := base) T
  have B__law_within := B__law_within T
  have G_part := ok_part (P := P) (w := w) (base := base) T
  have B_part := B_part T
  have nd := sc_law.nd
  refine T.F_law.ok sc_law (fun vs H Q E h => len_law h) (fun cdv A outer s H vs Q E hr h => ⟨t_law K Cof E, ?_, rd_law h⟩)
  exact pss_cons (ps_set (i := 1) nd rfl (by first | exact Or.inl rfl | exact Or.inr rfl) (pe_call G__law_cell_at (hr.mono (by decide)) (by rfl) T.g__law_cell_at T.F__law_cell_at.kp B__law_cell_at .nil pass0 (pa_cons (pv 0) (pa_cons (pe_int) (pa_nil)))))
       (pss_cons (ps_set (i := 2) nd rfl (by first | exact Or.inl rfl | exact Or.inr rfl) (pe_ix ix_list (pe_lst (pa_cons (pe_int) (pa_cons (pe_op op_pow (pe_int) (pe_int)) (pa_nil)))) (pe_op op_modN (pv 1) (pe_int)) (fun _ _ => rfl)))
       (pss_cons (ps_set (i := 3) nd rfl (by first | exact Or.inl rfl | exact Or.inr rfl) (pe_op op_modN (pe_op op_fdivA (pv 1) (pe_int)) (pe_int)))
       (pss_cons (ps_set (i := 4) nd rfl (by first | exact Or.inl rfl | exact Or.inr rfl) (pe_call G__law_trim (hr.mono (by decide)) (by rfl) T.g__law_trim T.F__law_trim.kp B__law_trim .nil pass0 (pa_cons (pe_lc (own := [("_law_k", 5)]) (by rfl) nd (pi_range1 (by rfl) T.z_range (pa_cons (pe_op op_add (pe_int) (pe_op op_modN (pe_op op_fdivA (pv 1) (pe_int)) (pe_int))) (pa_nil))) (blkOk_by (own := [("_law_k", 5)]) (N := ["_law_script", "_law_first", "_law_most", "_law_way", "_law_kq", "_law_k", "_law_ka", "_law_cell", "_law_kr", "_law_kp", "_law_handed", "_law_other", "_law_found", "_law_again"]) (sc := defScope s_law) (by decide +kernel)) (fun _ _ _ _ _ => pg_name (i := 5) nd rfl (by first | exact Or.inl rfl | exact Or.inr rfl)) (fun _ _ _ _ _ => pts_nil) (fun _ _ _ _ _ => pe_call G__law_within (hr.mono (by decide)) (by rfl) T.g__law_within T.F__law_within.kp B__law_within .nil pass0 (pa_cons (pe_call G__law_cell_at (hr.mono (by decide)) (by rfl) T.g__law_cell_at T.F__law_cell_at.kp B__law_cell_at .nil pass0 (pa_cons (pv 0) (pa_cons (pe_op op_add (pe_int) (pv 5)) (pa_nil)))) (pa_cons (pv 2) (pa_nil))))) (pa_nil))))
       (pss_cut (ps_if (pt_cmpR op_eq (pe_callB call_len_seq (by rfl) T.z_len (by decide +kernel) (pa_cons (pv 4) (pa_nil))) (pe_int) (nomark _)) (pss_one (ps_set (i := 4) nd rfl (by first | exact Or.inl rfl | exact Or.inr rfl) (pe_lst (pa_cons (pe_int) (pa_cons (pe_un un_neg (pe_int)) (pa_nil)))))) (pss_nil))
       (pss_cons (ps_set (i := 6) nd rfl (by first | exact Or.inl rfl | exact Or.inr rfl) (pe_call G__law_trim (hr.mono (by decide)) (by rfl) T.g__law_trim T.F__law_trim.kp B__law_trim .nil pass0 (pa_cons (pe_lc (own := [("_law_cell", 7)]) (by rfl) nd (pi_list (pe_slice sl_list (pv 0) (po_some (pe_int)) (po_some (pe_int)))) (blkOk_by (own := [("_law_cell", 7)]) (N := ["_law_script", "_law_first", "_law_most", "_law_way", "_law_kq", "_law_k", "_law_ka", "_law_cell", "_law_kr", "_law_kp", "_law_handed", "_law_other", "_law_found", "_law_again"]) (sc := defScope s_law) (by decide +kernel)) (fun _ _ _ _ _ => pg_name (i := 7) nd rfl (by first | exact Or.inl rfl | exact Or.inr rfl)) (fun _ _ _ _ _ => pts_nil) (fun _ _ _ _ _ => pe_call G__law_within (hr.mono (by decide)) (by rfl) T.g__law_within T.F__law_within.kp B__law_within .nil pass0 (pa_cons (pv 7) (pa_cons (pv 2) (pa_nil))))) (pa_nil))))
       (pss_cons (ps_set (i := 8) nd rfl (by first | exact Or.inl rfl | exact Or.inr rfl) (pe_call G__law_trim (hr.mono (by decide)) (by rfl) T.g__law_trim T.F__law_trim.kp B__law_trim .nil pass0 (pa_cons (pe_lc (own := [("_law_k", 5)]) (by rfl) nd (pi_range1 (by rfl) T.z_range (pa_cons (pe_op op_sub (pe_callB call_len_seq (by rfl) T.z_len (by decide +kernel) (pa_cons (pv 4) (pa_nil))) (pe_int)) (pa_nil))) (blkOk_by (own := [("_law_k", 5)]) (N := ["_law_script", "_law_first", "_law_most", "_law_way", "_law_kq", "_law_k", "_law_ka", "_law_cell", "_law_kr", "_law_kp", "_law_handed", "_law_other", "_law_found", "_law_again"]) (sc := defScope s_law) (by decide +kernel)) (fun _ _ _ _ _ => pg_name (i := 5) nd rfl (by first | exact Or.inl rfl | exact Or.inr rfl)) (fun _ _ _ _ _ => pts_nil) (fun _ _ _ _ _ => pe_call G__law_within (hr.mono (by decide)) (by rfl) T.g__law_within T.F__law_within.kp B__law_within .nil pass0 (pa_cons (pe_call G__law_cell_at (hr.mono (by decide)) (by rfl) T.g__law_cell_at T.F__law_cell_at.kp B__law_cell_at .nil pass0 (pa_cons (pv 0) (pa_cons (pe_op op_add (pe_int) (pv 5)) (pa_nil)))) (pa_cons (pv 2) (pa_nil))))) (pa_nil))))
       (pss_cons (ps_set (i := 9) nd rfl (by first | exact Or.inl rfl | exact Or.inr rfl) (pe_call G__law_mul (hr.mono (by decide)) (by rfl) T.g__law_mul T.F__law_mul.kp B__law_mul .nil pass0 (pa_cons (pe_lst (pa_cons (pe_call G__law_nonzero (hr.mono (by decide)) (by rfl) T.g__law_nonzero T.F__law_nonzero.kp B__law_nonzero .nil pass0 (pa_cons (pe_call G__law_cell_at (hr.mono (by decide)) (by rfl) T.g__law_cell_at T.F__law_cell_at.kp B__law_cell_at .nil pass0 (pa_cons (pv 0) (pa_cons (pe_int) (pa_nil)))) (pa_cons (pv 2) (pa_nil)))) (pa_nil))) (pa_cons (pe_call G__law_mul (hr.mono (by decide)) (by rfl) T.g__law_mul T.F__law_mul.kp B__law_mul .nil pass0 (pa_cons (pv 6) (pa_cons (pv 4) (pa_nil)))) (pa_nil)))))
       (pss_cons (ps_set (i := 4) nd rfl (by first | exact Or.inl rfl | exact Or.inr rfl) (pe_call G__law_mul (hr.mono (by decide)) (by rfl) T.g__law_mul T.F__law_mul.kp B__law_mul .nil pass0 (pa_cons (pe_lst (pa_cons (pe_call G__law_nonzero (hr.mono (by decide)) (by rfl) T.g__law_nonzero T.F__law_nonzero.kp B__law_nonzero .nil pass0 (pa_cons (pe_call G__law_cell_at (hr.mono (by decide)) (by rfl) T.g__law_cell_at T.F__law_cell_at.kp B__law_cell_at .nil pass0 (pa_cons (pv 0) (pa_cons (pe_int) (pa_nil)))) (pa_cons (pv 2) (pa_nil)))) (pa_nil))) (pa_cons (pv 4) (pa_nil)))))
       (pss_cut (ps_if (pt_cmpR op_eq (pv 3) (pe_int) (nomark _)) (pss_one (ps_set (i := 9) nd rfl (by first | exact Or.inl rfl | exact Or.inr rfl) (pe_call G__law_add (hr.mono (by decide)) (by rfl) T.g__law_add T.F__law_add.kp B__law_add .nil pass0 (pa_cons (pv 9) (pa_cons (pv 8) (pa_nil)))))) (pss_nil))
       (pss_cut (ps_if (pt_cmpR op_eq (pv 3) (pe_int) (nomark _)) (pss_one (ps_set (i := 4) nd rfl (by first | exact Or.inl rfl | exact Or.inr rfl) (pe_lst (pa_nil)))) (pss_nil))
       (pss_cons (ps_set (i := 10) nd rfl (by first | exact Or.inl rfl | exact Or.inr rfl) (pe_callTy call_list_of (by rfl) T.z_list (by decide +kernel) (pa_cons (pv 9) (pa_nil))))
       (pss_cons (ps_set (i := 11) nd rfl (by first | exact Or.inl rfl | exact Or.inr rfl) (pe_callTy call_list_of (by rfl) T.z_list (by decide +kernel) (pa_cons (pv 4) (pa_nil))))
       (pss_cons (ps_if (pt_cmpR op_eq (pv 3) (pe_int) (nomark _)) (pss_one (ps_ret (pe_and (pe_cmpR op_eq (pe_call G__law_refused (hr.mono (by decide)) (by rfl) T.g__law_refused T.F__law_refused.kp B__law_refused .nil pass0 (pa_cons (pv 10) (pa_cons (pv 11) (pa_nil)))) (pe_str) (nomark _)) (pe_and (pe_cmpR (op_eqD hr.units) (pv 10) (pv 9) (nomark _)) (pe_one (pe_cmpR (op_eqD hr.units) (pv 11) (pv 4) (nomark _))))))) (pss_nil))
       (pss_cons (ps_if (PW.pt (pw_and (pt_cmpR op_eq (pv 3) (pe_int) (nomark _)) (pw_and1 (pt_cmpR op_gt (pe_callB call_len_seq (by rfl) T.z_len (by decide +kernel) (pa_cons (pv 8) (pa_nil))) (pe_int) (nomark _))))) (pss_one (ps_ret (pe_and (pe_cmpR op_eq (pe_call G__law_refused (hr.mono (by decide)) (by rfl) T.g__law_refused T.F__law_refused.kp B__law_refused .nil pass0 (pa_cons (pv 10) (pa_cons (pv 11) (pa_nil)))) (pe_str) (nomark _)) (pe_and (pe_cmpR (op_eqD hr.units) (pv 10) (pv 9) (nomark _)) (pe_one (pe_cmpR (op_eqD hr.units) (pv 11) (pv 4) (nomark _))))))) (pss_nil))
       (pss_cons (ps_set (i := 12) nd rfl (by first | exact Or.inl rfl | exact Or.inr rfl) (pe_call G_part (hr.mono (by decide)) (by rfl) T.g_part T.F_part.kp B_part .nil passL (pa_cons (pv 10) (pa_cons (pv 11) (pa_nil)))))
       (pss_cons (ps_if (PW.pt (pw_or (pt_not (pt_val (pe_call G__law_is_poly (hr.mono (by decide)) (by rfl) T.g__law_is_poly T.F__law_is_poly.kp B__law_is_poly .nil pass0 (pa_cons (pv 12) (pa_nil))))) (pw_or1 (pt_cmpR (op_neD hr.units) (pv 12) (pe_call G__law_plain (hr.mono (by decide)) (by rfl) T.g__law_plain T.F__law_plain.kp B__law_plain .nil pass0 (pa_cons (pv 6) (pa_nil))) (nomark _))))) (pss_one (ps_ret (pe_bl))) (pss_nil))
       (pss_cons (ps_expr (pe_bm PySem.F.plainAttrs_list PySem.F.slot_list_append PySem.F.type_list_append mt_append (pv 12) (pa_cons (pe_int) (pa_nil))))
       (pss_cons (ps_set (i := 13) nd rfl (by first | exact Or.inl rfl | exact Or.inr rfl) (pe_call G_part (hr.mono (by decide)) (by rfl) T.g_part T.F_part.kp B_part .nil passL (pa_cons (pv 10) (pa_cons (pv 11) (pa_nil)))))
       (pss_one (ps_ret (pe_and (pe_call G__law_is_poly (hr.mono (by decide)) (by rfl) T.g__law_is_poly T.F__law_is_poly.kp B__law_is_poly .nil pass0 (pa_cons (pv 13) (pa_nil))) (pe_and (pe_cmpR (op_eqD hr.units) (pv 13) (pe_call G__law_plain (hr.mono (by decide)) (by rfl) T.g__law_plain T.F__law_plain.kp B__law_plain .nil pass0 (pa_cons (pv 6) (pa_nil))) (nomark _)) (pe_and (pe_cmpR (op_eqD hr.units) (pv 10) (pv 9) (nomark _)) (pe_one (pe_cmpR (op_eqD hr.units) (pv 11) (pv 4) (nomark _))))))))))))))))))))))))))
end
theorem all_mk {l : PySem.W.OpenLaw} {w : World} {K : PySem.W.Frag} {h : Heap} {mg : Str → Option Value} {fa : Addr} (X : K.In h) (G : h.Ns mainGlobals mg) (hfa : mg "law" = some (.ref fa))
    {f0 : Addr} {od0 an0 : Option Addr} {sl0 : Array (Option Value)} {oc0 kV0 dc0 pm0 cd0 ct0 : Value}
    {f1 : Addr} {od1 an1 : Option Addr} {sl1 : Array (Option Value)} {oc1 kV1 dc1 pm1 cd1 ct1 : Value}
    {f2 : Addr} {od2 an2 : Option Addr} {sl2 : Array (Option Value)} {oc2 kV2 dc2 pm2 cd2 ct2 : Value}
    {f3 : Addr} {od3 an3 : Option Addr} {sl3 : Array (Option Value)} {oc3 kV3 dc3 pm3 cd3 ct3 : Value}
    {f4 : Addr} {od4 an4 : Option Addr} {sl4 : Array (Option Value)} {oc4 kV4 dc4 pm4 cd4 ct4 : Value}
    {f5 : Addr} {od5 an5 : Option Addr} {sl5 : Array (Option Value)} {oc5 kV5 dc5 pm5 cd5 ct5 : Value}
    {f6 : Addr} {od6 an6 : Option Addr} {sl6 : Array (Option Value)} {oc6 kV6 dc6 pm6 cd6 ct6 : Value}
    {f7 : Addr} {od7 an7 : Option Addr} {sl7 : Array (Option Value)} {oc7 kV7 dc7 pm7 cd7 ct7 : Value}
    {f8 : Addr} {od8 an8 : Option Addr} {sl8 : Array (Option Value)} {oc8 kV8 dc8 pm8 cd8 ct8 : Value}
    {f9 : Addr} {od9 an9 : Option Addr} {sl9 : Array (Option Value)} {oc9 kV9 dc9 pm9 cd9 ct9 : Value}
    {f10 : Addr} {od10 an10 : Option Addr} {sl10 : Array (Option Value)} {oc10 kV10 dc10 pm10 cd10 ct10 : Value}
    {f11 : Addr} {od11 an11 : Option Addr} {sl11 : Array (Option Value)} {oc11 kV11 dc11 pm11 cd11 ct11 : Value}
    {f12 : Addr} {od12 an12 : Option Addr} {sl12 : Array (Option Value)} {oc12 kV12 dc12 pm12 cd12 ct12 : Value}
    {f13 : Addr} {od13 an13 : Option Addr} {sl13 : Array (Option Value)} {oc13 kV13 dc13 pm13 cd13 ct13 : Value}
    {f14 : Addr} {od14 an14 : Option Addr} {sl14 : Array (Option Value)} {oc14 kV14 dc14 pm14 cd14 ct14 : Value}
    {f15 : Addr} {od15 an15 : Option Addr} {sl15 : Array (Option Value)} {oc15 kV15 dc15 pm15 cd15 ct15 : Value}
    {f16 : Addr} {od16 an16 : Option Addr} {sl16 : Array (Option Value)} {oc16 kV16 dc16 pm16 cd16 ct16 : Value}
    {f17 : Addr} {od17 an17 : Option Addr} {sl17 : Array (Option Value)} {oc17 kV17 dc17 pm17 cd17 ct17 : Value}
    {f18 : Addr} {od18 an18 : Option Addr} {sl18 : Array (Option Value)} {oc18 kV18 dc18 pm18 cd18 ct18 : Value}
    {f19 : Addr} {od19 an19 : Option Addr} {sl19 : Array (Option Value)} {oc19 kV19 dc19 pm19 cd19 ct19 : Value}
    (a0 : PySem.W.nsIn K mainGlobals "shared" = some (some (.ref f0))) (l0 : K.lookup f0 = some ⟨oc0, od0, .func (PySem.W.fnOf "shared" "shared" (defArgs s_shared) (defBody s_shared) (defScope s_shared) .none kV0 dc0 pm0 an0 cd0 ct0), sl0⟩) (c0 : PySem.W.codeIn K cd0 "shared" = true) (k0 : PySem.W.keepIn K (.ref f0) = true)
    (a1 : PySem.W.nsIn K mainGlobals "poly" = some (some (.ref f1))) (l1 : K.lookup f1 = some ⟨oc1, od1, .func (PySem.W.fnOf "poly" "poly" (defArgs s_poly) (defBody s_poly) (defScope s_poly) .none kV1 dc1 pm1 an1 cd1 ct1), sl1⟩) (c1 : PySem.W.codeIn K cd1 "poly" = true) (k1 : PySem.W.keepIn K (.ref f1) = true)
    (a2 : PySem.W.nsIn K mainGlobals "degree" = some (some (.ref f2))) (l2 : K.lookup f2 = some ⟨oc2, od2, .func (PySem.W.fnOf "degree" "degree" (defArgs s_degree) (defBody s_degree) (defScope s_degree) .none kV2 dc2 pm2 an2 cd2 ct2), sl2⟩) (c2 : PySem.W.codeIn K cd2 "degree" = true) (k2 : PySem.W.keepIn K (.ref f2) = true)
    (a3 : PySem.W.nsIn K mainGlobals "shrunk" = some (some (.ref f3))) (l3 : K.lookup f3 = some ⟨oc3, od3, .func (PySem.W.fnOf "shrunk" "shrunk" (defArgs s_shrunk) (defBody s_shrunk) (defScope s_shrunk) .none kV3 dc3 pm3 an3 cd3 ct3), sl3⟩) (c3 : PySem.W.codeIn K cd3 "shrunk" = true) (k3 : PySem.W.keepIn K (.ref f3) = true)
    (a4 : PySem.W.nsIn K mainGlobals "plain" = some (some (.ref f4))) (l4 : K.lookup f4 = some ⟨oc4, od4, .func (PySem.W.fnOf "plain" "plain" (defArgs s_plain) (defBody s_plain) (defScope s_plain) .none kV4 dc4 pm4 an4 cd4 ct4), sl4⟩) (c4 : PySem.W.codeIn K cd4 "plain" = true) (k4 : PySem.W.keepIn K (.ref f4) = true)
    (a5 : PySem.W.nsIn K mainGlobals "divided" = some (some (.ref f5))) (l5 : K.lookup f5 = some ⟨oc5, od5, .func (PySem.W.fnOf "divided" "divided" (defArgs s_divided) (defBody s_divided) (defScope s_divided) .none kV5 dc5 pm5 an5 cd5 ct5), sl5⟩) (c5 : PySem.W.codeIn K cd5 "divided" = true) (k5 : PySem.W.keepIn K (.ref f5) = true)
    (a6 : PySem.W.nsIn K mainGlobals "part" = some (some (.ref f6))) (l6 : K.lookup f6 = some ⟨oc6, od6, .func (PySem.W.fnOf "part" "part" (defArgs s_part) (defBody s_part) (defScope s_part) .none kV6 dc6 pm6 an6 cd6 ct6), sl6⟩) (c6 : PySem.W.codeIn K cd6 "part" = true) (k6 : PySem.W.keepIn K (.ref f6) = true)
    (a7 : PySem.W.nsIn K mainGlobals "_law_cell_at" = some (some (.ref f7))) (l7 : K.lookup f7 = some ⟨oc7, od7, .func (PySem.W.fnOf "_law_cell_at" "_law_cell_at" (defArgs s__law_cell_at) (defBody s__law_cell_at) (defScope s__law_cell_at) .none kV7 dc7 pm7 an7 cd7 ct7), sl7⟩) (c7 : PySem.W.codeIn K cd7 "_law_cell_at" = true) (k7 : PySem.W.keepIn K (.ref f7) = true)
    (a8 : PySem.W.nsIn K mainGlobals "_law_whole" = some (some (.ref f8))) (l8 : K.lookup f8 = some ⟨oc8, od8, .func (PySem.W.fnOf "_law_whole" "_law_whole" (defArgs s__law_whole) (defBody s__law_whole) (defScope s__law_whole) .none kV8 dc8 pm8 an8 cd8 ct8), sl8⟩) (c8 : PySem.W.codeIn K cd8 "_law_whole" = true) (k8 : PySem.W.keepIn K (.ref f8) = true)
    (a9 : PySem.W.nsIn K mainGlobals "_law_within" = some (some (.ref f9))) (l9 : K.lookup f9 = some ⟨oc9, od9, .func (PySem.W.fnOf "_law_within" "_law_within" (defArgs s__law_within) (defBody s__law_within) (defScope s__law_within) .none kV9 dc9 pm9 an9 cd9 ct9), sl9⟩) (c9 : PySem.W.codeIn K cd9 "_law_within" = true) (k9 : PySem.W.keepIn K (.ref f9) = true)
    (a10 : PySem.W.nsIn K mainGlobals "_law_trim" = some (some (.ref f10))) (l10 : K.lookup f10 = some ⟨oc10, od10, .func (PySem.W.fnOf "_law_trim" "_law_trim" (defArgs s__law_trim) (defBody s__law_trim) (defScope s__law_trim) .none kV10 dc10 pm10 an10 cd10 ct10), sl10⟩) (c10 : PySem.W.codeIn K cd10 "_law_trim" = true) (k10 : PySem.W.keepIn K (.ref f10) = true)
    (a11 : PySem.W.nsIn K mainGlobals "_law_mul" = some (some (.ref f11))) (l11 : K.lookup f11 = some ⟨oc11, od11, .func (PySem.W.fnOf "_law_mul" "_law_mul" (defArgs s__law_mul) (defBody s__law_mul) (defScope s__law_mul) .none kV11 dc11 pm11 an11 cd11 ct11), sl11⟩) (c11 : PySem.W.codeIn K cd11 "_law_mul" = true) (k11 : PySem.W.keepIn K (.ref f11) = true)
    (a12 : PySem.W.nsIn K mainGlobals "_law_add" = some (some (.ref f12))) (l12 : K.lookup f12 = some ⟨oc12, od12, .func (PySem.W.fnOf "_law_add" "_law_add" (defArgs s__law_add) (defBody s__law_add) (defScope s__law_add) .none kV12 dc12 pm12 an12 cd12 ct12), sl12⟩) (c12 : PySem.W.codeIn K cd12 "_law_add" = true) (k12 : PySem.W.keepIn K (.ref f12) = true)
    (a13 : PySem.W.nsIn K mainGlobals "_law_is_poly" = some (some (.ref f13))) (l13 : K.lookup f13 = some ⟨oc13, od13, .func (PySem.W.fnOf "_law_is_poly" "_law_is_poly" (defArgs s__law_is_poly) (defBody s__law_is_poly) (defScope s__law_is_poly) .none kV13 dc13 pm13 an13 cd13 ct13), sl13⟩) (c13 : PySem.W.codeIn K cd13 "_law_is_poly" = true) (k13 : PySem.W.keepIn K (.ref f13) = true)
    (a14 : PySem.W.nsIn K mainGlobals "_law_gcd" = some (some (.ref f14))) (l14 : K.lookup f14 = some ⟨oc14, od14, .func (PySem.W.fnOf "_law_gcd" "_law_gcd" (defArgs s__law_gcd) (defBody s__law_gcd) (defScope s__law_gcd) .none kV14 dc14 pm14 an14 cd14 ct14), sl14⟩) (c14 : PySem.W.codeIn K cd14 "_law_gcd" = true) (k14 : PySem.W.keepIn K (.ref f14) = true)
    (a15 : PySem.W.nsIn K mainGlobals "_law_shrunk" = some (some (.ref f15))) (l15 : K.lookup f15 = some ⟨oc15, od15, .func (PySem.W.fnOf "_law_shrunk" "_law_shrunk" (defArgs s__law_shrunk) (defBody s__law_shrunk) (defScope s__law_shrunk) .none kV15 dc15 pm15 an15 cd15 ct15), sl15⟩) (c15 : PySem.W.codeIn K cd15 "_law_shrunk" = true) (k15 : PySem.W.keepIn K (.ref f15) = true)
    (a16 : PySem.W.nsIn K mainGlobals "_law_plain" = some (some (.ref f16))) (l16 : K.lookup f16 = some ⟨oc16, od16, .func (PySem.W.fnOf "_law_plain" "_law_plain" (defArgs s__law_plain) (defBody s__law_plain) (defScope s__law_plain) .none kV16 dc16 pm16 an16 cd16 ct16), sl16⟩) (c16 : PySem.W.codeIn K cd16 "_law_plain" = true) (k16 : PySem.W.keepIn K (.ref f16) = true)
    (a17 : PySem.W.nsIn K mainGlobals "_law_nonzero" = some (some (.ref f17))) (l17 : K.lookup f17 = some ⟨oc17, od17, .func (PySem.W.fnOf "_law_nonzero" "_law_nonzero" (defArgs s__law_nonzero) (defBody s__law_nonzero) (defScope s__law_nonzero) .none kV17 dc17 pm17 an17 cd17 ct17), sl17⟩) (c17 : PySem.W.codeIn K cd17 "_law_nonzero" = true) (k17 : PySem.W.keepIn K (.ref f17) = true)
    (a18 : PySem.W.nsIn K mainGlobals "_law_refused" = some (some (.ref f18))) (l18 : K.lookup f18 = some ⟨oc18, od18, .func (PySem.W.fnOf "_law_refused" "_law_refused" (defArgs s__law_refused) (defBody s__law_refused) (defScope s__law_refused) .none kV18 dc18 pm18 an18 cd18 ct18), sl18⟩) (c18 : PySem.W.codeIn K cd18 "_law_refused" = true) (k18 : PySem.W.keepIn K (.ref f18) = true)
    (a19 : PySem.W.nsIn K mainGlobals "law" = some (some (.ref f19))) (l19 : K.lookup f19 = some ⟨oc19, od19, .func (PySem.W.fnOf "law" "law" (defArgs s_law) (defBody s_law) (defScope s_law) .none kV19 dc19 pm19 an19 cd19 ct19), sl19⟩) (c19 : PySem.W.codeIn K cd19 "law" = true) (k19 : PySem.W.keepIn K (.ref f19) = true)
    {CRootError : Addr} (aCRootError : PySem.W.nsIn K mainGlobals "RootError" = some (some (.ref CRootError))) (kCRootError : PySem.W.keepIn K (.ref CRootError) = true)
    (bCRootError : PySem.W.subIn K (.ref CRootError) (.type "BaseException") = some true) (tCRootError : PySem.W.typeIn K (.ref CRootError) = some (.type "type")) (hCRootError : PySem.W.hasDictIn K CRootError = true) (vCRootError : PySem.W.subIn K (.ref CRootError) (.type "ValueError") = some true)
    (xCRootError : PySem.W.excIn K CRootError [.type "ValueError", .type "Exception", .type "BaseException", .type "object"] "ValueError.__new__" = true)
    (gCRootError : PySem.W.findIn K (.ref CRootError) "__getattribute__" = some (some (.builtin "BaseException.__getattribute__"))) (nCRootError : PySem.W.findIn K (.ref CRootError) "__getattr__" = some none) (lCRootError : PySem.W.findIn K (.ref CRootError) "__class__" = some (some (.builtin "object.__class__"))) (mCRootError : PySem.W.mroIn K CRootError (.type "object") = some true)
    {CByNought : Addr} (aCByNought : PySem.W.nsIn K mainGlobals "ByNought" = some (some (.ref CByNought))) (kCByNought : PySem.W.keepIn K (.ref CByNought) = true)
    (bCByNought : PySem.W.subIn K (.ref CByNought) (.type "BaseException") = some true) (tCByNought : PySem.W.typeIn K (.ref CByNought) = some (.type "type")) (hCByNought : PySem.W.hasDictIn K CByNought = true) (vCByNought : PySem.W.subIn K (.ref CByNought) (.type "ValueError") = some true)
    (xCByNought : PySem.W.excIn K CByNought [.type "ValueError", .type "Exception", .type "BaseException", .type "object"] "ValueError.__new__" = true)
    (gCByNought : PySem.W.findIn K (.ref CByNought) "__getattribute__" = some (some (.builtin "BaseException.__getattribute__"))) (nCByNought : PySem.W.findIn K (.ref CByNought) "__getattr__" = some none) (lCByNought : PySem.W.findIn K (.ref CByNought) "__class__" = some (some (.builtin "object.__class__"))) (mCByNought : PySem.W.mroIn K CByNought (.type "object") = some true)
    {CNoPart : Addr} (aCNoPart : PySem.W.nsIn K mainGlobals "NoPart" = some (some (.ref CNoPart))) (kCNoPart : PySem.W.keepIn K (.ref CNoPart) = true)
    (bCNoPart : PySem.W.subIn K (.ref CNoPart) (.type "BaseException") = some true) (tCNoPart : PySem.W.typeIn K (.ref CNoPart) = some (.type "type")) (hCNoPart : PySem.W.hasDictIn K CNoPart = true) (vCNoPart : PySem.W.subIn K (.ref CNoPart) (.type "ValueError") = some true)
    (xCNoPart : PySem.W.excIn K CNoPart [.type "ValueError", .type "Exception", .type "BaseException", .type "object"] "ValueError.__new__" = true)
    (gCNoPart : PySem.W.findIn K (.ref CNoPart) "__getattribute__" = some (some (.builtin "BaseException.__getattribute__"))) (nCNoPart : PySem.W.findIn K (.ref CNoPart) "__getattr__" = some none) (lCNoPart : PySem.W.findIn K (.ref CNoPart) "__class__" = some (some (.builtin "object.__class__"))) (mCNoPart : PySem.W.mroIn K CNoPart (.type "object") = some true)
    (spC : PySem.W.specialIn K (.builtin "object.__class__") "__get__" = some (some (.builtin "getset_descriptor.__get__"))) (tkC : PySem.W.takesIn K (.builtin "object.__class__") = some true)
    (sRootError_RootError : PySem.W.subIn K (.ref CRootError) (.ref CRootError) = some true)
    (sRootError_ByNought : PySem.W.subIn K (.ref CRootError) (.ref CByNought) = some false)
    (sRootError_NoPart : PySem.W.subIn K (.ref CRootError) (.ref CNoPart) = some false)
    (sByNought_RootError : PySem.W.subIn K (.ref CByNought) (.ref CRootError) = some true)
    (sByNought_ByNought : PySem.W.subIn K (.ref CByNought) (.ref CByNought) = some true)
    (sByNought_NoPart : PySem.W.subIn K (.ref CByNought) (.ref CNoPart) = some false)
    (sNoPart_RootError : PySem.W.subIn K (.ref CNoPart) (.ref CRootError) = some true)
    (sNoPart_ByNought : PySem.W.subIn K (.ref CNoPart) (.ref CByNought) = some false)
    (sNoPart_NoPart : PySem.W.subIn K (.ref CNoPart) (.ref CNoPart) = some true)
    (z_ValueError : PySem.W.nsIn K mainGlobals "ValueError" = some none)
    (z_abs : PySem.W.nsIn K mainGlobals "abs" = some none)
    (z_bool : PySem.W.nsIn K mainGlobals "bool" = some none)
    (z_enumerate : PySem.W.nsIn K mainGlobals "enumerate" = some none)
    (z_int : PySem.W.nsIn K mainGlobals "int" = some none)
    (z_isinstance : PySem.W.nsIn K mainGlobals "isinstance" = some none)
    (z_len : PySem.W.nsIn K mainGlobals "len" = some none)
    (z_list : PySem.W.nsIn K mainGlobals "list" = some none)
    (z_max : PySem.W.nsIn K mainGlobals "max" = some none)
    (z_range : PySem.W.nsIn K mainGlobals "range" = some none)
    (z_reversed : PySem.W.nsIn K mainGlobals "reversed" = some none)
    : ∃ fd : FuncData, (∀ (s : Shared) (v : Value), BindsTo s fd ⟨[v], []⟩ [("_law_script", v)]) ∧ ∀ base : Heap, K.In base → base.Ns mainGlobals mg → FnOk l.prog w K mg base CX0 6 fa fd ["_law_script"] (sp_law K (fun _ => 0)) := by
  have e := hfa.symm.trans (PySem.W.mg_of X G a19)
  cases e
  have T : Txt K mg (fun s => if s = "RootError" then CRootError else if s = "ByNought" then CByNought else if s = "NoPart" then CNoPart else 0) (fun i => [f0, f1, f2, f3, f4, f5, f6, f7, f8, f9, f10, f11, f12, f13, f14, f15, f16, f17, f18, fa].getD i 0) (fun i => [PySem.W.fnOf "shared" "shared" (defArgs s_shared) (defBody s_shared) (defScope s_shared) .none kV0 dc0 pm0 an0 cd0 ct0, PySem.W.fnOf "poly" "poly" (defArgs s_poly) (defBody s_poly) (defScope s_poly) .none kV1 dc1 pm1 an1 cd1 ct1, PySem.W.fnOf "degree" "degree" (defArgs s_degree) (defBody s_degree) (defScope s_degree) .none kV2 dc2 pm2 an2 cd2 ct2, PySem.W.fnOf "shrunk" "shrunk" (defArgs s_shrunk) (defBody s_shrunk) (defScope s_shrunk) .none kV3 dc3 pm3 an3 cd3 ct3, PySem.W.fnOf "plain" "plain" (defArgs s_plain) (defBody s_plain) (defScope s_plain) .none kV4 dc4 pm4 an4 cd4 ct4, PySem.W.fnOf "divided" "divided" (defArgs s_divided) (defBody s_divided) (defScope s_divided) .none kV5 dc5 pm5 an5 cd5 ct5, PySem.W.fnOf "part" "part" (defArgs s_part) (defBody s_part) (defScope s_part) .none kV6 dc6 pm6 an6 cd6 ct6, PySem.W.fnOf "_law_cell_at" "_law_cell_at" (defArgs s__law_cell_at) (defBody s__law_cell_at) (defScope s__law_cell_at) .none kV7 dc7 pm7 an7 cd7 ct7, PySem.W.fnOf "_law_whole" "_law_whole" (defArgs s__law_whole) (defBody s__law_whole) (defScope s__law_whole) .none kV8 dc8 pm8 an8 cd8 ct8, PySem.W.fnOf "_law_within" "_law_within" (defArgs s__law_within) (defBody s__law_within) (defScope s__law_within) .none kV9 dc9 pm9 an9 cd9 ct9, PySem.W.fnOf "_law_trim" "_law_trim" (defArgs s__law_trim) (defBody s__law_trim) (defScope s__law_trim) .none kV10 dc10 pm10 an10 cd10 ct10, PySem.W.fnOf "_law_mul" "_law_mul" (defArgs s__law_mul) (defBody s__law_mul) (defScope s__law_mul) .none kV11 dc11 pm11 an11 cd11 ct11, PySem.W.fnOf "_law_add" "_law_add" (defArgs s__law_add) (defBody s__law_add) (defScope s__law_add) .none kV12 dc12 pm12 an12 cd12 ct12, PySem.W.fnOf "_law_is_poly" "_law_is_poly" (defArgs s__law_is_poly) (defBody s__law_is_poly) (defScope s__law_is_poly) .none kV13 dc13 pm13 an13 cd13 ct13, PySem.W.fnOf "_law_gcd" "_law_gcd" (defArgs s__law_gcd) (defBody s__law_gcd) (defScope s__law_gcd) .none kV14 dc14 pm14 an14 cd14 ct14, PySem.W.fnOf "_law_shrunk" "_law_shrunk" (defArgs s__law_shrunk) (defBody s__law_shrunk) (defScope s__law_shrunk) .none kV15 dc15 pm15 an15 cd15 ct15, PySem.W.fnOf "_law_plain" "_law_plain" (defArgs s__law_plain) (defBody s__law_plain) (defScope s__law_plain) .none kV16 dc16 pm16 an16 cd16 ct16, PySem.W.fnOf "_law_nonzero" "_law_nonzero" (defArgs s__law_nonzero) (defBody s__law_nonzero) (defScope s__law_nonzero) .none kV17 dc17 pm17 an17 cd17 ct17, PySem.W.fnOf "_law_refused" "_law_refused" (defArgs s__law_refused) (defBody s__law_refused) (defScope s__law_refused) .none kV18 dc18 pm18 an18 cd18 ct18, PySem.W.fnOf "law" "law" (defArgs s_law) (defBody s_law) (defScope s_law) .none kV19 dc19 pm19 an19 cd19 ct19].getD i (PySem.W.fnOf "law" "law" (defArgs s_law) (defBody s_law) (defScope s_law) .none kV19 dc19 pm19 an19 cd19 ct19)) :=
    { z_ValueError := PySem.W.mg_none_of X G z_ValueError, z_abs := PySem.W.mg_none_of X G z_abs, z_bool := PySem.W.mg_none_of X G z_bool, z_enumerate := PySem.W.mg_none_of X G z_enumerate, z_int := PySem.W.mg_none_of X G z_int, z_isinstance := PySem.W.mg_none_of X G z_isinstance, z_len := PySem.W.mg_none_of X G z_len, z_list := PySem.W.mg_none_of X G z_list, z_max := PySem.W.mg_none_of X G z_max, z_range := PySem.W.mg_none_of X G z_range, z_reversed := PySem.W.mg_none_of X G z_reversed, g_shared := PySem.W.mg_of X G a0, F_shared := fun_mk (st := s_shared) l0 c0 k0, g_poly := PySem.W.mg_of X G a1, F_poly := fun_mk (st := s_poly) l1 c1 k1, g_degree := PySem.W.mg_of X G a2, F_degree := fun_mk (st := s_degree) l2 c2 k2, g_shrunk := PySem.W.mg_of X G a3, F_shrunk := fun_mk (st := s_shrunk) l3 c3 k3, g_plain := PySem.W.mg_of X G a4, F_plain := fun_mk (st := s_plain) l4 c4 k4, g_divided := PySem.W.mg_of X G a5, F_divided := fun_mk (st := s_divided) l5 c5 k5, g_part := PySem.W.mg_of X G a6, F_part := fun_mk (st := s_part) l6 c6 k6, g__law_cell_at := PySem.W.mg_of X G a7, F__law_cell_at := fun_mk (st := s__law_cell_at) l7 c7 k7, g__law_whole := PySem.W.mg_of X G a8, F__law_whole := fun_mk (st := s__law_whole) l8 c8 k8, g__law_within := PySem.W.mg_of X G a9, F__law_within := fun_mk (st := s__law_within) l9 c9 k9, g__law_trim := PySem.W.mg_of X G a10, F__law_trim := fun_mk (st := s__law_trim) l10 c10 k10, g__law_mul := PySem.W.mg_of X G a11, F__law_mul := fun_mk (st := s__law_mul) l11 c11 k11, g__law_add := PySem.W.mg_of X G a12, F__law_add := fun_mk (st := s__law_add) l12 c12 k12, g__law_is_poly := PySem.W.mg_of X G a13, F__law_is_poly := fun_mk (st := s__law_is_poly) l13 c13 k13, g__law_gcd := PySem.W.mg_of X G a14, F__law_gcd := fun_mk (st := s__law_gcd) l14 c14 k14, g__law_shrunk := PySem.W.mg_of X G a15, F__law_shrunk := fun_mk (st := s__law_shrunk) l15 c15 k15, g__law_plain := PySem.W.mg_of X G a16, F__law_plain := fun_mk (st := s__law_plain) l16 c16 k16, g__law_nonzero := PySem.W.mg_of X G a17, F__law_nonzero := fun_mk (st := s__law_nonzero) l17 c17 k17, g__law_refused := PySem.W.mg_of X G a18, F__law_refused := fun_mk (st := s__law_refused) l18 c18 k18, g_law := PySem.W.mg_of X G a19, F_law := fun_mk (st := s_law) l19 c19 k19, q_RootError := PySem.W.mg_of X G aCRootError, e_RootError := ⟨PySem.W.mg_of X G aCRootError, xCRootError, kCRootError, bCRootError, tCRootError⟩, q_ByNought := PySem.W.mg_of X G aCByNought, e_ByNought := ⟨PySem.W.mg_of X G aCByNought, xCByNought, kCByNought, bCByNought, tCByNought⟩, q_NoPart := PySem.W.mg_of X G aCNoPart, e_NoPart := ⟨PySem.W.mg_of X G aCNoPart, xCNoPart, kCNoPart, bCNoPart, tCNoPart⟩, ex := { v_RootError := kit_ve vCRootError, c_RootError := ⟨gCRootError, nCRootError, bCRootError, hCRootError, lCRootError, spC, tkC, mCRootError⟩, m_RootError_RootError := PySem.W.exm_ref bCRootError hCRootError tCRootError sRootError_RootError, i_RootError_RootError := kit_ref hCRootError tCRootError sRootError_RootError sRootError_RootError, m_RootError_ByNought := PySem.W.exm_ref bCByNought hCByNought tCByNought sRootError_ByNought, i_RootError_ByNought := kit_ref hCByNought tCByNought sByNought_ByNought sRootError_ByNought, m_RootError_NoPart := PySem.W.exm_ref bCNoPart hCNoPart tCNoPart sRootError_NoPart, i_RootError_NoPart := kit_ref hCNoPart tCNoPart sNoPart_NoPart sRootError_NoPart, v_ByNought := kit_ve vCByNought, c_ByNought := ⟨gCByNought, nCByNought, bCByNought, hCByNought, lCByNought, spC, tkC, mCByNought⟩, m_ByNought_RootError := PySem.W.exm_ref bCRootError hCRootError tCRootError sByNought_RootError, i_ByNought_RootError := kit_ref hCRootError tCRootError sRootError_RootError sByNought_RootError, m_ByNought_ByNought := PySem.W.exm_ref bCByNought hCByNought tCByNought sByNought_ByNought, i_ByNought_ByNought := kit_ref hCByNought tCByNought sByNought_ByNought sByNought_ByNought, m_ByNought_NoPart := PySem.W.exm_ref bCNoPart hCNoPart tCNoPart sByNought_NoPart, i_ByNought_NoPart := kit_ref hCNoPart tCNoPart sNoPart_NoPart sByNought_NoPart, v_NoPart := kit_ve vCNoPart, c_NoPart := ⟨gCNoPart, nCNoPart, bCNoPart, hCNoPart, lCNoPart, spC, tkC, mCNoPart⟩, m_NoPart_RootError := PySem.W.exm_ref bCRootError hCRootError tCRootError sNoPart_RootError, i_NoPart_RootError := kit_ref hCRootError tCRootError sRootError_RootError sNoPart_RootError, m_NoPart_ByNought := PySem.W.exm_ref bCByNought hCByNought tCByNought sNoPart_ByNought, i_NoPart_ByNought := kit_ref hCByNought tCByNought sByNought_ByNought sNoPart_ByNought, m_NoPart_NoPart := PySem.W.exm_ref bCNoPart hCNoPart tCNoPart sNoPart_NoPart, i_NoPart_NoPart := kit_ref hCNoPart tCNoPart sNoPart_NoPart sNoPart_NoPart } }
  exact ⟨PySem.W.fnOf "law" "law" (defArgs s_law) (defBody s_law) (defScope s_law) .none kV19 dc19 pm19 an19 cd19 ct19, fun s v => .of_eq rfl, fun base _ _ => ok_law T⟩
end RP
open PySem PySem.W PyProof.Rows
set_option maxHeartbeats 0 in
theorem PySem.Challenge.cw_rootspan_k15_parts_holds : PySem.Challenge.rw_rootspan_k15_parts.Holds := by
  w_on; o_law; k_head; (case hw => w_witness2)
  k_fill
  refine L2.walk_of (l := PySem.Challenge.rw_rootspan_k15_parts) (n := 63) (k := 6) (x := "_law_script") (CX := fun _ => L2.CX0) (sp := fun w => RP.sp_law _ (fun _ => 0)) rfl (by decide) rfl ⟨rfl, by decide, by decide⟩ (fun w h Y => PySem.W.kIn_of Y) ?F (fun _ _ a ns hl _ hS => ⟨a, ns, rfl, hS, hl, fun _ => rfl⟩) (fun _ _ _ _ _ h => h)
  case F =>
    intro w mg fa h KX G hmg
    refine' RP.all_mk KX G hmg ?a0 ?l0 ?c0 ?k0 ?a1 ?l1 ?c1 ?k1 ?a2 ?l2 ?c2 ?k2 ?a3 ?l3 ?c3 ?k3 ?a4 ?l4 ?c4 ?k4 ?a5 ?l5 ?c5 ?k5 ?a6 ?l6 ?c6 ?k6 ?a7 ?l7 ?c7 ?k7 ?a8 ?l8 ?c8 ?k8 ?a9 ?l9 ?c9 ?k9 ?a10 ?l10 ?c10 ?k10 ?a11 ?l11 ?c11 ?k11 ?a12 ?l12 ?c12 ?k12 ?a13 ?l13 ?c13 ?k13 ?a14 ?l14 ?c14 ?k14 ?a15 ?l15 ?c15 ?k15 ?a16 ?l16 ?c16 ?k16 ?a17 ?l17 ?c17 ?k17 ?a18 ?l18 ?c18 ?k18 ?a19 ?l19 ?c19 ?k19 ?aCRootError ?kCRootError ?bCRootError ?tCRootError ?hCRootError ?vCRootError ?xCRootError ?gCRootError ?nCRootError ?lCRootError ?mCRootError ?aCByNought ?kCByNought ?bCByNought ?tCByNought ?hCByNought ?vCByNought ?xCByNought ?gCByNought ?nCByNought ?lCByNought ?mCByNought ?aCNoPart ?kCNoPart ?bCNoPart ?tCNoPart ?hCNoPart ?vCNoPart ?xCNoPart ?gCNoPart ?nCNoPart ?lCNoPart ?mCNoPart ?spC ?tkC ?sRootError_RootError ?sRootError_ByNought ?sRootError_NoPart ?sByNought_RootError ?sByNought_ByNought ?sByNought_NoPart ?sNoPart_RootError ?sNoPart_ByNought ?sNoPart_NoPart ?z_ValueError ?z_abs ?z_bool ?z_enumerate ?z_int ?z_isinstance ?z_len ?z_list ?z_max ?z_range ?z_reversed
    (case a0 => k_is); (case l0 => k_is); (case c0 => k_is); (case k0 => k_is); (case a1 => k_is); (case l1 => k_is); (case c1 => k_is); (case k1 => k_is); (case a2 => k_is); (case l2 => k_is); (case c2 => k_is); (case k2 => k_is); (case a3 => k_is); (case l3 => k_is); (case c3 => k_is); (case k3 => k_is); (case a4 => k_is); (case l4 => k_is); (case c4 => k_is); (case k4 => k_is); (case a5 => k_is); (case l5 => k_is); (case c5 => k_is); (case k5 => k_is); (case a6 => k_is); (case l6 => k_is); (case c6 => k_is); (case k6 => k_is); (case a7 => k_is); (case l7 => k_is); (case c7 => k_is); (case k7 => k_is); (case a8 => k_is); (case l8 => k_is); (case c8 => k_is); (case k8 => k_is); (case a9 => k_is); (case l9 => k_is); (case c9 => k_is); (case k9 => k_is); (case a10 => k_is); (case l10 => k_is); (case c10 => k_is); (case k10 => k_is); (case a11 => k_is); (case l11 => k_is); (case c11 => k_is); (case k11 => k_is); (case a12 => k_is); (case l12 => k_is); (case c12 => k_is); (case k12 => k_is); (case a13 => k_is); (case l13 => k_is); (case c13 => k_is); (case k13 => k_is); (case a14 => k_is); (case l14 => k_is); (case c14 => k_is); (case k14 => k_is); (case a15 => k_is); (case l15 => k_is); (case c15 => k_is); (case k15 => k_is); (case a16 => k_is); (case l16 => k_is); (case c16 => k_is); (case k16 => k_is); (case a17 => k_is); (case l17 => k_is); (case c17 => k_is); (case k17 => k_is); (case a18 => k_is); (case l18 => k_is); (case c18 => k_is); (case k18 => k_is); (case a19 => k_is); (case l19 => k_is); (case c19 => k_is); (case k19 => k_is); (case aCRootError => k_is); (case kCRootError => k_is); (case bCRootError => k_is); (case tCRootError => k_is); (case hCRootError => k_is); (case vCRootError => k_is); (case xCRootError => k_exc); (case gCRootError => k_is); (case nCRootError => k_is); (case lCRootError => k_is); (case mCRootError => k_is); (case aCByNought => k_is); (case kCByNought => k_is); (case bCByNought => k_is); (case tCByNought => k_is); (case hCByNought => k_is); (case vCByNought => k_is); (case xCByNought => k_exc); (case gCByNought => k_is); (case nCByNought => k_is); (case lCByNought => k_is); (case mCByNought => k_is); (case aCNoPart => k_is); (case kCNoPart => k_is); (case bCNoPart => k_is); (case tCNoPart => k_is); (case hCNoPart => k_is); (case vCNoPart => k_is); (case xCNoPart => k_exc); (case gCNoPart => k_is); (case nCNoPart => k_is); (case lCNoPart => k_is); (case mCNoPart => k_is); (case spC => first | rfl | k_is); (case tkC => first | k_is | rfl | decide +kernel); (case sRootError_RootError => first | rfl | k_is); (case sRootError_ByNought => first | rfl | k_is); (case sRootError_NoPart => first | rfl | k_is); (case sByNought_RootError => first | rfl | k_is); (case sByNought_ByNought => first | rfl | k_is); (case sByNought_NoPart => first | rfl | k_is); (case sNoPart_RootError => first | rfl | k_is); (case sNoPart_ByNought => first | rfl | k_is); (case sNoPart_NoPart => first | rfl | k_is); (case z_ValueError => k_is); (case z_abs => k_is); (case z_bool => k_is); (case z_enumerate => k_is); (case z_int => k_is); (case z_isinstance => k_is); (case z_len => k_is); (case z_list => k_is); (case z_max => k_is); (case z_range => k_is); (case z_reversed => k_is)

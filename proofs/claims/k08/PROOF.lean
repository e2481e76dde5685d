import PyProof.Rows.All
import Wide.All
import OpenK.AllK
import Wide.FinOn
import HandS.ForMost
import HandS.Exc
import HandS.TryOnly
import HandS.ExcOwn
import HandS.WordsExc
import HandS.Wide
import HandS.IsInst
import HandS.Conv
import HandS.RevRange
import HandS.Evl
import HandS.More
import HandS.Style
import PySem.Challenge.RW_rootspan_k08_slope_turned_flipped_lifted
set_option Elab.async false
set_option linter.all false
set_option maxRecDepth 100000
set_option maxHeartbeats 4000000
set_option exponentiation.threshold 100000
set_option linter.all false
set_option maxRecDepth 100000
set_option maxHeartbeats 4000000
namespace RB
open PySem PySem.Spec PyProof.Rows L2
open Evl (Ex rLenS rListS rMax2 tCut pss_cut)

/-! ### the readings' names -/
def rIAdd : R2 := rI0 fun i j => .int (i + j)
def rISub : R2 := rI0 fun i j => .int (i - j)
def rMul : R2 := rI CMulW fun i j => .int (i * j)
def rMod : R2 := rI (fun _ j => j ≠ 0) fun i j => .int (i.fmod j)
def CDivA (_ j : Int) : Prop := j ≠ 0 ∧ j.natAbs.log2 < 9000
def rDiv : R2 := rI CDivA fun i j => .int (i.fdiv j)
def rPow : R2 := rI CPow fun i j => .int (i ^ j.toNat)
def rLt : R2 := rI0 fun i j => .bl (decide (i < j))
def rLe : R2 := rI0 fun i j => .bl (decide (i ≤ j))
def rGt : R2 := rI0 fun i j => .bl (decide (j < i))
def rGe : R2 := rI0 fun i j => .bl (decide (j ≤ i))
def rIsN : R2 := fun x y H Q => y = .non ∧ Q (.bl (decide (x = .non))) H
def rNotN : R2 := fun x y H Q => y = .non ∧ Q (.bl (!decide (x = .non))) H
def rNeg : V → Hp → VK → Prop := rU fun i => .int (-i)
def rAbs : List V → Hp → VK → Prop := fun xs H Q => ∃ i, xs = [.int i] ∧ Q (.int (if i < 0 then -i else i)) H
def rMin2 : List V → Hp → VK → Prop := fun xs H Q => ∃ i j, xs = [.int i, .int j] ∧ Q (.int (if j < i then j else i)) H
def rInt1 : List V → Hp → VK → Prop := fun xs H Q => (∃ i, xs = [.int i] ∧ Q (.int i) H) ∨ ∃ k, xs = [.bl k] ∧ Q (.int (if k then 1 else 0)) H
def rAddS : R2 := fun x y H Q => ∃ i j, x = .str i ∧ y = .str j ∧ i.length + j.length ≤ sizeLine ∧ Q (.str (i ++ j)) H
def rLenStr : List V → Hp → VK → Prop := fun xs H Q => ∃ z, xs = [.str z] ∧ z.length ≤ sizeLine ∧ Q (.int z.length) H
def rStrInt : List V → Hp → VK → Prop := fun xs H Q => ∃ i, xs = [.int i] ∧ i.natAbs.log2 < 1920 ∧ Q (.str (toString i)) H
def rInsert : V → List V → Hp → VK → Prop := fun x vs H Q => ∃ (l : Addr) (xs : List V) (i : Int) (y : V), x = .ref l ∧ vs = [.int i, y] ∧ H l = some (.lst xs) ∧ xs.length < sizeLine ∧ 0 ≤ i ∧ i < 2 ^ 63 ∧ Q .non (upd H l (.lst (xs.take i.toNat ++ [y] ++ xs.drop i.toNat)))
section
variable {X : Cx}
theorem op_fdivA : OpR X (binaryOp .FloorDiv) rDiv := opI fun i j _ _ _ _ _ hc q => floordiv_int hc.1 q (.inl (PyProof.noPylong_of_log2 hc.2))
theorem op_isN1 : OpR X (compareOp .Is) rIsN := op_isN
theorem op_notN1 : OpR X (compareOp .IsNot) rNotN := op_notN
end

/-! ### heaps -/
def Exb (l : Addr) (H H' : Hp) : Prop := ∀ a, a ≠ l → ∀ o, H a = some o → H' a = some o
theorem _root_.Evl.Ex.mutb {H0 H H' : Hp} {l : Addr} (e : Ex H0 H) (b : Exb l H H') (f : H0 l = none) : Ex H0 H' := fun a o h => b a (ne_of_none h f) o (e a o h)
theorem Exb.trans {l : Addr} {H H1 H2 : Hp} (a : Exb l H H1) (b : Exb l H1 H2) : Exb l H H2 := fun c n o h => b c n o (a c n o h)
theorem Exb.ex {l : Addr} {H H1 H2 : Hp} (a : Exb l H H1) (b : Ex H1 H2) : Exb l H H2 := fun c n o h => b c o (a c n o h)
theorem _root_.Evl.Ex.exb {l : Addr} {H H1 H2 : Hp} (a : Ex H H1) (b : Exb l H1 H2) : Exb l H H2 := fun c n o h => b c n o (a c o h)
/-- a list laid anew -/
theorem newL {H : Hp} {xs : List V} {Q : VK} (k : ∀ p H', H p = none → Ex H H' → H' p = some (.lst xs) → Q (.ref p) H') : ∀ p, H p = none → Q (.ref p) (upd H p (.lst xs)) :=
  fun p hp => k p _ hp (Evl.Ex.new hp) upd_same
theorem newT {H : Hp} {xs : List V} {Q : VK} (k : ∀ p H', H p = none → Ex H H' → H' p = some (.tup xs) → Q (.ref p) H') : ∀ p, H p = none → Q (.ref p) (upd H p (.tup xs)) :=
  fun p hp => k p _ hp (Evl.Ex.new hp) upd_same
/-- an object changed -/
theorem mutL {H : Hp} {l : Addr} {o : HO} {G : Hp → Prop} (k : ∀ H', Exb l H H' → H' l = some o → G H') : G (upd H l o) :=
  k _ (fun a n o h => by rw [upd_ne n]; exact h) upd_same
theorem _root_.Evl.Ex.free {H H' : Hp} (e : Ex H H') {p : Addr} (h : H' p = none) : H p = none := Evl.fresh_back e h
theorem _root_.Evl.Ex.l {K : PySem.W.Frag} {H H' : Hp} {a : Addr} {xs : List V} (e : Ex H H') (h : SqL K H a xs) : SqL K H' a xs := Evl.ex_l e h
theorem SqL.inj {K : PySem.W.Frag} {H : Hp} {a : Addr} {xs : List V} (h : H a = some (.lst xs)) : SqL K H a xs := .inl (.inl h)

def LstK (Q : VK) : List V → Hp → Prop := fun xs H1 => xs.length ≤ sizeLine ∧ ∀ p, H1 p = none → Q (.ref p) (upd H1 p (.lst xs))
def TupK (Q : VK) : List V → Hp → Prop := fun xs H1 => xs.length ≤ sizeLine ∧ ∀ p, H1 p = none → Q (.ref p) (upd H1 p (.tup xs))
theorem small0 {n : Nat} (h : n ≤ 16777216) : n ≤ sizeLine := by rw [sizeLine_eq]; exact h
/-! ### readings, step by step -/
section
variable {K : PySem.W.Frag} {σ : L2.St} {H : Hp} {Q : VK} {D : Ends} {ta tb te to ti : TE} {t u : TS} {tt t1 t2 : TT} {g : TG}
theorem r_seq (h : t { D with nx := u D } σ H) : tSeq t u D σ H := h
theorem r_next (h : D.nx σ H) : tNext D σ H := h
theorem r_var {i : Nat} {v : V} (h : σ[i]? = some (some v)) (q : Q v H) : tVar i σ H Q := ⟨v, h, q⟩
theorem r_c {v : V} (q : Q v H) : tC v σ H Q := q
theorem r_op {r : R2} (h : ta σ H fun x H1 => tb σ H1 fun y H2 => r x y H2 Q) : tOp r ta tb σ H Q := h
theorem r_un {r : V → Hp → VK → Prop} (h : ta σ H fun x H1 => r x H1 Q) : tUn r ta σ H Q := h
theorem r_add {i j : Int} (q : Q (.int (i + j)) H) : rIAdd (.int i) (.int j) H Q := ⟨i, j, rfl, rfl, q⟩
theorem r_sub {i j : Int} (q : Q (.int (i - j)) H) : rISub (.int i) (.int j) H Q := ⟨i, j, rfl, rfl, q⟩
theorem r_mul {i j : Int} (c : CMulW i j) (q : Q (.int (i * j)) H) : rMul (.int i) (.int j) H Q := ⟨i, j, rfl, rfl, c, q⟩
theorem r_mod {i j : Int} (c : j ≠ 0) (q : Q (.int (i.fmod j)) H) : rMod (.int i) (.int j) H Q := ⟨i, j, rfl, rfl, c, q⟩
theorem r_div {i j : Int} (c : CDivA i j) (q : Q (.int (i.fdiv j)) H) : rDiv (.int i) (.int j) H Q := ⟨i, j, rfl, rfl, c, q⟩
theorem r_pow {i j : Int} (c : CPow i j) (q : Q (.int (i ^ j.toNat)) H) : rPow (.int i) (.int j) H Q := ⟨i, j, rfl, rfl, c, q⟩
theorem r_lt {i j : Int} (q : Q (.bl (decide (i < j))) H) : rLt (.int i) (.int j) H Q := ⟨i, j, rfl, rfl, q⟩
theorem r_le {i j : Int} (q : Q (.bl (decide (i ≤ j))) H) : rLe (.int i) (.int j) H Q := ⟨i, j, rfl, rfl, q⟩
theorem r_gt {i j : Int} (q : Q (.bl (decide (j < i))) H) : rGt (.int i) (.int j) H Q := ⟨i, j, rfl, rfl, q⟩
theorem r_ge {i j : Int} (q : Q (.bl (decide (j ≤ i))) H) : rGe (.int i) (.int j) H Q := ⟨i, j, rfl, rfl, q⟩
theorem r_neg {i : Int} (q : Q (.int (-i)) H) : rNeg (.int i) H Q := ⟨i, rfl, q⟩
theorem d_int (i j : Int) : decide (V.int i = V.int j) = decide (i = j) := by
  by_cases h : i = j
  · rw [h]; simp
  · rw [decide_eq_false h, decide_eq_false (fun z => h (V.int.inj z))]
theorem d_bl (i j : Bool) : decide (V.bl i = V.bl j) = decide (i = j) := by
  by_cases h : i = j
  · rw [h]; simp
  · rw [decide_eq_false h, decide_eq_false (fun z => h (V.bl.inj z))]
theorem d_str (i j : Str) : decide (V.str i = V.str j) = decide (i = j) := by
  by_cases h : i = j
  · rw [h]; simp
  · rw [decide_eq_false h, decide_eq_false (fun z => h (V.str.inj z))]
theorem r_eqI {i j : Int} (q : Q (.bl (decide (i = j))) H) : rEq (.int i) (.int j) H Q := ⟨rfl, by rw [d_int]; exact q⟩
theorem r_neI {i j : Int} (q : Q (.bl (!decide (i = j))) H) : rNe (.int i) (.int j) H Q := ⟨rfl, by rw [d_int]; exact q⟩
theorem r_eqB {i j : Bool} (q : Q (.bl (decide (i = j))) H) : rEq (.bl i) (.bl j) H Q := ⟨rfl, by rw [d_bl]; exact q⟩
theorem r_eqS {i j : Str} (q : Q (.bl (decide (i = j))) H) : rEq (.str i) (.str j) H Q := ⟨rfl, by rw [d_str]; exact q⟩
theorem r_neS {i j : Str} (q : Q (.bl (!decide (i = j))) H) : rNe (.str i) (.str j) H Q := ⟨rfl, by rw [d_str]; exact q⟩
theorem r_isN {x : V} (q : Q (.bl (decide (x = .non))) H) : rIsN x .non H Q := ⟨rfl, q⟩
theorem r_notN {x : V} (q : Q (.bl (!decide (x = .non))) H) : rNotN x .non H Q := ⟨rfl, q⟩
theorem r_ixL {p : Addr} {i : Int} {xs : List V} {v : V} (h : SqL K H p xs) (a : atI xs i = some v) (q : Q v H) : rIxL K (.ref p) (.int i) H Q := ⟨p, xs, i, v, rfl, rfl, h, a, q⟩
theorem r_ixT {p : Addr} {i : Int} {xs : List V} {v : V} (h : SqT K H p xs) (a : atI xs i = some v) (q : Q v H) : rIxT K (.ref p) (.int i) H Q := ⟨p, xs, i, v, rfl, rfl, h, a, q⟩
theorem r_cons {ta : TE} {tr : TA} {Q : List V → Hp → Prop} (h : ta σ H fun x H1 => tr σ H1 fun xs H2 => Q (x :: xs) H2) : tCons ta tr σ H Q := h
theorem r_nil {Q : List V → Hp → Prop} (h : Q [] H) : tNil σ H Q := h
theorem r_cb {r : List V → Hp → VK → Prop} {ta : TA} (h : ta σ H fun vs H1 => r vs H1 Q) : tCB r ta σ H Q := h
theorem r_abs {i : Int} (q : Q (.int (if i < 0 then -i else i)) H) : rAbs [.int i] H Q := ⟨i, rfl, q⟩
theorem r_max2 {i j : Int} (q : Q (.int (if j > i then j else i)) H) : rMax2 [.int i, .int j] H Q := ⟨i, j, rfl, q⟩
theorem r_min2 {i j : Int} (q : Q (.int (if j < i then j else i)) H) : rMin2 [.int i, .int j] H Q := ⟨i, j, rfl, q⟩
theorem r_len {p : Addr} {xs : List V} (h : SqL K H p xs) (q : Q (.int xs.length) H) : rLenS K [.ref p] H Q := ⟨p, xs, rfl, .inl h, q⟩
theorem r_lenT {p : Addr} {xs : List V} (h : SqT K H p xs) (q : Q (.int xs.length) H) : rLenS K [.ref p] H Q := ⟨p, xs, rfl, .inr h, q⟩
theorem r_list {p : Addr} {xs : List V} (h : SqL K H p xs) (q : ∀ l H', H l = none → Ex H H' → H' l = some (.lst xs) → Q (.ref l) H') : rListS K [.ref p] H Q := ⟨p, xs, rfl, .inl h, newL q⟩
theorem r_intI {i : Int} (q : Q (.int i) H) : rInt1 [.int i] H Q := .inl ⟨i, rfl, q⟩
theorem r_intB {b : Bool} (q : Q (.int (if b then 1 else 0)) H) : rInt1 [.bl b] H Q := .inr ⟨b, rfl, q⟩
theorem r_call {sp : Sp} {E : XK} {ta : TA} (h : ta σ H fun vs H1 => sp vs H1 Q E) : tCall sp [] E ta σ H Q := by
  show ta σ H fun vs H1 => sp (vs ++ []) H1 Q E
  have e : (fun vs H1 => sp (vs ++ []) H1 Q E) = fun (vs : List V) H1 => sp vs H1 Q E := by
    funext vs H1; rw [List.append_nil]
  rw [e]; exact h
theorem r_lst {ta : TA} (h : ta σ H (LstK Q)) : tLst ta σ H Q := h
theorem r_lstK {xs : List V} (k : ∀ p H', H p = none → Ex H H' → H' p = some (.lst xs) → Q (.ref p) H') (hz : xs.length ≤ 16777216 := by simp) : LstK Q xs H := ⟨small0 hz, newL k⟩
theorem r_tup {ta : TA} (h : ta σ H (TupK Q)) : tTup ta σ H Q := h
theorem r_tupK {xs : List V} (k : ∀ p H', H p = none → Ex H H' → H' p = some (.tup xs) → Q (.ref p) H') (hz : xs.length ≤ 16777216 := by simp) : TupK Q xs H := ⟨small0 hz, newT k⟩
theorem r_asg (h : te σ H fun x H1 => g x σ H1 D.nx) : tAsg te g D σ H := h
theorem r_gn {i : Nat} {v : V} {Q : L2.St → Hp → Prop} (h : Q (σ.set i (some v)) H) : gName i v σ H Q := h
theorem r_ret (h : te σ H D.rt) : tRet te D σ H := h
theorem r_drop (h : te σ H fun _ H1 => D.nx σ H1) : tDrop te D σ H := h
theorem r_ifS (h : tt σ H fun b H1 => if b = true then t D σ H1 else u D σ H1) : tIfS tt t u D σ H := h
theorem r_test {Q : Bool → Hp → Prop} (h : te σ H fun x H1 => ∃ k, x = .bl k ∧ Q k H1) : tTest te σ H Q := h
theorem r_B {Q : Bool → Hp → Prop} (h : te σ H fun x H1 => ∃ k, x = .bl k ∧ Q k H1) : tB te σ H Q := h
theorem r_bl {k : Bool} {Q : Bool → Prop} (h : Q k) : ∃ k', V.bl k = .bl k' ∧ Q k' := ⟨k, rfl, h⟩
theorem r_and {Q : Bool → Hp → Prop} (h : t1 σ H fun c H1 => if c = true then t2 σ H1 Q else Q false H1) : tAnd t1 t2 σ H Q := h
theorem r_or {Q : Bool → Hp → Prop} (h : t1 σ H fun c H1 => if c = true then Q true H1 else t2 σ H1 Q) : tOr t1 t2 σ H Q := h
theorem r_not {Q : Bool → Hp → Prop} (h : tt σ H fun c H1 => Q (!c) H1) : tNot tt σ H Q := h
theorem r_andV (h : ta σ H fun x H1 => ∃ c, x = .bl c ∧ if c = true then tb σ H1 Q else Q (.bl false) H1) : tAndV ta tb σ H Q := h
theorem r_orV (h : ta σ H fun x H1 => ∃ c, x = .bl c ∧ if c = true then Q (.bl true) H1 else tb σ H1 Q) : tOrV ta tb σ H Q := h
theorem r_notV (h : ta σ H fun x H1 => ∃ c, x = .bl c ∧ Q (.bl (!c)) H1) : tNotV ta σ H Q := h
theorem r_if (h : tt σ H fun c H1 => if c = true then ta σ H1 Q else tb σ H1 Q) : tIf tt ta tb σ H Q := h
theorem r_bm {T : String} {r : V → List V → Hp → VK → Prop} {ta : TA} (h : to σ H fun x H1 => tyV K T x H1 ∧ ta σ H1 fun xs H2 => r x xs H2 Q) : tBM K T r to ta σ H Q := h
theorem r_bm0 {T : String} {r : V → List V → Hp → VK → Prop} (h : to σ H fun x H1 => tyV K T x H1 ∧ r x [] H1 Q) : tBM0 K T r to σ H Q := h
theorem r_append {l : Addr} {xs : List V} {y : V} (h : H l = some (.lst xs)) (z : xs.length < sizeLine) (q : ∀ H', Exb l H H' → H' l = some (.lst (xs ++ [y])) → Q .non H') : rAppend (.ref l) [y] H Q :=
  ⟨l, xs, y, rfl, rfl, h, z, mutL q⟩
theorem r_pop {l : Addr} {xs : List V} {y : V} (h : H l = some (.lst xs)) (z : xs[xs.length - 1]? = some y) (q : ∀ H', Exb l H H' → H' l = some (.lst xs.dropLast) → Q y H') : rPop (.ref l) [] H Q :=
  ⟨l, xs, y, rfl, rfl, h, z, mutL q⟩
theorem r_insert {l : Addr} {xs : List V} {y : V} {i : Int} (h : H l = some (.lst xs)) (z : xs.length < sizeLine) (h0 : 0 ≤ i) (h1 : i < 2 ^ 63) (q : ∀ H', Exb l H H' → H' l = some (.lst (xs.take i.toNat ++ [y] ++ xs.drop i.toNat)) → Q .non H') : rInsert (.ref l) [.int i, y] H Q :=
  ⟨l, xs, i, y, rfl, rfl, h, z, h0, h1, mutL q⟩
theorem tyL {p : Addr} {xs : List V} (h : H p = some (.lst xs)) : tyV K "list" (.ref p) H := .inl ⟨rfl, _, .inl (.inl h)⟩
theorem r_ty {T : String} {x : V} {B : Prop} (h : tyV K T x H) (q : B) : tyV K T x H ∧ B := ⟨h, q⟩
theorem r_sub_ {ts : TSet} {v : V} {Q : L2.St → Hp → Prop} (h : to σ H fun o H1 => ti σ H1 fun i H2 => ts o i v H2 fun H3 => Q σ H3) : gSub to ti ts v σ H Q := h
theorem r_setL {p : Addr} {xs : List V} {k : Int} {j : Nat} {v : V} {Q : Hp → Prop} (h : H p = some (.lst xs)) (hk : ixN xs.length k = some j) (q : ∀ H', Exb p H H' → H' p = some (.lst (xs.set j v)) → Q H') : rSetL (.ref p) (.int k) v H Q :=
  ⟨p, xs, k, j, rfl, rfl, h, hk, mutL q⟩
theorem r_cat {l b : Addr} {xs zs : List V} (h1 : H l = some (.lst xs)) (h2 : H b = some (.lst zs)) (z : xs.length + zs.length ≤ sizeLine) (q : ∀ p H', H p = none → Ex H H' → H' p = some (.lst (xs ++ zs)) → Q (.ref p) H') : rCat (.ref l) (.ref b) H Q :=
  ⟨l, b, xs, zs, rfl, rfl, h1, h2, z, newL q⟩
theorem flat_rep {α : Type} (x : α) : ∀ n : Nat, (List.replicate n [x]).flatten = List.replicate n x
  | 0 => rfl
  | n + 1 => by rw [List.replicate_succ, List.flatten_cons, flat_rep x n, List.replicate_succ]; rfl
/-- [x] * k -/
theorem r_rep1 {l : Addr} {x : V} {k : Int} (h1 : H l = some (.lst [x])) (z : k.toNat ≤ 1000000) (q : ∀ p H', H p = none → Ex H H' → H' p = some (.lst (List.replicate k.toNat x)) → Q (.ref p) H')  (h0 : -(2 ^ 63) ≤ k := by omega) : rRep (.ref l) (.int k) H Q :=
  ⟨l, k, [x], rfl, rfl, h1, h0, by omega, by
    show 1 * k.toNat ≤ sizeLine
    rw [Nat.one_mul]
    exact Nat.le_trans z (by decide), newL fun p H' a b c => q p H' a b (by rw [flat_rep] at c; exact c)⟩
theorem r_sl {r : V → Option Int → Option Int → Hp → VK → Prop} {tl th : TO} (h : te σ H fun x H1 => tl σ H1 fun l H2 => th σ H2 fun u H3 => r x l u H3 Q) : tSl r te tl th σ H Q := h
theorem r_part {Q : Option Int → Hp → Prop} (h : te σ H fun x H1 => ∃ i, x = .int i ∧ Q (some i) H1) : tPart te σ H Q := h
theorem r_int {i : Int} {Q : Int → Prop} (h : Q i) : ∃ j, V.int i = .int j ∧ Q j := ⟨i, rfl, h⟩
theorem r_nopart {Q : Option Int → Hp → Prop} (h : Q none H) : tNoPart σ H Q := h
theorem r_slL {a : Addr} {xs : List V} {lo hi : Option Int} (h : SqL K H a xs) (q : ∀ p H', H p = none → Ex H H' → H' p = some (.lst (cutV xs lo hi)) → Q (.ref p) H') : rSlL K (.ref a) lo hi H Q := ⟨a, xs, rfl, h, newL q⟩
theorem r_par {i j : Nat} {ta : TA} (h : ta σ H fun vs H1 => ∃ v w, vs = [v, w] ∧ D.nx ((σ.set i (some v)).set j (some w)) H1) : tPar i j ta D σ H := h
theorem r_par2 {i j : Nat} {v w : V} (h : D.nx ((σ.set i (some v)).set j (some w)) H) : ∃ v' w', [v, w] = [v', w'] ∧ D.nx ((σ.set i (some v')).set j (some w')) H := ⟨v, w, rfl, h⟩
end
/-- a truth that is decided, both ways -/
theorem ite_d {p A B : Prop} [Decidable p] (h1 : p → A) (h2 : ¬ p → B) : if decide p = true then A else B := by
  by_cases h : p
  · rw [if_pos (decide_eq_true h)]; exact h1 h
  · rw [if_neg (by rw [decide_eq_false h]; decide)]; exact h2 h
theorem ite_nd {p A B : Prop} [Decidable p] (h1 : ¬ p → A) (h2 : p → B) : if (!decide p) = true then A else B := by
  by_cases h : p
  · rw [if_neg (by rw [decide_eq_true h]; decide)]; exact h2 h
  · rw [if_pos (by rw [decide_eq_false h]; rfl)]; exact h1 h
theorem ite_b {b : Bool} {A B : Prop} (h1 : b = true → A) (h2 : b = false → B) : if b = true then A else B := by
  cases b with
  | true => rw [if_pos rfl]; exact h1 rfl
  | false => rw [if_neg (by decide)]; exact h2 rfl

theorem r_isi {K : PySem.W.Frag} {H : Hp} {Q : VK} {x c : V} {t u : Value} {b : Bool} (ht : TyX K H x t) (hc : ClsV c u) (hk : PySem.W.kitOne K t u = some b) (q : Q (.bl b) H) : rIsi K [x, c] H Q := ⟨x, c, t, u, b, rfl, hc, ht, hk, q⟩
theorem iteD {p A B : Prop} [Decidable p] (h : p) (a : A) : if decide p = true then A else B := by rw [if_pos (decide_eq_true h)]; exact a
theorem iteDF {p A B : Prop} [Decidable p] (h : ¬ p) (a : B) : if decide p = true then A else B := by rw [if_neg (by rw [decide_eq_false h]; decide)]; exact a
/-! ### lists of ints, compared -/
theorem dp_ints {K : PySem.W.Frag} {H : Hp} : ∀ ns : List Int, DpAll K H (ns.map V.int) (ns.map PyData.int)
  | [] => .nil
  | n :: r => .cons (.int n) (dp_ints r)
theorem dp_listI {K : PySem.W.Frag} {H : Hp} {a : Addr} {ns : List Int} (h : SqL K H a (ns.map V.int)) : Dp K H (.ref a) (.list (ns.map PyData.int)) := .lst h (dp_ints ns)
def dI (ns : List Int) : PyData := .list (ns.map PyData.int)
theorem canLay_ints : ∀ ns : List Int, PyData.canLayAll0 (ns.map PyData.int) = true
  | [] => by simp [PyData.canLayAll0]
  | n :: r => by
    rw [List.map_cons, PyData.canLayAll0, canLay_ints r]; simp [PyData.canLay0]
theorem depth_ints : ∀ ns : List Int, PyData.depthAll (ns.map PyData.int) ≤ 1
  | [] => by simp [PyData.depthAll]
  | n :: r => by
    have := depth_ints r
    rw [List.map_cons, PyData.depthAll]
    simp [PyData.depth]
    omega
theorem shaped_dI (ns : List Int) : SeqAt.shaped (dI ns) = true := by
  have h1 := canLay_ints ns
  have h2 := depth_ints ns
  unfold SeqAt.shaped dI
  rw [Bool.and_eq_true, PyData.canLay0, PyData.depth]
  exact ⟨h1, decide_eq_true (by omega)⟩
theorem eqvAll_ints : ∀ ns ms : List Int, PyData.eqvAll (ns.map PyData.int) (ms.map PyData.int) = decide (ns = ms)
  | [], [] => by simp [PyData.eqvAll]
  | [], m :: r => by simp [PyData.eqvAll]
  | n :: r, [] => by simp [PyData.eqvAll]
  | n :: r, m :: s => by
    rw [List.map_cons, List.map_cons, PyData.eqvAll, eqvAll_ints r s]
    simp [PyData.eqv, Bool.beq_eq_decide_eq]
theorem eqv_dI (ns ms : List Int) : PyData.eqv (dI ns) (dI ms) = decide (ns = ms) := by
  unfold dI
  rw [PyData.eqv, eqvAll_ints]
theorem r_eqInts {K : PySem.W.Frag} {H : Hp} {Q : VK} {a b : Addr} {ns ms : List Int} (h1 : SqL K H a (ns.map V.int)) (h2 : SqL K H b (ms.map V.int)) (q : Q (.bl (decide (ns = ms))) H) : rEqD K (.ref a) (.ref b) H Q :=
  ⟨_, _, dp_listI h1, dp_listI h2, shaped_dI ns, shaped_dI ms, by rw [show PyData.eqv (.list (ns.map PyData.int)) (.list (ms.map PyData.int)) = decide (ns = ms) from eqv_dI ns ms]; exact q⟩
theorem r_neInts {K : PySem.W.Frag} {H : Hp} {Q : VK} {a b : Addr} {ns ms : List Int} (h1 : SqL K H a (ns.map V.int)) (h2 : SqL K H b (ms.map V.int)) (q : Q (.bl (!decide (ns = ms))) H) : rNeD K (.ref a) (.ref b) H Q :=
  ⟨_, _, dp_listI h1, dp_listI h2, shaped_dI ns, shaped_dI ms, by rw [show PyData.eqv (.list (ns.map PyData.int)) (.list (ms.map PyData.int)) = decide (ns = ms) from eqv_dI ns ms]; exact q⟩
/-! ### loops -/
def Lp (J : It) (g : TG) (tb : TS) (D : Ends) (σ : L2.St) (H : Hp) : Prop := ∃ W : Nat → Nat → L2.St → Hp → Prop, (∃ m, W 0 m σ H) ∧ ∀ i m σ H, W i m σ H →
  (J.stop i H ∧ D.nx σ H) ∨ (J.go i H ∧ ∃ N : L2.St → Hp → Prop, (∀ σ' H', N σ' H' → ∃ m', m' < m ∧ W (i + 1) m' σ' H') ∧ ∀ x H', J.yld i H x H' → g x σ H' fun σ2 H2 => tb { D with nx := N, ct := N, bk := D.nx } σ2 H2)
section
variable {K : PySem.W.Frag} {σ : L2.St} {H : Hp} {D : Ends} {te : TE} {ta : TA} {tb : TS} {g : TG} {wi : TI}
theorem r_for (h : wi σ H fun J H1 => Lp J g tb D σ H1) : tFor wi g tb D σ H := h
theorem r_iList {R : It → Hp → Prop} (h : te σ H fun x H1 => ∃ a, x = .ref a ∧ (∃ xs, SqL K H1 a xs) ∧ R (Itl K a) H1) : iList K te σ H R := h
theorem r_iListA {a : Addr} {xs : List V} (h : SqL K H a xs) (q : Lp (Itl K a) g tb D σ H) : ∃ a', V.ref a = .ref a' ∧ (∃ xs, SqL K H a' xs) ∧ Lp (Itl K a') g tb D σ H := ⟨a, rfl, ⟨xs, h⟩, q⟩
theorem r_iTup {R : It → Hp → Prop} (h : te σ H fun x H1 => ∃ a, x = .ref a ∧ (∃ xs, SqT K H1 a xs) ∧ R (Itt K a) H1) : iTup K te σ H R := h
theorem r_iTupA {a : Addr} {xs : List V} (h : SqT K H a xs) (q : Lp (Itt K a) g tb D σ H) : ∃ a', V.ref a = .ref a' ∧ (∃ xs, SqT K H a' xs) ∧ Lp (Itt K a') g tb D σ H := ⟨a, rfl, ⟨xs, h⟩, q⟩
theorem r_iRng1 {R : It → Hp → Prop} (h : ta σ H fun vs H1 => ∃ j : Int, vs = [.int j] ∧ -(2 ^ 62) ≤ j ∧ j < 2 ^ 62 ∧ R (Itr 0 j.toNat) H1) : iRng1 ta σ H R := h
theorem r_iRng1A {j : Int} (h0 : -(2 ^ 62) ≤ j) (h1 : j < 2 ^ 62) (q : Lp (Itr 0 j.toNat) g tb D σ H) : ∃ j' : Int, [V.int j] = [.int j'] ∧ -(2 ^ 62) ≤ j' ∧ j' < 2 ^ 62 ∧ Lp (Itr 0 j'.toNat) g tb D σ H := ⟨j, rfl, h0, h1, q⟩
theorem r_iRng2 {R : It → Hp → Prop} (h : ta σ H fun vs H1 => ∃ i j : Int, vs = [.int i, .int j] ∧ (-(2 ^ 62) ≤ i ∧ i < 2 ^ 62 ∧ -(2 ^ 62) ≤ j ∧ j < 2 ^ 62) ∧ R (Itr i (j - i).toNat) H1) : iRng2 ta σ H R := h
theorem r_iRng2A {i j : Int} (hb : -(2 ^ 62) ≤ i ∧ i < 2 ^ 62 ∧ -(2 ^ 62) ≤ j ∧ j < 2 ^ 62) (q : Lp (Itr i (j - i).toNat) g tb D σ H) : ∃ i' j' : Int, [V.int i, V.int j] = [.int i', .int j'] ∧ (-(2 ^ 62) ≤ i' ∧ i' < 2 ^ 62 ∧ -(2 ^ 62) ≤ j' ∧ j' < 2 ^ 62) ∧ Lp (Itr i' (j' - i').toNat) g tb D σ H := ⟨i, j, rfl, hb, q⟩
theorem r_iRev {R : It → Hp → Prop} (h : ta σ H fun vs H1 => ∃ (a : Addr) (xs : List V), vs = [.ref a] ∧ SqL K H1 a xs ∧ R (Itv K a xs.length) H1) : iRev K ta σ H R := h
theorem r_iRevA {a : Addr} {xs : List V} (h : SqL K H a xs) (q : Lp (Itv K a xs.length) g tb D σ H) : ∃ (a' : Addr) (xs : List V), [V.ref a] = [.ref a'] ∧ SqL K H a' xs ∧ Lp (Itv K a' xs.length) g tb D σ H := ⟨a, xs, rfl, h, q⟩
theorem r_iEnum {R : It → Hp → Prop} (h : ta σ H fun vs H1 => ∃ a xs, vs = [.ref a] ∧ SqL K H1 a xs ∧ R (Ite K a) H1) : iEnum K ta σ H R := h
theorem r_iEnumA {a : Addr} {xs : List V} (h : SqL K H a xs) (q : Lp (Ite K a) g tb D σ H) : ∃ (a' : Addr) (xs : List V), [V.ref a] = [.ref a'] ∧ SqL K H a' xs ∧ Lp (Ite K a') g tb D σ H := ⟨a, xs, rfl, h, q⟩
theorem r_iRevR {tr : L2.St → Hp → (Int → Int → Hp → Prop) → Prop} {R : It → Hp → Prop} (h : tr σ H fun a b H1 => -(2 ^ 62) ≤ a ∧ a < 2 ^ 62 ∧ -(2 ^ 62) ≤ b ∧ b < 2 ^ 62 ∧ R (Itc (a + (((b - a).toNat : Nat) : Int) - 1) (-1) (b - a).toNat) H1) : iRevR tr σ H R := h

theorem loop_list {a : Addr} {xs : List V} (Pv : Nat → L2.St → Hp → Prop) (h0 : Pv 0 σ H) (hl : ∀ i σ H, i ≤ xs.length → Pv i σ H → SqL K H a xs)
    (hs : ∀ i x σ H, xs[i]? = some x → Pv i σ H → g x σ H fun σ2 H2 => tb { D with nx := Pv (i + 1), ct := Pv (i + 1), bk := D.nx } σ2 H2) (hd : ∀ σ H, Pv xs.length σ H → D.nx σ H) : Lp (Itl K a) g tb D σ H := for_list Pv h0 hl hs hd
/-- a loop over a list of ints -/
theorem loop_ints {a : Addr} {ns : List Int} {j : Nat} (Pv : Nat → L2.St → Hp → Prop) (h0 : Pv 0 σ H) (hl : ∀ i σ H, i ≤ ns.length → Pv i σ H → SqL K H a (ns.map V.int))
    (hs : ∀ i x σ H, ns[i]? = some x → Pv i σ H → tb { D with nx := Pv (i + 1), ct := Pv (i + 1), bk := D.nx } (σ.set j (some (.int x))) H) (hd : ∀ σ H, Pv ns.length σ H → D.nx σ H) : Lp (Itl K a) (gName j) tb D σ H :=
  for_list (xs := ns.map V.int) Pv h0 (fun i σ H h => hl i σ H (by rw [List.length_map] at h; exact h)) (fun i x σ H hx hp => by
    rw [List.getElem?_map] at hx
    cases e : ns[i]? with
    | none => rw [e] at hx; cases hx
    | some z => rw [e] at hx; cases hx; exact hs i z σ H e hp) (fun σ H h => hd σ H (by rw [List.length_map] at h; exact h))
theorem loop_tup {a : Addr} {xs : List V} (Pv : Nat → L2.St → Hp → Prop) (h0 : Pv 0 σ H) (hl : ∀ i σ H, i ≤ xs.length → Pv i σ H → SqT K H a xs)
    (hs : ∀ i x σ H, xs[i]? = some x → Pv i σ H → g x σ H fun σ2 H2 => tb { D with nx := Pv (i + 1), ct := Pv (i + 1), bk := D.nx } σ2 H2) (hd : ∀ σ H, Pv xs.length σ H → D.nx σ H) : Lp (Itt K a) g tb D σ H := for_tup Pv h0 hl hs hd
theorem loop_range {lo : Int} {n : Nat} {j : Nat} (Pv : Nat → L2.St → Hp → Prop) (h0 : Pv 0 σ H)
    (hs : ∀ i σ H, i < n → Pv i σ H → tb { D with nx := Pv (i + 1), ct := Pv (i + 1), bk := D.nx } (σ.set j (some (.int (lo + (i : Int))))) H) (hd : ∀ σ H, Pv n σ H → D.nx σ H) : Lp (Itr lo n) (gName j) tb D σ H := for_range Pv h0 hs hd
theorem loop_range0 {n : Nat} {j : Nat} (Pv : Nat → L2.St → Hp → Prop) (h0 : Pv 0 σ H)
    (hs : ∀ i σ H, i < n → Pv i σ H → tb { D with nx := Pv (i + 1), ct := Pv (i + 1), bk := D.nx } (σ.set j (some (.int (i : Int)))) H) (hd : ∀ σ H, Pv n σ H → D.nx σ H) : Lp (Itr 0 n) (gName j) tb D σ H :=
  for_range Pv h0 (fun i σ H hi hp => by
    have e : (0 : Int) + (i : Int) = (i : Int) := Int.zero_add _
    rw [e]
    exact hs i σ H hi hp) hd
theorem loop_rangeC {lo c : Int} {n : Nat} {j : Nat} (Pv : Nat → L2.St → Hp → Prop) (h0 : Pv 0 σ H)
    (hs : ∀ i σ H, i < n → Pv i σ H → tb { D with nx := Pv (i + 1), ct := Pv (i + 1), bk := D.nx } (σ.set j (some (.int (lo + (i : Int) * c)))) H) (hd : ∀ σ H, Pv n σ H → D.nx σ H) : Lp (Itc lo c n) (gName j) tb D σ H := for_rangeC Pv h0 hs hd
theorem loop_rev {a : Addr} {xs : List V} (Pv : Nat → L2.St → Hp → Prop) (h0 : Pv 0 σ H) (hl : ∀ i σ H, i ≤ xs.length → Pv i σ H → SqL K H a xs)
    (hs : ∀ i x σ H, xs[xs.length - 1 - i]? = some x → i < xs.length → Pv i σ H → g x σ H fun σ2 H2 => tb { D with nx := Pv (i + 1), ct := Pv (i + 1), bk := D.nx } σ2 H2) (hd : ∀ σ H, Pv xs.length σ H → D.nx σ H) : Lp (Itv K a xs.length) g tb D σ H := by
  refine ⟨fun i m σ H => m = xs.length - i ∧ i ≤ xs.length ∧ Pv i σ H, ⟨xs.length, by simp, Nat.zero_le _, h0⟩, ?_⟩
  rintro i m σ H ⟨rfl, hi, p⟩
  have q := hl i σ H hi p
  by_cases hlt : i < xs.length
  · have hk : xs.length - 1 - i < xs.length := by omega
    refine .inr ⟨⟨hlt, xs, xs[xs.length - 1 - i], q, by simp [hk]⟩, Pv (i + 1), fun σ' H' p' => ⟨xs.length - (i + 1), by omega, rfl, hlt, p'⟩, fun x H' y => ?_⟩
    obtain ⟨e, y⟩ := y
    subst e
    exact hs i x σ _ (y xs q) hlt p
  · have e : i = xs.length := by omega
    subst e
    exact .inl ⟨Nat.le_refl _, hd σ H p⟩
theorem loop_enum {a : Addr} {xs : List V} {j k : Nat} (Pv : Nat → L2.St → Hp → Prop) (h0 : Pv 0 σ H) (hl : ∀ i σ H, i ≤ xs.length → Pv i σ H → SqL K H a xs)
    (hs : ∀ i x σ H H', xs[i]? = some x → Pv i σ H → Ex H H' → tb { D with nx := Pv (i + 1), ct := Pv (i + 1), bk := D.nx } ((σ.set j (some (.int (i : Int)))).set k (some x)) H') (hd : ∀ σ H, Pv xs.length σ H → D.nx σ H) :
    Lp (Ite K a) (gTup K 2 (gCons (gName j) (gCons (gName k) gNil))) tb D σ H := by
  refine ⟨fun i m σ H => m = xs.length - i ∧ i ≤ xs.length ∧ Pv i σ H, ⟨xs.length, by simp, Nat.zero_le _, h0⟩, ?_⟩
  rintro i m σ H ⟨rfl, hi, p⟩
  have q := hl i σ H hi p
  by_cases hlt : i < xs.length
  · refine .inr ⟨⟨xs, xs[i], q, by simp [hlt]⟩, Pv (i + 1), fun σ' H' p' => ⟨xs.length - (i + 1), by omega, rfl, hlt, p'⟩, fun v H' y => ?_⟩
    obtain ⟨T, x, rfl, nT, rfl, y⟩ := y
    exact ⟨T, _, rfl, .inl (.inl upd_same), rfl, _, _, rfl, x, [], rfl, rfl, hs i x σ H _ (y xs q) p (Evl.Ex.new nT)⟩
  · have e : i = xs.length := by omega
    subst e
    exact .inl ⟨⟨xs, q, Nat.le_refl _⟩, hd σ H p⟩
theorem r_while {tt : TT} (W : Nat → L2.St → Hp → Prop) (m0 : Nat) (h0 : W m0 σ H)
    (hs : ∀ m σ' H', W m σ' H' → tt σ' H' fun b H1 => if b = true then ∃ N : L2.St → Hp → Prop, (∀ σ2 H2, N σ2 H2 → ∃ m', m' < m ∧ W m' σ2 H2) ∧ tb { D with nx := N, ct := N, bk := D.nx } σ' H1 else D.nx σ' H1) : tWhile tt tb D σ H :=
  ⟨W, ⟨m0, h0⟩, hs⟩
theorem wh_in {W : Nat → L2.St → Hp → Prop} {m : Nat} (h : tb { D with nx := fun σ2 H2 => ∃ m', m' < m ∧ W m' σ2 H2, ct := fun σ2 H2 => ∃ m', m' < m ∧ W m' σ2 H2, bk := D.nx } σ H) :
    ∃ N : L2.St → Hp → Prop, (∀ σ2 H2, N σ2 H2 → ∃ m', m' < m ∧ W m' σ2 H2) ∧ tb { D with nx := N, ct := N, bk := D.nx } σ H := ⟨_, fun _ _ h => h, h⟩
end
/-! ### bounds -/
theorem small_le {n : Nat} (h : n ≤ 16777216) : n ≤ sizeLine := by rw [sizeLine_eq]; exact h
theorem small_lt {n : Nat} (h : n < 16777216) : n < sizeLine := by rw [sizeLine_eq]; exact h
/-! ### comprehensions -/
def Lc (J : It) (g : TG) (tt : TT) (te : TE) (vs : List Nat) (σ : L2.St) (H1 : Hp) (Q : VK) : Prop := ∀ D, H1 D = none → ∃ W : Nat → Nat → Hp → Prop, (∃ m, W 0 m (upd H1 D (.lst []))) ∧ ∀ i m H, W i m H →
  (J.stop i H ∧ Q (.ref D) H) ∨ (J.go i H ∧ ∃ Nx : Hp → Prop, (∀ H', Nx H' → ∃ m', m' < m ∧ W (i + 1) m' H') ∧ ∀ x H', J.yld i H x H' → g x (wipe σ vs) H' fun σ2 H2 => wipe σ2 vs = wipe σ vs ∧ tt σ2 H2 fun b H3 =>
    if b = true then te σ2 H3 fun y H4 => ∃ acc, H4 D = some (.lst acc) ∧ acc.length < sizeLine ∧ Nx (upd H4 D (.lst (acc ++ [y]))) else Nx H3)
theorem r_lc {wi : TI} {g : TG} {tt : TT} {te : TE} {vs : List Nat} {σ : L2.St} {H : Hp} {Q : VK} (h : wi σ H fun J H1 => Lc J g tt te vs σ H1 Q) : tLc wi g tt te vs σ H Q := h
theorem set_set {α : Type} : ∀ (l : List α) (i : Nat) (a b : α), (l.set i a).set i b = l.set i b
  | [], _, _, _ => rfl
  | _ :: _, 0, _, _ => rfl
  | x :: l, i + 1, a, b => by show x :: (l.set i a).set i b = x :: l.set i b; rw [set_set l i a b]
section
variable {K : PySem.W.Frag} {σ : L2.St} {H : Hp} {te : TE} {Q : VK} {g : TG}
theorem r_cListA {a : Addr} {xs : List V} {tt : TT} {vs : List Nat} (h : SqL K H a xs) (q : Lc (Itl K a) g tt te vs σ H Q) : ∃ a', V.ref a = .ref a' ∧ (∃ xs, SqL K H a' xs) ∧ Lc (Itl K a') g tt te vs σ H Q := ⟨a, rfl, ⟨xs, h⟩, q⟩
theorem r_cRng1A {j : Int} {tt : TT} {vs : List Nat} (h0 : -(2 ^ 62) ≤ j) (h1 : j < 2 ^ 62) (q : Lc (Itr 0 j.toNat) g tt te vs σ H Q) : ∃ j' : Int, [V.int j] = [.int j'] ∧ -(2 ^ 62) ≤ j' ∧ j' < 2 ^ 62 ∧ Lc (Itr 0 j'.toNat) g tt te vs σ H Q := ⟨j, rfl, h0, h1, q⟩
theorem r_cRng2A {i j : Int} {tt : TT} {vs : List Nat} (hb : -(2 ^ 62) ≤ i ∧ i < 2 ^ 62 ∧ -(2 ^ 62) ≤ j ∧ j < 2 ^ 62) (q : Lc (Itr i (j - i).toNat) g tt te vs σ H Q) : ∃ i' j' : Int, [V.int i, V.int j] = [.int i', .int j'] ∧ (-(2 ^ 62) ≤ i' ∧ i' < 2 ^ 62 ∧ -(2 ^ 62) ≤ j' ∧ j' < 2 ^ 62) ∧ Lc (Itr i' (j' - i').toNat) g tt te vs σ H Q := ⟨i, j, rfl, hb, q⟩
/-- over a list, each item giving a value by a function -/
theorem lc_map {a : Addr} {xs : List V} {j : Nat} (f : V → V) (hx : SqL K H a xs) (hz : xs.length < 1000000)
    (he : ∀ x, x ∈ xs → ∀ H1, Ex H H1 → ∀ Q' : VK, (∀ H2, Ex H1 H2 → Q' (f x) H2) → te (σ.set j (some x)) H1 Q')
    (q : ∀ p H', H p = none → Ex H H' → H' p = some (.lst (xs.map f)) → Q (.ref p) H') : Lc (Itl K a) (gName j) tYes te [j] σ H Q := fun D hD =>
  lc_list (xs := xs) (fun i H' => Ex H H' ∧ H' D = some (.lst ((xs.take i).map f))) ⟨Evl.Ex.new hD, upd_same⟩ (fun i H' _ p => p.1.l hx)
    (fun i x H' hi p => ⟨by show ((σ.set j none).set j (some x)).set j none = σ.set j none; rw [set_set, set_set], by
      show te ((σ.set j none).set j (some x)) H' _
      rw [set_set]
      refine he x (List.mem_of_getElem? hi) H' p.1 _ fun H2 e2 => ⟨_, e2 D _ p.2, ?_, (Evl.Ex.mut (p.1.trans e2) hD), ?_⟩
      · rw [List.length_map, List.length_take]; exact small_lt (by omega)
      · rw [upd_same, List.take_add_one, hi, List.map_append]; rfl⟩)
    (fun H' p => q D H' hD p.1 (by rw [List.take_length] at p; exact p.2))
/-- over a list of ints, each giving an int -/
theorem lc_ints {a : Addr} {ns : List Int} {j : Nat} (f : Int → Int) (hx : SqL K H a (ns.map V.int)) (hz : ns.length < 1000000)
    (he : ∀ x, x ∈ ns → ∀ H1, Ex H H1 → ∀ Q' : VK, (∀ H2, Ex H1 H2 → Q' (.int (f x)) H2) → te (σ.set j (some (.int x))) H1 Q')
    (q : ∀ p H', H p = none → Ex H H' → H' p = some (.lst ((ns.map f).map V.int)) → Q (.ref p) H') : Lc (Itl K a) (gName j) tYes te [j] σ H Q :=
  lc_map (xs := ns.map V.int) (fun v => match v with | .int x => .int (f x) | v => v) hx (by rw [List.length_map]; exact hz)
    (fun v hv H1 e1 Q' k => by
      obtain ⟨x, hx', rfl⟩ := List.mem_map.mp hv
      exact he x hx' H1 e1 Q' k)
    (fun p H' hp e h => q p H' hp e (by
      rw [List.map_map] at h ⊢
      exact h))
/-- over a range from 0, each giving an int -/
theorem lc_rangeI {n : Nat} {j : Nat} (f : Nat → Int) (hz : n < 1000000)
    (he : ∀ i, i < n → ∀ H1, Ex H H1 → ∀ Q' : VK, (∀ H2, Ex H1 H2 → Q' (.int (f i)) H2) → te (σ.set j (some (.int (i : Int)))) H1 Q')
    (q : ∀ p H', H p = none → Ex H H' → H' p = some (.lst (((List.range n).map f).map V.int)) → Q (.ref p) H') : Lc (Itr 0 n) (gName j) tYes te [j] σ H Q := fun D hD =>
  lc_range (lo := 0) (n := n) (fun i H' => Ex H H' ∧ H' D = some (.lst (((List.range i).map f).map V.int))) ⟨Evl.Ex.new hD, upd_same⟩
    (fun i H' hi p => ⟨by show ((σ.set j none).set j _).set j none = σ.set j none; rw [set_set, set_set], by
      show te ((σ.set j none).set j (some (.int ((0 : Int) + (i : Int))))) H' _
      rw [set_set, show (0 : Int) + (i : Int) = (i : Int) from Int.zero_add _]
      refine he i hi H' p.1 _ fun H2 e2 => ⟨_, e2 D _ p.2, ?_, (Evl.Ex.mut (p.1.trans e2) hD), ?_⟩
      · rw [List.length_map, List.length_map, List.length_range]; exact small_lt (by omega)
      · rw [upd_same, List.range_succ, List.map_append, List.map_append]; rfl⟩)
    (fun H' p => q D H' hD p.1 p.2)
end
/-- an item of a list of ints -/
theorem r_ixI {K : PySem.W.Frag} {H : Hp} {Q : VK} {p : Addr} {i : Int} {ns : List Int} (h : SqL K H p (ns.map V.int)) (h0 : 0 ≤ i) (h1 : i < ns.length) (q : Q (.int (ns.getD i.toNat 0)) H) : rIxL K (.ref p) (.int i) H Q := by
  obtain ⟨k, rfl⟩ : ∃ k : Nat, i = (k : Int) := ⟨i.toNat, by omega⟩
  have hk : k < ns.length := by omega
  refine r_ixL h (atI_nat (j := k) (v := .int ns[k]) ?_) ?_
  · rw [List.getElem?_map, List.getElem?_eq_getElem hk]; rfl
  · rw [Int.toNat_natCast, List.getD_eq_getElem?_getD, List.getElem?_eq_getElem hk] at q
    exact q
/-- a slice of a list of ints, both ends in it -/
theorem cutI (ns : List Int) (lo hi : Option Int) : cutV (ns.map V.int) lo hi = ((ns.drop (HT.sIx ns.length 0 lo)).take (HT.sIx ns.length ns.length hi - HT.sIx ns.length 0 lo)).map V.int := by
  unfold cutV
  rw [List.length_map, List.map_take, List.map_drop]
/-- the part of a list between two bounds -/
def sliceI (ns : List Int) (lo hi : Option Int) : List Int := (ns.drop (HT.sIx ns.length 0 lo)).take (HT.sIx ns.length ns.length hi - HT.sIx ns.length 0 lo)
theorem sliceI_mem {ns : List Int} {lo hi : Option Int} {x : Int} (h : x ∈ sliceI ns lo hi) : x ∈ ns := List.mem_of_mem_drop (List.mem_of_mem_take h)
theorem sliceI_len (ns : List Int) (lo hi : Option Int) : (sliceI ns lo hi).length ≤ ns.length := by
  unfold sliceI
  rw [List.length_take, List.length_drop]; omega
theorem r_slI {K : PySem.W.Frag} {H : Hp} {Q : VK} {a : Addr} {ns : List Int} {lo hi : Option Int} (h : SqL K H a (ns.map V.int)) (q : ∀ p H', H p = none → Ex H H' → H' p = some (.lst ((sliceI ns lo hi).map V.int)) → Q (.ref p) H') : rSlL K (.ref a) lo hi H Q :=
  r_slL h fun p H' hp e hh => q p H' hp e (by rw [cutI] at hh; exact hh)
theorem r_repN {H : Hp} {Q : VK} {l : Addr} {ns : List Int} {k : Int} (h1 : H l = some (.lst (ns.map V.int))) (hk : k < 2 ^ 63) (z : ns.length * k.toNat ≤ 16777216) (q : ∀ p H', H p = none → Ex H H' → H' p = some (.lst (((List.replicate k.toNat ns).flatten).map V.int)) → Q (.ref p) H') (h0 : -(2 ^ 63) ≤ k := by omega) : rRep (.ref l) (.int k) H Q :=
  ⟨l, k, _, rfl, rfl, h1, h0, hk, by rw [List.length_map]; exact small0 z, newL fun p H' a b c => q p H' a b (by rw [List.map_flatten, List.map_replicate]; exact c)⟩
def insI (ns : List Int) (i : Int) (y : Int) : List Int := ns.take i.toNat ++ [y] ++ ns.drop i.toNat
theorem insI_mem {ns : List Int} {i y x : Int} : x ∈ insI ns i y ↔ x = y ∨ x ∈ ns := by
  unfold insI
  have h : x ∈ ns ↔ x ∈ ns.take i.toNat ∨ x ∈ ns.drop i.toNat := by rw [← List.mem_append, List.take_append_drop]
  rw [h, List.mem_append, List.mem_append, List.mem_singleton]
  constructor
  · rintro ((h | h) | h)
    · exact .inr (.inl h)
    · exact .inl h
    · exact .inr (.inr h)
  · rintro (h | h | h)
    · exact .inl (.inr h)
    · exact .inl (.inl h)
    · exact .inr h
theorem insI_len (ns : List Int) (i y : Int) : (insI ns i y).length = ns.length + 1 := by
  unfold insI
  rw [List.length_append, List.length_append, List.length_take, List.length_drop]
  show min i.toNat ns.length + 1 + (ns.length - i.toNat) = _
  omega
theorem r_insertI {H : Hp} {Q : VK} {l : Addr} {ns : List Int} {i y : Int} (h : H l = some (.lst (ns.map V.int))) (z : ns.length < 16777216) (h0 : 0 ≤ i) (h1 : i < 2 ^ 63) (q : ∀ H', Exb l H H' → H' l = some (.lst ((insI ns i y).map V.int)) → Q .non H') : rInsert (.ref l) [.int i, .int y] H Q :=
  r_insert h (by rw [List.length_map]; exact small_lt z) h0 h1 fun H' e hh => q H' e (by
    unfold insI
    rw [List.map_append, List.map_append, List.map_take, List.map_drop]
    exact hh)
theorem r_appendI {H : Hp} {Q : VK} {l : Addr} {ns : List Int} {y : Int} (h : H l = some (.lst (ns.map V.int))) (z : ns.length < 16777216) (q : ∀ H', Exb l H H' → H' l = some (.lst ((ns ++ [y]).map V.int)) → Q .non H') : rAppend (.ref l) [.int y] H Q :=
  r_append h (by rw [List.length_map]; exact small_lt z) fun H' e hh => q H' e (by rw [List.map_append]; exact hh)
theorem r_catI {H : Hp} {Q : VK} {l b : Addr} {ns ms : List Int} (h1 : H l = some (.lst (ns.map V.int))) (h2 : H b = some (.lst (ms.map V.int))) (z : ns.length + ms.length ≤ 16777216) (q : ∀ p H', H p = none → Ex H H' → H' p = some (.lst ((ns ++ ms).map V.int)) → Q (.ref p) H') : rCat (.ref l) (.ref b) H Q :=
  r_cat h1 h2 (by rw [List.length_map, List.length_map]; exact small0 z) fun p H' a e hh => q p H' a e (by rw [List.map_append]; exact hh)
theorem i_t {A B : Prop} (h : A) : if true = true then A else B := iteT h
theorem i_f {A B : Prop} (h : B) : if false = true then A else B := iteF h
theorem i_nt {A B : Prop} (h : B) : if (!true) = true then A else B := iteF h
theorem i_nf {A B : Prop} (h : A) : if (!false) = true then A else B := iteT h
theorem sliceI_to {ns : List Int} {n : Nat} (h : n ≤ ns.length) : sliceI ns none (some (n : Int)) = ns.take n := by
  unfold sliceI
  rw [HT.sIx_none, HT.sIx_nat, List.drop_zero, Nat.min_eq_left h]; rfl
theorem sliceI_toI {ns : List Int} {n : Int} (h0 : 0 ≤ n) : sliceI ns none (some n) = ns.take n.toNat := by
  obtain ⟨k, rfl⟩ : ∃ k : Nat, n = (k : Int) := ⟨n.toNat, by omega⟩
  unfold sliceI
  rw [HT.sIx_none, HT.sIx_nat, List.drop_zero, Int.toNat_natCast, Nat.sub_zero]
  by_cases h : k ≤ ns.length
  · rw [Nat.min_eq_left h]
  · rw [Nat.min_eq_right (by omega), List.take_length, List.take_of_length_le (by omega)]
theorem sliceI_fromI {ns : List Int} {n : Int} (h0 : 0 ≤ n) : sliceI ns (some n) none = ns.drop n.toNat := by
  obtain ⟨k, rfl⟩ : ∃ k : Nat, n = (k : Int) := ⟨n.toNat, by omega⟩
  unfold sliceI
  rw [HT.sIx_none, HT.sIx_nat, Int.toNat_natCast]
  by_cases h : k ≤ ns.length
  · rw [Nat.min_eq_left h, List.take_of_length_le (by rw [List.length_drop]; omega)]
  · rw [Nat.min_eq_right (by omega), List.drop_eq_nil_of_le (by omega : ns.length ≤ k), List.drop_length, List.take_nil]
theorem sliceI_bothI {ns : List Int} {n m : Int} (h0 : 0 ≤ n) (h1 : n ≤ m) : sliceI ns (some n) (some m) = (ns.drop n.toNat).take (m.toNat - n.toNat) := by
  obtain ⟨k, rfl⟩ : ∃ k : Nat, n = (k : Int) := ⟨n.toNat, by omega⟩
  obtain ⟨l, rfl⟩ : ∃ l : Nat, m = (l : Int) := ⟨m.toNat, by omega⟩
  unfold sliceI
  rw [HT.sIx_nat, HT.sIx_nat, Int.toNat_natCast, Int.toNat_natCast]
  by_cases h : k ≤ ns.length
  · rw [Nat.min_eq_left h]
    by_cases h' : l ≤ ns.length
    · rw [Nat.min_eq_left h']
    · rw [Nat.min_eq_right (by omega), List.take_of_length_le (by rw [List.length_drop]; omega), List.take_of_length_le (by rw [List.length_drop]; omega)]
  · rw [Nat.min_eq_right (show ns.length ≤ k by omega), List.drop_length, List.drop_eq_nil_of_le (by omega : ns.length ≤ k)]; simp
/-- what a def that makes a new list of ints promises -/
def RetI (xs : List Int) (H : Hp) (Q : VK) : Prop := ∀ p H', H p = none → Ex H H' → H' p = some (.lst (xs.map V.int)) → Q (.ref p) H'
theorem RetI.go {xs : List Int} {H H1 : Hp} {Q : VK} (k : RetI xs H Q) (e : Ex H H1) {p : Addr} {H2 : Hp} (hp : H1 p = none) (e2 : Ex H1 H2) (h : H2 p = some (.lst (xs.map V.int))) : Q (.ref p) H2 := k p H2 (Evl.fresh_back e hp) (e.trans e2) h
/-! ### the heap since the entry -/
/-- all that stood in H stands in H' (the same as Ex, kept apart) -/
structure Fx (H H' : Hp) : Prop where
  to : Ex H H'
theorem Fx.refl (H : Hp) : Fx H H := ⟨Evl.Ex.refl H⟩
theorem Fx.ex {H H1 H2 : Hp} (f : Fx H H1) (e : Ex H1 H2) : Fx H H2 := ⟨Evl.Ex.trans f.to e⟩
theorem Fx.of {H H1 : Hp} (e : Ex H H1) : Fx H H1 := ⟨e⟩
theorem Fx.mut {H H1 H2 : Hp} {l : Addr} (f : Fx H H1) (b : Exb l H1 H2) (h : H l = none) : Fx H H2 := ⟨Evl.Ex.mutb f.to b h⟩
theorem Fx.free {H H1 : Hp} {p : Addr} (f : Fx H H1) (h : H1 p = none) : H p = none := Evl.fresh_back f.to h
theorem Fx.l {K : PySem.W.Frag} {H H' : Hp} {a : Addr} {xs : List V} (e : Fx H H') (h : SqL K H a xs) : SqL K H' a xs := Evl.ex_l e.to h
theorem hx_e {H H' : Hp} {a : Addr} {o : HO} (e : Ex H H') (h : H a = some o) : H' a = some o := e a o h
theorem hx_b {H H' : Hp} {a l : Addr} {o : HO} (e : Exb l H H') (n : a ≠ l) (h : H a = some o) : H' a = some o := e a n o h
theorem ne_1 {H : Hp} {a l : Addr} {o : HO} (h' : H l = none) (h : H a = some o) : a ≠ l := ne_of_none h h'
theorem ne_2 {H : Hp} {a l : Addr} {o : HO} (h' : H a = none) (h : H l = some o) : a ≠ l := (ne_of_none h h').symm
def tTru (K : PySem.W.Frag) (te : TE) : TT := fun σ H Q => te σ H fun x H' => ∃ k, TruV K x H' k ∧ Q k H'
theorem pt_tru {X : Cx} {a : Expr} {ta : TE} (ha : PE X a ta) (he : ∀ whole, isTrue a X.env whole = (do let v ← whole; standAt a.pos; holding [v] (truthy v)) := by intro _; rfl) : PT X a (tTru X.K ta) := pt_truth ha he
theorem r_tru {K : PySem.W.Frag} {te : TE} {σ : L2.St} {H : Hp} {Q : Bool → Hp → Prop} (h : te σ H fun x H' => ∃ k, TruV K x H' k ∧ Q k H') : tTru K te σ H Q := h
theorem r_truL {K : PySem.W.Frag} {a : Addr} {xs : List V} {H : Hp} {Q : Bool → Prop} (h : SqL K H a xs) (q : Q (!xs.isEmpty)) : ∃ k, TruV K (.ref a) H k ∧ Q k := ⟨_, .inl ⟨xs, h, rfl⟩, q⟩
def RevK (K : PySem.W.Frag) (Q : VK) : V → Hp → Prop := fun x H1 => ∃ a xs, x = .ref a ∧ SqL K H1 a xs ∧ ∀ p, H1 p = none → Q (.ref p) (upd H1 p (.lst xs.reverse))
theorem r_rev {K : PySem.W.Frag} {te : TE} {σ : L2.St} {H : Hp} {Q : VK} (h : te σ H (RevK K Q)) : tRevL K te σ H Q := h
theorem r_revI {K : PySem.W.Frag} {H : Hp} {Q : VK} {a : Addr} {ns : List Int} (h : SqL K H a (ns.map V.int)) (q : ∀ p H', H p = none → Ex H H' → H' p = some (.lst (ns.reverse.map V.int)) → Q (.ref p) H') : RevK K Q (.ref a) H :=
  ⟨a, _, rfl, h, newL fun p H' hp e hh => q p H' hp e (by rw [List.map_reverse]; exact hh)⟩
theorem rg2 {a b : Int} (ha : 0 ≤ a) (ha' : a < 2 ^ 60) (hb : -(2 ^ 60) ≤ b) (hb' : b < 2 ^ 60) : RgC a b 2 ((b - a + 1) / 2).toNat := by
  have e : Builtin.Range.rangeSize a b 2 = (((b - a + 1) / 2).toNat : Int) := by
    unfold Builtin.Range.rangeSize
    rw [if_pos (by decide)]
    split <;> omega
  refine ⟨by decide, by decide, ?_, e⟩
  unfold Builtin.Range.small
  rw [e]
  simp only [Builtin.Range.rangeFitsLong, Bool.and_eq_true, Bool.or_eq_true, decide_eq_true_eq, beq_iff_eq, show ((2 : Int) > 0) by decide, if_true]
  omega
theorem r_iRng3 {ta : TA} {σ : L2.St} {H : Hp} {R : It → Hp → Prop} (h : ta σ H fun vs H1 => ∃ (i j c : Int) (n : Nat), vs = [.int i, .int j, .int c] ∧ RgC i j c n ∧ R (Itc i c n) H1) : iRng3 ta σ H R := h
theorem r_iRng3A {g : TG} {tb : TS} {D : Ends} {σ : L2.St} {H : Hp} {i j c : Int} {n : Nat} (h : RgC i j c n) (q : Lp (Itc i c n) g tb D σ H) : ∃ (i' j' c' : Int) (n : Nat), [V.int i, V.int j, V.int c] = [.int i', .int j', .int c'] ∧ RgC i' j' c' n ∧ Lp (Itc i' c' n) g tb D σ H := ⟨i, j, c, n, rfl, h, q⟩
/-- over a range from lo, each giving an int -/
theorem lc_rangeL {σ : L2.St} {H : Hp} {te : TE} {Q : VK} {lo : Int} {n : Nat} {j : Nat} (f : Nat → Int) (hz : n < 1000000)
    (he : ∀ i, i < n → ∀ H1, Ex H H1 → ∀ Q' : VK, (∀ H2, Ex H1 H2 → Q' (.int (f i)) H2) → te (σ.set j (some (.int (lo + (i : Int))))) H1 Q')
    (q : ∀ p H', H p = none → Ex H H' → H' p = some (.lst (((List.range n).map f).map V.int)) → Q (.ref p) H') : Lc (Itr lo n) (gName j) tYes te [j] σ H Q := fun D hD =>
  lc_range (lo := lo) (n := n) (fun i H' => Ex H H' ∧ H' D = some (.lst (((List.range i).map f).map V.int))) ⟨Evl.Ex.new hD, upd_same⟩
    (fun i H' hi p => ⟨by show ((σ.set j none).set j _).set j none = σ.set j none; rw [set_set, set_set], by
      show te ((σ.set j none).set j (some (.int (lo + (i : Int))))) H' _
      rw [set_set]
      refine he i hi H' p.1 _ fun H2 e2 => ⟨_, e2 D _ p.2, ?_, (Evl.Ex.mut (p.1.trans e2) hD), ?_⟩
      · rw [List.length_map, List.length_map, List.length_range]; exact small_lt (by omega)
      · rw [upd_same, List.range_succ, List.map_append, List.map_append]; rfl⟩)
    (fun H' p => q D H' hD p.1 p.2)
theorem r_lenI {K : PySem.W.Frag} {H : Hp} {Q : VK} {p : Addr} {ns : List Int} (h : SqL K H p (ns.map V.int)) (q : Q (.int ns.length) H) : rLenS K [.ref p] H Q := ⟨p, _, rfl, .inl h, by rw [List.length_map]; exact q⟩
end RB

set_option linter.all false
/-! Lists of coefficients. -/
namespace ML
/-- the coefficient at a place, 0 beyond -/
def cf (P : List Int) (k : Nat) : Int := P.getD k 0
theorem cf_nil (k : Nat) : cf [] k = 0 := by simp [cf]
theorem cf_zero (x : Int) (r : List Int) : cf (x :: r) 0 = x := rfl
theorem cf_succ (x : Int) (r : List Int) (k : Nat) : cf (x :: r) (k + 1) = cf r k := by simp [cf]
theorem cf_get {P : List Int} {k : Nat} (h : k < P.length) : cf P k = P[k] := by
  unfold cf; rw [List.getD_eq_getElem?_getD, List.getElem?_eq_getElem h]; rfl
theorem cf_some {P : List Int} {k : Nat} {x : Int} (h : P[k]? = some x) : cf P k = x := by
  unfold cf; rw [List.getD_eq_getElem?_getD, h]; rfl
theorem cf_beyond {P : List Int} {k : Nat} (h : P.length ≤ k) : cf P k = 0 := by
  unfold cf; rw [List.getD_eq_getElem?_getD, List.getElem?_eq_none h]; rfl
theorem cf_getElem? {P : List Int} {k : Nat} (h : k < P.length) : P[k]? = some (cf P k) := by
  rw [cf_get h, List.getElem?_eq_getElem h]
/-- two lists of one length with the same coefficients are alike -/
theorem ext {P Q : List Int} (hl : P.length = Q.length) (h : ∀ k, k < P.length → cf P k = cf Q k) : P = Q := by
  apply List.ext_getElem hl
  intro i h1 h2
  rw [← cf_get h1, ← cf_get h2]
  exact h i h1
/-- without noughts at the end -/
def Trim (P : List Int) : Prop := P = [] ∨ cf P (P.length - 1) ≠ 0
theorem trim_ext {P Q : List Int} (hP : Trim P) (hQ : Trim Q) (h : ∀ k, cf P k = cf Q k) : P = Q := by
  have aux : ∀ {P Q : List Int}, Trim P → (∀ k, cf P k = cf Q k) → P.length ≤ Q.length := fun {P Q} hP h => by
    rcases hP with rfl | hP
    · exact Nat.zero_le _
    · apply Nat.le_of_not_lt
      intro hl
      have := h (P.length - 1)
      rw [cf_beyond (P := Q) (by omega)] at this
      exact hP this
  exact ext (Nat.le_antisymm (aux hP h) (aux hQ fun k => (h k).symm)) fun k _ => h k
def trimL : List Int → List Int
  | [] => []
  | x :: r => match trimL r with
    | [] => if x = 0 then [] else [x]
    | y :: s => x :: y :: s
theorem cf_trimL : ∀ (P : List Int) (k : Nat), cf (trimL P) k = cf P k
  | [], k => rfl
  | x :: r, k => by
    have ih := cf_trimL r
    unfold trimL
    split
    · next e =>
      rw [e] at ih
      split
      · next hx =>
        subst hx
        cases k with
        | zero => rfl
        | succ k => rw [cf_succ, ← ih k, cf_nil, cf_nil]
      · cases k with
        | zero => rfl
        | succ k => rw [cf_succ, cf_succ, ← ih k]
    · next y s e =>
      rw [e] at ih
      cases k with
      | zero => rfl
      | succ k => rw [cf_succ, cf_succ, ← ih k]
theorem trim_trimL : ∀ P : List Int, Trim (trimL P)
  | [] => .inl rfl
  | x :: r => by
    have ih := trim_trimL r
    unfold trimL
    split
    · split
      · exact .inl rfl
      · next hx => exact .inr hx
    · next y s e =>
      rw [e] at ih
      rcases ih with h | h
      · cases h
      · refine .inr ?_
        show cf (x :: y :: s) (s.length + 1) ≠ 0
        rw [cf_succ]
        exact h
theorem trimL_eq {P Q : List Int} (hQ : Trim Q) (h : ∀ k, cf Q k = cf P k) : trimL P = Q := trim_ext (trim_trimL P) hQ fun k => by rw [cf_trimL, h]
theorem trimL_self {P : List Int} (h : Trim P) : trimL P = P := trimL_eq h fun _ => rfl
theorem trimL_trimL (P : List Int) : trimL (trimL P) = trimL P := trimL_self (trim_trimL P)
theorem trimL_len : ∀ P : List Int, (trimL P).length ≤ P.length
  | [] => Nat.le_refl _
  | x :: r => by
    have ih := trimL_len r
    unfold trimL
    split
    · split <;> simp
    · next y s e =>
      rw [e] at ih
      simp only [List.length_cons] at ih ⊢
      omega
theorem trimL_congr {P Q : List Int} (h : ∀ k, cf P k = cf Q k) : trimL P = trimL Q := trim_ext (trim_trimL P) (trim_trimL Q) fun k => by rw [cf_trimL, cf_trimL, h]
/-- what the loop finds -/
theorem trimL_take {P : List Int} {n : Nat} (hn : n ≤ P.length) (h0 : ∀ k, n ≤ k → cf P k = 0) (h1 : n = 0 ∨ cf P (n - 1) ≠ 0) : trimL P = P.take n := by
  have hc : ∀ k, cf (P.take n) k = cf P k := fun k => by
    by_cases hk : k < n
    · unfold cf
      rw [List.getD_eq_getElem?_getD, List.getD_eq_getElem?_getD, List.getElem?_take_of_lt hk]
    · rw [h0 k (by omega), cf_beyond (by rw [List.length_take]; omega)]
  refine trimL_eq ?_ hc
  rcases h1 with h1 | h1
  · left; subst h1; rfl
  · by_cases hz : n = 0
    · left; subst hz; rfl
    · right
      rw [List.length_take, Nat.min_eq_left hn, hc]
      exact h1
/-- all coefficients below 2 ^ n -/
def Sz (n : Nat) (P : List Int) : Prop := ∀ x ∈ P, x.natAbs < 2 ^ n
theorem Sz.cf {n : Nat} {P : List Int} (h : Sz n P) (k : Nat) : (cf P k).natAbs < 2 ^ n := by
  by_cases hk : k < P.length
  · rw [cf_get hk]; exact h _ (List.getElem_mem hk)
  · rw [cf_beyond (by omega)]; exact Nat.two_pow_pos n
theorem Sz.of {n : Nat} {P : List Int} (h : ∀ k, k < P.length → (ML.cf P k).natAbs < 2 ^ n) : Sz n P := fun x hx => by
  obtain ⟨k, hk, rfl⟩ := List.getElem_of_mem hx
  rw [← cf_get hk]; exact h k hk
theorem Sz.mono {n m : Nat} {P : List Int} (h : Sz n P) (hm : n ≤ m) : Sz m P := fun x hx => Nat.lt_of_lt_of_le (h x hx) (Nat.pow_le_pow_right (by decide) hm)
theorem Sz.trim {n : Nat} {P : List Int} (h : Sz n P) : Sz n (trimL P) := Sz.of fun k _ => by rw [cf_trimL]; exact h.cf k
theorem Sz.take {n : Nat} {P : List Int} (h : Sz n P) (k : Nat) : Sz n (P.take k) := fun x hx => h x (List.mem_of_mem_take hx)
theorem Sz.drop {n : Nat} {P : List Int} (h : Sz n P) (k : Nat) : Sz n (P.drop k) := fun x hx => h x (List.mem_of_mem_drop hx)
theorem Sz.append {n : Nat} {P Q : List Int} (h : Sz n P) (h' : Sz n Q) : Sz n (P ++ Q) := fun x hx => (List.mem_append.mp hx).elim (h x) (h' x)
theorem Sz.nil (n : Nat) : Sz n [] := fun x hx => by cases hx
theorem Sz.cons {n : Nat} {x : Int} {P : List Int} (hx : x.natAbs < 2 ^ n) (h : Sz n P) : Sz n (x :: P) := fun y hy => (List.mem_cons.mp hy).elim (fun e => by rw [e]; exact hx) (h y)
theorem Sz.rep0 (n k : Nat) : Sz n (List.replicate k 0) := fun x hx => by
  rw [List.mem_replicate] at hx
  rw [hx.2]; exact Nat.two_pow_pos n
theorem Sz.reverse {n : Nat} {P : List Int} (h : Sz n P) : Sz n P.reverse := fun x hx => h x (List.mem_reverse.mp hx)
theorem cf_map {f : Int → Int} (h0 : f 0 = 0) (P : List Int) (k : Nat) : cf (P.map f) k = f (cf P k) := by
  unfold cf
  rw [List.getD_eq_getElem?_getD, List.getD_eq_getElem?_getD, List.getElem?_map]
  cases P[k]? with
  | none => exact h0.symm
  | some x => rfl
theorem cf_range {n : Nat} {f : Nat → Int} {k : Nat} (h : k < n) : cf ((List.range n).map f) k = f k := by
  rw [cf_get (by simpa using h)]; simp
theorem cf_range_beyond {n : Nat} {f : Nat → Int} {k : Nat} (h : n ≤ k) : cf ((List.range n).map f) k = 0 := cf_beyond (by simpa using h)
theorem cf_set {P : List Int} {i k : Nat} {x : Int} (h : i < P.length) : cf (P.set i x) k = if k = i then x else cf P k := by
  unfold cf
  rw [List.getD_eq_getElem?_getD, List.getElem?_set, List.getD_eq_getElem?_getD]
  by_cases e : i = k
  · subst e; simp [h]
  · rw [if_neg e, if_neg (fun z => e z.symm)]
theorem cf_append_left {P Q : List Int} {k : Nat} (h : k < P.length) : cf (P ++ Q) k = cf P k := by
  unfold cf
  rw [List.getD_eq_getElem?_getD, List.getElem?_append_left h, List.getD_eq_getElem?_getD]
theorem cf_append_right {P Q : List Int} {k : Nat} (h : P.length ≤ k) : cf (P ++ Q) k = cf Q (k - P.length) := by
  unfold cf
  rw [List.getD_eq_getElem?_getD, List.getElem?_append_right h, List.getD_eq_getElem?_getD]
theorem cf_rep0 (n k : Nat) : cf (List.replicate n 0) k = 0 := by
  unfold cf
  rw [List.getD_eq_getElem?_getD, List.getElem?_replicate]
  split <;> rfl
theorem cf_drop (P : List Int) (n k : Nat) : cf (P.drop n) k = cf P (n + k) := by
  unfold cf
  rw [List.getD_eq_getElem?_getD, List.getElem?_drop, List.getD_eq_getElem?_getD]
theorem cf_take {P : List Int} {n k : Nat} (h : k < n) : cf (P.take n) k = cf P k := by
  unfold cf
  rw [List.getD_eq_getElem?_getD, List.getD_eq_getElem?_getD, List.getElem?_take_of_lt h]

/-! ### sums and products -/
def addL (P Q : List Int) : List Int := trimL ((List.range (max P.length Q.length)).map fun k => cf P k + cf Q k)
def subL (P Q : List Int) : List Int := trimL ((List.range (max P.length Q.length)).map fun k => cf P k - cf Q k)
theorem cf_addL (P Q : List Int) (k : Nat) : cf (addL P Q) k = cf P k + cf Q k := by
  unfold addL
  rw [cf_trimL]
  by_cases h : k < max P.length Q.length
  · rw [cf_range h]
  · rw [cf_range_beyond (by omega), cf_beyond (P := P) (by omega), cf_beyond (P := Q) (by omega)]; rfl
theorem cf_subL (P Q : List Int) (k : Nat) : cf (subL P Q) k = cf P k - cf Q k := by
  unfold subL
  rw [cf_trimL]
  by_cases h : k < max P.length Q.length
  · rw [cf_range h]
  · rw [cf_range_beyond (by omega), cf_beyond (P := P) (by omega), cf_beyond (P := Q) (by omega)]; rfl
theorem trim_addL (P Q : List Int) : Trim (addL P Q) := trim_trimL _
theorem trim_subL (P Q : List Int) : Trim (subL P Q) := trim_trimL _
/-- the sum of f over 0 .. n - 1 -/
def sm : Nat → (Nat → Int) → Int
  | 0, _ => 0
  | n + 1, f => sm n f + f n
theorem sm_succ (n : Nat) (f : Nat → Int) : sm (n + 1) f = sm n f + f n := rfl
theorem sm_congr {n : Nat} {f g : Nat → Int} (h : ∀ i, i < n → f i = g i) : sm n f = sm n g := by
  induction n with
  | zero => rfl
  | succ n ih => unfold sm; rw [ih fun i hi => h i (by omega), h n (by omega)]
theorem sm_zero {n : Nat} {f : Nat → Int} (h : ∀ i, i < n → f i = 0) : sm n f = 0 := by
  induction n with
  | zero => rfl
  | succ n ih => unfold sm; rw [ih fun i hi => h i (by omega), h n (by omega)]; rfl
theorem sm_add (n : Nat) (f g : Nat → Int) : sm n (fun i => f i + g i) = sm n f + sm n g := by
  induction n with
  | zero => rfl
  | succ n ih => simp only [sm_succ]; rw [ih]; omega
theorem sm_sub (n : Nat) (f g : Nat → Int) : sm n (fun i => f i - g i) = sm n f - sm n g := by
  induction n with
  | zero => rfl
  | succ n ih => simp only [sm_succ]; rw [ih]; omega
theorem sm_mul (n : Nat) (c : Int) (f : Nat → Int) : sm n (fun i => c * f i) = c * sm n f := by
  induction n with
  | zero => simp [sm]
  | succ n ih => unfold sm; rw [ih, Int.mul_add]
theorem sm_mul_r (n : Nat) (c : Int) (f : Nat → Int) : sm n (fun i => f i * c) = sm n f * c := by
  rw [Int.mul_comm, ← sm_mul]; exact sm_congr fun i _ => Int.mul_comm _ _
theorem sm_neg (n : Nat) (f : Nat → Int) : sm n (fun i => - f i) = - sm n f := by
  induction n with
  | zero => rfl
  | succ n ih => simp only [sm_succ]; rw [ih]; omega
theorem sm_ext {n m : Nat} {f : Nat → Int} (h : n ≤ m) (h0 : ∀ i, n ≤ i → i < m → f i = 0) : sm m f = sm n f := by
  induction m with
  | zero => have : n = 0 := by omega
            subst this; rfl
  | succ m ih =>
    by_cases e : n = m + 1
    · subst e; rfl
    · rw [sm_succ, ih (by omega) fun i h1 h2 => h0 i h1 (by omega), h0 m (by omega) (by omega)]
      omega
theorem sm_single {n : Nat} {f : Nat → Int} {j : Nat} (hj : j < n) (h : ∀ i, i < n → i ≠ j → f i = 0) : sm n f = f j := by
  induction n with
  | zero => omega
  | succ n ih =>
    unfold sm
    by_cases e : j = n
    · subst e
      rw [sm_zero fun i hi => h i (by omega) (by omega)]; omega
    · rw [ih (by omega) fun i hi hn => h i (by omega) hn, h n (by omega) (fun z => e z.symm)]; omega
theorem sm_shift (n : Nat) (f : Nat → Int) : sm (n + 1) f = f 0 + sm n (fun i => f (i + 1)) := by
  induction n with
  | zero => simp [sm]
  | succ n ih =>
    rw [sm, ih]
    show f 0 + sm n (fun i => f (i + 1)) + f (n + 1) = f 0 + (sm n (fun i => f (i + 1)) + f (n + 1))
    omega
theorem sm_rev (n : Nat) (f : Nat → Int) : sm n (fun i => f (n - 1 - i)) = sm n f := by
  induction n generalizing f with
  | zero => rfl
  | succ n ih =>
    rw [sm_shift, sm]
    have e : sm n (fun i => f (n + 1 - 1 - (i + 1))) = sm n f := by
      rw [← ih f]
      exact sm_congr fun i hi => by congr 1; omega
    rw [e]
    show f (n - 0) + sm n f = sm n f + f n
    rw [Nat.sub_zero]; omega
theorem sm_swap (n m : Nat) (f : Nat → Nat → Int) : sm n (fun i => sm m (fun j => f i j)) = sm m (fun j => sm n (fun i => f i j)) := by
  induction n with
  | zero => rw [sm]; exact (sm_zero fun _ _ => rfl).symm
  | succ n ih =>
    rw [sm, ih, ← sm_add]
    exact sm_congr fun j _ => rfl
/-- the coefficient of a product at a place -/
def cv (P Q : List Int) (k : Nat) : Int := sm (k + 1) fun i => cf P i * cf Q (k - i)
def mulL (P Q : List Int) : List Int := trimL ((List.range (P.length + Q.length)).map (cv P Q))
theorem cv_beyond {P Q : List Int} {k : Nat} (h : P.length + Q.length ≤ k + 1) : cv P Q k = 0 := sm_zero fun i hi => by
  by_cases h1 : i < P.length
  · rw [cf_beyond (P := Q) (by omega), Int.mul_zero]
  · rw [cf_beyond (P := P) (by omega), Int.zero_mul]
theorem cf_mulL (P Q : List Int) (k : Nat) : cf (mulL P Q) k = cv P Q k := by
  unfold mulL
  rw [cf_trimL]
  by_cases h : k < P.length + Q.length
  · rw [cf_range h]
  · rw [cf_range_beyond (by omega), cv_beyond (by omega)]
theorem trim_mulL (P Q : List Int) : Trim (mulL P Q) := trim_trimL _
/-- the product as it stands behind k turns of the outer loop and i of the inner one -/
def pcv (P Q : List Int) (k j : Nat) : Int := sm k fun a => if a ≤ j then cf P a * cf Q (j - a) else 0
def pcw (P Q : List Int) (k i j : Nat) : Int := pcv P Q k j + if k ≤ j ∧ j - k < i then cf P k * cf Q (j - k) else 0
theorem pcw_zero (P Q : List Int) (k j : Nat) : pcw P Q k 0 j = pcv P Q k j := by
  unfold pcw
  rw [if_neg (by omega)]; omega
theorem pcw_full (P Q : List Int) (k j : Nat) : pcw P Q k Q.length j = pcv P Q (k + 1) j := by
  unfold pcw
  show _ = pcv P Q k j + (if k ≤ j then cf P k * cf Q (j - k) else 0)
  by_cases h : k ≤ j
  · rw [if_pos h]
    by_cases h2 : j - k < Q.length
    · rw [if_pos ⟨h, h2⟩]
    · rw [if_neg (by omega), cf_beyond (P := Q) (by omega), Int.mul_zero]
  · rw [if_neg h, if_neg (by omega)]
theorem pcw_step (P Q : List Int) (k i j : Nat) : pcw P Q k (i + 1) j = if j = k + i then pcw P Q k i j + cf P k * cf Q i else pcw P Q k i j := by
  unfold pcw
  by_cases h : j = k + i
  · subst h
    rw [if_pos rfl, if_pos (by omega), if_neg (by omega), Nat.add_sub_cancel_left]; omega
  · rw [if_neg h]
    by_cases h2 : k ≤ j ∧ j - k < i
    · rw [if_pos h2, if_pos (by omega)]
    · rw [if_neg h2, if_neg (by omega)]
theorem pcv_full (P Q : List Int) (j : Nat) : pcv P Q P.length j = cv P Q j := by
  unfold pcv cv
  by_cases h : P.length ≤ j + 1
  · rw [sm_ext (f := fun i => cf P i * cf Q (j - i)) h fun i h1 h2 => by rw [cf_beyond (P := P) h1, Int.zero_mul]]
    exact sm_congr fun i hi => if_pos (by omega)
  · rw [sm_ext (n := j + 1) (by omega) fun i h1 h2 => if_neg (by omega)]
    exact sm_congr fun i hi => if_pos (by omega)
theorem mulL_of {P Q R : List Int} (hl : R.length = P.length + Q.length) (h : ∀ j, cf R j = pcv P Q P.length j) : trimL R = mulL P Q := by
  refine trim_ext (trim_trimL _) (trim_mulL P Q) fun j => ?_
  rw [cf_trimL, h, pcv_full, cf_mulL]
def linL (P Q : List Int) (f : Int) : List Int := trimL ((List.range (max P.length Q.length)).map fun k => cf P k + f * cf Q k)
theorem linL_one (P Q : List Int) : linL P Q 1 = addL P Q := by
  unfold linL addL
  congr 1
  apply List.map_congr_left
  intro k _
  rw [Int.one_mul]
theorem linL_neg (P Q : List Int) : linL P Q (-1) = subL P Q := by
  unfold linL subL
  congr 1
  apply List.map_congr_left
  intro k _
  omega
theorem linL_of {P Q R : List Int} {f : Int} (hl : R.length = max P.length Q.length) (h : ∀ j, j < max P.length Q.length → cf R j = cf P j + f * cf Q j) : trimL R = linL P Q f := by
  unfold linL
  congr 1
  refine ext (by simpa using hl) fun k hk => ?_
  rw [h k (by omega), cf_range (by omega)]
/-! ### slope, turned, flipped, lifted -/
def slopeL (P : List Int) : List Int := (List.range (P.length - 1)).map fun (k : Nat) => ((k : Int) + 1) * cf P (k + 1)
def turnL (P : List Int) : List Int := (List.range P.length).map fun k => if k % 2 = 1 then - cf P k else cf P k
def flipL (P : List Int) : List Int := trimL P.reverse
/-- each coefficient at so many times its place -/
def liftL (P : List Int) (m : Nat) : List Int := (List.range (if P.length = 0 then 0 else m * (P.length - 1) + 1)).map fun j => if j % m = 0 then cf P (j / m) else 0
theorem cf_slopeL (P : List Int) (k : Nat) : cf (slopeL P) k = ((k : Int) + 1) * cf P (k + 1) := by
  unfold slopeL
  by_cases h : k < P.length - 1
  · rw [cf_range h]
  · rw [cf_range_beyond (by omega), cf_beyond (P := P) (show P.length ≤ k + 1 by omega), Int.mul_zero]
theorem cf_turnL (P : List Int) (k : Nat) : cf (turnL P) k = if k % 2 = 1 then - cf P k else cf P k := by
  unfold turnL
  by_cases h : k < P.length
  · rw [cf_range h]
  · rw [cf_range_beyond (by omega), cf_beyond (P := P) (by omega)]; split <;> rfl
theorem turnL_len (P : List Int) : (turnL P).length = P.length := by unfold turnL; simp
theorem turnL_turnL (P : List Int) : turnL (turnL P) = P := by
  refine ext (by rw [turnL_len, turnL_len]) fun k _ => ?_
  rw [cf_turnL, cf_turnL]
  by_cases h : k % 2 = 1
  · rw [if_pos h, if_pos h]; omega
  · rw [if_neg h, if_neg h]
theorem cf_reverse {P : List Int} {k : Nat} (h : k < P.length) : cf P.reverse k = cf P (P.length - 1 - k) := by
  unfold cf
  rw [List.getD_eq_getElem?_getD, List.getElem?_reverse h, List.getD_eq_getElem?_getD]
theorem liftL_len (P : List Int) (m : Nat) : (liftL P m).length = if P.length = 0 then 0 else m * (P.length - 1) + 1 := by unfold liftL; simp
theorem div_bound {j m n : Nat} (hm : 0 < m) (h : j < m * n + 1) : j / m ≤ n := by
  rw [← Nat.lt_add_one_iff, Nat.div_lt_iff_lt_mul hm, Nat.add_mul, Nat.mul_comm n m]; omega
theorem liftL_step {P R : List Int} {m i : Nat} (hm : 0 < m) (hi : i < P.length) (hR : R = liftL (P.take i) m) : (if i = 0 then R else R ++ List.replicate (m - 1) 0) ++ [cf P i] = liftL (P.take (i + 1)) m := by
  have lt1 : (P.take i).length = i := by rw [List.length_take]; omega
  have lt2 : (P.take (i + 1)).length = i + 1 := by rw [List.length_take]; omega
  have lR : R.length = if i = 0 then 0 else m * (i - 1) + 1 := by rw [hR, liftL_len, lt1]
  have lL : (if i = 0 then R else R ++ List.replicate (m - 1) 0).length = m * i := by
    by_cases h : i = 0
    · subst h; rw [if_pos rfl, lR, if_pos rfl]; rfl
    · rw [if_neg h, List.length_append, List.length_replicate, lR, if_neg h]
      have : m * i = m * (i - 1) + m := by rw [← Nat.mul_succ]; congr 1; omega
      omega
  refine ext ?_ fun k hk => ?_
  · rw [List.length_append, lL, liftL_len, lt2, if_neg (by omega), Nat.add_sub_cancel]; rfl
  · rw [List.length_append, lL] at hk
    have hk' : k < m * i + 1 := hk
    have hr : cf (liftL (P.take (i + 1)) m) k = if k % m = 0 then cf (P.take (i + 1)) (k / m) else 0 := by
      unfold liftL
      rw [lt2, if_neg (by omega), Nat.add_sub_cancel, cf_range hk']
    rw [hr]
    by_cases hlast : k = m * i
    · rw [cf_append_right (by omega), lL, hlast, Nat.sub_self, Nat.mul_mod_right, if_pos rfl, Nat.mul_div_cancel_left _ hm, cf_take (by omega)]; rfl
    · rw [cf_append_left (by omega)]
      have i0 : i ≠ 0 := by intro e; subst e; omega
      rw [if_neg i0]
      rw [if_neg i0] at lR
      have em : m * i = m * (i - 1) + m := by rw [← Nat.mul_succ]; congr 1; omega
      by_cases hin : k < R.length
      · rw [cf_append_left hin, hR]
        unfold liftL
        rw [lt1, if_neg i0, cf_range (by omega)]
        split
        · have := div_bound hm (show k < m * (i - 1) + 1 by omega)
          rw [cf_take (by omega), cf_take (by omega)]
        · rfl
      · rw [cf_append_right (by omega), cf_rep0]
        have hd : k / m = i - 1 := by
          apply Nat.div_eq_of_lt_le
          · rw [Nat.mul_comm]; omega
          · rw [Nat.succ_mul, Nat.mul_comm]; omega
        have hne : k % m ≠ 0 := fun e => by
          have := Nat.div_add_mod k m
          rw [hd, e] at this
          omega
        rw [if_neg hne]
theorem liftL_all (P : List Int) (m : Nat) : liftL (P.take P.length) m = liftL P m := by rw [List.take_length]
theorem liftL_nil (P : List Int) (m : Nat) : liftL (P.take 0) m = [] := by simp [liftL]
theorem cf_liftL (P : List Int) {m : Nat} (hm : 0 < m) (j : Nat) : cf (liftL P m) j = if j % m = 0 then cf P (j / m) else 0 := by
  unfold liftL
  by_cases h : j < (if P.length = 0 then 0 else m * (P.length - 1) + 1)
  · rw [cf_range h]
  · rw [cf_range_beyond (by omega)]
    split
    · next e =>
      refine (cf_beyond ?_).symm
      by_cases h0 : P.length = 0
      · rw [h0]; exact Nat.zero_le _
      · rw [if_neg h0] at h
        have := Nat.div_add_mod j m
        rw [e] at this
        apply Nat.le_of_not_lt
        intro hlt
        have h2 : m * (j / m) ≤ m * (P.length - 1) := Nat.mul_le_mul_left m (by omega)
        omega
    · rfl
theorem trim_liftL {P : List Int} {m : Nat} (hm : 0 < m) (h : Trim P) : Trim (liftL P m) := by
  by_cases h0 : P.length = 0
  · left; unfold liftL; rw [if_pos h0]; rfl
  · right
    rw [liftL_len, if_neg h0, Nat.add_sub_cancel, cf_liftL P hm, Nat.mul_mod_right, if_pos rfl, Nat.mul_div_cancel_left _ hm]
    rcases h with h | h
    · rw [h] at h0; exact absurd rfl h0
    · exact h
end ML

set_option linter.all false
set_option maxRecDepth 100000
set_option maxHeartbeats 4000000
set_option exponentiation.threshold 100000
namespace RP
open PySem PySem.Spec PyProof.Rows L2 RB
open Evl (Ex rLenS rListS rMax2 tCut pss_cut)
local macro_rules | `(tactic| walk_at "hp") => `(tactic| first
  | assumption
  | exact hx_e (by assumption) (by walk_at "hp")
  | exact hx_b (by assumption) (by walk_at "ne") (by walk_at "hp"))
local macro_rules | `(tactic| walk_at "ne") => `(tactic| first
  | assumption
  | exact Ne.symm (by assumption)
  | exact ne_1 (by assumption) (by walk_at "hp")
  | exact ne_2 (by assumption) (by walk_at "hp"))
local macro_rules | `(tactic| walk_at "sq") => `(tactic| first
  | assumption
  | exact Fx.l (by assumption) (by assumption)
  | exact Evl.Ex.l (by assumption) (by assumption)
  | exact SqL.inj (by walk_at "hp"))
local macro_rules | `(tactic| walk_at "rd") => `(tactic| repeat (first
  | with_reducible refine r_seq ?_
  | with_reducible refine r_asg ?_
  | with_reducible refine r_gn ?_
  | ((with_reducible refine' r_var ?h ?_); (case h => exact rfl))
  | with_reducible refine r_c ?_
  | with_reducible refine r_op ?_
  | with_reducible refine r_un ?_
  | with_reducible refine r_add ?_
  | with_reducible refine r_sub ?_
  | ((with_reducible refine' r_pow ?h ?_); (case h => exact ⟨by decide, by decide, by decide⟩))
  | ((with_reducible refine' r_mod ?h ?_); (case h => first | decide | omega))
  | ((with_reducible refine' r_div ?h ?_); (case h => exact ⟨by decide, by decide⟩))
  | with_reducible refine r_lc ?_
  | ((with_reducible refine' r_cListA ?h ?_); (case h => walk_at "sq"))
  | with_reducible refine r_lt ?_
  | with_reducible refine r_le ?_
  | with_reducible refine r_gt ?_
  | with_reducible refine r_ge ?_
  | with_reducible refine r_eqI ?_
  | with_reducible refine r_neI ?_
  | with_reducible refine r_eqB ?_
  | with_reducible refine r_neg ?_
  | with_reducible refine r_ret ?_
  | with_reducible refine r_ifS ?_
  | with_reducible refine r_test ?_
  | with_reducible refine r_B ?_
  | with_reducible refine r_bl ?_
  | with_reducible refine r_int ?_
  | with_reducible refine r_cb ?_
  | with_reducible refine r_cons ?_
  | with_reducible refine r_nil ?_
  | with_reducible refine r_abs ?_
  | with_reducible refine r_max2 ?_
  | with_reducible refine r_min2 ?_
  | ((with_reducible refine' r_lenI ?h ?_); (case h => walk_at "sq"))
  | ((with_reducible refine' r_len ?h ?_); (case h => walk_at "sq"))
  | with_reducible refine r_tru ?_
  | with_reducible refine r_rev ?_
  | with_reducible refine r_iRng3 ?_
  | ((with_reducible refine' r_ixL ?h ?a ?_); (case h => walk_at "sq"); (case a => assumption))
  | ((with_reducible refine' r_ixT ?h ?a ?_); (case h => walk_at "sq"); (case a => assumption))
  | with_reducible refine r_intI ?_
  | with_reducible refine r_intB ?_
  | with_reducible refine r_call ?_
  | with_reducible refine r_lst ?_
  | with_reducible refine r_tup ?_
  | with_reducible refine r_drop ?_
  | with_reducible refine r_and ?_
  | with_reducible refine r_or ?_
  | with_reducible refine r_not ?_
  | with_reducible refine r_andV ?_
  | with_reducible refine r_orV ?_
  | with_reducible refine r_notV ?_
  | with_reducible refine r_if ?_
  | with_reducible refine r_bm ?_
  | with_reducible refine r_bm0 ?_
  | with_reducible refine r_sub_ ?_
  | with_reducible refine r_sl ?_
  | with_reducible refine r_part ?_
  | with_reducible refine r_nopart ?_
  | with_reducible refine r_par ?_
  | with_reducible refine r_par2 ?_
  | with_reducible refine r_for ?_
  | with_reducible refine r_iList ?_
  | ((with_reducible refine' r_iListA ?h ?_); (case h => walk_at "sq"))
  | with_reducible refine r_iTup ?_
  | ((with_reducible refine' r_iTupA ?h ?_); (case h => walk_at "sq"))
  | with_reducible refine r_iRng1 ?_
  | with_reducible refine r_iRng2 ?_
  | with_reducible refine r_iRev ?_
  | ((with_reducible refine' r_iRevA ?h ?_); (case h => walk_at "sq"))
  | with_reducible refine r_iEnum ?_
  | ((with_reducible refine' r_iEnumA ?h ?_); (case h => walk_at "sq"))
  | with_reducible refine r_iRevR ?_
  | with_reducible refine r_next ?_
  | ((with_reducible refine' r_ty ?h ?_); (case h => exact tyL (by walk_at "hp")))
  | with_reducible refine i_t ?_
  | with_reducible refine i_f ?_
  | with_reducible refine i_nt ?_
  | with_reducible refine i_nf ?_
  | walk_at "call"))
/-! #### poly -/
--USE ML
def sp_poly (K : PySem.W.Frag) (Cof : String → Addr) : Sp := fun vs H Q _ => ∃ (a : Addr) (ns : List Int), vs = [.ref a] ∧ SqL K H a (ns.map V.int) ∧ ns.length ≤ 1000000 ∧ RetI (ML.trimL ns) H Q
def t_poly (K : PySem.W.Frag) (Cof : String → Addr) (E : XK) : TS :=
  tSeq (tAsg (tCB (rLenS K) (tCons (tVar 0) (tNil))) (gName 1))
  (tSeq (tWhile (tAnd (tTest (tOp rGt (tVar 1) (tC (.int 0)))) (tTest (tOp rEq (tOp (rIxL K) (tVar 0) (tOp rISub (tVar 1) (tC (.int 1)))) (tC (.int 0))))) (tAsg (tOp rISub (tVar 1) (tC (.int 1))) (gName 1)))
  (tRet (tSl (rSlL K) (tVar 0) (tNoPart) (tPart (tVar 1)))))

section
variable {K : PySem.W.Frag} {Cof : String → Addr} {vs : List V} {H : Hp} {Q : VK} {E : XK}
theorem len_poly (h : sp_poly K Cof vs H Q E) : vs.length = 1 := by
  obtain ⟨a, ns, rfl, _⟩ := h; rfl
theorem rd_poly (h : sp_poly K Cof vs H Q E) : t_poly K Cof E { nx := fun _ H' => Q .non H', rt := Q } (start ["row", "size"] vs) H := by
  obtain ⟨a, ns, rfl, hS, hl, q⟩ := h
  unfold t_poly
  walk_at "rd"
  try rw [List.length_map]
  refine r_while (fun m σ' H' => σ' = [some (.ref a), some (.int (m : Int))] ∧ H' = H ∧ m ≤ ns.length ∧ ∀ k, m ≤ k → ML.cf ns k = 0) ns.length ⟨rfl, rfl, Nat.le_refl _, fun k hk => ML.cf_beyond hk⟩ (fun m σ' H' hw => ?_)
  obtain ⟨rfl, rfl, hm, h0⟩ := hw
  walk_at "rd"
  refine ite_d (fun hp => ?_) (fun hp => ?_)
  · walk_at "rd"
    refine r_ixI hS (by omega) (by omega) ?_
    walk_at "rd"
    have e : ns.getD ((m : Int) - 1).toNat 0 = ML.cf ns (m - 1) := by
      unfold ML.cf; congr 1; omega
    rw [e]
    refine ite_d (fun hz => wh_in ?_) (fun hz => ?_)
    · walk_at "rd"
      have e1 : (m : Int) - 1 = ((m - 1 : Nat) : Int) := by omega
      exact ⟨m - 1, by omega, by rw [e1]; rfl, rfl, by omega, fun k hk => by
        by_cases hk' : k = m - 1
        · rw [hk', hz]
        · exact h0 k (by omega)⟩
    · walk_at "rd"
      refine r_slI hS fun p H' hp e h => q p H' hp e ?_
      rw [ML.trimL_take hm h0 (.inr hz), ← sliceI_to hm]
      exact h
  · walk_at "rd"
    refine r_slI hS fun p H' hp e h => q p H' hp e ?_
    rw [ML.trimL_take hm h0 (.inl (by omega)), ← sliceI_to hm]
    exact h
theorem c_poly {a : Addr} {ns : List Int} (h : SqL K H a (ns.map V.int)) (hl : ns.length ≤ 1000000) (q : ∀ p H', H p = none → Ex H H' → H' p = some (.lst ((ML.trimL ns).map V.int)) → Q (.ref p) H') : sp_poly K Cof [.ref a] H Q E := ⟨a, ns, rfl, h, hl, q⟩
end

/-! #### slope -/
--USE ML
def sp_slope (K : PySem.W.Frag) (Cof : String → Addr) : Sp := fun vs H Q _ => ∃ (a : Addr) (P : List Int) (n : Nat), vs = [.ref a] ∧ SqL K H a (P.map V.int) ∧ P.length ≤ 100000 ∧ ML.Sz n P ∧ (0 < n ∧ n ≤ 100000) ∧ RetI (ML.slopeL P) H Q
def t_slope (K : PySem.W.Frag) (Cof : String → Addr) (E : XK) : TS :=
  tRet (tLc (iRng2 (tCons (tC (.int 1)) (tCons (tCB (rLenS K) (tCons (tVar 0) (tNil))) (tNil)))) (gName 1) (tYes) (tOp rMul (tVar 1) (tOp (rIxL K) (tVar 0) (tVar 1))) [1])

section
variable {K : PySem.W.Frag} {Cof : String → Addr} {vs : List V} {H : Hp} {Q : VK} {E : XK}
theorem len_slope (h : sp_slope K Cof vs H Q E) : vs.length = 1 := by
  obtain ⟨a, P, n, rfl, _⟩ := h; rfl
theorem rd_slope (h : sp_slope K Cof vs H Q E) : t_slope K Cof E { nx := fun _ H' => Q .non H', rt := Q } (start ["P", "k"] vs) H := by
  obtain ⟨a, P, n, rfl, hS, hl, sz, ⟨n0, n1⟩, q⟩ := h
  unfold t_slope
  have f0 := Fx.refl H
  walk_at "rd"
  refine r_cRng2A (by omega) ?_
  refine lc_rangeL (lo := 1) (fun (k : Nat) => ((k : Int) + 1) * ML.cf P (k + 1)) (by omega) (fun i hi H1 e1 Q' k' => ?_) (fun p H1 hp e1 h1 => q p H1 hp e1 ?_)
  · have e : (1 : Int) + (i : Int) = ((i + 1 : Nat) : Int) := by omega
    walk_at "rd"
    rw [e]
    refine r_ixI (e1.l hS) (by omega) (by omega) ?_
    rw [Int.toNat_natCast]
    refine r_mul (wide_mul (a := 18) (by omega) (sz.cf (i + 1)) (by decide) n0 (by omega)) ?_
    exact k' _ (Evl.Ex.refl _)
  · have e : ((P.length : Int) - 1).toNat = P.length - 1 := by omega
    rw [e] at h1
    exact h1
theorem c_slope {a : Addr} {P : List Int} (n : Nat) (h : SqL K H a (P.map V.int)) (hl : P.length ≤ 100000) (sz : ML.Sz n P) (hn : 0 < n ∧ n ≤ 100000) (q : ∀ p H', H p = none → Ex H H' → H' p = some (.lst ((ML.slopeL P).map V.int)) → Q (.ref p) H') : sp_slope K Cof [.ref a] H Q E := ⟨a, P, n, rfl, h, hl, sz, hn, q⟩
end

/-! #### turned -/
--USE ML
def sp_turned (K : PySem.W.Frag) (Cof : String → Addr) : Sp := fun vs H Q _ => ∃ (a : Addr) (P : List Int) (n : Nat), vs = [.ref a] ∧ SqL K H a (P.map V.int) ∧ P.length ≤ 100000 ∧ ML.Sz n P ∧ (0 < n ∧ n ≤ 100000) ∧ RetI (ML.turnL P) H Q
def t_turned (K : PySem.W.Frag) (Cof : String → Addr) (E : XK) : TS :=
  tSeq (tAsg (tCB (rListS K) (tCons (tVar 0) (tNil))) (gName 1))
  (tSeq (tFor (iRng3 (tCons (tC (.int 1)) (tCons (tCB (rLenS K) (tCons (tVar 0) (tNil))) (tCons (tC (.int 2)) (tNil))))) (gName 2) (tAsg (tUn rNeg (tOp (rIxL K) (tVar 0) (tVar 2))) (gSub (tVar 1) (tVar 2) rSetL)))
  (tRet (tVar 1)))

section
variable {K : PySem.W.Frag} {Cof : String → Addr} {vs : List V} {H : Hp} {Q : VK} {E : XK}
theorem len_turned (h : sp_turned K Cof vs H Q E) : vs.length = 1 := by
  obtain ⟨a, P, n, rfl, _⟩ := h; rfl
theorem rd_turned (h : sp_turned K Cof vs H Q E) : t_turned K Cof E { nx := fun _ H' => Q .non H', rt := Q } (start ["P", "row", "k"] vs) H := by
  obtain ⟨a, P, n, rfl, hS, hl, sz, ⟨n0, n1⟩, q⟩ := h
  unfold t_turned
  have f0 := Fx.refl H
  walk_at "rd"
  refine r_list hS fun p1 H1 hp1 e1 h1 => ?_
  have f1 := f0.ex e1
  walk_at "rd"
  have en : (((P.length : Int) - 1 + 1) / 2).toNat = P.length / 2 := by omega
  refine r_iRng3A (rg2 (by decide) (by decide) (by omega) (by omega)) ?_
  rw [en]
  refine loop_rangeC (fun i σ' H' => ∃ (rs : List Int) (u : Option V), σ' = [some (.ref a), some (.ref p1), u] ∧ Fx H H' ∧ H' p1 = some (.lst (rs.map V.int)) ∧ rs.length = P.length ∧ ∀ k, ML.cf rs k = if k % 2 = 1 ∧ k < 2 * i + 1 then - ML.cf P k else ML.cf P k)
    ⟨P, _, rfl, f1, h1, rfl, fun k => by rw [if_neg (by omega)]⟩ (fun i σ' H' hi hp' => ?_) (fun σ' H' hp' => ?_)
  · obtain ⟨rs, u, rfl, f2, h2, l2, c2⟩ := hp'
    have e : (1 : Int) + (i : Int) * 2 = ((2 * i + 1 : Nat) : Int) := by omega
    walk_at "rd"
    rw [e]
    refine r_ixI (f2.l hS) (by omega) (by omega) ?_
    rw [Int.toNat_natCast]
    walk_at "rd"
    refine r_setL h2 (Evl.ixN_nat (by rw [List.length_map]; omega)) fun H4 b4 h4 => ?_
    refine ⟨rs.set (2 * i + 1) (- ML.cf P (2 * i + 1)), _, rfl, f2.mut b4 hp1, by rw [List.map_set]; exact h4, by rw [List.length_set]; exact l2, fun k => ?_⟩
    rw [ML.cf_set (by omega), c2]
    by_cases hk : k = 2 * i + 1
    · subst hk
      rw [if_pos (rfl : 2 * i + 1 = 2 * i + 1), if_pos (by omega)]
    · rw [if_neg hk]
      by_cases h3 : k % 2 = 1 ∧ k < 2 * i + 1
      · rw [if_pos h3, if_pos (by omega)]
      · rw [if_neg h3, if_neg (by omega)]
  · obtain ⟨rs, u, rfl, f2, h2, l2, c2⟩ := hp'
    walk_at "rd"
    have er : rs = ML.turnL P := ML.ext (by rw [l2, ML.turnL_len]) fun k hk => by
      rw [c2, ML.cf_turnL]
      by_cases h3 : k % 2 = 1
      · rw [if_pos h3, if_pos (by omega)]
      · rw [if_neg h3, if_neg (by omega)]
    rw [er] at h2
    exact q p1 H' hp1 f2.to h2
theorem c_turned {a : Addr} {P : List Int} (n : Nat) (h : SqL K H a (P.map V.int)) (hl : P.length ≤ 100000) (sz : ML.Sz n P) (hn : 0 < n ∧ n ≤ 100000) (q : ∀ p H', H p = none → Ex H H' → H' p = some (.lst ((ML.turnL P).map V.int)) → Q (.ref p) H') : sp_turned K Cof [.ref a] H Q E := ⟨a, P, n, rfl, h, hl, sz, hn, q⟩
end

/-! #### flipped -/
--USE ML
def sp_flipped (K : PySem.W.Frag) (Cof : String → Addr) : Sp := fun vs H Q _ => ∃ (a : Addr) (P : List Int) (n : Nat), vs = [.ref a] ∧ SqL K H a (P.map V.int) ∧ P.length ≤ 100000 ∧ ML.Sz n P ∧ (0 < n ∧ n ≤ 100000) ∧ RetI (ML.flipL P) H Q
def t_flipped (K : PySem.W.Frag) (Cof : String → Addr) (E : XK) : TS :=
  tRet (tCall (sp_poly K Cof) [] E0 (tCons (tRevL K (tVar 0)) (tNil)))

section
variable {K : PySem.W.Frag} {Cof : String → Addr} {vs : List V} {H : Hp} {Q : VK} {E : XK}
theorem len_flipped (h : sp_flipped K Cof vs H Q E) : vs.length = 1 := by
  obtain ⟨a, P, n, rfl, _⟩ := h; rfl
theorem rd_flipped (h : sp_flipped K Cof vs H Q E) : t_flipped K Cof E { nx := fun _ H' => Q .non H', rt := Q } (start ["P"] vs) H := by
  obtain ⟨a, P, n, rfl, hS, hl, sz, ⟨n0, n1⟩, q⟩ := h
  unfold t_flipped
  have f0 := Fx.refl H
  walk_at "rd"
  refine r_revI hS fun p1 H1 hp1 e1 h1 => ?_
  walk_at "rd"
  exact c_poly (SqL.inj h1) (by rw [List.length_reverse]; omega) fun p2 H2 hp2 e2 h2 => q p2 H2 (Evl.fresh_back e1 hp2) (e1.trans e2) h2
theorem c_flipped {a : Addr} {P : List Int} (n : Nat) (h : SqL K H a (P.map V.int)) (hl : P.length ≤ 100000) (sz : ML.Sz n P) (hn : 0 < n ∧ n ≤ 100000) (q : ∀ p H', H p = none → Ex H H' → H' p = some (.lst ((ML.flipL P).map V.int)) → Q (.ref p) H') : sp_flipped K Cof [.ref a] H Q E := ⟨a, P, n, rfl, h, hl, sz, hn, q⟩
end

/-! #### lifted -/
--USE ML
def sp_lifted (K : PySem.W.Frag) (Cof : String → Addr) : Sp := fun vs H Q _ => ∃ (a : Addr) (P : List Int) (m : Nat), vs = [.ref a, .int (m : Int)] ∧ SqL K H a (P.map V.int) ∧ P.length ≤ 1000 ∧ (0 < m ∧ m ≤ 1000) ∧ RetI (ML.liftL P m) H Q
def t_lifted (K : PySem.W.Frag) (Cof : String → Addr) (E : XK) : TS :=
  tSeq (tAsg (tLst (tNil)) (gName 2))
  (tSeq (tFor (iList K (tVar 0)) (gName 3) (tCut (tIfS (tTru K (tVar 2)) (tAsg (tOp rCat (tVar 2) (tOp rRep (tLst (tCons (tC (.int 0)) (tNil))) (tOp rISub (tVar 1) (tC (.int 1))))) (gName 2)) (tNext))
  (tDrop (tBM K "list" rAppend (tVar 2) (tCons (tVar 3) (tNil))))))
  (tRet (tVar 2)))

section
variable {K : PySem.W.Frag} {Cof : String → Addr} {vs : List V} {H : Hp} {Q : VK} {E : XK}
theorem len_lifted (h : sp_lifted K Cof vs H Q E) : vs.length = 2 := by
  obtain ⟨a, P, n, rfl, _⟩ := h; rfl
theorem rd_lifted (h : sp_lifted K Cof vs H Q E) : t_lifted K Cof E { nx := fun _ H' => Q .non H', rt := Q } (start ["P", "k", "row", "one"] vs) H := by
  obtain ⟨a, P, m, rfl, hS, hl, ⟨m0, m1⟩, q⟩ := h
  unfold t_lifted
  have f0 := Fx.refl H
  walk_at "rd"
  refine r_lstK fun p1 H1 hp1 e1 h1 => ?_
  have f1 := f0.ex e1
  walk_at "rd"
  refine loop_ints (ns := P) (fun i σ' H' => ∃ (p : Addr) (u : Option V), σ' = [some (.ref a), some (.int (m : Int)), some (.ref p), u] ∧ H p = none ∧ Fx H H' ∧ H' p = some (.lst ((ML.liftL (P.take i) m).map V.int)))
    ⟨p1, _, rfl, hp1, f1, by rw [ML.liftL_nil]; exact h1⟩ (fun i σ' H' _ hp' => ?_) (fun i x σ' H' hx hp' => ?_) (fun σ' H' hp' => ?_)
  · obtain ⟨p, u, rfl, _, f2, _⟩ := hp'
    exact f2.l hS
  · obtain ⟨p, u, rfl, hp, f2, h2⟩ := hp'
    have hi : i < P.length := (List.getElem?_eq_some_iff.mp hx).1
    have ex : ML.cf P i = x := ML.cf_some hx
    have lt1 : (P.take i).length = i := by rw [List.length_take]; omega
    have hll : (ML.liftL (P.take i) m).length ≤ 1000001 := by
      rw [ML.liftL_len, lt1]
      split
      · omega
      · have : m * (i - 1) ≤ 1000 * 1000 := Nat.mul_le_mul m1 (by omega)
        omega
    have step := ML.liftL_step m0 hi (R := ML.liftL (P.take i) m) rfl
    rw [ex] at step
    refine ⟨fun σ2 H2 => ∃ (p : Addr) (R : List Int), σ2 = [some (.ref a), some (.int (m : Int)), some (.ref p), some (.int x)] ∧ H p = none ∧ Fx H H2 ∧ H2 p = some (.lst (R.map V.int)) ∧ R.length ≤ 1100000 ∧ R ++ [x] = ML.liftL (P.take (i + 1)) m, ?_, fun σ2 H2 hM => ?_⟩
    · walk_at "rd"
      refine r_truL (SqL.inj h2) ?_
      by_cases hi0 : i = 0
      · subst hi0
        have e0 : ((ML.liftL (P.take 0) m).map V.int).isEmpty = true := by rw [ML.liftL_nil]; rfl
        rw [e0]
        walk_at "rd"
        rw [if_pos rfl] at step
        exact ⟨p, _, rfl, hp, f2, h2, by omega, step⟩
      · have e0 : ((ML.liftL (P.take i) m).map V.int).isEmpty = false := by
          rw [List.isEmpty_map, List.isEmpty_eq_false_iff_exists_mem]
          have h0 : 0 < (ML.liftL (P.take i) m).length := by rw [ML.liftL_len, lt1, if_neg hi0]; omega
          exact ⟨_, List.getElem_mem h0⟩
        rw [e0]
        walk_at "rd"
        refine r_lstK fun p3 H3 hp3 e3 h3 => ?_
        have f3 := f2.ex e3
        walk_at "rd"
        refine r_rep1 h3 (by omega) fun p4 H4 hp4 e4 h4 => ?_
        have f4 := f3.ex e4
        rw [← List.map_replicate (f := V.int) (a := 0)] at h4
        have em : ((m : Int) - 1).toNat = m - 1 := by omega
        rw [em] at h4
        refine r_catI (ns := ML.liftL (P.take i) m) (by walk_at "hp") h4 (by rw [List.length_replicate]; omega) fun p5 H5 hp5 e5 h5 => ?_
        walk_at "rd"
        rw [if_neg hi0] at step
        exact ⟨p5, _, rfl, f4.free hp5, f4.ex e5, h5, by rw [List.length_append, List.length_replicate]; omega, step⟩
    obtain ⟨p, R, rfl, hp, f3, h3, l3, hR⟩ := hM
    walk_at "rd"
    refine r_appendI h3 (by omega) fun H4 b4 h4 => ?_
    rw [hR] at h4
    exact ⟨p, _, rfl, hp, f3.mut b4 hp, h4⟩
  · obtain ⟨p, u, rfl, hp, f2, h2⟩ := hp'
    walk_at "rd"
    rw [ML.liftL_all] at h2
    exact q p H' hp f2.to h2
theorem c_lifted {a : Addr} {P : List Int} {m : Nat} (h : SqL K H a (P.map V.int)) (hl : P.length ≤ 1000) (hm : 0 < m ∧ m ≤ 1000) (q : ∀ p H', H p = none → Ex H H' → H' p = some (.lst ((ML.liftL P m).map V.int)) → Q (.ref p) H') : sp_lifted K Cof [.ref a, .int (m : Int)] H Q E := ⟨a, P, m, rfl, h, hl, hm, q⟩
end

/-! #### _law_cell -/
/-- the k-th cell, 0 beyond the last one -/
def cellOf (ns : List Int) (k : Int) : Int := ns.getD k.toNat 0
def sp__law_cell (K : PySem.W.Frag) (Cof : String → Addr) : Sp := fun vs H Q _ => ∃ (a : Addr) (ns : List Int) (k : Int), vs = [.ref a, .int k] ∧ SqL K H a (ns.map V.int) ∧ 0 ≤ k ∧ Q (.int (cellOf ns k)) H
def t__law_cell (K : PySem.W.Frag) (Cof : String → Addr) (E : XK) : TS :=
  tSeq (tIfS (tTest (tOp rLt (tVar 1) (tCB (rLenS K) (tCons (tVar 0) (tNil))))) (tRet (tOp (rIxL K) (tVar 0) (tVar 1))) (tNext))
  (tRet (tC (.int 0)))

section
variable {K : PySem.W.Frag} {Cof : String → Addr} {vs : List V} {H : Hp} {Q : VK} {E : XK}
theorem len__law_cell (h : sp__law_cell K Cof vs H Q E) : vs.length = 2 := by
  obtain ⟨a, ns, k, rfl, _⟩ := h; rfl
theorem rd__law_cell (h : sp__law_cell K Cof vs H Q E) : t__law_cell K Cof E { nx := fun _ H' => Q .non H', rt := Q } (start ["_law_script", "_law_k"] vs) H := by
  obtain ⟨a, ns, k, rfl, hS, h0, q⟩ := h
  obtain ⟨k, rfl⟩ : ∃ n : Nat, k = (n : Int) := ⟨k.toNat, by omega⟩
  unfold t__law_cell
  walk_at "rd"
  try rw [List.length_map]
  refine ite_d (fun h => ?_) (fun h => ?_)
  · walk_at "rd"
    have hk : k < ns.length := by omega
    exact r_ixI hS h0 h q
  · walk_at "rd"
    have e : cellOf ns k = 0 := by
      unfold cellOf
      rw [List.getD_eq_getElem?_getD, List.getElem?_eq_none (by omega)]; rfl
    rw [e] at q
    exact q
theorem c__law_cell {a : Addr} {ns : List Int} {k : Int} (h : SqL K H a (ns.map V.int)) (h0 : 0 ≤ k) (q : Q (.int (cellOf ns k)) H) : sp__law_cell K Cof [.ref a, .int k] H Q E := ⟨a, ns, k, rfl, h, h0, q⟩
end
local macro_rules | `(tactic| walk_at "call") => `(tactic| ((with_reducible refine' c__law_cell ?h ?h0 ?_); (case h => walk_at "sq"); (case h0 => first | decide | omega)))

/-! #### _law_whole -/
def sp__law_whole (K : PySem.W.Frag) (Cof : String → Addr) : Sp := fun vs H Q _ => ∃ i : Int, vs = [.int i] ∧ Q (.bl true) H
def t__law_whole (K : PySem.W.Frag) (Cof : String → Addr) (E : XK) : TS :=
  tRet (tAndV (tCB (rIsi K) (tCons (tVar 0) (tCons (tC (.ty "int")) (tNil)))) (tNotV (tCB (rIsi K) (tCons (tVar 0) (tCons (tC (.ty "bool")) (tNil))))))

section
variable {K : PySem.W.Frag} {Cof : String → Addr} {vs : List V} {H : Hp} {Q : VK} {E : XK}
theorem len__law_whole (h : sp__law_whole K Cof vs H Q E) : vs.length = 1 := by
  obtain ⟨i, rfl, _⟩ := h; rfl
theorem rd__law_whole (h : sp__law_whole K Cof vs H Q E) : t__law_whole K Cof E { nx := fun _ H' => Q .non H', rt := Q } (start ["_law_found"] vs) H := by
  obtain ⟨i, rfl, q⟩ := h
  unfold t__law_whole
  walk_at "rd"
  refine r_isi (.base (.int i)) (.ty _) (kit_ty (r := true) (by decide +kernel)) ?_
  walk_at "rd"
  refine r_isi (.base (.int i)) (.ty _) (kit_ty (r := false) (by decide +kernel)) ?_
  walk_at "rd"
  exact q
end
theorem c__law_whole {K : PySem.W.Frag} {Cof : String → Addr} {H : Hp} {Q : VK} {E : XK} {i : Int} (q : Q (.bl true) H) : sp__law_whole K Cof [.int i] H Q E := ⟨i, rfl, q⟩
local macro_rules | `(tactic| walk_at "call") => `(tactic| with_reducible refine c__law_whole ?_)

/-! #### _law_signed -/
/-- a number from -s to s -/
def sgn (c s : Int) : Int := c.fmod (2 * s + 1) - s
theorem sgn_ge {c s : Int} (h : 0 ≤ s) : -s ≤ sgn c s := by
  have := Int.fmod_nonneg_of_pos c (show 0 < 2 * s + 1 by omega)
  unfold sgn; omega
theorem sgn_le {c s : Int} (h : 0 ≤ s) : sgn c s ≤ s := by
  have := Int.fmod_lt_of_pos c (show 0 < 2 * s + 1 by omega)
  unfold sgn; omega
theorem sgn_abs {c s : Int} {n : Nat} (h : 0 ≤ s) (hs : s.natAbs < 2 ^ n) : (sgn c s).natAbs < 2 ^ n := by
  have h1 := sgn_ge (c := c) h
  have h2 := sgn_le (c := c) h
  generalize 2 ^ n = m at hs ⊢
  omega
def sp__law_signed (K : PySem.W.Frag) (Cof : String → Addr) : Sp := fun vs H Q _ => ∃ c s : Int, vs = [.int c, .int s] ∧ 0 ≤ s ∧ s.natAbs < 2 ^ 4000 ∧ Q (.int (sgn c s)) H
def t__law_signed (K : PySem.W.Frag) (Cof : String → Addr) (E : XK) : TS :=
  tRet (tOp rISub (tOp rMod (tVar 0) (tOp rIAdd (tOp rMul (tC (.int 2)) (tVar 1)) (tC (.int 1)))) (tVar 1))

section
variable {K : PySem.W.Frag} {Cof : String → Addr} {vs : List V} {H : Hp} {Q : VK} {E : XK}
theorem len__law_signed (h : sp__law_signed K Cof vs H Q E) : vs.length = 2 := by
  obtain ⟨c, s, rfl, _⟩ := h; rfl
theorem rd__law_signed (h : sp__law_signed K Cof vs H Q E) : t__law_signed K Cof E { nx := fun _ H' => Q .non H', rt := Q } (start ["_law_cell_here", "_law_size"] vs) H := by
  obtain ⟨c, s, rfl, h0, hs, q⟩ := h
  unfold t__law_signed
  walk_at "rd"
  refine r_mul (wide_mul (a := 2) (by decide) hs (by decide) (by decide) (by decide)) ?_
  walk_at "rd"
  exact q
end
theorem c__law_signed {K : PySem.W.Frag} {Cof : String → Addr} {H : Hp} {Q : VK} {E : XK} {c s : Int} (h0 : 0 ≤ s) (h1 : s.natAbs < 2 ^ 4000) (q : Q (.int (sgn c s)) H) : sp__law_signed K Cof [.int c, .int s] H Q E := ⟨c, s, rfl, h0, h1, q⟩

/-! #### _law_trim -/
--USE ML
def sp__law_trim (K : PySem.W.Frag) (Cof : String → Addr) : Sp := fun vs H Q _ => ∃ (a : Addr) (ns : List Int), vs = [.ref a] ∧ SqL K H a (ns.map V.int) ∧ ns.length ≤ 1000000 ∧ RetI (ML.trimL ns) H Q
def t__law_trim (K : PySem.W.Frag) (Cof : String → Addr) (E : XK) : TS :=
  tSeq (tAsg (tCB (rLenS K) (tCons (tVar 0) (tNil))) (gName 1))
  (tSeq (tWhile (tAnd (tTest (tOp rGt (tVar 1) (tC (.int 0)))) (tTest (tOp rEq (tOp (rIxL K) (tVar 0) (tOp rISub (tVar 1) (tC (.int 1)))) (tC (.int 0))))) (tAsg (tOp rISub (tVar 1) (tC (.int 1))) (gName 1)))
  (tRet (tSl (rSlL K) (tVar 0) (tNoPart) (tPart (tVar 1)))))

section
variable {K : PySem.W.Frag} {Cof : String → Addr} {vs : List V} {H : Hp} {Q : VK} {E : XK}
theorem len__law_trim (h : sp__law_trim K Cof vs H Q E) : vs.length = 1 := by
  obtain ⟨a, ns, rfl, _⟩ := h; rfl
theorem rd__law_trim (h : sp__law_trim K Cof vs H Q E) : t__law_trim K Cof E { nx := fun _ H' => Q .non H', rt := Q } (start ["_law_row_here", "_law_size"] vs) H := by
  obtain ⟨a, ns, rfl, hS, hl, q⟩ := h
  unfold t__law_trim
  walk_at "rd"
  try rw [List.length_map]
  refine r_while (fun m σ' H' => σ' = [some (.ref a), some (.int (m : Int))] ∧ H' = H ∧ m ≤ ns.length ∧ ∀ k, m ≤ k → ML.cf ns k = 0) ns.length ⟨rfl, rfl, Nat.le_refl _, fun k hk => ML.cf_beyond hk⟩ (fun m σ' H' hw => ?_)
  obtain ⟨rfl, rfl, hm, h0⟩ := hw
  walk_at "rd"
  refine ite_d (fun hp => ?_) (fun hp => ?_)
  · walk_at "rd"
    refine r_ixI hS (by omega) (by omega) ?_
    walk_at "rd"
    have e : ns.getD ((m : Int) - 1).toNat 0 = ML.cf ns (m - 1) := by
      unfold ML.cf; congr 1; omega
    rw [e]
    refine ite_d (fun hz => wh_in ?_) (fun hz => ?_)
    · walk_at "rd"
      have e1 : (m : Int) - 1 = ((m - 1 : Nat) : Int) := by omega
      exact ⟨m - 1, by omega, by rw [e1]; rfl, rfl, by omega, fun k hk => by
        by_cases hk' : k = m - 1
        · rw [hk', hz]
        · exact h0 k (by omega)⟩
    · walk_at "rd"
      refine r_slI hS fun p H' hp e h => q p H' hp e ?_
      rw [ML.trimL_take hm h0 (.inr hz), ← sliceI_to hm]
      exact h
  · walk_at "rd"
    refine r_slI hS fun p H' hp e h => q p H' hp e ?_
    rw [ML.trimL_take hm h0 (.inl (by omega)), ← sliceI_to hm]
    exact h
theorem c__law_trim {a : Addr} {ns : List Int} (h : SqL K H a (ns.map V.int)) (hl : ns.length ≤ 1000000) (q : ∀ p H', H p = none → Ex H H' → H' p = some (.lst ((ML.trimL ns).map V.int)) → Q (.ref p) H') : sp__law_trim K Cof [.ref a] H Q E := ⟨a, ns, rfl, h, hl, q⟩
end

/-! #### _law_row -/
def sp__law_row (K : PySem.W.Frag) (Cof : String → Addr) : Sp := fun vs H Q _ => ∃ (a b : Addr) (ns : List Int), vs = [.ref a, .ref b] ∧ H a = some (.lst (ns.map V.int)) ∧ SqL K H b (ns.map V.int) ∧ ns.length ≤ 1000000 ∧ Q (.bl true) H
def t__law_row (K : PySem.W.Frag) (Cof : String → Addr) (E : XK) : TS :=
  tSeq (tIfS (tOr (tNot (tB (tCB (rIsi K) (tCons (tVar 0) (tCons (tC (.ty "list")) (tNil)))))) (tTest (tOp rNe (tCB (rLenS K) (tCons (tVar 0) (tNil))) (tCB (rLenS K) (tCons (tVar 1) (tNil)))))) (tRet (tC (.bl false))) (tNext))
  (tSeq (tFor (iRng1 (tCons (tCB (rLenS K) (tCons (tVar 1) (tNil))) (tNil))) (gName 2) (tIfS (tOr (tNot (tB (tCall (sp__law_whole K Cof) [] E0 (tCons (tOp (rIxL K) (tVar 0) (tVar 2)) (tNil))))) (tTest (tOp rNe (tOp (rIxL K) (tVar 0) (tVar 2)) (tOp (rIxL K) (tVar 1) (tVar 2))))) (tRet (tC (.bl false))) (tNext)))
  (tRet (tC (.bl true))))

section
variable {K : PySem.W.Frag} {Cof : String → Addr} {vs : List V} {H : Hp} {Q : VK} {E : XK}
theorem len__law_row (h : sp__law_row K Cof vs H Q E) : vs.length = 2 := by
  obtain ⟨a, b, ns, rfl, _⟩ := h; rfl
theorem rd__law_row (h : sp__law_row K Cof vs H Q E) : t__law_row K Cof E { nx := fun _ H' => Q .non H', rt := Q } (start ["_law_found", "_law_due", "_law_k"] vs) H := by
  obtain ⟨a, b, ns, rfl, hA, hB, hl, q⟩ := h
  unfold t__law_row
  walk_at "rd"
  refine r_isi (.base (.lst hA)) (.ty _) (kit_ty (r := true) (by decide +kernel)) ?_
  walk_at "rd"
  refine ite_nd (fun h => absurd rfl h) (fun _ => ?_)
  walk_at "rd"
  try rw [List.length_map]
  refine r_iRng1A (by omega) (by omega) ?_
  rw [Int.toNat_natCast]
  refine loop_range0 (fun k σ' H' => ∃ u : Option V, σ' = [some (.ref a), some (.ref b), u] ∧ H' = H) ⟨_, rfl, rfl⟩ (fun k σ' H' hk hp' => ?_) (fun σ' H' hp' => ?_)
  · obtain ⟨u, rfl, rfl⟩ := hp'
    walk_at "rd"
    refine r_ixI (SqL.inj hA) (by omega) (by omega) ?_
    walk_at "rd"
    refine r_ixI (SqL.inj hA) (by omega) (by omega) ?_
    walk_at "rd"
    refine r_ixI hB (by omega) (by omega) ?_
    walk_at "rd"
    refine ite_nd (fun h => absurd rfl h) (fun _ => ?_)
    walk_at "rd"
    exact ⟨_, rfl, rfl⟩
  · obtain ⟨u, rfl, rfl⟩ := hp'
    walk_at "rd"
    exact q
theorem c__law_row {a b : Addr} {ns : List Int} (hA : H a = some (.lst (ns.map V.int))) (hB : SqL K H b (ns.map V.int)) (hl : ns.length ≤ 1000000) (q : Q (.bl true) H) : sp__law_row K Cof [.ref a, .ref b] H Q E := ⟨a, b, ns, rfl, hA, hB, hl, q⟩
end

/-! #### _law_slope -/
--USE ML
def sp__law_slope (K : PySem.W.Frag) (Cof : String → Addr) : Sp := fun vs H Q _ => ∃ (a : Addr) (P : List Int) (n : Nat), vs = [.ref a] ∧ SqL K H a (P.map V.int) ∧ P.length ≤ 100000 ∧ ML.Sz n P ∧ (0 < n ∧ n ≤ 100000) ∧ RetI (ML.slopeL P) H Q
def t__law_slope (K : PySem.W.Frag) (Cof : String → Addr) (E : XK) : TS :=
  tRet (tLc (iRng1 (tCons (tOp rISub (tCB (rLenS K) (tCons (tVar 0) (tNil))) (tC (.int 1))) (tNil))) (gName 1) (tYes) (tOp rMul (tOp rIAdd (tVar 1) (tC (.int 1))) (tOp (rIxL K) (tVar 0) (tOp rIAdd (tVar 1) (tC (.int 1))))) [1])

section
variable {K : PySem.W.Frag} {Cof : String → Addr} {vs : List V} {H : Hp} {Q : VK} {E : XK}
theorem len__law_slope (h : sp__law_slope K Cof vs H Q E) : vs.length = 1 := by
  obtain ⟨a, P, n, rfl, _⟩ := h; rfl
theorem rd__law_slope (h : sp__law_slope K Cof vs H Q E) : t__law_slope K Cof E { nx := fun _ H' => Q .non H', rt := Q } (start ["_law_kp", "_law_k"] vs) H := by
  obtain ⟨a, P, n, rfl, hS, hl, sz, ⟨n0, n1⟩, q⟩ := h
  unfold t__law_slope
  have f0 := Fx.refl H
  walk_at "rd"
  refine r_cRng1A (by omega) (by omega) ?_
  have e : ((P.length : Int) - 1).toNat = P.length - 1 := by omega
  rw [e]
  refine lc_rangeI (fun (k : Nat) => ((k : Int) + 1) * ML.cf P (k + 1)) (by omega) (fun i hi H1 e1 Q' k' => ?_) (fun p H1 hp e1 h1 => q p H1 hp e1 h1)
  walk_at "rd"
  refine r_ixI (e1.l hS) (by omega) (by omega) ?_
  have ei : ((i : Int) + 1).toNat = i + 1 := by omega
  rw [ei]
  refine r_mul (wide_mul (a := 18) (by omega) (sz.cf (i + 1)) (by decide) n0 (by omega)) ?_
  exact k' _ (Evl.Ex.refl _)
theorem c__law_slope {a : Addr} {P : List Int} (n : Nat) (h : SqL K H a (P.map V.int)) (hl : P.length ≤ 100000) (sz : ML.Sz n P) (hn : 0 < n ∧ n ≤ 100000) (q : ∀ p H', H p = none → Ex H H' → H' p = some (.lst ((ML.slopeL P).map V.int)) → Q (.ref p) H') : sp__law_slope K Cof [.ref a] H Q E := ⟨a, P, n, rfl, h, hl, sz, hn, q⟩
end

/-! #### _law_turned -/
--USE ML
def sp__law_turned (K : PySem.W.Frag) (Cof : String → Addr) : Sp := fun vs H Q _ => ∃ (a : Addr) (P : List Int) (n : Nat), vs = [.ref a] ∧ SqL K H a (P.map V.int) ∧ P.length ≤ 100000 ∧ ML.Sz n P ∧ (0 < n ∧ n ≤ 100000) ∧ RetI (ML.turnL P) H Q
def t__law_turned (K : PySem.W.Frag) (Cof : String → Addr) (E : XK) : TS :=
  tRet (tLc (iRng1 (tCons (tCB (rLenS K) (tCons (tVar 0) (tNil))) (tNil))) (gName 1) (tYes) (tOp rMul (tOp (rIxL K) (tVar 0) (tVar 1)) (tOp rISub (tC (.int 1)) (tOp rMul (tC (.int 2)) (tOp rMod (tVar 1) (tC (.int 2)))))) [1])

section
variable {K : PySem.W.Frag} {Cof : String → Addr} {vs : List V} {H : Hp} {Q : VK} {E : XK}
theorem len__law_turned (h : sp__law_turned K Cof vs H Q E) : vs.length = 1 := by
  obtain ⟨a, P, n, rfl, _⟩ := h; rfl
theorem rd__law_turned (h : sp__law_turned K Cof vs H Q E) : t__law_turned K Cof E { nx := fun _ H' => Q .non H', rt := Q } (start ["_law_kp", "_law_k"] vs) H := by
  obtain ⟨a, P, n, rfl, hS, hl, sz, ⟨n0, n1⟩, q⟩ := h
  unfold t__law_turned
  have f0 := Fx.refl H
  walk_at "rd"
  refine r_cRng1A (by omega) (by omega) ?_
  rw [Int.toNat_natCast]
  refine lc_rangeI (fun (k : Nat) => if k % 2 = 1 then - ML.cf P k else ML.cf P k) (by omega) (fun i hi H1 e1 Q' k' => ?_) (fun p H1 hp e1 h1 => q p H1 hp e1 h1)
  walk_at "rd"
  refine r_ixI (e1.l hS) (by omega) (by omega) ?_
  rw [Int.toNat_natCast]
  walk_at "rd"
  have em : (i : Int).fmod 2 = ((i % 2 : Nat) : Int) := by
    rw [Int.fmod_eq_emod_of_nonneg _ (by decide)]; omega
  rw [em]
  refine r_mul (wide_mul (a := 2) (b := 2) (by decide) (by omega) (by decide) (by decide) (by decide)) ?_
  walk_at "rd"
  refine r_mul (wide_mul (b := 2) (sz.cf i) (by omega) n0 (by decide) (by omega)) ?_
  have ef : ML.cf P i * (1 - 2 * ((i % 2 : Nat) : Int)) = if i % 2 = 1 then - ML.cf P i else ML.cf P i := by
    by_cases h : i % 2 = 1
    · rw [h, if_pos rfl]; show ML.cf P i * (1 - 2 * 1) = _; omega
    · rw [if_neg h]
      have h0 : i % 2 = 0 := by omega
      rw [h0]; show ML.cf P i * (1 - 2 * 0) = _; omega
  have k2 := k' _ (Evl.Ex.refl _)
  rw [← ef] at k2
  exact k2
theorem c__law_turned {a : Addr} {P : List Int} (n : Nat) (h : SqL K H a (P.map V.int)) (hl : P.length ≤ 100000) (sz : ML.Sz n P) (hn : 0 < n ∧ n ≤ 100000) (q : ∀ p H', H p = none → Ex H H' → H' p = some (.lst ((ML.turnL P).map V.int)) → Q (.ref p) H') : sp__law_turned K Cof [.ref a] H Q E := ⟨a, P, n, rfl, h, hl, sz, hn, q⟩
end

/-! #### _law_flipped -/
--USE ML
def sp__law_flipped (K : PySem.W.Frag) (Cof : String → Addr) : Sp := fun vs H Q _ => ∃ (a : Addr) (P : List Int) (n : Nat), vs = [.ref a] ∧ SqL K H a (P.map V.int) ∧ P.length ≤ 100000 ∧ ML.Sz n P ∧ (0 < n ∧ n ≤ 100000) ∧ RetI (ML.flipL P) H Q
def t__law_flipped (K : PySem.W.Frag) (Cof : String → Addr) (E : XK) : TS :=
  tRet (tCall (sp__law_trim K Cof) [] E0 (tCons (tLc (iRng1 (tCons (tCB (rLenS K) (tCons (tVar 0) (tNil))) (tNil))) (gName 1) (tYes) (tOp (rIxL K) (tVar 0) (tOp rISub (tOp rISub (tCB (rLenS K) (tCons (tVar 0) (tNil))) (tC (.int 1))) (tVar 1))) [1]) (tNil)))

section
variable {K : PySem.W.Frag} {Cof : String → Addr} {vs : List V} {H : Hp} {Q : VK} {E : XK}
theorem len__law_flipped (h : sp__law_flipped K Cof vs H Q E) : vs.length = 1 := by
  obtain ⟨a, P, n, rfl, _⟩ := h; rfl
theorem rd__law_flipped (h : sp__law_flipped K Cof vs H Q E) : t__law_flipped K Cof E { nx := fun _ H' => Q .non H', rt := Q } (start ["_law_kp", "_law_k"] vs) H := by
  obtain ⟨a, P, n, rfl, hS, hl, sz, ⟨n0, n1⟩, q⟩ := h
  unfold t__law_flipped
  have f0 := Fx.refl H
  walk_at "rd"
  refine r_cRng1A (by omega) (by omega) ?_
  rw [Int.toNat_natCast]
  refine lc_rangeI (fun (k : Nat) => ML.cf P (P.length - 1 - k)) (by omega) (fun i hi H1 e1 Q' k' => ?_) (fun p H1 hp e1 h1 => ?_)
  · have hS1 := e1.l hS
    walk_at "rd"
    refine r_ixI hS1 (by omega) (by omega) ?_
    have ei : ((P.length : Int) - 1 - (i : Int)).toNat = P.length - 1 - i := by omega
    rw [ei]
    exact k' _ (Evl.Ex.refl _)
  · walk_at "rd"
    have er : (List.range P.length).map (fun (k : Nat) => ML.cf P (P.length - 1 - k)) = P.reverse := ML.ext (by simp) fun k hk => by
      have hk' : k < P.length := by simpa using hk
      rw [ML.cf_range hk', ML.cf_reverse hk']
    rw [er] at h1
    exact c__law_trim (SqL.inj h1) (by rw [List.length_reverse]; omega) fun p2 H2 hp2 e2 h2 => q p2 H2 (Evl.fresh_back e1 hp2) (e1.trans e2) h2
theorem c__law_flipped {a : Addr} {P : List Int} (n : Nat) (h : SqL K H a (P.map V.int)) (hl : P.length ≤ 100000) (sz : ML.Sz n P) (hn : 0 < n ∧ n ≤ 100000) (q : ∀ p H', H p = none → Ex H H' → H' p = some (.lst ((ML.flipL P).map V.int)) → Q (.ref p) H') : sp__law_flipped K Cof [.ref a] H Q E := ⟨a, P, n, rfl, h, hl, sz, hn, q⟩
end

/-! #### _law_lifted -/
--USE ML
def sp__law_lifted (K : PySem.W.Frag) (Cof : String → Addr) : Sp := fun vs H Q _ => ∃ (a : Addr) (P : List Int) (m : Nat), vs = [.ref a, .int (m : Int)] ∧ SqL K H a (P.map V.int) ∧ P.length ≤ 1000 ∧ (0 < m ∧ m ≤ 1000) ∧ ML.Trim P ∧ RetI (ML.liftL P m) H Q
def t__law_lifted (K : PySem.W.Frag) (Cof : String → Addr) (E : XK) : TS :=
  tSeq (tAsg (tOp rRep (tLst (tCons (tC (.int 0)) (tNil))) (tOp rMul (tVar 1) (tCB (rLenS K) (tCons (tVar 0) (tNil))))) (gName 2))
  (tSeq (tFor (iRng1 (tCons (tCB (rLenS K) (tCons (tVar 0) (tNil))) (tNil))) (gName 3) (tAsg (tOp (rIxL K) (tVar 0) (tVar 3)) (gSub (tVar 2) (tOp rMul (tVar 1) (tVar 3)) rSetL)))
  (tRet (tCall (sp__law_trim K Cof) [] E0 (tCons (tVar 2) (tNil)))))

section
variable {K : PySem.W.Frag} {Cof : String → Addr} {vs : List V} {H : Hp} {Q : VK} {E : XK}
theorem len__law_lifted (h : sp__law_lifted K Cof vs H Q E) : vs.length = 2 := by
  obtain ⟨a, P, n, rfl, _⟩ := h; rfl
theorem rd__law_lifted (h : sp__law_lifted K Cof vs H Q E) : t__law_lifted K Cof E { nx := fun _ H' => Q .non H', rt := Q } (start ["_law_kp", "_law_many", "_law_row_here", "_law_k"] vs) H := by
  obtain ⟨a, P, m, rfl, hS, hl, ⟨m0, m1⟩, hT, q⟩ := h
  unfold t__law_lifted
  have f0 := Fx.refl H
  walk_at "rd"
  refine r_lstK fun p1 H1 hp1 e1 h1 => ?_
  have f1 := f0.ex e1
  have hmp : (m : Int) * (P.length : Int) = ((m * P.length : Nat) : Int) := by omega
  have hb : m * P.length ≤ 1000 * 1000 := Nat.mul_le_mul m1 hl
  walk_at "rd"
  refine r_mul (wide_mul (a := 18) (b := 18) (by omega) (by omega) (by decide) (by decide) (by decide)) ?_
  rw [hmp]
  refine r_rep1 h1 (by omega) fun p H2 hp e2 h2 => ?_
  have f2 := f1.ex e2
  have hpH := f1.free hp
  walk_at "rd"
  refine r_iRng1A (by omega) (by omega) ?_
  rw [Int.toNat_natCast]
  refine loop_range0 (fun i σ' H' => ∃ (rs : List Int) (u : Option V), σ' = [some (.ref a), some (.int (m : Int)), some (.ref p), u] ∧ Fx H H' ∧ H' p = some (.lst (rs.map V.int)) ∧ rs.length = m * P.length ∧ ∀ k, ML.cf rs k = if k % m = 0 ∧ k < m * i then ML.cf P (k / m) else 0)
    ⟨List.replicate (m * P.length) 0, _, rfl, f2, by rw [List.map_replicate]; exact h2, by rw [List.length_replicate], fun k => by rw [ML.cf_rep0, if_neg (by omega)]⟩ (fun i σ' H' hi hp' => ?_) (fun σ' H' hp' => ?_)
  · obtain ⟨rs, u, rfl, f3, h3, l3, c3⟩ := hp'
    have hmi : (m : Int) * (i : Int) = ((m * i : Nat) : Int) := by omega
    have hlt : m * i + m ≤ m * P.length := by rw [← Nat.mul_succ]; exact Nat.mul_le_mul_left m hi
    walk_at "rd"
    refine r_ixI (f3.l hS) (by omega) (by omega) ?_
    rw [Int.toNat_natCast]
    walk_at "rd"
    refine r_mul (wide_mul (a := 18) (b := 18) (by omega) (by omega) (by decide) (by decide) (by decide)) ?_
    rw [hmi]
    refine r_setL h3 (Evl.ixN_nat (by rw [List.length_map]; omega)) fun H4 b4 h4 => ?_
    refine ⟨rs.set (m * i) (ML.cf P i), _, rfl, f3.mut b4 hpH, by rw [List.map_set]; exact h4, by rw [List.length_set]; exact l3, fun k => ?_⟩
    rw [ML.cf_set (by omega), c3]
    have es : m * (i + 1) = m * i + m := Nat.mul_succ m i
    by_cases hk : k = m * i
    · subst hk
      rw [if_pos (rfl : m * i = m * i), Nat.mul_mod_right, if_pos ⟨rfl, by omega⟩, Nat.mul_div_cancel_left _ m0]
    · rw [if_neg hk]
      by_cases h5 : k % m = 0 ∧ k < m * i
      · rw [if_pos h5, if_pos ⟨h5.1, by omega⟩]
      · rw [if_neg h5, if_neg ?_]
        rintro ⟨h6, h7⟩
        apply h5
        refine ⟨h6, ?_⟩
        have hd := Nat.div_add_mod k m
        rw [h6, Nat.add_zero] at hd
        have h8 : k / m < i + 1 := by
          rw [Nat.div_lt_iff_lt_mul m0, Nat.mul_comm]; exact h7
        have h9 : k / m ≠ i := fun e => hk (by rw [← hd, e])
        have h10 : m * (k / m) + m ≤ m * i := by rw [← Nat.mul_succ]; exact Nat.mul_le_mul_left m (by omega)
        omega
  · obtain ⟨rs, u, rfl, f3, h3, l3, c3⟩ := hp'
    walk_at "rd"
    refine c__law_trim (SqL.inj h3) (by omega) fun p2 H2 hp2 e2 h2 => q p2 H2 (f3.free hp2) (f3.ex e2).to ?_
    have et : ML.trimL rs = ML.liftL P m := ML.trimL_eq (ML.trim_liftL m0 hT) fun k => by
      rw [ML.cf_liftL P m0, c3]
      by_cases h5 : k % m = 0
      · rw [if_pos h5]
        by_cases h6 : k < m * P.length
        · rw [if_pos ⟨h5, h6⟩]
        · rw [if_neg (by omega), ML.cf_beyond]
          rw [Nat.le_div_iff_mul_le m0, Nat.mul_comm]; omega
      · rw [if_neg h5, if_neg (by omega)]
    rw [et] at h2
    exact h2
theorem c__law_lifted {a : Addr} {P : List Int} {m : Nat} (h : SqL K H a (P.map V.int)) (hl : P.length ≤ 1000) (hm : 0 < m ∧ m ≤ 1000) (hT : ML.Trim P) (q : ∀ p H', H p = none → Ex H H' → H' p = some (.lst ((ML.liftL P m).map V.int)) → Q (.ref p) H') : sp__law_lifted K Cof [.ref a, .int (m : Int)] H Q E := ⟨a, P, m, rfl, h, hl, hm, hT, q⟩
end

/-! #### law -/
def sp_law (K : PySem.W.Frag) (Cof : String → Addr) : Sp := fun vs H Q _ => ∃ (a : Addr) (ns : List Int), vs = [.ref a] ∧ SqL K H a (ns.map V.int) ∧ ns.length ≤ 63 ∧ ∀ H', Q (.bl true) H'
def t_law (K : PySem.W.Frag) (Cof : String → Addr) (E : XK) : TS :=
  tSeq (tAsg (tOp (rIxL K) (tLst (tCons (tC (.int 2)) (tCons (tOp rPow (tC (.int 10)) (tC (.int 40))) (tNil)))) (tOp rMod (tCall (sp__law_cell K Cof) [] E0 (tCons (tVar 0) (tCons (tC (.int 0)) (tNil)))) (tC (.int 2)))) (gName 1))
  (tSeq (tAsg (tOp rIAdd (tC (.int 1)) (tOp rMod (tCall (sp__law_cell K Cof) [] E0 (tCons (tVar 0) (tCons (tC (.int 1)) (tNil)))) (tC (.int 8)))) (gName 2))
  (tSeq (tAsg (tLc (iList K (tSl (rSlL K) (tVar 0) (tPart (tC (.int 2))) (tPart (tC (.int 40))))) (gName 4) (tYes) (tCall (sp__law_signed K Cof) [] E0 (tCons (tVar 4) (tCons (tVar 1) (tNil)))) [4]) (gName 3))
  (tCut (tIfS (tTest (tOp rEq (tOp rMod (tOp rDiv (tCall (sp__law_cell K Cof) [] E0 (tCons (tVar 0) (tCons (tC (.int 1)) (tNil)))) (tC (.int 8))) (tC (.int 8))) (tC (.int 1)))) (tSeq (tAsg (tOp rMul (tOp rMul (tOp rMul (tOp rMul (tOp rPow (tC (.int 10)) (tC (.int 60))) (tOp rPow (tC (.int 10)) (tC (.int 60)))) (tOp rPow (tC (.int 10)) (tC (.int 60)))) (tOp rPow (tC (.int 10)) (tC (.int 60)))) (tOp rPow (tC (.int 10)) (tC (.int 19)))) (gName 5))
  (tAsg (tLc (iList K (tVar 3)) (gName 6) (tYes) (tOp rIAdd (tOp rMul (tVar 6) (tVar 5)) (tC (.int 1))) [6]) (gName 3))) (tNext))
  (tSeq (tAsg (tCall (sp__law_trim K Cof) [] E0 (tCons (tOp rCat (tOp rRep (tLst (tCons (tC (.int 0)) (tNil))) (tOp rMod (tOp rDiv (tCall (sp__law_cell K Cof) [] E0 (tCons (tVar 0) (tCons (tC (.int 0)) (tNil)))) (tC (.int 2))) (tC (.int 4)))) (tVar 3)) (tNil))) (gName 7))
  (tSeq (tFor (iRng1 (tCons (tC (.int 2)) (tNil))) (gName 8) (tSeq (tAsg (tCB (rListS K) (tCons (tVar 7) (tNil))) (gName 9))
  (tSeq (tAsg (tLst (tCons (tCall (sp_slope K Cof) [] E0 (tCons (tVar 9) (tNil))) (tCons (tCall (sp_turned K Cof) [] E0 (tCons (tVar 9) (tNil))) (tCons (tCall (sp_flipped K Cof) [] E0 (tCons (tVar 9) (tNil))) (tCons (tCall (sp_lifted K Cof) [] E0 (tCons (tVar 9) (tCons (tVar 2) (tNil)))) (tNil)))))) (gName 10))
  (tSeq (tIfS (tOr (tTest (tOp (rNeD K) (tVar 9) (tVar 7))) (tOr (tNot (tB (tCall (sp__law_row K Cof) [] E0 (tCons (tOp (rIxL K) (tVar 10) (tC (.int 0))) (tCons (tCall (sp__law_slope K Cof) [] E0 (tCons (tVar 7) (tNil))) (tNil)))))) (tNot (tB (tCall (sp__law_row K Cof) [] E0 (tCons (tOp (rIxL K) (tVar 10) (tC (.int 1))) (tCons (tCall (sp__law_turned K Cof) [] E0 (tCons (tVar 7) (tNil))) (tNil)))))))) (tRet (tC (.bl false))) (tNext))
  (tSeq (tIfS (tOr (tNot (tB (tCall (sp__law_row K Cof) [] E0 (tCons (tOp (rIxL K) (tVar 10) (tC (.int 2))) (tCons (tCall (sp__law_flipped K Cof) [] E0 (tCons (tVar 7) (tNil))) (tNil)))))) (tNot (tB (tCall (sp__law_row K Cof) [] E0 (tCons (tOp (rIxL K) (tVar 10) (tC (.int 3))) (tCons (tCall (sp__law_lifted K Cof) [] E0 (tCons (tVar 7) (tCons (tVar 2) (tNil)))) (tNil))))))) (tRet (tC (.bl false))) (tNext))
  (tSeq (tIfS (tNot (tB (tCall (sp__law_row K Cof) [] E0 (tCons (tCall (sp_turned K Cof) [] E0 (tCons (tCB (rListS K) (tCons (tOp (rIxL K) (tVar 10) (tC (.int 1))) (tNil))) (tNil))) (tCons (tVar 7) (tNil)))))) (tRet (tC (.bl false))) (tNext))
  (tSeq (tFor (iList K (tVar 10)) (gName 6) (tDrop (tBM K "list" rAppend (tVar 6) (tCons (tC (.int 1)) (tNil)))))
  (tSeq (tIfS (tTest (tOp (rNeD K) (tVar 9) (tVar 7))) (tRet (tC (.bl false))) (tNext))
  (tDrop (tBM K "list" rAppend (tVar 9) (tCons (tC (.int 2)) (tNil))))))))))))
  (tRet (tC (.bl true))))))))

section
variable {K : PySem.W.Frag} {Cof : String → Addr} {vs : List V} {H : Hp} {Q : VK} {E : XK}
theorem len_law (h : sp_law K Cof vs H Q E) : vs.length = 1 := by
  obtain ⟨a, ns, rfl, _⟩ := h; rfl
theorem rd_law (h : sp_law K Cof vs H Q E) : t_law K Cof E { nx := fun _ H' => Q .non H', rt := Q } (start ["_law_script", "_law_size", "_law_many", "_law_row_here", "_law_cell_here", "_law_far", "_law_one", "_law_kp", "_law_turn", "_law_handed", "_law_told"] vs) H := by
  obtain ⟨a, ns, rfl, hS, hl, q⟩ := h
  unfold t_law
  walk_at "rd"
  refine r_lstK fun p1 H1 hp1 e1 h1 => ?_
  have f1 := Fx.of e1
  walk_at "rd"
  refine r_ixI (ns := [2, 10 ^ 40]) (SqL.inj h1) (Int.fmod_nonneg_of_pos _ (by decide)) (Int.fmod_lt_of_pos _ (by decide)) ?_
  have hz : 0 ≤ ([2, 10 ^ 40] : List Int).getD ((cellOf ns 0).fmod 2).toNat 0 ∧ (([2, 10 ^ 40] : List Int).getD ((cellOf ns 0).fmod 2).toNat 0).natAbs < 2 ^ 140 := by
    generalize ((cellOf ns 0).fmod 2).toNat = i
    rcases i with _ | _ | i
    · exact ⟨by decide, by decide⟩
    · exact ⟨by decide, by decide⟩
    · exact ⟨Int.le_refl 0, by show (0 : Int).natAbs < _; decide⟩
  generalize ([2, 10 ^ 40] : List Int).getD ((cellOf ns 0).fmod 2).toNat 0 = size at hz ⊢
  obtain ⟨z0, z1⟩ := hz
  walk_at "rd"
  have mm0 := Int.fmod_nonneg_of_pos (cellOf ns 1) (show (0 : Int) < 8 by decide)
  have mm1 := Int.fmod_lt_of_pos (cellOf ns 1) (show (0 : Int) < 8 by decide)
  obtain ⟨m, em⟩ : ∃ m : Nat, 1 + (cellOf ns 1).fmod 8 = (m : Int) := ⟨(1 + (cellOf ns 1).fmod 8).toNat, by omega⟩
  rw [em]
  have m0 : 0 < m ∧ m ≤ 1000 := by omega
  refine r_slI (f1.l hS) fun p2 H2 hp2 e2 h2 => ?_
  have f2 := f1.ex e2
  refine r_cListA (SqL.inj h2) ?_
  refine lc_ints (fun c => sgn c size) (SqL.inj h2) (Nat.lt_of_le_of_lt (sliceI_len _ _ _) (by omega)) (fun c hc H3 e3 Q' k' => ?_) fun p3 H3 hp3 e3 h3 => ?_
  · walk_at "rd"
    refine c__law_signed z0 (Nat.lt_of_lt_of_le z1 (Nat.pow_le_pow_right (by decide) (by decide))) ?_
    exact k' _ (Evl.Ex.refl _)
  have f3 := f2.ex e3
  have sz3 : ML.Sz 200 ((sliceI ns (some 2) (some 40)).map (fun c => sgn c size)) := fun x hx => by
    obtain ⟨c, _, rfl⟩ := List.mem_map.mp hx
    exact Nat.lt_of_lt_of_le (sgn_abs z0 z1) (Nat.pow_le_pow_right (by decide) (by decide))
  have l3 : ((sliceI ns (some 2) (some 40)).map (fun c => sgn c size)).length ≤ 63 := by
    rw [List.length_map]; exact Nat.le_trans (sliceI_len _ _ _) hl
  generalize (sliceI ns (some 2) (some 40)).map (fun c => sgn c size) = rest at h3 sz3 l3
  walk_at "rd"
  refine ⟨fun σ' H' => ∃ (p : Addr) (rest : List Int) (u1 u3 u4 u5 : Option V), σ' = [some (.ref a), u1, some (.int (m : Int)), some (.ref p), u3, u4, u5, none, none, none, none] ∧ Fx H H' ∧ H' p = some (.lst (rest.map V.int)) ∧ ML.Sz 2000 rest ∧ rest.length ≤ 63, ?_, fun σ' H' hM => ?_⟩
  · walk_at "rd"
    refine ite_d (fun _ => ?_) (fun _ => ?_)
    · walk_at "rd"
      have b1 : ((10 : Int) ^ (60 : Int).toNat).natAbs < 2 ^ 200 := by decide
      have b2 : ((10 : Int) ^ (19 : Int).toNat).natAbs < 2 ^ 200 := by decide
      refine r_mul (wide_mul b1 b1 (by decide) (by decide) (by decide)) ?_
      walk_at "rd"
      refine r_mul (wide_mul (wide_lt b1 b1) b1 (by decide) (by decide) (by decide)) ?_
      walk_at "rd"
      refine r_mul (wide_mul (wide_lt (wide_lt b1 b1) b1) b1 (by decide) (by decide) (by decide)) ?_
      walk_at "rd"
      refine r_mul (wide_mul (wide_lt (wide_lt (wide_lt b1 b1) b1) b1) b2 (by decide) (by decide) (by decide)) ?_
      have b3 := wide_lt (wide_lt (wide_lt (wide_lt b1 b1) b1) b1) b2
      generalize ((10 : Int) ^ (60 : Int).toNat * 10 ^ (60 : Int).toNat * 10 ^ (60 : Int).toNat * 10 ^ (60 : Int).toNat * 10 ^ (19 : Int).toNat) = far at b3 ⊢
      walk_at "rd"
      refine lc_ints (fun x => x * far + 1) (SqL.inj h3) (by omega) (fun x hx H4 e4 Q' k' => ?_) fun p4 H4 hp4 e4 h4 => ?_
      · walk_at "rd"
        refine r_mul (wide_mul (sz3 x hx) b3 (by decide) (by decide) (by decide)) ?_
        walk_at "rd"
        exact k' _ (Evl.Ex.refl _)
      · walk_at "rd"
        refine ⟨p4, _, _, _, _, _, rfl, f3.ex e4, h4, fun y hy => ?_, by rw [List.length_map]; exact l3⟩
        obtain ⟨x, hx, rfl⟩ := List.mem_map.mp hy
        have := wide_lt (sz3 x hx) b3
        have h2 : (2 : Nat) ^ (200 + (200 + 200 + 200 + 200 + 200)) + 1 ≤ 2 ^ 2000 := by decide
        omega
    · walk_at "rd"
      exact ⟨p3, rest, _, _, _, _, rfl, f3, h3, sz3.mono (by decide), l3⟩
  clear hp1 hp2 hp3 e1 e2 e3 h1 h2 h3 f1 f2 f3 sz3 l3
  obtain ⟨p4, rest, u1, u3, u4, u5, rfl, f4, h4, sz4, l4⟩ := hM
  walk_at "rd"
  refine r_lstK fun p6 H6 hp6 e6 h6 => ?_
  have f6 := f4.ex e6
  walk_at "rd"
  have d0 := Int.fmod_nonneg_of_pos ((cellOf ns 0).fdiv 2) (show (0 : Int) < 4 by decide)
  have d1 := Int.fmod_lt_of_pos ((cellOf ns 0).fdiv 2) (show (0 : Int) < 4 by decide)
  refine r_rep1 h6 (by omega) fun p7 H7 hp7 e7 h7 => ?_
  have f7 := f6.ex e7
  rw [← List.map_replicate (f := V.int) (a := 0)] at h7
  walk_at "rd"
  refine r_catI (ms := rest) h7 (by walk_at "hp") (by rw [List.length_replicate]; omega) fun p8 H8 hp8 e8 h8 => ?_
  have f8 := f7.ex e8
  have sz8 : ML.Sz 2000 (List.replicate (((cellOf ns 0).fdiv 2).fmod 4).toNat 0 ++ rest) := (ML.Sz.rep0 _ _).append sz4
  have l8 : (List.replicate (((cellOf ns 0).fdiv 2).fmod 4).toNat 0 ++ rest).length ≤ 70 := by
    rw [List.length_append, List.length_replicate]; omega
  generalize List.replicate (((cellOf ns 0).fdiv 2).fmod 4).toNat 0 ++ rest = row at h8 sz8 l8
  walk_at "rd"
  refine c__law_trim (SqL.inj h8) (by omega) fun p9 H9 hp9 e9 h9 => ?_
  have szT : ML.Sz 2000 (ML.trimL row) := sz8.trim
  have lT : (ML.trimL row).length ≤ 70 := Nat.le_trans (ML.trimL_len _) l8
  have hT := ML.trim_trimL row
  generalize ML.trimL row = P at h9 szT lT hT
  clear h4 h6 h7 h8 e6 e7 e8 e9 f4 f6 f7 f8 hp6 hp7 hp8 hp9
  walk_at "rd"
  have n1 : 0 < 2000 ∧ 2000 ≤ 100000 := by decide
  have bs : (ML.slopeL P).length ≤ 1000 := by unfold ML.slopeL; rw [List.length_map, List.length_range]; omega
  have bt : (ML.turnL P).length ≤ 1000 := by rw [ML.turnL_len]; omega
  have bf : (ML.flipL P).length ≤ 1000 := Nat.le_trans (ML.trimL_len _) (by rw [List.length_reverse]; omega)
  have bl : (ML.liftL P m).length ≤ 1000 := by
    rw [ML.liftL_len]
    split
    · omega
    · have : m * (P.length - 1) ≤ 8 * 70 := Nat.mul_le_mul (by omega) (by omega)
      omega
  refine r_iRng1A (by decide) (by decide) ?_
  refine loop_range0 (n := 2) (fun i σ' H' => ∃ u1 u2 u3 u4 u5 u6 u7 u8 : Option V, σ' = [some (.ref a), u1, some (.int (m : Int)), u2, u3, u4, u5, some (.ref p9), u6, u7, u8] ∧ Fx H9 H') ⟨_, _, _, _, _, _, _, _, rfl, Fx.refl _⟩ (fun i σ' H' hi hp' => ?_) (fun σ' H' hp' => ?_)
  · obtain ⟨u1, u2, u3, u4, u5, u6, u7, u8, rfl, g0⟩ := hp'
    have A9 : SqL K H9 p9 (P.map V.int) := SqL.inj h9
    walk_at "rd"
    refine r_list (g0.l A9) fun l5 H5 hl5 e5 h5 => ?_
    have g5 := g0.ex e5
    walk_at "rd"
    refine c_slope 2000 (SqL.inj h5) (by omega) szT n1 fun q6 H6 hq6 e6 h6 => ?_
    have g6 := g5.ex e6
    walk_at "rd"
    refine c_turned (P := P) 2000 (by walk_at "sq") (by omega) szT n1 fun q7 H7 hq7 e7 h7 => ?_
    have g7 := g6.ex e7
    walk_at "rd"
    refine c_flipped (P := P) 2000 (by walk_at "sq") (by omega) szT n1 fun q8 H8 hq8 e8 h8 => ?_
    have g8 := g7.ex e8
    walk_at "rd"
    refine c_lifted (P := P) (by walk_at "sq") (by omega) m0 fun q9 H10 hq9 e9 h10 => ?_
    have g9 := g8.ex e9
    walk_at "rd"
    refine r_lstK fun t11 H11 ht11 e11 h11 => ?_
    have g11 := g9.ex e11
    walk_at "rd"
    refine r_neInts (ns := P) (ms := P) (by walk_at "sq") (g11.l A9) ?_
    walk_at "rd"
    refine ite_nd (fun h => absurd rfl h) (fun _ => ?_)
    walk_at "rd"
    refine r_ixL (SqL.inj h11) (atI_nat (j := 0) rfl) ?_
    walk_at "rd"
    refine c__law_slope 2000 (g11.l A9) (by omega) szT n1 fun q12 H12 hq12 e12 h12 => ?_
    have g12 := g11.ex e12
    walk_at "rd"
    refine c__law_row (ns := ML.slopeL P) (by walk_at "hp") (by walk_at "sq") (by omega) ?_
    walk_at "rd"
    refine r_ixL (xs := [.ref q6, .ref q7, .ref q8, .ref q9]) (by walk_at "sq") (atI_nat (j := 1) rfl) ?_
    walk_at "rd"
    refine c__law_turned 2000 (g12.l A9) (by omega) szT n1 fun q13 H13 hq13 e13 h13 => ?_
    have g13 := g12.ex e13
    walk_at "rd"
    refine c__law_row (ns := ML.turnL P) (by walk_at "hp") (by walk_at "sq") (by omega) ?_
    walk_at "rd"
    refine r_ixL (xs := [.ref q6, .ref q7, .ref q8, .ref q9]) (by walk_at "sq") (atI_nat (j := 2) rfl) ?_
    walk_at "rd"
    refine c__law_flipped 2000 (g13.l A9) (by omega) szT n1 fun q14 H14 hq14 e14 h14 => ?_
    have g14 := g13.ex e14
    walk_at "rd"
    refine c__law_row (ns := ML.flipL P) (by walk_at "hp") (by walk_at "sq") (by omega) ?_
    walk_at "rd"
    refine r_ixL (xs := [.ref q6, .ref q7, .ref q8, .ref q9]) (by walk_at "sq") (atI_nat (j := 3) rfl) ?_
    walk_at "rd"
    refine c__law_lifted (g14.l A9) (by omega) m0 hT fun q15 H15 hq15 e15 h15 => ?_
    have g15 := g14.ex e15
    walk_at "rd"
    refine c__law_row (ns := ML.liftL P m) (by walk_at "hp") (by walk_at "sq") (by omega) ?_
    walk_at "rd"
    refine r_ixL (xs := [.ref q6, .ref q7, .ref q8, .ref q9]) (by walk_at "sq") (atI_nat (j := 1) rfl) ?_
    walk_at "rd"
    refine r_list (xs := (ML.turnL P).map V.int) (by walk_at "sq") fun q16 H16 hq16 e16 h16 => ?_
    have g16 := g15.ex e16
    walk_at "rd"
    refine c_turned (P := ML.turnL P) 2000 (by walk_at "sq") (by rw [ML.turnL_len]; omega) (ML.Sz.of fun k _ => by
      rw [ML.cf_turnL]
      have := szT.cf k
      split
      · rw [Int.natAbs_neg]; exact this
      · exact this) n1 fun q17 H17 hq17 e17 h17 => ?_
    have g17 := g16.ex e17
    rw [ML.turnL_turnL] at h17
    walk_at "rd"
    refine c__law_row (ns := P) (by walk_at "hp") (g17.l A9) (by omega) ?_
    walk_at "rd"
    -- what was told is changed
    have k6 : H17 q6 = some (.lst ((ML.slopeL P).map V.int)) := by walk_at "hp"
    have k7 : H17 q7 = some (.lst ((ML.turnL P).map V.int)) := by walk_at "hp"
    have k8 : H17 q8 = some (.lst ((ML.flipL P).map V.int)) := by walk_at "hp"
    have k9 : H17 q9 = some (.lst ((ML.liftL P m).map V.int)) := by walk_at "hp"
    have kt : H17 t11 = some (.lst [.ref q6, .ref q7, .ref q8, .ref q9]) := by walk_at "hp"
    have kl : H17 l5 = some (.lst (P.map V.int)) := by walk_at "hp"
    have n6 : t11 ≠ q6 := by walk_at "ne"
    have n7 : t11 ≠ q7 := by walk_at "ne"
    have n8 : t11 ≠ q8 := by walk_at "ne"
    have n9 : t11 ≠ q9 := by walk_at "ne"
    have o6 : l5 ≠ q6 := by walk_at "ne"
    have o7 : l5 ≠ q7 := by walk_at "ne"
    have o8 : l5 ≠ q8 := by walk_at "ne"
    have o9 : l5 ≠ q9 := by walk_at "ne"
    have m6 : H9 q6 = none := g5.free hq6
    have m7 : H9 q7 = none := g6.free hq7
    have m8 : H9 q8 = none := g7.free hq8
    have m9 : H9 q9 = none := g8.free hq9
    refine loop_list (xs := [.ref q6, .ref q7, .ref q8, .ref q9]) (fun k σ2 H2 => ∃ v, σ2 = [some (.ref a), u1, some (.int (m : Int)), u2, u3, u4, v, some (.ref p9), some (.int (i : Int)), some (.ref l5), some (.ref t11)] ∧ Fx H9 H2 ∧ H2 t11 = some (.lst [.ref q6, .ref q7, .ref q8, .ref q9]) ∧ H2 l5 = some (.lst (P.map V.int)) ∧ ∀ q, V.ref q ∈ [V.ref q6, .ref q7, .ref q8, .ref q9] → H9 q = none ∧ t11 ≠ q ∧ l5 ≠ q ∧ ∃ xs, H2 q = some (.lst xs) ∧ xs.length ≤ 1200000 + k) ⟨_, rfl, g17, kt, kl, fun q hq => ?_⟩ (fun k σ2 H2 _ hp2 => ?_) (fun k x σ2 H2 hx hp2 => ?_) (fun σ2 H2 hp2 => ?_)
    · simp only [List.mem_cons, V.ref.injEq, List.not_mem_nil, or_false] at hq
      rcases hq with rfl | rfl | rfl | rfl
      · exact ⟨m6, n6, o6, _, k6, by rw [List.length_map]; omega⟩
      · exact ⟨m7, n7, o7, _, k7, by rw [List.length_map]; omega⟩
      · exact ⟨m8, n8, o8, _, k8, by rw [List.length_map]; omega⟩
      · exact ⟨m9, n9, o9, _, k9, by rw [List.length_map]; omega⟩
    · obtain ⟨v, rfl, _, h, _⟩ := hp2
      exact SqL.inj h
    · obtain ⟨v, rfl, gg, hh, hh2, hall⟩ := hp2
      have hmem := List.mem_of_getElem? hx
      obtain ⟨q, rfl⟩ : ∃ q, x = V.ref q := by
        simp only [List.mem_cons, List.not_mem_nil, or_false] at hmem
        rcases hmem with rfl | rfl | rfl | rfl <;> exact ⟨_, rfl⟩
      obtain ⟨hq0, hqt, hql, xs, hq1, hq2⟩ := hall q hmem
      have hk4 : k < 4 := (List.getElem?_eq_some_iff.mp hx).1
      walk_at "rd"
      refine r_append hq1 (small_lt (by omega)) fun H15 b15 h15 => ?_
      refine ⟨_, rfl, gg.mut b15 hq0, b15 _ hqt _ hh, b15 _ hql _ hh2, fun q' hq' => ?_⟩
      obtain ⟨z0, z1, z1', ys, z2, z3⟩ := hall q' hq'
      refine ⟨z0, z1, z1', ?_⟩
      by_cases e : q' = q
      · subst e
        rw [hq1] at z2
        cases z2
        exact ⟨_, h15, by rw [List.length_append]; show _ + 1 ≤ _; omega⟩
      · exact ⟨ys, b15 _ e _ z2, by omega⟩
    · obtain ⟨v, rfl, gg, _, hh2, _⟩ := hp2
      walk_at "rd"
      refine r_neInts (ns := P) (ms := P) (SqL.inj hh2) (gg.l A9) ?_
      walk_at "rd"
      refine ite_nd (fun h => absurd rfl h) (fun _ => ?_)
      walk_at "rd"
      refine r_appendI hh2 (by omega) fun H18 b18 h18 => ?_
      exact ⟨_, _, _, _, _, _, _, _, rfl, gg.mut b18 (g0.free hl5)⟩
  · obtain ⟨u1, u2, u3, u4, u5, u6, u7, u8, rfl, g⟩ := hp'
    walk_at "rd"
    exact q _
end

def topS (i : Nat) : Stmt := PySem.Challenge.pw_rootspan_k08_slope_turned_flipped_lifted.main.body.getD i (.Pass ⟨0, 0, 0, 0⟩)
abbrev s_poly : Stmt := topS 1
theorem sc_poly : FnScope ["row", "size"] ["row"] (defScope s_poly) := ⟨rfl, rfl, rfl, by decide +kernel, rfl, by decide +kernel, by decide +kernel⟩
abbrev s_slope : Stmt := topS 2
theorem sc_slope : FnScope ["P", "k"] ["P"] (defScope s_slope) := ⟨rfl, rfl, rfl, by decide +kernel, rfl, by decide +kernel, by decide +kernel⟩
abbrev s_turned : Stmt := topS 3
theorem sc_turned : FnScope ["P", "row", "k"] ["P"] (defScope s_turned) := ⟨rfl, rfl, rfl, by decide +kernel, rfl, by decide +kernel, by decide +kernel⟩
abbrev s_flipped : Stmt := topS 4
theorem sc_flipped : FnScope ["P"] ["P"] (defScope s_flipped) := ⟨rfl, rfl, rfl, by decide +kernel, rfl, by decide +kernel, by decide +kernel⟩
abbrev s_lifted : Stmt := topS 5
theorem sc_lifted : FnScope ["P", "k", "row", "one"] ["P", "k"] (defScope s_lifted) := ⟨rfl, rfl, rfl, by decide +kernel, rfl, by decide +kernel, by decide +kernel⟩
abbrev s__law_cell : Stmt := topS 7
theorem sc__law_cell : FnScope ["_law_script", "_law_k"] ["_law_script", "_law_k"] (defScope s__law_cell) := ⟨rfl, rfl, rfl, by decide +kernel, rfl, by decide +kernel, by decide +kernel⟩
abbrev s__law_whole : Stmt := topS 8
theorem sc__law_whole : FnScope ["_law_found"] ["_law_found"] (defScope s__law_whole) := ⟨rfl, rfl, rfl, by decide +kernel, rfl, by decide +kernel, by decide +kernel⟩
abbrev s__law_signed : Stmt := topS 9
theorem sc__law_signed : FnScope ["_law_cell_here", "_law_size"] ["_law_cell_here", "_law_size"] (defScope s__law_signed) := ⟨rfl, rfl, rfl, by decide +kernel, rfl, by decide +kernel, by decide +kernel⟩
abbrev s__law_trim : Stmt := topS 10
theorem sc__law_trim : FnScope ["_law_row_here", "_law_size"] ["_law_row_here"] (defScope s__law_trim) := ⟨rfl, rfl, rfl, by decide +kernel, rfl, by decide +kernel, by decide +kernel⟩
abbrev s__law_row : Stmt := topS 11
theorem sc__law_row : FnScope ["_law_found", "_law_due", "_law_k"] ["_law_found", "_law_due"] (defScope s__law_row) := ⟨rfl, rfl, rfl, by decide +kernel, rfl, by decide +kernel, by decide +kernel⟩
abbrev s__law_slope : Stmt := topS 12
theorem sc__law_slope : FnScope ["_law_kp", "_law_k"] ["_law_kp"] (defScope s__law_slope) := ⟨rfl, rfl, rfl, by decide +kernel, rfl, by decide +kernel, by decide +kernel⟩
abbrev s__law_turned : Stmt := topS 13
theorem sc__law_turned : FnScope ["_law_kp", "_law_k"] ["_law_kp"] (defScope s__law_turned) := ⟨rfl, rfl, rfl, by decide +kernel, rfl, by decide +kernel, by decide +kernel⟩
abbrev s__law_flipped : Stmt := topS 14
theorem sc__law_flipped : FnScope ["_law_kp", "_law_k"] ["_law_kp"] (defScope s__law_flipped) := ⟨rfl, rfl, rfl, by decide +kernel, rfl, by decide +kernel, by decide +kernel⟩
abbrev s__law_lifted : Stmt := topS 15
theorem sc__law_lifted : FnScope ["_law_kp", "_law_many", "_law_row_here", "_law_k"] ["_law_kp", "_law_many"] (defScope s__law_lifted) := ⟨rfl, rfl, rfl, by decide +kernel, rfl, by decide +kernel, by decide +kernel⟩
abbrev s_law : Stmt := topS 16
theorem sc_law : FnScope ["_law_script", "_law_size", "_law_many", "_law_row_here", "_law_cell_here", "_law_far", "_law_one", "_law_kp", "_law_turn", "_law_handed", "_law_told"] ["_law_script"] (defScope s_law) := ⟨rfl, rfl, rfl, by decide +kernel, rfl, by decide +kernel, by decide +kernel⟩
structure Txt (K : PySem.W.Frag) (mg : Str → Option Value) (Cof : String → Addr) (ad : Nat → Addr) (fd : Nat → FuncData) : Prop where
  z_bool : mg "bool" = none
  z_int : mg "int" = none
  z_isinstance : mg "isinstance" = none
  z_len : mg "len" = none
  z_list : mg "list" = none
  z_range : mg "range" = none
  g_poly : mg "poly" = some (.ref (ad 0))
  F_poly : Fun K "poly" "poly" s_poly (ad 0) (fd 0)
  g_slope : mg "slope" = some (.ref (ad 1))
  F_slope : Fun K "slope" "slope" s_slope (ad 1) (fd 1)
  g_turned : mg "turned" = some (.ref (ad 2))
  F_turned : Fun K "turned" "turned" s_turned (ad 2) (fd 2)
  g_flipped : mg "flipped" = some (.ref (ad 3))
  F_flipped : Fun K "flipped" "flipped" s_flipped (ad 3) (fd 3)
  g_lifted : mg "lifted" = some (.ref (ad 4))
  F_lifted : Fun K "lifted" "lifted" s_lifted (ad 4) (fd 4)
  g__law_cell : mg "_law_cell" = some (.ref (ad 5))
  F__law_cell : Fun K "_law_cell" "_law_cell" s__law_cell (ad 5) (fd 5)
  g__law_whole : mg "_law_whole" = some (.ref (ad 6))
  F__law_whole : Fun K "_law_whole" "_law_whole" s__law_whole (ad 6) (fd 6)
  g__law_signed : mg "_law_signed" = some (.ref (ad 7))
  F__law_signed : Fun K "_law_signed" "_law_signed" s__law_signed (ad 7) (fd 7)
  g__law_trim : mg "_law_trim" = some (.ref (ad 8))
  F__law_trim : Fun K "_law_trim" "_law_trim" s__law_trim (ad 8) (fd 8)
  g__law_row : mg "_law_row" = some (.ref (ad 9))
  F__law_row : Fun K "_law_row" "_law_row" s__law_row (ad 9) (fd 9)
  g__law_slope : mg "_law_slope" = some (.ref (ad 10))
  F__law_slope : Fun K "_law_slope" "_law_slope" s__law_slope (ad 10) (fd 10)
  g__law_turned : mg "_law_turned" = some (.ref (ad 11))
  F__law_turned : Fun K "_law_turned" "_law_turned" s__law_turned (ad 11) (fd 11)
  g__law_flipped : mg "_law_flipped" = some (.ref (ad 12))
  F__law_flipped : Fun K "_law_flipped" "_law_flipped" s__law_flipped (ad 12) (fd 12)
  g__law_lifted : mg "_law_lifted" = some (.ref (ad 13))
  F__law_lifted : Fun K "_law_lifted" "_law_lifted" s__law_lifted (ad 13) (fd 13)
  g_law : mg "law" = some (.ref (ad 14))
  F_law : Fun K "law" "law" s_law (ad 14) (fd 14)
section
variable {P : Program} {w : World} {K : PySem.W.Frag} {mg : Str → Option Value} {base : Heap} {Cof : String → Addr} {ad : Nat → Addr} {fd : Nat → FuncData}
theorem B_poly (T : Txt K mg Cof ad fd) : Binds K (fd 0) ["row"] [] := T.F_poly.binds (ps := ["row"]) fun _ _ _ _ _ _ us hl => match us, hl with | [_], _ => rfl
theorem B_slope (T : Txt K mg Cof ad fd) : Binds K (fd 1) ["P"] [] := T.F_slope.binds (ps := ["P"]) fun _ _ _ _ _ _ us hl => match us, hl with | [_], _ => rfl
theorem B_turned (T : Txt K mg Cof ad fd) : Binds K (fd 2) ["P"] [] := T.F_turned.binds (ps := ["P"]) fun _ _ _ _ _ _ us hl => match us, hl with | [_], _ => rfl
theorem B_flipped (T : Txt K mg Cof ad fd) : Binds K (fd 3) ["P"] [] := T.F_flipped.binds (ps := ["P"]) fun _ _ _ _ _ _ us hl => match us, hl with | [_], _ => rfl
theorem B_lifted (T : Txt K mg Cof ad fd) : Binds K (fd 4) ["P", "k"] [] := T.F_lifted.binds (ps := ["P", "k"]) fun _ _ _ _ _ _ us hl => match us, hl with | [_, _], _ => rfl
theorem B__law_cell (T : Txt K mg Cof ad fd) : Binds K (fd 5) ["_law_script", "_law_k"] [] := T.F__law_cell.binds (ps := ["_law_script", "_law_k"]) fun _ _ _ _ _ _ us hl => match us, hl with | [_, _], _ => rfl
theorem B__law_whole (T : Txt K mg Cof ad fd) : Binds K (fd 6) ["_law_found"] [] := T.F__law_whole.binds (ps := ["_law_found"]) fun _ _ _ _ _ _ us hl => match us, hl with | [_], _ => rfl
theorem B__law_signed (T : Txt K mg Cof ad fd) : Binds K (fd 7) ["_law_cell_here", "_law_size"] [] := T.F__law_signed.binds (ps := ["_law_cell_here", "_law_size"]) fun _ _ _ _ _ _ us hl => match us, hl with | [_, _], _ => rfl
theorem B__law_trim (T : Txt K mg Cof ad fd) : Binds K (fd 8) ["_law_row_here"] [] := T.F__law_trim.binds (ps := ["_law_row_here"]) fun _ _ _ _ _ _ us hl => match us, hl with | [_], _ => rfl
theorem B__law_row (T : Txt K mg Cof ad fd) : Binds K (fd 9) ["_law_found", "_law_due"] [] := T.F__law_row.binds (ps := ["_law_found", "_law_due"]) fun _ _ _ _ _ _ us hl => match us, hl with | [_, _], _ => rfl
theorem B__law_slope (T : Txt K mg Cof ad fd) : Binds K (fd 10) ["_law_kp"] [] := T.F__law_slope.binds (ps := ["_law_kp"]) fun _ _ _ _ _ _ us hl => match us, hl with | [_], _ => rfl
theorem B__law_turned (T : Txt K mg Cof ad fd) : Binds K (fd 11) ["_law_kp"] [] := T.F__law_turned.binds (ps := ["_law_kp"]) fun _ _ _ _ _ _ us hl => match us, hl with | [_], _ => rfl
theorem B__law_flipped (T : Txt K mg Cof ad fd) : Binds K (fd 12) ["_law_kp"] [] := T.F__law_flipped.binds (ps := ["_law_kp"]) fun _ _ _ _ _ _ us hl => match us, hl with | [_], _ => rfl
theorem B__law_lifted (T : Txt K mg Cof ad fd) : Binds K (fd 13) ["_law_kp", "_law_many"] [] := T.F__law_lifted.binds (ps := ["_law_kp", "_law_many"]) fun _ _ _ _ _ _ us hl => match us, hl with | [_, _], _ => rfl
theorem B_law (T : Txt K mg Cof ad fd) : Binds K (fd 14) ["_law_script"] [] := T.F_law.binds (ps := ["_law_script"]) fun _ _ _ _ _ _ us hl => match us, hl with | [_], _ => rfl
theorem ok_poly (T : Txt K mg Cof ad fd) : FnOk P w K mg base CX0 1 (ad 0) (fd 0) ["row"] (sp_poly K Cof) := by
  have nd := sc_poly.nd
  refine T.F_poly.ok sc_poly (fun vs H Q E h => len_poly h) (fun cdv A outer s H vs Q E hr h => ⟨t_poly K Cof E, ?_, rd_poly h⟩)
  exact pss_cons (ps_set (i := 1) nd rfl (by first | exact Or.inl rfl | exact Or.inr rfl) (pe_callB call_len_seq (by rfl) T.z_len (by decide +kernel) (pa_cons (pv 0) (pa_nil))))
       (pss_cons (ps_while PassesOwn.never (PW.pt (pw_and (pt_cmpR op_gt (pv 1) (pe_int) (nomark _)) (pw_and1 (pt_cmpR op_eq (pe_ix ix_list (pv 0) (pe_op op_sub (pv 1) (pe_int)) (fun _ _ => rfl)) (pe_int) (nomark _))))) (pss_one (ps_set (i := 1) nd rfl (by first | exact Or.inl rfl | exact Or.inr rfl) (pe_op op_sub (pv 1) (pe_int)))))
       (pss_one (ps_ret (pe_slice sl_list (pv 0) (po_none) (po_some (pv 1))))))
theorem ok_slope (T : Txt K mg Cof ad fd) : FnOk P w K mg base CX0 1 (ad 1) (fd 1) ["P"] (sp_slope K Cof) := by
  have nd := sc_slope.nd
  refine T.F_slope.ok sc_slope (fun vs H Q E h => len_slope h) (fun cdv A outer s H vs Q E hr h => ⟨t_slope K Cof E, ?_, rd_slope h⟩)
  exact pss_one (ps_ret (pe_lc (own := [("k", 1)]) (by rfl) nd (pi_range2 (by rfl) T.z_range (pa_cons (pe_int) (pa_cons (pe_callB call_len_seq (by rfl) T.z_len (by decide +kernel) (pa_cons (pv 0) (pa_nil))) (pa_nil)))) (blkOk_by (own := [("k", 1)]) (N := ["P", "k"]) (sc := defScope s_slope) (by decide +kernel)) (fun _ _ _ _ _ => pg_name (i := 1) nd rfl (by first | exact Or.inl rfl | exact Or.inr rfl)) (fun _ _ _ _ _ => pts_nil) (fun _ _ _ _ _ => pe_op op_mulW (pv 1) (pe_ix ix_list (pv 0) (pv 1) (fun _ _ => rfl)))))
theorem ok_turned (T : Txt K mg Cof ad fd) : FnOk P w K mg base CX0 1 (ad 2) (fd 2) ["P"] (sp_turned K Cof) := by
  have nd := sc_turned.nd
  refine T.F_turned.ok sc_turned (fun vs H Q E h => len_turned h) (fun cdv A outer s H vs Q E hr h => ⟨t_turned K Cof E, ?_, rd_turned h⟩)
  exact pss_cons (ps_set (i := 1) nd rfl (by first | exact Or.inl rfl | exact Or.inr rfl) (pe_callTy call_list_of (by rfl) T.z_list (by decide +kernel) (pa_cons (pv 0) (pa_nil))))
       (pss_cons (ps_for PassesOwn.never rfl (pi_range3 (by rfl) T.z_range (pa_cons (pe_int) (pa_cons (pe_callB call_len_seq (by rfl) T.z_len (by decide +kernel) (pa_cons (pv 0) (pa_nil))) (pa_cons (pe_int) (pa_nil))))) (pg_name (i := 2) nd rfl (by first | exact Or.inl rfl | exact Or.inr rfl)) (pss_one (ps_asg (pe_un un_neg (pe_ix ix_list (pv 0) (pv 2) (fun _ _ => rfl))) (pg_sub (pv 1) (pv 2) set_list))))
       (pss_one (ps_ret (pv 1))))
theorem ok_flipped (T : Txt K mg Cof ad fd) : FnOk P w K mg base CX0 2 (ad 3) (fd 3) ["P"] (sp_flipped K Cof) := by
  have G_poly := ok_poly (P := P) (w := w) (base := base) T
  have B_poly := B_poly T
  have nd := sc_flipped.nd
  refine T.F_flipped.ok sc_flipped (fun vs H Q E h => len_flipped h) (fun cdv A outer s H vs Q E hr h => ⟨t_flipped K Cof E, ?_, rd_flipped h⟩)
  exact pss_one (ps_ret (pe_call G_poly (hr.mono (by decide)) (by rfl) T.g_poly T.F_poly.kp B_poly .nil pass0 (pa_cons (pe_revL (pv 0)) (pa_nil))))
theorem ok_lifted (T : Txt K mg Cof ad fd) : FnOk P w K mg base CX0 1 (ad 4) (fd 4) ["P", "k"] (sp_lifted K Cof) := by
  have nd := sc_lifted.nd
  refine T.F_lifted.ok sc_lifted (fun vs H Q E h => len_lifted h) (fun cdv A outer s H vs Q E hr h => ⟨t_lifted K Cof E, ?_, rd_lifted h⟩)
  exact pss_cons (ps_set (i := 2) nd rfl (by first | exact Or.inl rfl | exact Or.inr rfl) (pe_lst (pa_nil)))
       (pss_cons (ps_for PassesOwn.never rfl (pi_list (pv 0)) (pg_name (i := 3) nd rfl (by first | exact Or.inl rfl | exact Or.inr rfl)) (pss_cut (ps_if (pt_tru (pv 2)) (pss_one (ps_set (i := 2) nd rfl (by first | exact Or.inl rfl | exact Or.inr rfl) (pe_op op_cat (pv 2) (pe_op op_rep (pe_lst (pa_cons (pe_int) (pa_nil))) (pe_op op_sub (pv 1) (pe_int)))))) (pss_nil))
       (pss_one (ps_expr (pe_bm PySem.F.plainAttrs_list PySem.F.slot_list_append PySem.F.type_list_append mt_append (pv 2) (pa_cons (pv 3) (pa_nil)))))))
       (pss_one (ps_ret (pv 2))))
theorem ok__law_cell (T : Txt K mg Cof ad fd) : FnOk P w K mg base CX0 1 (ad 5) (fd 5) ["_law_script", "_law_k"] (sp__law_cell K Cof) := by
  have nd := sc__law_cell.nd
  refine T.F__law_cell.ok sc__law_cell (fun vs H Q E h => len__law_cell h) (fun cdv A outer s H vs Q E hr h => ⟨t__law_cell K Cof E, ?_, rd__law_cell h⟩)
  exact pss_cons (ps_if (pt_cmpR op_lt (pv 1) (pe_callB call_len_seq (by rfl) T.z_len (by decide +kernel) (pa_cons (pv 0) (pa_nil))) (nomark _)) (pss_one (ps_ret (pe_ix ix_list (pv 0) (pv 1) (fun _ _ => rfl)))) (pss_nil))
       (pss_one (ps_ret (pe_int)))
theorem ok__law_whole (T : Txt K mg Cof ad fd) : FnOk P w K mg base CX0 1 (ad 6) (fd 6) ["_law_found"] (sp__law_whole K Cof) := by
  have nd := sc__law_whole.nd
  refine T.F__law_whole.ok sc__law_whole (fun vs H Q E h => len__law_whole h) (fun cdv A outer s H vs Q E hr h => ⟨t__law_whole K Cof E, ?_, rd__law_whole h⟩)
  exact pss_one (ps_ret (pe_and (pe_callB call_isi (by rfl) T.z_isinstance (by decide +kernel) (pa_cons (pv 0) (pa_cons (pe_bltn (v := .ty "int") (by rfl) T.z_int (by decide +kernel) rfl) (pa_nil)))) (pe_one (pe_not (pe_callB call_isi (by rfl) T.z_isinstance (by decide +kernel) (pa_cons (pv 0) (pa_cons (pe_bltn (v := .ty "bool") (by rfl) T.z_bool (by decide +kernel) rfl) (pa_nil))))))))
theorem ok__law_signed (T : Txt K mg Cof ad fd) : FnOk P w K mg base CX0 1 (ad 7) (fd 7) ["_law_cell_here", "_law_size"] (sp__law_signed K Cof) := by
  have nd := sc__law_signed.nd
  refine T.F__law_signed.ok sc__law_signed (fun vs H Q E h => len__law_signed h) (fun cdv A outer s H vs Q E hr h => ⟨t__law_signed K Cof E, ?_, rd__law_signed h⟩)
  exact pss_one (ps_ret (pe_op op_sub (pe_op op_modN (pv 0) (pe_op op_add (pe_op op_mulW (pe_int) (pv 1)) (pe_int))) (pv 1)))
theorem ok__law_trim (T : Txt K mg Cof ad fd) : FnOk P w K mg base CX0 1 (ad 8) (fd 8) ["_law_row_here"] (sp__law_trim K Cof) := by
  have nd := sc__law_trim.nd
  refine T.F__law_trim.ok sc__law_trim (fun vs H Q E h => len__law_trim h) (fun cdv A outer s H vs Q E hr h => ⟨t__law_trim K Cof E, ?_, rd__law_trim h⟩)
  exact pss_cons (ps_set (i := 1) nd rfl (by first | exact Or.inl rfl | exact Or.inr rfl) (pe_callB call_len_seq (by rfl) T.z_len (by decide +kernel) (pa_cons (pv 0) (pa_nil))))
       (pss_cons (ps_while PassesOwn.never (PW.pt (pw_and (pt_cmpR op_gt (pv 1) (pe_int) (nomark _)) (pw_and1 (pt_cmpR op_eq (pe_ix ix_list (pv 0) (pe_op op_sub (pv 1) (pe_int)) (fun _ _ => rfl)) (pe_int) (nomark _))))) (pss_one (ps_set (i := 1) nd rfl (by first | exact Or.inl rfl | exact Or.inr rfl) (pe_op op_sub (pv 1) (pe_int)))))
       (pss_one (ps_ret (pe_slice sl_list (pv 0) (po_none) (po_some (pv 1))))))
theorem ok__law_row (T : Txt K mg Cof ad fd) : FnOk P w K mg base CX0 2 (ad 9) (fd 9) ["_law_found", "_law_due"] (sp__law_row K Cof) := by
  have G__law_whole := ok__law_whole (P := P) (w := w) (base := base) T
  have B__law_whole := B__law_whole T
  have nd := sc__law_row.nd
  refine T.F__law_row.ok sc__law_row (fun vs H Q E h => len__law_row h) (fun cdv A outer s H vs Q E hr h => ⟨t__law_row K Cof E, ?_, rd__law_row h⟩)
  exact pss_cons (ps_if (PW.pt (pw_or (pt_not (pt_val (pe_callB call_isi (by rfl) T.z_isinstance (by decide +kernel) (pa_cons (pv 0) (pa_cons (pe_bltn (v := .ty "list") (by rfl) T.z_list (by decide +kernel) rfl) (pa_nil)))))) (pw_or1 (pt_cmpR op_ne (pe_callB call_len_seq (by rfl) T.z_len (by decide +kernel) (pa_cons (pv 0) (pa_nil))) (pe_callB call_len_seq (by rfl) T.z_len (by decide +kernel) (pa_cons (pv 1) (pa_nil))) (nomark _))))) (pss_one (ps_ret (pe_bl))) (pss_nil))
       (pss_cons (ps_for PassesOwn.never rfl (pi_range1 (by rfl) T.z_range (pa_cons (pe_callB call_len_seq (by rfl) T.z_len (by decide +kernel) (pa_cons (pv 1) (pa_nil))) (pa_nil))) (pg_name (i := 2) nd rfl (by first | exact Or.inl rfl | exact Or.inr rfl)) (pss_one (ps_if (PW.pt (pw_or (pt_not (pt_val (pe_call G__law_whole (hr.mono (by decide)) (by rfl) T.g__law_whole T.F__law_whole.kp B__law_whole .nil pass0 (pa_cons (pe_ix ix_list (pv 0) (pv 2) (fun _ _ => rfl)) (pa_nil))))) (pw_or1 (pt_cmpR op_ne (pe_ix ix_list (pv 0) (pv 2) (fun _ _ => rfl)) (pe_ix ix_list (pv 1) (pv 2) (fun _ _ => rfl)) (nomark _))))) (pss_one (ps_ret (pe_bl))) (pss_nil))))
       (pss_one (ps_ret (pe_bl))))
theorem ok__law_slope (T : Txt K mg Cof ad fd) : FnOk P w K mg base CX0 1 (ad 10) (fd 10) ["_law_kp"] (sp__law_slope K Cof) := by
  have nd := sc__law_slope.nd
  refine T.F__law_slope.ok sc__law_slope (fun vs H Q E h => len__law_slope h) (fun cdv A outer s H vs Q E hr h => ⟨t__law_slope K Cof E, ?_, rd__law_slope h⟩)
  exact pss_one (ps_ret (pe_lc (own := [("_law_k", 1)]) (by rfl) nd (pi_range1 (by rfl) T.z_range (pa_cons (pe_op op_sub (pe_callB call_len_seq (by rfl) T.z_len (by decide +kernel) (pa_cons (pv 0) (pa_nil))) (pe_int)) (pa_nil))) (blkOk_by (own := [("_law_k", 1)]) (N := ["_law_kp", "_law_k"]) (sc := defScope s__law_slope) (by decide +kernel)) (fun _ _ _ _ _ => pg_name (i := 1) nd rfl (by first | exact Or.inl rfl | exact Or.inr rfl)) (fun _ _ _ _ _ => pts_nil) (fun _ _ _ _ _ => pe_op op_mulW (pe_op op_add (pv 1) (pe_int)) (pe_ix ix_list (pv 0) (pe_op op_add (pv 1) (pe_int)) (fun _ _ => rfl)))))
theorem ok__law_turned (T : Txt K mg Cof ad fd) : FnOk P w K mg base CX0 1 (ad 11) (fd 11) ["_law_kp"] (sp__law_turned K Cof) := by
  have nd := sc__law_turned.nd
  refine T.F__law_turned.ok sc__law_turned (fun vs H Q E h => len__law_turned h) (fun cdv A outer s H vs Q E hr h => ⟨t__law_turned K Cof E, ?_, rd__law_turned h⟩)
  exact pss_one (ps_ret (pe_lc (own := [("_law_k", 1)]) (by rfl) nd (pi_range1 (by rfl) T.z_range (pa_cons (pe_callB call_len_seq (by rfl) T.z_len (by decide +kernel) (pa_cons (pv 0) (pa_nil))) (pa_nil))) (blkOk_by (own := [("_law_k", 1)]) (N := ["_law_kp", "_law_k"]) (sc := defScope s__law_turned) (by decide +kernel)) (fun _ _ _ _ _ => pg_name (i := 1) nd rfl (by first | exact Or.inl rfl | exact Or.inr rfl)) (fun _ _ _ _ _ => pts_nil) (fun _ _ _ _ _ => pe_op op_mulW (pe_ix ix_list (pv 0) (pv 1) (fun _ _ => rfl)) (pe_op op_sub (pe_int) (pe_op op_mulW (pe_int) (pe_op op_modN (pv 1) (pe_int)))))))
theorem ok__law_flipped (T : Txt K mg Cof ad fd) : FnOk P w K mg base CX0 2 (ad 12) (fd 12) ["_law_kp"] (sp__law_flipped K Cof) := by
  have G__law_trim := ok__law_trim (P := P) (w := w) (base := base) T
  have B__law_trim := B__law_trim T
  have nd := sc__law_flipped.nd
  refine T.F__law_flipped.ok sc__law_flipped (fun vs H Q E h => len__law_flipped h) (fun cdv A outer s H vs Q E hr h => ⟨t__law_flipped K Cof E, ?_, rd__law_flipped h⟩)
  exact pss_one (ps_ret (pe_call G__law_trim (hr.mono (by decide)) (by rfl) T.g__law_trim T.F__law_trim.kp B__law_trim .nil pass0 (pa_cons (pe_lc (own := [("_law_k", 1)]) (by rfl) nd (pi_range1 (by rfl) T.z_range (pa_cons (pe_callB call_len_seq (by rfl) T.z_len (by decide +kernel) (pa_cons (pv 0) (pa_nil))) (pa_nil))) (blkOk_by (own := [("_law_k", 1)]) (N := ["_law_kp", "_law_k"]) (sc := defScope s__law_flipped) (by decide +kernel)) (fun _ _ _ _ _ => pg_name (i := 1) nd rfl (by first | exact Or.inl rfl | exact Or.inr rfl)) (fun _ _ _ _ _ => pts_nil) (fun _ _ _ _ _ => pe_ix ix_list (pv 0) (pe_op op_sub (pe_op op_sub (pe_callB call_len_seq (by rfl) T.z_len (by decide +kernel) (pa_cons (pv 0) (pa_nil))) (pe_int)) (pv 1)) (fun _ _ => rfl))) (pa_nil))))
theorem ok__law_lifted (T : Txt K mg Cof ad fd) : FnOk P w K mg base CX0 2 (ad 13) (fd 13) ["_law_kp", "_law_many"] (sp__law_lifted K Cof) := by
  have G__law_trim := ok__law_trim (P := P) (w := w) (base := base) T
  have B__law_trim := B__law_trim T
  have nd := sc__law_lifted.nd
  refine T.F__law_lifted.ok sc__law_lifted (fun vs H Q E h => len__law_lifted h) (fun cdv A outer s H vs Q E hr h => ⟨t__law_lifted K Cof E, ?_, rd__law_lifted h⟩)
  exact pss_cons (ps_set (i := 2) nd rfl (by first | exact Or.inl rfl | exact Or.inr rfl) (pe_op op_rep (pe_lst (pa_cons (pe_int) (pa_nil))) (pe_op op_mulW (pv 1) (pe_callB call_len_seq (by rfl) T.z_len (by decide +kernel) (pa_cons (pv 0) (pa_nil))))))
       (pss_cons (ps_for PassesOwn.never rfl (pi_range1 (by rfl) T.z_range (pa_cons (pe_callB call_len_seq (by rfl) T.z_len (by decide +kernel) (pa_cons (pv 0) (pa_nil))) (pa_nil))) (pg_name (i := 3) nd rfl (by first | exact Or.inl rfl | exact Or.inr rfl)) (pss_one (ps_asg (pe_ix ix_list (pv 0) (pv 3) (fun _ _ => rfl)) (pg_sub (pv 2) (pe_op op_mulW (pv 1) (pv 3)) set_list))))
       (pss_one (ps_ret (pe_call G__law_trim (hr.mono (by decide)) (by rfl) T.g__law_trim T.F__law_trim.kp B__law_trim .nil pass0 (pa_cons (pv 2) (pa_nil))))))
theorem ok_law (T : Txt K mg Cof ad fd) : FnOk P w K mg base CX0 3 (ad 14) (fd 14) ["_law_script"] (sp_law K Cof) := by
  have G__law_cell := ok__law_cell (P := P) (w := w) (base := base) T
  have B__law_cell := B__law_cell T
  have G__law_flipped := ok__law_flipped (P := P) (w := w) (base := base) T
  have B__law_flipped := B__law_flipped T
  have G__law_lifted := ok__law_lifted (P := P) (w := w) (base := base) T
  have B__law_lifted := B__law_lifted T
  have G__law_row := ok__law_row (P := P) (w := w) (base := base) T
  have B__law_row := B__law_row T
  have G__law_signed := ok__law_signed (P := P) (w := w) (base := base) T
  have B__law_signed := B__law_signed T
  have G__law_slope := ok__law_slope (P := P) (w := w) (base := base) T
  have B__law_slope := B__law_slope T
  have G__law_trim := ok__law_trim (P := P) (w := w) (base := base) T
  have B__law_trim := B__law_trim T
  have G__law_turned := ok__law_turned (P := P) (w := w) (base := base) T
  have B__law_turned := B__law_turned T
  have G_flipped := ok_flipped (P := P) (w := w) (base := base) T
  have B_flipped := B_flipped T
  have G_lifted := ok_lifted (P := P) (w := w) (base := base) T
  have B_lifted := B_lifted T
  have G_slope := ok_slope (P := P) (w := w) (base := base) T
  have B_slope := B_slope T
  have G_turned := ok_turned (P := P) (w := w) (base := base) T
  have B_turned := B_turned T
  have nd := sc_law.nd
  refine T.F_law.ok sc_law (fun vs H Q E h => len_law h) (fun cdv A outer s H vs Q E hr h => ⟨t_law K Cof E, ?_, rd_law h⟩)
  exact pss_cons (ps_set (i := 1) nd rfl (by first | exact Or.inl rfl | exact Or.inr rfl) (pe_ix ix_list (pe_lst (pa_cons (pe_int) (pa_cons (pe_op op_pow (pe_int) (pe_int)) (pa_nil)))) (pe_op op_modN (pe_call G__law_cell (hr.mono (by decide)) (by rfl) T.g__law_cell T.F__law_cell.kp B__law_cell .nil pass0 (pa_cons (pv 0) (pa_cons (pe_int) (pa_nil)))) (pe_int)) (fun _ _ => rfl)))
       (pss_cons (ps_set (i := 2) nd rfl (by first | exact Or.inl rfl | exact Or.inr rfl) (pe_op op_add (pe_int) (pe_op op_modN (pe_call G__law_cell (hr.mono (by decide)) (by rfl) T.g__law_cell T.F__law_cell.kp B__law_cell .nil pass0 (pa_cons (pv 0) (pa_cons (pe_int) (pa_nil)))) (pe_int))))
       (pss_cons (ps_setLc (i := 3) (own := [("_law_cell_here", 4)]) (by rfl) nd rfl rfl (sw_true rfl rfl rfl (by decide +kernel)) (pi_list (pe_slice sl_list (pv 0) (po_some (pe_int)) (po_some (pe_int)))) (blkOk_by (own := [("_law_cell_here", 4)]) (N := ["_law_script", "_law_size", "_law_many", "_law_row_here", "_law_cell_here", "_law_far", "_law_one", "_law_kp", "_law_turn", "_law_handed", "_law_told"]) (sc := defScope s_law) (by decide +kernel)) (fun _ _ _ _ _ => pg_name (i := 4) nd rfl (by first | exact Or.inl rfl | exact Or.inr rfl)) (fun _ _ _ _ _ => pts_nil) (fun _ _ _ _ _ => pe_call G__law_signed (hr.mono (by decide)) (by rfl) T.g__law_signed T.F__law_signed.kp B__law_signed .nil pass0 (pa_cons (pv 4) (pa_cons (pv 1) (pa_nil)))))
       (pss_cut (ps_if (pt_cmpR op_eq (pe_op op_modN (pe_op op_fdivA (pe_call G__law_cell (hr.mono (by decide)) (by rfl) T.g__law_cell T.F__law_cell.kp B__law_cell .nil pass0 (pa_cons (pv 0) (pa_cons (pe_int) (pa_nil)))) (pe_int)) (pe_int)) (pe_int) (nomark _)) (pss_cons (ps_set (i := 5) nd rfl (by first | exact Or.inl rfl | exact Or.inr rfl) (pe_op op_mulW (pe_op op_mulW (pe_op op_mulW (pe_op op_mulW (pe_op op_pow (pe_int) (pe_int)) (pe_op op_pow (pe_int) (pe_int))) (pe_op op_pow (pe_int) (pe_int))) (pe_op op_pow (pe_int) (pe_int))) (pe_op op_pow (pe_int) (pe_int))))
       (pss_one (ps_setLc (i := 3) (own := [("_law_one", 6)]) (by rfl) nd rfl rfl (sw_true rfl rfl rfl (by decide +kernel)) (pi_list (pv 3)) (blkOk_by (own := [("_law_one", 6)]) (N := ["_law_script", "_law_size", "_law_many", "_law_row_here", "_law_cell_here", "_law_far", "_law_one", "_law_kp", "_law_turn", "_law_handed", "_law_told"]) (sc := defScope s_law) (by decide +kernel)) (fun _ _ _ _ _ => pg_name (i := 6) nd rfl (by first | exact Or.inl rfl | exact Or.inr rfl)) (fun _ _ _ _ _ => pts_nil) (fun _ _ _ _ _ => pe_op op_add (pe_op op_mulW (pv 6) (pv 5)) (pe_int))))) (pss_nil))
       (pss_cons (ps_set (i := 7) nd rfl (by first | exact Or.inl rfl | exact Or.inr rfl) (pe_call G__law_trim (hr.mono (by decide)) (by rfl) T.g__law_trim T.F__law_trim.kp B__law_trim .nil pass0 (pa_cons (pe_op op_cat (pe_op op_rep (pe_lst (pa_cons (pe_int) (pa_nil))) (pe_op op_modN (pe_op op_fdivA (pe_call G__law_cell (hr.mono (by decide)) (by rfl) T.g__law_cell T.F__law_cell.kp B__law_cell .nil pass0 (pa_cons (pv 0) (pa_cons (pe_int) (pa_nil)))) (pe_int)) (pe_int))) (pv 3)) (pa_nil))))
       (pss_cons (ps_for PassesOwn.never rfl (pi_range1 (by rfl) T.z_range (pa_cons (pe_int) (pa_nil))) (pg_name (i := 8) nd rfl (by first | exact Or.inl rfl | exact Or.inr rfl)) (pss_cons (ps_set (i := 9) nd rfl (by first | exact Or.inl rfl | exact Or.inr rfl) (pe_callTy call_list_of (by rfl) T.z_list (by decide +kernel) (pa_cons (pv 7) (pa_nil))))
       (pss_cons (ps_set (i := 10) nd rfl (by first | exact Or.inl rfl | exact Or.inr rfl) (pe_lst (pa_cons (pe_call G_slope (hr.mono (by decide)) (by rfl) T.g_slope T.F_slope.kp B_slope .nil pass0 (pa_cons (pv 9) (pa_nil))) (pa_cons (pe_call G_turned (hr.mono (by decide)) (by rfl) T.g_turned T.F_turned.kp B_turned .nil pass0 (pa_cons (pv 9) (pa_nil))) (pa_cons (pe_call G_flipped (hr.mono (by decide)) (by rfl) T.g_flipped T.F_flipped.kp B_flipped .nil pass0 (pa_cons (pv 9) (pa_nil))) (pa_cons (pe_call G_lifted (hr.mono (by decide)) (by rfl) T.g_lifted T.F_lifted.kp B_lifted .nil pass0 (pa_cons (pv 9) (pa_cons (pv 2) (pa_nil)))) (pa_nil)))))))
       (pss_cons (ps_if (PW.pt (pw_or (pt_cmpR (op_neD hr.units) (pv 9) (pv 7) (nomark _)) (pw_or (pt_not (pt_val (pe_call G__law_row (hr.mono (by decide)) (by rfl) T.g__law_row T.F__law_row.kp B__law_row .nil pass0 (pa_cons (pe_ix ix_list (pv 10) (pe_int) (fun _ _ => rfl)) (pa_cons (pe_call G__law_slope (hr.mono (by decide)) (by rfl) T.g__law_slope T.F__law_slope.kp B__law_slope .nil pass0 (pa_cons (pv 7) (pa_nil))) (pa_nil)))))) (pw_or1 (pt_not (pt_val (pe_call G__law_row (hr.mono (by decide)) (by rfl) T.g__law_row T.F__law_row.kp B__law_row .nil pass0 (pa_cons (pe_ix ix_list (pv 10) (pe_int) (fun _ _ => rfl)) (pa_cons (pe_call G__law_turned (hr.mono (by decide)) (by rfl) T.g__law_turned T.F__law_turned.kp B__law_turned .nil pass0 (pa_cons (pv 7) (pa_nil))) (pa_nil)))))))))) (pss_one (ps_ret (pe_bl))) (pss_nil))
       (pss_cons (ps_if (PW.pt (pw_or (pt_not (pt_val (pe_call G__law_row (hr.mono (by decide)) (by rfl) T.g__law_row T.F__law_row.kp B__law_row .nil pass0 (pa_cons (pe_ix ix_list (pv 10) (pe_int) (fun _ _ => rfl)) (pa_cons (pe_call G__law_flipped (hr.mono (by decide)) (by rfl) T.g__law_flipped T.F__law_flipped.kp B__law_flipped .nil pass0 (pa_cons (pv 7) (pa_nil))) (pa_nil)))))) (pw_or1 (pt_not (pt_val (pe_call G__law_row (hr.mono (by decide)) (by rfl) T.g__law_row T.F__law_row.kp B__law_row .nil pass0 (pa_cons (pe_ix ix_list (pv 10) (pe_int) (fun _ _ => rfl)) (pa_cons (pe_call G__law_lifted (hr.mono (by decide)) (by rfl) T.g__law_lifted T.F__law_lifted.kp B__law_lifted .nil pass0 (pa_cons (pv 7) (pa_cons (pv 2) (pa_nil)))) (pa_nil))))))))) (pss_one (ps_ret (pe_bl))) (pss_nil))
       (pss_cons (ps_if (pt_not (pt_val (pe_call G__law_row (hr.mono (by decide)) (by rfl) T.g__law_row T.F__law_row.kp B__law_row .nil pass0 (pa_cons (pe_call G_turned (hr.mono (by decide)) (by rfl) T.g_turned T.F_turned.kp B_turned .nil pass0 (pa_cons (pe_callTy call_list_of (by rfl) T.z_list (by decide +kernel) (pa_cons (pe_ix ix_list (pv 10) (pe_int) (fun _ _ => rfl)) (pa_nil))) (pa_nil))) (pa_cons (pv 7) (pa_nil)))))) (pss_one (ps_ret (pe_bl))) (pss_nil))
       (pss_cons (ps_for PassesOwn.never rfl (pi_list (pv 10)) (pg_name (i := 6) nd rfl (by first | exact Or.inl rfl | exact Or.inr rfl)) (pss_one (ps_expr (pe_bm PySem.F.plainAttrs_list PySem.F.slot_list_append PySem.F.type_list_append mt_append (pv 6) (pa_cons (pe_int) (pa_nil))))))
       (pss_cons (ps_if (pt_cmpR (op_neD hr.units) (pv 9) (pv 7) (nomark _)) (pss_one (ps_ret (pe_bl))) (pss_nil))
       (pss_one (ps_expr (pe_bm PySem.F.plainAttrs_list PySem.F.slot_list_append PySem.F.type_list_append mt_append (pv 9) (pa_cons (pe_int) (pa_nil)))))))))))))
       (pss_one (ps_ret (pe_bl))))))))
end
theorem all_mk {l : PySem.W.OpenLaw} {w : World} {K : PySem.W.Frag} {h : Heap} {mg : Str → Option Value} {fa : Addr} (X : K.In h) (G : h.Ns mainGlobals mg) (hfa : mg "law" = some (.ref fa))
    {f0 : Addr} {od0 an0 : Option Addr} {sl0 : Array (Option Value)} {oc0 kV0 dc0 pm0 cd0 ct0 : Value}
    {f1 : Addr} {od1 an1 : Option Addr} {sl1 : Array (Option Value)} {oc1 kV1 dc1 pm1 cd1 ct1 : Value}
    {f2 : Addr} {od2 an2 : Option Addr} {sl2 : Array (Option Value)} {oc2 kV2 dc2 pm2 cd2 ct2 : Value}
    {f3 : Addr} {od3 an3 : Option Addr} {sl3 : Array (Option Value)} {oc3 kV3 dc3 pm3 cd3 ct3 : Value}
    {f4 : Addr} {od4 an4 : Option Addr} {sl4 : Array (Option Value)} {oc4 kV4 dc4 pm4 cd4 ct4 : Value}
    {f5 : Addr} {od5 an5 : Option Addr} {sl5 : Array (Option Value)} {oc5 kV5 dc5 pm5 cd5 ct5 : Value}
    {f6 : Addr} {od6 an6 : Option Addr} {sl6 : Array (Option Value)} {oc6 kV6 dc6 pm6 cd6 ct6 : Value}
    {f7 : Addr} {od7 an7 : Option Addr} {sl7 : Array (Option Value)} {oc7 kV7 dc7 pm7 cd7 ct7 : Value}
    {f8 : Addr} {od8 an8 : Option Addr} {sl8 : Array (Option Value)} {oc8 kV8 dc8 pm8 cd8 ct8 : Value}
    {f9 : Addr} {od9 an9 : Option Addr} {sl9 : Array (Option Value)} {oc9 kV9 dc9 pm9 cd9 ct9 : Value}
    {f10 : Addr} {od10 an10 : Option Addr} {sl10 : Array (Option Value)} {oc10 kV10 dc10 pm10 cd10 ct10 : Value}
    {f11 : Addr} {od11 an11 : Option Addr} {sl11 : Array (Option Value)} {oc11 kV11 dc11 pm11 cd11 ct11 : Value}
    {f12 : Addr} {od12 an12 : Option Addr} {sl12 : Array (Option Value)} {oc12 kV12 dc12 pm12 cd12 ct12 : Value}
    {f13 : Addr} {od13 an13 : Option Addr} {sl13 : Array (Option Value)} {oc13 kV13 dc13 pm13 cd13 ct13 : Value}
    {f14 : Addr} {od14 an14 : Option Addr} {sl14 : Array (Option Value)} {oc14 kV14 dc14 pm14 cd14 ct14 : Value}
    (a0 : PySem.W.nsIn K mainGlobals "poly" = some (some (.ref f0))) (l0 : K.lookup f0 = some ⟨oc0, od0, .func (PySem.W.fnOf "poly" "poly" (defArgs s_poly) (defBody s_poly) (defScope s_poly) .none kV0 dc0 pm0 an0 cd0 ct0), sl0⟩) (c0 : PySem.W.codeIn K cd0 "poly" = true) (k0 : PySem.W.keepIn K (.ref f0) = true)
    (a1 : PySem.W.nsIn K mainGlobals "slope" = some (some (.ref f1))) (l1 : K.lookup f1 = some ⟨oc1, od1, .func (PySem.W.fnOf "slope" "slope" (defArgs s_slope) (defBody s_slope) (defScope s_slope) .none kV1 dc1 pm1 an1 cd1 ct1), sl1⟩) (c1 : PySem.W.codeIn K cd1 "slope" = true) (k1 : PySem.W.keepIn K (.ref f1) = true)
    (a2 : PySem.W.nsIn K mainGlobals "turned" = some (some (.ref f2))) (l2 : K.lookup f2 = some ⟨oc2, od2, .func (PySem.W.fnOf "turned" "turned" (defArgs s_turned) (defBody s_turned) (defScope s_turned) .none kV2 dc2 pm2 an2 cd2 ct2), sl2⟩) (c2 : PySem.W.codeIn K cd2 "turned" = true) (k2 : PySem.W.keepIn K (.ref f2) = true)
    (a3 : PySem.W.nsIn K mainGlobals "flipped" = some (some (.ref f3))) (l3 : K.lookup f3 = some ⟨oc3, od3, .func (PySem.W.fnOf "flipped" "flipped" (defArgs s_flipped) (defBody s_flipped) (defScope s_flipped) .none kV3 dc3 pm3 an3 cd3 ct3), sl3⟩) (c3 : PySem.W.codeIn K cd3 "flipped" = true) (k3 : PySem.W.keepIn K (.ref f3) = true)
    (a4 : PySem.W.nsIn K mainGlobals "lifted" = some (some (.ref f4))) (l4 : K.lookup f4 = some ⟨oc4, od4, .func (PySem.W.fnOf "lifted" "lifted" (defArgs s_lifted) (defBody s_lifted) (defScope s_lifted) .none kV4 dc4 pm4 an4 cd4 ct4), sl4⟩) (c4 : PySem.W.codeIn K cd4 "lifted" = true) (k4 : PySem.W.keepIn K (.ref f4) = true)
    (a5 : PySem.W.nsIn K mainGlobals "_law_cell" = some (some (.ref f5))) (l5 : K.lookup f5 = some ⟨oc5, od5, .func (PySem.W.fnOf "_law_cell" "_law_cell" (defArgs s__law_cell) (defBody s__law_cell) (defScope s__law_cell) .none kV5 dc5 pm5 an5 cd5 ct5), sl5⟩) (c5 : PySem.W.codeIn K cd5 "_law_cell" = true) (k5 : PySem.W.keepIn K (.ref f5) = true)
    (a6 : PySem.W.nsIn K mainGlobals "_law_whole" = some (some (.ref f6))) (l6 : K.lookup f6 = some ⟨oc6, od6, .func (PySem.W.fnOf "_law_whole" "_law_whole" (defArgs s__law_whole) (defBody s__law_whole) (defScope s__law_whole) .none kV6 dc6 pm6 an6 cd6 ct6), sl6⟩) (c6 : PySem.W.codeIn K cd6 "_law_whole" = true) (k6 : PySem.W.keepIn K (.ref f6) = true)
    (a7 : PySem.W.nsIn K mainGlobals "_law_signed" = some (some (.ref f7))) (l7 : K.lookup f7 = some ⟨oc7, od7, .func (PySem.W.fnOf "_law_signed" "_law_signed" (defArgs s__law_signed) (defBody s__law_signed) (defScope s__law_signed) .none kV7 dc7 pm7 an7 cd7 ct7), sl7⟩) (c7 : PySem.W.codeIn K cd7 "_law_signed" = true) (k7 : PySem.W.keepIn K (.ref f7) = true)
    (a8 : PySem.W.nsIn K mainGlobals "_law_trim" = some (some (.ref f8))) (l8 : K.lookup f8 = some ⟨oc8, od8, .func (PySem.W.fnOf "_law_trim" "_law_trim" (defArgs s__law_trim) (defBody s__law_trim) (defScope s__law_trim) .none kV8 dc8 pm8 an8 cd8 ct8), sl8⟩) (c8 : PySem.W.codeIn K cd8 "_law_trim" = true) (k8 : PySem.W.keepIn K (.ref f8) = true)
    (a9 : PySem.W.nsIn K mainGlobals "_law_row" = some (some (.ref f9))) (l9 : K.lookup f9 = some ⟨oc9, od9, .func (PySem.W.fnOf "_law_row" "_law_row" (defArgs s__law_row) (defBody s__law_row) (defScope s__law_row) .none kV9 dc9 pm9 an9 cd9 ct9), sl9⟩) (c9 : PySem.W.codeIn K cd9 "_law_row" = true) (k9 : PySem.W.keepIn K (.ref f9) = true)
    (a10 : PySem.W.nsIn K mainGlobals "_law_slope" = some (some (.ref f10))) (l10 : K.lookup f10 = some ⟨oc10, od10, .func (PySem.W.fnOf "_law_slope" "_law_slope" (defArgs s__law_slope) (defBody s__law_slope) (defScope s__law_slope) .none kV10 dc10 pm10 an10 cd10 ct10), sl10⟩) (c10 : PySem.W.codeIn K cd10 "_law_slope" = true) (k10 : PySem.W.keepIn K (.ref f10) = true)
    (a11 : PySem.W.nsIn K mainGlobals "_law_turned" = some (some (.ref f11))) (l11 : K.lookup f11 = some ⟨oc11, od11, .func (PySem.W.fnOf "_law_turned" "_law_turned" (defArgs s__law_turned) (defBody s__law_turned) (defScope s__law_turned) .none kV11 dc11 pm11 an11 cd11 ct11), sl11⟩) (c11 : PySem.W.codeIn K cd11 "_law_turned" = true) (k11 : PySem.W.keepIn K (.ref f11) = true)
    (a12 : PySem.W.nsIn K mainGlobals "_law_flipped" = some (some (.ref f12))) (l12 : K.lookup f12 = some ⟨oc12, od12, .func (PySem.W.fnOf "_law_flipped" "_law_flipped" (defArgs s__law_flipped) (defBody s__law_flipped) (defScope s__law_flipped) .none kV12 dc12 pm12 an12 cd12 ct12), sl12⟩) (c12 : PySem.W.codeIn K cd12 "_law_flipped" = true) (k12 : PySem.W.keepIn K (.ref f12) = true)
    (a13 : PySem.W.nsIn K mainGlobals "_law_lifted" = some (some (.ref f13))) (l13 : K.lookup f13 = some ⟨oc13, od13, .func (PySem.W.fnOf "_law_lifted" "_law_lifted" (defArgs s__law_lifted) (defBody s__law_lifted) (defScope s__law_lifted) .none kV13 dc13 pm13 an13 cd13 ct13), sl13⟩) (c13 : PySem.W.codeIn K cd13 "_law_lifted" = true) (k13 : PySem.W.keepIn K (.ref f13) = true)
    (a14 : PySem.W.nsIn K mainGlobals "law" = some (some (.ref f14))) (l14 : K.lookup f14 = some ⟨oc14, od14, .func (PySem.W.fnOf "law" "law" (defArgs s_law) (defBody s_law) (defScope s_law) .none kV14 dc14 pm14 an14 cd14 ct14), sl14⟩) (c14 : PySem.W.codeIn K cd14 "law" = true) (k14 : PySem.W.keepIn K (.ref f14) = true)
    (z_bool : PySem.W.nsIn K mainGlobals "bool" = some none)
    (z_int : PySem.W.nsIn K mainGlobals "int" = some none)
    (z_isinstance : PySem.W.nsIn K mainGlobals "isinstance" = some none)
    (z_len : PySem.W.nsIn K mainGlobals "len" = some none)
    (z_list : PySem.W.nsIn K mainGlobals "list" = some none)
    (z_range : PySem.W.nsIn K mainGlobals "range" = some none)
    : ∃ fd : FuncData, (∀ (s : Shared) (v : Value), BindsTo s fd ⟨[v], []⟩ [("_law_script", v)]) ∧ ∀ base : Heap, K.In base → base.Ns mainGlobals mg → FnOk l.prog w K mg base CX0 3 fa fd ["_law_script"] (sp_law K (fun _ => 0)) := by
  have e := hfa.symm.trans (PySem.W.mg_of X G a14)
  cases e
  have T : Txt K mg (fun _ => 0) (fun i => [f0, f1, f2, f3, f4, f5, f6, f7, f8, f9, f10, f11, f12, f13, fa].getD i 0) (fun i => [PySem.W.fnOf "poly" "poly" (defArgs s_poly) (defBody s_poly) (defScope s_poly) .none kV0 dc0 pm0 an0 cd0 ct0, PySem.W.fnOf "slope" "slope" (defArgs s_slope) (defBody s_slope) (defScope s_slope) .none kV1 dc1 pm1 an1 cd1 ct1, PySem.W.fnOf "turned" "turned" (defArgs s_turned) (defBody s_turned) (defScope s_turned) .none kV2 dc2 pm2 an2 cd2 ct2, PySem.W.fnOf "flipped" "flipped" (defArgs s_flipped) (defBody s_flipped) (defScope s_flipped) .none kV3 dc3 pm3 an3 cd3 ct3, PySem.W.fnOf "lifted" "lifted" (defArgs s_lifted) (defBody s_lifted) (defScope s_lifted) .none kV4 dc4 pm4 an4 cd4 ct4, PySem.W.fnOf "_law_cell" "_law_cell" (defArgs s__law_cell) (defBody s__law_cell) (defScope s__law_cell) .none kV5 dc5 pm5 an5 cd5 ct5, PySem.W.fnOf "_law_whole" "_law_whole" (defArgs s__law_whole) (defBody s__law_whole) (defScope s__law_whole) .none kV6 dc6 pm6 an6 cd6 ct6, PySem.W.fnOf "_law_signed" "_law_signed" (defArgs s__law_signed) (defBody s__law_signed) (defScope s__law_signed) .none kV7 dc7 pm7 an7 cd7 ct7, PySem.W.fnOf "_law_trim" "_law_trim" (defArgs s__law_trim) (defBody s__law_trim) (defScope s__law_trim) .none kV8 dc8 pm8 an8 cd8 ct8, PySem.W.fnOf "_law_row" "_law_row" (defArgs s__law_row) (defBody s__law_row) (defScope s__law_row) .none kV9 dc9 pm9 an9 cd9 ct9, PySem.W.fnOf "_law_slope" "_law_slope" (defArgs s__law_slope) (defBody s__law_slope) (defScope s__law_slope) .none kV10 dc10 pm10 an10 cd10 ct10, PySem.W.fnOf "_law_turned" "_law_turned" (defArgs s__law_turned) (defBody s__law_turned) (defScope s__law_turned) .none kV11 dc11 pm11 an11 cd11 ct11, PySem.W.fnOf "_law_flipped" "_law_flipped" (defArgs s__law_flipped) (defBody s__law_flipped) (defScope s__law_flipped) .none kV12 dc12 pm12 an12 cd12 ct12, PySem.W.fnOf "_law_lifted" "_law_lifted" (defArgs s__law_lifted) (defBody s__law_lifted) (defScope s__law_lifted) .none kV13 dc13 pm13 an13 cd13 ct13, PySem.W.fnOf "law" "law" (defArgs s_law) (defBody s_law) (defScope s_law) .none kV14 dc14 pm14 an14 cd14 ct14].getD i (PySem.W.fnOf "law" "law" (defArgs s_law) (defBody s_law) (defScope s_law) .none kV14 dc14 pm14 an14 cd14 ct14)) :=
    { z_bool := PySem.W.mg_none_of X G z_bool, z_int := PySem.W.mg_none_of X G z_int, z_isinstance := PySem.W.mg_none_of X G z_isinstance, z_len := PySem.W.mg_none_of X G z_len, z_list := PySem.W.mg_none_of X G z_list, z_range := PySem.W.mg_none_of X G z_range, g_poly := PySem.W.mg_of X G a0, F_poly := fun_mk (st := s_poly) l0 c0 k0, g_slope := PySem.W.mg_of X G a1, F_slope := fun_mk (st := s_slope) l1 c1 k1, g_turned := PySem.W.mg_of X G a2, F_turned := fun_mk (st := s_turned) l2 c2 k2, g_flipped := PySem.W.mg_of X G a3, F_flipped := fun_mk (st := s_flipped) l3 c3 k3, g_lifted := PySem.W.mg_of X G a4, F_lifted := fun_mk (st := s_lifted) l4 c4 k4, g__law_cell := PySem.W.mg_of X G a5, F__law_cell := fun_mk (st := s__law_cell) l5 c5 k5, g__law_whole := PySem.W.mg_of X G a6, F__law_whole := fun_mk (st := s__law_whole) l6 c6 k6, g__law_signed := PySem.W.mg_of X G a7, F__law_signed := fun_mk (st := s__law_signed) l7 c7 k7, g__law_trim := PySem.W.mg_of X G a8, F__law_trim := fun_mk (st := s__law_trim) l8 c8 k8, g__law_row := PySem.W.mg_of X G a9, F__law_row := fun_mk (st := s__law_row) l9 c9 k9, g__law_slope := PySem.W.mg_of X G a10, F__law_slope := fun_mk (st := s__law_slope) l10 c10 k10, g__law_turned := PySem.W.mg_of X G a11, F__law_turned := fun_mk (st := s__law_turned) l11 c11 k11, g__law_flipped := PySem.W.mg_of X G a12, F__law_flipped := fun_mk (st := s__law_flipped) l12 c12 k12, g__law_lifted := PySem.W.mg_of X G a13, F__law_lifted := fun_mk (st := s__law_lifted) l13 c13 k13, g_law := PySem.W.mg_of X G a14, F_law := fun_mk (st := s_law) l14 c14 k14 }
  exact ⟨PySem.W.fnOf "law" "law" (defArgs s_law) (defBody s_law) (defScope s_law) .none kV14 dc14 pm14 an14 cd14 ct14, fun s v => .of_eq rfl, fun base _ _ => ok_law T⟩
end RP
open PySem PySem.W PyProof.Rows
set_option maxHeartbeats 0 in
theorem PySem.Challenge.cw_rootspan_k08_slope_turned_flipped_lifted_holds : PySem.Challenge.rw_rootspan_k08_slope_turned_flipped_lifted.Holds := by
  w_on; o_law; k_head; (case hw => w_witness2)
  k_fill
  refine L2.walk_of (l := PySem.Challenge.rw_rootspan_k08_slope_turned_flipped_lifted) (n := 63) (k := 3) (x := "_law_script") (CX := fun _ => L2.CX0) (sp := fun w => RP.sp_law _ (fun _ => 0)) rfl (by decide) rfl ⟨rfl, by decide, by decide⟩ (fun w h Y => PySem.W.kIn_of Y) ?F (fun _ _ a ns hl _ hS => ⟨a, ns, rfl, hS, hl, fun _ => rfl⟩) (fun _ _ _ _ _ h => h)
  case F =>
    intro w mg fa h KX G hmg
    refine' RP.all_mk KX G hmg ?a0 ?l0 ?c0 ?k0 ?a1 ?l1 ?c1 ?k1 ?a2 ?l2 ?c2 ?k2 ?a3 ?l3 ?c3 ?k3 ?a4 ?l4 ?c4 ?k4 ?a5 ?l5 ?c5 ?k5 ?a6 ?l6 ?c6 ?k6 ?a7 ?l7 ?c7 ?k7 ?a8 ?l8 ?c8 ?k8 ?a9 ?l9 ?c9 ?k9 ?a10 ?l10 ?c10 ?k10 ?a11 ?l11 ?c11 ?k11 ?a12 ?l12 ?c12 ?k12 ?a13 ?l13 ?c13 ?k13 ?a14 ?l14 ?c14 ?k14 ?z_bool ?z_int ?z_isinstance ?z_len ?z_list ?z_range
    (case a0 => k_is); (case l0 => k_is); (case c0 => k_is); (case k0 => k_is); (case a1 => k_is); (case l1 => k_is); (case c1 => k_is); (case k1 => k_is); (case a2 => k_is); (case l2 => k_is); (case c2 => k_is); (case k2 => k_is); (case a3 => k_is); (case l3 => k_is); (case c3 => k_is); (case k3 => k_is); (case a4 => k_is); (case l4 => k_is); (case c4 => k_is); (case k4 => k_is); (case a5 => k_is); (case l5 => k_is); (case c5 => k_is); (case k5 => k_is); (case a6 => k_is); (case l6 => k_is); (case c6 => k_is); (case k6 => k_is); (case a7 => k_is); (case l7 => k_is); (case c7 => k_is); (case k7 => k_is); (case a8 => k_is); (case l8 => k_is); (case c8 => k_is); (case k8 => k_is); (case a9 => k_is); (case l9 => k_is); (case c9 => k_is); (case k9 => k_is); (case a10 => k_is); (case l10 => k_is); (case c10 => k_is); (case k10 => k_is); (case a11 => k_is); (case l11 => k_is); (case c11 => k_is); (case k11 => k_is); (case a12 => k_is); (case l12 => k_is); (case c12 => k_is); (case k12 => k_is); (case a13 => k_is); (case l13 => k_is); (case c13 => k_is); (case k13 => k_is); (case a14 => k_is); (case l14 => k_is); (case c14 => k_is); (case k14 => k_is); (case z_bool => k_is); (case z_int => k_is); (case z_isinstance => k_is); (case z_len => k_is); (case z_list => k_is); (case z_range => k_is)

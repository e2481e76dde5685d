import PyProof.Rows.All
import Wide.All
import OpenK.AllK
import Wide.FinOn
import HandS.ForMost
import HandS.Exc
import HandS.TryOnly
import HandS.ExcOwn
import HandS.WordsExc
import HandS.Wide
import HandS.IsInst
import HandS.Conv
import HandS.RevRange
import HandS.Evl
import HandS.More
import HandS.Style
import HandS.Defaults
import HandS.ExcIs
import PySem.Challenge.RW_rootspan_k03_ratio_reckoned
set_option Elab.async false
set_option linter.all false
set_option maxRecDepth 100000
set_option maxHeartbeats 4000000
set_option exponentiation.threshold 100000
set_option linter.all false
set_option maxRecDepth 100000
set_option maxHeartbeats 4000000
namespace RB
open PySem PySem.Spec PyProof.Rows L2
open Evl (Ex rLenS rListS rMax2 tCut pss_cut)

/-! ### the readings' names -/
def rIAdd : R2 := rI0 fun i j => .int (i + j)
def rISub : R2 := rI0 fun i j => .int (i - j)
def rMul : R2 := rI CMulW fun i j => .int (i * j)
def rMod : R2 := rI (fun _ j => j ≠ 0) fun i j => .int (i.fmod j)
def CDivA (_ j : Int) : Prop := j ≠ 0 ∧ j.natAbs.log2 < 9000
def rDiv : R2 := rI CDivA fun i j => .int (i.fdiv j)
def rPow : R2 := rI CPow fun i j => .int (i ^ j.toNat)
def rLt : R2 := rI0 fun i j => .bl (decide (i < j))
def rLe : R2 := rI0 fun i j => .bl (decide (i ≤ j))
def rGt : R2 := rI0 fun i j => .bl (decide (j < i))
def rGe : R2 := rI0 fun i j => .bl (decide (j ≤ i))
def rIsN : R2 := fun x y H Q => y = .non ∧ Q (.bl (decide (x = .non))) H
def rNotN : R2 := fun x y H Q => y = .non ∧ Q (.bl (!decide (x = .non))) H
def rNeg : V → Hp → VK → Prop := rU fun i => .int (-i)
def rAbs : List V → Hp → VK → Prop := fun xs H Q => ∃ i, xs = [.int i] ∧ Q (.int (if i < 0 then -i else i)) H
def rMin2 : List V → Hp → VK → Prop := fun xs H Q => ∃ i j, xs = [.int i, .int j] ∧ Q (.int (if j < i then j else i)) H
def rInt1 : List V → Hp → VK → Prop := fun xs H Q => (∃ i, xs = [.int i] ∧ Q (.int i) H) ∨ ∃ k, xs = [.bl k] ∧ Q (.int (if k then 1 else 0)) H
def rAddS : R2 := fun x y H Q => ∃ i j, x = .str i ∧ y = .str j ∧ i.length + j.length ≤ sizeLine ∧ Q (.str (i ++ j)) H
def rLenStr : List V → Hp → VK → Prop := fun xs H Q => ∃ z, xs = [.str z] ∧ z.length ≤ sizeLine ∧ Q (.int z.length) H
def rStrInt : List V → Hp → VK → Prop := fun xs H Q => ∃ i, xs = [.int i] ∧ i.natAbs.log2 < 1920 ∧ Q (.str (toString i)) H
def rInsert : V → List V → Hp → VK → Prop := fun x vs H Q => ∃ (l : Addr) (xs : List V) (i : Int) (y : V), x = .ref l ∧ vs = [.int i, y] ∧ H l = some (.lst xs) ∧ xs.length < sizeLine ∧ 0 ≤ i ∧ i < 2 ^ 63 ∧ Q .non (upd H l (.lst (xs.take i.toNat ++ [y] ++ xs.drop i.toNat)))
section
variable {X : Cx}
theorem op_fdivA : OpR X (binaryOp .FloorDiv) rDiv := opI fun i j _ _ _ _ _ hc q => floordiv_int hc.1 q (.inl (PyProof.noPylong_of_log2 hc.2))
theorem op_isN1 : OpR X (compareOp .Is) rIsN := op_isN
theorem op_notN1 : OpR X (compareOp .IsNot) rNotN := op_notN
end

/-! ### heaps -/
def Exb (l : Addr) (H H' : Hp) : Prop := ∀ a, a ≠ l → ∀ o, H a = some o → H' a = some o
theorem _root_.Evl.Ex.mutb {H0 H H' : Hp} {l : Addr} (e : Ex H0 H) (b : Exb l H H') (f : H0 l = none) : Ex H0 H' := fun a o h => b a (ne_of_none h f) o (e a o h)
theorem Exb.trans {l : Addr} {H H1 H2 : Hp} (a : Exb l H H1) (b : Exb l H1 H2) : Exb l H H2 := fun c n o h => b c n o (a c n o h)
theorem Exb.ex {l : Addr} {H H1 H2 : Hp} (a : Exb l H H1) (b : Ex H1 H2) : Exb l H H2 := fun c n o h => b c o (a c n o h)
theorem _root_.Evl.Ex.exb {l : Addr} {H H1 H2 : Hp} (a : Ex H H1) (b : Exb l H1 H2) : Exb l H H2 := fun c n o h => b c n o (a c o h)
/-- a list laid anew -/
theorem newL {H : Hp} {xs : List V} {Q : VK} (k : ∀ p H', H p = none → Ex H H' → H' p = some (.lst xs) → Q (.ref p) H') : ∀ p, H p = none → Q (.ref p) (upd H p (.lst xs)) :=
  fun p hp => k p _ hp (Evl.Ex.new hp) upd_same
theorem newT {H : Hp} {xs : List V} {Q : VK} (k : ∀ p H', H p = none → Ex H H' → H' p = some (.tup xs) → Q (.ref p) H') : ∀ p, H p = none → Q (.ref p) (upd H p (.tup xs)) :=
  fun p hp => k p _ hp (Evl.Ex.new hp) upd_same
/-- an object changed -/
theorem mutL {H : Hp} {l : Addr} {o : HO} {G : Hp → Prop} (k : ∀ H', Exb l H H' → H' l = some o → G H') : G (upd H l o) :=
  k _ (fun a n o h => by rw [upd_ne n]; exact h) upd_same
theorem _root_.Evl.Ex.free {H H' : Hp} (e : Ex H H') {p : Addr} (h : H' p = none) : H p = none := Evl.fresh_back e h
theorem _root_.Evl.Ex.l {K : PySem.W.Frag} {H H' : Hp} {a : Addr} {xs : List V} (e : Ex H H') (h : SqL K H a xs) : SqL K H' a xs := Evl.ex_l e h
theorem SqL.inj {K : PySem.W.Frag} {H : Hp} {a : Addr} {xs : List V} (h : H a = some (.lst xs)) : SqL K H a xs := .inl (.inl h)

def LstK (Q : VK) : List V → Hp → Prop := fun xs H1 => xs.length ≤ sizeLine ∧ ∀ p, H1 p = none → Q (.ref p) (upd H1 p (.lst xs))
def TupK (Q : VK) : List V → Hp → Prop := fun xs H1 => xs.length ≤ sizeLine ∧ ∀ p, H1 p = none → Q (.ref p) (upd H1 p (.tup xs))
theorem small0 {n : Nat} (h : n ≤ 16777216) : n ≤ sizeLine := by rw [sizeLine_eq]; exact h
/-! ### readings, step by step -/
section
variable {K : PySem.W.Frag} {σ : L2.St} {H : Hp} {Q : VK} {D : Ends} {ta tb te to ti : TE} {t u : TS} {tt t1 t2 : TT} {g : TG}
theorem r_seq (h : t { D with nx := u D } σ H) : tSeq t u D σ H := h
theorem r_next (h : D.nx σ H) : tNext D σ H := h
theorem r_var {i : Nat} {v : V} (h : σ[i]? = some (some v)) (q : Q v H) : tVar i σ H Q := ⟨v, h, q⟩
theorem r_c {v : V} (q : Q v H) : tC v σ H Q := q
theorem r_op {r : R2} (h : ta σ H fun x H1 => tb σ H1 fun y H2 => r x y H2 Q) : tOp r ta tb σ H Q := h
theorem r_un {r : V → Hp → VK → Prop} (h : ta σ H fun x H1 => r x H1 Q) : tUn r ta σ H Q := h
theorem r_add {i j : Int} (q : Q (.int (i + j)) H) : rIAdd (.int i) (.int j) H Q := ⟨i, j, rfl, rfl, q⟩
theorem r_sub {i j : Int} (q : Q (.int (i - j)) H) : rISub (.int i) (.int j) H Q := ⟨i, j, rfl, rfl, q⟩
theorem r_mul {i j : Int} (c : CMulW i j) (q : Q (.int (i * j)) H) : rMul (.int i) (.int j) H Q := ⟨i, j, rfl, rfl, c, q⟩
theorem r_mod {i j : Int} (c : j ≠ 0) (q : Q (.int (i.fmod j)) H) : rMod (.int i) (.int j) H Q := ⟨i, j, rfl, rfl, c, q⟩
theorem r_div {i j : Int} (c : CDivA i j) (q : Q (.int (i.fdiv j)) H) : rDiv (.int i) (.int j) H Q := ⟨i, j, rfl, rfl, c, q⟩
theorem r_pow {i j : Int} (c : CPow i j) (q : Q (.int (i ^ j.toNat)) H) : rPow (.int i) (.int j) H Q := ⟨i, j, rfl, rfl, c, q⟩
theorem r_lt {i j : Int} (q : Q (.bl (decide (i < j))) H) : rLt (.int i) (.int j) H Q := ⟨i, j, rfl, rfl, q⟩
theorem r_le {i j : Int} (q : Q (.bl (decide (i ≤ j))) H) : rLe (.int i) (.int j) H Q := ⟨i, j, rfl, rfl, q⟩
theorem r_gt {i j : Int} (q : Q (.bl (decide (j < i))) H) : rGt (.int i) (.int j) H Q := ⟨i, j, rfl, rfl, q⟩
theorem r_ge {i j : Int} (q : Q (.bl (decide (j ≤ i))) H) : rGe (.int i) (.int j) H Q := ⟨i, j, rfl, rfl, q⟩
theorem r_neg {i : Int} (q : Q (.int (-i)) H) : rNeg (.int i) H Q := ⟨i, rfl, q⟩
theorem d_int (i j : Int) : decide (V.int i = V.int j) = decide (i = j) := by
  by_cases h : i = j
  · rw [h]; simp
  · rw [decide_eq_false h, decide_eq_false (fun z => h (V.int.inj z))]
theorem d_bl (i j : Bool) : decide (V.bl i = V.bl j) = decide (i = j) := by
  by_cases h : i = j
  · rw [h]; simp
  · rw [decide_eq_false h, decide_eq_false (fun z => h (V.bl.inj z))]
theorem d_str (i j : Str) : decide (V.str i = V.str j) = decide (i = j) := by
  by_cases h : i = j
  · rw [h]; simp
  · rw [decide_eq_false h, decide_eq_false (fun z => h (V.str.inj z))]
theorem r_eqI {i j : Int} (q : Q (.bl (decide (i = j))) H) : rEq (.int i) (.int j) H Q := ⟨rfl, by rw [d_int]; exact q⟩
theorem r_neI {i j : Int} (q : Q (.bl (!decide (i = j))) H) : rNe (.int i) (.int j) H Q := ⟨rfl, by rw [d_int]; exact q⟩
theorem r_eqB {i j : Bool} (q : Q (.bl (decide (i = j))) H) : rEq (.bl i) (.bl j) H Q := ⟨rfl, by rw [d_bl]; exact q⟩
theorem r_eqS {i j : Str} (q : Q (.bl (decide (i = j))) H) : rEq (.str i) (.str j) H Q := ⟨rfl, by rw [d_str]; exact q⟩
theorem r_neS {i j : Str} (q : Q (.bl (!decide (i = j))) H) : rNe (.str i) (.str j) H Q := ⟨rfl, by rw [d_str]; exact q⟩
theorem r_isN {x : V} (q : Q (.bl (decide (x = .non))) H) : rIsN x .non H Q := ⟨rfl, q⟩
theorem r_notN {x : V} (q : Q (.bl (!decide (x = .non))) H) : rNotN x .non H Q := ⟨rfl, q⟩
theorem r_ixL {p : Addr} {i : Int} {xs : List V} {v : V} (h : SqL K H p xs) (a : atI xs i = some v) (q : Q v H) : rIxL K (.ref p) (.int i) H Q := ⟨p, xs, i, v, rfl, rfl, h, a, q⟩
theorem r_ixT {p : Addr} {i : Int} {xs : List V} {v : V} (h : SqT K H p xs) (a : atI xs i = some v) (q : Q v H) : rIxT K (.ref p) (.int i) H Q := ⟨p, xs, i, v, rfl, rfl, h, a, q⟩
theorem r_cons {ta : TE} {tr : TA} {Q : List V → Hp → Prop} (h : ta σ H fun x H1 => tr σ H1 fun xs H2 => Q (x :: xs) H2) : tCons ta tr σ H Q := h
theorem r_nil {Q : List V → Hp → Prop} (h : Q [] H) : tNil σ H Q := h
theorem r_cb {r : List V → Hp → VK → Prop} {ta : TA} (h : ta σ H fun vs H1 => r vs H1 Q) : tCB r ta σ H Q := h
theorem r_abs {i : Int} (q : Q (.int (if i < 0 then -i else i)) H) : rAbs [.int i] H Q := ⟨i, rfl, q⟩
theorem r_max2 {i j : Int} (q : Q (.int (if j > i then j else i)) H) : rMax2 [.int i, .int j] H Q := ⟨i, j, rfl, q⟩
theorem r_min2 {i j : Int} (q : Q (.int (if j < i then j else i)) H) : rMin2 [.int i, .int j] H Q := ⟨i, j, rfl, q⟩
theorem r_len {p : Addr} {xs : List V} (h : SqL K H p xs) (q : Q (.int xs.length) H) : rLenS K [.ref p] H Q := ⟨p, xs, rfl, .inl h, q⟩
theorem r_lenT {p : Addr} {xs : List V} (h : SqT K H p xs) (q : Q (.int xs.length) H) : rLenS K [.ref p] H Q := ⟨p, xs, rfl, .inr h, q⟩
theorem r_list {p : Addr} {xs : List V} (h : SqL K H p xs) (q : ∀ l H', H l = none → Ex H H' → H' l = some (.lst xs) → Q (.ref l) H') : rListS K [.ref p] H Q := ⟨p, xs, rfl, .inl h, newL q⟩
theorem r_intI {i : Int} (q : Q (.int i) H) : rInt1 [.int i] H Q := .inl ⟨i, rfl, q⟩
theorem r_intB {b : Bool} (q : Q (.int (if b then 1 else 0)) H) : rInt1 [.bl b] H Q := .inr ⟨b, rfl, q⟩
theorem r_call {sp : Sp} {E : XK} {ta : TA} (h : ta σ H fun vs H1 => sp vs H1 Q E) : tCall sp [] E ta σ H Q := by
  show ta σ H fun vs H1 => sp (vs ++ []) H1 Q E
  have e : (fun vs H1 => sp (vs ++ []) H1 Q E) = fun (vs : List V) H1 => sp vs H1 Q E := by
    funext vs H1; rw [List.append_nil]
  rw [e]; exact h
theorem r_lst {ta : TA} (h : ta σ H (LstK Q)) : tLst ta σ H Q := h
theorem r_lstK {xs : List V} (k : ∀ p H', H p = none → Ex H H' → H' p = some (.lst xs) → Q (.ref p) H') (hz : xs.length ≤ 16777216 := by simp) : LstK Q xs H := ⟨small0 hz, newL k⟩
theorem r_tup {ta : TA} (h : ta σ H (TupK Q)) : tTup ta σ H Q := h
theorem r_tupK {xs : List V} (k : ∀ p H', H p = none → Ex H H' → H' p = some (.tup xs) → Q (.ref p) H') (hz : xs.length ≤ 16777216 := by simp) : TupK Q xs H := ⟨small0 hz, newT k⟩
theorem r_asg (h : te σ H fun x H1 => g x σ H1 D.nx) : tAsg te g D σ H := h
theorem r_gn {i : Nat} {v : V} {Q : L2.St → Hp → Prop} (h : Q (σ.set i (some v)) H) : gName i v σ H Q := h
theorem r_ret (h : te σ H D.rt) : tRet te D σ H := h
theorem r_drop (h : te σ H fun _ H1 => D.nx σ H1) : tDrop te D σ H := h
theorem r_ifS (h : tt σ H fun b H1 => if b = true then t D σ H1 else u D σ H1) : tIfS tt t u D σ H := h
theorem r_test {Q : Bool → Hp → Prop} (h : te σ H fun x H1 => ∃ k, x = .bl k ∧ Q k H1) : tTest te σ H Q := h
theorem r_B {Q : Bool → Hp → Prop} (h : te σ H fun x H1 => ∃ k, x = .bl k ∧ Q k H1) : tB te σ H Q := h
theorem r_bl {k : Bool} {Q : Bool → Prop} (h : Q k) : ∃ k', V.bl k = .bl k' ∧ Q k' := ⟨k, rfl, h⟩
theorem r_and {Q : Bool → Hp → Prop} (h : t1 σ H fun c H1 => if c = true then t2 σ H1 Q else Q false H1) : tAnd t1 t2 σ H Q := h
theorem r_or {Q : Bool → Hp → Prop} (h : t1 σ H fun c H1 => if c = true then Q true H1 else t2 σ H1 Q) : tOr t1 t2 σ H Q := h
theorem r_not {Q : Bool → Hp → Prop} (h : tt σ H fun c H1 => Q (!c) H1) : tNot tt σ H Q := h
theorem r_andV (h : ta σ H fun x H1 => ∃ c, x = .bl c ∧ if c = true then tb σ H1 Q else Q (.bl false) H1) : tAndV ta tb σ H Q := h
theorem r_orV (h : ta σ H fun x H1 => ∃ c, x = .bl c ∧ if c = true then Q (.bl true) H1 else tb σ H1 Q) : tOrV ta tb σ H Q := h
theorem r_notV (h : ta σ H fun x H1 => ∃ c, x = .bl c ∧ Q (.bl (!c)) H1) : tNotV ta σ H Q := h
theorem r_if (h : tt σ H fun c H1 => if c = true then ta σ H1 Q else tb σ H1 Q) : tIf tt ta tb σ H Q := h
theorem r_bm {T : String} {r : V → List V → Hp → VK → Prop} {ta : TA} (h : to σ H fun x H1 => tyV K T x H1 ∧ ta σ H1 fun xs H2 => r x xs H2 Q) : tBM K T r to ta σ H Q := h
theorem r_bm0 {T : String} {r : V → List V → Hp → VK → Prop} (h : to σ H fun x H1 => tyV K T x H1 ∧ r x [] H1 Q) : tBM0 K T r to σ H Q := h
theorem r_append {l : Addr} {xs : List V} {y : V} (h : H l = some (.lst xs)) (z : xs.length < sizeLine) (q : ∀ H', Exb l H H' → H' l = some (.lst (xs ++ [y])) → Q .non H') : rAppend (.ref l) [y] H Q :=
  ⟨l, xs, y, rfl, rfl, h, z, mutL q⟩
theorem r_pop {l : Addr} {xs : List V} {y : V} (h : H l = some (.lst xs)) (z : xs[xs.length - 1]? = some y) (q : ∀ H', Exb l H H' → H' l = some (.lst xs.dropLast) → Q y H') : rPop (.ref l) [] H Q :=
  ⟨l, xs, y, rfl, rfl, h, z, mutL q⟩
theorem r_insert {l : Addr} {xs : List V} {y : V} {i : Int} (h : H l = some (.lst xs)) (z : xs.length < sizeLine) (h0 : 0 ≤ i) (h1 : i < 2 ^ 63) (q : ∀ H', Exb l H H' → H' l = some (.lst (xs.take i.toNat ++ [y] ++ xs.drop i.toNat)) → Q .non H') : rInsert (.ref l) [.int i, y] H Q :=
  ⟨l, xs, i, y, rfl, rfl, h, z, h0, h1, mutL q⟩
theorem tyL {p : Addr} {xs : List V} (h : H p = some (.lst xs)) : tyV K "list" (.ref p) H := .inl ⟨rfl, _, .inl (.inl h)⟩
theorem r_ty {T : String} {x : V} {B : Prop} (h : tyV K T x H) (q : B) : tyV K T x H ∧ B := ⟨h, q⟩
theorem r_sub_ {ts : TSet} {v : V} {Q : L2.St → Hp → Prop} (h : to σ H fun o H1 => ti σ H1 fun i H2 => ts o i v H2 fun H3 => Q σ H3) : gSub to ti ts v σ H Q := h
theorem r_setL {p : Addr} {xs : List V} {k : Int} {j : Nat} {v : V} {Q : Hp → Prop} (h : H p = some (.lst xs)) (hk : ixN xs.length k = some j) (q : ∀ H', Exb p H H' → H' p = some (.lst (xs.set j v)) → Q H') : rSetL (.ref p) (.int k) v H Q :=
  ⟨p, xs, k, j, rfl, rfl, h, hk, mutL q⟩
theorem r_cat {l b : Addr} {xs zs : List V} (h1 : H l = some (.lst xs)) (h2 : H b = some (.lst zs)) (z : xs.length + zs.length ≤ sizeLine) (q : ∀ p H', H p = none → Ex H H' → H' p = some (.lst (xs ++ zs)) → Q (.ref p) H') : rCat (.ref l) (.ref b) H Q :=
  ⟨l, b, xs, zs, rfl, rfl, h1, h2, z, newL q⟩
theorem flat_rep {α : Type} (x : α) : ∀ n : Nat, (List.replicate n [x]).flatten = List.replicate n x
  | 0 => rfl
  | n + 1 => by rw [List.replicate_succ, List.flatten_cons, flat_rep x n, List.replicate_succ]; rfl
/-- [x] * k -/
theorem r_rep1 {l : Addr} {x : V} {k : Int} (h1 : H l = some (.lst [x])) (z : k.toNat ≤ 1000000) (q : ∀ p H', H p = none → Ex H H' → H' p = some (.lst (List.replicate k.toNat x)) → Q (.ref p) H')  (h0 : -(2 ^ 63) ≤ k := by omega) : rRep (.ref l) (.int k) H Q :=
  ⟨l, k, [x], rfl, rfl, h1, h0, by omega, by
    show 1 * k.toNat ≤ sizeLine
    rw [Nat.one_mul]
    exact Nat.le_trans z (by decide), newL fun p H' a b c => q p H' a b (by rw [flat_rep] at c; exact c)⟩
theorem r_sl {r : V → Option Int → Option Int → Hp → VK → Prop} {tl th : TO} (h : te σ H fun x H1 => tl σ H1 fun l H2 => th σ H2 fun u H3 => r x l u H3 Q) : tSl r te tl th σ H Q := h
theorem r_part {Q : Option Int → Hp → Prop} (h : te σ H fun x H1 => ∃ i, x = .int i ∧ Q (some i) H1) : tPart te σ H Q := h
theorem r_int {i : Int} {Q : Int → Prop} (h : Q i) : ∃ j, V.int i = .int j ∧ Q j := ⟨i, rfl, h⟩
theorem r_nopart {Q : Option Int → Hp → Prop} (h : Q none H) : tNoPart σ H Q := h
theorem r_slL {a : Addr} {xs : List V} {lo hi : Option Int} (h : SqL K H a xs) (q : ∀ p H', H p = none → Ex H H' → H' p = some (.lst (cutV xs lo hi)) → Q (.ref p) H') : rSlL K (.ref a) lo hi H Q := ⟨a, xs, rfl, h, newL q⟩
theorem r_par {i j : Nat} {ta : TA} (h : ta σ H fun vs H1 => ∃ v w, vs = [v, w] ∧ D.nx ((σ.set i (some v)).set j (some w)) H1) : tPar i j ta D σ H := h
theorem r_par2 {i j : Nat} {v w : V} (h : D.nx ((σ.set i (some v)).set j (some w)) H) : ∃ v' w', [v, w] = [v', w'] ∧ D.nx ((σ.set i (some v')).set j (some w')) H := ⟨v, w, rfl, h⟩
end
/-- a truth that is decided, both ways -/
theorem ite_d {p A B : Prop} [Decidable p] (h1 : p → A) (h2 : ¬ p → B) : if decide p = true then A else B := by
  by_cases h : p
  · rw [if_pos (decide_eq_true h)]; exact h1 h
  · rw [if_neg (by rw [decide_eq_false h]; decide)]; exact h2 h
theorem ite_nd {p A B : Prop} [Decidable p] (h1 : ¬ p → A) (h2 : p → B) : if (!decide p) = true then A else B := by
  by_cases h : p
  · rw [if_neg (by rw [decide_eq_true h]; decide)]; exact h2 h
  · rw [if_pos (by rw [decide_eq_false h]; rfl)]; exact h1 h
theorem ite_b {b : Bool} {A B : Prop} (h1 : b = true → A) (h2 : b = false → B) : if b = true then A else B := by
  cases b with
  | true => rw [if_pos rfl]; exact h1 rfl
  | false => rw [if_neg (by decide)]; exact h2 rfl

theorem r_isi {K : PySem.W.Frag} {H : Hp} {Q : VK} {x c : V} {t u : Value} {b : Bool} (ht : TyX K H x t) (hc : ClsV c u) (hk : PySem.W.kitOne K t u = some b) (q : Q (.bl b) H) : rIsi K [x, c] H Q := ⟨x, c, t, u, b, rfl, hc, ht, hk, q⟩
theorem iteD {p A B : Prop} [Decidable p] (h : p) (a : A) : if decide p = true then A else B := by rw [if_pos (decide_eq_true h)]; exact a
theorem iteDF {p A B : Prop} [Decidable p] (h : ¬ p) (a : B) : if decide p = true then A else B := by rw [if_neg (by rw [decide_eq_false h]; decide)]; exact a
/-! ### lists of ints, compared -/
theorem dp_ints {K : PySem.W.Frag} {H : Hp} : ∀ ns : List Int, DpAll K H (ns.map V.int) (ns.map PyData.int)
  | [] => .nil
  | n :: r => .cons (.int n) (dp_ints r)
theorem dp_listI {K : PySem.W.Frag} {H : Hp} {a : Addr} {ns : List Int} (h : SqL K H a (ns.map V.int)) : Dp K H (.ref a) (.list (ns.map PyData.int)) := .lst h (dp_ints ns)
def dI (ns : List Int) : PyData := .list (ns.map PyData.int)
theorem canLay_ints : ∀ ns : List Int, PyData.canLayAll0 (ns.map PyData.int) = true
  | [] => by simp [PyData.canLayAll0]
  | n :: r => by
    rw [List.map_cons, PyData.canLayAll0, canLay_ints r]; simp [PyData.canLay0]
theorem depth_ints : ∀ ns : List Int, PyData.depthAll (ns.map PyData.int) ≤ 1
  | [] => by simp [PyData.depthAll]
  | n :: r => by
    have := depth_ints r
    rw [List.map_cons, PyData.depthAll]
    simp [PyData.depth]
    omega
theorem shaped_dI (ns : List Int) : SeqAt.shaped (dI ns) = true := by
  have h1 := canLay_ints ns
  have h2 := depth_ints ns
  unfold SeqAt.shaped dI
  rw [Bool.and_eq_true, PyData.canLay0, PyData.depth]
  exact ⟨h1, decide_eq_true (by omega)⟩
theorem eqvAll_ints : ∀ ns ms : List Int, PyData.eqvAll (ns.map PyData.int) (ms.map PyData.int) = decide (ns = ms)
  | [], [] => by simp [PyData.eqvAll]
  | [], m :: r => by simp [PyData.eqvAll]
  | n :: r, [] => by simp [PyData.eqvAll]
  | n :: r, m :: s => by
    rw [List.map_cons, List.map_cons, PyData.eqvAll, eqvAll_ints r s]
    simp [PyData.eqv, Bool.beq_eq_decide_eq]
theorem eqv_dI (ns ms : List Int) : PyData.eqv (dI ns) (dI ms) = decide (ns = ms) := by
  unfold dI
  rw [PyData.eqv, eqvAll_ints]
theorem r_eqInts {K : PySem.W.Frag} {H : Hp} {Q : VK} {a b : Addr} {ns ms : List Int} (h1 : SqL K H a (ns.map V.int)) (h2 : SqL K H b (ms.map V.int)) (q : Q (.bl (decide (ns = ms))) H) : rEqD K (.ref a) (.ref b) H Q :=
  ⟨_, _, dp_listI h1, dp_listI h2, shaped_dI ns, shaped_dI ms, by rw [show PyData.eqv (.list (ns.map PyData.int)) (.list (ms.map PyData.int)) = decide (ns = ms) from eqv_dI ns ms]; exact q⟩
theorem r_neInts {K : PySem.W.Frag} {H : Hp} {Q : VK} {a b : Addr} {ns ms : List Int} (h1 : SqL K H a (ns.map V.int)) (h2 : SqL K H b (ms.map V.int)) (q : Q (.bl (!decide (ns = ms))) H) : rNeD K (.ref a) (.ref b) H Q :=
  ⟨_, _, dp_listI h1, dp_listI h2, shaped_dI ns, shaped_dI ms, by rw [show PyData.eqv (.list (ns.map PyData.int)) (.list (ms.map PyData.int)) = decide (ns = ms) from eqv_dI ns ms]; exact q⟩
/-! ### loops -/
def Lp (J : It) (g : TG) (tb : TS) (D : Ends) (σ : L2.St) (H : Hp) : Prop := ∃ W : Nat → Nat → L2.St → Hp → Prop, (∃ m, W 0 m σ H) ∧ ∀ i m σ H, W i m σ H →
  (J.stop i H ∧ D.nx σ H) ∨ (J.go i H ∧ ∃ N : L2.St → Hp → Prop, (∀ σ' H', N σ' H' → ∃ m', m' < m ∧ W (i + 1) m' σ' H') ∧ ∀ x H', J.yld i H x H' → g x σ H' fun σ2 H2 => tb { D with nx := N, ct := N, bk := D.nx } σ2 H2)
section
variable {K : PySem.W.Frag} {σ : L2.St} {H : Hp} {D : Ends} {te : TE} {ta : TA} {tb : TS} {g : TG} {wi : TI}
theorem r_for (h : wi σ H fun J H1 => Lp J g tb D σ H1) : tFor wi g tb D σ H := h
theorem r_iList {R : It → Hp → Prop} (h : te σ H fun x H1 => ∃ a, x = .ref a ∧ (∃ xs, SqL K H1 a xs) ∧ R (Itl K a) H1) : iList K te σ H R := h
theorem r_iListA {a : Addr} {xs : List V} (h : SqL K H a xs) (q : Lp (Itl K a) g tb D σ H) : ∃ a', V.ref a = .ref a' ∧ (∃ xs, SqL K H a' xs) ∧ Lp (Itl K a') g tb D σ H := ⟨a, rfl, ⟨xs, h⟩, q⟩
theorem r_iTup {R : It → Hp → Prop} (h : te σ H fun x H1 => ∃ a, x = .ref a ∧ (∃ xs, SqT K H1 a xs) ∧ R (Itt K a) H1) : iTup K te σ H R := h
theorem r_iTupA {a : Addr} {xs : List V} (h : SqT K H a xs) (q : Lp (Itt K a) g tb D σ H) : ∃ a', V.ref a = .ref a' ∧ (∃ xs, SqT K H a' xs) ∧ Lp (Itt K a') g tb D σ H := ⟨a, rfl, ⟨xs, h⟩, q⟩
theorem r_iRng1 {R : It → Hp → Prop} (h : ta σ H fun vs H1 => ∃ j : Int, vs = [.int j] ∧ -(2 ^ 62) ≤ j ∧ j < 2 ^ 62 ∧ R (Itr 0 j.toNat) H1) : iRng1 ta σ H R := h
theorem r_iRng1A {j : Int} (h0 : -(2 ^ 62) ≤ j) (h1 : j < 2 ^ 62) (q : Lp (Itr 0 j.toNat) g tb D σ H) : ∃ j' : Int, [V.int j] = [.int j'] ∧ -(2 ^ 62) ≤ j' ∧ j' < 2 ^ 62 ∧ Lp (Itr 0 j'.toNat) g tb D σ H := ⟨j, rfl, h0, h1, q⟩
theorem r_iRng2 {R : It → Hp → Prop} (h : ta σ H fun vs H1 => ∃ i j : Int, vs = [.int i, .int j] ∧ (-(2 ^ 62) ≤ i ∧ i < 2 ^ 62 ∧ -(2 ^ 62) ≤ j ∧ j < 2 ^ 62) ∧ R (Itr i (j - i).toNat) H1) : iRng2 ta σ H R := h
theorem r_iRng2A {i j : Int} (hb : -(2 ^ 62) ≤ i ∧ i < 2 ^ 62 ∧ -(2 ^ 62) ≤ j ∧ j < 2 ^ 62) (q : Lp (Itr i (j - i).toNat) g tb D σ H) : ∃ i' j' : Int, [V.int i, V.int j] = [.int i', .int j'] ∧ (-(2 ^ 62) ≤ i' ∧ i' < 2 ^ 62 ∧ -(2 ^ 62) ≤ j' ∧ j' < 2 ^ 62) ∧ Lp (Itr i' (j' - i').toNat) g tb D σ H := ⟨i, j, rfl, hb, q⟩
theorem r_iRev {R : It → Hp → Prop} (h : ta σ H fun vs H1 => ∃ (a : Addr) (xs : List V), vs = [.ref a] ∧ SqL K H1 a xs ∧ R (Itv K a xs.length) H1) : iRev K ta σ H R := h
theorem r_iRevA {a : Addr} {xs : List V} (h : SqL K H a xs) (q : Lp (Itv K a xs.length) g tb D σ H) : ∃ (a' : Addr) (xs : List V), [V.ref a] = [.ref a'] ∧ SqL K H a' xs ∧ Lp (Itv K a' xs.length) g tb D σ H := ⟨a, xs, rfl, h, q⟩
theorem r_iEnum {R : It → Hp → Prop} (h : ta σ H fun vs H1 => ∃ a xs, vs = [.ref a] ∧ SqL K H1 a xs ∧ R (Ite K a) H1) : iEnum K ta σ H R := h
theorem r_iEnumA {a : Addr} {xs : List V} (h : SqL K H a xs) (q : Lp (Ite K a) g tb D σ H) : ∃ (a' : Addr) (xs : List V), [V.ref a] = [.ref a'] ∧ SqL K H a' xs ∧ Lp (Ite K a') g tb D σ H := ⟨a, xs, rfl, h, q⟩
theorem r_iRevR {tr : L2.St → Hp → (Int → Int → Hp → Prop) → Prop} {R : It → Hp → Prop} (h : tr σ H fun a b H1 => -(2 ^ 62) ≤ a ∧ a < 2 ^ 62 ∧ -(2 ^ 62) ≤ b ∧ b < 2 ^ 62 ∧ R (Itc (a + (((b - a).toNat : Nat) : Int) - 1) (-1) (b - a).toNat) H1) : iRevR tr σ H R := h

theorem loop_list {a : Addr} {xs : List V} (Pv : Nat → L2.St → Hp → Prop) (h0 : Pv 0 σ H) (hl : ∀ i σ H, i ≤ xs.length → Pv i σ H → SqL K H a xs)
    (hs : ∀ i x σ H, xs[i]? = some x → Pv i σ H → g x σ H fun σ2 H2 => tb { D with nx := Pv (i + 1), ct := Pv (i + 1), bk := D.nx } σ2 H2) (hd : ∀ σ H, Pv xs.length σ H → D.nx σ H) : Lp (Itl K a) g tb D σ H := for_list Pv h0 hl hs hd
/-- a loop over a list of ints -/
theorem loop_ints {a : Addr} {ns : List Int} {j : Nat} (Pv : Nat → L2.St → Hp → Prop) (h0 : Pv 0 σ H) (hl : ∀ i σ H, i ≤ ns.length → Pv i σ H → SqL K H a (ns.map V.int))
    (hs : ∀ i x σ H, ns[i]? = some x → Pv i σ H → tb { D with nx := Pv (i + 1), ct := Pv (i + 1), bk := D.nx } (σ.set j (some (.int x))) H) (hd : ∀ σ H, Pv ns.length σ H → D.nx σ H) : Lp (Itl K a) (gName j) tb D σ H :=
  for_list (xs := ns.map V.int) Pv h0 (fun i σ H h => hl i σ H (by rw [List.length_map] at h; exact h)) (fun i x σ H hx hp => by
    rw [List.getElem?_map] at hx
    cases e : ns[i]? with
    | none => rw [e] at hx; cases hx
    | some z => rw [e] at hx; cases hx; exact hs i z σ H e hp) (fun σ H h => hd σ H (by rw [List.length_map] at h; exact h))
theorem loop_tup {a : Addr} {xs : List V} (Pv : Nat → L2.St → Hp → Prop) (h0 : Pv 0 σ H) (hl : ∀ i σ H, i ≤ xs.length → Pv i σ H → SqT K H a xs)
    (hs : ∀ i x σ H, xs[i]? = some x → Pv i σ H → g x σ H fun σ2 H2 => tb { D with nx := Pv (i + 1), ct := Pv (i + 1), bk := D.nx } σ2 H2) (hd : ∀ σ H, Pv xs.length σ H → D.nx σ H) : Lp (Itt K a) g tb D σ H := for_tup Pv h0 hl hs hd
theorem loop_range {lo : Int} {n : Nat} {j : Nat} (Pv : Nat → L2.St → Hp → Prop) (h0 : Pv 0 σ H)
    (hs : ∀ i σ H, i < n → Pv i σ H → tb { D with nx := Pv (i + 1), ct := Pv (i + 1), bk := D.nx } (σ.set j (some (.int (lo + (i : Int))))) H) (hd : ∀ σ H, Pv n σ H → D.nx σ H) : Lp (Itr lo n) (gName j) tb D σ H := for_range Pv h0 hs hd
theorem loop_range0 {n : Nat} {j : Nat} (Pv : Nat → L2.St → Hp → Prop) (h0 : Pv 0 σ H)
    (hs : ∀ i σ H, i < n → Pv i σ H → tb { D with nx := Pv (i + 1), ct := Pv (i + 1), bk := D.nx } (σ.set j (some (.int (i : Int)))) H) (hd : ∀ σ H, Pv n σ H → D.nx σ H) : Lp (Itr 0 n) (gName j) tb D σ H :=
  for_range Pv h0 (fun i σ H hi hp => by
    have e : (0 : Int) + (i : Int) = (i : Int) := Int.zero_add _
    rw [e]
    exact hs i σ H hi hp) hd
theorem loop_rangeC {lo c : Int} {n : Nat} {j : Nat} (Pv : Nat → L2.St → Hp → Prop) (h0 : Pv 0 σ H)
    (hs : ∀ i σ H, i < n → Pv i σ H → tb { D with nx := Pv (i + 1), ct := Pv (i + 1), bk := D.nx } (σ.set j (some (.int (lo + (i : Int) * c)))) H) (hd : ∀ σ H, Pv n σ H → D.nx σ H) : Lp (Itc lo c n) (gName j) tb D σ H := for_rangeC Pv h0 hs hd
theorem loop_rev {a : Addr} {xs : List V} (Pv : Nat → L2.St → Hp → Prop) (h0 : Pv 0 σ H) (hl : ∀ i σ H, i ≤ xs.length → Pv i σ H → SqL K H a xs)
    (hs : ∀ i x σ H, xs[xs.length - 1 - i]? = some x → i < xs.length → Pv i σ H → g x σ H fun σ2 H2 => tb { D with nx := Pv (i + 1), ct := Pv (i + 1), bk := D.nx } σ2 H2) (hd : ∀ σ H, Pv xs.length σ H → D.nx σ H) : Lp (Itv K a xs.length) g tb D σ H := by
  refine ⟨fun i m σ H => m = xs.length - i ∧ i ≤ xs.length ∧ Pv i σ H, ⟨xs.length, by simp, Nat.zero_le _, h0⟩, ?_⟩
  rintro i m σ H ⟨rfl, hi, p⟩
  have q := hl i σ H hi p
  by_cases hlt : i < xs.length
  · have hk : xs.length - 1 - i < xs.length := by omega
    refine .inr ⟨⟨hlt, xs, xs[xs.length - 1 - i], q, by simp [hk]⟩, Pv (i + 1), fun σ' H' p' => ⟨xs.length - (i + 1), by omega, rfl, hlt, p'⟩, fun x H' y => ?_⟩
    obtain ⟨e, y⟩ := y
    subst e
    exact hs i x σ _ (y xs q) hlt p
  · have e : i = xs.length := by omega
    subst e
    exact .inl ⟨Nat.le_refl _, hd σ H p⟩
theorem loop_enum {a : Addr} {xs : List V} {j k : Nat} (Pv : Nat → L2.St → Hp → Prop) (h0 : Pv 0 σ H) (hl : ∀ i σ H, i ≤ xs.length → Pv i σ H → SqL K H a xs)
    (hs : ∀ i x σ H H', xs[i]? = some x → Pv i σ H → Ex H H' → tb { D with nx := Pv (i + 1), ct := Pv (i + 1), bk := D.nx } ((σ.set j (some (.int (i : Int)))).set k (some x)) H') (hd : ∀ σ H, Pv xs.length σ H → D.nx σ H) :
    Lp (Ite K a) (gTup K 2 (gCons (gName j) (gCons (gName k) gNil))) tb D σ H := by
  refine ⟨fun i m σ H => m = xs.length - i ∧ i ≤ xs.length ∧ Pv i σ H, ⟨xs.length, by simp, Nat.zero_le _, h0⟩, ?_⟩
  rintro i m σ H ⟨rfl, hi, p⟩
  have q := hl i σ H hi p
  by_cases hlt : i < xs.length
  · refine .inr ⟨⟨xs, xs[i], q, by simp [hlt]⟩, Pv (i + 1), fun σ' H' p' => ⟨xs.length - (i + 1), by omega, rfl, hlt, p'⟩, fun v H' y => ?_⟩
    obtain ⟨T, x, rfl, nT, rfl, y⟩ := y
    exact ⟨T, _, rfl, .inl (.inl upd_same), rfl, _, _, rfl, x, [], rfl, rfl, hs i x σ H _ (y xs q) p (Evl.Ex.new nT)⟩
  · have e : i = xs.length := by omega
    subst e
    exact .inl ⟨⟨xs, q, Nat.le_refl _⟩, hd σ H p⟩
theorem r_while {tt : TT} (W : Nat → L2.St → Hp → Prop) (m0 : Nat) (h0 : W m0 σ H)
    (hs : ∀ m σ' H', W m σ' H' → tt σ' H' fun b H1 => if b = true then ∃ N : L2.St → Hp → Prop, (∀ σ2 H2, N σ2 H2 → ∃ m', m' < m ∧ W m' σ2 H2) ∧ tb { D with nx := N, ct := N, bk := D.nx } σ' H1 else D.nx σ' H1) : tWhile tt tb D σ H :=
  ⟨W, ⟨m0, h0⟩, hs⟩
theorem wh_in {W : Nat → L2.St → Hp → Prop} {m : Nat} (h : tb { D with nx := fun σ2 H2 => ∃ m', m' < m ∧ W m' σ2 H2, ct := fun σ2 H2 => ∃ m', m' < m ∧ W m' σ2 H2, bk := D.nx } σ H) :
    ∃ N : L2.St → Hp → Prop, (∀ σ2 H2, N σ2 H2 → ∃ m', m' < m ∧ W m' σ2 H2) ∧ tb { D with nx := N, ct := N, bk := D.nx } σ H := ⟨_, fun _ _ h => h, h⟩
end
/-! ### bounds -/
theorem small_le {n : Nat} (h : n ≤ 16777216) : n ≤ sizeLine := by rw [sizeLine_eq]; exact h
theorem small_lt {n : Nat} (h : n < 16777216) : n < sizeLine := by rw [sizeLine_eq]; exact h
/-! ### comprehensions -/
def Lc (J : It) (g : TG) (tt : TT) (te : TE) (vs : List Nat) (σ : L2.St) (H1 : Hp) (Q : VK) : Prop := ∀ D, H1 D = none → ∃ W : Nat → Nat → Hp → Prop, (∃ m, W 0 m (upd H1 D (.lst []))) ∧ ∀ i m H, W i m H →
  (J.stop i H ∧ Q (.ref D) H) ∨ (J.go i H ∧ ∃ Nx : Hp → Prop, (∀ H', Nx H' → ∃ m', m' < m ∧ W (i + 1) m' H') ∧ ∀ x H', J.yld i H x H' → g x (wipe σ vs) H' fun σ2 H2 => wipe σ2 vs = wipe σ vs ∧ tt σ2 H2 fun b H3 =>
    if b = true then te σ2 H3 fun y H4 => ∃ acc, H4 D = some (.lst acc) ∧ acc.length < sizeLine ∧ Nx (upd H4 D (.lst (acc ++ [y]))) else Nx H3)
theorem r_lc {wi : TI} {g : TG} {tt : TT} {te : TE} {vs : List Nat} {σ : L2.St} {H : Hp} {Q : VK} (h : wi σ H fun J H1 => Lc J g tt te vs σ H1 Q) : tLc wi g tt te vs σ H Q := h
theorem set_set {α : Type} : ∀ (l : List α) (i : Nat) (a b : α), (l.set i a).set i b = l.set i b
  | [], _, _, _ => rfl
  | _ :: _, 0, _, _ => rfl
  | x :: l, i + 1, a, b => by show x :: (l.set i a).set i b = x :: l.set i b; rw [set_set l i a b]
section
variable {K : PySem.W.Frag} {σ : L2.St} {H : Hp} {te : TE} {Q : VK} {g : TG}
theorem r_cListA {a : Addr} {xs : List V} {tt : TT} {vs : List Nat} (h : SqL K H a xs) (q : Lc (Itl K a) g tt te vs σ H Q) : ∃ a', V.ref a = .ref a' ∧ (∃ xs, SqL K H a' xs) ∧ Lc (Itl K a') g tt te vs σ H Q := ⟨a, rfl, ⟨xs, h⟩, q⟩
theorem r_cRng1A {j : Int} {tt : TT} {vs : List Nat} (h0 : -(2 ^ 62) ≤ j) (h1 : j < 2 ^ 62) (q : Lc (Itr 0 j.toNat) g tt te vs σ H Q) : ∃ j' : Int, [V.int j] = [.int j'] ∧ -(2 ^ 62) ≤ j' ∧ j' < 2 ^ 62 ∧ Lc (Itr 0 j'.toNat) g tt te vs σ H Q := ⟨j, rfl, h0, h1, q⟩
theorem r_cRng2A {i j : Int} {tt : TT} {vs : List Nat} (hb : -(2 ^ 62) ≤ i ∧ i < 2 ^ 62 ∧ -(2 ^ 62) ≤ j ∧ j < 2 ^ 62) (q : Lc (Itr i (j - i).toNat) g tt te vs σ H Q) : ∃ i' j' : Int, [V.int i, V.int j] = [.int i', .int j'] ∧ (-(2 ^ 62) ≤ i' ∧ i' < 2 ^ 62 ∧ -(2 ^ 62) ≤ j' ∧ j' < 2 ^ 62) ∧ Lc (Itr i' (j' - i').toNat) g tt te vs σ H Q := ⟨i, j, rfl, hb, q⟩
/-- over a list, each item giving a value by a function -/
theorem lc_map {a : Addr} {xs : List V} {j : Nat} (f : V → V) (hx : SqL K H a xs) (hz : xs.length < 1000000)
    (he : ∀ x, x ∈ xs → ∀ H1, Ex H H1 → ∀ Q' : VK, (∀ H2, Ex H1 H2 → Q' (f x) H2) → te (σ.set j (some x)) H1 Q')
    (q : ∀ p H', H p = none → Ex H H' → H' p = some (.lst (xs.map f)) → Q (.ref p) H') : Lc (Itl K a) (gName j) tYes te [j] σ H Q := fun D hD =>
  lc_list (xs := xs) (fun i H' => Ex H H' ∧ H' D = some (.lst ((xs.take i).map f))) ⟨Evl.Ex.new hD, upd_same⟩ (fun i H' _ p => p.1.l hx)
    (fun i x H' hi p => ⟨by show ((σ.set j none).set j (some x)).set j none = σ.set j none; rw [set_set, set_set], by
      show te ((σ.set j none).set j (some x)) H' _
      rw [set_set]
      refine he x (List.mem_of_getElem? hi) H' p.1 _ fun H2 e2 => ⟨_, e2 D _ p.2, ?_, (Evl.Ex.mut (p.1.trans e2) hD), ?_⟩
      · rw [List.length_map, List.length_take]; exact small_lt (by omega)
      · rw [upd_same, List.take_add_one, hi, List.map_append]; rfl⟩)
    (fun H' p => q D H' hD p.1 (by rw [List.take_length] at p; exact p.2))
/-- over a list of ints, each giving an int -/
theorem lc_ints {a : Addr} {ns : List Int} {j : Nat} (f : Int → Int) (hx : SqL K H a (ns.map V.int)) (hz : ns.length < 1000000)
    (he : ∀ x, x ∈ ns → ∀ H1, Ex H H1 → ∀ Q' : VK, (∀ H2, Ex H1 H2 → Q' (.int (f x)) H2) → te (σ.set j (some (.int x))) H1 Q')
    (q : ∀ p H', H p = none → Ex H H' → H' p = some (.lst ((ns.map f).map V.int)) → Q (.ref p) H') : Lc (Itl K a) (gName j) tYes te [j] σ H Q :=
  lc_map (xs := ns.map V.int) (fun v => match v with | .int x => .int (f x) | v => v) hx (by rw [List.length_map]; exact hz)
    (fun v hv H1 e1 Q' k => by
      obtain ⟨x, hx', rfl⟩ := List.mem_map.mp hv
      exact he x hx' H1 e1 Q' k)
    (fun p H' hp e h => q p H' hp e (by
      rw [List.map_map] at h ⊢
      exact h))
/-- over a range from 0, each giving an int -/
theorem lc_rangeI {n : Nat} {j : Nat} (f : Nat → Int) (hz : n < 1000000)
    (he : ∀ i, i < n → ∀ H1, Ex H H1 → ∀ Q' : VK, (∀ H2, Ex H1 H2 → Q' (.int (f i)) H2) → te (σ.set j (some (.int (i : Int)))) H1 Q')
    (q : ∀ p H', H p = none → Ex H H' → H' p = some (.lst (((List.range n).map f).map V.int)) → Q (.ref p) H') : Lc (Itr 0 n) (gName j) tYes te [j] σ H Q := fun D hD =>
  lc_range (lo := 0) (n := n) (fun i H' => Ex H H' ∧ H' D = some (.lst (((List.range i).map f).map V.int))) ⟨Evl.Ex.new hD, upd_same⟩
    (fun i H' hi p => ⟨by show ((σ.set j none).set j _).set j none = σ.set j none; rw [set_set, set_set], by
      show te ((σ.set j none).set j (some (.int ((0 : Int) + (i : Int))))) H' _
      rw [set_set, show (0 : Int) + (i : Int) = (i : Int) from Int.zero_add _]
      refine he i hi H' p.1 _ fun H2 e2 => ⟨_, e2 D _ p.2, ?_, (Evl.Ex.mut (p.1.trans e2) hD), ?_⟩
      · rw [List.length_map, List.length_map, List.length_range]; exact small_lt (by omega)
      · rw [upd_same, List.range_succ, List.map_append, List.map_append]; rfl⟩)
    (fun H' p => q D H' hD p.1 p.2)
end
/-- an item of a list of ints -/
theorem r_ixI {K : PySem.W.Frag} {H : Hp} {Q : VK} {p : Addr} {i : Int} {ns : List Int} (h : SqL K H p (ns.map V.int)) (h0 : 0 ≤ i) (h1 : i < ns.length) (q : Q (.int (ns.getD i.toNat 0)) H) : rIxL K (.ref p) (.int i) H Q := by
  obtain ⟨k, rfl⟩ : ∃ k : Nat, i = (k : Int) := ⟨i.toNat, by omega⟩
  have hk : k < ns.length := by omega
  refine r_ixL h (atI_nat (j := k) (v := .int ns[k]) ?_) ?_
  · rw [List.getElem?_map, List.getElem?_eq_getElem hk]; rfl
  · rw [Int.toNat_natCast, List.getD_eq_getElem?_getD, List.getElem?_eq_getElem hk] at q
    exact q
/-- a slice of a list of ints, both ends in it -/
theorem cutI (ns : List Int) (lo hi : Option Int) : cutV (ns.map V.int) lo hi = ((ns.drop (HT.sIx ns.length 0 lo)).take (HT.sIx ns.length ns.length hi - HT.sIx ns.length 0 lo)).map V.int := by
  unfold cutV
  rw [List.length_map, List.map_take, List.map_drop]
/-- the part of a list between two bounds -/
def sliceI (ns : List Int) (lo hi : Option Int) : List Int := (ns.drop (HT.sIx ns.length 0 lo)).take (HT.sIx ns.length ns.length hi - HT.sIx ns.length 0 lo)
theorem sliceI_mem {ns : List Int} {lo hi : Option Int} {x : Int} (h : x ∈ sliceI ns lo hi) : x ∈ ns := List.mem_of_mem_drop (List.mem_of_mem_take h)
theorem sliceI_len (ns : List Int) (lo hi : Option Int) : (sliceI ns lo hi).length ≤ ns.length := by
  unfold sliceI
  rw [List.length_take, List.length_drop]; omega
theorem r_slI {K : PySem.W.Frag} {H : Hp} {Q : VK} {a : Addr} {ns : List Int} {lo hi : Option Int} (h : SqL K H a (ns.map V.int)) (q : ∀ p H', H p = none → Ex H H' → H' p = some (.lst ((sliceI ns lo hi).map V.int)) → Q (.ref p) H') : rSlL K (.ref a) lo hi H Q :=
  r_slL h fun p H' hp e hh => q p H' hp e (by rw [cutI] at hh; exact hh)
theorem r_repN {H : Hp} {Q : VK} {l : Addr} {ns : List Int} {k : Int} (h1 : H l = some (.lst (ns.map V.int))) (hk : k < 2 ^ 63) (z : ns.length * k.toNat ≤ 16777216) (q : ∀ p H', H p = none → Ex H H' → H' p = some (.lst (((List.replicate k.toNat ns).flatten).map V.int)) → Q (.ref p) H') (h0 : -(2 ^ 63) ≤ k := by omega) : rRep (.ref l) (.int k) H Q :=
  ⟨l, k, _, rfl, rfl, h1, h0, hk, by rw [List.length_map]; exact small0 z, newL fun p H' a b c => q p H' a b (by rw [List.map_flatten, List.map_replicate]; exact c)⟩
def insI (ns : List Int) (i : Int) (y : Int) : List Int := ns.take i.toNat ++ [y] ++ ns.drop i.toNat
theorem insI_mem {ns : List Int} {i y x : Int} : x ∈ insI ns i y ↔ x = y ∨ x ∈ ns := by
  unfold insI
  have h : x ∈ ns ↔ x ∈ ns.take i.toNat ∨ x ∈ ns.drop i.toNat := by rw [← List.mem_append, List.take_append_drop]
  rw [h, List.mem_append, List.mem_append, List.mem_singleton]
  constructor
  · rintro ((h | h) | h)
    · exact .inr (.inl h)
    · exact .inl h
    · exact .inr (.inr h)
  · rintro (h | h | h)
    · exact .inl (.inr h)
    · exact .inl (.inl h)
    · exact .inr h
theorem insI_len (ns : List Int) (i y : Int) : (insI ns i y).length = ns.length + 1 := by
  unfold insI
  rw [List.length_append, List.length_append, List.length_take, List.length_drop]
  show min i.toNat ns.length + 1 + (ns.length - i.toNat) = _
  omega
theorem r_insertI {H : Hp} {Q : VK} {l : Addr} {ns : List Int} {i y : Int} (h : H l = some (.lst (ns.map V.int))) (z : ns.length < 16777216) (h0 : 0 ≤ i) (h1 : i < 2 ^ 63) (q : ∀ H', Exb l H H' → H' l = some (.lst ((insI ns i y).map V.int)) → Q .non H') : rInsert (.ref l) [.int i, .int y] H Q :=
  r_insert h (by rw [List.length_map]; exact small_lt z) h0 h1 fun H' e hh => q H' e (by
    unfold insI
    rw [List.map_append, List.map_append, List.map_take, List.map_drop]
    exact hh)
theorem r_appendI {H : Hp} {Q : VK} {l : Addr} {ns : List Int} {y : Int} (h : H l = some (.lst (ns.map V.int))) (z : ns.length < 16777216) (q : ∀ H', Exb l H H' → H' l = some (.lst ((ns ++ [y]).map V.int)) → Q .non H') : rAppend (.ref l) [.int y] H Q :=
  r_append h (by rw [List.length_map]; exact small_lt z) fun H' e hh => q H' e (by rw [List.map_append]; exact hh)
theorem r_catI {H : Hp} {Q : VK} {l b : Addr} {ns ms : List Int} (h1 : H l = some (.lst (ns.map V.int))) (h2 : H b = some (.lst (ms.map V.int))) (z : ns.length + ms.length ≤ 16777216) (q : ∀ p H', H p = none → Ex H H' → H' p = some (.lst ((ns ++ ms).map V.int)) → Q (.ref p) H') : rCat (.ref l) (.ref b) H Q :=
  r_cat h1 h2 (by rw [List.length_map, List.length_map]; exact small0 z) fun p H' a e hh => q p H' a e (by rw [List.map_append]; exact hh)
theorem i_t {A B : Prop} (h : A) : if true = true then A else B := iteT h
theorem i_f {A B : Prop} (h : B) : if false = true then A else B := iteF h
theorem i_nt {A B : Prop} (h : B) : if (!true) = true then A else B := iteF h
theorem i_nf {A B : Prop} (h : A) : if (!false) = true then A else B := iteT h
theorem sliceI_to {ns : List Int} {n : Nat} (h : n ≤ ns.length) : sliceI ns none (some (n : Int)) = ns.take n := by
  unfold sliceI
  rw [HT.sIx_none, HT.sIx_nat, List.drop_zero, Nat.min_eq_left h]; rfl
theorem sliceI_toI {ns : List Int} {n : Int} (h0 : 0 ≤ n) : sliceI ns none (some n) = ns.take n.toNat := by
  obtain ⟨k, rfl⟩ : ∃ k : Nat, n = (k : Int) := ⟨n.toNat, by omega⟩
  unfold sliceI
  rw [HT.sIx_none, HT.sIx_nat, List.drop_zero, Int.toNat_natCast, Nat.sub_zero]
  by_cases h : k ≤ ns.length
  · rw [Nat.min_eq_left h]
  · rw [Nat.min_eq_right (by omega), List.take_length, List.take_of_length_le (by omega)]
theorem sliceI_fromI {ns : List Int} {n : Int} (h0 : 0 ≤ n) : sliceI ns (some n) none = ns.drop n.toNat := by
  obtain ⟨k, rfl⟩ : ∃ k : Nat, n = (k : Int) := ⟨n.toNat, by omega⟩
  unfold sliceI
  rw [HT.sIx_none, HT.sIx_nat, Int.toNat_natCast]
  by_cases h : k ≤ ns.length
  · rw [Nat.min_eq_left h, List.take_of_length_le (by rw [List.length_drop]; omega)]
  · rw [Nat.min_eq_right (by omega), List.drop_eq_nil_of_le (by omega : ns.length ≤ k), List.drop_length, List.take_nil]
theorem sliceI_bothI {ns : List Int} {n m : Int} (h0 : 0 ≤ n) (h1 : n ≤ m) : sliceI ns (some n) (some m) = (ns.drop n.toNat).take (m.toNat - n.toNat) := by
  obtain ⟨k, rfl⟩ : ∃ k : Nat, n = (k : Int) := ⟨n.toNat, by omega⟩
  obtain ⟨l, rfl⟩ : ∃ l : Nat, m = (l : Int) := ⟨m.toNat, by omega⟩
  unfold sliceI
  rw [HT.sIx_nat, HT.sIx_nat, Int.toNat_natCast, Int.toNat_natCast]
  by_cases h : k ≤ ns.length
  · rw [Nat.min_eq_left h]
    by_cases h' : l ≤ ns.length
    · rw [Nat.min_eq_left h']
    · rw [Nat.min_eq_right (by omega), List.take_of_length_le (by rw [List.length_drop]; omega), List.take_of_length_le (by rw [List.length_drop]; omega)]
  · rw [Nat.min_eq_right (show ns.length ≤ k by omega), List.drop_length, List.drop_eq_nil_of_le (by omega : ns.length ≤ k)]; simp
/-- what a def that makes a new list of ints promises -/
def RetI (xs : List Int) (H : Hp) (Q : VK) : Prop := ∀ p H', H p = none → Ex H H' → H' p = some (.lst (xs.map V.int)) → Q (.ref p) H'
theorem RetI.go {xs : List Int} {H H1 : Hp} {Q : VK} (k : RetI xs H Q) (e : Ex H H1) {p : Addr} {H2 : Hp} (hp : H1 p = none) (e2 : Ex H1 H2) (h : H2 p = some (.lst (xs.map V.int))) : Q (.ref p) H2 := k p H2 (Evl.fresh_back e hp) (e.trans e2) h
/-! ### the heap since the entry -/
/-- all that stood in H stands in H' (the same as Ex, kept apart) -/
structure Fx (H H' : Hp) : Prop where
  to : Ex H H'
theorem Fx.refl (H : Hp) : Fx H H := ⟨Evl.Ex.refl H⟩
theorem Fx.ex {H H1 H2 : Hp} (f : Fx H H1) (e : Ex H1 H2) : Fx H H2 := ⟨Evl.Ex.trans f.to e⟩
theorem Fx.of {H H1 : Hp} (e : Ex H H1) : Fx H H1 := ⟨e⟩
theorem Fx.mut {H H1 H2 : Hp} {l : Addr} (f : Fx H H1) (b : Exb l H1 H2) (h : H l = none) : Fx H H2 := ⟨Evl.Ex.mutb f.to b h⟩
theorem Fx.free {H H1 : Hp} {p : Addr} (f : Fx H H1) (h : H1 p = none) : H p = none := Evl.fresh_back f.to h
theorem Fx.l {K : PySem.W.Frag} {H H' : Hp} {a : Addr} {xs : List V} (e : Fx H H') (h : SqL K H a xs) : SqL K H' a xs := Evl.ex_l e.to h
theorem hx_e {H H' : Hp} {a : Addr} {o : HO} (e : Ex H H') (h : H a = some o) : H' a = some o := e a o h
theorem hx_b {H H' : Hp} {a l : Addr} {o : HO} (e : Exb l H H') (n : a ≠ l) (h : H a = some o) : H' a = some o := e a n o h
theorem ne_1 {H : Hp} {a l : Addr} {o : HO} (h' : H l = none) (h : H a = some o) : a ≠ l := ne_of_none h h'
theorem ne_2 {H : Hp} {a l : Addr} {o : HO} (h' : H a = none) (h : H l = some o) : a ≠ l := (ne_of_none h h').symm
def tTru (K : PySem.W.Frag) (te : TE) : TT := fun σ H Q => te σ H fun x H' => ∃ k, TruV K x H' k ∧ Q k H'
theorem pt_tru {X : Cx} {a : Expr} {ta : TE} (ha : PE X a ta) (he : ∀ whole, isTrue a X.env whole = (do let v ← whole; standAt a.pos; holding [v] (truthy v)) := by intro _; rfl) : PT X a (tTru X.K ta) := pt_truth ha he
theorem r_tru {K : PySem.W.Frag} {te : TE} {σ : L2.St} {H : Hp} {Q : Bool → Hp → Prop} (h : te σ H fun x H' => ∃ k, TruV K x H' k ∧ Q k H') : tTru K te σ H Q := h
theorem r_truL {K : PySem.W.Frag} {a : Addr} {xs : List V} {H : Hp} {Q : Bool → Prop} (h : SqL K H a xs) (q : Q (!xs.isEmpty)) : ∃ k, TruV K (.ref a) H k ∧ Q k := ⟨_, .inl ⟨xs, h, rfl⟩, q⟩
def RevK (K : PySem.W.Frag) (Q : VK) : V → Hp → Prop := fun x H1 => ∃ a xs, x = .ref a ∧ SqL K H1 a xs ∧ ∀ p, H1 p = none → Q (.ref p) (upd H1 p (.lst xs.reverse))
theorem r_rev {K : PySem.W.Frag} {te : TE} {σ : L2.St} {H : Hp} {Q : VK} (h : te σ H (RevK K Q)) : tRevL K te σ H Q := h
theorem r_revI {K : PySem.W.Frag} {H : Hp} {Q : VK} {a : Addr} {ns : List Int} (h : SqL K H a (ns.map V.int)) (q : ∀ p H', H p = none → Ex H H' → H' p = some (.lst (ns.reverse.map V.int)) → Q (.ref p) H') : RevK K Q (.ref a) H :=
  ⟨a, _, rfl, h, newL fun p H' hp e hh => q p H' hp e (by rw [List.map_reverse]; exact hh)⟩
theorem rg2 {a b : Int} (ha : 0 ≤ a) (ha' : a < 2 ^ 60) (hb : -(2 ^ 60) ≤ b) (hb' : b < 2 ^ 60) : RgC a b 2 ((b - a + 1) / 2).toNat := by
  have e : Builtin.Range.rangeSize a b 2 = (((b - a + 1) / 2).toNat : Int) := by
    unfold Builtin.Range.rangeSize
    rw [if_pos (by decide)]
    split <;> omega
  refine ⟨by decide, by decide, ?_, e⟩
  unfold Builtin.Range.small
  rw [e]
  simp only [Builtin.Range.rangeFitsLong, Bool.and_eq_true, Bool.or_eq_true, decide_eq_true_eq, beq_iff_eq, show ((2 : Int) > 0) by decide, if_true]
  omega
theorem r_iRng3 {ta : TA} {σ : L2.St} {H : Hp} {R : It → Hp → Prop} (h : ta σ H fun vs H1 => ∃ (i j c : Int) (n : Nat), vs = [.int i, .int j, .int c] ∧ RgC i j c n ∧ R (Itc i c n) H1) : iRng3 ta σ H R := h
theorem r_iRng3A {g : TG} {tb : TS} {D : Ends} {σ : L2.St} {H : Hp} {i j c : Int} {n : Nat} (h : RgC i j c n) (q : Lp (Itc i c n) g tb D σ H) : ∃ (i' j' c' : Int) (n : Nat), [V.int i, V.int j, V.int c] = [.int i', .int j', .int c'] ∧ RgC i' j' c' n ∧ Lp (Itc i' c' n) g tb D σ H := ⟨i, j, c, n, rfl, h, q⟩
/-- over a range from lo, each giving an int -/
theorem lc_rangeL {σ : L2.St} {H : Hp} {te : TE} {Q : VK} {lo : Int} {n : Nat} {j : Nat} (f : Nat → Int) (hz : n < 1000000)
    (he : ∀ i, i < n → ∀ H1, Ex H H1 → ∀ Q' : VK, (∀ H2, Ex H1 H2 → Q' (.int (f i)) H2) → te (σ.set j (some (.int (lo + (i : Int))))) H1 Q')
    (q : ∀ p H', H p = none → Ex H H' → H' p = some (.lst (((List.range n).map f).map V.int)) → Q (.ref p) H') : Lc (Itr lo n) (gName j) tYes te [j] σ H Q := fun D hD =>
  lc_range (lo := lo) (n := n) (fun i H' => Ex H H' ∧ H' D = some (.lst (((List.range i).map f).map V.int))) ⟨Evl.Ex.new hD, upd_same⟩
    (fun i H' hi p => ⟨by show ((σ.set j none).set j _).set j none = σ.set j none; rw [set_set, set_set], by
      show te ((σ.set j none).set j (some (.int (lo + (i : Int))))) H' _
      rw [set_set]
      refine he i hi H' p.1 _ fun H2 e2 => ⟨_, e2 D _ p.2, ?_, (Evl.Ex.mut (p.1.trans e2) hD), ?_⟩
      · rw [List.length_map, List.length_map, List.length_range]; exact small_lt (by omega)
      · rw [upd_same, List.range_succ, List.map_append, List.map_append]; rfl⟩)
    (fun H' p => q D H' hD p.1 p.2)
theorem r_lenI {K : PySem.W.Frag} {H : Hp} {Q : VK} {p : Addr} {ns : List Int} (h : SqL K H p (ns.map V.int)) (q : Q (.int ns.length) H) : rLenS K [.ref p] H Q := ⟨p, _, rfl, .inl h, by rw [List.length_map]; exact q⟩
/-- the last item -/
theorem r_ixLast {K : PySem.W.Frag} {H : Hp} {Q : VK} {p : Addr} {ns : List Int} (h : SqL K H p (ns.map V.int)) (h0 : ns ≠ []) (q : Q (.int (ns.getD (ns.length - 1) 0)) H) : rIxL K (.ref p) (.int (-1)) H Q := by
  have e : ns.map V.int = (ns.dropLast.map V.int) ++ [.int (ns.getD (ns.length - 1) 0)] := by
    have e1 : ns.getD (ns.length - 1) 0 = ns.getLast h0 := by
      rw [List.getD_eq_getElem?_getD, ← List.getLast?_eq_getElem?, List.getLast?_eq_some_getLast h0]; rfl
    rw [e1, ← List.map_singleton, ← List.map_append, List.dropLast_concat_getLast]
  exact r_ixL h (by rw [e]; exact atI_last _ _) q
theorem r_truI {K : PySem.W.Frag} {a : Addr} {ns : List Int} {H : Hp} {Q : Bool → Hp → Prop} (h : SqL K H a (ns.map V.int)) (q : Q (!decide (ns = [])) H) : ∃ k, TruV K (.ref a) H k ∧ Q k H := ⟨_, .inl ⟨_, h, rfl⟩, by
  have e : (!(ns.map V.int).isEmpty) = !decide (ns = []) := by
    cases ns with
    | nil => rfl
    | cons x r => rfl
  rw [e]; exact q⟩
theorem r_rg1 {te : TE} {σ : L2.St} {H : Hp} {R : Int → Int → Hp → Prop} (h : te σ H fun x H1 => ∃ b, x = .int b ∧ R 0 b H1) : tRg1 te σ H R := h
theorem r_revRA {g : TG} {tb : TS} {D : Ends} {σ : L2.St} {H : Hp} {b : Int} (h0 : -(2 ^ 62) ≤ b) (h1 : b < 2 ^ 62) (q : Lp (Itc (b.toNat - 1) (-1) b.toNat) g tb D σ H) : -(2 ^ 62) ≤ (0 : Int) ∧ (0 : Int) < 2 ^ 62 ∧ -(2 ^ 62) ≤ b ∧ b < 2 ^ 62 ∧ Lp (Itc (0 + (((b - 0).toNat : Nat) : Int) - 1) (-1) (b - 0).toNat) g tb D σ H := ⟨by decide, by decide, h0, h1, by
  rw [Int.sub_zero, Int.zero_add]; exact q⟩
/-- a loop over range(n), backwards -/
theorem loop_down {n : Nat} {j : Nat} {tb : TS} {D : Ends} {σ : L2.St} {H : Hp} (Pv : Nat → L2.St → Hp → Prop) (h0 : Pv n σ H)
    (hs : ∀ k σ H, k < n → Pv (k + 1) σ H → tb { D with nx := Pv k, ct := Pv k, bk := D.nx } (σ.set j (some (.int (k : Int)))) H) (hd : ∀ σ H, Pv 0 σ H → D.nx σ H) : Lp (Itc ((n : Int) - 1) (-1) n) (gName j) tb D σ H := by
  refine ⟨fun i m σ H => m = n - i ∧ i ≤ n ∧ Pv (n - i) σ H, ⟨n, by simp, Nat.zero_le _, h0⟩, ?_⟩
  rintro i m σ H ⟨rfl, hi, p⟩
  by_cases hlt : i < n
  · refine .inr ⟨hlt, Pv (n - (i + 1)), fun σ' H' p' => ⟨n - (i + 1), by omega, rfl, hlt, p'⟩, fun x H' y => ?_⟩
    obtain ⟨rfl, rfl⟩ := y
    have e1 : (n : Int) - 1 + (i : Int) * -1 = ((n - (i + 1) : Nat) : Int) := by omega
    have e2 : n - i = n - (i + 1) + 1 := by omega
    rw [e1]
    rw [e2] at p
    exact hs (n - (i + 1)) σ _ (by omega) p
  · have e : i = n := by omega
    subst e
    rw [Nat.sub_self] at p
    exact .inl ⟨Nat.le_refl _, hd σ H p⟩
theorem never_ {t : TS} {D : Ends} {σ : L2.St} {H : Hp} (h : False) : t D σ H := h.elim
end RB

set_option linter.all false
/-! Shared divisors. -/
namespace MG
def gcdN (ns : List Int) : Nat := ns.foldl (fun (g : Nat) x => Nat.gcd g x.natAbs) 0
def gcdL (ns : List Int) : Int := (gcdN ns : Int)
theorem fmod_lt {a b : Int} (h : b ≠ 0) : (a.fmod b).natAbs < b.natAbs := by
  by_cases hb : 0 < b
  · have h1 := Int.fmod_nonneg_of_pos a hb
    have h2 := Int.fmod_lt_of_pos a hb
    omega
  · have hb' : 0 < -b := by omega
    have e : a.fmod b = -((-a).fmod (-b)) := by rw [Int.neg_fmod_neg]; omega
    have h1 := Int.fmod_nonneg_of_pos (-a) hb'
    have h2 := Int.fmod_lt_of_pos (-a) hb'
    rw [e]
    omega
theorem gcd_fmod (a b : Int) : Int.gcd b (a.fmod b) = Int.gcd a b := by
  rw [Int.fmod_def, Int.gcd_sub_mul_left_right, Int.gcd_comm]
theorem foldl_gcd (ns : List Int) : ∀ g : Nat, ns.foldl (fun (g : Nat) x => Nat.gcd g x.natAbs) g = Nat.gcd g (gcdN ns) := by
  induction ns with
  | nil => intro g; simp [gcdN]
  | cons x r ih =>
    intro g
    show List.foldl _ (Nat.gcd g x.natAbs) r = _
    rw [ih]
    have e : gcdN (x :: r) = Nat.gcd (x.natAbs) (gcdN r) := by
      show List.foldl _ (Nat.gcd 0 x.natAbs) r = _
      rw [ih, Nat.gcd_zero_left]
    rw [e, Nat.gcd_assoc]
theorem gcdN_cons (x : Int) (r : List Int) : gcdN (x :: r) = Nat.gcd x.natAbs (gcdN r) := by
  show List.foldl _ (Nat.gcd 0 x.natAbs) r = _
  rw [foldl_gcd, Nat.gcd_zero_left]
theorem gcdN_nil : gcdN [] = 0 := rfl
theorem gcdN_append (xs ys : List Int) : gcdN (xs ++ ys) = Nat.gcd (gcdN xs) (gcdN ys) := by
  show List.foldl _ 0 (xs ++ ys) = _
  rw [List.foldl_append, foldl_gcd]; rfl
theorem gcdN_take {ns : List Int} {i : Nat} {x : Int} (h : ns[i]? = some x) : gcdN (ns.take (i + 1)) = Nat.gcd (gcdN (ns.take i)) x.natAbs := by
  rw [List.take_add_one, h, gcdN_append]
  congr 1
  show gcdN [x] = _
  rw [gcdN_cons, gcdN_nil, Nat.gcd_zero_right]
theorem gcdN_dvd {ns : List Int} : ∀ {x : Int}, x ∈ ns → (gcdN ns : Int) ∣ x := by
  induction ns with
  | nil => intro x h; cases h
  | cons y r ih =>
    intro x h
    rw [gcdN_cons]
    rcases List.mem_cons.mp h with rfl | h
    · exact Int.ofNat_dvd_left.mpr (Nat.gcd_dvd_left _ _)
    · exact Int.dvd_trans (Int.ofNat_dvd.mpr (Nat.gcd_dvd_right _ _)) (ih h)
theorem dvd_gcdN {ns : List Int} {d : Nat} (h : ∀ x ∈ ns, (d : Int) ∣ x) : d ∣ gcdN ns := by
  induction ns with
  | nil => exact Nat.dvd_zero _
  | cons y r ih =>
    rw [gcdN_cons]
    exact Nat.dvd_gcd (Int.ofNat_dvd_left.mp (h y (List.mem_cons_self))) (ih fun x hx => h x (List.mem_cons_of_mem _ hx))
theorem gcdN_eq {ns : List Int} {g : Nat} (h1 : ∀ x ∈ ns, (g : Int) ∣ x) (h2 : ∀ d : Nat, (∀ x ∈ ns, (d : Int) ∣ x) → d ∣ g) : gcdN ns = g :=
  Nat.dvd_antisymm (h2 _ fun _ hx => gcdN_dvd hx) (dvd_gcdN h1)
end MG

set_option linter.all false
set_option maxRecDepth 100000
/-! Instances: made, their fields, their methods; the fraction. -/
namespace RB
open PySem PySem.Spec PyProof.Rows L2
open Evl (Ex rLenS rListS rMax2 tCut pss_cut)
theorem okN {P : Program} {w : World} {K : PySem.W.Frag} {mg : Str → Option Value} {base : Heap} {x qual : Str} {params : Arguments} {body : List Stmt} {scope : Scope} {dvs : List V} {kws : List (Str × V)} {f : Addr} {fd : FuncData} {N ps : List Str} {k : Nat} {sp : Sp} (F : FunD K x qual params body scope dvs kws f fd) (S : FnScope N ps scope) (len : ∀ vs H Q E, sp vs H Q E → vs.length = ps.length)
    (hb : ∀ (cdv : Value) (A : Around) (outer : List Env) (s : Shared) (H : Hp) (vs : List V) (Q : VK) (E : XK), Room k (A.deeper (envOfC qual scope s.heap.objs.size f cdv)) → sp vs H Q E →
      ∃ t, PSs (cxOf CX0 P w K mg base N qual scope f cdv A outer s H E).nox body t ∧ t { nx := fun _ H' => Q .non H', rt := Q } (start N vs) H) : FnOk P w K mg base CX0 (k + 1) f fd ps sp :=
  F.ok S len fun cdv A outer s H vs Q E hr h => by
    obtain ⟨t, h1, h2⟩ := hb cdv A outer s H vs Q E hr h
    exact ⟨t, h1.nox, h2⟩
theorem funD_mk {K : PySem.W.Frag} {x qual : Str} {params : Arguments} {body : List Stmt} {scope : Scope} {i : Int} {f T : Addr} {oc : Value} {od an : Option Addr} {osl : Array (Option Value)} {kV doc pm cdv ct oc2 : Value} {od2 : Option Addr} {tk : Tok} {n2 : Nat} {sl2 : Array (Option Value)}
    (l : K.lookup f = some ⟨oc, od, .func (PySem.W.fnOf x qual params body scope (.ref T) kV doc pm an cdv ct), osl⟩) (d : K.lookup T = some ⟨oc2, od2, .seq #[.int i tk] n2, sl2⟩) (c : PySem.W.codeIn K cdv qual = true) (k : PySem.W.keepIn K (.ref f) = true) :
    FunD K x qual params body scope [.int i] [] f (PySem.W.fnOf x qual params body scope (.ref T) kV doc pm an cdv ct) :=
  ⟨⟨oc, od, .ref T, kV, doc, pm, an, cdv, ct, osl, rfl, l, c, .inr ⟨by simp, T, _, [.int i tk], n2, rfl, d, rfl, .cons ⟨tk, rfl⟩ .nil⟩, .inl rfl⟩, k⟩
theorem binds_full {K : PySem.W.Frag} {fd : FuncData} {ps : List Str} (h : ∃ ds, Vals ([] : List V) ds ∧ Binds K fd ps ds) : Binds K fd ps [] := by
  obtain ⟨ds, h1, h2⟩ := h
  cases h1
  exact h2
/-! ### making -/
def MakeK (C : Addr) (sp : Sp) (dvs : List V) (E : XK) (Q : VK) : List V → Hp → Prop := fun vs H1 => ∀ x dx, H1 x = none → H1 dx = none → dx ≠ x →
  sp (.ref x :: (vs ++ dvs)) (upd (upd H1 dx (.own x)) x (.ins C dx [])) (fun v H2 => v = .non ∧ Q (.ref x) H2) E
theorem r_make {C : Addr} {sp : Sp} {dvs : List V} {E : XK} {ta : TA} {σ : L2.St} {H : Hp} {Q : VK} (h : ta σ H (MakeK C sp dvs E Q)) : tMake C sp dvs E ta σ H Q := h
def FldK (K : PySem.W.Frag) (f : Str) (Q : VK) : V → Hp → Prop := fun x H1 => ∃ a C dx fs v, x = .ref a ∧ H1 a = some (.ins C dx fs) ∧ Cls K C ∧ NoAttr K C f ∧ fs.lookup f = some v ∧ Q v H1
theorem r_fld {K : PySem.W.Frag} {te : TE} {f : Str} {σ : L2.St} {H : Hp} {Q : VK} (h : te σ H (FldK K f Q)) : tFld K te f σ H Q := h
def SFldK (K : PySem.W.Frag) (f : Str) (y : V) (G : Hp → Prop) : V → Hp → Prop := fun x H2 => ∃ a C dx fs, x = .ref a ∧ H2 a = some (.ins C dx fs) ∧ Cls K C ∧ NoAttr K C f ∧ fs.length < 1000 ∧ G (upd H2 a (.ins C dx (putF f y fs)))
theorem r_sfld {K : PySem.W.Frag} {ta tv : TE} {f : Str} {D : Ends} {σ : L2.St} {H : Hp} (h : tv σ H fun y H1 => ta σ H1 (SFldK K f y (D.nx σ))) : sFld K ta tv f D σ H := h
def MethK (C : Addr) (m : Str) (sp : Sp) (dvs : List V) (E : XK) (t : TA) (σ : L2.St) (Q : VK) : V → Hp → Prop := fun x H1 => ∃ a dx fs, x = .ref a ∧ H1 a = some (.ins C dx fs) ∧ fs.lookup m = none ∧ t σ H1 fun vs H2 => sp (x :: (vs ++ dvs)) H2 Q E
theorem r_meth {C : Addr} {m : Str} {sp : Sp} {dvs : List V} {E : XK} {ta : TE} {t : TA} {σ : L2.St} {H : Hp} {Q : VK} (h : ta σ H (MethK C m sp dvs E t σ Q)) : tMeth C m sp dvs E ta t σ H Q := h
/-! ### the fraction -/
def rF (t b : Int) : List (Str × V) := [("top", .int t), ("bottom", .int b)]
def IsR (C : Addr) (H : Hp) (a : Addr) (t b : Int) : Prop := ∃ dx, H a = some (.ins C dx (rF t b))
theorem IsR.ex {C : Addr} {H H' : Hp} {a : Addr} {t b : Int} (e : Ex H H') (h : IsR C H a t b) : IsR C H' a t b := h.elim fun dx h => ⟨dx, e _ _ h⟩
theorem IsR.exb {C : Addr} {H H' : Hp} {a l : Addr} {t b : Int} (e : Exb l H H') (n : a ≠ l) (h : IsR C H a t b) : IsR C H' a t b := h.elim fun dx h => ⟨dx, e _ n _ h⟩
theorem rF_top (t b : Int) : (rF t b).lookup ("top" : Str) = some (.int t) := by
  unfold rF
  simp [List.lookup]
theorem rF_bottom (t b : Int) : (rF t b).lookup ("bottom" : Str) = some (.int b) := by
  unfold rF
  have e : (("bottom" : Str) == ("top" : Str)) = false := by decide +kernel
  simp [List.lookup, e]
theorem rF_none (t b : Int) {m : Str} (h1 : (m == ("top" : Str)) = false) (h2 : (m == ("bottom" : Str)) = false) : (rF t b).lookup m = none := by
  unfold rF
  simp [List.lookup, h1, h2]
theorem r_top {K : PySem.W.Frag} {C : Addr} {H : Hp} {Q : VK} {a : Addr} {t b : Int} (c : Cls K C) (n : NoAttr K C "top") (h : IsR C H a t b) (q : Q (.int t) H) : FldK K "top" Q (.ref a) H := by
  obtain ⟨dx, h⟩ := h
  exact ⟨a, C, dx, _, _, rfl, h, c, n, rF_top t b, q⟩
theorem r_bottom {K : PySem.W.Frag} {C : Addr} {H : Hp} {Q : VK} {a : Addr} {t b : Int} (c : Cls K C) (n : NoAttr K C "bottom") (h : IsR C H a t b) (q : Q (.int b) H) : FldK K "bottom" Q (.ref a) H := by
  obtain ⟨dx, h⟩ := h
  exact ⟨a, C, dx, _, _, rfl, h, c, n, rF_bottom t b, q⟩
theorem r_methR {C : Addr} {m : Str} {sp : Sp} {dvs : List V} {E : XK} {ta : TA} {σ : L2.St} {Q : VK} {H : Hp} {a : Addr} {t b : Int} (h : IsR C H a t b) (h1 : (m == ("top" : Str)) = false) (h2 : (m == ("bottom" : Str)) = false) (q : ta σ H fun vs H2 => sp (.ref a :: (vs ++ dvs)) H2 Q E) : MethK C m sp dvs E ta σ Q (.ref a) H := by
  obtain ⟨dx, h⟩ := h
  exact ⟨a, dx, _, rfl, h, rF_none t b h1 h2, q⟩
def RetR (C : Addr) (t b : Int) (H : Hp) (Q : VK) : Prop := ∀ p H', H p = none → Ex H H' → IsR C H' p t b → Q (.ref p) H'
theorem RetR.go {C : Addr} {t b : Int} {H H1 : Hp} {Q : VK} (k : RetR C t b H Q) (e : Ex H H1) : RetR C t b H1 Q := fun p H' hp e2 h => k p H' (Evl.fresh_back e hp) (e.trans e2) h
/-- the shared divisor with the bottom's sign -/
def rG (t b : Int) : Int := if b < 0 then -MG.gcdL [t, b] else MG.gcdL [t, b]
def rT (t b : Int) : Int := t.fdiv (rG t b)
def rB (t b : Int) : Int := b.fdiv (rG t b)
theorem gcdL_pair (t b : Int) : MG.gcdL [t, b] = (Int.gcd t b : Int) := by
  unfold MG.gcdL MG.gcdN Int.gcd
  simp
theorem rG_pos {t b : Int} (hb : b ≠ 0) : 0 < Int.gcd t b := Int.gcd_pos_of_ne_zero_right t hb
theorem rG_ne {t b : Int} (hb : b ≠ 0) : rG t b ≠ 0 := by
  have := rG_pos (t := t) hb
  unfold rG
  rw [gcdL_pair]
  split <;> omega
theorem rG_abs (t b : Int) : (rG t b).natAbs = Int.gcd t b := by
  unfold rG
  rw [gcdL_pair]
  split <;> omega
theorem rG_log {t b : Int} {n : Nat} (hb : b ≠ 0) (h0 : 0 < n) (h : b.natAbs < 2 ^ n) : (rG t b).natAbs.log2 < n := by
  rw [rG_abs]
  exact PySem.Flt.log2_lt_of h0 (Nat.lt_of_le_of_lt (Nat.gcd_le_right _ (by omega)) h)
theorem rG_dvd_t (t b : Int) : rG t b ∣ t := by
  rw [← Int.natAbs_dvd, rG_abs]; exact Int.gcd_dvd_left ..
theorem rG_dvd_b (t b : Int) : rG t b ∣ b := by
  rw [← Int.natAbs_dvd, rG_abs]; exact Int.gcd_dvd_right ..
theorem rT_mul {t b : Int} (hb : b ≠ 0) : rT t b * rG t b = t := by
  obtain ⟨k, hk⟩ := rG_dvd_t t b
  unfold rT
  conv => lhs; arg 1; arg 1; rw [hk]
  rw [Int.mul_fdiv_cancel_left _ (rG_ne hb), Int.mul_comm, ← hk]
theorem rB_mul {t b : Int} (hb : b ≠ 0) : rB t b * rG t b = b := by
  obtain ⟨k, hk⟩ := rG_dvd_b t b
  unfold rB
  conv => lhs; arg 1; arg 1; rw [hk]
  rw [Int.mul_fdiv_cancel_left _ (rG_ne hb), Int.mul_comm, ← hk]
theorem rB_pos {t b : Int} (hb : b ≠ 0) : 0 < rB t b := by
  have h1 := rB_mul (t := t) hb
  have h2 := rG_pos (t := t) hb
  have hs : (b < 0 → rG t b < 0) ∧ (¬ b < 0 → 0 < rG t b) := by
    unfold rG
    rw [gcdL_pair]
    constructor
    · intro h; rw [if_pos h]; omega
    · intro h; rw [if_neg h]; omega
  apply Classical.byContradiction
  intro h
  by_cases hn : b < 0
  · have := Int.mul_nonneg_of_nonpos_of_nonpos (show rB t b ≤ 0 by omega) (show rG t b ≤ 0 by have := hs.1 hn; omega)
    omega
  · have := Int.mul_nonneg (show 0 ≤ -rB t b by omega) (show 0 ≤ rG t b by have := hs.2 hn; omega)
    rw [Int.neg_mul] at this
    omega
theorem r_cross {t b : Int} (hb : b ≠ 0) : rT t b * b = t * rB t b := by
  have h1 := rT_mul (t := t) hb
  have h2 := rB_mul (t := t) hb
  generalize rT t b = p at *
  generalize rB t b = q at *
  generalize rG t b = g at *
  rw [← h1, ← h2, Int.mul_assoc, Int.mul_comm g q]
theorem r_low {t b : Int} (hb : b ≠ 0) : Int.gcd (rT t b) (rB t b) = 1 := by
  have h1 := rT_mul (t := t) hb
  have h2 := rB_mul (t := t) hb
  have h3 := rG_abs t b
  have h4 := rG_pos (t := t) hb
  have h5 := Int.gcd_mul_right (rT t b) (rG t b) (rB t b)
  rw [h1, h2, h3] at h5
  exact Nat.eq_of_mul_eq_mul_right h4 (by omega)
theorem rT_abs {t b : Int} (hb : b ≠ 0) : (rT t b).natAbs ≤ t.natAbs := by
  have h1 := rT_mul (t := t) hb
  have h4 := rG_pos (t := t) hb
  have h3 := rG_abs t b
  have h5 : (rT t b).natAbs * (rG t b).natAbs = t.natAbs := by rw [← Int.natAbs_mul, h1]
  rw [h3] at h5
  rw [← h5]
  exact Nat.le_mul_of_pos_right _ h4
theorem rB_abs {t b : Int} (hb : b ≠ 0) : (rB t b).natAbs ≤ b.natAbs := by
  have h1 := rB_mul (t := t) hb
  have h4 := rG_pos (t := t) hb
  have h3 := rG_abs t b
  have h5 : (rB t b).natAbs * (rG t b).natAbs = b.natAbs := by rw [← Int.natAbs_mul, h1]
  rw [h3] at h5
  rw [← h5]
  exact Nat.le_mul_of_pos_right _ h4
end RB
namespace RB
open PySem PySem.Spec PyProof.Rows L2
/-- what isinstance asks of a class of instances -/
structure InsC (K : PySem.W.Frag) (C : Addr) : Prop where
  ha : PySem.W.findIn K (.ref C) "__class__" = some (some (.builtin "object.__class__"))
  hn : PySem.W.specialIn K (.builtin "object.__class__") "__get__" = some (some (.builtin "getset_descriptor.__get__"))
  ht : PySem.W.takesIn K (.builtin "object.__class__") = some true
  hm : PySem.W.mroIn K C (.type "object") = some true
theorem kit_self (K : PySem.W.Frag) (t : Value) (h : (t == t) = true) : PySem.W.kitOne K t t = some true := by
  unfold PySem.W.kitOne
  rw [if_pos h]
theorem r_isR {K : PySem.W.Frag} {C : Addr} {H : Hp} {Q : VK} {a : Addr} {t b : Int} (c : Cls K C) (i : InsC K C) (h : IsR C H a t b) (q : Q (.bl true) H) : rIsi K [.ref a, .ref C] H Q := by
  obtain ⟨dx, h⟩ := h
  exact ⟨.ref a, .ref C, .ref C, .ref C, true, rfl, .own C, .base (.ins h c i.ha i.hn i.ht i.hm), kit_self K (.ref C) (beq_self_eq_true _), q⟩
end RB

set_option linter.all false
/-! Fractions: order, sign, floor. -/
namespace RB
/-- -1, 0 or 1 -/
def ordI (l r : Int) : Int := if l < r then -1 else if r < l then 1 else 0
theorem ordI_lt {l r : Int} (h : l < r) : ordI l r = -1 := if_pos h
theorem ordI_gt {l r : Int} (h : r < l) : ordI l r = 1 := by
  unfold ordI
  rw [if_neg (by omega), if_pos h]
theorem ordI_self (l : Int) : ordI l l = 0 := by
  unfold ordI
  rw [if_neg (by omega), if_neg (by omega)]
theorem ordI_swap (l r : Int) : ordI r l = - ordI l r := by
  rcases Int.lt_trichotomy l r with h | h | h
  · rw [ordI_lt h, ordI_gt h]; rfl
  · subst h; rw [ordI_self]; rfl
  · rw [ordI_gt h, ordI_lt h]
theorem ordI_scale {c : Int} (hc : 0 < c) (l r : Int) : ordI (l * c) (r * c) = ordI l r := by
  rcases Int.lt_trichotomy l r with h | h | h
  · rw [ordI_lt h, ordI_lt (Int.mul_lt_mul_of_pos_right h hc)]
  · subst h; rw [ordI_self, ordI_self]
  · rw [ordI_gt h, ordI_gt (Int.mul_lt_mul_of_pos_right h hc)]
theorem ordI_sub (l r : Int) : ordI (l - r) 0 = ordI l r := by
  rcases Int.lt_trichotomy l r with h | h | h
  · rw [ordI_lt h, ordI_lt (by omega)]
  · subst h; rw [ordI_self, Int.sub_self, ordI_self]
  · rw [ordI_gt h, ordI_gt (by omega)]
theorem rG_gt {t b : Int} (hb : 0 < b) : 0 < rG t b := by
  have := rG_pos (t := t) (b := b) (by omega)
  unfold rG
  rw [gcdL_pair, if_neg (by omega)]
  omega
/-- the order of two made fractions is that of what they are made of -/
theorem ord_made {t b u v : Int} (hb : 0 < b) (hv : 0 < v) : ordI (rT t b * rB u v) (rT u v * rB t b) = ordI (t * v) (u * b) := by
  have g1 := rG_gt (t := t) hb
  have g2 := rG_gt (t := u) hv
  have e1 := rT_mul (t := t) (b := b) (by omega)
  have e2 := rB_mul (t := t) (b := b) (by omega)
  have e3 := rT_mul (t := u) (b := v) (by omega)
  have e4 := rB_mul (t := u) (b := v) (by omega)
  generalize rT t b = p at *
  generalize rB t b = q at *
  generalize rT u v = p' at *
  generalize rB u v = q' at *
  generalize rG t b = g at *
  generalize rG u v = g' at *
  have hg : 0 < g * g' := Int.mul_pos g1 g2
  have a1 : t * v = (p * q') * (g * g') := by rw [← e1, ← e4]; simp only [Int.mul_assoc, Int.mul_left_comm, Int.mul_comm]
  have a2 : u * b = (p' * q) * (g * g') := by rw [← e3, ← e2]; simp only [Int.mul_assoc, Int.mul_left_comm, Int.mul_comm]
  rw [a1, a2, ordI_scale hg]
theorem sign_made {t b : Int} (hb : 0 < b) : ordI (rT t b) 0 = ordI t 0 := by
  have g1 := rG_gt (t := t) hb
  have e1 := rT_mul (t := t) (b := b) (by omega)
  have := ordI_scale g1 (rT t b) 0
  rw [e1, Int.zero_mul] at this
  exact this.symm
theorem rG_one (t : Int) : rG t 1 = 1 := by
  unfold rG
  rw [gcdL_pair, if_neg (by decide), Int.gcd_one_right]; rfl
theorem rT_one (t : Int) : rT t 1 = t := by
  unfold rT; rw [rG_one, Int.fdiv_one]
theorem rB_one (t : Int) : rB t 1 = 1 := by
  unfold rB; rw [rG_one]; rfl
theorem fdiv_two {p q : Int} (hq : 0 < q) : p.fdiv q * q ≤ p ∧ p < (p.fdiv q + 1) * q := by
  have h1 := Int.mul_fdiv_add_fmod p q
  have h2 := Int.fmod_nonneg_of_pos p hq
  have h3 := Int.fmod_lt_of_pos p hq
  rw [Int.add_mul, Int.one_mul, Int.mul_comm (p.fdiv q) q]
  omega
theorem fdiv_abs {p q : Int} (hq : 0 < q) : (p.fdiv q).natAbs ≤ p.natAbs := by
  obtain ⟨h1, h2⟩ := fdiv_two (p := p) hq
  generalize p.fdiv q = l at *
  by_cases hl : 0 ≤ l
  · have := Int.mul_le_mul_of_nonneg_left (show 1 ≤ q by omega) hl
    rw [Int.mul_one] at this
    omega
  · have := Int.mul_le_mul_of_nonneg_left (show 1 ≤ q by omega) (show 0 ≤ -(l + 1) by omega)
    rw [Int.mul_one, Int.neg_mul] at this
    omega
/-- the floor of a made fraction, told by what it is made of -/
theorem floor_made {t b : Int} (hb : 0 < b) : (rT t b).fdiv (rB t b) * b ≤ t ∧ t < ((rT t b).fdiv (rB t b) + 1) * b := by
  have g1 := rG_gt (t := t) hb
  have e1 := rT_mul (t := t) (b := b) (by omega)
  have e2 := rB_mul (t := t) (b := b) (by omega)
  obtain ⟨h1, h2⟩ := fdiv_two (p := rT t b) (rB_pos (t := t) (b := b) (by omega))
  generalize (rT t b).fdiv (rB t b) = l at *
  generalize rT t b = p at *
  generalize rB t b = q at *
  generalize rG t b = g at *
  have a1 := Int.mul_le_mul_of_nonneg_right h1 (show 0 ≤ g by omega)
  have a2 := Int.mul_lt_mul_of_pos_right h2 g1
  rw [Int.mul_assoc, e2, e1] at a1 a2
  exact ⟨a1, a2⟩
end RB
namespace RB
open PySem PySem.Spec PyProof.Rows L2
theorem r_strI {i : Int} {H : Hp} {Q : VK} (h : i.natAbs.log2 < 1920) (q : Q (.str (toString i)) H) : rStrInt [.int i] H Q := ⟨i, rfl, h, q⟩
theorem r_addS {i j : Str} {H : Hp} {Q : VK} (h : i.length + j.length ≤ sizeLine) (q : Q (.str (i ++ j)) H) : rAddS (.str i) (.str j) H Q := ⟨i, j, rfl, rfl, h, q⟩
theorem rG_low {t b : Int} (hb : 0 < b) (h : Int.gcd t b = 1) : rG t b = 1 := by
  unfold rG
  rw [gcdL_pair, if_neg (by omega), h]; rfl
theorem rT_low {t b : Int} (hb : 0 < b) (h : Int.gcd t b = 1) : rT t b = t := by
  unfold rT; rw [rG_low hb h, Int.fdiv_one]
theorem rB_low {t b : Int} (hb : 0 < b) (h : Int.gcd t b = 1) : rB t b = b := by
  unfold rB; rw [rG_low hb h, Int.fdiv_one]
/-- a fraction's text -/
def textR (t b : Int) : Str := if b = 1 then (toString t : String) else Str.ofString (toString t) ++ "/" ++ Str.ofString (toString b)
theorem text_len {i : Int} (h : i.natAbs.log2 < 1920) : (Str.ofString (toString i)).length ≤ 1921 := PyProof.Rows.int_text_len_1921 h
theorem cat_len (a b : Str) : (a ++ b).length = a.length + b.length := by
  show (a.cps ++ b.cps).size = _
  rw [Array.size_append]; rfl
theorem log_lt {i : Int} {n : Nat} (h0 : 0 < n) (h9 : n ≤ 1920) (h : i.natAbs < 2 ^ n) : i.natAbs.log2 < 1920 := Nat.lt_of_lt_of_le (PySem.Flt.log2_lt_of h0 h) h9
end RB
namespace RB
theorem cross_made {X Y T B : Int} (hY : Y ≠ 0) (h : X * B = T * Y) : rT X Y * B = T * rB X Y := by
  have h1 := rT_mul (t := X) hY
  have h2 := rB_mul (t := X) hY
  have hg := rG_ne (t := X) hY
  generalize rT X Y = p at *
  generalize rB X Y = q at *
  generalize rG X Y = g at *
  apply Int.eq_of_mul_eq_mul_right hg
  rw [Int.mul_assoc, Int.mul_comm B g, ← Int.mul_assoc, h1, h, Int.mul_assoc, h2]
theorem plus_cross {p q p' q' a b c d : Int} (h1 : p * b = a * q) (h2 : p' * d = c * q') : (p * q' + p' * q) * (b * d) = (a * d + c * b) * (q * q') := by grind
theorem minus_cross {p q p' q' a b c d : Int} (h1 : p * b = a * q) (h2 : p' * d = c * q') : (p * q' - p' * q) * (b * d) = (a * d - c * b) * (q * q') := by grind
theorem times_cross {p q p' q' a b c d : Int} (h1 : p * b = a * q) (h2 : p' * d = c * q') : (p * p') * (b * d) = (a * c) * (q * q') := by grind
theorem over_cross {p q p' q' a b c d : Int} (h1 : p * b = a * q) (h2 : p' * d = c * q') : (p * q') * (b * c) = (a * d) * (q * p') := by grind
theorem rT_zero (b : Int) : rT 0 b = 0 := by
  unfold rT; exact Int.zero_fdiv _
end RB

set_option linter.all false
set_option maxRecDepth 100000
/-! Own errors: raised without an argument, caught, asked with isinstance. -/
namespace RB
open PySem PySem.Spec PyProof.Rows L2
open Evl (Ex rLenS rListS rMax2 tCut pss_cut)
/-- X() of an own exception class -/
theorem pmk_own0 {X : Cx} {C : Addr} {bmB : List Value} {B newId initId : String} {x : Str} {p pos : Pos} (F : ExcBaseFacts B newId initId bmB) (q : PySem.W.excIn X.K C bmB newId = true) (gC : X.mg x = some (.ref C)) (kC : PySem.W.keepIn X.K (.ref C) = true) (r : Raises X (.ref C)) (hg : Gl X x)
    (hdb : (x == ("__debug__" : Str)) = false := by decide) : PMk X (.Call (.Name x p) [] [] pos) (fun _ H Q => Q (.ref C) none H) := by
  intro pins s σ H Q I h
  refine wpAny_Call_Name_kw (ld_glob I hg gC ?_ hdb)
  refine PySem.W.callWith_K0 (first := []) I.kIn kC ?_
  show wpAny _ _ (call (.ref C) []) _ _ _
  obtain ⟨bm, N, nm, qn, bs, hdct, sn, sub, ab, col, dd, k0, k1, k2, k3, k5, mN, hC, hN, hni, T⟩ := exc_obj I.kIn q
  refine wpAny_call_exc_subT F T hC hN hni (fun h' e hm => ?_) (by show 0 ≤ sizeLine; omega)
  exact mk_of I hm r h (I.hok.gone hm.new)
/-- what a law needs of an own error class that has no __init__ -/
structure OwnE (K : PySem.W.Frag) (mg : Str → Option Value) (nm : Str) (C : Addr) : Prop where
  g : mg nm = some (.ref C)
  x : PySem.W.excIn K C [.type "ValueError", .type "Exception", .type "BaseException", .type "object"] "ValueError.__new__" = true
  k : PySem.W.keepIn K (.ref C) = true
  b : PySem.W.subIn K (.ref C) (.type "BaseException") = some true
  t : PySem.W.typeIn K (.ref C) = some (.type "type")
def tRz (C : Addr) (E : XK) : TS := fun _ _ H => E (.ref C) none H
theorem ps_rz {X : Cx} {W : WX} {C : Addr} {x : Str} {p pos pos2 : Pos} (T : OwnE X.K X.mg x C) (hc : X.calm = true) (tk : Takes X W) (hg : Gl X x) (hdb : (x == ("__debug__" : Str)) = false := by decide) : PS X (.Raise (some (.Call (.Name x p) [] [] pos)) none pos2) (fun _ σ H => W (.ref C) none σ H) :=
  ps_raise hc tk (pmk_own0 PySem.F.excBase_ValueError T.x T.g T.k (raises_own T.b T.t) hg hdb)
theorem r_rz {C : Addr} {E : XK} {D : Ends} {σ : L2.St} {H : Hp} (h : E (.ref C) none H) : tRz C E D σ H := h
/-- isinstance of a caught error -/
def rIsX (K : PySem.W.Frag) (a : Addr) (cls : Value) (d : Option Addr) : List V → Hp → VK → Prop := fun xs H Q => ∃ D : Addr, cls = .ref D ∧ d = none ∧ ExcC K D ∧ rIsE K D a xs H Q
theorem call_isX {X : Cx} {a : Addr} {cls : Value} {d : Option Addr} {oe : Obj} {pn : List (Addr × Obj)} (hz : Zc cls d oe) (hf : ∃ vs, oe.data = .fields vs) : CallR (X.suite a ((a, oe) :: pn)) (.builtin "isinstance") (rIsX X.K a cls d) := by
  intro pins s σ H xs us Q I r h
  obtain ⟨D, rfl, rfl, C, h⟩ := h
  exact call_isE C hz hf pins s σ H xs us Q I r h
theorem r_isX {K : PySem.W.Frag} {a D : Addr} {c : V} {cv : Value} {b : Bool} {H : Hp} {Q : VK} (C : ExcC K D) (hk : PySem.W.kitOne K (.ref D) cv = some b) (hc : ∀ u, RelV c u → u = cv) (q : Q (.bl b) H) : rIsX K a (.ref D) none [.ref a, c] H Q :=
  ⟨D, rfl, rfl, C, c, cv, b, rfl, hc, hk, q⟩
theorem rel_ref (D : Addr) : ∀ u, RelV (.ref D) u → u = .ref D := fun u h => h
theorem rel_ty (T : String) : ∀ u, RelV (.ty T) u → u = .type T := fun u h => h
theorem kit_ref {K : PySem.W.Frag} {C D : Addr} {b : Bool} (hd : PySem.W.hasDictIn K D = true) (ht : PySem.W.typeIn K (.ref D) = some (.type "type")) (hs : PySem.W.subIn K (.ref D) (.ref D) = some true) (h : PySem.W.subIn K (.ref C) (.ref D) = some b) : PySem.W.kitOne K (.ref C) (.ref D) = some b := by
  obtain ⟨cd, hc, _⟩ := PySem.W.any_some hd
  have e2 : ((PySem.W.clsIn K D).isSome && PySem.W.typeIn K (.ref D) == some (.type "type")) = true := by rw [hc, ht] <;> rfl
  unfold PySem.W.kitOne
  by_cases e : (Value.ref C == Value.ref D) = true
  · rw [if_pos e]
    have e' : C = D := Value.ref.inj (beq_iff_eq.mp e)
    subst e'
    rw [hs] at h
    exact h
  · rw [if_neg e]
    show (if ((PySem.W.clsIn K D).isSome && PySem.W.typeIn K (.ref D) == some (.type "type")) = true then PySem.W.subIn K (.ref C) (.ref D) else none) = some b
    rw [if_pos e2]
    exact h
theorem kit_ve {K : PySem.W.Frag} {C : Addr} (h : PySem.W.subIn K (.ref C) (.type "ValueError") = some true) : PySem.W.kitOne K (.ref C) (.type "ValueError") = some true := by
  unfold PySem.W.kitOne
  rw [if_neg (fun h => by have := beq_iff_eq.mp h; cases this)]
  show (if PySem.W.kitMeta "ValueError" = true then PySem.W.subIn K (.ref C) (.type "ValueError") else none) = some true
  rw [if_pos (by decide +kernel)]
  exact h
/-- try: .. except x as n: .. -/
def tTryAs (K : PySem.W.Frag) (c : Value) (i : Nat) (tb : WX → TS) (ts : Addr → Value → Option Addr → TS) : TS := fun D σ H => tb (wAs K c i ts (fun _ _ _ _ => False) D) D σ H
theorem r_tryAs {K : PySem.W.Frag} {c : Value} {i : Nat} {tb : WX → TS} {ts : Addr → Value → Option Addr → TS} {D : Ends} {σ : L2.St} {H : Hp} (h : tb (wAs K c i ts (fun _ _ _ _ => False) D) D σ H) : tTryAs K c i tb ts D σ H := h
/-- the clause takes it -/
theorem w_as {K : PySem.W.Frag} {c cls : Value} {i : Nat} {ts : Addr → Value → Option Addr → TS} {Wout : WX} {D : Ends} {d : Option Addr} {σ : L2.St} {H : Hp} (hm : PySem.W.exmOne K cls c = some true)
    (h : ∀ a, H a = none → ts a cls d { nx := fun σ' H' => D.nx (σ'.set i none) H', rt := D.rt, bk := fun σ' H' => D.bk (σ'.set i none) H', ct := fun σ' H' => D.ct (σ'.set i none) H' } (σ.set i (some (.ref a))) H) : wAs K c i ts Wout D cls d σ H :=
  ⟨true, hm, fun _ => h, fun z => by cases z⟩
theorem w_as_not {K : PySem.W.Frag} {c cls : Value} {i : Nat} {ts : Addr → Value → Option Addr → TS} {Wout : WX} {D : Ends} {d : Option Addr} {σ : L2.St} {H : Hp} (hm : PySem.W.exmOne K cls c = some false) (h : Wout cls d σ H) : wAs K c i ts Wout D cls d σ H :=
  ⟨false, hm, fun z => (by cases z), fun _ => h⟩
def tTryOnly (K : PySem.W.Frag) (c : Value) (tb : WX → TS) (ts : Addr → Value → Option Addr → TS) : TS := fun D σ H => tb (wOnly K c ts (fun _ _ _ _ => False) D) D σ H
theorem r_tryOnly {K : PySem.W.Frag} {c : Value} {tb : WX → TS} {ts : Addr → Value → Option Addr → TS} {D : Ends} {σ : L2.St} {H : Hp} (h : tb (wOnly K c ts (fun _ _ _ _ => False) D) D σ H) : tTryOnly K c tb ts D σ H := h
theorem w_only {K : PySem.W.Frag} {c cls : Value} {ts : Addr → Value → Option Addr → TS} {Wout : WX} {D : Ends} {d : Option Addr} {σ : L2.St} {H : Hp} (hm : PySem.W.exmOne K cls c = some true) (h : ∀ a, H a = none → ts a cls d D σ H) : wOnly K c ts Wout D cls d σ H :=
  ⟨true, hm, fun _ => h, fun z => by cases z⟩
theorem r_callS {sp : Sp} {E : L2.St → XK} {ta : TA} {σ : L2.St} {H : Hp} {Q : VK} (h : ta σ H fun vs H1 => sp vs H1 Q (E σ)) : tCallS sp E ta σ H Q := h
end RB

set_option linter.all false
set_option maxRecDepth 100000
/-! Methods and makings inside a try: what they let out may ask of the slots. -/
namespace RB
open PySem PySem.Spec PyProof.Rows L2
def tMethS (C : Addr) (m : Str) (sp : Sp) (E : L2.St → XK) (ta : TE) (t : TA) : TE := fun τ G Q => ta τ G fun y G1 => ∃ a dx fs, y = .ref a ∧ G1 a = some (.ins C dx fs) ∧ fs.lookup m = none ∧ t τ G1 fun ws G2 => sp (y :: ws) G2 Q (E τ)
def tMakeS (C : Addr) (sp : Sp) (E : L2.St → XK) (t : TA) : TE := fun τ G Q => t τ G fun ws G1 => ∀ x dx, G1 x = none → G1 dx = none → dx ≠ x → sp (.ref x :: ws) (upd (upd G1 dx (.own x)) x (.ins C dx [])) (fun v G2 => v = .non ∧ Q (.ref x) G2) (E τ)
section
variable {X : Cx} {CX : CXT} {k : Nat} {g C : Addr} {fd : FuncData} {ps : List Str} {sp : Sp} {E : L2.St → XK} {x m : Str} {np cp ap : Pos} {a o : Expr} {as : List Expr} {to : TE} {t : TA}
theorem pe_methS {pl : Sem Bool} (ho : PE X o to) (c : Cls X.K C) (hm : Meth X.K C m g) (F : FnOk X.prog X.w X.K X.mg X.base CX k g fd ps sp) (hr : Room k X.A) (hb : Binds X.K fd ps []) (hx : ∀ τ, PassesAt CX X τ (E τ)) (ha : PA X (a :: as) t)
    (h1 : starEach (a :: as) X.env = (false, eval a X.env) :: starEach as X.env := by rfl) (h2 : (backTo cp (starEach as X.env)).any (·.1) = false := by rfl)
    (h3 : eval (.Call (.Attribute o m ap) (a :: as) [] cp) X.env = (do
      let recv ← eval o X.env
      standAt ap.atName
      let (callee, pre) ← holding [recv] (getMethod recv m pl)
      callWith cp callee pre (backTo cp (starEach (a :: as) X.env)) (backToKw cp (keywordEach [] X.env))) := by rfl) :
    PE X (.Call (.Attribute o m ap) (a :: as) [] cp) (tMethS C m sp E to t) := by
  constructor
  intro pins s τ G Q I h
  refine PySem.W.methodCall_KW (pl := pl) (thn (ho.run pins s τ G _ I h) ?_) h3
  rintro u s1 ⟨y, G1, I1, ry, b, dx, fs, rfl, eb, l, q⟩
  cases (show u = Value.ref b from ry)
  apply getmeth_ok I1 eb c hm l
  refine PySem.W.callWith_K (first := [.ref b]) (h₀ := X.base) I.ok.mod.kin hm.kp (thn (ha.run cp pins s1 τ G1 _ I1 q) ?_) h1 h2
  rintro us s2 ⟨ws, G2, I2, rw_, q2⟩
  exact ⟨I2.kIn, run_fnS (us := .ref b :: us) (vs := .ref b :: ws) F hr hb (hx τ) I2 (.cons rfl rw_) q2⟩
theorem pe_makeS (M : Mk X.K C g) (F : FnOk X.prog X.w X.K X.mg X.base CX k g fd ps sp) (hr : Room (k + 1) X.A) (hg : Gl X x) (hm : X.mg x = some (.ref C)) (hb : Binds X.K fd ps []) (hx : ∀ τ, PassesAt CX X τ (E τ)) (ha : PA X (a :: as) t)
    (hdb : (x == ("__debug__" : Str)) = false := by decide) (h1 : starEach (a :: as) X.env = (false, eval a X.env) :: starEach as X.env := by rfl) (h2 : (backTo cp (starEach as X.env)).any (·.1) = false := by rfl) :
    PE X (.Call (.Name x np) (a :: as) [] cp) (tMakeS C sp E t) := by
  constructor
  intro pins s τ G Q I h
  apply wpAny_Call_Name_kw
  refine ld_glob I hg hm ?_ hdb
  refine PySem.W.callWith_K (h₀ := X.base) I.ok.mod.kin M.kp (thn (ha.run cp pins s τ G _ I h) ?_) h1 h2
  rintro us s1 ⟨ws, G1, I1, rw_, q⟩
  refine ⟨I1.kIn, ?_⟩
  show wpAny _ _ (call (.ref C) us) _ _ _
  have z := I1.hok.fresh (a := s1.heap.objs.size) (Nat.le_refl _)
  have z1 := I1.hok.fresh (a := s1.heap.objs.size + 1) (Nat.le_succ _)
  have q1 := q _ _ z1 z (Nat.ne_of_lt (Nat.lt_succ_self _))
  have I2 := Inv.made (C := C) I1
  have rr : Vals (V.ref (s1.heap.objs.size + 1) :: ws) (Value.ref (s1.heap.objs.size + 1) :: us) := .cons rfl rw_
  have len : ((Value.ref (s1.heap.objs.size + 1) :: us) ++ []).length = ps.length := by
    rw [List.append_nil, ← rr.length]
    exact F.len _ _ _ _ q1
  have bd := hb _ (Value.ref (s1.heap.objs.size + 1) :: us) I2.kIn len
  rw [List.append_nil] at bd
  apply wpAny_call
  refine make_map (f := g) I1.kIn M.makes M.init (beq_iff_eq.mp M.fn) (codeAny_mono (F.run _ X.stack _ _ ⟨Value.ref (s1.heap.objs.size + 1) :: us, []⟩ (Value.ref (s1.heap.objs.size + 1) :: us) _ _ (E τ) (hr.make C us []) (I2.env0.make C us []) bd rr q1) ?_)
  intro r s2 hq
  cases r with
  | error e => exact hx τ pins _ _ e s2 I2 hq
  | ok fl =>
    cases fl with
    | ret u =>
      obtain ⟨v, G3, I3, rv, rfl, q3⟩ := I2.after hq
      exact ⟨rv, V.ref (s1.heap.objs.size + 1), G3, I3, rfl, q3⟩
    | next => exact hq.elim
    | brk => exact hq.elim
    | cont => exact hq.elim
end
def MethKS (C : Addr) (m : Str) (sp : Sp) (E : L2.St → XK) (t : TA) (σ : L2.St) (Q : VK) : V → Hp → Prop := fun x H1 => ∃ a dx fs, x = .ref a ∧ H1 a = some (.ins C dx fs) ∧ fs.lookup m = none ∧ t σ H1 fun vs H2 => sp (x :: vs) H2 Q (E σ)
theorem r_methS {C : Addr} {m : Str} {sp : Sp} {E : L2.St → XK} {ta : TE} {t : TA} {σ : L2.St} {H : Hp} {Q : VK} (h : ta σ H (MethKS C m sp E t σ Q)) : tMethS C m sp E ta t σ H Q := h
theorem r_methRS {C : Addr} {m : Str} {sp : Sp} {E : L2.St → XK} {ta : TA} {σ : L2.St} {Q : VK} {H : Hp} {a : Addr} {t b : Int} (h : IsR C H a t b) (h1 : (m == ("top" : Str)) = false) (h2 : (m == ("bottom" : Str)) = false) (q : ta σ H fun vs H2 => sp (.ref a :: vs) H2 Q (E σ)) : MethKS C m sp E ta σ Q (.ref a) H := by
  obtain ⟨dx, h⟩ := h
  exact ⟨a, dx, _, rfl, h, rF_none t b h1 h2, q⟩
def MakeKS (C : Addr) (sp : Sp) (E : XK) (Q : VK) : List V → Hp → Prop := fun vs H1 => ∀ x dx, H1 x = none → H1 dx = none → dx ≠ x → sp (.ref x :: vs) (upd (upd H1 dx (.own x)) x (.ins C dx [])) (fun v H2 => v = .non ∧ Q (.ref x) H2) E
theorem r_makeS {C : Addr} {sp : Sp} {E : L2.St → XK} {ta : TA} {σ : L2.St} {H : Hp} {Q : VK} (h : ta σ H (MakeKS C sp (E σ) Q)) : tMakeS C sp E ta σ H Q := h
end RB

set_option linter.all false
set_option maxRecDepth 100000
/-! a, b, .. = a list. -/
namespace RB
open PySem PySem.Spec PyProof.Rows L2
open PyProof
section
variable {prog : Program} {w : World} {A : Around} {E : Value → Shared → Prop}
theorem drawn {it l : Addr} {xs : Array Value} (apart : l ≠ it) : ∀ (n i : Nat) (s : Shared) (Q : List Value → Shared → Prop), s.heap.IsListIter it l i → s.heap.IsList l xs → i + n ≤ xs.size →
    (∀ g, g.IsListIter it l (i + n) → Heap.SameBut it s.heap g → Q ((xs.toList.drop i).take n) { s with heap := g }) → wpAny (model prog w) A (draw (.ref it) n) Q E s
  | 0, i, s, Q, h1, _, _, k => by
    show wpAny _ _ (pure []) Q E s
    apply wpAny_pure
    have := k s.heap h1 (Heap.SameBut.refl ..)
    rwa [List.take_zero] at this
  | n + 1, i, s, Q, h1, h2, hle, k => by
    have lt : i < xs.size := by omega
    show wpAny _ _ (pyNext (.ref it) >>= _) Q E s
    apply wpAny_bind
    refine wpAny_pyNext_list_item h1 h2 (x := xs[i]) (by simp [lt]) fun g g1 gs => ?_
    apply wpAny_bind
    apply wpAny_holding
    refine drawn apart n (i + 1) _ _ g1 (h2.extBut gs.extBut apart) (by omega) fun g' g1' gs' => wpAny_pure ?_
    have e : xs.toList.drop i = xs[i] :: xs.toList.drop (i + 1) := by simp [List.drop_eq_getElem_cons, lt]
    have r := k g' (by rw [show i + (n + 1) = i + 1 + n by omega]; exact g1') (gs.trans gs')
    rw [e, List.take_succ_cons] at r
    exact r
theorem unpacked {s : Shared} {l : Addr} {xs : Array Value} {ts : List (Bool × (Value → Sem Unit))} {Q : Unit → Shared → Prop} (calm : A.handled = none) (hl : s.heap.IsList l xs) (hn : ts.length = xs.size) (hst : ts.findIdx? (·.1) = none)
    (k : ∀ g, Heap.ExtBut s.heap.objs.size s.heap g → wpAny (model prog w) A (assignInOrder (ts.map (·.2)) xs.toList) Q E { s with heap := g }) : wpAny (model prog w) A (unpack (.ref l) ts) Q E s := by
  have apart : l ≠ s.heap.objs.size := by
    obtain ⟨o, ho, _⟩ := hl
    exact Nat.ne_of_lt (Heap.lt_size ho)
  unfold unpack
  rw [hn, hst]
  apply wpAny_bind
  apply wpAny_holding
  unfold unpackItems
  apply wpAny_bind
  unfold notIterableAtAll
  apply wpAny_bind
  refine wpAny_specialOf hl.typeIs slot_list_iter.lookup ?_
  apply wpAny_pure
  simp only [Bool.false_eq_true, if_false]
  apply wpAny_bind
  apply wpAny_holding
  apply wpAny_pyIter_list hl
  apply wpAny_bind
  apply wpAny_holding
  refine drawn apart xs.size 0 _ _ ⟨_, Heap.get?_push_size _ rfl, rfl, rfl⟩ (hl.push _) (by omega) fun g g1 gs => ?_
  have all_ : List.take xs.size (List.drop 0 xs.toList) = xs.toList := by
    rw [List.drop_zero]
    exact List.take_of_length_le (by simp)
  rw [all_, if_neg (by simp)]
  apply wpAny_bind
  apply wpAny_holding
  refine wpAny_pyNext_list_end calm g1 ((hl.push _).extBut gs.extBut apart) (by simp) fun g' ge => ?_
  simp only [Option.isSome_none, Bool.false_eq_true, if_false]
  exact wpAny_pure (k g' fun b o hb e => ge b o hb (gs.extBut b o hb (Heap.get?_push_of_some _ e)))
end
/-- (a, b, ..) = a list of that length -/
def gTupL (K : PySem.W.Frag) (n : Nat) (t : TGs) : TG := fun v σ H Q => ∃ a xs, v = .ref a ∧ SqL K H a xs ∧ xs.length = n ∧ t xs σ H Q
theorem pg_tupL {X : Cx} {es : List Expr} {k : Nat} {t : TGs} {n : Nat} {pos : Pos} (hc : X.calm = true) (h : PGs X es t)
    (hn : (assignEach es X.env).length = n := by rfl) (hst : (assignEach es X.env).findIdx? (·.1) = none := by rfl) : PG X (.Tuple es k pos) (gTupL X.K n t) := by
  constructor
  intro pins s σ H v u Q I r hw
  obtain ⟨a, xs, rfl, hq, hl, hw⟩ := hw
  cases r
  obtain ⟨its, rv, pl, hz⟩ := I.list hq
  rw [assign_Tuple]
  apply wpAny_bind
  apply wpAny_standAt
  refine unpacked (I.ok.hd hc) pl.isList (by simp [hn, ← hl, rv.length]) hst fun g hx => ?_
  have J : Inv X pins σ H { s with heap := g } := I.kept (t' := s.toks) fun b o e => hx b o (Nat.ne_of_lt (Heap.lt_size e)) e
  exact h.run pins _ σ H xs _ Q J (by simpa using rv) hw
end RB
namespace RB
open PySem PySem.Spec PyProof.Rows L2
open Evl (Ex)
section
variable {K : PySem.W.Frag} {σ : L2.St} {H : Hp} {te : TE} {Q : VK} {g : TG}
theorem r_cTupA {a : Addr} {xs : List V} {tt : TT} {vs : List Nat} (h : SqT K H a xs) (q : Lc (Itt K a) g tt te vs σ H Q) : ∃ a', V.ref a = .ref a' ∧ (∃ xs, SqT K H a' xs) ∧ Lc (Itt K a') g tt te vs σ H Q := ⟨a, rfl, ⟨xs, h⟩, q⟩
/-- over a tuple of ints, each giving an int -/
theorem lc_intsT {a : Addr} {ns : List Int} {j : Nat} (f : Int → Int) (hx : H a = some (.tup (ns.map V.int))) (hz : ns.length < 1000000)
    (he : ∀ x, x ∈ ns → ∀ H1, Ex H H1 → ∀ Q' : VK, (∀ H2, Ex H1 H2 → Q' (.int (f x)) H2) → te (σ.set j (some (.int x))) H1 Q')
    (q : ∀ p H', H p = none → Ex H H' → H' p = some (.lst ((ns.map f).map V.int)) → Q (.ref p) H') : Lc (Itt K a) (gName j) tYes te [j] σ H Q := fun D hD =>
  lc_tup (xs := ns.map V.int) (fun i H' => Ex H H' ∧ H' D = some (.lst (((ns.take i).map f).map V.int))) ⟨Evl.Ex.new hD, upd_same⟩ (fun i H' _ p => .inl (.inl (p.1 _ _ hx)))
    (fun i x H' hi p => ⟨by show ((σ.set j none).set j (some x)).set j none = σ.set j none; rw [set_set, set_set], by
      show te ((σ.set j none).set j (some x)) H' _
      rw [set_set]
      rw [List.getElem?_map] at hi
      obtain ⟨n, hn, rfl⟩ := Option.map_eq_some_iff.mp hi
      refine he n (List.mem_of_getElem? hn) H' p.1 _ fun H2 e2 => ⟨_, e2 D _ p.2, ?_, (Evl.Ex.mut (p.1.trans e2) hD), ?_⟩
      · rw [List.length_map, List.length_map, List.length_take]; exact small_lt (by omega)
      · rw [upd_same, List.take_add_one, hn, List.map_append, List.map_append]; rfl⟩)
    (fun H' p => q D H' hD p.1 (by
      rw [List.length_map, List.take_length] at p
      exact p.2))
end
theorem r_gtupL {K : PySem.W.Frag} {n : Nat} {t : TGs} {a : Addr} {xs : List V} {σ : L2.St} {H : Hp} {Q : L2.St → Hp → Prop} (h : SqL K H a xs) (hn : xs.length = n) (q : t xs σ H Q) : gTupL K n t (.ref a) σ H Q := ⟨a, xs, rfl, h, hn, q⟩
theorem r_gcons {t : TG} {u : TGs} {v : V} {r : List V} {σ : L2.St} {H : Hp} {Q : L2.St → Hp → Prop} (h : t v σ H fun σ' H' => u r σ' H' Q) : gCons t u (v :: r) σ H Q := ⟨v, r, rfl, h⟩
theorem r_gnil {σ : L2.St} {H : Hp} {Q : L2.St → Hp → Prop} (h : Q σ H) : gNil [] σ H Q := ⟨rfl, h⟩
end RB

set_option linter.all false
set_option maxRecDepth 100000
set_option maxHeartbeats 4000000
set_option exponentiation.threshold 100000
namespace RP
open PySem PySem.Spec PyProof.Rows L2 RB
open Evl (Ex rLenS rListS rMax2 tCut pss_cut)
local macro_rules | `(tactic| walk_at "ir") => `(tactic| first
  | assumption
  | exact IsR.ex (by assumption) (by walk_at "ir"))
local macro_rules | `(tactic| walk_at "hp") => `(tactic| first
  | assumption
  | exact hx_e (by assumption) (by walk_at "hp")
  | exact hx_b (by assumption) (by walk_at "ne") (by walk_at "hp"))
local macro_rules | `(tactic| walk_at "ne") => `(tactic| first
  | assumption
  | exact Ne.symm (by assumption)
  | exact ne_1 (by assumption) (by walk_at "hp")
  | exact ne_2 (by assumption) (by walk_at "hp"))
local macro_rules | `(tactic| walk_at "sq") => `(tactic| first
  | assumption
  | exact Fx.l (by assumption) (by assumption)
  | exact Evl.Ex.l (by assumption) (by assumption)
  | exact SqL.inj (by walk_at "hp"))
local macro_rules | `(tactic| walk_at "rd") => `(tactic| repeat (first
  | with_reducible refine r_seq ?_
  | with_reducible refine r_asg ?_
  | with_reducible refine r_gn ?_
  | ((with_reducible refine' r_var ?h ?_); (case h => exact rfl))
  | with_reducible refine r_c ?_
  | with_reducible refine r_op ?_
  | with_reducible refine r_un ?_
  | with_reducible refine r_add ?_
  | with_reducible refine r_sub ?_
  | ((with_reducible refine' r_pow ?h ?_); (case h => exact ⟨by decide, by decide, by decide⟩))
  | ((with_reducible refine' r_mod ?h ?_); (case h => first | decide | omega))
  | ((with_reducible refine' r_div ?h ?_); (case h => exact ⟨by decide, by decide⟩))
  | with_reducible refine r_lc ?_
  | ((with_reducible refine' r_cListA ?h ?_); (case h => walk_at "sq"))
  | with_reducible refine r_lt ?_
  | with_reducible refine r_le ?_
  | with_reducible refine r_gt ?_
  | with_reducible refine r_ge ?_
  | with_reducible refine r_eqI ?_
  | with_reducible refine r_neI ?_
  | with_reducible refine r_eqB ?_
  | with_reducible refine r_eqS ?_
  | with_reducible refine r_neg ?_
  | with_reducible refine r_ret ?_
  | with_reducible refine r_ifS ?_
  | with_reducible refine r_test ?_
  | with_reducible refine r_B ?_
  | with_reducible refine r_bl ?_
  | with_reducible refine r_int ?_
  | with_reducible refine r_cb ?_
  | with_reducible refine r_cons ?_
  | with_reducible refine r_nil ?_
  | with_reducible refine r_abs ?_
  | with_reducible refine r_max2 ?_
  | with_reducible refine r_min2 ?_
  | ((with_reducible refine' r_lenI ?h ?_); (case h => walk_at "sq"))
  | ((with_reducible refine' r_len ?h ?_); (case h => walk_at "sq"))
  | with_reducible refine r_tru ?_
  | with_reducible refine r_rev ?_
  | with_reducible refine r_iRng3 ?_
  | ((with_reducible refine' r_ixL ?h ?a ?_); (case h => walk_at "sq"); (case a => assumption))
  | ((with_reducible refine' r_ixT ?h ?a ?_); (case h => walk_at "sq"); (case a => assumption))
  | with_reducible refine r_intI ?_
  | with_reducible refine r_intB ?_
  | with_reducible refine r_call ?_
  | with_reducible refine r_lst ?_
  | with_reducible refine r_tup ?_
  | with_reducible refine r_drop ?_
  | with_reducible refine r_and ?_
  | with_reducible refine r_or ?_
  | with_reducible refine r_not ?_
  | with_reducible refine r_andV ?_
  | with_reducible refine r_orV ?_
  | with_reducible refine r_notV ?_
  | with_reducible refine r_if ?_
  | with_reducible refine r_bm ?_
  | with_reducible refine r_bm0 ?_
  | with_reducible refine r_sub_ ?_
  | with_reducible refine r_sl ?_
  | with_reducible refine r_part ?_
  | with_reducible refine r_nopart ?_
  | with_reducible refine r_par ?_
  | with_reducible refine r_par2 ?_
  | with_reducible refine r_for ?_
  | with_reducible refine r_iList ?_
  | ((with_reducible refine' r_iListA ?h ?_); (case h => walk_at "sq"))
  | with_reducible refine r_iTup ?_
  | ((with_reducible refine' r_iTupA ?h ?_); (case h => walk_at "sq"))
  | with_reducible refine r_iRng1 ?_
  | with_reducible refine r_iRng2 ?_
  | with_reducible refine r_iRev ?_
  | ((with_reducible refine' r_iRevA ?h ?_); (case h => walk_at "sq"))
  | with_reducible refine r_iEnum ?_
  | ((with_reducible refine' r_iEnumA ?h ?_); (case h => walk_at "sq"))
  | with_reducible refine r_iRevR ?_
  | with_reducible refine r_rg1 ?_
  | with_reducible refine r_make ?_
  | with_reducible refine r_fld ?_
  | with_reducible refine r_sfld ?_
  | with_reducible refine r_meth ?_
  | ((with_reducible refine' r_top ?c ?n ?h ?_); (case c => assumption); (case n => assumption); (case h => walk_at "ir"))
  | ((with_reducible refine' r_bottom ?c ?n ?h ?_); (case c => assumption); (case n => assumption); (case h => walk_at "ir"))
  | ((with_reducible refine' r_methR ?h ?h1 ?h2 ?_); (case h => walk_at "ir"); (case h1 => decide +kernel); (case h2 => decide +kernel))
  | with_reducible refine r_next ?_
  | ((with_reducible refine' r_ty ?h ?_); (case h => exact tyL (by walk_at "hp")))
  | with_reducible refine i_t ?_
  | with_reducible refine i_f ?_
  | with_reducible refine i_nt ?_
  | with_reducible refine i_nf ?_
  | walk_at "call"))
structure ExT (K : PySem.W.Frag) (Cof : String → Addr) : Prop where
  v_RootError : PySem.W.kitOne K (.ref (Cof "RootError")) (.type "ValueError") = some true
  c_RootError : ExcC K (Cof "RootError")
  m_RootError_RootError : PySem.W.exmOne K (.ref (Cof "RootError")) (.ref (Cof "RootError")) = some true
  i_RootError_RootError : PySem.W.kitOne K (.ref (Cof "RootError")) (.ref (Cof "RootError")) = some true
  m_RootError_NoRatio : PySem.W.exmOne K (.ref (Cof "RootError")) (.ref (Cof "NoRatio")) = some false
  i_RootError_NoRatio : PySem.W.kitOne K (.ref (Cof "RootError")) (.ref (Cof "NoRatio")) = some false
  m_RootError_ByNought : PySem.W.exmOne K (.ref (Cof "RootError")) (.ref (Cof "ByNought")) = some false
  i_RootError_ByNought : PySem.W.kitOne K (.ref (Cof "RootError")) (.ref (Cof "ByNought")) = some false
  v_NoRatio : PySem.W.kitOne K (.ref (Cof "NoRatio")) (.type "ValueError") = some true
  c_NoRatio : ExcC K (Cof "NoRatio")
  m_NoRatio_RootError : PySem.W.exmOne K (.ref (Cof "NoRatio")) (.ref (Cof "RootError")) = some true
  i_NoRatio_RootError : PySem.W.kitOne K (.ref (Cof "NoRatio")) (.ref (Cof "RootError")) = some true
  m_NoRatio_NoRatio : PySem.W.exmOne K (.ref (Cof "NoRatio")) (.ref (Cof "NoRatio")) = some true
  i_NoRatio_NoRatio : PySem.W.kitOne K (.ref (Cof "NoRatio")) (.ref (Cof "NoRatio")) = some true
  m_NoRatio_ByNought : PySem.W.exmOne K (.ref (Cof "NoRatio")) (.ref (Cof "ByNought")) = some false
  i_NoRatio_ByNought : PySem.W.kitOne K (.ref (Cof "NoRatio")) (.ref (Cof "ByNought")) = some false
  v_ByNought : PySem.W.kitOne K (.ref (Cof "ByNought")) (.type "ValueError") = some true
  c_ByNought : ExcC K (Cof "ByNought")
  m_ByNought_RootError : PySem.W.exmOne K (.ref (Cof "ByNought")) (.ref (Cof "RootError")) = some true
  i_ByNought_RootError : PySem.W.kitOne K (.ref (Cof "ByNought")) (.ref (Cof "RootError")) = some true
  m_ByNought_NoRatio : PySem.W.exmOne K (.ref (Cof "ByNought")) (.ref (Cof "NoRatio")) = some false
  i_ByNought_NoRatio : PySem.W.kitOne K (.ref (Cof "ByNought")) (.ref (Cof "NoRatio")) = some false
  m_ByNought_ByNought : PySem.W.exmOne K (.ref (Cof "ByNought")) (.ref (Cof "ByNought")) = some true
  i_ByNought_ByNought : PySem.W.kitOne K (.ref (Cof "ByNought")) (.ref (Cof "ByNought")) = some true
  cl_Ratio : Cls K (Cof "Ratio")
  is_Ratio : InsC K (Cof "Ratio")
  n_Ratio_bottom : NoAttr K (Cof "Ratio") "bottom"
  n_Ratio_top : NoAttr K (Cof "Ratio") "top"

/-! #### shared -/
--USE MG
def sp_shared (K : PySem.W.Frag) (Cof : String → Addr) : Sp := fun vs H Q _ => ∃ (a : Addr) (ns : List Int), vs = [.ref a] ∧ SqL K H a (ns.map V.int) ∧ Q (.int (MG.gcdL ns)) H
def t_shared (K : PySem.W.Frag) (Cof : String → Addr) (E : XK) : TS :=
  tSeq (tAsg (tC (.int 0)) (gName 1))
  (tSeq (tFor (iList K (tVar 0)) (gName 2) (tWhile (tTest (tOp rNe (tVar 2) (tC (.int 0)))) (tSeq (tAsg (tOp rMod (tVar 1) (tVar 2)) (gName 3))
  (tSeq (tAsg (tVar 2) (gName 1))
  (tAsg (tVar 3) (gName 2))))))
  (tRet (tCB rAbs (tCons (tVar 1) (tNil)))))

section
variable {K : PySem.W.Frag} {Cof : String → Addr} {vs : List V} {H : Hp} {Q : VK} {E : XK}
theorem len_shared (h : sp_shared K Cof vs H Q E) : vs.length = 1 := by
  obtain ⟨a, ns, rfl, _⟩ := h; rfl
theorem rd_shared (h : sp_shared K Cof vs H Q E) : t_shared K Cof E { nx := fun _ H' => Q .non H', rt := Q } (start ["row", "found", "one", "rest"] vs) H := by
  obtain ⟨a, ns, rfl, hS, q⟩ := h
  unfold t_shared
  walk_at "rd"
  refine loop_ints (ns := ns) (fun i σ' H' => ∃ (f : Int) (u r : Option V), σ' = [some (.ref a), some (.int f), u, r] ∧ H' = H ∧ f.natAbs = MG.gcdN (ns.take i)) ⟨0, none, none, rfl, rfl, rfl⟩ (fun i σ' H' _ hp => ?_) (fun i x σ' H' hx hp => ?_) (fun σ' H' hp => ?_)
  · obtain ⟨f, u, r, rfl, rfl, _⟩ := hp; exact hS
  · obtain ⟨f, u, r, rfl, rfl, hf⟩ := hp
    refine r_while (fun m σ2 H2 => ∃ (f o : Int) (r : Option V), σ2 = [some (.ref a), some (.int f), some (.int o), r] ∧ H2 = H' ∧ m = o.natAbs ∧ Int.gcd f o = MG.gcdN (ns.take (i + 1))) x.natAbs ⟨f, x, r, rfl, rfl, rfl, ?_⟩ (fun m σ2 H2 hw => ?_)
    · rw [MG.gcdN_take hx, ← hf]; rfl
    · obtain ⟨f, o, r, rfl, rfl, rfl, hg⟩ := hw
      walk_at "rd"
      refine ite_nd (fun h => wh_in ?_) (fun h => ?_)
      · walk_at "rd"
        exact ⟨_, MG.fmod_lt h, o, f.fmod o, _, rfl, rfl, rfl, by rw [MG.gcd_fmod]; exact hg⟩
      · refine ⟨f, _, _, rfl, rfl, ?_⟩
        rw [← hg, h, Int.gcd_zero_right]
  · obtain ⟨f, u, r, rfl, rfl, hf⟩ := hp
    walk_at "rd"
    rw [List.take_length] at hf
    have e : (if f < 0 then -f else f) = MG.gcdL ns := by
      unfold MG.gcdL
      rw [← hf]
      split <;> omega
    rw [e]
    exact q
end
theorem c_shared {K : PySem.W.Frag} {Cof : String → Addr} {H : Hp} {Q : VK} {E : XK} {a : Addr} {ns : List Int} (h : SqL K H a (ns.map V.int)) (q : Q (.int (MG.gcdL ns)) H) : sp_shared K Cof [.ref a] H Q E := ⟨a, ns, rfl, h, q⟩
local macro_rules | `(tactic| walk_at "call") => `(tactic| ((with_reducible refine' c_shared ?h ?_); (case h => walk_at "sq")))

/-! #### Ratio.__init__ -/
--USE RC
def sp_Ratio___init__ (K : PySem.W.Frag) (Cof : String → Addr) : Sp := fun vs H Q _ => ∃ (x dx : Addr) (t b : Int) (n : Nat), vs = [.ref x, .int t, .int b] ∧ H x = some (.ins (Cof "Ratio") dx []) ∧ b ≠ 0 ∧ (b.natAbs < 2 ^ n ∧ 0 < n ∧ n ≤ 9000) ∧ ∀ H', Exb x H H' → H' x = some (.ins (Cof "Ratio") dx (rF (rT t b) (rB t b))) → Q .non H'
def t_Ratio___init__ (K : PySem.W.Frag) (Cof : String → Addr) (E : XK) : TS :=
  tSeq (tIfS (tTest (tOp rEq (tVar 2) (tC (.int 0)))) (tNever) (tNext))
  (tSeq (tAsg (tCall (sp_shared K Cof) [] E0 (tCons (tLst (tCons (tVar 1) (tCons (tVar 2) (tNil)))) (tNil))) (gName 3))
  (tCut (tIfS (tTest (tOp rLt (tVar 2) (tC (.int 0)))) (tAsg (tUn rNeg (tVar 3)) (gName 3)) (tNext))
  (tSeq (sFld K (tVar 0) (tOp rDiv (tVar 1) (tVar 3)) "top")
  (sFld K (tVar 0) (tOp rDiv (tVar 2) (tVar 3)) "bottom"))))

section
variable {K : PySem.W.Frag} {Cof : String → Addr} {vs : List V} {H : Hp} {Q : VK} {E : XK}
theorem len_Ratio___init__ (h : sp_Ratio___init__ K Cof vs H Q E) : vs.length = 3 := by
  obtain ⟨x, dx, t, b, n, rfl, _⟩ := h; rfl
theorem rd_Ratio___init__ (X : ExT K Cof) (h : sp_Ratio___init__ K Cof vs H Q E) : t_Ratio___init__ K Cof E { nx := fun _ H' => Q .non H', rt := Q } (start ["self", "top", "bottom", "part"] vs) H := by
  obtain ⟨x, dx, t, b, n, rfl, hx, hb, ⟨bn, n0, n9⟩, q⟩ := h
  unfold t_Ratio___init__
  walk_at "rd"
  refine ite_d (fun h => absurd h hb) (fun _ => ?_)
  walk_at "rd"
  refine r_lstK fun p1 H1 hp1 e1 h1 => ?_
  walk_at "rd"
  refine c_shared (ns := [t, b]) (SqL.inj h1) ?_
  walk_at "rd"
  refine ⟨fun σ' H' => σ' = [some (.ref x), some (.int t), some (.int b), some (.int (rG t b))] ∧ H' = H1, ?_, fun σ' H' hM => ?_⟩
  · walk_at "rd"
    unfold rG
    refine ite_d (fun h => ?_) (fun h => ?_)
    · walk_at "rd"
      rw [if_pos h]
      exact ⟨rfl, rfl⟩
    · walk_at "rd"
      rw [if_neg h]
      exact ⟨rfl, rfl⟩
  obtain ⟨rfl, rfl⟩ := hM
  have hd : CDivA t (rG t b) := ⟨rG_ne hb, Nat.lt_of_lt_of_le (rG_log hb n0 bn) n9⟩
  walk_at "rd"
  refine r_div hd ?_
  walk_at "rd"
  refine ⟨x, Cof "Ratio", dx, [], rfl, e1 _ _ hx, X.cl_Ratio, X.n_Ratio_top, (by show 0 < 1000; decide), ?_⟩
  walk_at "rd"
  refine r_div hd ?_
  walk_at "rd"
  refine ⟨x, Cof "Ratio", dx, _, rfl, upd_same, X.cl_Ratio, X.n_Ratio_bottom, (by show 1 < 1000; decide), ?_⟩
  refine q _ (fun a n o h => ?_) ?_
  · rw [upd_ne n, upd_ne n]
    exact e1 _ _ h
  · rw [upd_same]
    rfl
end
theorem c_Ratio {K : PySem.W.Frag} {Cof : String → Addr} {H : Hp} {Q : VK} {E : XK} {t b : Int} (n : Nat) (hb : b ≠ 0) (bn : b.natAbs < 2 ^ n) (n0 : 0 < n) (n9 : n ≤ 9000) (q : RetR (Cof "Ratio") (rT t b) (rB t b) H Q) : MakeK (Cof "Ratio") (sp_Ratio___init__ K Cof) [] E Q [.int t, .int b] H := fun x dx hx hdx hne =>
  ⟨x, dx, t, b, n, rfl, upd_same, hb, ⟨bn, n0, n9⟩, fun H' e h => ⟨rfl, q x H' hx (fun a o ha => e a (ne_of_none ha hx) o (by
    rw [upd_ne (ne_of_none ha hx), upd_ne (ne_of_none ha hdx)]
    exact ha)) ⟨dx, h⟩⟩⟩
theorem c_Ratio1 {K : PySem.W.Frag} {Cof : String → Addr} {H : Hp} {Q : VK} {E : XK} {t : Int} (q : RetR (Cof "Ratio") (rT t 1) (rB t 1) H Q) : MakeK (Cof "Ratio") (sp_Ratio___init__ K Cof) [.int 1] E Q [.int t] H := fun x dx hx hdx hne =>
  ⟨x, dx, t, 1, 1, rfl, upd_same, by decide, ⟨by decide, by decide, by decide⟩, fun H' e h => ⟨rfl, q x H' hx (fun a o ha => e a (ne_of_none ha hx) o (by
    rw [upd_ne (ne_of_none ha hx), upd_ne (ne_of_none ha hdx)]
    exact ha)) ⟨dx, h⟩⟩⟩
/-- two fractions that a deed can take -/
structure RSz (n : Nat) (t b u v : Int) : Prop where
  st : t.natAbs < 2 ^ n
  sb : b.natAbs < 2 ^ n
  su : u.natAbs < 2 ^ n
  sv : v.natAbs < 2 ^ n
  n0 : 0 < n
  n9 : n ≤ 4400
  b0 : b ≠ 0
  v0 : v ≠ 0

/-! #### Ratio.plus -/
def sp_Ratio_plus (K : PySem.W.Frag) (Cof : String → Addr) : Sp := fun vs H Q _ => ∃ (a c : Addr) (t b u v : Int) (n : Nat), vs = [.ref a, .ref c] ∧ IsR (Cof "Ratio") H a t b ∧ IsR (Cof "Ratio") H c u v ∧ RSz n t b u v ∧ RetR (Cof "Ratio") (rT (t * v + u * b) (b * v)) (rB (t * v + u * b) (b * v)) H Q
def t_Ratio_plus (K : PySem.W.Frag) (Cof : String → Addr) (E : XK) : TS :=
  tRet (tMake (Cof "Ratio") (sp_Ratio___init__ K Cof) [] E0 (tCons (tOp rIAdd (tOp rMul (tFld K (tVar 0) "top") (tFld K (tVar 1) "bottom")) (tOp rMul (tFld K (tVar 1) "top") (tFld K (tVar 0) "bottom"))) (tCons (tOp rMul (tFld K (tVar 0) "bottom") (tFld K (tVar 1) "bottom")) (tNil))))

section
variable {K : PySem.W.Frag} {Cof : String → Addr} {vs : List V} {H : Hp} {Q : VK} {E : XK}
theorem len_Ratio_plus (h : sp_Ratio_plus K Cof vs H Q E) : vs.length = 2 := by
  obtain ⟨a, c, t, b, u, v, n, rfl, _⟩ := h; rfl
theorem rd_Ratio_plus (X : ExT K Cof) (h : sp_Ratio_plus K Cof vs H Q E) : t_Ratio_plus K Cof E { nx := fun _ H' => Q .non H', rt := Q } (start ["self", "other"] vs) H := by
  obtain ⟨a, c, t, b, u, v, n, rfl, hA, hC, s, q⟩ := h
  have cl := X.cl_Ratio
  have nt := X.n_Ratio_top
  have nb := X.n_Ratio_bottom
  have n0 := s.n0
  have n9 := s.n9
  unfold t_Ratio_plus
  walk_at "rd"
  refine r_mul (wide_mul s.st s.sv n0 n0 (by omega)) ?_
  walk_at "rd"
  refine r_mul (wide_mul s.su s.sb n0 n0 (by omega)) ?_
  walk_at "rd"
  refine r_mul (wide_mul s.sb s.sv n0 n0 (by omega)) ?_
  walk_at "rd"
  exact c_Ratio (n + n) (Int.mul_ne_zero s.b0 s.v0) (wide_lt s.sb s.sv) (by omega) (by omega) q
theorem c_Ratio_plus {a c : Addr} {t b u v : Int} (n : Nat) (hA : IsR (Cof "Ratio") H a t b) (hC : IsR (Cof "Ratio") H c u v) (s : RSz n t b u v) (q : RetR (Cof "Ratio") (rT (t * v + u * b) (b * v)) (rB (t * v + u * b) (b * v)) H Q) : sp_Ratio_plus K Cof [.ref a, .ref c] H Q E := ⟨a, c, t, b, u, v, n, rfl, hA, hC, s, q⟩
end

/-! #### Ratio.minus -/
def sp_Ratio_minus (K : PySem.W.Frag) (Cof : String → Addr) : Sp := fun vs H Q _ => ∃ (a c : Addr) (t b u v : Int) (n : Nat), vs = [.ref a, .ref c] ∧ IsR (Cof "Ratio") H a t b ∧ IsR (Cof "Ratio") H c u v ∧ RSz n t b u v ∧ RetR (Cof "Ratio") (rT (t * v - u * b) (b * v)) (rB (t * v - u * b) (b * v)) H Q
def t_Ratio_minus (K : PySem.W.Frag) (Cof : String → Addr) (E : XK) : TS :=
  tRet (tMake (Cof "Ratio") (sp_Ratio___init__ K Cof) [] E0 (tCons (tOp rISub (tOp rMul (tFld K (tVar 0) "top") (tFld K (tVar 1) "bottom")) (tOp rMul (tFld K (tVar 1) "top") (tFld K (tVar 0) "bottom"))) (tCons (tOp rMul (tFld K (tVar 0) "bottom") (tFld K (tVar 1) "bottom")) (tNil))))

section
variable {K : PySem.W.Frag} {Cof : String → Addr} {vs : List V} {H : Hp} {Q : VK} {E : XK}
theorem len_Ratio_minus (h : sp_Ratio_minus K Cof vs H Q E) : vs.length = 2 := by
  obtain ⟨a, c, t, b, u, v, n, rfl, _⟩ := h; rfl
theorem rd_Ratio_minus (X : ExT K Cof) (h : sp_Ratio_minus K Cof vs H Q E) : t_Ratio_minus K Cof E { nx := fun _ H' => Q .non H', rt := Q } (start ["self", "other"] vs) H := by
  obtain ⟨a, c, t, b, u, v, n, rfl, hA, hC, s, q⟩ := h
  have cl := X.cl_Ratio
  have nt := X.n_Ratio_top
  have nb := X.n_Ratio_bottom
  have n0 := s.n0
  have n9 := s.n9
  unfold t_Ratio_minus
  walk_at "rd"
  refine r_mul (wide_mul s.st s.sv n0 n0 (by omega)) ?_
  walk_at "rd"
  refine r_mul (wide_mul s.su s.sb n0 n0 (by omega)) ?_
  walk_at "rd"
  refine r_mul (wide_mul s.sb s.sv n0 n0 (by omega)) ?_
  walk_at "rd"
  exact c_Ratio (n + n) (Int.mul_ne_zero s.b0 s.v0) (wide_lt s.sb s.sv) (by omega) (by omega) q
theorem c_Ratio_minus {a c : Addr} {t b u v : Int} (n : Nat) (hA : IsR (Cof "Ratio") H a t b) (hC : IsR (Cof "Ratio") H c u v) (s : RSz n t b u v) (q : RetR (Cof "Ratio") (rT (t * v - u * b) (b * v)) (rB (t * v - u * b) (b * v)) H Q) : sp_Ratio_minus K Cof [.ref a, .ref c] H Q E := ⟨a, c, t, b, u, v, n, rfl, hA, hC, s, q⟩
end

/-! #### Ratio.times -/
def sp_Ratio_times (K : PySem.W.Frag) (Cof : String → Addr) : Sp := fun vs H Q _ => ∃ (a c : Addr) (t b u v : Int) (n : Nat), vs = [.ref a, .ref c] ∧ IsR (Cof "Ratio") H a t b ∧ IsR (Cof "Ratio") H c u v ∧ RSz n t b u v ∧ RetR (Cof "Ratio") (rT (t * u) (b * v)) (rB (t * u) (b * v)) H Q
def t_Ratio_times (K : PySem.W.Frag) (Cof : String → Addr) (E : XK) : TS :=
  tRet (tMake (Cof "Ratio") (sp_Ratio___init__ K Cof) [] E0 (tCons (tOp rMul (tFld K (tVar 0) "top") (tFld K (tVar 1) "top")) (tCons (tOp rMul (tFld K (tVar 0) "bottom") (tFld K (tVar 1) "bottom")) (tNil))))

section
variable {K : PySem.W.Frag} {Cof : String → Addr} {vs : List V} {H : Hp} {Q : VK} {E : XK}
theorem len_Ratio_times (h : sp_Ratio_times K Cof vs H Q E) : vs.length = 2 := by
  obtain ⟨a, c, t, b, u, v, n, rfl, _⟩ := h; rfl
theorem rd_Ratio_times (X : ExT K Cof) (h : sp_Ratio_times K Cof vs H Q E) : t_Ratio_times K Cof E { nx := fun _ H' => Q .non H', rt := Q } (start ["self", "other"] vs) H := by
  obtain ⟨a, c, t, b, u, v, n, rfl, hA, hC, s, q⟩ := h
  have cl := X.cl_Ratio
  have nt := X.n_Ratio_top
  have nb := X.n_Ratio_bottom
  have n0 := s.n0
  have n9 := s.n9
  unfold t_Ratio_times
  walk_at "rd"
  refine r_mul (wide_mul s.st s.su n0 n0 (by omega)) ?_
  walk_at "rd"
  refine r_mul (wide_mul s.sb s.sv n0 n0 (by omega)) ?_
  walk_at "rd"
  exact c_Ratio (n + n) (Int.mul_ne_zero s.b0 s.v0) (wide_lt s.sb s.sv) (by omega) (by omega) q
theorem c_Ratio_times {a c : Addr} {t b u v : Int} (n : Nat) (hA : IsR (Cof "Ratio") H a t b) (hC : IsR (Cof "Ratio") H c u v) (s : RSz n t b u v) (q : RetR (Cof "Ratio") (rT (t * u) (b * v)) (rB (t * u) (b * v)) H Q) : sp_Ratio_times K Cof [.ref a, .ref c] H Q E := ⟨a, c, t, b, u, v, n, rfl, hA, hC, s, q⟩
end

/-! #### Ratio.over -/
--USE MF
def sq_Ratio_over (K : PySem.W.Frag) (Cof : String → Addr) : Sp := fun vs H Q _ => ∃ (a c : Addr) (t b u v : Int) (n : Nat), vs = [.ref a, .ref c] ∧ IsR (Cof "Ratio") H a t b ∧ IsR (Cof "Ratio") H c u v ∧ RSz n t b u v ∧ u ≠ 0 ∧ RetR (Cof "Ratio") (rT (t * v) (b * u)) (rB (t * v) (b * u)) H Q
def t_Ratio_over (K : PySem.W.Frag) (Cof : String → Addr) (E : XK) : TS :=
  tSeq (tIfS (tTest (tOp rEq (tFld K (tVar 1) "top") (tC (.int 0)))) (tRz (Cof "ByNought") E) (tNext))
  (tRet (tMake (Cof "Ratio") (sp_Ratio___init__ K Cof) [] E0 (tCons (tOp rMul (tFld K (tVar 0) "top") (tFld K (tVar 1) "bottom")) (tCons (tOp rMul (tFld K (tVar 0) "bottom") (tFld K (tVar 1) "top")) (tNil)))))

section
variable {K : PySem.W.Frag} {Cof : String → Addr} {vs : List V} {H : Hp} {Q : VK} {E : XK}
theorem lq_Ratio_over (h : sq_Ratio_over K Cof vs H Q E) : vs.length = 2 := by
  obtain ⟨a, c, t, b, u, v, n, rfl, _⟩ := h; rfl
theorem rq_Ratio_over (X : ExT K Cof) (h : sq_Ratio_over K Cof vs H Q E) : t_Ratio_over K Cof E { nx := fun _ H' => Q .non H', rt := Q } (start ["self", "other"] vs) H := by
  obtain ⟨a, c, t, b, u, v, n, rfl, hA, hC, s, u0, q⟩ := h
  have cl := X.cl_Ratio
  have nt := X.n_Ratio_top
  have nb := X.n_Ratio_bottom
  have n0 := s.n0
  have n9 := s.n9
  unfold t_Ratio_over
  walk_at "rd"
  refine ite_d (fun h => absurd h u0) (fun _ => ?_)
  walk_at "rd"
  refine r_mul (wide_mul s.st s.sv n0 n0 (by omega)) ?_
  walk_at "rd"
  refine r_mul (wide_mul s.sb s.su n0 n0 (by omega)) ?_
  walk_at "rd"
  exact c_Ratio (n + n) (Int.mul_ne_zero s.b0 u0) (wide_lt s.sb s.su) (by omega) (by omega) q
theorem cq_Ratio_over {a c : Addr} {t b u v : Int} (n : Nat) (hA : IsR (Cof "Ratio") H a t b) (hC : IsR (Cof "Ratio") H c u v) (s : RSz n t b u v) (u0 : u ≠ 0) (q : RetR (Cof "Ratio") (rT (t * v) (b * u)) (rB (t * v) (b * u)) H Q) : sq_Ratio_over K Cof [.ref a, .ref c] H Q E := ⟨a, c, t, b, u, v, n, rfl, hA, hC, s, u0, q⟩
end

def sp_Ratio_over (K : PySem.W.Frag) (Cof : String → Addr) : Sp := fun vs H Q E => sq_Ratio_over K Cof vs H Q E ∨ ∃ (a c : Addr) (v : Int), vs = [.ref a, .ref c] ∧ IsR (Cof "Ratio") H c 0 v ∧ E (.ref (Cof "ByNought")) none H
section
variable {K : PySem.W.Frag} {Cof : String → Addr} {vs : List V} {H : Hp} {Q : VK} {E : XK}
theorem len_Ratio_over (h : sp_Ratio_over K Cof vs H Q E) : vs.length = 2 := by
  rcases h with h | ⟨a, c, v, rfl, _⟩
  · exact lq_Ratio_over h
  · rfl
theorem rd_Ratio_over (X : ExT K Cof) (h : sp_Ratio_over K Cof vs H Q E) : t_Ratio_over K Cof E { nx := fun _ H' => Q .non H', rt := Q } (start ["self", "other"] vs) H := by
  rcases h with h | ⟨a, c, v, rfl, hC, q⟩
  · exact rq_Ratio_over X h
  have cl := X.cl_Ratio
  have nt := X.n_Ratio_top
  unfold t_Ratio_over
  walk_at "rd"
  refine iteD rfl ?_
  exact r_rz q
theorem c_Ratio_over {a c : Addr} {t b u v : Int} (n : Nat) (hA : IsR (Cof "Ratio") H a t b) (hC : IsR (Cof "Ratio") H c u v) (s : RSz n t b u v) (u0 : u ≠ 0) (q : RetR (Cof "Ratio") (rT (t * v) (b * u)) (rB (t * v) (b * u)) H Q) : sp_Ratio_over K Cof [.ref a, .ref c] H Q E := .inl (cq_Ratio_over n hA hC s u0 q)
theorem c_Ratio_over0 {a c : Addr} {v : Int} (hC : IsR (Cof "Ratio") H c 0 v) (q : E (.ref (Cof "ByNought")) none H) : sp_Ratio_over K Cof [.ref a, .ref c] H Q E := .inr ⟨a, c, v, rfl, hC, q⟩
end

/-! #### _law_cell -/
/-- the k-th cell, 0 beyond the last one -/
def cellOf (ns : List Int) (k : Int) : Int := ns.getD k.toNat 0
def sp__law_cell (K : PySem.W.Frag) (Cof : String → Addr) : Sp := fun vs H Q _ => ∃ (a : Addr) (ns : List Int) (k : Int), vs = [.ref a, .int k] ∧ SqL K H a (ns.map V.int) ∧ 0 ≤ k ∧ Q (.int (cellOf ns k)) H
def t__law_cell (K : PySem.W.Frag) (Cof : String → Addr) (E : XK) : TS :=
  tSeq (tIfS (tTest (tOp rLt (tVar 1) (tCB (rLenS K) (tCons (tVar 0) (tNil))))) (tRet (tOp (rIxL K) (tVar 0) (tVar 1))) (tNext))
  (tRet (tC (.int 0)))

section
variable {K : PySem.W.Frag} {Cof : String → Addr} {vs : List V} {H : Hp} {Q : VK} {E : XK}
theorem len__law_cell (h : sp__law_cell K Cof vs H Q E) : vs.length = 2 := by
  obtain ⟨a, ns, k, rfl, _⟩ := h; rfl
theorem rd__law_cell (h : sp__law_cell K Cof vs H Q E) : t__law_cell K Cof E { nx := fun _ H' => Q .non H', rt := Q } (start ["_law_script", "_law_k"] vs) H := by
  obtain ⟨a, ns, k, rfl, hS, h0, q⟩ := h
  obtain ⟨k, rfl⟩ : ∃ n : Nat, k = (n : Int) := ⟨k.toNat, by omega⟩
  unfold t__law_cell
  walk_at "rd"
  try rw [List.length_map]
  refine ite_d (fun h => ?_) (fun h => ?_)
  · walk_at "rd"
    have hk : k < ns.length := by omega
    exact r_ixI hS h0 h q
  · walk_at "rd"
    have e : cellOf ns k = 0 := by
      unfold cellOf
      rw [List.getD_eq_getElem?_getD, List.getElem?_eq_none (by omega)]; rfl
    rw [e] at q
    exact q
theorem c__law_cell {a : Addr} {ns : List Int} {k : Int} (h : SqL K H a (ns.map V.int)) (h0 : 0 ≤ k) (q : Q (.int (cellOf ns k)) H) : sp__law_cell K Cof [.ref a, .int k] H Q E := ⟨a, ns, k, rfl, h, h0, q⟩
end
local macro_rules | `(tactic| walk_at "call") => `(tactic| ((with_reducible refine' c__law_cell ?h ?h0 ?_); (case h => walk_at "sq"); (case h0 => first | decide | omega)))

/-! #### _law_whole -/
def sp__law_whole (K : PySem.W.Frag) (Cof : String → Addr) : Sp := fun vs H Q _ => ∃ i : Int, vs = [.int i] ∧ Q (.bl true) H
def t__law_whole (K : PySem.W.Frag) (Cof : String → Addr) (E : XK) : TS :=
  tRet (tAndV (tCB (rIsi K) (tCons (tVar 0) (tCons (tC (.ty "int")) (tNil)))) (tNotV (tCB (rIsi K) (tCons (tVar 0) (tCons (tC (.ty "bool")) (tNil))))))

section
variable {K : PySem.W.Frag} {Cof : String → Addr} {vs : List V} {H : Hp} {Q : VK} {E : XK}
theorem len__law_whole (h : sp__law_whole K Cof vs H Q E) : vs.length = 1 := by
  obtain ⟨i, rfl, _⟩ := h; rfl
theorem rd__law_whole (h : sp__law_whole K Cof vs H Q E) : t__law_whole K Cof E { nx := fun _ H' => Q .non H', rt := Q } (start ["_law_found"] vs) H := by
  obtain ⟨i, rfl, q⟩ := h
  unfold t__law_whole
  walk_at "rd"
  refine r_isi (.base (.int i)) (.ty _) (kit_ty (r := true) (by decide +kernel)) ?_
  walk_at "rd"
  refine r_isi (.base (.int i)) (.ty _) (kit_ty (r := false) (by decide +kernel)) ?_
  walk_at "rd"
  exact q
end
theorem c__law_whole {K : PySem.W.Frag} {Cof : String → Addr} {H : Hp} {Q : VK} {E : XK} {i : Int} (q : Q (.bl true) H) : sp__law_whole K Cof [.int i] H Q E := ⟨i, rfl, q⟩
local macro_rules | `(tactic| walk_at "call") => `(tactic| with_reducible refine c__law_whole ?_)

/-! #### _law_signed -/
/-- a number from -s to s -/
def sgn (c s : Int) : Int := c.fmod (2 * s + 1) - s
theorem sgn_ge {c s : Int} (h : 0 ≤ s) : -s ≤ sgn c s := by
  have := Int.fmod_nonneg_of_pos c (show 0 < 2 * s + 1 by omega)
  unfold sgn; omega
theorem sgn_le {c s : Int} (h : 0 ≤ s) : sgn c s ≤ s := by
  have := Int.fmod_lt_of_pos c (show 0 < 2 * s + 1 by omega)
  unfold sgn; omega
theorem sgn_abs {c s : Int} {n : Nat} (h : 0 ≤ s) (hs : s.natAbs < 2 ^ n) : (sgn c s).natAbs < 2 ^ n := by
  have h1 := sgn_ge (c := c) h
  have h2 := sgn_le (c := c) h
  generalize 2 ^ n = m at hs ⊢
  omega
def sp__law_signed (K : PySem.W.Frag) (Cof : String → Addr) : Sp := fun vs H Q _ => ∃ c s : Int, vs = [.int c, .int s] ∧ 0 ≤ s ∧ s.natAbs < 2 ^ 4000 ∧ Q (.int (sgn c s)) H
def t__law_signed (K : PySem.W.Frag) (Cof : String → Addr) (E : XK) : TS :=
  tRet (tOp rISub (tOp rMod (tVar 0) (tOp rIAdd (tOp rMul (tC (.int 2)) (tVar 1)) (tC (.int 1)))) (tVar 1))

section
variable {K : PySem.W.Frag} {Cof : String → Addr} {vs : List V} {H : Hp} {Q : VK} {E : XK}
theorem len__law_signed (h : sp__law_signed K Cof vs H Q E) : vs.length = 2 := by
  obtain ⟨c, s, rfl, _⟩ := h; rfl
theorem rd__law_signed (h : sp__law_signed K Cof vs H Q E) : t__law_signed K Cof E { nx := fun _ H' => Q .non H', rt := Q } (start ["_law_cell_here", "_law_size"] vs) H := by
  obtain ⟨c, s, rfl, h0, hs, q⟩ := h
  unfold t__law_signed
  walk_at "rd"
  refine r_mul (wide_mul (a := 2) (by decide) hs (by decide) (by decide) (by decide)) ?_
  walk_at "rd"
  exact q
end
theorem c__law_signed {K : PySem.W.Frag} {Cof : String → Addr} {H : Hp} {Q : VK} {E : XK} {c s : Int} (h0 : 0 ≤ s) (h1 : s.natAbs < 2 ^ 4000) (q : Q (.int (sgn c s)) H) : sp__law_signed K Cof [.int c, .int s] H Q E := ⟨c, s, rfl, h0, h1, q⟩

/-! #### _law_divisor -/
--USE MG
def sp__law_divisor (K : PySem.W.Frag) (Cof : String → Addr) : Sp := fun vs H Q _ => ∃ x y : Int, vs = [.int x, .int y] ∧ Q (.int (Int.gcd x y)) H
def t__law_divisor (K : PySem.W.Frag) (Cof : String → Addr) (E : XK) : TS :=
  tSeq (tWhile (tTest (tOp rNe (tVar 1) (tC (.int 0)))) (tSeq (tAsg (tOp rMod (tVar 0) (tVar 1)) (gName 2))
  (tSeq (tAsg (tVar 1) (gName 0))
  (tAsg (tVar 2) (gName 1)))))
  (tRet (tCB rAbs (tCons (tVar 0) (tNil))))

section
variable {K : PySem.W.Frag} {Cof : String → Addr} {vs : List V} {H : Hp} {Q : VK} {E : XK}
theorem len__law_divisor (h : sp__law_divisor K Cof vs H Q E) : vs.length = 2 := by
  obtain ⟨x, y, rfl, _⟩ := h; rfl
theorem rd__law_divisor (h : sp__law_divisor K Cof vs H Q E) : t__law_divisor K Cof E { nx := fun _ H' => Q .non H', rt := Q } (start ["_law_one", "_law_other", "_law_rest"] vs) H := by
  obtain ⟨x, y, rfl, q⟩ := h
  unfold t__law_divisor
  walk_at "rd"
  refine r_while (fun m σ2 H2 => ∃ (f o : Int) (r : Option V), σ2 = [some (.int f), some (.int o), r] ∧ H2 = H ∧ m = o.natAbs ∧ Int.gcd f o = Int.gcd x y) y.natAbs ⟨_, _, _, rfl, rfl, rfl, rfl⟩ (fun m σ2 H2 hw => ?_)
  obtain ⟨f, o, r, rfl, rfl, rfl, hg⟩ := hw
  walk_at "rd"
  refine ite_nd (fun h => wh_in ?_) (fun h => ?_)
  · walk_at "rd"
    exact ⟨_, MG.fmod_lt h, o, f.fmod o, _, rfl, rfl, rfl, by rw [MG.gcd_fmod]; exact hg⟩
  · walk_at "rd"
    rw [h, Int.gcd_zero_right] at hg
    have e : (if f < 0 then -f else f) = (Int.gcd x y : Int) := by
      rw [← hg]
      split <;> omega
    rw [e]
    exact q
theorem c__law_divisor {x y : Int} (q : Q (.int (Int.gcd x y)) H) : sp__law_divisor K Cof [.int x, .int y] H Q E := ⟨x, y, rfl, q⟩
end
local macro_rules | `(tactic| walk_at "call") => `(tactic| with_reducible refine c__law_divisor ?_)

/-! #### _law_is -/
--USE MF
def sp__law_is (K : PySem.W.Frag) (Cof : String → Addr) : Sp := fun vs H Q _ => ∃ (a : Addr) (p q t b : Int) (n : Nat), vs = [.ref a, .int t, .int b] ∧ IsR (Cof "Ratio") H a p q ∧ 0 < q ∧ Int.gcd p q = 1 ∧ p * b = t * q ∧ (p.natAbs < 2 ^ n ∧ q.natAbs < 2 ^ n ∧ t.natAbs < 2 ^ n ∧ b.natAbs < 2 ^ n ∧ 0 < n ∧ n ≤ 400000) ∧ Q (.bl true) H
def t__law_is (K : PySem.W.Frag) (Cof : String → Addr) (E : XK) : TS :=
  tSeq (tIfS (tNot (tB (tCB (rIsi K) (tCons (tVar 0) (tCons (tC (.ref (Cof "Ratio"))) (tNil)))))) (tRet (tC (.bl false))) (tNext))
  (tSeq (tIfS (tOr (tNot (tB (tCall (sp__law_whole K Cof) [] E0 (tCons (tFld K (tVar 0) "top") (tNil))))) (tOr (tNot (tB (tCall (sp__law_whole K Cof) [] E0 (tCons (tFld K (tVar 0) "bottom") (tNil))))) (tTest (tOp rLt (tFld K (tVar 0) "bottom") (tC (.int 1)))))) (tRet (tC (.bl false))) (tNext))
  (tSeq (tIfS (tTest (tOp rNe (tOp rMul (tFld K (tVar 0) "top") (tVar 2)) (tOp rMul (tVar 1) (tFld K (tVar 0) "bottom")))) (tRet (tC (.bl false))) (tNext))
  (tRet (tOp rEq (tCall (sp__law_divisor K Cof) [] E0 (tCons (tFld K (tVar 0) "top") (tCons (tFld K (tVar 0) "bottom") (tNil)))) (tC (.int 1))))))

section
variable {K : PySem.W.Frag} {Cof : String → Addr} {vs : List V} {H : Hp} {Q : VK} {E : XK}
theorem len__law_is (h : sp__law_is K Cof vs H Q E) : vs.length = 3 := by
  obtain ⟨a, p, q, t, b, n, rfl, _⟩ := h; rfl
theorem rd__law_is (X : ExT K Cof) (h : sp__law_is K Cof vs H Q E) : t__law_is K Cof E { nx := fun _ H' => Q .non H', rt := Q } (start ["_law_found", "_law_top", "_law_bottom"] vs) H := by
  obtain ⟨a, p, q, t, b, n, rfl, hA, q0, hg, hc, ⟨sp, sq, st, sb, n0, n9⟩, k⟩ := h
  have cl := X.cl_Ratio
  have nt := X.n_Ratio_top
  have nb := X.n_Ratio_bottom
  unfold t__law_is
  walk_at "rd"
  refine r_isR cl X.is_Ratio hA ?_
  walk_at "rd"
  refine ite_d (fun h => ?_) (fun _ => ?_)
  · exfalso; omega
  walk_at "rd"
  refine r_mul (wide_mul sp sb n0 n0 (by omega)) ?_
  walk_at "rd"
  refine r_mul (wide_mul st sq n0 n0 (by omega)) ?_
  walk_at "rd"
  refine ite_nd (fun h => absurd hc h) (fun _ => ?_)
  walk_at "rd"
  have e : decide ((Int.gcd p q : Int) = 1) = true := by
    rw [hg]; rfl
  rw [e]
  exact k
theorem c__law_is {a : Addr} {p q t b : Int} (n : Nat) (hA : IsR (Cof "Ratio") H a p q) (q0 : 0 < q) (hg : Int.gcd p q = 1) (hc : p * b = t * q) (hs : p.natAbs < 2 ^ n ∧ q.natAbs < 2 ^ n ∧ t.natAbs < 2 ^ n ∧ b.natAbs < 2 ^ n ∧ 0 < n ∧ n ≤ 400000) (k : Q (.bl true) H) : sp__law_is K Cof [.ref a, .int t, .int b] H Q E := ⟨a, p, q, t, b, n, rfl, hA, q0, hg, hc, hs, k⟩
/-- of a fraction as it is made -/
theorem c__law_isM {a : Addr} {t b : Int} (n : Nat) (hA : IsR (Cof "Ratio") H a (rT t b) (rB t b)) (hb : b ≠ 0) (st : t.natAbs < 2 ^ n) (sb : b.natAbs < 2 ^ n) (n0 : 0 < n) (n9 : n ≤ 400000) (k : Q (.bl true) H) : sp__law_is K Cof [.ref a, .int t, .int b] H Q E :=
  c__law_is n hA (rB_pos hb) (r_low hb) (r_cross hb) ⟨Nat.lt_of_le_of_lt (rT_abs hb) st, Nat.lt_of_le_of_lt (rB_abs hb) sb, st, sb, n0, n9⟩ k
end

/-! #### _law_over_nought -/
--USE RM
def sp__law_over_nought (K : PySem.W.Frag) (Cof : String → Addr) : Sp := fun vs H Q _ => ∃ (a c : Addr) (t b v : Int), vs = [.ref a, .ref c] ∧ IsR (Cof "Ratio") H a t b ∧ IsR (Cof "Ratio") H c 0 v ∧ Q (.bl true) H
def t__law_over_nought (K : PySem.W.Frag) (Cof : String → Addr) (E : XK) : TS :=
  tSeq (tAsg (tC (.bl false)) (gName 2))
  (tSeq (tTryAs K (.ref (Cof "RootError")) 3 (fun W => tDrop (tMethS (Cof "Ratio") "over" (sp_Ratio_over K Cof) (WE W) (tVar 0) (tCons (tVar 1) (tNil)))) (fun a cls d => tAsg (tAndV (tCB (rIsX K a cls d) (tCons (tVar 3) (tCons (tC (.ref (Cof "ByNought"))) (tNil)))) (tNotV (tCB (rIsX K a cls d) (tCons (tVar 3) (tCons (tC (.ref (Cof "NoRatio"))) (tNil)))))) (gName 2)))
  (tRet (tVar 2)))

section
variable {K : PySem.W.Frag} {Cof : String → Addr} {vs : List V} {H : Hp} {Q : VK} {E : XK}
theorem len__law_over_nought (h : sp__law_over_nought K Cof vs H Q E) : vs.length = 2 := by
  obtain ⟨a, c, t, b, v, rfl, _⟩ := h; rfl
theorem rd__law_over_nought (X : ExT K Cof) (h : sp__law_over_nought K Cof vs H Q E) : t__law_over_nought K Cof E { nx := fun _ H' => Q .non H', rt := Q } (start ["_law_one", "_law_other", "_law_told", "e"] vs) H := by
  obtain ⟨a, c, t, b, v, rfl, hA, hC, q⟩ := h
  unfold t__law_over_nought
  walk_at "rd"
  refine r_tryAs ?_
  walk_at "rd"
  refine r_methS ?_
  walk_at "rd"
  refine r_methRS hA (by decide +kernel) (by decide +kernel) ?_
  walk_at "rd"
  refine c_Ratio_over0 hC ?_
  refine w_as X.m_ByNought_RootError fun x hx => ?_
  walk_at "rd"
  refine r_isX X.c_ByNought X.i_ByNought_ByNought (rel_ref _) ?_
  walk_at "rd"
  refine r_isX X.c_ByNought X.i_ByNought_NoRatio (rel_ref _) ?_
  walk_at "rd"
  exact q
theorem c__law_over_nought {a c : Addr} {t b v : Int} (hA : IsR (Cof "Ratio") H a t b) (hC : IsR (Cof "Ratio") H c 0 v) (q : Q (.bl true) H) : sp__law_over_nought K Cof [.ref a, .ref c] H Q E := ⟨a, c, t, b, v, rfl, hA, hC, q⟩
end

/-! #### law -/
--USE MF
def sp_law (K : PySem.W.Frag) (Cof : String → Addr) : Sp := fun vs H Q _ => ∃ (a : Addr) (ns : List Int), vs = [.ref a] ∧ SqL K H a (ns.map V.int) ∧ ns.length ≤ 63 ∧ ∀ H', Q (.bl true) H'
def t_law (K : PySem.W.Frag) (Cof : String → Addr) (E : XK) : TS :=
  tSeq (tAsg (tOp (rIxL K) (tLst (tCons (tC (.int 12)) (tCons (tOp rPow (tC (.int 10)) (tC (.int 60))) (tNil)))) (tOp rMod (tCall (sp__law_cell K Cof) [] E0 (tCons (tVar 0) (tCons (tC (.int 4)) (tNil)))) (tC (.int 2)))) (gName 1))
  (tSeq (tAsg (tCall (sp__law_signed K Cof) [] E0 (tCons (tCall (sp__law_cell K Cof) [] E0 (tCons (tVar 0) (tCons (tC (.int 0)) (tNil)))) (tCons (tVar 1) (tNil)))) (gName 2))
  (tSeq (tAsg (tOp rIAdd (tC (.int 1)) (tOp rMod (tCall (sp__law_cell K Cof) [] E0 (tCons (tVar 0) (tCons (tC (.int 1)) (tNil)))) (tVar 1))) (gName 3))
  (tSeq (tAsg (tCall (sp__law_signed K Cof) [] E0 (tCons (tCall (sp__law_cell K Cof) [] E0 (tCons (tVar 0) (tCons (tC (.int 2)) (tNil)))) (tCons (tVar 1) (tNil)))) (gName 4))
  (tSeq (tAsg (tOp rIAdd (tC (.int 1)) (tOp rMod (tCall (sp__law_cell K Cof) [] E0 (tCons (tVar 0) (tCons (tC (.int 3)) (tNil)))) (tVar 1))) (gName 5))
  (tCut (tIfS (tTest (tOp rEq (tOp rMod (tOp rDiv (tCall (sp__law_cell K Cof) [] E0 (tCons (tVar 0) (tCons (tC (.int 4)) (tNil)))) (tC (.int 14))) (tC (.int 8))) (tC (.int 1)))) (tSeq (tAsg (tOp rMul (tOp rMul (tOp rMul (tOp rPow (tC (.int 10)) (tC (.int 60))) (tOp rPow (tC (.int 10)) (tC (.int 60)))) (tOp rPow (tC (.int 10)) (tC (.int 60)))) (tOp rPow (tC (.int 10)) (tC (.int 58)))) (gName 6))
  (tAsg (tLc (iTup K (tTup (tCons (tVar 2) (tCons (tVar 3) (tCons (tVar 4) (tCons (tVar 5) (tNil))))))) (gName 7) (tYes) (tOp rIAdd (tOp rMul (tVar 7) (tVar 6)) (tC (.int 7))) [7]) (gTupL K 4 (gCons (gName 2) (gCons (gName 3) (gCons (gName 4) (gCons (gName 5) (gNil)))))))) (tNext))
  (tCut (tIfS (tTest (tOp rEq (tOp rMod (tOp rDiv (tCall (sp__law_cell K Cof) [] E0 (tCons (tVar 0) (tCons (tC (.int 4)) (tNil)))) (tC (.int 2))) (tC (.int 7))) (tC (.int 1)))) (tAsg (tC (.int 0)) (gName 4)) (tNext))
  (tCut (tIfS (tTest (tOp rEq (tOp rMod (tOp rDiv (tCall (sp__law_cell K Cof) [] E0 (tCons (tVar 0) (tCons (tC (.int 4)) (tNil)))) (tC (.int 2))) (tC (.int 7))) (tC (.int 2)))) (tAsg (tVar 2) (gName 4)) (tNext))
  (tSeq (tAsg (tMake (Cof "Ratio") (sp_Ratio___init__ K Cof) [] E0 (tCons (tVar 2) (tCons (tVar 3) (tNil)))) (gName 7))
  (tSeq (tAsg (tMake (Cof "Ratio") (sp_Ratio___init__ K Cof) [] E0 (tCons (tVar 4) (tCons (tVar 5) (tNil)))) (gName 8))
  (tSeq (tFor (iRng1 (tCons (tC (.int 2)) (tNil))) (gName 9) (tSeq (tIfS (tNot (tB (tCall (sp__law_is K Cof) [] E0 (tCons (tMeth (Cof "Ratio") "plus" (sp_Ratio_plus K Cof) [] E0 (tVar 7) (tCons (tVar 8) (tNil))) (tCons (tOp rIAdd (tOp rMul (tVar 2) (tVar 5)) (tOp rMul (tVar 4) (tVar 3))) (tCons (tOp rMul (tVar 3) (tVar 5)) (tNil))))))) (tRet (tC (.bl false))) (tNext))
  (tSeq (tIfS (tNot (tB (tCall (sp__law_is K Cof) [] E0 (tCons (tMeth (Cof "Ratio") "minus" (sp_Ratio_minus K Cof) [] E0 (tVar 7) (tCons (tVar 8) (tNil))) (tCons (tOp rISub (tOp rMul (tVar 2) (tVar 5)) (tOp rMul (tVar 4) (tVar 3))) (tCons (tOp rMul (tVar 3) (tVar 5)) (tNil))))))) (tRet (tC (.bl false))) (tNext))
  (tSeq (tIfS (tNot (tB (tCall (sp__law_is K Cof) [] E0 (tCons (tMeth (Cof "Ratio") "minus" (sp_Ratio_minus K Cof) [] E0 (tVar 8) (tCons (tVar 7) (tNil))) (tCons (tOp rISub (tOp rMul (tVar 4) (tVar 3)) (tOp rMul (tVar 2) (tVar 5))) (tCons (tOp rMul (tVar 3) (tVar 5)) (tNil))))))) (tRet (tC (.bl false))) (tNext))
  (tSeq (tIfS (tNot (tB (tCall (sp__law_is K Cof) [] E0 (tCons (tMeth (Cof "Ratio") "times" (sp_Ratio_times K Cof) [] E0 (tVar 7) (tCons (tVar 8) (tNil))) (tCons (tOp rMul (tVar 2) (tVar 4)) (tCons (tOp rMul (tVar 3) (tVar 5)) (tNil))))))) (tRet (tC (.bl false))) (tNext))
  (tSeq (tIfS (tAnd (tTest (tOp rEq (tVar 4) (tC (.int 0)))) (tNot (tB (tCall (sp__law_over_nought K Cof) [] E0 (tCons (tVar 7) (tCons (tVar 8) (tNil))))))) (tRet (tC (.bl false))) (tNext))
  (tIfS (tAnd (tTest (tOp rNe (tVar 4) (tC (.int 0)))) (tNot (tB (tCall (sp__law_is K Cof) [] E0 (tCons (tMeth (Cof "Ratio") "over" (sp_Ratio_over K Cof) [] E0 (tVar 7) (tCons (tVar 8) (tNil))) (tCons (tOp rMul (tVar 2) (tVar 5)) (tCons (tOp rMul (tVar 3) (tVar 4)) (tNil)))))))) (tRet (tC (.bl false))) (tNext))))))))
  (tRet (tAndV (tCall (sp__law_is K Cof) [] E0 (tCons (tVar 7) (tCons (tVar 2) (tCons (tVar 3) (tNil))))) (tCall (sp__law_is K Cof) [] E0 (tCons (tVar 8) (tCons (tVar 4) (tCons (tVar 5) (tNil)))))))))))))))))

section
variable {K : PySem.W.Frag} {Cof : String → Addr} {vs : List V} {H : Hp} {Q : VK} {E : XK}
theorem len_law (h : sp_law K Cof vs H Q E) : vs.length = 1 := by
  obtain ⟨a, ns, rfl, _⟩ := h; rfl
theorem two_sizes {x y : Int} (i : Nat) (h0 : i < 2) (h1 : 0 < x ∧ x.natAbs < 2 ^ 200) (h2 : 0 < y ∧ y.natAbs < 2 ^ 200) : 0 < ([x, y] : List Int).getD i 0 ∧ (([x, y] : List Int).getD i 0).natAbs < 2 ^ 200 := by
  rcases i with _ | _ | i
  · exact h1
  · exact h2
  · omega
theorem far_lt {x far : Int} (h1 : x.natAbs < 2 ^ 200) (h2 : far.natAbs < 2 ^ 794) : (x * far + 7).natAbs < 2 ^ 1000 := by
  have h := wide_lt h1 h2
  refine Nat.lt_of_lt_of_le (show _ < 2 ^ 998 by
    have e : (2 : Nat) ^ 998 = 16 * 2 ^ (200 + 794) := by decide
    have h0 : 8 ≤ (2 : Nat) ^ (200 + 794) := by decide
    rw [e]
    generalize (2 : Nat) ^ (200 + 794) = t at h h0
    omega) (Nat.pow_le_pow_right (by decide) (by decide))
theorem rd_law (X : ExT K Cof) (h : sp_law K Cof vs H Q E) : t_law K Cof E { nx := fun _ H' => Q .non H', rt := Q } (start ["_law_script", "_law_size", "_law_a", "_law_b", "_law_c", "_law_d", "_law_far", "_law_one", "_law_other", "_law_turn"] vs) H := by
  obtain ⟨a, ns, rfl, hS, hl, q⟩ := h
  unfold t_law
  walk_at "rd"
  refine r_lstK fun p1 H1 hp1 e1 h1 => ?_
  have f1 := Fx.of e1
  have hS1 := f1.l hS
  walk_at "rd"
  have i0 := Int.fmod_nonneg_of_pos (cellOf ns 4) (show (0 : Int) < 2 by decide)
  have i1 := Int.fmod_lt_of_pos (cellOf ns 4) (show (0 : Int) < 2 by decide)
  refine r_ixI (ns := [12, 10 ^ 60]) (SqL.inj h1) i0 i1 ?_
  have hz := two_sizes (x := 12) (y := 10 ^ 60) ((cellOf ns 4).fmod 2).toNat (by omega) ⟨by decide, by decide⟩ ⟨by decide, by decide⟩
  generalize ([12, 10 ^ 60] : List Int).getD ((cellOf ns 4).fmod 2).toNat 0 = size at hz ⊢
  obtain ⟨zp, z1⟩ := hz
  have z0 : 0 ≤ size := by omega
  have wok : size.natAbs < 2 ^ 4000 := Nat.lt_of_lt_of_le z1 (Nat.pow_le_pow_right (by decide) (by decide))
  walk_at "rd"
  refine c__law_signed z0 wok ?_
  have ba := sgn_abs (c := cellOf ns 0) z0 z1
  generalize sgn (cellOf ns 0) size = a0 at ba ⊢
  walk_at "rd"
  have b0 := Int.fmod_nonneg_of_pos (cellOf ns 1) zp
  have b1 := Int.fmod_lt_of_pos (cellOf ns 1) zp
  obtain ⟨b, eb, hb, bb⟩ : ∃ b : Int, 1 + (cellOf ns 1).fmod size = b ∧ 0 < b ∧ b.natAbs < 2 ^ 200 := ⟨_, rfl, by omega, by omega⟩
  rw [eb]
  refine c__law_signed z0 wok ?_
  have bc := sgn_abs (c := cellOf ns 2) z0 z1
  generalize sgn (cellOf ns 2) size = c0 at bc ⊢
  walk_at "rd"
  have m0 := Int.fmod_nonneg_of_pos (cellOf ns 3) zp
  have m1 := Int.fmod_lt_of_pos (cellOf ns 3) zp
  obtain ⟨d, ed, hd, bd⟩ : ∃ b : Int, 1 + (cellOf ns 3).fmod size = b ∧ 0 < b ∧ b.natAbs < 2 ^ 200 := ⟨_, rfl, by omega, by omega⟩
  rw [ed]
  clear b0 b1 m0 m1 eb ed
  have pw : ∀ {x : Nat}, x < 2 ^ 200 → x < 2 ^ 1000 := fun h => Nat.lt_of_lt_of_le h (Nat.pow_le_pow_right (by decide) (by decide))
  refine ⟨fun σ' H' => ∃ (a1 b1 c1 d1 : Int) (u6 : Option V), σ' = [some (.ref a), some (.int size), some (.int a1), some (.int b1), some (.int c1), some (.int d1), u6, none, none, none] ∧ Fx H H' ∧ a1.natAbs < 2 ^ 1000 ∧ b1.natAbs < 2 ^ 1000 ∧ c1.natAbs < 2 ^ 1000 ∧ d1.natAbs < 2 ^ 1000 ∧ 0 < b1 ∧ 0 < d1, ?_, fun σ' H' hM => ?_⟩
  · walk_at "rd"
    refine ite_d (fun _ => ?_) (fun _ => ?_)
    · walk_at "rd"
      have k1 : ((10 : Int) ^ (60 : Int).toNat).natAbs < 2 ^ 200 := by decide
      have k2 : ((10 : Int) ^ (58 : Int).toNat).natAbs < 2 ^ 194 := by decide
      refine r_mul (wide_mul k1 k1 (by decide) (by decide) (by decide)) ?_
      walk_at "rd"
      refine r_mul (wide_mul (wide_lt k1 k1) k1 (by decide) (by decide) (by decide)) ?_
      walk_at "rd"
      refine r_mul (wide_mul (wide_lt (wide_lt k1 k1) k1) k2 (by decide) (by decide) (by decide)) ?_
      have k3 := wide_lt (wide_lt (wide_lt k1 k1) k1) k2
      have kp : 0 < (10 : Int) ^ (60 : Int).toNat * 10 ^ (60 : Int).toNat * 10 ^ (60 : Int).toNat * 10 ^ (58 : Int).toNat := by decide
      generalize (10 : Int) ^ (60 : Int).toNat * 10 ^ (60 : Int).toNat * 10 ^ (60 : Int).toNat * 10 ^ (58 : Int).toNat = far at k3 kp ⊢
      have k4 : far.natAbs < 2 ^ 794 := k3
      walk_at "rd"
      refine r_tupK fun p2 H2 hp2 e2 h2 => ?_
      refine r_cTupA (xs := [.int a0, .int b, .int c0, .int d]) (.inl (.inl h2)) ?_
      refine lc_intsT (ns := [a0, b, c0, d]) (fun x => x * far + 7) h2 (by simp) (fun x hx H3 e3 Q' k' => ?_) fun p3 H3 hp3 e3 h3 => ?_
      · have hx200 : x.natAbs < 2 ^ 200 := by
          simp only [List.mem_cons, List.not_mem_nil, or_false] at hx
          rcases hx with rfl | rfl | rfl | rfl <;> assumption
        walk_at "rd"
        refine r_mul (wide_mul hx200 k4 (by decide) (by decide) (by decide)) ?_
        walk_at "rd"
        exact k' _ (Evl.Ex.refl _)
      refine r_gtupL (xs := [.int (a0 * far + 7), .int (b * far + 7), .int (c0 * far + 7), .int (d * far + 7)]) (SqL.inj h3) rfl ?_
      refine r_gcons (r_gn (r_gcons (r_gn (r_gcons (r_gn (r_gcons (r_gn (r_gnil ?_))))))))
      exact ⟨_, _, _, _, _, rfl, (f1.ex e2).ex e3, far_lt ba k4, far_lt bb k4, far_lt bc k4, far_lt bd k4, by have := Int.mul_pos hb kp; omega, by have := Int.mul_pos hd kp; omega⟩
    · walk_at "rd"
      exact ⟨_, _, _, _, _, rfl, f1, pw ba, pw bb, pw bc, pw bd, hb, hd⟩
  clear h1 e1 hp1 ba bb bc bd hb hd f1 hS1
  obtain ⟨a1, b1, c1, d1, u6, rfl, f2, ba, bb, bc, bd, hb, hd⟩ := hM
  have hS2 := f2.l hS
  walk_at "rd"
  refine ⟨fun σ' H2 => ∃ (c2 : Int), σ' = [some (.ref a), some (.int size), some (.int a1), some (.int b1), some (.int c2), some (.int d1), u6, none, none, none] ∧ H' = H2 ∧ c2.natAbs < 2 ^ 1000, ?_, fun σ' H2 hM => ?_⟩
  · walk_at "rd"
    refine ite_d (fun _ => ?_) (fun _ => ?_)
    · walk_at "rd"
      exact ⟨_, rfl, rfl, by show (0 : Int).natAbs < _; exact Nat.two_pow_pos _⟩
    · walk_at "rd"
      exact ⟨_, rfl, rfl, bc⟩
  clear bc
  obtain ⟨c2, rfl, rfl, bc⟩ := hM
  walk_at "rd"
  refine ⟨fun σ' H2 => ∃ (c2 : Int), σ' = [some (.ref a), some (.int size), some (.int a1), some (.int b1), some (.int c2), some (.int d1), u6, none, none, none] ∧ H' = H2 ∧ c2.natAbs < 2 ^ 1000, ?_, fun σ' H2 hM => ?_⟩
  · walk_at "rd"
    refine ite_d (fun _ => ?_) (fun _ => ?_)
    · walk_at "rd"
      exact ⟨_, rfl, rfl, ba⟩
    · walk_at "rd"
      exact ⟨_, rfl, rfl, bc⟩
  clear bc
  obtain ⟨c, rfl, rfl, bc⟩ := hM
  walk_at "rd"
  refine c_Ratio 1000 (by omega) bb (by decide) (by decide) fun p2 H2 hp2 e2 h2 => ?_
  walk_at "rd"
  refine c_Ratio 1000 (by omega) bd (by decide) (by decide) fun p3 H3 hp3 e3 h3 => ?_
  have h2' := IsR.ex e3 h2
  have q1 := rB_pos (t := a1) (b := b1) (by omega)
  have q2 := rB_pos (t := c) (b := d1) (by omega)
  have x1 := r_cross (t := a1) (b := b1) (by omega)
  have x2 := r_cross (t := c) (b := d1) (by omega)
  have s1 := Nat.lt_of_le_of_lt (rT_abs (t := a1) (b := b1) (by omega)) ba
  have s2 := Nat.lt_of_le_of_lt (rB_abs (t := a1) (b := b1) (by omega)) bb
  have s3 := Nat.lt_of_le_of_lt (rT_abs (t := c) (b := d1) (by omega)) bc
  have s4 := Nat.lt_of_le_of_lt (rB_abs (t := c) (b := d1) (by omega)) bd
  have R12 : RSz 1000 (rT a1 b1) (rB a1 b1) (rT c d1) (rB c d1) := ⟨s1, s2, s3, s4, by decide, by decide, by omega, by omega⟩
  have R21 : RSz 1000 (rT c d1) (rB c d1) (rT a1 b1) (rB a1 b1) := ⟨s3, s4, s1, s2, by decide, by decide, by omega, by omega⟩
  have g1 : Int.gcd (rT a1 b1) (rB a1 b1) = 1 := r_low (by omega)
  have g2 : Int.gcd (rT c d1) (rB c d1) = 1 := r_low (by omega)
  have hc0 : c = 0 → rT c d1 = 0 := fun e => by rw [e, rT_zero]
  have hcn : c ≠ 0 → rT c d1 ≠ 0 := fun e z => by
    rw [z, Int.zero_mul] at x2
    exact Int.mul_ne_zero e (by omega) x2.symm
  generalize rT a1 b1 = p at *
  generalize rB a1 b1 = q' at *
  generalize rT c d1 = r at *
  generalize rB c d1 = s at *
  have qs : q' * s ≠ 0 := Int.mul_ne_zero (by omega) (by omega)
  have qs2 : s * q' ≠ 0 := Int.mul_ne_zero (by omega) (by omega)
  have up : ∀ {x y : Int}, x.natAbs < 2 ^ 1000 → y.natAbs < 2 ^ 1000 → (x * y).natAbs < 2 ^ 2000 := fun h h' => wide_lt h h'
  have e21 : (2 : Nat) ^ 2001 = 2 * 2 ^ 2000 := by rw [Nat.pow_succ, Nat.mul_comm]
  have sum2 : ∀ {x y : Int}, x.natAbs < 2 ^ 2000 → y.natAbs < 2 ^ 2000 → (x + y).natAbs < 2 ^ 2001 ∧ (x - y).natAbs < 2 ^ 2001 := fun {x y} h h' => by
    rw [e21]
    generalize (2 : Nat) ^ 2000 = t at h h'
    omega
  have up2 : ∀ {x : Nat}, x < 2 ^ 2000 → x < 2 ^ 2001 := fun h => Nat.lt_of_lt_of_le h (Nat.pow_le_pow_right (by decide) (by decide))
  have mk2 : ∀ {x y t b : Int}, y ≠ 0 → x.natAbs < 2 ^ 2001 → y.natAbs < 2 ^ 2001 → t.natAbs < 2 ^ 2001 → b.natAbs < 2 ^ 2001 → (rT x y).natAbs < 2 ^ 2001 ∧ (rB x y).natAbs < 2 ^ 2001 ∧ t.natAbs < 2 ^ 2001 ∧ b.natAbs < 2 ^ 2001 ∧ 0 < 2001 ∧ 2001 ≤ 400000 := fun hy hx hy2 ht hb => ⟨Nat.lt_of_le_of_lt (rT_abs hy) hx, Nat.lt_of_le_of_lt (rB_abs hy) hy2, ht, hb, by decide, by decide⟩
  walk_at "rd"
  refine r_iRng1A (by omega) (by omega) ?_
  refine loop_range0 (fun k σ' H' => ∃ u9, σ' = [some (.ref a), some (.int size), some (.int a1), some (.int b1), some (.int c), some (.int d1), u6, some (.ref p2), some (.ref p3), u9] ∧ IsR (Cof "Ratio") H' p2 p q' ∧ IsR (Cof "Ratio") H' p3 r s) ⟨_, rfl, h2', h3⟩ (fun k σ' H' hk hp' => ?_) (fun σ' H' hp' => ?_)
  · obtain ⟨u9, rfl, k2, k3⟩ := hp'
    walk_at "rd"
    refine c_Ratio_plus 1000 k2 k3 R12 fun p4 H4 hp4 e4 h4 => ?_
    walk_at "rd"
    refine r_mul (wide_mul ba bd (by decide) (by decide) (by decide)) ?_
    walk_at "rd"
    refine r_mul (wide_mul bc bb (by decide) (by decide) (by decide)) ?_
    walk_at "rd"
    refine r_mul (wide_mul bb bd (by decide) (by decide) (by decide)) ?_
    walk_at "rd"
    refine c__law_is 2001 h4 (rB_pos qs) (r_low qs) (cross_made qs (plus_cross x1 x2)) (mk2 qs (sum2 (up s1 s4) (up s3 s2)).1 (up2 (up s2 s4)) (sum2 (up ba bd) (up bc bb)).1 (up2 (up bb bd))) ?_
    have k2 := IsR.ex e4 k2
    have k3 := IsR.ex e4 k3
    clear h4 e4 hp4
    walk_at "rd"
    refine c_Ratio_minus 1000 k2 k3 R12 fun p4 H4 hp4 e4 h4 => ?_
    walk_at "rd"
    refine r_mul (wide_mul ba bd (by decide) (by decide) (by decide)) ?_
    walk_at "rd"
    refine r_mul (wide_mul bc bb (by decide) (by decide) (by decide)) ?_
    walk_at "rd"
    refine r_mul (wide_mul bb bd (by decide) (by decide) (by decide)) ?_
    walk_at "rd"
    refine c__law_is 2001 h4 (rB_pos qs) (r_low qs) (cross_made qs (minus_cross x1 x2)) (mk2 qs (sum2 (up s1 s4) (up s3 s2)).2 (up2 (up s2 s4)) (sum2 (up ba bd) (up bc bb)).2 (up2 (up bb bd))) ?_
    have k2 := IsR.ex e4 k2
    have k3 := IsR.ex e4 k3
    clear h4 e4 hp4
    walk_at "rd"
    refine c_Ratio_minus 1000 k3 k2 R21 fun p4 H4 hp4 e4 h4 => ?_
    walk_at "rd"
    refine r_mul (wide_mul bc bb (by decide) (by decide) (by decide)) ?_
    walk_at "rd"
    refine r_mul (wide_mul ba bd (by decide) (by decide) (by decide)) ?_
    walk_at "rd"
    refine r_mul (wide_mul bb bd (by decide) (by decide) (by decide)) ?_
    walk_at "rd"
    refine c__law_is 2001 h4 (rB_pos qs2) (r_low qs2) (cross_made qs2 (by rw [Int.mul_comm b1 d1]; exact minus_cross x2 x1)) (mk2 qs2 (sum2 (up s3 s2) (up s1 s4)).2 (up2 (up s4 s2)) (sum2 (up bc bb) (up ba bd)).2 (up2 (up bb bd))) ?_
    have k2 := IsR.ex e4 k2
    have k3 := IsR.ex e4 k3
    clear h4 e4 hp4
    walk_at "rd"
    refine c_Ratio_times 1000 k2 k3 R12 fun p4 H4 hp4 e4 h4 => ?_
    walk_at "rd"
    refine r_mul (wide_mul ba bc (by decide) (by decide) (by decide)) ?_
    walk_at "rd"
    refine r_mul (wide_mul bb bd (by decide) (by decide) (by decide)) ?_
    walk_at "rd"
    refine c__law_is 2001 h4 (rB_pos qs) (r_low qs) (cross_made qs (times_cross x1 x2)) (mk2 qs (up2 (up s1 s3)) (up2 (up s2 s4)) (up2 (up ba bc)) (up2 (up bb bd))) ?_
    have k2 := IsR.ex e4 k2
    have k3 := IsR.ex e4 k3
    clear h4 e4 hp4
    walk_at "rd"
    refine ite_d (fun z => ?_) (fun z => ?_)
    · walk_at "rd"
      have r0 := hc0 z
      subst r0
      refine c__law_over_nought k2 k3 ?_
      walk_at "rd"
      refine ite_nd (fun h => absurd z h) (fun _ => ?_)
      walk_at "rd"
      exact ⟨_, rfl, k2, k3⟩
    · walk_at "rd"
      have rn := hcn z
      refine ite_nd (fun _ => ?_) (fun h => absurd h z)
      walk_at "rd"
      have qr : q' * r ≠ 0 := Int.mul_ne_zero (by omega) rn
      refine c_Ratio_over 1000 k2 k3 R12 rn fun p4 H4 hp4 e4 h4 => ?_
      walk_at "rd"
      refine r_mul (wide_mul ba bd (by decide) (by decide) (by decide)) ?_
      walk_at "rd"
      refine r_mul (wide_mul bb bc (by decide) (by decide) (by decide)) ?_
      walk_at "rd"
      refine c__law_is 2001 h4 (rB_pos qr) (r_low qr) (cross_made qr (over_cross x1 x2)) (mk2 qr (up2 (up s1 s4)) (up2 (up s2 s3)) (up2 (up ba bd)) (up2 (up bb bc))) ?_
      walk_at "rd"
      exact ⟨_, rfl, IsR.ex e4 k2, IsR.ex e4 k3⟩
  · obtain ⟨u9, rfl, k2, k3⟩ := hp'
    walk_at "rd"
    refine c__law_is 1000 k2 q1 g1 x1 ⟨s1, s2, ba, bb, by decide, by decide⟩ ?_
    walk_at "rd"
    exact c__law_is 1000 k3 q2 g2 x2 ⟨s3, s4, bc, bd, by decide, by decide⟩ (q _)
end

def topS (i : Nat) : Stmt := PySem.Challenge.pw_rootspan_k03_ratio_reckoned.main.body.getD i (.Pass ⟨0, 0, 0, 0⟩)
abbrev s_shared : Stmt := topS 6
theorem sc_shared : FnScope ["row", "found", "one", "rest"] ["row"] (defScope s_shared) := ⟨rfl, rfl, rfl, by decide +kernel, rfl, by decide +kernel, by decide +kernel⟩
abbrev s_Ratio___init__ : Stmt := inClass (topS 7) 0
theorem sc_Ratio___init__ : FnScope ["self", "top", "bottom", "part"] ["self", "top", "bottom"] (defScope s_Ratio___init__) := ⟨rfl, rfl, rfl, by decide +kernel, rfl, by decide +kernel, by decide +kernel⟩
abbrev s_Ratio_plus : Stmt := inClass (topS 7) 1
theorem sc_Ratio_plus : FnScope ["self", "other"] ["self", "other"] (defScope s_Ratio_plus) := ⟨rfl, rfl, rfl, by decide +kernel, rfl, by decide +kernel, by decide +kernel⟩
abbrev s_Ratio_minus : Stmt := inClass (topS 7) 2
theorem sc_Ratio_minus : FnScope ["self", "other"] ["self", "other"] (defScope s_Ratio_minus) := ⟨rfl, rfl, rfl, by decide +kernel, rfl, by decide +kernel, by decide +kernel⟩
abbrev s_Ratio_times : Stmt := inClass (topS 7) 3
theorem sc_Ratio_times : FnScope ["self", "other"] ["self", "other"] (defScope s_Ratio_times) := ⟨rfl, rfl, rfl, by decide +kernel, rfl, by decide +kernel, by decide +kernel⟩
abbrev s_Ratio_over : Stmt := inClass (topS 7) 4
theorem sc_Ratio_over : FnScope ["self", "other"] ["self", "other"] (defScope s_Ratio_over) := ⟨rfl, rfl, rfl, by decide +kernel, rfl, by decide +kernel, by decide +kernel⟩
abbrev s__law_cell : Stmt := topS 9
theorem sc__law_cell : FnScope ["_law_script", "_law_k"] ["_law_script", "_law_k"] (defScope s__law_cell) := ⟨rfl, rfl, rfl, by decide +kernel, rfl, by decide +kernel, by decide +kernel⟩
abbrev s__law_whole : Stmt := topS 10
theorem sc__law_whole : FnScope ["_law_found"] ["_law_found"] (defScope s__law_whole) := ⟨rfl, rfl, rfl, by decide +kernel, rfl, by decide +kernel, by decide +kernel⟩
abbrev s__law_signed : Stmt := topS 11
theorem sc__law_signed : FnScope ["_law_cell_here", "_law_size"] ["_law_cell_here", "_law_size"] (defScope s__law_signed) := ⟨rfl, rfl, rfl, by decide +kernel, rfl, by decide +kernel, by decide +kernel⟩
abbrev s__law_divisor : Stmt := topS 12
theorem sc__law_divisor : FnScope ["_law_one", "_law_other", "_law_rest"] ["_law_one", "_law_other"] (defScope s__law_divisor) := ⟨rfl, rfl, rfl, by decide +kernel, rfl, by decide +kernel, by decide +kernel⟩
abbrev s__law_is : Stmt := topS 13
theorem sc__law_is : FnScope ["_law_found", "_law_top", "_law_bottom"] ["_law_found", "_law_top", "_law_bottom"] (defScope s__law_is) := ⟨rfl, rfl, rfl, by decide +kernel, rfl, by decide +kernel, by decide +kernel⟩
abbrev s__law_over_nought : Stmt := topS 14
theorem sc__law_over_nought : FnScope ["_law_one", "_law_other", "_law_told", "e"] ["_law_one", "_law_other"] (defScope s__law_over_nought) := ⟨rfl, rfl, rfl, by decide +kernel, rfl, by decide +kernel, by decide +kernel⟩
abbrev s_law : Stmt := topS 15
theorem sc_law : FnScope ["_law_script", "_law_size", "_law_a", "_law_b", "_law_c", "_law_d", "_law_far", "_law_one", "_law_other", "_law_turn"] ["_law_script"] (defScope s_law) := ⟨rfl, rfl, rfl, by decide +kernel, rfl, by decide +kernel, by decide +kernel⟩
structure Txt (K : PySem.W.Frag) (mg : Str → Option Value) (Cof : String → Addr) (ad : Nat → Addr) (fd : Nat → FuncData) : Prop where
  z_abs : mg "abs" = none
  z_bool : mg "bool" = none
  z_int : mg "int" = none
  z_isinstance : mg "isinstance" = none
  z_len : mg "len" = none
  z_range : mg "range" = none
  g_shared : mg "shared" = some (.ref (ad 0))
  F_shared : Fun K "shared" "shared" s_shared (ad 0) (fd 0)
  F_Ratio___init__ : FunD K "__init__" "Ratio.__init__" (defArgs s_Ratio___init__) (defBody s_Ratio___init__) (defScope s_Ratio___init__) [.int 1] [] (ad 1) (fd 1)
  mk_Ratio : Mk K (Cof "Ratio") (ad 1)
  F_Ratio_plus : Fun K "plus" "Ratio.plus" s_Ratio_plus (ad 2) (fd 2)
  meth_Ratio_plus : Meth K (Cof "Ratio") "plus" (ad 2)
  F_Ratio_minus : Fun K "minus" "Ratio.minus" s_Ratio_minus (ad 3) (fd 3)
  meth_Ratio_minus : Meth K (Cof "Ratio") "minus" (ad 3)
  F_Ratio_times : Fun K "times" "Ratio.times" s_Ratio_times (ad 4) (fd 4)
  meth_Ratio_times : Meth K (Cof "Ratio") "times" (ad 4)
  F_Ratio_over : Fun K "over" "Ratio.over" s_Ratio_over (ad 5) (fd 5)
  meth_Ratio_over : Meth K (Cof "Ratio") "over" (ad 5)
  g__law_cell : mg "_law_cell" = some (.ref (ad 6))
  F__law_cell : Fun K "_law_cell" "_law_cell" s__law_cell (ad 6) (fd 6)
  g__law_whole : mg "_law_whole" = some (.ref (ad 7))
  F__law_whole : Fun K "_law_whole" "_law_whole" s__law_whole (ad 7) (fd 7)
  g__law_signed : mg "_law_signed" = some (.ref (ad 8))
  F__law_signed : Fun K "_law_signed" "_law_signed" s__law_signed (ad 8) (fd 8)
  g__law_divisor : mg "_law_divisor" = some (.ref (ad 9))
  F__law_divisor : Fun K "_law_divisor" "_law_divisor" s__law_divisor (ad 9) (fd 9)
  g__law_is : mg "_law_is" = some (.ref (ad 10))
  F__law_is : Fun K "_law_is" "_law_is" s__law_is (ad 10) (fd 10)
  g__law_over_nought : mg "_law_over_nought" = some (.ref (ad 11))
  F__law_over_nought : Fun K "_law_over_nought" "_law_over_nought" s__law_over_nought (ad 11) (fd 11)
  g_law : mg "law" = some (.ref (ad 12))
  F_law : Fun K "law" "law" s_law (ad 12) (fd 12)
  q_RootError : mg "RootError" = some (.ref (Cof "RootError"))
  e_RootError : OwnE K mg "RootError" (Cof "RootError")
  q_NoRatio : mg "NoRatio" = some (.ref (Cof "NoRatio"))
  e_NoRatio : OwnE K mg "NoRatio" (Cof "NoRatio")
  q_ByNought : mg "ByNought" = some (.ref (Cof "ByNought"))
  e_ByNought : OwnE K mg "ByNought" (Cof "ByNought")
  q_Ratio : mg "Ratio" = some (.ref (Cof "Ratio"))
  cls_Ratio : Cls K (Cof "Ratio")
  ex : ExT K Cof
section
variable {P : Program} {w : World} {K : PySem.W.Frag} {mg : Str → Option Value} {base : Heap} {Cof : String → Addr} {ad : Nat → Addr} {fd : Nat → FuncData}
theorem B_shared (T : Txt K mg Cof ad fd) : Binds K (fd 0) ["row"] [] := T.F_shared.binds (ps := ["row"]) fun _ _ _ _ _ _ us hl => match us, hl with | [_], _ => rfl
theorem B_Ratio___init__ (T : Txt K mg Cof ad fd) : Binds K (fd 1) ["self", "top", "bottom"] [] := binds_full (T.F_Ratio___init__.binds1 (ps := ["self", "top", "bottom"]) 3 1 (by simp) rfl fun _ _ _ _ _ _ _ us its h1 h2 => match us, its, h1, h2 with | [_, _, _], [_], _, _ => ⟨_, rfl, rfl⟩)
theorem D_Ratio___init__ (T : Txt K mg Cof ad fd) : ∃ ds, Vals [.int 1] ds ∧ Binds K (fd 1) ["self", "top", "bottom"] ds := T.F_Ratio___init__.binds1 (ps := ["self", "top", "bottom"]) 2 0 (by simp) rfl fun _ _ _ _ _ _ _ us its h1 h2 => match us, its, h1, h2 with | [_, _], [_], _, _ => ⟨_, rfl, rfl⟩
theorem B_Ratio_plus (T : Txt K mg Cof ad fd) : Binds K (fd 2) ["self", "other"] [] := T.F_Ratio_plus.binds (ps := ["self", "other"]) fun _ _ _ _ _ _ us hl => match us, hl with | [_, _], _ => rfl
theorem B_Ratio_minus (T : Txt K mg Cof ad fd) : Binds K (fd 3) ["self", "other"] [] := T.F_Ratio_minus.binds (ps := ["self", "other"]) fun _ _ _ _ _ _ us hl => match us, hl with | [_, _], _ => rfl
theorem B_Ratio_times (T : Txt K mg Cof ad fd) : Binds K (fd 4) ["self", "other"] [] := T.F_Ratio_times.binds (ps := ["self", "other"]) fun _ _ _ _ _ _ us hl => match us, hl with | [_, _], _ => rfl
theorem B_Ratio_over (T : Txt K mg Cof ad fd) : Binds K (fd 5) ["self", "other"] [] := T.F_Ratio_over.binds (ps := ["self", "other"]) fun _ _ _ _ _ _ us hl => match us, hl with | [_, _], _ => rfl
theorem B__law_cell (T : Txt K mg Cof ad fd) : Binds K (fd 6) ["_law_script", "_law_k"] [] := T.F__law_cell.binds (ps := ["_law_script", "_law_k"]) fun _ _ _ _ _ _ us hl => match us, hl with | [_, _], _ => rfl
theorem B__law_whole (T : Txt K mg Cof ad fd) : Binds K (fd 7) ["_law_found"] [] := T.F__law_whole.binds (ps := ["_law_found"]) fun _ _ _ _ _ _ us hl => match us, hl with | [_], _ => rfl
theorem B__law_signed (T : Txt K mg Cof ad fd) : Binds K (fd 8) ["_law_cell_here", "_law_size"] [] := T.F__law_signed.binds (ps := ["_law_cell_here", "_law_size"]) fun _ _ _ _ _ _ us hl => match us, hl with | [_, _], _ => rfl
theorem B__law_divisor (T : Txt K mg Cof ad fd) : Binds K (fd 9) ["_law_one", "_law_other"] [] := T.F__law_divisor.binds (ps := ["_law_one", "_law_other"]) fun _ _ _ _ _ _ us hl => match us, hl with | [_, _], _ => rfl
theorem B__law_is (T : Txt K mg Cof ad fd) : Binds K (fd 10) ["_law_found", "_law_top", "_law_bottom"] [] := T.F__law_is.binds (ps := ["_law_found", "_law_top", "_law_bottom"]) fun _ _ _ _ _ _ us hl => match us, hl with | [_, _, _], _ => rfl
theorem B__law_over_nought (T : Txt K mg Cof ad fd) : Binds K (fd 11) ["_law_one", "_law_other"] [] := T.F__law_over_nought.binds (ps := ["_law_one", "_law_other"]) fun _ _ _ _ _ _ us hl => match us, hl with | [_, _], _ => rfl
theorem B_law (T : Txt K mg Cof ad fd) : Binds K (fd 12) ["_law_script"] [] := T.F_law.binds (ps := ["_law_script"]) fun _ _ _ _ _ _ us hl => match us, hl with | [_], _ => rfl
theorem ok_shared (T : Txt K mg Cof ad fd) : FnOk P w K mg base CX0 1 (ad 0) (fd 0) ["row"] (sp_shared K Cof) := by
  have nd := sc_shared.nd
  refine T.F_shared.ok sc_shared (fun vs H Q E h => len_shared h) (fun cdv A outer s H vs Q E hr h => ⟨t_shared K Cof E, ?_, rd_shared h⟩)
  exact pss_cons (ps_set (i := 1) nd rfl (by first | exact Or.inl rfl | exact Or.inr rfl) (pe_int))
       (pss_cons (ps_for PassesOwn.never rfl (pi_list (pv 0)) (pg_name (i := 2) nd rfl (by first | exact Or.inl rfl | exact Or.inr rfl)) (pss_one (ps_while PassesOwn.never (pt_cmpR op_ne (pv 2) (pe_int) (nomark _)) (pss_cons (ps_set (i := 3) nd rfl (by first | exact Or.inl rfl | exact Or.inr rfl) (pe_op op_modN (pv 1) (pv 2)))
       (pss_cons (ps_set (i := 1) nd rfl (by first | exact Or.inl rfl | exact Or.inr rfl) (pv 2))
       (pss_one (ps_set (i := 2) nd rfl (by first | exact Or.inl rfl | exact Or.inr rfl) (pv 3))))))))
       (pss_one (ps_ret (pe_callB call_abs (by rfl) T.z_abs (by decide +kernel) (pa_cons (pv 1) (pa_nil))))))
theorem ok_Ratio___init__ (T : Txt K mg Cof ad fd) : FnOk P w K mg base CX0 2 (ad 1) (fd 1) ["self", "top", "bottom"] (sp_Ratio___init__ K Cof) := by
  have G_shared := ok_shared (P := P) (w := w) (base := base) T
  have B_shared := B_shared T
  have nd := sc_Ratio___init__.nd
  refine okN T.F_Ratio___init__ sc_Ratio___init__ (fun vs H Q E h => len_Ratio___init__ h) (fun cdv A outer s H vs Q E hr h => ⟨t_Ratio___init__ K Cof E, ?_, rd_Ratio___init__ T.ex h⟩)
  exact pss_cons (ps_if (pt_cmpR op_eq (pv 2) (pe_int) (nomark _)) (pss_one (ps_never)) (pss_nil))
       (pss_cons (ps_set (i := 3) nd rfl (by first | exact Or.inl rfl | exact Or.inr rfl) (pe_call G_shared (hr.mono (by decide)) (by rfl) T.g_shared T.F_shared.kp B_shared .nil pass0 (pa_cons (pe_lst (pa_cons (pv 1) (pa_cons (pv 2) (pa_nil)))) (pa_nil))))
       (pss_cut (ps_if (pt_cmpR op_lt (pv 2) (pe_int) (nomark _)) (pss_one (ps_set (i := 3) nd rfl (by first | exact Or.inl rfl | exact Or.inr rfl) (pe_un un_neg (pv 3)))) (pss_nil))
       (pss_cons (ps_fld (pv 0) (pe_op op_fdivA (pv 1) (pv 3)) rfl)
       (pss_one (ps_fld (pv 0) (pe_op op_fdivA (pv 2) (pv 3)) rfl)))))
theorem ok_Ratio_plus (T : Txt K mg Cof ad fd) : FnOk P w K mg base CX0 4 (ad 2) (fd 2) ["self", "other"] (sp_Ratio_plus K Cof) := by
  have G_Ratio___init__ := ok_Ratio___init__ (P := P) (w := w) (base := base) T
  have B_Ratio___init__ := B_Ratio___init__ T
  have nd := sc_Ratio_plus.nd
  refine T.F_Ratio_plus.ok sc_Ratio_plus (fun vs H Q E h => len_Ratio_plus h) (fun cdv A outer s H vs Q E hr h => ⟨t_Ratio_plus K Cof E, ?_, rd_Ratio_plus T.ex h⟩)
  exact pss_one (ps_ret (pe_make T.mk_Ratio G_Ratio___init__ (hr.mono (by decide)) (by rfl) T.q_Ratio B_Ratio___init__ .nil pass0 (pa_cons (pe_op op_add (pe_op op_mulW (pe_fld (pv 0) rfl) (pe_fld (pv 1) rfl)) (pe_op op_mulW (pe_fld (pv 1) rfl) (pe_fld (pv 0) rfl))) (pa_cons (pe_op op_mulW (pe_fld (pv 0) rfl) (pe_fld (pv 1) rfl)) (pa_nil)))))
theorem ok_Ratio_minus (T : Txt K mg Cof ad fd) : FnOk P w K mg base CX0 4 (ad 3) (fd 3) ["self", "other"] (sp_Ratio_minus K Cof) := by
  have G_Ratio___init__ := ok_Ratio___init__ (P := P) (w := w) (base := base) T
  have B_Ratio___init__ := B_Ratio___init__ T
  have nd := sc_Ratio_minus.nd
  refine T.F_Ratio_minus.ok sc_Ratio_minus (fun vs H Q E h => len_Ratio_minus h) (fun cdv A outer s H vs Q E hr h => ⟨t_Ratio_minus K Cof E, ?_, rd_Ratio_minus T.ex h⟩)
  exact pss_one (ps_ret (pe_make T.mk_Ratio G_Ratio___init__ (hr.mono (by decide)) (by rfl) T.q_Ratio B_Ratio___init__ .nil pass0 (pa_cons (pe_op op_sub (pe_op op_mulW (pe_fld (pv 0) rfl) (pe_fld (pv 1) rfl)) (pe_op op_mulW (pe_fld (pv 1) rfl) (pe_fld (pv 0) rfl))) (pa_cons (pe_op op_mulW (pe_fld (pv 0) rfl) (pe_fld (pv 1) rfl)) (pa_nil)))))
theorem ok_Ratio_times (T : Txt K mg Cof ad fd) : FnOk P w K mg base CX0 4 (ad 4) (fd 4) ["self", "other"] (sp_Ratio_times K Cof) := by
  have G_Ratio___init__ := ok_Ratio___init__ (P := P) (w := w) (base := base) T
  have B_Ratio___init__ := B_Ratio___init__ T
  have nd := sc_Ratio_times.nd
  refine T.F_Ratio_times.ok sc_Ratio_times (fun vs H Q E h => len_Ratio_times h) (fun cdv A outer s H vs Q E hr h => ⟨t_Ratio_times K Cof E, ?_, rd_Ratio_times T.ex h⟩)
  exact pss_one (ps_ret (pe_make T.mk_Ratio G_Ratio___init__ (hr.mono (by decide)) (by rfl) T.q_Ratio B_Ratio___init__ .nil pass0 (pa_cons (pe_op op_mulW (pe_fld (pv 0) rfl) (pe_fld (pv 1) rfl)) (pa_cons (pe_op op_mulW (pe_fld (pv 0) rfl) (pe_fld (pv 1) rfl)) (pa_nil)))))
theorem ok_Ratio_over (T : Txt K mg Cof ad fd) : FnOk P w K mg base (L2.CX P w) 4 (ad 5) (fd 5) ["self", "other"] (sp_Ratio_over K Cof) := by
  have G_Ratio___init__ := ok_Ratio___init__ (P := P) (w := w) (base := base) T
  have B_Ratio___init__ := B_Ratio___init__ T
  have nd := sc_Ratio_over.nd
  refine T.F_Ratio_over.okX sc_Ratio_over (fun vs H Q E h => len_Ratio_over h) (fun cdv A outer s H vs Q E hr h => ⟨t_Ratio_over K Cof E, ?_, rd_Ratio_over T.ex h⟩)
  exact pss_cons (ps_if (pt_cmpR op_eq (pe_fld (pv 1) rfl) (pe_int) (nomark _)) (pss_one (ps_rz (W := fun cls d _ H => E cls d H) T.e_ByNought rfl (takes_of rfl rfl rfl rfl) (by exact rfl))) (pss_nil))
       (pss_one (ps_ret (pe_make T.mk_Ratio G_Ratio___init__ (hr.mono (by decide)) (by rfl) T.q_Ratio B_Ratio___init__ .nil pass0 (pa_cons (pe_op op_mulW (pe_fld (pv 0) rfl) (pe_fld (pv 1) rfl)) (pa_cons (pe_op op_mulW (pe_fld (pv 0) rfl) (pe_fld (pv 1) rfl)) (pa_nil))))))
theorem ok__law_cell (T : Txt K mg Cof ad fd) : FnOk P w K mg base CX0 1 (ad 6) (fd 6) ["_law_script", "_law_k"] (sp__law_cell K Cof) := by
  have nd := sc__law_cell.nd
  refine T.F__law_cell.ok sc__law_cell (fun vs H Q E h => len__law_cell h) (fun cdv A outer s H vs Q E hr h => ⟨t__law_cell K Cof E, ?_, rd__law_cell h⟩)
  exact pss_cons (ps_if (pt_cmpR op_lt (pv 1) (pe_callB call_len_seq (by rfl) T.z_len (by decide +kernel) (pa_cons (pv 0) (pa_nil))) (nomark _)) (pss_one (ps_ret (pe_ix ix_list (pv 0) (pv 1) (fun _ _ => rfl)))) (pss_nil))
       (pss_one (ps_ret (pe_int)))
theorem ok__law_whole (T : Txt K mg Cof ad fd) : FnOk P w K mg base CX0 1 (ad 7) (fd 7) ["_law_found"] (sp__law_whole K Cof) := by
  have nd := sc__law_whole.nd
  refine T.F__law_whole.ok sc__law_whole (fun vs H Q E h => len__law_whole h) (fun cdv A outer s H vs Q E hr h => ⟨t__law_whole K Cof E, ?_, rd__law_whole h⟩)
  exact pss_one (ps_ret (pe_and (pe_callB call_isi (by rfl) T.z_isinstance (by decide +kernel) (pa_cons (pv 0) (pa_cons (pe_bltn (v := .ty "int") (by rfl) T.z_int (by decide +kernel) rfl) (pa_nil)))) (pe_one (pe_not (pe_callB call_isi (by rfl) T.z_isinstance (by decide +kernel) (pa_cons (pv 0) (pa_cons (pe_bltn (v := .ty "bool") (by rfl) T.z_bool (by decide +kernel) rfl) (pa_nil))))))))
theorem ok__law_signed (T : Txt K mg Cof ad fd) : FnOk P w K mg base CX0 1 (ad 8) (fd 8) ["_law_cell_here", "_law_size"] (sp__law_signed K Cof) := by
  have nd := sc__law_signed.nd
  refine T.F__law_signed.ok sc__law_signed (fun vs H Q E h => len__law_signed h) (fun cdv A outer s H vs Q E hr h => ⟨t__law_signed K Cof E, ?_, rd__law_signed h⟩)
  exact pss_one (ps_ret (pe_op op_sub (pe_op op_modN (pv 0) (pe_op op_add (pe_op op_mulW (pe_int) (pv 1)) (pe_int))) (pv 1)))
theorem ok__law_divisor (T : Txt K mg Cof ad fd) : FnOk P w K mg base CX0 1 (ad 9) (fd 9) ["_law_one", "_law_other"] (sp__law_divisor K Cof) := by
  have nd := sc__law_divisor.nd
  refine T.F__law_divisor.ok sc__law_divisor (fun vs H Q E h => len__law_divisor h) (fun cdv A outer s H vs Q E hr h => ⟨t__law_divisor K Cof E, ?_, rd__law_divisor h⟩)
  exact pss_cons (ps_while PassesOwn.never (pt_cmpR op_ne (pv 1) (pe_int) (nomark _)) (pss_cons (ps_set (i := 2) nd rfl (by first | exact Or.inl rfl | exact Or.inr rfl) (pe_op op_modN (pv 0) (pv 1)))
       (pss_cons (ps_set (i := 0) nd rfl (by first | exact Or.inl rfl | exact Or.inr rfl) (pv 1))
       (pss_one (ps_set (i := 1) nd rfl (by first | exact Or.inl rfl | exact Or.inr rfl) (pv 2))))))
       (pss_one (ps_ret (pe_callB call_abs (by rfl) T.z_abs (by decide +kernel) (pa_cons (pv 0) (pa_nil)))))
theorem ok__law_is (T : Txt K mg Cof ad fd) : FnOk P w K mg base CX0 2 (ad 10) (fd 10) ["_law_found", "_law_top", "_law_bottom"] (sp__law_is K Cof) := by
  have G__law_divisor := ok__law_divisor (P := P) (w := w) (base := base) T
  have B__law_divisor := B__law_divisor T
  have G__law_whole := ok__law_whole (P := P) (w := w) (base := base) T
  have B__law_whole := B__law_whole T
  have nd := sc__law_is.nd
  refine T.F__law_is.ok sc__law_is (fun vs H Q E h => len__law_is h) (fun cdv A outer s H vs Q E hr h => ⟨t__law_is K Cof E, ?_, rd__law_is T.ex h⟩)
  exact pss_cons (ps_if (pt_not (pt_val (pe_callB call_isi (by rfl) T.z_isinstance (by decide +kernel) (pa_cons (pv 0) (pa_cons (pe_glob (by rfl) T.q_Ratio rfl) (pa_nil)))))) (pss_one (ps_ret (pe_bl))) (pss_nil))
       (pss_cons (ps_if (PW.pt (pw_or (pt_not (pt_val (pe_call G__law_whole (hr.mono (by decide)) (by rfl) T.g__law_whole T.F__law_whole.kp B__law_whole .nil pass0 (pa_cons (pe_fld (pv 0) rfl) (pa_nil))))) (pw_or (pt_not (pt_val (pe_call G__law_whole (hr.mono (by decide)) (by rfl) T.g__law_whole T.F__law_whole.kp B__law_whole .nil pass0 (pa_cons (pe_fld (pv 0) rfl) (pa_nil))))) (pw_or1 (pt_cmpR op_lt (pe_fld (pv 0) rfl) (pe_int) (nomark _)))))) (pss_one (ps_ret (pe_bl))) (pss_nil))
       (pss_cons (ps_if (pt_cmpR op_ne (pe_op op_mulW (pe_fld (pv 0) rfl) (pv 2)) (pe_op op_mulW (pv 1) (pe_fld (pv 0) rfl)) (nomark _)) (pss_one (ps_ret (pe_bl))) (pss_nil))
       (pss_one (ps_ret (pe_cmpR op_eq (pe_call G__law_divisor (hr.mono (by decide)) (by rfl) T.g__law_divisor T.F__law_divisor.kp B__law_divisor .nil pass0 (pa_cons (pe_fld (pv 0) rfl) (pa_cons (pe_fld (pv 0) rfl) (pa_nil)))) (pe_int) (nomark _))))))
theorem ok__law_over_nought (T : Txt K mg Cof ad fd) : FnOk P w K mg base CX0 5 (ad 11) (fd 11) ["_law_one", "_law_other"] (sp__law_over_nought K Cof) := by
  have G_Ratio_over := ok_Ratio_over (P := P) (w := w) (base := base) T
  have B_Ratio_over := B_Ratio_over T
  have nd := sc__law_over_nought.nd
  refine T.F__law_over_nought.ok sc__law_over_nought (fun vs H Q E h => len__law_over_nought h) (fun cdv A outer s H vs Q E hr h => ⟨t__law_over_nought K Cof E, ?_, rd__law_over_nought T.ex h⟩)
  exact pss_cons (ps_set (i := 2) nd rfl (by first | exact Or.inl rfl | exact Or.inr rfl) (pe_bl))
       (pss_cons (ps_try_as (i := 3) (c := .ref (Cof "RootError")) (tb := fun W => tDrop (tMethS (Cof "Ratio") "over" (sp_Ratio_over K Cof) (WE W) (tVar 0) (tCons (tVar 1) (tNil)))) (ts := fun a cls d => tAsg (tAndV (tCB (rIsX K a cls d) (tCons (tVar 3) (tCons (tC (.ref (Cof "ByNought"))) (tNil)))) (tNotV (tCB (rIsX K a cls d) (tCons (tVar 3) (tCons (tC (.ref (Cof "NoRatio"))) (tNil)))))) (gName 2)) (Wout := fun _ _ _ _ => False) rfl rfl nd rfl rfl ⟨rfl, by decide, Or.inl T.q_RootError⟩ takes0 (fun W pn xe tk hpo => pss_one (ps_expr (pe_methS (pv 0) T.cls_Ratio T.meth_Ratio_over G_Ratio_over (hr.mono (by decide)) B_Ratio_over (fun σ => passAt tk σ) (pa_cons (pv 1) (pa_nil))))) (fun a oe cls d pn hz hf => pss_one (ps_set (i := 2) nd rfl (by first | exact Or.inl rfl | exact Or.inr rfl) (pe_and (pe_callB (call_isX hz hf) (by rfl) T.z_isinstance (by decide +kernel) (pa_cons (pv 3) (pa_cons (pe_glob (by rfl) T.q_ByNought rfl) (pa_nil)))) (pe_one (pe_not (pe_callB (call_isX hz hf) (by rfl) T.z_isinstance (by decide +kernel) (pa_cons (pv 3) (pa_cons (pe_glob (by rfl) T.q_NoRatio rfl) (pa_nil))))))))))
       (pss_one (ps_ret (pv 2))))
theorem ok_law (T : Txt K mg Cof ad fd) : FnOk P w K mg base CX0 6 (ad 12) (fd 12) ["_law_script"] (sp_law K Cof) := by
  have G_Ratio___init__ := ok_Ratio___init__ (P := P) (w := w) (base := base) T
  have B_Ratio___init__ := B_Ratio___init__ T
  have G_Ratio_minus := ok_Ratio_minus (P := P) (w := w) (base := base) T
  have B_Ratio_minus := B_Ratio_minus T
  have G_Ratio_over := ok_Ratio_over (P := P) (w := w) (base := base) T
  have B_Ratio_over := B_Ratio_over T
  have G_Ratio_plus := ok_Ratio_plus (P := P) (w := w) (base := base) T
  have B_Ratio_plus := B_Ratio_plus T
  have G_Ratio_times := ok_Ratio_times (P := P) (w := w) (base := base) T
  have B_Ratio_times := B_Ratio_times T
  have G__law_cell := ok__law_cell (P := P) (w := w) (base := base) T
  have B__law_cell := B__law_cell T
  have G__law_is := ok__law_is (P := P) (w := w) (base := base) T
  have B__law_is := B__law_is T
  have G__law_over_nought := ok__law_over_nought (P := P) (w := w) (base := base) T
  have B__law_over_nought := B__law_over_nought T
  have G__law_signed := ok__law_signed (P := P) (w := w) (base := base) T
  have B__law_signed := B__law_signed T
  have nd := sc_law.nd
  refine T.F_law.ok sc_law (fun vs H Q E h => len_law h) (fun cdv A outer s H vs Q E hr h => ⟨t_law K Cof E, ?_, rd_law T.ex h⟩)
  exact pss_cons (ps_set (i := 1) nd rfl (by first | exact Or.inl rfl | exact Or.inr rfl) (pe_ix ix_list (pe_lst (pa_cons (pe_int) (pa_cons (pe_op op_pow (pe_int) (pe_int)) (pa_nil)))) (pe_op op_modN (pe_call G__law_cell (hr.mono (by decide)) (by rfl) T.g__law_cell T.F__law_cell.kp B__law_cell .nil pass0 (pa_cons (pv 0) (pa_cons (pe_int) (pa_nil)))) (pe_int)) (fun _ _ => rfl)))
       (pss_cons (ps_set (i := 2) nd rfl (by first | exact Or.inl rfl | exact Or.inr rfl) (pe_call G__law_signed (hr.mono (by decide)) (by rfl) T.g__law_signed T.F__law_signed.kp B__law_signed .nil pass0 (pa_cons (pe_call G__law_cell (hr.mono (by decide)) (by rfl) T.g__law_cell T.F__law_cell.kp B__law_cell .nil pass0 (pa_cons (pv 0) (pa_cons (pe_int) (pa_nil)))) (pa_cons (pv 1) (pa_nil)))))
       (pss_cons (ps_set (i := 3) nd rfl (by first | exact Or.inl rfl | exact Or.inr rfl) (pe_op op_add (pe_int) (pe_op op_modN (pe_call G__law_cell (hr.mono (by decide)) (by rfl) T.g__law_cell T.F__law_cell.kp B__law_cell .nil pass0 (pa_cons (pv 0) (pa_cons (pe_int) (pa_nil)))) (pv 1))))
       (pss_cons (ps_set (i := 4) nd rfl (by first | exact Or.inl rfl | exact Or.inr rfl) (pe_call G__law_signed (hr.mono (by decide)) (by rfl) T.g__law_signed T.F__law_signed.kp B__law_signed .nil pass0 (pa_cons (pe_call G__law_cell (hr.mono (by decide)) (by rfl) T.g__law_cell T.F__law_cell.kp B__law_cell .nil pass0 (pa_cons (pv 0) (pa_cons (pe_int) (pa_nil)))) (pa_cons (pv 1) (pa_nil)))))
       (pss_cons (ps_set (i := 5) nd rfl (by first | exact Or.inl rfl | exact Or.inr rfl) (pe_op op_add (pe_int) (pe_op op_modN (pe_call G__law_cell (hr.mono (by decide)) (by rfl) T.g__law_cell T.F__law_cell.kp B__law_cell .nil pass0 (pa_cons (pv 0) (pa_cons (pe_int) (pa_nil)))) (pv 1))))
       (pss_cut (ps_if (pt_cmpR op_eq (pe_op op_modN (pe_op op_fdivA (pe_call G__law_cell (hr.mono (by decide)) (by rfl) T.g__law_cell T.F__law_cell.kp B__law_cell .nil pass0 (pa_cons (pv 0) (pa_cons (pe_int) (pa_nil)))) (pe_int)) (pe_int)) (pe_int) (nomark _)) (pss_cons (ps_set (i := 6) nd rfl (by first | exact Or.inl rfl | exact Or.inr rfl) (pe_op op_mulW (pe_op op_mulW (pe_op op_mulW (pe_op op_pow (pe_int) (pe_int)) (pe_op op_pow (pe_int) (pe_int))) (pe_op op_pow (pe_int) (pe_int))) (pe_op op_pow (pe_int) (pe_int))))
       (pss_one (ps_asg (pe_lc (own := [("_law_one", 7)]) (by rfl) nd (pi_tup (pe_tup (pa_cons (pv 2) (pa_cons (pv 3) (pa_cons (pv 4) (pa_cons (pv 5) (pa_nil))))))) (blkOk_by (own := [("_law_one", 7)]) (N := ["_law_script", "_law_size", "_law_a", "_law_b", "_law_c", "_law_d", "_law_far", "_law_one", "_law_other", "_law_turn"]) (sc := defScope s_law) (by decide +kernel)) (fun _ _ _ _ _ => pg_name (i := 7) nd rfl (by first | exact Or.inl rfl | exact Or.inr rfl)) (fun _ _ _ _ _ => pts_nil) (fun _ _ _ _ _ => pe_op op_add (pe_op op_mulW (pv 7) (pv 6)) (pe_int))) (pg_tupL rfl (pgs_cons (pg_name (i := 2) nd rfl (by first | exact Or.inl rfl | exact Or.inr rfl)) (pgs_cons (pg_name (i := 3) nd rfl (by first | exact Or.inl rfl | exact Or.inr rfl)) (pgs_cons (pg_name (i := 4) nd rfl (by first | exact Or.inl rfl | exact Or.inr rfl)) (pgs_cons (pg_name (i := 5) nd rfl (by first | exact Or.inl rfl | exact Or.inr rfl)) (pgs_nil))))))))) (pss_nil))
       (pss_cut (ps_if (pt_cmpR op_eq (pe_op op_modN (pe_op op_fdivA (pe_call G__law_cell (hr.mono (by decide)) (by rfl) T.g__law_cell T.F__law_cell.kp B__law_cell .nil pass0 (pa_cons (pv 0) (pa_cons (pe_int) (pa_nil)))) (pe_int)) (pe_int)) (pe_int) (nomark _)) (pss_one (ps_set (i := 4) nd rfl (by first | exact Or.inl rfl | exact Or.inr rfl) (pe_int))) (pss_nil))
       (pss_cut (ps_if (pt_cmpR op_eq (pe_op op_modN (pe_op op_fdivA (pe_call G__law_cell (hr.mono (by decide)) (by rfl) T.g__law_cell T.F__law_cell.kp B__law_cell .nil pass0 (pa_cons (pv 0) (pa_cons (pe_int) (pa_nil)))) (pe_int)) (pe_int)) (pe_int) (nomark _)) (pss_one (ps_set (i := 4) nd rfl (by first | exact Or.inl rfl | exact Or.inr rfl) (pv 2))) (pss_nil))
       (pss_cons (ps_set (i := 7) nd rfl (by first | exact Or.inl rfl | exact Or.inr rfl) (pe_make T.mk_Ratio G_Ratio___init__ (hr.mono (by decide)) (by rfl) T.q_Ratio B_Ratio___init__ .nil pass0 (pa_cons (pv 2) (pa_cons (pv 3) (pa_nil)))))
       (pss_cons (ps_set (i := 8) nd rfl (by first | exact Or.inl rfl | exact Or.inr rfl) (pe_make T.mk_Ratio G_Ratio___init__ (hr.mono (by decide)) (by rfl) T.q_Ratio B_Ratio___init__ .nil pass0 (pa_cons (pv 4) (pa_cons (pv 5) (pa_nil)))))
       (pss_cons (ps_for PassesOwn.never rfl (pi_range1 (by rfl) T.z_range (pa_cons (pe_int) (pa_nil))) (pg_name (i := 9) nd rfl (by first | exact Or.inl rfl | exact Or.inr rfl)) (pss_cons (ps_if (pt_not (pt_val (pe_call G__law_is (hr.mono (by decide)) (by rfl) T.g__law_is T.F__law_is.kp B__law_is .nil pass0 (pa_cons (pe_meth (pv 7) T.cls_Ratio T.meth_Ratio_plus G_Ratio_plus (hr.mono (by decide)) B_Ratio_plus .nil pass0 (pa_cons (pv 8) (pa_nil))) (pa_cons (pe_op op_add (pe_op op_mulW (pv 2) (pv 5)) (pe_op op_mulW (pv 4) (pv 3))) (pa_cons (pe_op op_mulW (pv 3) (pv 5)) (pa_nil))))))) (pss_one (ps_ret (pe_bl))) (pss_nil))
       (pss_cons (ps_if (pt_not (pt_val (pe_call G__law_is (hr.mono (by decide)) (by rfl) T.g__law_is T.F__law_is.kp B__law_is .nil pass0 (pa_cons (pe_meth (pv 7) T.cls_Ratio T.meth_Ratio_minus G_Ratio_minus (hr.mono (by decide)) B_Ratio_minus .nil pass0 (pa_cons (pv 8) (pa_nil))) (pa_cons (pe_op op_sub (pe_op op_mulW (pv 2) (pv 5)) (pe_op op_mulW (pv 4) (pv 3))) (pa_cons (pe_op op_mulW (pv 3) (pv 5)) (pa_nil))))))) (pss_one (ps_ret (pe_bl))) (pss_nil))
       (pss_cons (ps_if (pt_not (pt_val (pe_call G__law_is (hr.mono (by decide)) (by rfl) T.g__law_is T.F__law_is.kp B__law_is .nil pass0 (pa_cons (pe_meth (pv 8) T.cls_Ratio T.meth_Ratio_minus G_Ratio_minus (hr.mono (by decide)) B_Ratio_minus .nil pass0 (pa_cons (pv 7) (pa_nil))) (pa_cons (pe_op op_sub (pe_op op_mulW (pv 4) (pv 3)) (pe_op op_mulW (pv 2) (pv 5))) (pa_cons (pe_op op_mulW (pv 3) (pv 5)) (pa_nil))))))) (pss_one (ps_ret (pe_bl))) (pss_nil))
       (pss_cons (ps_if (pt_not (pt_val (pe_call G__law_is (hr.mono (by decide)) (by rfl) T.g__law_is T.F__law_is.kp B__law_is .nil pass0 (pa_cons (pe_meth (pv 7) T.cls_Ratio T.meth_Ratio_times G_Ratio_times (hr.mono (by decide)) B_Ratio_times .nil pass0 (pa_cons (pv 8) (pa_nil))) (pa_cons (pe_op op_mulW (pv 2) (pv 4)) (pa_cons (pe_op op_mulW (pv 3) (pv 5)) (pa_nil))))))) (pss_one (ps_ret (pe_bl))) (pss_nil))
       (pss_cons (ps_if (PW.pt (pw_and (pt_cmpR op_eq (pv 4) (pe_int) (nomark _)) (pw_and1 (pt_not (pt_val (pe_call G__law_over_nought (hr.mono (by decide)) (by rfl) T.g__law_over_nought T.F__law_over_nought.kp B__law_over_nought .nil pass0 (pa_cons (pv 7) (pa_cons (pv 8) (pa_nil))))))))) (pss_one (ps_ret (pe_bl))) (pss_nil))
       (pss_one (ps_if (PW.pt (pw_and (pt_cmpR op_ne (pv 4) (pe_int) (nomark _)) (pw_and1 (pt_not (pt_val (pe_call G__law_is (hr.mono (by decide)) (by rfl) T.g__law_is T.F__law_is.kp B__law_is .nil pass0 (pa_cons (pe_meth (pv 7) T.cls_Ratio T.meth_Ratio_over G_Ratio_over (hr.mono (by decide)) B_Ratio_over .nil passL (pa_cons (pv 8) (pa_nil))) (pa_cons (pe_op op_mulW (pv 2) (pv 5)) (pa_cons (pe_op op_mulW (pv 3) (pv 4)) (pa_nil)))))))))) (pss_one (ps_ret (pe_bl))) (pss_nil)))))))))
       (pss_one (ps_ret (pe_and (pe_call G__law_is (hr.mono (by decide)) (by rfl) T.g__law_is T.F__law_is.kp B__law_is .nil pass0 (pa_cons (pv 7) (pa_cons (pv 2) (pa_cons (pv 3) (pa_nil))))) (pe_one (pe_call G__law_is (hr.mono (by decide)) (by rfl) T.g__law_is T.F__law_is.kp B__law_is .nil pass0 (pa_cons (pv 8) (pa_cons (pv 4) (pa_cons (pv 5) (pa_nil)))))))))))))))))))
end
theorem all_mk {l : PySem.W.OpenLaw} {w : World} {K : PySem.W.Frag} {h : Heap} {mg : Str → Option Value} {fa : Addr} (X : K.In h) (G : h.Ns mainGlobals mg) (hfa : mg "law" = some (.ref fa))
    {CRatio : Addr} (aCRatio : PySem.W.nsIn K mainGlobals "Ratio" = some (some (.ref CRatio))) (kCRatio : PySem.W.keepIn K (.ref CRatio) = true)
    (pCRatio : PySem.W.plainGet K CRatio Str.empty = true) (hCRatio : PySem.W.hasDictIn K CRatio = true) (oCRatio : PySem.W.plainOver K CRatio = true) (yCRatio : PySem.W.findIn K (.ref CRatio) "__setattr__" = some (some (.builtin "object.__setattr__"))) (wCRatio : PySem.W.makesIn K CRatio = true)
    (lCRatio : PySem.W.findIn K (.ref CRatio) "__class__" = some (some (.builtin "object.__class__"))) (mCRatio : PySem.W.mroIn K CRatio (.type "object") = some true)
    (nRatio_bottom : PySem.W.findIn K (.ref CRatio) "bottom" = some none)
    (nRatio_top : PySem.W.findIn K (.ref CRatio) "top" = some none)
    {f0 : Addr} {od0 an0 : Option Addr} {sl0 : Array (Option Value)} {oc0 kV0 dc0 pm0 cd0 ct0 : Value}
    {f1 : Addr} {od1 an1 : Option Addr} {sl1 : Array (Option Value)} {oc1 kV1 dc1 pm1 cd1 ct1 : Value}
    {f2 : Addr} {od2 an2 : Option Addr} {sl2 : Array (Option Value)} {oc2 kV2 dc2 pm2 cd2 ct2 : Value}
    {f3 : Addr} {od3 an3 : Option Addr} {sl3 : Array (Option Value)} {oc3 kV3 dc3 pm3 cd3 ct3 : Value}
    {f4 : Addr} {od4 an4 : Option Addr} {sl4 : Array (Option Value)} {oc4 kV4 dc4 pm4 cd4 ct4 : Value}
    {f5 : Addr} {od5 an5 : Option Addr} {sl5 : Array (Option Value)} {oc5 kV5 dc5 pm5 cd5 ct5 : Value}
    {f6 : Addr} {od6 an6 : Option Addr} {sl6 : Array (Option Value)} {oc6 kV6 dc6 pm6 cd6 ct6 : Value}
    {f7 : Addr} {od7 an7 : Option Addr} {sl7 : Array (Option Value)} {oc7 kV7 dc7 pm7 cd7 ct7 : Value}
    {f8 : Addr} {od8 an8 : Option Addr} {sl8 : Array (Option Value)} {oc8 kV8 dc8 pm8 cd8 ct8 : Value}
    {f9 : Addr} {od9 an9 : Option Addr} {sl9 : Array (Option Value)} {oc9 kV9 dc9 pm9 cd9 ct9 : Value}
    {f10 : Addr} {od10 an10 : Option Addr} {sl10 : Array (Option Value)} {oc10 kV10 dc10 pm10 cd10 ct10 : Value}
    {f11 : Addr} {od11 an11 : Option Addr} {sl11 : Array (Option Value)} {oc11 kV11 dc11 pm11 cd11 ct11 : Value}
    {f12 : Addr} {od12 an12 : Option Addr} {sl12 : Array (Option Value)} {oc12 kV12 dc12 pm12 cd12 ct12 : Value}
    (a0 : PySem.W.nsIn K mainGlobals "shared" = some (some (.ref f0))) (l0 : K.lookup f0 = some ⟨oc0, od0, .func (PySem.W.fnOf "shared" "shared" (defArgs s_shared) (defBody s_shared) (defScope s_shared) .none kV0 dc0 pm0 an0 cd0 ct0), sl0⟩) (c0 : PySem.W.codeIn K cd0 "shared" = true) (k0 : PySem.W.keepIn K (.ref f0) = true)
    {T1 : Addr} {ocd1 : Value} {odd1 : Option Addr} {tkd1 : Tok} {nd1 : Nat} {sld1 : Array (Option Value)}
    (a1 : PySem.W.findIn K (.ref CRatio) "__init__" = some (some (.ref f1))) (i1 : PySem.W.isFn K (.ref f1) = true) (l1 : K.lookup f1 = some ⟨oc1, od1, .func (PySem.W.fnOf "__init__" "Ratio.__init__" (defArgs s_Ratio___init__) (defBody s_Ratio___init__) (defScope s_Ratio___init__) (.ref T1) kV1 dc1 pm1 an1 cd1 ct1), sl1⟩) (c1 : PySem.W.codeIn K cd1 "Ratio.__init__" = true) (k1 : PySem.W.keepIn K (.ref f1) = true)
    (d1 : K.lookup T1 = some ⟨ocd1, odd1, .seq #[.int 1 tkd1] nd1, sld1⟩)
    (a2 : PySem.W.findIn K (.ref CRatio) "plus" = some (some (.ref f2))) (i2 : PySem.W.isFn K (.ref f2) = true) (l2 : K.lookup f2 = some ⟨oc2, od2, .func (PySem.W.fnOf "plus" "Ratio.plus" (defArgs s_Ratio_plus) (defBody s_Ratio_plus) (defScope s_Ratio_plus) .none kV2 dc2 pm2 an2 cd2 ct2), sl2⟩) (c2 : PySem.W.codeIn K cd2 "Ratio.plus" = true) (k2 : PySem.W.keepIn K (.ref f2) = true)
    (a3 : PySem.W.findIn K (.ref CRatio) "minus" = some (some (.ref f3))) (i3 : PySem.W.isFn K (.ref f3) = true) (l3 : K.lookup f3 = some ⟨oc3, od3, .func (PySem.W.fnOf "minus" "Ratio.minus" (defArgs s_Ratio_minus) (defBody s_Ratio_minus) (defScope s_Ratio_minus) .none kV3 dc3 pm3 an3 cd3 ct3), sl3⟩) (c3 : PySem.W.codeIn K cd3 "Ratio.minus" = true) (k3 : PySem.W.keepIn K (.ref f3) = true)
    (a4 : PySem.W.findIn K (.ref CRatio) "times" = some (some (.ref f4))) (i4 : PySem.W.isFn K (.ref f4) = true) (l4 : K.lookup f4 = some ⟨oc4, od4, .func (PySem.W.fnOf "times" "Ratio.times" (defArgs s_Ratio_times) (defBody s_Ratio_times) (defScope s_Ratio_times) .none kV4 dc4 pm4 an4 cd4 ct4), sl4⟩) (c4 : PySem.W.codeIn K cd4 "Ratio.times" = true) (k4 : PySem.W.keepIn K (.ref f4) = true)
    (a5 : PySem.W.findIn K (.ref CRatio) "over" = some (some (.ref f5))) (i5 : PySem.W.isFn K (.ref f5) = true) (l5 : K.lookup f5 = some ⟨oc5, od5, .func (PySem.W.fnOf "over" "Ratio.over" (defArgs s_Ratio_over) (defBody s_Ratio_over) (defScope s_Ratio_over) .none kV5 dc5 pm5 an5 cd5 ct5), sl5⟩) (c5 : PySem.W.codeIn K cd5 "Ratio.over" = true) (k5 : PySem.W.keepIn K (.ref f5) = true)
    (a6 : PySem.W.nsIn K mainGlobals "_law_cell" = some (some (.ref f6))) (l6 : K.lookup f6 = some ⟨oc6, od6, .func (PySem.W.fnOf "_law_cell" "_law_cell" (defArgs s__law_cell) (defBody s__law_cell) (defScope s__law_cell) .none kV6 dc6 pm6 an6 cd6 ct6), sl6⟩) (c6 : PySem.W.codeIn K cd6 "_law_cell" = true) (k6 : PySem.W.keepIn K (.ref f6) = true)
    (a7 : PySem.W.nsIn K mainGlobals "_law_whole" = some (some (.ref f7))) (l7 : K.lookup f7 = some ⟨oc7, od7, .func (PySem.W.fnOf "_law_whole" "_law_whole" (defArgs s__law_whole) (defBody s__law_whole) (defScope s__law_whole) .none kV7 dc7 pm7 an7 cd7 ct7), sl7⟩) (c7 : PySem.W.codeIn K cd7 "_law_whole" = true) (k7 : PySem.W.keepIn K (.ref f7) = true)
    (a8 : PySem.W.nsIn K mainGlobals "_law_signed" = some (some (.ref f8))) (l8 : K.lookup f8 = some ⟨oc8, od8, .func (PySem.W.fnOf "_law_signed" "_law_signed" (defArgs s__law_signed) (defBody s__law_signed) (defScope s__law_signed) .none kV8 dc8 pm8 an8 cd8 ct8), sl8⟩) (c8 : PySem.W.codeIn K cd8 "_law_signed" = true) (k8 : PySem.W.keepIn K (.ref f8) = true)
    (a9 : PySem.W.nsIn K mainGlobals "_law_divisor" = some (some (.ref f9))) (l9 : K.lookup f9 = some ⟨oc9, od9, .func (PySem.W.fnOf "_law_divisor" "_law_divisor" (defArgs s__law_divisor) (defBody s__law_divisor) (defScope s__law_divisor) .none kV9 dc9 pm9 an9 cd9 ct9), sl9⟩) (c9 : PySem.W.codeIn K cd9 "_law_divisor" = true) (k9 : PySem.W.keepIn K (.ref f9) = true)
    (a10 : PySem.W.nsIn K mainGlobals "_law_is" = some (some (.ref f10))) (l10 : K.lookup f10 = some ⟨oc10, od10, .func (PySem.W.fnOf "_law_is" "_law_is" (defArgs s__law_is) (defBody s__law_is) (defScope s__law_is) .none kV10 dc10 pm10 an10 cd10 ct10), sl10⟩) (c10 : PySem.W.codeIn K cd10 "_law_is" = true) (k10 : PySem.W.keepIn K (.ref f10) = true)
    (a11 : PySem.W.nsIn K mainGlobals "_law_over_nought" = some (some (.ref f11))) (l11 : K.lookup f11 = some ⟨oc11, od11, .func (PySem.W.fnOf "_law_over_nought" "_law_over_nought" (defArgs s__law_over_nought) (defBody s__law_over_nought) (defScope s__law_over_nought) .none kV11 dc11 pm11 an11 cd11 ct11), sl11⟩) (c11 : PySem.W.codeIn K cd11 "_law_over_nought" = true) (k11 : PySem.W.keepIn K (.ref f11) = true)
    (a12 : PySem.W.nsIn K mainGlobals "law" = some (some (.ref f12))) (l12 : K.lookup f12 = some ⟨oc12, od12, .func (PySem.W.fnOf "law" "law" (defArgs s_law) (defBody s_law) (defScope s_law) .none kV12 dc12 pm12 an12 cd12 ct12), sl12⟩) (c12 : PySem.W.codeIn K cd12 "law" = true) (k12 : PySem.W.keepIn K (.ref f12) = true)
    {CRootError : Addr} (aCRootError : PySem.W.nsIn K mainGlobals "RootError" = some (some (.ref CRootError))) (kCRootError : PySem.W.keepIn K (.ref CRootError) = true)
    (bCRootError : PySem.W.subIn K (.ref CRootError) (.type "BaseException") = some true) (tCRootError : PySem.W.typeIn K (.ref CRootError) = some (.type "type")) (hCRootError : PySem.W.hasDictIn K CRootError = true) (vCRootError : PySem.W.subIn K (.ref CRootError) (.type "ValueError") = some true)
    (xCRootError : PySem.W.excIn K CRootError [.type "ValueError", .type "Exception", .type "BaseException", .type "object"] "ValueError.__new__" = true)
    (gCRootError : PySem.W.findIn K (.ref CRootError) "__getattribute__" = some (some (.builtin "BaseException.__getattribute__"))) (nCRootError : PySem.W.findIn K (.ref CRootError) "__getattr__" = some none) (lCRootError : PySem.W.findIn K (.ref CRootError) "__class__" = some (some (.builtin "object.__class__"))) (mCRootError : PySem.W.mroIn K CRootError (.type "object") = some true)
    {CNoRatio : Addr} (aCNoRatio : PySem.W.nsIn K mainGlobals "NoRatio" = some (some (.ref CNoRatio))) (kCNoRatio : PySem.W.keepIn K (.ref CNoRatio) = true)
    (bCNoRatio : PySem.W.subIn K (.ref CNoRatio) (.type "BaseException") = some true) (tCNoRatio : PySem.W.typeIn K (.ref CNoRatio) = some (.type "type")) (hCNoRatio : PySem.W.hasDictIn K CNoRatio = true) (vCNoRatio : PySem.W.subIn K (.ref CNoRatio) (.type "ValueError") = some true)
    (xCNoRatio : PySem.W.excIn K CNoRatio [.type "ValueError", .type "Exception", .type "BaseException", .type "object"] "ValueError.__new__" = true)
    (gCNoRatio : PySem.W.findIn K (.ref CNoRatio) "__getattribute__" = some (some (.builtin "BaseException.__getattribute__"))) (nCNoRatio : PySem.W.findIn K (.ref CNoRatio) "__getattr__" = some none) (lCNoRatio : PySem.W.findIn K (.ref CNoRatio) "__class__" = some (some (.builtin "object.__class__"))) (mCNoRatio : PySem.W.mroIn K CNoRatio (.type "object") = some true)
    {CByNought : Addr} (aCByNought : PySem.W.nsIn K mainGlobals "ByNought" = some (some (.ref CByNought))) (kCByNought : PySem.W.keepIn K (.ref CByNought) = true)
    (bCByNought : PySem.W.subIn K (.ref CByNought) (.type "BaseException") = some true) (tCByNought : PySem.W.typeIn K (.ref CByNought) = some (.type "type")) (hCByNought : PySem.W.hasDictIn K CByNought = true) (vCByNought : PySem.W.subIn K (.ref CByNought) (.type "ValueError") = some true)
    (xCByNought : PySem.W.excIn K CByNought [.type "ValueError", .type "Exception", .type "BaseException", .type "object"] "ValueError.__new__" = true)
    (gCByNought : PySem.W.findIn K (.ref CByNought) "__getattribute__" = some (some (.builtin "BaseException.__getattribute__"))) (nCByNought : PySem.W.findIn K (.ref CByNought) "__getattr__" = some none) (lCByNought : PySem.W.findIn K (.ref CByNought) "__class__" = some (some (.builtin "object.__class__"))) (mCByNought : PySem.W.mroIn K CByNought (.type "object") = some true)
    (spC : PySem.W.specialIn K (.builtin "object.__class__") "__get__" = some (some (.builtin "getset_descriptor.__get__"))) (tkC : PySem.W.takesIn K (.builtin "object.__class__") = some true)
    (sRootError_RootError : PySem.W.subIn K (.ref CRootError) (.ref CRootError) = some true)
    (sRootError_NoRatio : PySem.W.subIn K (.ref CRootError) (.ref CNoRatio) = some false)
    (sRootError_ByNought : PySem.W.subIn K (.ref CRootError) (.ref CByNought) = some false)
    (sNoRatio_RootError : PySem.W.subIn K (.ref CNoRatio) (.ref CRootError) = some true)
    (sNoRatio_NoRatio : PySem.W.subIn K (.ref CNoRatio) (.ref CNoRatio) = some true)
    (sNoRatio_ByNought : PySem.W.subIn K (.ref CNoRatio) (.ref CByNought) = some false)
    (sByNought_RootError : PySem.W.subIn K (.ref CByNought) (.ref CRootError) = some true)
    (sByNought_NoRatio : PySem.W.subIn K (.ref CByNought) (.ref CNoRatio) = some false)
    (sByNought_ByNought : PySem.W.subIn K (.ref CByNought) (.ref CByNought) = some true)
    (z_abs : PySem.W.nsIn K mainGlobals "abs" = some none)
    (z_bool : PySem.W.nsIn K mainGlobals "bool" = some none)
    (z_int : PySem.W.nsIn K mainGlobals "int" = some none)
    (z_isinstance : PySem.W.nsIn K mainGlobals "isinstance" = some none)
    (z_len : PySem.W.nsIn K mainGlobals "len" = some none)
    (z_range : PySem.W.nsIn K mainGlobals "range" = some none)
    : ∃ fd : FuncData, (∀ (s : Shared) (v : Value), BindsTo s fd ⟨[v], []⟩ [("_law_script", v)]) ∧ ∀ base : Heap, K.In base → base.Ns mainGlobals mg → FnOk l.prog w K mg base CX0 6 fa fd ["_law_script"] (sp_law K (fun _ => 0)) := by
  have e := hfa.symm.trans (PySem.W.mg_of X G a12)
  cases e
  have T : Txt K mg (fun s => if s = "RootError" then CRootError else if s = "NoRatio" then CNoRatio else if s = "ByNought" then CByNought else if s = "Ratio" then CRatio else 0) (fun i => [f0, f1, f2, f3, f4, f5, f6, f7, f8, f9, f10, f11, fa].getD i 0) (fun i => [PySem.W.fnOf "shared" "shared" (defArgs s_shared) (defBody s_shared) (defScope s_shared) .none kV0 dc0 pm0 an0 cd0 ct0, PySem.W.fnOf "__init__" "Ratio.__init__" (defArgs s_Ratio___init__) (defBody s_Ratio___init__) (defScope s_Ratio___init__) (.ref T1) kV1 dc1 pm1 an1 cd1 ct1, PySem.W.fnOf "plus" "Ratio.plus" (defArgs s_Ratio_plus) (defBody s_Ratio_plus) (defScope s_Ratio_plus) .none kV2 dc2 pm2 an2 cd2 ct2, PySem.W.fnOf "minus" "Ratio.minus" (defArgs s_Ratio_minus) (defBody s_Ratio_minus) (defScope s_Ratio_minus) .none kV3 dc3 pm3 an3 cd3 ct3, PySem.W.fnOf "times" "Ratio.times" (defArgs s_Ratio_times) (defBody s_Ratio_times) (defScope s_Ratio_times) .none kV4 dc4 pm4 an4 cd4 ct4, PySem.W.fnOf "over" "Ratio.over" (defArgs s_Ratio_over) (defBody s_Ratio_over) (defScope s_Ratio_over) .none kV5 dc5 pm5 an5 cd5 ct5, PySem.W.fnOf "_law_cell" "_law_cell" (defArgs s__law_cell) (defBody s__law_cell) (defScope s__law_cell) .none kV6 dc6 pm6 an6 cd6 ct6, PySem.W.fnOf "_law_whole" "_law_whole" (defArgs s__law_whole) (defBody s__law_whole) (defScope s__law_whole) .none kV7 dc7 pm7 an7 cd7 ct7, PySem.W.fnOf "_law_signed" "_law_signed" (defArgs s__law_signed) (defBody s__law_signed) (defScope s__law_signed) .none kV8 dc8 pm8 an8 cd8 ct8, PySem.W.fnOf "_law_divisor" "_law_divisor" (defArgs s__law_divisor) (defBody s__law_divisor) (defScope s__law_divisor) .none kV9 dc9 pm9 an9 cd9 ct9, PySem.W.fnOf "_law_is" "_law_is" (defArgs s__law_is) (defBody s__law_is) (defScope s__law_is) .none kV10 dc10 pm10 an10 cd10 ct10, PySem.W.fnOf "_law_over_nought" "_law_over_nought" (defArgs s__law_over_nought) (defBody s__law_over_nought) (defScope s__law_over_nought) .none kV11 dc11 pm11 an11 cd11 ct11, PySem.W.fnOf "law" "law" (defArgs s_law) (defBody s_law) (defScope s_law) .none kV12 dc12 pm12 an12 cd12 ct12].getD i (PySem.W.fnOf "law" "law" (defArgs s_law) (defBody s_law) (defScope s_law) .none kV12 dc12 pm12 an12 cd12 ct12)) :=
    { z_abs := PySem.W.mg_none_of X G z_abs, z_bool := PySem.W.mg_none_of X G z_bool, z_int := PySem.W.mg_none_of X G z_int, z_isinstance := PySem.W.mg_none_of X G z_isinstance, z_len := PySem.W.mg_none_of X G z_len, z_range := PySem.W.mg_none_of X G z_range, g_shared := PySem.W.mg_of X G a0, F_shared := fun_mk (st := s_shared) l0 c0 k0, F_Ratio___init__ := funD_mk l1 d1 c1 k1, mk_Ratio := ⟨wCRatio, a1, i1, kCRatio⟩, F_Ratio_plus := fun_mk (st := s_Ratio_plus) l2 c2 k2, meth_Ratio_plus := ⟨a2, i2, k2⟩, F_Ratio_minus := fun_mk (st := s_Ratio_minus) l3 c3 k3, meth_Ratio_minus := ⟨a3, i3, k3⟩, F_Ratio_times := fun_mk (st := s_Ratio_times) l4 c4 k4, meth_Ratio_times := ⟨a4, i4, k4⟩, F_Ratio_over := fun_mk (st := s_Ratio_over) l5 c5 k5, meth_Ratio_over := ⟨a5, i5, k5⟩, g__law_cell := PySem.W.mg_of X G a6, F__law_cell := fun_mk (st := s__law_cell) l6 c6 k6, g__law_whole := PySem.W.mg_of X G a7, F__law_whole := fun_mk (st := s__law_whole) l7 c7 k7, g__law_signed := PySem.W.mg_of X G a8, F__law_signed := fun_mk (st := s__law_signed) l8 c8 k8, g__law_divisor := PySem.W.mg_of X G a9, F__law_divisor := fun_mk (st := s__law_divisor) l9 c9 k9, g__law_is := PySem.W.mg_of X G a10, F__law_is := fun_mk (st := s__law_is) l10 c10 k10, g__law_over_nought := PySem.W.mg_of X G a11, F__law_over_nought := fun_mk (st := s__law_over_nought) l11 c11 k11, g_law := PySem.W.mg_of X G a12, F_law := fun_mk (st := s_law) l12 c12 k12, q_RootError := PySem.W.mg_of X G aCRootError, e_RootError := ⟨PySem.W.mg_of X G aCRootError, xCRootError, kCRootError, bCRootError, tCRootError⟩, q_NoRatio := PySem.W.mg_of X G aCNoRatio, e_NoRatio := ⟨PySem.W.mg_of X G aCNoRatio, xCNoRatio, kCNoRatio, bCNoRatio, tCNoRatio⟩, q_ByNought := PySem.W.mg_of X G aCByNought, e_ByNought := ⟨PySem.W.mg_of X G aCByNought, xCByNought, kCByNought, bCByNought, tCByNought⟩, q_Ratio := PySem.W.mg_of X G aCRatio, cls_Ratio := ⟨pCRatio, hCRatio, oCRatio, yCRatio⟩, ex := { cl_Ratio := ⟨pCRatio, hCRatio, oCRatio, yCRatio⟩, is_Ratio := ⟨lCRatio, spC, tkC, mCRatio⟩, n_Ratio_bottom := nRatio_bottom, n_Ratio_top := nRatio_top, v_RootError := kit_ve vCRootError, c_RootError := ⟨gCRootError, nCRootError, bCRootError, hCRootError, lCRootError, spC, tkC, mCRootError⟩, m_RootError_RootError := PySem.W.exm_ref bCRootError hCRootError tCRootError sRootError_RootError, i_RootError_RootError := kit_ref hCRootError tCRootError sRootError_RootError sRootError_RootError, m_RootError_NoRatio := PySem.W.exm_ref bCNoRatio hCNoRatio tCNoRatio sRootError_NoRatio, i_RootError_NoRatio := kit_ref hCNoRatio tCNoRatio sNoRatio_NoRatio sRootError_NoRatio, m_RootError_ByNought := PySem.W.exm_ref bCByNought hCByNought tCByNought sRootError_ByNought, i_RootError_ByNought := kit_ref hCByNought tCByNought sByNought_ByNought sRootError_ByNought, v_NoRatio := kit_ve vCNoRatio, c_NoRatio := ⟨gCNoRatio, nCNoRatio, bCNoRatio, hCNoRatio, lCNoRatio, spC, tkC, mCNoRatio⟩, m_NoRatio_RootError := PySem.W.exm_ref bCRootError hCRootError tCRootError sNoRatio_RootError, i_NoRatio_RootError := kit_ref hCRootError tCRootError sRootError_RootError sNoRatio_RootError, m_NoRatio_NoRatio := PySem.W.exm_ref bCNoRatio hCNoRatio tCNoRatio sNoRatio_NoRatio, i_NoRatio_NoRatio := kit_ref hCNoRatio tCNoRatio sNoRatio_NoRatio sNoRatio_NoRatio, m_NoRatio_ByNought := PySem.W.exm_ref bCByNought hCByNought tCByNought sNoRatio_ByNought, i_NoRatio_ByNought := kit_ref hCByNought tCByNought sByNought_ByNought sNoRatio_ByNought, v_ByNought := kit_ve vCByNought, c_ByNought := ⟨gCByNought, nCByNought, bCByNought, hCByNought, lCByNought, spC, tkC, mCByNought⟩, m_ByNought_RootError := PySem.W.exm_ref bCRootError hCRootError tCRootError sByNought_RootError, i_ByNought_RootError := kit_ref hCRootError tCRootError sRootError_RootError sByNought_RootError, m_ByNought_NoRatio := PySem.W.exm_ref bCNoRatio hCNoRatio tCNoRatio sByNought_NoRatio, i_ByNought_NoRatio := kit_ref hCNoRatio tCNoRatio sNoRatio_NoRatio sByNought_NoRatio, m_ByNought_ByNought := PySem.W.exm_ref bCByNought hCByNought tCByNought sByNought_ByNought, i_ByNought_ByNought := kit_ref hCByNought tCByNought sByNought_ByNought sByNought_ByNought } }
  exact ⟨PySem.W.fnOf "law" "law" (defArgs s_law) (defBody s_law) (defScope s_law) .none kV12 dc12 pm12 an12 cd12 ct12, fun s v => .of_eq rfl, fun base _ _ => ok_law T⟩
end RP
open PySem PySem.W PyProof.Rows
set_option maxHeartbeats 0 in
theorem PySem.Challenge.cw_rootspan_k03_ratio_reckoned_holds : PySem.Challenge.rw_rootspan_k03_ratio_reckoned.Holds := by
  w_on; o_law; k_head; (case hw => w_witness2)
  k_fill
  refine L2.walk_of (l := PySem.Challenge.rw_rootspan_k03_ratio_reckoned) (n := 63) (k := 6) (x := "_law_script") (CX := fun _ => L2.CX0) (sp := fun w => RP.sp_law _ (fun _ => 0)) rfl (by decide) rfl ⟨rfl, by decide, by decide⟩ (fun w h Y => PySem.W.kIn_of Y) ?F (fun _ _ a ns hl _ hS => ⟨a, ns, rfl, hS, hl, fun _ => rfl⟩) (fun _ _ _ _ _ h => h)
  case F =>
    intro w mg fa h KX G hmg
    refine' RP.all_mk KX G hmg ?aCRatio ?kCRatio ?pCRatio ?hCRatio ?oCRatio ?yCRatio ?wCRatio ?lCRatio ?mCRatio ?nRatio_bottom ?nRatio_top ?a0 ?l0 ?c0 ?k0 ?a1 ?i1 ?l1 ?c1 ?k1 ?d1 ?a2 ?i2 ?l2 ?c2 ?k2 ?a3 ?i3 ?l3 ?c3 ?k3 ?a4 ?i4 ?l4 ?c4 ?k4 ?a5 ?i5 ?l5 ?c5 ?k5 ?a6 ?l6 ?c6 ?k6 ?a7 ?l7 ?c7 ?k7 ?a8 ?l8 ?c8 ?k8 ?a9 ?l9 ?c9 ?k9 ?a10 ?l10 ?c10 ?k10 ?a11 ?l11 ?c11 ?k11 ?a12 ?l12 ?c12 ?k12 ?aCRootError ?kCRootError ?bCRootError ?tCRootError ?hCRootError ?vCRootError ?xCRootError ?gCRootError ?nCRootError ?lCRootError ?mCRootError ?aCNoRatio ?kCNoRatio ?bCNoRatio ?tCNoRatio ?hCNoRatio ?vCNoRatio ?xCNoRatio ?gCNoRatio ?nCNoRatio ?lCNoRatio ?mCNoRatio ?aCByNought ?kCByNought ?bCByNought ?tCByNought ?hCByNought ?vCByNought ?xCByNought ?gCByNought ?nCByNought ?lCByNought ?mCByNought ?spC ?tkC ?sRootError_RootError ?sRootError_NoRatio ?sRootError_ByNought ?sNoRatio_RootError ?sNoRatio_NoRatio ?sNoRatio_ByNought ?sByNought_RootError ?sByNought_NoRatio ?sByNought_ByNought ?z_abs ?z_bool ?z_int ?z_isinstance ?z_len ?z_range
    (case aCRatio => k_is); (case kCRatio => k_is); (case pCRatio => k_is); (case hCRatio => k_is); (case oCRatio => k_is); (case yCRatio => k_is); (case wCRatio => k_is); (case lCRatio => k_is); (case mCRatio => k_is); (case nRatio_bottom => k_is); (case nRatio_top => k_is); (case a0 => k_is); (case l0 => k_is); (case c0 => k_is); (case k0 => k_is); (case a1 => k_is); (case i1 => k_is); (case l1 => k_is); (case c1 => k_is); (case k1 => k_is); (case d1 => k_is); (case a2 => k_is); (case i2 => k_is); (case l2 => k_is); (case c2 => k_is); (case k2 => k_is); (case a3 => k_is); (case i3 => k_is); (case l3 => k_is); (case c3 => k_is); (case k3 => k_is); (case a4 => k_is); (case i4 => k_is); (case l4 => k_is); (case c4 => k_is); (case k4 => k_is); (case a5 => k_is); (case i5 => k_is); (case l5 => k_is); (case c5 => k_is); (case k5 => k_is); (case a6 => k_is); (case l6 => k_is); (case c6 => k_is); (case k6 => k_is); (case a7 => k_is); (case l7 => k_is); (case c7 => k_is); (case k7 => k_is); (case a8 => k_is); (case l8 => k_is); (case c8 => k_is); (case k8 => k_is); (case a9 => k_is); (case l9 => k_is); (case c9 => k_is); (case k9 => k_is); (case a10 => k_is); (case l10 => k_is); (case c10 => k_is); (case k10 => k_is); (case a11 => k_is); (case l11 => k_is); (case c11 => k_is); (case k11 => k_is); (case a12 => k_is); (case l12 => k_is); (case c12 => k_is); (case k12 => k_is); (case aCRootError => k_is); (case kCRootError => k_is); (case bCRootError => k_is); (case tCRootError => k_is); (case hCRootError => k_is); (case vCRootError => k_is); (case xCRootError => k_exc); (case gCRootError => k_is); (case nCRootError => k_is); (case lCRootError => k_is); (case mCRootError => k_is); (case aCNoRatio => k_is); (case kCNoRatio => k_is); (case bCNoRatio => k_is); (case tCNoRatio => k_is); (case hCNoRatio => k_is); (case vCNoRatio => k_is); (case xCNoRatio => k_exc); (case gCNoRatio => k_is); (case nCNoRatio => k_is); (case lCNoRatio => k_is); (case mCNoRatio => k_is); (case aCByNought => k_is); (case kCByNought => k_is); (case bCByNought => k_is); (case tCByNought => k_is); (case hCByNought => k_is); (case vCByNought => k_is); (case xCByNought => k_exc); (case gCByNought => k_is); (case nCByNought => k_is); (case lCByNought => k_is); (case mCByNought => k_is); (case spC => first | k_is | rfl | decide +kernel); (case tkC => first | k_is | rfl | decide +kernel); (case sRootError_RootError => first | rfl | k_is); (case sRootError_NoRatio => first | rfl | k_is); (case sRootError_ByNought => first | rfl | k_is); (case sNoRatio_RootError => first | rfl | k_is); (case sNoRatio_NoRatio => first | rfl | k_is); (case sNoRatio_ByNought => first | rfl | k_is); (case sByNought_RootError => first | rfl | k_is); (case sByNought_NoRatio => first | rfl | k_is); (case sByNought_ByNought => first | rfl | k_is); (case z_abs => k_is); (case z_bool => k_is); (case z_int => k_is); (case z_isinstance => k_is); (case z_len => k_is); (case z_range => k_is)

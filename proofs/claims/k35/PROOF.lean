import PyProof.Rows.All
import Wide.All
import OpenK.AllK
import Wide.FinOn
import HandS.ForMost
import HandS.Exc
import HandS.TryOnly
import HandS.ExcOwn
import HandS.WordsExc
import HandS.Wide
import HandS.IsInst
import HandS.Conv
import HandS.RevRange
import HandS.Evl
import HandS.More
import HandS.Style
import HandS.Rev
import PyProof.ListNew
import HandS.Defaults
import PySem.Challenge.RW_rootspan_k35_resultant_carried
set_option Elab.async false
set_option linter.all false
set_option maxRecDepth 100000
set_option maxHeartbeats 4000000
set_option exponentiation.threshold 100000
set_option linter.all false
set_option maxRecDepth 100000
set_option maxHeartbeats 4000000
namespace RB
open PySem PySem.Spec PyProof.Rows L2
open Evl (Ex rLenS rListS rMax2 tCut pss_cut)

/-! ### the readings' names -/
def rIAdd : R2 := rI0 fun i j => .int (i + j)
def rISub : R2 := rI0 fun i j => .int (i - j)
def rMul : R2 := rI CMulW fun i j => .int (i * j)
def rMod : R2 := rI (fun _ j => j ≠ 0) fun i j => .int (i.fmod j)
def CDivA (_ j : Int) : Prop := j ≠ 0 ∧ j.natAbs.log2 < 9000
def rDiv : R2 := rI CDivA fun i j => .int (i.fdiv j)
def rPow : R2 := rI CPow fun i j => .int (i ^ j.toNat)
def rLt : R2 := rI0 fun i j => .bl (decide (i < j))
def rLe : R2 := rI0 fun i j => .bl (decide (i ≤ j))
def rGt : R2 := rI0 fun i j => .bl (decide (j < i))
def rGe : R2 := rI0 fun i j => .bl (decide (j ≤ i))
def rIsN : R2 := fun x y H Q => y = .non ∧ Q (.bl (decide (x = .non))) H
def rNotN : R2 := fun x y H Q => y = .non ∧ Q (.bl (!decide (x = .non))) H
def rNeg : V → Hp → VK → Prop := rU fun i => .int (-i)
def rAbs : List V → Hp → VK → Prop := fun xs H Q => ∃ i, xs = [.int i] ∧ Q (.int (if i < 0 then -i else i)) H
def rMin2 : List V → Hp → VK → Prop := fun xs H Q => ∃ i j, xs = [.int i, .int j] ∧ Q (.int (if j < i then j else i)) H
def rInt1 : List V → Hp → VK → Prop := fun xs H Q => (∃ i, xs = [.int i] ∧ Q (.int i) H) ∨ ∃ k, xs = [.bl k] ∧ Q (.int (if k then 1 else 0)) H
def rAddS : R2 := fun x y H Q => ∃ i j, x = .str i ∧ y = .str j ∧ i.length + j.length ≤ sizeLine ∧ Q (.str (i ++ j)) H
def rLenStr : List V → Hp → VK → Prop := fun xs H Q => ∃ z, xs = [.str z] ∧ z.length ≤ sizeLine ∧ Q (.int z.length) H
def rStrInt : List V → Hp → VK → Prop := fun xs H Q => ∃ i, xs = [.int i] ∧ i.natAbs.log2 < 1920 ∧ Q (.str (toString i)) H
def rInsert : V → List V → Hp → VK → Prop := fun x vs H Q => ∃ (l : Addr) (xs : List V) (i : Int) (y : V), x = .ref l ∧ vs = [.int i, y] ∧ H l = some (.lst xs) ∧ xs.length < sizeLine ∧ 0 ≤ i ∧ i < 2 ^ 63 ∧ Q .non (upd H l (.lst (xs.take i.toNat ++ [y] ++ xs.drop i.toNat)))
section
variable {X : Cx}
theorem op_fdivA : OpR X (binaryOp .FloorDiv) rDiv := opI fun i j _ _ _ _ _ hc q => floordiv_int hc.1 q (.inl (PyProof.noPylong_of_log2 hc.2))
theorem op_isN1 : OpR X (compareOp .Is) rIsN := op_isN
theorem op_notN1 : OpR X (compareOp .IsNot) rNotN := op_notN
end

/-! ### heaps -/
def Exb (l : Addr) (H H' : Hp) : Prop := ∀ a, a ≠ l → ∀ o, H a = some o → H' a = some o
theorem _root_.Evl.Ex.mutb {H0 H H' : Hp} {l : Addr} (e : Ex H0 H) (b : Exb l H H') (f : H0 l = none) : Ex H0 H' := fun a o h => b a (ne_of_none h f) o (e a o h)
theorem Exb.trans {l : Addr} {H H1 H2 : Hp} (a : Exb l H H1) (b : Exb l H1 H2) : Exb l H H2 := fun c n o h => b c n o (a c n o h)
theorem Exb.ex {l : Addr} {H H1 H2 : Hp} (a : Exb l H H1) (b : Ex H1 H2) : Exb l H H2 := fun c n o h => b c o (a c n o h)
theorem _root_.Evl.Ex.exb {l : Addr} {H H1 H2 : Hp} (a : Ex H H1) (b : Exb l H1 H2) : Exb l H H2 := fun c n o h => b c n o (a c o h)
/-- a list laid anew -/
theorem newL {H : Hp} {xs : List V} {Q : VK} (k : ∀ p H', H p = none → Ex H H' → H' p = some (.lst xs) → Q (.ref p) H') : ∀ p, H p = none → Q (.ref p) (upd H p (.lst xs)) :=
  fun p hp => k p _ hp (Evl.Ex.new hp) upd_same
theorem newT {H : Hp} {xs : List V} {Q : VK} (k : ∀ p H', H p = none → Ex H H' → H' p = some (.tup xs) → Q (.ref p) H') : ∀ p, H p = none → Q (.ref p) (upd H p (.tup xs)) :=
  fun p hp => k p _ hp (Evl.Ex.new hp) upd_same
/-- an object changed -/
theorem mutL {H : Hp} {l : Addr} {o : HO} {G : Hp → Prop} (k : ∀ H', Exb l H H' → H' l = some o → G H') : G (upd H l o) :=
  k _ (fun a n o h => by rw [upd_ne n]; exact h) upd_same
theorem _root_.Evl.Ex.free {H H' : Hp} (e : Ex H H') {p : Addr} (h : H' p = none) : H p = none := Evl.fresh_back e h
theorem _root_.Evl.Ex.l {K : PySem.W.Frag} {H H' : Hp} {a : Addr} {xs : List V} (e : Ex H H') (h : SqL K H a xs) : SqL K H' a xs := Evl.ex_l e h
theorem SqL.inj {K : PySem.W.Frag} {H : Hp} {a : Addr} {xs : List V} (h : H a = some (.lst xs)) : SqL K H a xs := .inl (.inl h)

def LstK (Q : VK) : List V → Hp → Prop := fun xs H1 => xs.length ≤ sizeLine ∧ ∀ p, H1 p = none → Q (.ref p) (upd H1 p (.lst xs))
def TupK (Q : VK) : List V → Hp → Prop := fun xs H1 => xs.length ≤ sizeLine ∧ ∀ p, H1 p = none → Q (.ref p) (upd H1 p (.tup xs))
theorem small0 {n : Nat} (h : n ≤ 16777216) : n ≤ sizeLine := by rw [sizeLine_eq]; exact h
/-! ### readings, step by step -/
section
variable {K : PySem.W.Frag} {σ : L2.St} {H : Hp} {Q : VK} {D : Ends} {ta tb te to ti : TE} {t u : TS} {tt t1 t2 : TT} {g : TG}
theorem r_seq (h : t { D with nx := u D } σ H) : tSeq t u D σ H := h
theorem r_next (h : D.nx σ H) : tNext D σ H := h
theorem r_var {i : Nat} {v : V} (h : σ[i]? = some (some v)) (q : Q v H) : tVar i σ H Q := ⟨v, h, q⟩
theorem r_c {v : V} (q : Q v H) : tC v σ H Q := q
theorem r_op {r : R2} (h : ta σ H fun x H1 => tb σ H1 fun y H2 => r x y H2 Q) : tOp r ta tb σ H Q := h
theorem r_un {r : V → Hp → VK → Prop} (h : ta σ H fun x H1 => r x H1 Q) : tUn r ta σ H Q := h
theorem r_add {i j : Int} (q : Q (.int (i + j)) H) : rIAdd (.int i) (.int j) H Q := ⟨i, j, rfl, rfl, q⟩
theorem r_sub {i j : Int} (q : Q (.int (i - j)) H) : rISub (.int i) (.int j) H Q := ⟨i, j, rfl, rfl, q⟩
theorem r_mul {i j : Int} (c : CMulW i j) (q : Q (.int (i * j)) H) : rMul (.int i) (.int j) H Q := ⟨i, j, rfl, rfl, c, q⟩
theorem r_mod {i j : Int} (c : j ≠ 0) (q : Q (.int (i.fmod j)) H) : rMod (.int i) (.int j) H Q := ⟨i, j, rfl, rfl, c, q⟩
theorem r_div {i j : Int} (c : CDivA i j) (q : Q (.int (i.fdiv j)) H) : rDiv (.int i) (.int j) H Q := ⟨i, j, rfl, rfl, c, q⟩
theorem r_pow {i j : Int} (c : CPow i j) (q : Q (.int (i ^ j.toNat)) H) : rPow (.int i) (.int j) H Q := ⟨i, j, rfl, rfl, c, q⟩
theorem r_lt {i j : Int} (q : Q (.bl (decide (i < j))) H) : rLt (.int i) (.int j) H Q := ⟨i, j, rfl, rfl, q⟩
theorem r_le {i j : Int} (q : Q (.bl (decide (i ≤ j))) H) : rLe (.int i) (.int j) H Q := ⟨i, j, rfl, rfl, q⟩
theorem r_gt {i j : Int} (q : Q (.bl (decide (j < i))) H) : rGt (.int i) (.int j) H Q := ⟨i, j, rfl, rfl, q⟩
theorem r_ge {i j : Int} (q : Q (.bl (decide (j ≤ i))) H) : rGe (.int i) (.int j) H Q := ⟨i, j, rfl, rfl, q⟩
theorem r_neg {i : Int} (q : Q (.int (-i)) H) : rNeg (.int i) H Q := ⟨i, rfl, q⟩
theorem d_int (i j : Int) : decide (V.int i = V.int j) = decide (i = j) := by
  by_cases h : i = j
  · rw [h]; simp
  · rw [decide_eq_false h, decide_eq_false (fun z => h (V.int.inj z))]
theorem d_bl (i j : Bool) : decide (V.bl i = V.bl j) = decide (i = j) := by
  by_cases h : i = j
  · rw [h]; simp
  · rw [decide_eq_false h, decide_eq_false (fun z => h (V.bl.inj z))]
theorem d_str (i j : Str) : decide (V.str i = V.str j) = decide (i = j) := by
  by_cases h : i = j
  · rw [h]; simp
  · rw [decide_eq_false h, decide_eq_false (fun z => h (V.str.inj z))]
theorem r_eqI {i j : Int} (q : Q (.bl (decide (i = j))) H) : rEq (.int i) (.int j) H Q := ⟨rfl, by rw [d_int]; exact q⟩
theorem r_neI {i j : Int} (q : Q (.bl (!decide (i = j))) H) : rNe (.int i) (.int j) H Q := ⟨rfl, by rw [d_int]; exact q⟩
theorem r_eqB {i j : Bool} (q : Q (.bl (decide (i = j))) H) : rEq (.bl i) (.bl j) H Q := ⟨rfl, by rw [d_bl]; exact q⟩
theorem r_eqS {i j : Str} (q : Q (.bl (decide (i = j))) H) : rEq (.str i) (.str j) H Q := ⟨rfl, by rw [d_str]; exact q⟩
theorem r_neS {i j : Str} (q : Q (.bl (!decide (i = j))) H) : rNe (.str i) (.str j) H Q := ⟨rfl, by rw [d_str]; exact q⟩
theorem r_isN {x : V} (q : Q (.bl (decide (x = .non))) H) : rIsN x .non H Q := ⟨rfl, q⟩
theorem r_notN {x : V} (q : Q (.bl (!decide (x = .non))) H) : rNotN x .non H Q := ⟨rfl, q⟩
theorem r_ixL {p : Addr} {i : Int} {xs : List V} {v : V} (h : SqL K H p xs) (a : atI xs i = some v) (q : Q v H) : rIxL K (.ref p) (.int i) H Q := ⟨p, xs, i, v, rfl, rfl, h, a, q⟩
theorem r_ixT {p : Addr} {i : Int} {xs : List V} {v : V} (h : SqT K H p xs) (a : atI xs i = some v) (q : Q v H) : rIxT K (.ref p) (.int i) H Q := ⟨p, xs, i, v, rfl, rfl, h, a, q⟩
theorem r_cons {ta : TE} {tr : TA} {Q : List V → Hp → Prop} (h : ta σ H fun x H1 => tr σ H1 fun xs H2 => Q (x :: xs) H2) : tCons ta tr σ H Q := h
theorem r_nil {Q : List V → Hp → Prop} (h : Q [] H) : tNil σ H Q := h
theorem r_cb {r : List V → Hp → VK → Prop} {ta : TA} (h : ta σ H fun vs H1 => r vs H1 Q) : tCB r ta σ H Q := h
theorem r_abs {i : Int} (q : Q (.int (if i < 0 then -i else i)) H) : rAbs [.int i] H Q := ⟨i, rfl, q⟩
theorem r_max2 {i j : Int} (q : Q (.int (if j > i then j else i)) H) : rMax2 [.int i, .int j] H Q := ⟨i, j, rfl, q⟩
theorem r_min2 {i j : Int} (q : Q (.int (if j < i then j else i)) H) : rMin2 [.int i, .int j] H Q := ⟨i, j, rfl, q⟩
theorem r_len {p : Addr} {xs : List V} (h : SqL K H p xs) (q : Q (.int xs.length) H) : rLenS K [.ref p] H Q := ⟨p, xs, rfl, .inl h, q⟩
theorem r_lenT {p : Addr} {xs : List V} (h : SqT K H p xs) (q : Q (.int xs.length) H) : rLenS K [.ref p] H Q := ⟨p, xs, rfl, .inr h, q⟩
theorem r_list {p : Addr} {xs : List V} (h : SqL K H p xs) (q : ∀ l H', H l = none → Ex H H' → H' l = some (.lst xs) → Q (.ref l) H') : rListS K [.ref p] H Q := ⟨p, xs, rfl, .inl h, newL q⟩
theorem r_intI {i : Int} (q : Q (.int i) H) : rInt1 [.int i] H Q := .inl ⟨i, rfl, q⟩
theorem r_intB {b : Bool} (q : Q (.int (if b then 1 else 0)) H) : rInt1 [.bl b] H Q := .inr ⟨b, rfl, q⟩
theorem r_call {sp : Sp} {E : XK} {ta : TA} (h : ta σ H fun vs H1 => sp vs H1 Q E) : tCall sp [] E ta σ H Q := by
  show ta σ H fun vs H1 => sp (vs ++ []) H1 Q E
  have e : (fun vs H1 => sp (vs ++ []) H1 Q E) = fun (vs : List V) H1 => sp vs H1 Q E := by
    funext vs H1; rw [List.append_nil]
  rw [e]; exact h
theorem r_lst {ta : TA} (h : ta σ H (LstK Q)) : tLst ta σ H Q := h
theorem r_lstK {xs : List V} (k : ∀ p H', H p = none → Ex H H' → H' p = some (.lst xs) → Q (.ref p) H') (hz : xs.length ≤ 16777216 := by simp) : LstK Q xs H := ⟨small0 hz, newL k⟩
theorem r_tup {ta : TA} (h : ta σ H (TupK Q)) : tTup ta σ H Q := h
theorem r_tupK {xs : List V} (k : ∀ p H', H p = none → Ex H H' → H' p = some (.tup xs) → Q (.ref p) H') (hz : xs.length ≤ 16777216 := by simp) : TupK Q xs H := ⟨small0 hz, newT k⟩
theorem r_asg (h : te σ H fun x H1 => g x σ H1 D.nx) : tAsg te g D σ H := h
theorem r_gn {i : Nat} {v : V} {Q : L2.St → Hp → Prop} (h : Q (σ.set i (some v)) H) : gName i v σ H Q := h
theorem r_ret (h : te σ H D.rt) : tRet te D σ H := h
theorem r_drop (h : te σ H fun _ H1 => D.nx σ H1) : tDrop te D σ H := h
theorem r_ifS (h : tt σ H fun b H1 => if b = true then t D σ H1 else u D σ H1) : tIfS tt t u D σ H := h
theorem r_test {Q : Bool → Hp → Prop} (h : te σ H fun x H1 => ∃ k, x = .bl k ∧ Q k H1) : tTest te σ H Q := h
theorem r_B {Q : Bool → Hp → Prop} (h : te σ H fun x H1 => ∃ k, x = .bl k ∧ Q k H1) : tB te σ H Q := h
theorem r_bl {k : Bool} {Q : Bool → Prop} (h : Q k) : ∃ k', V.bl k = .bl k' ∧ Q k' := ⟨k, rfl, h⟩
theorem r_and {Q : Bool → Hp → Prop} (h : t1 σ H fun c H1 => if c = true then t2 σ H1 Q else Q false H1) : tAnd t1 t2 σ H Q := h
theorem r_or {Q : Bool → Hp → Prop} (h : t1 σ H fun c H1 => if c = true then Q true H1 else t2 σ H1 Q) : tOr t1 t2 σ H Q := h
theorem r_not {Q : Bool → Hp → Prop} (h : tt σ H fun c H1 => Q (!c) H1) : tNot tt σ H Q := h
theorem r_andV (h : ta σ H fun x H1 => ∃ c, x = .bl c ∧ if c = true then tb σ H1 Q else Q (.bl false) H1) : tAndV ta tb σ H Q := h
theorem r_orV (h : ta σ H fun x H1 => ∃ c, x = .bl c ∧ if c = true then Q (.bl true) H1 else tb σ H1 Q) : tOrV ta tb σ H Q := h
theorem r_notV (h : ta σ H fun x H1 => ∃ c, x = .bl c ∧ Q (.bl (!c)) H1) : tNotV ta σ H Q := h
theorem r_if (h : tt σ H fun c H1 => if c = true then ta σ H1 Q else tb σ H1 Q) : tIf tt ta tb σ H Q := h
theorem r_bm {T : String} {r : V → List V → Hp → VK → Prop} {ta : TA} (h : to σ H fun x H1 => tyV K T x H1 ∧ ta σ H1 fun xs H2 => r x xs H2 Q) : tBM K T r to ta σ H Q := h
theorem r_bm0 {T : String} {r : V → List V → Hp → VK → Prop} (h : to σ H fun x H1 => tyV K T x H1 ∧ r x [] H1 Q) : tBM0 K T r to σ H Q := h
theorem r_append {l : Addr} {xs : List V} {y : V} (h : H l = some (.lst xs)) (z : xs.length < sizeLine) (q : ∀ H', Exb l H H' → H' l = some (.lst (xs ++ [y])) → Q .non H') : rAppend (.ref l) [y] H Q :=
  ⟨l, xs, y, rfl, rfl, h, z, mutL q⟩
theorem r_pop {l : Addr} {xs : List V} {y : V} (h : H l = some (.lst xs)) (z : xs[xs.length - 1]? = some y) (q : ∀ H', Exb l H H' → H' l = some (.lst xs.dropLast) → Q y H') : rPop (.ref l) [] H Q :=
  ⟨l, xs, y, rfl, rfl, h, z, mutL q⟩
theorem r_insert {l : Addr} {xs : List V} {y : V} {i : Int} (h : H l = some (.lst xs)) (z : xs.length < sizeLine) (h0 : 0 ≤ i) (h1 : i < 2 ^ 63) (q : ∀ H', Exb l H H' → H' l = some (.lst (xs.take i.toNat ++ [y] ++ xs.drop i.toNat)) → Q .non H') : rInsert (.ref l) [.int i, y] H Q :=
  ⟨l, xs, i, y, rfl, rfl, h, z, h0, h1, mutL q⟩
theorem tyL {p : Addr} {xs : List V} (h : H p = some (.lst xs)) : tyV K "list" (.ref p) H := .inl ⟨rfl, _, .inl (.inl h)⟩
theorem r_ty {T : String} {x : V} {B : Prop} (h : tyV K T x H) (q : B) : tyV K T x H ∧ B := ⟨h, q⟩
theorem r_sub_ {ts : TSet} {v : V} {Q : L2.St → Hp → Prop} (h : to σ H fun o H1 => ti σ H1 fun i H2 => ts o i v H2 fun H3 => Q σ H3) : gSub to ti ts v σ H Q := h
theorem r_setL {p : Addr} {xs : List V} {k : Int} {j : Nat} {v : V} {Q : Hp → Prop} (h : H p = some (.lst xs)) (hk : ixN xs.length k = some j) (q : ∀ H', Exb p H H' → H' p = some (.lst (xs.set j v)) → Q H') : rSetL (.ref p) (.int k) v H Q :=
  ⟨p, xs, k, j, rfl, rfl, h, hk, mutL q⟩
theorem r_cat {l b : Addr} {xs zs : List V} (h1 : H l = some (.lst xs)) (h2 : H b = some (.lst zs)) (z : xs.length + zs.length ≤ sizeLine) (q : ∀ p H', H p = none → Ex H H' → H' p = some (.lst (xs ++ zs)) → Q (.ref p) H') : rCat (.ref l) (.ref b) H Q :=
  ⟨l, b, xs, zs, rfl, rfl, h1, h2, z, newL q⟩
theorem flat_rep {α : Type} (x : α) : ∀ n : Nat, (List.replicate n [x]).flatten = List.replicate n x
  | 0 => rfl
  | n + 1 => by rw [List.replicate_succ, List.flatten_cons, flat_rep x n, List.replicate_succ]; rfl
/-- [x] * k -/
theorem r_rep1 {l : Addr} {x : V} {k : Int} (h1 : H l = some (.lst [x])) (z : k.toNat ≤ 1000000) (q : ∀ p H', H p = none → Ex H H' → H' p = some (.lst (List.replicate k.toNat x)) → Q (.ref p) H')  (h0 : -(2 ^ 63) ≤ k := by omega) : rRep (.ref l) (.int k) H Q :=
  ⟨l, k, [x], rfl, rfl, h1, h0, by omega, by
    show 1 * k.toNat ≤ sizeLine
    rw [Nat.one_mul]
    exact Nat.le_trans z (by decide), newL fun p H' a b c => q p H' a b (by rw [flat_rep] at c; exact c)⟩
theorem r_sl {r : V → Option Int → Option Int → Hp → VK → Prop} {tl th : TO} (h : te σ H fun x H1 => tl σ H1 fun l H2 => th σ H2 fun u H3 => r x l u H3 Q) : tSl r te tl th σ H Q := h
theorem r_part {Q : Option Int → Hp → Prop} (h : te σ H fun x H1 => ∃ i, x = .int i ∧ Q (some i) H1) : tPart te σ H Q := h
theorem r_int {i : Int} {Q : Int → Prop} (h : Q i) : ∃ j, V.int i = .int j ∧ Q j := ⟨i, rfl, h⟩
theorem r_nopart {Q : Option Int → Hp → Prop} (h : Q none H) : tNoPart σ H Q := h
theorem r_slL {a : Addr} {xs : List V} {lo hi : Option Int} (h : SqL K H a xs) (q : ∀ p H', H p = none → Ex H H' → H' p = some (.lst (cutV xs lo hi)) → Q (.ref p) H') : rSlL K (.ref a) lo hi H Q := ⟨a, xs, rfl, h, newL q⟩
theorem r_par {i j : Nat} {ta : TA} (h : ta σ H fun vs H1 => ∃ v w, vs = [v, w] ∧ D.nx ((σ.set i (some v)).set j (some w)) H1) : tPar i j ta D σ H := h
theorem r_par2 {i j : Nat} {v w : V} (h : D.nx ((σ.set i (some v)).set j (some w)) H) : ∃ v' w', [v, w] = [v', w'] ∧ D.nx ((σ.set i (some v')).set j (some w')) H := ⟨v, w, rfl, h⟩
end
/-- a truth that is decided, both ways -/
theorem ite_d {p A B : Prop} [Decidable p] (h1 : p → A) (h2 : ¬ p → B) : if decide p = true then A else B := by
  by_cases h : p
  · rw [if_pos (decide_eq_true h)]; exact h1 h
  · rw [if_neg (by rw [decide_eq_false h]; decide)]; exact h2 h
theorem ite_nd {p A B : Prop} [Decidable p] (h1 : ¬ p → A) (h2 : p → B) : if (!decide p) = true then A else B := by
  by_cases h : p
  · rw [if_neg (by rw [decide_eq_true h]; decide)]; exact h2 h
  · rw [if_pos (by rw [decide_eq_false h]; rfl)]; exact h1 h
theorem ite_b {b : Bool} {A B : Prop} (h1 : b = true → A) (h2 : b = false → B) : if b = true then A else B := by
  cases b with
  | true => rw [if_pos rfl]; exact h1 rfl
  | false => rw [if_neg (by decide)]; exact h2 rfl

theorem r_isi {K : PySem.W.Frag} {H : Hp} {Q : VK} {x c : V} {t u : Value} {b : Bool} (ht : TyX K H x t) (hc : ClsV c u) (hk : PySem.W.kitOne K t u = some b) (q : Q (.bl b) H) : rIsi K [x, c] H Q := ⟨x, c, t, u, b, rfl, hc, ht, hk, q⟩
theorem iteD {p A B : Prop} [Decidable p] (h : p) (a : A) : if decide p = true then A else B := by rw [if_pos (decide_eq_true h)]; exact a
theorem iteDF {p A B : Prop} [Decidable p] (h : ¬ p) (a : B) : if decide p = true then A else B := by rw [if_neg (by rw [decide_eq_false h]; decide)]; exact a
/-! ### lists of ints, compared -/
theorem dp_ints {K : PySem.W.Frag} {H : Hp} : ∀ ns : List Int, DpAll K H (ns.map V.int) (ns.map PyData.int)
  | [] => .nil
  | n :: r => .cons (.int n) (dp_ints r)
theorem dp_listI {K : PySem.W.Frag} {H : Hp} {a : Addr} {ns : List Int} (h : SqL K H a (ns.map V.int)) : Dp K H (.ref a) (.list (ns.map PyData.int)) := .lst h (dp_ints ns)
def dI (ns : List Int) : PyData := .list (ns.map PyData.int)
theorem canLay_ints : ∀ ns : List Int, PyData.canLayAll0 (ns.map PyData.int) = true
  | [] => by simp [PyData.canLayAll0]
  | n :: r => by
    rw [List.map_cons, PyData.canLayAll0, canLay_ints r]; simp [PyData.canLay0]
theorem depth_ints : ∀ ns : List Int, PyData.depthAll (ns.map PyData.int) ≤ 1
  | [] => by simp [PyData.depthAll]
  | n :: r => by
    have := depth_ints r
    rw [List.map_cons, PyData.depthAll]
    simp [PyData.depth]
    omega
theorem shaped_dI (ns : List Int) : SeqAt.shaped (dI ns) = true := by
  have h1 := canLay_ints ns
  have h2 := depth_ints ns
  unfold SeqAt.shaped dI
  rw [Bool.and_eq_true, PyData.canLay0, PyData.depth]
  exact ⟨h1, decide_eq_true (by omega)⟩
theorem eqvAll_ints : ∀ ns ms : List Int, PyData.eqvAll (ns.map PyData.int) (ms.map PyData.int) = decide (ns = ms)
  | [], [] => by simp [PyData.eqvAll]
  | [], m :: r => by simp [PyData.eqvAll]
  | n :: r, [] => by simp [PyData.eqvAll]
  | n :: r, m :: s => by
    rw [List.map_cons, List.map_cons, PyData.eqvAll, eqvAll_ints r s]
    simp [PyData.eqv, Bool.beq_eq_decide_eq]
theorem eqv_dI (ns ms : List Int) : PyData.eqv (dI ns) (dI ms) = decide (ns = ms) := by
  unfold dI
  rw [PyData.eqv, eqvAll_ints]
theorem r_eqInts {K : PySem.W.Frag} {H : Hp} {Q : VK} {a b : Addr} {ns ms : List Int} (h1 : SqL K H a (ns.map V.int)) (h2 : SqL K H b (ms.map V.int)) (q : Q (.bl (decide (ns = ms))) H) : rEqD K (.ref a) (.ref b) H Q :=
  ⟨_, _, dp_listI h1, dp_listI h2, shaped_dI ns, shaped_dI ms, by rw [show PyData.eqv (.list (ns.map PyData.int)) (.list (ms.map PyData.int)) = decide (ns = ms) from eqv_dI ns ms]; exact q⟩
theorem r_neInts {K : PySem.W.Frag} {H : Hp} {Q : VK} {a b : Addr} {ns ms : List Int} (h1 : SqL K H a (ns.map V.int)) (h2 : SqL K H b (ms.map V.int)) (q : Q (.bl (!decide (ns = ms))) H) : rNeD K (.ref a) (.ref b) H Q :=
  ⟨_, _, dp_listI h1, dp_listI h2, shaped_dI ns, shaped_dI ms, by rw [show PyData.eqv (.list (ns.map PyData.int)) (.list (ms.map PyData.int)) = decide (ns = ms) from eqv_dI ns ms]; exact q⟩
/-! ### loops -/
def Lp (J : It) (g : TG) (tb : TS) (D : Ends) (σ : L2.St) (H : Hp) : Prop := ∃ W : Nat → Nat → L2.St → Hp → Prop, (∃ m, W 0 m σ H) ∧ ∀ i m σ H, W i m σ H →
  (J.stop i H ∧ D.nx σ H) ∨ (J.go i H ∧ ∃ N : L2.St → Hp → Prop, (∀ σ' H', N σ' H' → ∃ m', m' < m ∧ W (i + 1) m' σ' H') ∧ ∀ x H', J.yld i H x H' → g x σ H' fun σ2 H2 => tb { D with nx := N, ct := N, bk := D.nx } σ2 H2)
section
variable {K : PySem.W.Frag} {σ : L2.St} {H : Hp} {D : Ends} {te : TE} {ta : TA} {tb : TS} {g : TG} {wi : TI}
theorem r_for (h : wi σ H fun J H1 => Lp J g tb D σ H1) : tFor wi g tb D σ H := h
theorem r_iList {R : It → Hp → Prop} (h : te σ H fun x H1 => ∃ a, x = .ref a ∧ (∃ xs, SqL K H1 a xs) ∧ R (Itl K a) H1) : iList K te σ H R := h
theorem r_iListA {a : Addr} {xs : List V} (h : SqL K H a xs) (q : Lp (Itl K a) g tb D σ H) : ∃ a', V.ref a = .ref a' ∧ (∃ xs, SqL K H a' xs) ∧ Lp (Itl K a') g tb D σ H := ⟨a, rfl, ⟨xs, h⟩, q⟩
theorem r_iTup {R : It → Hp → Prop} (h : te σ H fun x H1 => ∃ a, x = .ref a ∧ (∃ xs, SqT K H1 a xs) ∧ R (Itt K a) H1) : iTup K te σ H R := h
theorem r_iTupA {a : Addr} {xs : List V} (h : SqT K H a xs) (q : Lp (Itt K a) g tb D σ H) : ∃ a', V.ref a = .ref a' ∧ (∃ xs, SqT K H a' xs) ∧ Lp (Itt K a') g tb D σ H := ⟨a, rfl, ⟨xs, h⟩, q⟩
theorem r_iRng1 {R : It → Hp → Prop} (h : ta σ H fun vs H1 => ∃ j : Int, vs = [.int j] ∧ -(2 ^ 62) ≤ j ∧ j < 2 ^ 62 ∧ R (Itr 0 j.toNat) H1) : iRng1 ta σ H R := h
theorem r_iRng1A {j : Int} (h0 : -(2 ^ 62) ≤ j) (h1 : j < 2 ^ 62) (q : Lp (Itr 0 j.toNat) g tb D σ H) : ∃ j' : Int, [V.int j] = [.int j'] ∧ -(2 ^ 62) ≤ j' ∧ j' < 2 ^ 62 ∧ Lp (Itr 0 j'.toNat) g tb D σ H := ⟨j, rfl, h0, h1, q⟩
theorem r_iRng2 {R : It → Hp → Prop} (h : ta σ H fun vs H1 => ∃ i j : Int, vs = [.int i, .int j] ∧ (-(2 ^ 62) ≤ i ∧ i < 2 ^ 62 ∧ -(2 ^ 62) ≤ j ∧ j < 2 ^ 62) ∧ R (Itr i (j - i).toNat) H1) : iRng2 ta σ H R := h
theorem r_iRng2A {i j : Int} (hb : -(2 ^ 62) ≤ i ∧ i < 2 ^ 62 ∧ -(2 ^ 62) ≤ j ∧ j < 2 ^ 62) (q : Lp (Itr i (j - i).toNat) g tb D σ H) : ∃ i' j' : Int, [V.int i, V.int j] = [.int i', .int j'] ∧ (-(2 ^ 62) ≤ i' ∧ i' < 2 ^ 62 ∧ -(2 ^ 62) ≤ j' ∧ j' < 2 ^ 62) ∧ Lp (Itr i' (j' - i').toNat) g tb D σ H := ⟨i, j, rfl, hb, q⟩
theorem r_iRev {R : It → Hp → Prop} (h : ta σ H fun vs H1 => ∃ (a : Addr) (xs : List V), vs = [.ref a] ∧ SqL K H1 a xs ∧ R (Itv K a xs.length) H1) : iRev K ta σ H R := h
theorem r_iRevA {a : Addr} {xs : List V} (h : SqL K H a xs) (q : Lp (Itv K a xs.length) g tb D σ H) : ∃ (a' : Addr) (xs : List V), [V.ref a] = [.ref a'] ∧ SqL K H a' xs ∧ Lp (Itv K a' xs.length) g tb D σ H := ⟨a, xs, rfl, h, q⟩
theorem r_iEnum {R : It → Hp → Prop} (h : ta σ H fun vs H1 => ∃ a xs, vs = [.ref a] ∧ SqL K H1 a xs ∧ R (Ite K a) H1) : iEnum K ta σ H R := h
theorem r_iEnumA {a : Addr} {xs : List V} (h : SqL K H a xs) (q : Lp (Ite K a) g tb D σ H) : ∃ (a' : Addr) (xs : List V), [V.ref a] = [.ref a'] ∧ SqL K H a' xs ∧ Lp (Ite K a') g tb D σ H := ⟨a, xs, rfl, h, q⟩
theorem r_iRevR {tr : L2.St → Hp → (Int → Int → Hp → Prop) → Prop} {R : It → Hp → Prop} (h : tr σ H fun a b H1 => -(2 ^ 62) ≤ a ∧ a < 2 ^ 62 ∧ -(2 ^ 62) ≤ b ∧ b < 2 ^ 62 ∧ R (Itc (a + (((b - a).toNat : Nat) : Int) - 1) (-1) (b - a).toNat) H1) : iRevR tr σ H R := h

theorem loop_list {a : Addr} {xs : List V} (Pv : Nat → L2.St → Hp → Prop) (h0 : Pv 0 σ H) (hl : ∀ i σ H, i ≤ xs.length → Pv i σ H → SqL K H a xs)
    (hs : ∀ i x σ H, xs[i]? = some x → Pv i σ H → g x σ H fun σ2 H2 => tb { D with nx := Pv (i + 1), ct := Pv (i + 1), bk := D.nx } σ2 H2) (hd : ∀ σ H, Pv xs.length σ H → D.nx σ H) : Lp (Itl K a) g tb D σ H := for_list Pv h0 hl hs hd
/-- a loop over a list of ints -/
theorem loop_ints {a : Addr} {ns : List Int} {j : Nat} (Pv : Nat → L2.St → Hp → Prop) (h0 : Pv 0 σ H) (hl : ∀ i σ H, i ≤ ns.length → Pv i σ H → SqL K H a (ns.map V.int))
    (hs : ∀ i x σ H, ns[i]? = some x → Pv i σ H → tb { D with nx := Pv (i + 1), ct := Pv (i + 1), bk := D.nx } (σ.set j (some (.int x))) H) (hd : ∀ σ H, Pv ns.length σ H → D.nx σ H) : Lp (Itl K a) (gName j) tb D σ H :=
  for_list (xs := ns.map V.int) Pv h0 (fun i σ H h => hl i σ H (by rw [List.length_map] at h; exact h)) (fun i x σ H hx hp => by
    rw [List.getElem?_map] at hx
    cases e : ns[i]? with
    | none => rw [e] at hx; cases hx
    | some z => rw [e] at hx; cases hx; exact hs i z σ H e hp) (fun σ H h => hd σ H (by rw [List.length_map] at h; exact h))
theorem loop_tup {a : Addr} {xs : List V} (Pv : Nat → L2.St → Hp → Prop) (h0 : Pv 0 σ H) (hl : ∀ i σ H, i ≤ xs.length → Pv i σ H → SqT K H a xs)
    (hs : ∀ i x σ H, xs[i]? = some x → Pv i σ H → g x σ H fun σ2 H2 => tb { D with nx := Pv (i + 1), ct := Pv (i + 1), bk := D.nx } σ2 H2) (hd : ∀ σ H, Pv xs.length σ H → D.nx σ H) : Lp (Itt K a) g tb D σ H := for_tup Pv h0 hl hs hd
theorem loop_range {lo : Int} {n : Nat} {j : Nat} (Pv : Nat → L2.St → Hp → Prop) (h0 : Pv 0 σ H)
    (hs : ∀ i σ H, i < n → Pv i σ H → tb { D with nx := Pv (i + 1), ct := Pv (i + 1), bk := D.nx } (σ.set j (some (.int (lo + (i : Int))))) H) (hd : ∀ σ H, Pv n σ H → D.nx σ H) : Lp (Itr lo n) (gName j) tb D σ H := for_range Pv h0 hs hd
theorem loop_range0 {n : Nat} {j : Nat} (Pv : Nat → L2.St → Hp → Prop) (h0 : Pv 0 σ H)
    (hs : ∀ i σ H, i < n → Pv i σ H → tb { D with nx := Pv (i + 1), ct := Pv (i + 1), bk := D.nx } (σ.set j (some (.int (i : Int)))) H) (hd : ∀ σ H, Pv n σ H → D.nx σ H) : Lp (Itr 0 n) (gName j) tb D σ H :=
  for_range Pv h0 (fun i σ H hi hp => by
    have e : (0 : Int) + (i : Int) = (i : Int) := Int.zero_add _
    rw [e]
    exact hs i σ H hi hp) hd
theorem loop_rangeC {lo c : Int} {n : Nat} {j : Nat} (Pv : Nat → L2.St → Hp → Prop) (h0 : Pv 0 σ H)
    (hs : ∀ i σ H, i < n → Pv i σ H → tb { D with nx := Pv (i + 1), ct := Pv (i + 1), bk := D.nx } (σ.set j (some (.int (lo + (i : Int) * c)))) H) (hd : ∀ σ H, Pv n σ H → D.nx σ H) : Lp (Itc lo c n) (gName j) tb D σ H := for_rangeC Pv h0 hs hd
theorem loop_rev {a : Addr} {xs : List V} (Pv : Nat → L2.St → Hp → Prop) (h0 : Pv 0 σ H) (hl : ∀ i σ H, i ≤ xs.length → Pv i σ H → SqL K H a xs)
    (hs : ∀ i x σ H, xs[xs.length - 1 - i]? = some x → i < xs.length → Pv i σ H → g x σ H fun σ2 H2 => tb { D with nx := Pv (i + 1), ct := Pv (i + 1), bk := D.nx } σ2 H2) (hd : ∀ σ H, Pv xs.length σ H → D.nx σ H) : Lp (Itv K a xs.length) g tb D σ H := by
  refine ⟨fun i m σ H => m = xs.length - i ∧ i ≤ xs.length ∧ Pv i σ H, ⟨xs.length, by simp, Nat.zero_le _, h0⟩, ?_⟩
  rintro i m σ H ⟨rfl, hi, p⟩
  have q := hl i σ H hi p
  by_cases hlt : i < xs.length
  · have hk : xs.length - 1 - i < xs.length := by omega
    refine .inr ⟨⟨hlt, xs, xs[xs.length - 1 - i], q, by simp [hk]⟩, Pv (i + 1), fun σ' H' p' => ⟨xs.length - (i + 1), by omega, rfl, hlt, p'⟩, fun x H' y => ?_⟩
    obtain ⟨e, y⟩ := y
    subst e
    exact hs i x σ _ (y xs q) hlt p
  · have e : i = xs.length := by omega
    subst e
    exact .inl ⟨Nat.le_refl _, hd σ H p⟩
theorem loop_enum {a : Addr} {xs : List V} {j k : Nat} (Pv : Nat → L2.St → Hp → Prop) (h0 : Pv 0 σ H) (hl : ∀ i σ H, i ≤ xs.length → Pv i σ H → SqL K H a xs)
    (hs : ∀ i x σ H H', xs[i]? = some x → Pv i σ H → Ex H H' → tb { D with nx := Pv (i + 1), ct := Pv (i + 1), bk := D.nx } ((σ.set j (some (.int (i : Int)))).set k (some x)) H') (hd : ∀ σ H, Pv xs.length σ H → D.nx σ H) :
    Lp (Ite K a) (gTup K 2 (gCons (gName j) (gCons (gName k) gNil))) tb D σ H := by
  refine ⟨fun i m σ H => m = xs.length - i ∧ i ≤ xs.length ∧ Pv i σ H, ⟨xs.length, by simp, Nat.zero_le _, h0⟩, ?_⟩
  rintro i m σ H ⟨rfl, hi, p⟩
  have q := hl i σ H hi p
  by_cases hlt : i < xs.length
  · refine .inr ⟨⟨xs, xs[i], q, by simp [hlt]⟩, Pv (i + 1), fun σ' H' p' => ⟨xs.length - (i + 1), by omega, rfl, hlt, p'⟩, fun v H' y => ?_⟩
    obtain ⟨T, x, rfl, nT, rfl, y⟩ := y
    exact ⟨T, _, rfl, .inl (.inl upd_same), rfl, _, _, rfl, x, [], rfl, rfl, hs i x σ H _ (y xs q) p (Evl.Ex.new nT)⟩
  · have e : i = xs.length := by omega
    subst e
    exact .inl ⟨⟨xs, q, Nat.le_refl _⟩, hd σ H p⟩
theorem r_while {tt : TT} (W : Nat → L2.St → Hp → Prop) (m0 : Nat) (h0 : W m0 σ H)
    (hs : ∀ m σ' H', W m σ' H' → tt σ' H' fun b H1 => if b = true then ∃ N : L2.St → Hp → Prop, (∀ σ2 H2, N σ2 H2 → ∃ m', m' < m ∧ W m' σ2 H2) ∧ tb { D with nx := N, ct := N, bk := D.nx } σ' H1 else D.nx σ' H1) : tWhile tt tb D σ H :=
  ⟨W, ⟨m0, h0⟩, hs⟩
theorem wh_in {W : Nat → L2.St → Hp → Prop} {m : Nat} (h : tb { D with nx := fun σ2 H2 => ∃ m', m' < m ∧ W m' σ2 H2, ct := fun σ2 H2 => ∃ m', m' < m ∧ W m' σ2 H2, bk := D.nx } σ H) :
    ∃ N : L2.St → Hp → Prop, (∀ σ2 H2, N σ2 H2 → ∃ m', m' < m ∧ W m' σ2 H2) ∧ tb { D with nx := N, ct := N, bk := D.nx } σ H := ⟨_, fun _ _ h => h, h⟩
end
/-! ### bounds -/
theorem small_le {n : Nat} (h : n ≤ 16777216) : n ≤ sizeLine := by rw [sizeLine_eq]; exact h
theorem small_lt {n : Nat} (h : n < 16777216) : n < sizeLine := by rw [sizeLine_eq]; exact h
/-! ### comprehensions -/
def Lc (J : It) (g : TG) (tt : TT) (te : TE) (vs : List Nat) (σ : L2.St) (H1 : Hp) (Q : VK) : Prop := ∀ D, H1 D = none → ∃ W : Nat → Nat → Hp → Prop, (∃ m, W 0 m (upd H1 D (.lst []))) ∧ ∀ i m H, W i m H →
  (J.stop i H ∧ Q (.ref D) H) ∨ (J.go i H ∧ ∃ Nx : Hp → Prop, (∀ H', Nx H' → ∃ m', m' < m ∧ W (i + 1) m' H') ∧ ∀ x H', J.yld i H x H' → g x (wipe σ vs) H' fun σ2 H2 => wipe σ2 vs = wipe σ vs ∧ tt σ2 H2 fun b H3 =>
    if b = true then te σ2 H3 fun y H4 => ∃ acc, H4 D = some (.lst acc) ∧ acc.length < sizeLine ∧ Nx (upd H4 D (.lst (acc ++ [y]))) else Nx H3)
theorem r_lc {wi : TI} {g : TG} {tt : TT} {te : TE} {vs : List Nat} {σ : L2.St} {H : Hp} {Q : VK} (h : wi σ H fun J H1 => Lc J g tt te vs σ H1 Q) : tLc wi g tt te vs σ H Q := h
theorem set_set {α : Type} : ∀ (l : List α) (i : Nat) (a b : α), (l.set i a).set i b = l.set i b
  | [], _, _, _ => rfl
  | _ :: _, 0, _, _ => rfl
  | x :: l, i + 1, a, b => by show x :: (l.set i a).set i b = x :: l.set i b; rw [set_set l i a b]
section
variable {K : PySem.W.Frag} {σ : L2.St} {H : Hp} {te : TE} {Q : VK} {g : TG}
theorem r_cListA {a : Addr} {xs : List V} {tt : TT} {vs : List Nat} (h : SqL K H a xs) (q : Lc (Itl K a) g tt te vs σ H Q) : ∃ a', V.ref a = .ref a' ∧ (∃ xs, SqL K H a' xs) ∧ Lc (Itl K a') g tt te vs σ H Q := ⟨a, rfl, ⟨xs, h⟩, q⟩
theorem r_cRng1A {j : Int} {tt : TT} {vs : List Nat} (h0 : -(2 ^ 62) ≤ j) (h1 : j < 2 ^ 62) (q : Lc (Itr 0 j.toNat) g tt te vs σ H Q) : ∃ j' : Int, [V.int j] = [.int j'] ∧ -(2 ^ 62) ≤ j' ∧ j' < 2 ^ 62 ∧ Lc (Itr 0 j'.toNat) g tt te vs σ H Q := ⟨j, rfl, h0, h1, q⟩
theorem r_cRng2A {i j : Int} {tt : TT} {vs : List Nat} (hb : -(2 ^ 62) ≤ i ∧ i < 2 ^ 62 ∧ -(2 ^ 62) ≤ j ∧ j < 2 ^ 62) (q : Lc (Itr i (j - i).toNat) g tt te vs σ H Q) : ∃ i' j' : Int, [V.int i, V.int j] = [.int i', .int j'] ∧ (-(2 ^ 62) ≤ i' ∧ i' < 2 ^ 62 ∧ -(2 ^ 62) ≤ j' ∧ j' < 2 ^ 62) ∧ Lc (Itr i' (j' - i').toNat) g tt te vs σ H Q := ⟨i, j, rfl, hb, q⟩
/-- over a list, each item giving a value by a function -/
theorem lc_map {a : Addr} {xs : List V} {j : Nat} (f : V → V) (hx : SqL K H a xs) (hz : xs.length < 1000000)
    (he : ∀ x, x ∈ xs → ∀ H1, Ex H H1 → ∀ Q' : VK, (∀ H2, Ex H1 H2 → Q' (f x) H2) → te (σ.set j (some x)) H1 Q')
    (q : ∀ p H', H p = none → Ex H H' → H' p = some (.lst (xs.map f)) → Q (.ref p) H') : Lc (Itl K a) (gName j) tYes te [j] σ H Q := fun D hD =>
  lc_list (xs := xs) (fun i H' => Ex H H' ∧ H' D = some (.lst ((xs.take i).map f))) ⟨Evl.Ex.new hD, upd_same⟩ (fun i H' _ p => p.1.l hx)
    (fun i x H' hi p => ⟨by show ((σ.set j none).set j (some x)).set j none = σ.set j none; rw [set_set, set_set], by
      show te ((σ.set j none).set j (some x)) H' _
      rw [set_set]
      refine he x (List.mem_of_getElem? hi) H' p.1 _ fun H2 e2 => ⟨_, e2 D _ p.2, ?_, (Evl.Ex.mut (p.1.trans e2) hD), ?_⟩
      · rw [List.length_map, List.length_take]; exact small_lt (by omega)
      · rw [upd_same, List.take_add_one, hi, List.map_append]; rfl⟩)
    (fun H' p => q D H' hD p.1 (by rw [List.take_length] at p; exact p.2))
/-- over a list of ints, each giving an int -/
theorem lc_ints {a : Addr} {ns : List Int} {j : Nat} (f : Int → Int) (hx : SqL K H a (ns.map V.int)) (hz : ns.length < 1000000)
    (he : ∀ x, x ∈ ns → ∀ H1, Ex H H1 → ∀ Q' : VK, (∀ H2, Ex H1 H2 → Q' (.int (f x)) H2) → te (σ.set j (some (.int x))) H1 Q')
    (q : ∀ p H', H p = none → Ex H H' → H' p = some (.lst ((ns.map f).map V.int)) → Q (.ref p) H') : Lc (Itl K a) (gName j) tYes te [j] σ H Q :=
  lc_map (xs := ns.map V.int) (fun v => match v with | .int x => .int (f x) | v => v) hx (by rw [List.length_map]; exact hz)
    (fun v hv H1 e1 Q' k => by
      obtain ⟨x, hx', rfl⟩ := List.mem_map.mp hv
      exact he x hx' H1 e1 Q' k)
    (fun p H' hp e h => q p H' hp e (by
      rw [List.map_map] at h ⊢
      exact h))
/-- over a range from 0, each giving an int -/
theorem lc_rangeI {n : Nat} {j : Nat} (f : Nat → Int) (hz : n < 1000000)
    (he : ∀ i, i < n → ∀ H1, Ex H H1 → ∀ Q' : VK, (∀ H2, Ex H1 H2 → Q' (.int (f i)) H2) → te (σ.set j (some (.int (i : Int)))) H1 Q')
    (q : ∀ p H', H p = none → Ex H H' → H' p = some (.lst (((List.range n).map f).map V.int)) → Q (.ref p) H') : Lc (Itr 0 n) (gName j) tYes te [j] σ H Q := fun D hD =>
  lc_range (lo := 0) (n := n) (fun i H' => Ex H H' ∧ H' D = some (.lst (((List.range i).map f).map V.int))) ⟨Evl.Ex.new hD, upd_same⟩
    (fun i H' hi p => ⟨by show ((σ.set j none).set j _).set j none = σ.set j none; rw [set_set, set_set], by
      show te ((σ.set j none).set j (some (.int ((0 : Int) + (i : Int))))) H' _
      rw [set_set, show (0 : Int) + (i : Int) = (i : Int) from Int.zero_add _]
      refine he i hi H' p.1 _ fun H2 e2 => ⟨_, e2 D _ p.2, ?_, (Evl.Ex.mut (p.1.trans e2) hD), ?_⟩
      · rw [List.length_map, List.length_map, List.length_range]; exact small_lt (by omega)
      · rw [upd_same, List.range_succ, List.map_append, List.map_append]; rfl⟩)
    (fun H' p => q D H' hD p.1 p.2)
end
/-- an item of a list of ints -/
theorem r_ixI {K : PySem.W.Frag} {H : Hp} {Q : VK} {p : Addr} {i : Int} {ns : List Int} (h : SqL K H p (ns.map V.int)) (h0 : 0 ≤ i) (h1 : i < ns.length) (q : Q (.int (ns.getD i.toNat 0)) H) : rIxL K (.ref p) (.int i) H Q := by
  obtain ⟨k, rfl⟩ : ∃ k : Nat, i = (k : Int) := ⟨i.toNat, by omega⟩
  have hk : k < ns.length := by omega
  refine r_ixL h (atI_nat (j := k) (v := .int ns[k]) ?_) ?_
  · rw [List.getElem?_map, List.getElem?_eq_getElem hk]; rfl
  · rw [Int.toNat_natCast, List.getD_eq_getElem?_getD, List.getElem?_eq_getElem hk] at q
    exact q
/-- a slice of a list of ints, both ends in it -/
theorem cutI (ns : List Int) (lo hi : Option Int) : cutV (ns.map V.int) lo hi = ((ns.drop (HT.sIx ns.length 0 lo)).take (HT.sIx ns.length ns.length hi - HT.sIx ns.length 0 lo)).map V.int := by
  unfold cutV
  rw [List.length_map, List.map_take, List.map_drop]
/-- the part of a list between two bounds -/
def sliceI (ns : List Int) (lo hi : Option Int) : List Int := (ns.drop (HT.sIx ns.length 0 lo)).take (HT.sIx ns.length ns.length hi - HT.sIx ns.length 0 lo)
theorem sliceI_mem {ns : List Int} {lo hi : Option Int} {x : Int} (h : x ∈ sliceI ns lo hi) : x ∈ ns := List.mem_of_mem_drop (List.mem_of_mem_take h)
theorem sliceI_len (ns : List Int) (lo hi : Option Int) : (sliceI ns lo hi).length ≤ ns.length := by
  unfold sliceI
  rw [List.length_take, List.length_drop]; omega
theorem r_slI {K : PySem.W.Frag} {H : Hp} {Q : VK} {a : Addr} {ns : List Int} {lo hi : Option Int} (h : SqL K H a (ns.map V.int)) (q : ∀ p H', H p = none → Ex H H' → H' p = some (.lst ((sliceI ns lo hi).map V.int)) → Q (.ref p) H') : rSlL K (.ref a) lo hi H Q :=
  r_slL h fun p H' hp e hh => q p H' hp e (by rw [cutI] at hh; exact hh)
theorem r_repN {H : Hp} {Q : VK} {l : Addr} {ns : List Int} {k : Int} (h1 : H l = some (.lst (ns.map V.int))) (hk : k < 2 ^ 63) (z : ns.length * k.toNat ≤ 16777216) (q : ∀ p H', H p = none → Ex H H' → H' p = some (.lst (((List.replicate k.toNat ns).flatten).map V.int)) → Q (.ref p) H') (h0 : -(2 ^ 63) ≤ k := by omega) : rRep (.ref l) (.int k) H Q :=
  ⟨l, k, _, rfl, rfl, h1, h0, hk, by rw [List.length_map]; exact small0 z, newL fun p H' a b c => q p H' a b (by rw [List.map_flatten, List.map_replicate]; exact c)⟩
def insI (ns : List Int) (i : Int) (y : Int) : List Int := ns.take i.toNat ++ [y] ++ ns.drop i.toNat
theorem insI_mem {ns : List Int} {i y x : Int} : x ∈ insI ns i y ↔ x = y ∨ x ∈ ns := by
  unfold insI
  have h : x ∈ ns ↔ x ∈ ns.take i.toNat ∨ x ∈ ns.drop i.toNat := by rw [← List.mem_append, List.take_append_drop]
  rw [h, List.mem_append, List.mem_append, List.mem_singleton]
  constructor
  · rintro ((h | h) | h)
    · exact .inr (.inl h)
    · exact .inl h
    · exact .inr (.inr h)
  · rintro (h | h | h)
    · exact .inl (.inr h)
    · exact .inl (.inl h)
    · exact .inr h
theorem insI_len (ns : List Int) (i y : Int) : (insI ns i y).length = ns.length + 1 := by
  unfold insI
  rw [List.length_append, List.length_append, List.length_take, List.length_drop]
  show min i.toNat ns.length + 1 + (ns.length - i.toNat) = _
  omega
theorem r_insertI {H : Hp} {Q : VK} {l : Addr} {ns : List Int} {i y : Int} (h : H l = some (.lst (ns.map V.int))) (z : ns.length < 16777216) (h0 : 0 ≤ i) (h1 : i < 2 ^ 63) (q : ∀ H', Exb l H H' → H' l = some (.lst ((insI ns i y).map V.int)) → Q .non H') : rInsert (.ref l) [.int i, .int y] H Q :=
  r_insert h (by rw [List.length_map]; exact small_lt z) h0 h1 fun H' e hh => q H' e (by
    unfold insI
    rw [List.map_append, List.map_append, List.map_take, List.map_drop]
    exact hh)
theorem r_appendI {H : Hp} {Q : VK} {l : Addr} {ns : List Int} {y : Int} (h : H l = some (.lst (ns.map V.int))) (z : ns.length < 16777216) (q : ∀ H', Exb l H H' → H' l = some (.lst ((ns ++ [y]).map V.int)) → Q .non H') : rAppend (.ref l) [.int y] H Q :=
  r_append h (by rw [List.length_map]; exact small_lt z) fun H' e hh => q H' e (by rw [List.map_append]; exact hh)
theorem r_catI {H : Hp} {Q : VK} {l b : Addr} {ns ms : List Int} (h1 : H l = some (.lst (ns.map V.int))) (h2 : H b = some (.lst (ms.map V.int))) (z : ns.length + ms.length ≤ 16777216) (q : ∀ p H', H p = none → Ex H H' → H' p = some (.lst ((ns ++ ms).map V.int)) → Q (.ref p) H') : rCat (.ref l) (.ref b) H Q :=
  r_cat h1 h2 (by rw [List.length_map, List.length_map]; exact small0 z) fun p H' a e hh => q p H' a e (by rw [List.map_append]; exact hh)
theorem i_t {A B : Prop} (h : A) : if true = true then A else B := iteT h
theorem i_f {A B : Prop} (h : B) : if false = true then A else B := iteF h
theorem i_nt {A B : Prop} (h : B) : if (!true) = true then A else B := iteF h
theorem i_nf {A B : Prop} (h : A) : if (!false) = true then A else B := iteT h
theorem sliceI_to {ns : List Int} {n : Nat} (h : n ≤ ns.length) : sliceI ns none (some (n : Int)) = ns.take n := by
  unfold sliceI
  rw [HT.sIx_none, HT.sIx_nat, List.drop_zero, Nat.min_eq_left h]; rfl
theorem sliceI_toI {ns : List Int} {n : Int} (h0 : 0 ≤ n) : sliceI ns none (some n) = ns.take n.toNat := by
  obtain ⟨k, rfl⟩ : ∃ k : Nat, n = (k : Int) := ⟨n.toNat, by omega⟩
  unfold sliceI
  rw [HT.sIx_none, HT.sIx_nat, List.drop_zero, Int.toNat_natCast, Nat.sub_zero]
  by_cases h : k ≤ ns.length
  · rw [Nat.min_eq_left h]
  · rw [Nat.min_eq_right (by omega), List.take_length, List.take_of_length_le (by omega)]
theorem sliceI_fromI {ns : List Int} {n : Int} (h0 : 0 ≤ n) : sliceI ns (some n) none = ns.drop n.toNat := by
  obtain ⟨k, rfl⟩ : ∃ k : Nat, n = (k : Int) := ⟨n.toNat, by omega⟩
  unfold sliceI
  rw [HT.sIx_none, HT.sIx_nat, Int.toNat_natCast]
  by_cases h : k ≤ ns.length
  · rw [Nat.min_eq_left h, List.take_of_length_le (by rw [List.length_drop]; omega)]
  · rw [Nat.min_eq_right (by omega), List.drop_eq_nil_of_le (by omega : ns.length ≤ k), List.drop_length, List.take_nil]
theorem sliceI_bothI {ns : List Int} {n m : Int} (h0 : 0 ≤ n) (h1 : n ≤ m) : sliceI ns (some n) (some m) = (ns.drop n.toNat).take (m.toNat - n.toNat) := by
  obtain ⟨k, rfl⟩ : ∃ k : Nat, n = (k : Int) := ⟨n.toNat, by omega⟩
  obtain ⟨l, rfl⟩ : ∃ l : Nat, m = (l : Int) := ⟨m.toNat, by omega⟩
  unfold sliceI
  rw [HT.sIx_nat, HT.sIx_nat, Int.toNat_natCast, Int.toNat_natCast]
  by_cases h : k ≤ ns.length
  · rw [Nat.min_eq_left h]
    by_cases h' : l ≤ ns.length
    · rw [Nat.min_eq_left h']
    · rw [Nat.min_eq_right (by omega), List.take_of_length_le (by rw [List.length_drop]; omega), List.take_of_length_le (by rw [List.length_drop]; omega)]
  · rw [Nat.min_eq_right (show ns.length ≤ k by omega), List.drop_length, List.drop_eq_nil_of_le (by omega : ns.length ≤ k)]; simp
/-- what a def that makes a new list of ints promises -/
def RetI (xs : List Int) (H : Hp) (Q : VK) : Prop := ∀ p H', H p = none → Ex H H' → H' p = some (.lst (xs.map V.int)) → Q (.ref p) H'
theorem RetI.go {xs : List Int} {H H1 : Hp} {Q : VK} (k : RetI xs H Q) (e : Ex H H1) {p : Addr} {H2 : Hp} (hp : H1 p = none) (e2 : Ex H1 H2) (h : H2 p = some (.lst (xs.map V.int))) : Q (.ref p) H2 := k p H2 (Evl.fresh_back e hp) (e.trans e2) h
/-! ### the heap since the entry -/
/-- all that stood in H stands in H' (the same as Ex, kept apart) -/
structure Fx (H H' : Hp) : Prop where
  to : Ex H H'
theorem Fx.refl (H : Hp) : Fx H H := ⟨Evl.Ex.refl H⟩
theorem Fx.ex {H H1 H2 : Hp} (f : Fx H H1) (e : Ex H1 H2) : Fx H H2 := ⟨Evl.Ex.trans f.to e⟩
theorem Fx.of {H H1 : Hp} (e : Ex H H1) : Fx H H1 := ⟨e⟩
theorem Fx.mut {H H1 H2 : Hp} {l : Addr} (f : Fx H H1) (b : Exb l H1 H2) (h : H l = none) : Fx H H2 := ⟨Evl.Ex.mutb f.to b h⟩
theorem Fx.free {H H1 : Hp} {p : Addr} (f : Fx H H1) (h : H1 p = none) : H p = none := Evl.fresh_back f.to h
theorem Fx.l {K : PySem.W.Frag} {H H' : Hp} {a : Addr} {xs : List V} (e : Fx H H') (h : SqL K H a xs) : SqL K H' a xs := Evl.ex_l e.to h
theorem hx_e {H H' : Hp} {a : Addr} {o : HO} (e : Ex H H') (h : H a = some o) : H' a = some o := e a o h
theorem hx_b {H H' : Hp} {a l : Addr} {o : HO} (e : Exb l H H') (n : a ≠ l) (h : H a = some o) : H' a = some o := e a n o h
theorem ne_1 {H : Hp} {a l : Addr} {o : HO} (h' : H l = none) (h : H a = some o) : a ≠ l := ne_of_none h h'
theorem ne_2 {H : Hp} {a l : Addr} {o : HO} (h' : H a = none) (h : H l = some o) : a ≠ l := (ne_of_none h h').symm
def tTru (K : PySem.W.Frag) (te : TE) : TT := fun σ H Q => te σ H fun x H' => ∃ k, TruV K x H' k ∧ Q k H'
theorem pt_tru {X : Cx} {a : Expr} {ta : TE} (ha : PE X a ta) (he : ∀ whole, isTrue a X.env whole = (do let v ← whole; standAt a.pos; holding [v] (truthy v)) := by intro _; rfl) : PT X a (tTru X.K ta) := pt_truth ha he
theorem r_tru {K : PySem.W.Frag} {te : TE} {σ : L2.St} {H : Hp} {Q : Bool → Hp → Prop} (h : te σ H fun x H' => ∃ k, TruV K x H' k ∧ Q k H') : tTru K te σ H Q := h
theorem r_truL {K : PySem.W.Frag} {a : Addr} {xs : List V} {H : Hp} {Q : Bool → Prop} (h : SqL K H a xs) (q : Q (!xs.isEmpty)) : ∃ k, TruV K (.ref a) H k ∧ Q k := ⟨_, .inl ⟨xs, h, rfl⟩, q⟩
def RevK (K : PySem.W.Frag) (Q : VK) : V → Hp → Prop := fun x H1 => ∃ a xs, x = .ref a ∧ SqL K H1 a xs ∧ ∀ p, H1 p = none → Q (.ref p) (upd H1 p (.lst xs.reverse))
theorem r_rev {K : PySem.W.Frag} {te : TE} {σ : L2.St} {H : Hp} {Q : VK} (h : te σ H (RevK K Q)) : tRevL K te σ H Q := h
theorem r_revI {K : PySem.W.Frag} {H : Hp} {Q : VK} {a : Addr} {ns : List Int} (h : SqL K H a (ns.map V.int)) (q : ∀ p H', H p = none → Ex H H' → H' p = some (.lst (ns.reverse.map V.int)) → Q (.ref p) H') : RevK K Q (.ref a) H :=
  ⟨a, _, rfl, h, newL fun p H' hp e hh => q p H' hp e (by rw [List.map_reverse]; exact hh)⟩
theorem rg2 {a b : Int} (ha : 0 ≤ a) (ha' : a < 2 ^ 60) (hb : -(2 ^ 60) ≤ b) (hb' : b < 2 ^ 60) : RgC a b 2 ((b - a + 1) / 2).toNat := by
  have e : Builtin.Range.rangeSize a b 2 = (((b - a + 1) / 2).toNat : Int) := by
    unfold Builtin.Range.rangeSize
    rw [if_pos (by decide)]
    split <;> omega
  refine ⟨by decide, by decide, ?_, e⟩
  unfold Builtin.Range.small
  rw [e]
  simp only [Builtin.Range.rangeFitsLong, Bool.and_eq_true, Bool.or_eq_true, decide_eq_true_eq, beq_iff_eq, show ((2 : Int) > 0) by decide, if_true]
  omega
theorem r_iRng3 {ta : TA} {σ : L2.St} {H : Hp} {R : It → Hp → Prop} (h : ta σ H fun vs H1 => ∃ (i j c : Int) (n : Nat), vs = [.int i, .int j, .int c] ∧ RgC i j c n ∧ R (Itc i c n) H1) : iRng3 ta σ H R := h
theorem r_iRng3A {g : TG} {tb : TS} {D : Ends} {σ : L2.St} {H : Hp} {i j c : Int} {n : Nat} (h : RgC i j c n) (q : Lp (Itc i c n) g tb D σ H) : ∃ (i' j' c' : Int) (n : Nat), [V.int i, V.int j, V.int c] = [.int i', .int j', .int c'] ∧ RgC i' j' c' n ∧ Lp (Itc i' c' n) g tb D σ H := ⟨i, j, c, n, rfl, h, q⟩
/-- over a range from lo, each giving an int -/
theorem lc_rangeL {σ : L2.St} {H : Hp} {te : TE} {Q : VK} {lo : Int} {n : Nat} {j : Nat} (f : Nat → Int) (hz : n < 1000000)
    (he : ∀ i, i < n → ∀ H1, Ex H H1 → ∀ Q' : VK, (∀ H2, Ex H1 H2 → Q' (.int (f i)) H2) → te (σ.set j (some (.int (lo + (i : Int))))) H1 Q')
    (q : ∀ p H', H p = none → Ex H H' → H' p = some (.lst (((List.range n).map f).map V.int)) → Q (.ref p) H') : Lc (Itr lo n) (gName j) tYes te [j] σ H Q := fun D hD =>
  lc_range (lo := lo) (n := n) (fun i H' => Ex H H' ∧ H' D = some (.lst (((List.range i).map f).map V.int))) ⟨Evl.Ex.new hD, upd_same⟩
    (fun i H' hi p => ⟨by show ((σ.set j none).set j _).set j none = σ.set j none; rw [set_set, set_set], by
      show te ((σ.set j none).set j (some (.int (lo + (i : Int))))) H' _
      rw [set_set]
      refine he i hi H' p.1 _ fun H2 e2 => ⟨_, e2 D _ p.2, ?_, (Evl.Ex.mut (p.1.trans e2) hD), ?_⟩
      · rw [List.length_map, List.length_map, List.length_range]; exact small_lt (by omega)
      · rw [upd_same, List.range_succ, List.map_append, List.map_append]; rfl⟩)
    (fun H' p => q D H' hD p.1 p.2)
theorem r_lenI {K : PySem.W.Frag} {H : Hp} {Q : VK} {p : Addr} {ns : List Int} (h : SqL K H p (ns.map V.int)) (q : Q (.int ns.length) H) : rLenS K [.ref p] H Q := ⟨p, _, rfl, .inl h, by rw [List.length_map]; exact q⟩
/-- the last item -/
theorem r_ixLast {K : PySem.W.Frag} {H : Hp} {Q : VK} {p : Addr} {ns : List Int} (h : SqL K H p (ns.map V.int)) (h0 : ns ≠ []) (q : Q (.int (ns.getD (ns.length - 1) 0)) H) : rIxL K (.ref p) (.int (-1)) H Q := by
  have e : ns.map V.int = (ns.dropLast.map V.int) ++ [.int (ns.getD (ns.length - 1) 0)] := by
    have e1 : ns.getD (ns.length - 1) 0 = ns.getLast h0 := by
      rw [List.getD_eq_getElem?_getD, ← List.getLast?_eq_getElem?, List.getLast?_eq_some_getLast h0]; rfl
    rw [e1, ← List.map_singleton, ← List.map_append, List.dropLast_concat_getLast]
  exact r_ixL h (by rw [e]; exact atI_last _ _) q
theorem r_truI {K : PySem.W.Frag} {a : Addr} {ns : List Int} {H : Hp} {Q : Bool → Hp → Prop} (h : SqL K H a (ns.map V.int)) (q : Q (!decide (ns = [])) H) : ∃ k, TruV K (.ref a) H k ∧ Q k H := ⟨_, .inl ⟨_, h, rfl⟩, by
  have e : (!(ns.map V.int).isEmpty) = !decide (ns = []) := by
    cases ns with
    | nil => rfl
    | cons x r => rfl
  rw [e]; exact q⟩
theorem r_rg1 {te : TE} {σ : L2.St} {H : Hp} {R : Int → Int → Hp → Prop} (h : te σ H fun x H1 => ∃ b, x = .int b ∧ R 0 b H1) : tRg1 te σ H R := h
theorem r_revRA {g : TG} {tb : TS} {D : Ends} {σ : L2.St} {H : Hp} {b : Int} (h0 : -(2 ^ 62) ≤ b) (h1 : b < 2 ^ 62) (q : Lp (Itc (b.toNat - 1) (-1) b.toNat) g tb D σ H) : -(2 ^ 62) ≤ (0 : Int) ∧ (0 : Int) < 2 ^ 62 ∧ -(2 ^ 62) ≤ b ∧ b < 2 ^ 62 ∧ Lp (Itc (0 + (((b - 0).toNat : Nat) : Int) - 1) (-1) (b - 0).toNat) g tb D σ H := ⟨by decide, by decide, h0, h1, by
  rw [Int.sub_zero, Int.zero_add]; exact q⟩
/-- a loop over range(n), backwards -/
theorem loop_down {n : Nat} {j : Nat} {tb : TS} {D : Ends} {σ : L2.St} {H : Hp} (Pv : Nat → L2.St → Hp → Prop) (h0 : Pv n σ H)
    (hs : ∀ k σ H, k < n → Pv (k + 1) σ H → tb { D with nx := Pv k, ct := Pv k, bk := D.nx } (σ.set j (some (.int (k : Int)))) H) (hd : ∀ σ H, Pv 0 σ H → D.nx σ H) : Lp (Itc ((n : Int) - 1) (-1) n) (gName j) tb D σ H := by
  refine ⟨fun i m σ H => m = n - i ∧ i ≤ n ∧ Pv (n - i) σ H, ⟨n, by simp, Nat.zero_le _, h0⟩, ?_⟩
  rintro i m σ H ⟨rfl, hi, p⟩
  by_cases hlt : i < n
  · refine .inr ⟨hlt, Pv (n - (i + 1)), fun σ' H' p' => ⟨n - (i + 1), by omega, rfl, hlt, p'⟩, fun x H' y => ?_⟩
    obtain ⟨rfl, rfl⟩ := y
    have e1 : (n : Int) - 1 + (i : Int) * -1 = ((n - (i + 1) : Nat) : Int) := by omega
    have e2 : n - i = n - (i + 1) + 1 := by omega
    rw [e1]
    rw [e2] at p
    exact hs (n - (i + 1)) σ _ (by omega) p
  · have e : i = n := by omega
    subst e
    rw [Nat.sub_self] at p
    exact .inl ⟨Nat.le_refl _, hd σ H p⟩
theorem never_ {t : TS} {D : Ends} {σ : L2.St} {H : Hp} (h : False) : t D σ H := h.elim
end RB

set_option linter.all false
/-! Lists of coefficients. -/
namespace ML
/-- the coefficient at a place, 0 beyond -/
def cf (P : List Int) (k : Nat) : Int := P.getD k 0
theorem cf_nil (k : Nat) : cf [] k = 0 := by simp [cf]
theorem cf_zero (x : Int) (r : List Int) : cf (x :: r) 0 = x := rfl
theorem cf_succ (x : Int) (r : List Int) (k : Nat) : cf (x :: r) (k + 1) = cf r k := by simp [cf]
theorem cf_get {P : List Int} {k : Nat} (h : k < P.length) : cf P k = P[k] := by
  unfold cf; rw [List.getD_eq_getElem?_getD, List.getElem?_eq_getElem h]; rfl
theorem cf_some {P : List Int} {k : Nat} {x : Int} (h : P[k]? = some x) : cf P k = x := by
  unfold cf; rw [List.getD_eq_getElem?_getD, h]; rfl
theorem cf_beyond {P : List Int} {k : Nat} (h : P.length ≤ k) : cf P k = 0 := by
  unfold cf; rw [List.getD_eq_getElem?_getD, List.getElem?_eq_none h]; rfl
theorem cf_getElem? {P : List Int} {k : Nat} (h : k < P.length) : P[k]? = some (cf P k) := by
  rw [cf_get h, List.getElem?_eq_getElem h]
/-- two lists of one length with the same coefficients are alike -/
theorem ext {P Q : List Int} (hl : P.length = Q.length) (h : ∀ k, k < P.length → cf P k = cf Q k) : P = Q := by
  apply List.ext_getElem hl
  intro i h1 h2
  rw [← cf_get h1, ← cf_get h2]
  exact h i h1
/-- without noughts at the end -/
def Trim (P : List Int) : Prop := P = [] ∨ cf P (P.length - 1) ≠ 0
theorem trim_ext {P Q : List Int} (hP : Trim P) (hQ : Trim Q) (h : ∀ k, cf P k = cf Q k) : P = Q := by
  have aux : ∀ {P Q : List Int}, Trim P → (∀ k, cf P k = cf Q k) → P.length ≤ Q.length := fun {P Q} hP h => by
    rcases hP with rfl | hP
    · exact Nat.zero_le _
    · apply Nat.le_of_not_lt
      intro hl
      have := h (P.length - 1)
      rw [cf_beyond (P := Q) (by omega)] at this
      exact hP this
  exact ext (Nat.le_antisymm (aux hP h) (aux hQ fun k => (h k).symm)) fun k _ => h k
def trimL : List Int → List Int
  | [] => []
  | x :: r => match trimL r with
    | [] => if x = 0 then [] else [x]
    | y :: s => x :: y :: s
theorem cf_trimL : ∀ (P : List Int) (k : Nat), cf (trimL P) k = cf P k
  | [], k => rfl
  | x :: r, k => by
    have ih := cf_trimL r
    unfold trimL
    split
    · next e =>
      rw [e] at ih
      split
      · next hx =>
        subst hx
        cases k with
        | zero => rfl
        | succ k => rw [cf_succ, ← ih k, cf_nil, cf_nil]
      · cases k with
        | zero => rfl
        | succ k => rw [cf_succ, cf_succ, ← ih k]
    · next y s e =>
      rw [e] at ih
      cases k with
      | zero => rfl
      | succ k => rw [cf_succ, cf_succ, ← ih k]
theorem trim_trimL : ∀ P : List Int, Trim (trimL P)
  | [] => .inl rfl
  | x :: r => by
    have ih := trim_trimL r
    unfold trimL
    split
    · split
      · exact .inl rfl
      · next hx => exact .inr hx
    · next y s e =>
      rw [e] at ih
      rcases ih with h | h
      · cases h
      · refine .inr ?_
        show cf (x :: y :: s) (s.length + 1) ≠ 0
        rw [cf_succ]
        exact h
theorem trimL_eq {P Q : List Int} (hQ : Trim Q) (h : ∀ k, cf Q k = cf P k) : trimL P = Q := trim_ext (trim_trimL P) hQ fun k => by rw [cf_trimL, h]
theorem trimL_self {P : List Int} (h : Trim P) : trimL P = P := trimL_eq h fun _ => rfl
theorem trimL_trimL (P : List Int) : trimL (trimL P) = trimL P := trimL_self (trim_trimL P)
theorem trimL_len : ∀ P : List Int, (trimL P).length ≤ P.length
  | [] => Nat.le_refl _
  | x :: r => by
    have ih := trimL_len r
    unfold trimL
    split
    · split <;> simp
    · next y s e =>
      rw [e] at ih
      simp only [List.length_cons] at ih ⊢
      omega
theorem trimL_congr {P Q : List Int} (h : ∀ k, cf P k = cf Q k) : trimL P = trimL Q := trim_ext (trim_trimL P) (trim_trimL Q) fun k => by rw [cf_trimL, cf_trimL, h]
/-- what the loop finds -/
theorem trimL_take {P : List Int} {n : Nat} (hn : n ≤ P.length) (h0 : ∀ k, n ≤ k → cf P k = 0) (h1 : n = 0 ∨ cf P (n - 1) ≠ 0) : trimL P = P.take n := by
  have hc : ∀ k, cf (P.take n) k = cf P k := fun k => by
    by_cases hk : k < n
    · unfold cf
      rw [List.getD_eq_getElem?_getD, List.getD_eq_getElem?_getD, List.getElem?_take_of_lt hk]
    · rw [h0 k (by omega), cf_beyond (by rw [List.length_take]; omega)]
  refine trimL_eq ?_ hc
  rcases h1 with h1 | h1
  · left; subst h1; rfl
  · by_cases hz : n = 0
    · left; subst hz; rfl
    · right
      rw [List.length_take, Nat.min_eq_left hn, hc]
      exact h1
/-- all coefficients below 2 ^ n -/
def Sz (n : Nat) (P : List Int) : Prop := ∀ x ∈ P, x.natAbs < 2 ^ n
theorem Sz.cf {n : Nat} {P : List Int} (h : Sz n P) (k : Nat) : (cf P k).natAbs < 2 ^ n := by
  by_cases hk : k < P.length
  · rw [cf_get hk]; exact h _ (List.getElem_mem hk)
  · rw [cf_beyond (by omega)]; exact Nat.two_pow_pos n
theorem Sz.of {n : Nat} {P : List Int} (h : ∀ k, k < P.length → (ML.cf P k).natAbs < 2 ^ n) : Sz n P := fun x hx => by
  obtain ⟨k, hk, rfl⟩ := List.getElem_of_mem hx
  rw [← cf_get hk]; exact h k hk
theorem Sz.mono {n m : Nat} {P : List Int} (h : Sz n P) (hm : n ≤ m) : Sz m P := fun x hx => Nat.lt_of_lt_of_le (h x hx) (Nat.pow_le_pow_right (by decide) hm)
theorem Sz.trim {n : Nat} {P : List Int} (h : Sz n P) : Sz n (trimL P) := Sz.of fun k _ => by rw [cf_trimL]; exact h.cf k
theorem Sz.take {n : Nat} {P : List Int} (h : Sz n P) (k : Nat) : Sz n (P.take k) := fun x hx => h x (List.mem_of_mem_take hx)
theorem Sz.drop {n : Nat} {P : List Int} (h : Sz n P) (k : Nat) : Sz n (P.drop k) := fun x hx => h x (List.mem_of_mem_drop hx)
theorem Sz.append {n : Nat} {P Q : List Int} (h : Sz n P) (h' : Sz n Q) : Sz n (P ++ Q) := fun x hx => (List.mem_append.mp hx).elim (h x) (h' x)
theorem Sz.nil (n : Nat) : Sz n [] := fun x hx => by cases hx
theorem Sz.cons {n : Nat} {x : Int} {P : List Int} (hx : x.natAbs < 2 ^ n) (h : Sz n P) : Sz n (x :: P) := fun y hy => (List.mem_cons.mp hy).elim (fun e => by rw [e]; exact hx) (h y)
theorem Sz.rep0 (n k : Nat) : Sz n (List.replicate k 0) := fun x hx => by
  rw [List.mem_replicate] at hx
  rw [hx.2]; exact Nat.two_pow_pos n
theorem Sz.reverse {n : Nat} {P : List Int} (h : Sz n P) : Sz n P.reverse := fun x hx => h x (List.mem_reverse.mp hx)
theorem cf_map {f : Int → Int} (h0 : f 0 = 0) (P : List Int) (k : Nat) : cf (P.map f) k = f (cf P k) := by
  unfold cf
  rw [List.getD_eq_getElem?_getD, List.getD_eq_getElem?_getD, List.getElem?_map]
  cases P[k]? with
  | none => exact h0.symm
  | some x => rfl
theorem cf_range {n : Nat} {f : Nat → Int} {k : Nat} (h : k < n) : cf ((List.range n).map f) k = f k := by
  rw [cf_get (by simpa using h)]; simp
theorem cf_range_beyond {n : Nat} {f : Nat → Int} {k : Nat} (h : n ≤ k) : cf ((List.range n).map f) k = 0 := cf_beyond (by simpa using h)
theorem cf_set {P : List Int} {i k : Nat} {x : Int} (h : i < P.length) : cf (P.set i x) k = if k = i then x else cf P k := by
  unfold cf
  rw [List.getD_eq_getElem?_getD, List.getElem?_set, List.getD_eq_getElem?_getD]
  by_cases e : i = k
  · subst e; simp [h]
  · rw [if_neg e, if_neg (fun z => e z.symm)]
theorem cf_append_left {P Q : List Int} {k : Nat} (h : k < P.length) : cf (P ++ Q) k = cf P k := by
  unfold cf
  rw [List.getD_eq_getElem?_getD, List.getElem?_append_left h, List.getD_eq_getElem?_getD]
theorem cf_append_right {P Q : List Int} {k : Nat} (h : P.length ≤ k) : cf (P ++ Q) k = cf Q (k - P.length) := by
  unfold cf
  rw [List.getD_eq_getElem?_getD, List.getElem?_append_right h, List.getD_eq_getElem?_getD]
theorem cf_rep0 (n k : Nat) : cf (List.replicate n 0) k = 0 := by
  unfold cf
  rw [List.getD_eq_getElem?_getD, List.getElem?_replicate]
  split <;> rfl
theorem cf_drop (P : List Int) (n k : Nat) : cf (P.drop n) k = cf P (n + k) := by
  unfold cf
  rw [List.getD_eq_getElem?_getD, List.getElem?_drop, List.getD_eq_getElem?_getD]
theorem cf_take {P : List Int} {n k : Nat} (h : k < n) : cf (P.take n) k = cf P k := by
  unfold cf
  rw [List.getD_eq_getElem?_getD, List.getD_eq_getElem?_getD, List.getElem?_take_of_lt h]

/-! ### sums and products -/
def addL (P Q : List Int) : List Int := trimL ((List.range (max P.length Q.length)).map fun k => cf P k + cf Q k)
def subL (P Q : List Int) : List Int := trimL ((List.range (max P.length Q.length)).map fun k => cf P k - cf Q k)
theorem cf_addL (P Q : List Int) (k : Nat) : cf (addL P Q) k = cf P k + cf Q k := by
  unfold addL
  rw [cf_trimL]
  by_cases h : k < max P.length Q.length
  · rw [cf_range h]
  · rw [cf_range_beyond (by omega), cf_beyond (P := P) (by omega), cf_beyond (P := Q) (by omega)]; rfl
theorem cf_subL (P Q : List Int) (k : Nat) : cf (subL P Q) k = cf P k - cf Q k := by
  unfold subL
  rw [cf_trimL]
  by_cases h : k < max P.length Q.length
  · rw [cf_range h]
  · rw [cf_range_beyond (by omega), cf_beyond (P := P) (by omega), cf_beyond (P := Q) (by omega)]; rfl
theorem trim_addL (P Q : List Int) : Trim (addL P Q) := trim_trimL _
theorem trim_subL (P Q : List Int) : Trim (subL P Q) := trim_trimL _
/-- the sum of f over 0 .. n - 1 -/
def sm : Nat → (Nat → Int) → Int
  | 0, _ => 0
  | n + 1, f => sm n f + f n
theorem sm_succ (n : Nat) (f : Nat → Int) : sm (n + 1) f = sm n f + f n := rfl
theorem sm_congr {n : Nat} {f g : Nat → Int} (h : ∀ i, i < n → f i = g i) : sm n f = sm n g := by
  induction n with
  | zero => rfl
  | succ n ih => unfold sm; rw [ih fun i hi => h i (by omega), h n (by omega)]
theorem sm_zero {n : Nat} {f : Nat → Int} (h : ∀ i, i < n → f i = 0) : sm n f = 0 := by
  induction n with
  | zero => rfl
  | succ n ih => unfold sm; rw [ih fun i hi => h i (by omega), h n (by omega)]; rfl
theorem sm_add (n : Nat) (f g : Nat → Int) : sm n (fun i => f i + g i) = sm n f + sm n g := by
  induction n with
  | zero => rfl
  | succ n ih => simp only [sm_succ]; rw [ih]; omega
theorem sm_sub (n : Nat) (f g : Nat → Int) : sm n (fun i => f i - g i) = sm n f - sm n g := by
  induction n with
  | zero => rfl
  | succ n ih => simp only [sm_succ]; rw [ih]; omega
theorem sm_mul (n : Nat) (c : Int) (f : Nat → Int) : sm n (fun i => c * f i) = c * sm n f := by
  induction n with
  | zero => simp [sm]
  | succ n ih => unfold sm; rw [ih, Int.mul_add]
theorem sm_mul_r (n : Nat) (c : Int) (f : Nat → Int) : sm n (fun i => f i * c) = sm n f * c := by
  rw [Int.mul_comm, ← sm_mul]; exact sm_congr fun i _ => Int.mul_comm _ _
theorem sm_neg (n : Nat) (f : Nat → Int) : sm n (fun i => - f i) = - sm n f := by
  induction n with
  | zero => rfl
  | succ n ih => simp only [sm_succ]; rw [ih]; omega
theorem sm_ext {n m : Nat} {f : Nat → Int} (h : n ≤ m) (h0 : ∀ i, n ≤ i → i < m → f i = 0) : sm m f = sm n f := by
  induction m with
  | zero => have : n = 0 := by omega
            subst this; rfl
  | succ m ih =>
    by_cases e : n = m + 1
    · subst e; rfl
    · rw [sm_succ, ih (by omega) fun i h1 h2 => h0 i h1 (by omega), h0 m (by omega) (by omega)]
      omega
theorem sm_single {n : Nat} {f : Nat → Int} {j : Nat} (hj : j < n) (h : ∀ i, i < n → i ≠ j → f i = 0) : sm n f = f j := by
  induction n with
  | zero => omega
  | succ n ih =>
    unfold sm
    by_cases e : j = n
    · subst e
      rw [sm_zero fun i hi => h i (by omega) (by omega)]; omega
    · rw [ih (by omega) fun i hi hn => h i (by omega) hn, h n (by omega) (fun z => e z.symm)]; omega
theorem sm_shift (n : Nat) (f : Nat → Int) : sm (n + 1) f = f 0 + sm n (fun i => f (i + 1)) := by
  induction n with
  | zero => simp [sm]
  | succ n ih =>
    rw [sm, ih]
    show f 0 + sm n (fun i => f (i + 1)) + f (n + 1) = f 0 + (sm n (fun i => f (i + 1)) + f (n + 1))
    omega
theorem sm_rev (n : Nat) (f : Nat → Int) : sm n (fun i => f (n - 1 - i)) = sm n f := by
  induction n generalizing f with
  | zero => rfl
  | succ n ih =>
    rw [sm_shift, sm]
    have e : sm n (fun i => f (n + 1 - 1 - (i + 1))) = sm n f := by
      rw [← ih f]
      exact sm_congr fun i hi => by congr 1; omega
    rw [e]
    show f (n - 0) + sm n f = sm n f + f n
    rw [Nat.sub_zero]; omega
theorem sm_swap (n m : Nat) (f : Nat → Nat → Int) : sm n (fun i => sm m (fun j => f i j)) = sm m (fun j => sm n (fun i => f i j)) := by
  induction n with
  | zero => rw [sm]; exact (sm_zero fun _ _ => rfl).symm
  | succ n ih =>
    rw [sm, ih, ← sm_add]
    exact sm_congr fun j _ => rfl
/-- the coefficient of a product at a place -/
def cv (P Q : List Int) (k : Nat) : Int := sm (k + 1) fun i => cf P i * cf Q (k - i)
def mulL (P Q : List Int) : List Int := trimL ((List.range (P.length + Q.length)).map (cv P Q))
theorem cv_beyond {P Q : List Int} {k : Nat} (h : P.length + Q.length ≤ k + 1) : cv P Q k = 0 := sm_zero fun i hi => by
  by_cases h1 : i < P.length
  · rw [cf_beyond (P := Q) (by omega), Int.mul_zero]
  · rw [cf_beyond (P := P) (by omega), Int.zero_mul]
theorem cf_mulL (P Q : List Int) (k : Nat) : cf (mulL P Q) k = cv P Q k := by
  unfold mulL
  rw [cf_trimL]
  by_cases h : k < P.length + Q.length
  · rw [cf_range h]
  · rw [cf_range_beyond (by omega), cv_beyond (by omega)]
theorem trim_mulL (P Q : List Int) : Trim (mulL P Q) := trim_trimL _
/-- the product as it stands behind k turns of the outer loop and i of the inner one -/
def pcv (P Q : List Int) (k j : Nat) : Int := sm k fun a => if a ≤ j then cf P a * cf Q (j - a) else 0
def pcw (P Q : List Int) (k i j : Nat) : Int := pcv P Q k j + if k ≤ j ∧ j - k < i then cf P k * cf Q (j - k) else 0
theorem pcw_zero (P Q : List Int) (k j : Nat) : pcw P Q k 0 j = pcv P Q k j := by
  unfold pcw
  rw [if_neg (by omega)]; omega
theorem pcw_full (P Q : List Int) (k j : Nat) : pcw P Q k Q.length j = pcv P Q (k + 1) j := by
  unfold pcw
  show _ = pcv P Q k j + (if k ≤ j then cf P k * cf Q (j - k) else 0)
  by_cases h : k ≤ j
  · rw [if_pos h]
    by_cases h2 : j - k < Q.length
    · rw [if_pos ⟨h, h2⟩]
    · rw [if_neg (by omega), cf_beyond (P := Q) (by omega), Int.mul_zero]
  · rw [if_neg h, if_neg (by omega)]
theorem pcw_step (P Q : List Int) (k i j : Nat) : pcw P Q k (i + 1) j = if j = k + i then pcw P Q k i j + cf P k * cf Q i else pcw P Q k i j := by
  unfold pcw
  by_cases h : j = k + i
  · subst h
    rw [if_pos rfl, if_pos (by omega), if_neg (by omega), Nat.add_sub_cancel_left]; omega
  · rw [if_neg h]
    by_cases h2 : k ≤ j ∧ j - k < i
    · rw [if_pos h2, if_pos (by omega)]
    · rw [if_neg h2, if_neg (by omega)]
theorem pcv_full (P Q : List Int) (j : Nat) : pcv P Q P.length j = cv P Q j := by
  unfold pcv cv
  by_cases h : P.length ≤ j + 1
  · rw [sm_ext (f := fun i => cf P i * cf Q (j - i)) h fun i h1 h2 => by rw [cf_beyond (P := P) h1, Int.zero_mul]]
    exact sm_congr fun i hi => if_pos (by omega)
  · rw [sm_ext (n := j + 1) (by omega) fun i h1 h2 => if_neg (by omega)]
    exact sm_congr fun i hi => if_pos (by omega)
theorem mulL_of {P Q R : List Int} (hl : R.length = P.length + Q.length) (h : ∀ j, cf R j = pcv P Q P.length j) : trimL R = mulL P Q := by
  refine trim_ext (trim_trimL _) (trim_mulL P Q) fun j => ?_
  rw [cf_trimL, h, pcv_full, cf_mulL]
def linL (P Q : List Int) (f : Int) : List Int := trimL ((List.range (max P.length Q.length)).map fun k => cf P k + f * cf Q k)
theorem linL_one (P Q : List Int) : linL P Q 1 = addL P Q := by
  unfold linL addL
  congr 1
  apply List.map_congr_left
  intro k _
  rw [Int.one_mul]
theorem linL_neg (P Q : List Int) : linL P Q (-1) = subL P Q := by
  unfold linL subL
  congr 1
  apply List.map_congr_left
  intro k _
  omega
theorem linL_of {P Q R : List Int} {f : Int} (hl : R.length = max P.length Q.length) (h : ∀ j, j < max P.length Q.length → cf R j = cf P j + f * cf Q j) : trimL R = linL P Q f := by
  unfold linL
  congr 1
  refine ext (by simpa using hl) fun k hk => ?_
  rw [h k (by omega), cf_range (by omega)]
/-! ### slope, turned, flipped, lifted -/
def slopeL (P : List Int) : List Int := (List.range (P.length - 1)).map fun (k : Nat) => ((k : Int) + 1) * cf P (k + 1)
def turnL (P : List Int) : List Int := (List.range P.length).map fun k => if k % 2 = 1 then - cf P k else cf P k
def flipL (P : List Int) : List Int := trimL P.reverse
/-- each coefficient at so many times its place -/
def liftL (P : List Int) (m : Nat) : List Int := (List.range (if P.length = 0 then 0 else m * (P.length - 1) + 1)).map fun j => if j % m = 0 then cf P (j / m) else 0
theorem cf_slopeL (P : List Int) (k : Nat) : cf (slopeL P) k = ((k : Int) + 1) * cf P (k + 1) := by
  unfold slopeL
  by_cases h : k < P.length - 1
  · rw [cf_range h]
  · rw [cf_range_beyond (by omega), cf_beyond (P := P) (show P.length ≤ k + 1 by omega), Int.mul_zero]
theorem cf_turnL (P : List Int) (k : Nat) : cf (turnL P) k = if k % 2 = 1 then - cf P k else cf P k := by
  unfold turnL
  by_cases h : k < P.length
  · rw [cf_range h]
  · rw [cf_range_beyond (by omega), cf_beyond (P := P) (by omega)]; split <;> rfl
theorem turnL_len (P : List Int) : (turnL P).length = P.length := by unfold turnL; simp
theorem turnL_turnL (P : List Int) : turnL (turnL P) = P := by
  refine ext (by rw [turnL_len, turnL_len]) fun k _ => ?_
  rw [cf_turnL, cf_turnL]
  by_cases h : k % 2 = 1
  · rw [if_pos h, if_pos h]; omega
  · rw [if_neg h, if_neg h]
theorem cf_reverse {P : List Int} {k : Nat} (h : k < P.length) : cf P.reverse k = cf P (P.length - 1 - k) := by
  unfold cf
  rw [List.getD_eq_getElem?_getD, List.getElem?_reverse h, List.getD_eq_getElem?_getD]
theorem liftL_len (P : List Int) (m : Nat) : (liftL P m).length = if P.length = 0 then 0 else m * (P.length - 1) + 1 := by unfold liftL; simp
theorem div_bound {j m n : Nat} (hm : 0 < m) (h : j < m * n + 1) : j / m ≤ n := by
  rw [← Nat.lt_add_one_iff, Nat.div_lt_iff_lt_mul hm, Nat.add_mul, Nat.mul_comm n m]; omega
theorem liftL_step {P R : List Int} {m i : Nat} (hm : 0 < m) (hi : i < P.length) (hR : R = liftL (P.take i) m) : (if i = 0 then R else R ++ List.replicate (m - 1) 0) ++ [cf P i] = liftL (P.take (i + 1)) m := by
  have lt1 : (P.take i).length = i := by rw [List.length_take]; omega
  have lt2 : (P.take (i + 1)).length = i + 1 := by rw [List.length_take]; omega
  have lR : R.length = if i = 0 then 0 else m * (i - 1) + 1 := by rw [hR, liftL_len, lt1]
  have lL : (if i = 0 then R else R ++ List.replicate (m - 1) 0).length = m * i := by
    by_cases h : i = 0
    · subst h; rw [if_pos rfl, lR, if_pos rfl]; rfl
    · rw [if_neg h, List.length_append, List.length_replicate, lR, if_neg h]
      have : m * i = m * (i - 1) + m := by rw [← Nat.mul_succ]; congr 1; omega
      omega
  refine ext ?_ fun k hk => ?_
  · rw [List.length_append, lL, liftL_len, lt2, if_neg (by omega), Nat.add_sub_cancel]; rfl
  · rw [List.length_append, lL] at hk
    have hk' : k < m * i + 1 := hk
    have hr : cf (liftL (P.take (i + 1)) m) k = if k % m = 0 then cf (P.take (i + 1)) (k / m) else 0 := by
      unfold liftL
      rw [lt2, if_neg (by omega), Nat.add_sub_cancel, cf_range hk']
    rw [hr]
    by_cases hlast : k = m * i
    · rw [cf_append_right (by omega), lL, hlast, Nat.sub_self, Nat.mul_mod_right, if_pos rfl, Nat.mul_div_cancel_left _ hm, cf_take (by omega)]; rfl
    · rw [cf_append_left (by omega)]
      have i0 : i ≠ 0 := by intro e; subst e; omega
      rw [if_neg i0]
      rw [if_neg i0] at lR
      have em : m * i = m * (i - 1) + m := by rw [← Nat.mul_succ]; congr 1; omega
      by_cases hin : k < R.length
      · rw [cf_append_left hin, hR]
        unfold liftL
        rw [lt1, if_neg i0, cf_range (by omega)]
        split
        · have := div_bound hm (show k < m * (i - 1) + 1 by omega)
          rw [cf_take (by omega), cf_take (by omega)]
        · rfl
      · rw [cf_append_right (by omega), cf_rep0]
        have hd : k / m = i - 1 := by
          apply Nat.div_eq_of_lt_le
          · rw [Nat.mul_comm]; omega
          · rw [Nat.succ_mul, Nat.mul_comm]; omega
        have hne : k % m ≠ 0 := fun e => by
          have := Nat.div_add_mod k m
          rw [hd, e] at this
          omega
        rw [if_neg hne]
theorem liftL_all (P : List Int) (m : Nat) : liftL (P.take P.length) m = liftL P m := by rw [List.take_length]
theorem liftL_nil (P : List Int) (m : Nat) : liftL (P.take 0) m = [] := by simp [liftL]
theorem cf_liftL (P : List Int) {m : Nat} (hm : 0 < m) (j : Nat) : cf (liftL P m) j = if j % m = 0 then cf P (j / m) else 0 := by
  unfold liftL
  by_cases h : j < (if P.length = 0 then 0 else m * (P.length - 1) + 1)
  · rw [cf_range h]
  · rw [cf_range_beyond (by omega)]
    split
    · next e =>
      refine (cf_beyond ?_).symm
      by_cases h0 : P.length = 0
      · rw [h0]; exact Nat.zero_le _
      · rw [if_neg h0] at h
        have := Nat.div_add_mod j m
        rw [e] at this
        apply Nat.le_of_not_lt
        intro hlt
        have h2 : m * (j / m) ≤ m * (P.length - 1) := Nat.mul_le_mul_left m (by omega)
        omega
    · rfl
theorem trim_liftL {P : List Int} {m : Nat} (hm : 0 < m) (h : Trim P) : Trim (liftL P m) := by
  by_cases h0 : P.length = 0
  · left; unfold liftL; rw [if_pos h0]; rfl
  · right
    rw [liftL_len, if_neg h0, Nat.add_sub_cancel, cf_liftL P hm, Nat.mul_mod_right, if_pos rfl, Nat.mul_div_cancel_left _ hm]
    rcases h with h | h
    · rw [h] at h0; exact absurd rfl h0
    · exact h
/-- the product with its noughts -/
def mulU (P Q : List Int) : List Int := if P = [] ∨ Q = [] then [] else (List.range (P.length + Q.length - 1)).map (cv P Q)
theorem cf_mulU (P Q : List Int) (k : Nat) : cf (mulU P Q) k = cv P Q k := by
  unfold mulU
  split
  · next h =>
    rw [cf_nil]
    refine (cv_beyond' h k).symm
  · by_cases h : k < P.length + Q.length - 1
    · rw [cf_range h]
    · rw [cf_range_beyond (by omega), cv_beyond (by omega)]
where
  cv_beyond' {P Q : List Int} (h : P = [] ∨ Q = []) (k : Nat) : cv P Q k = 0 := sm_zero fun i _ => by
    rcases h with h | h
    · rw [h, cf_nil, Int.zero_mul]
    · rw [h, cf_nil, Int.mul_zero]
theorem mulU_len (P Q : List Int) : (mulU P Q).length ≤ P.length + Q.length := by
  unfold mulU
  split
  · simp
  · rw [List.length_map, List.length_range]; omega
theorem addL_len (P Q : List Int) : (addL P Q).length ≤ max P.length Q.length := Nat.le_trans (trimL_len _) (by simp)
theorem sm_abs {n : Nat} {f : Nat → Int} {b : Nat} (h : ∀ i, i < n → (f i).natAbs ≤ b) : (sm n f).natAbs ≤ n * b := by
  induction n with
  | zero => simp [sm]
  | succ n ih =>
    rw [sm_succ, Nat.add_mul]
    have := ih fun i hi => h i (by omega)
    have := h n (by omega)
    omega
theorem two_pow_ge (n : Nat) : n + 1 ≤ 2 ^ n := by
  induction n with
  | zero => decide
  | succ n ih => rw [Nat.pow_succ]; omega
theorem cv_sz {P Q : List Int} {n m : Nat} (hp : Sz n P) (hq : Sz m Q) (k : Nat) : (cv P Q k).natAbs < 2 ^ (n + m + P.length + 1) := by
  have h1 : cv P Q k = pcv P Q P.length k := (pcv_full P Q k).symm
  rw [h1]
  have h2 : (pcv P Q P.length k).natAbs ≤ P.length * 2 ^ (n + m) := sm_abs fun i _ => by
    split
    · rw [Int.natAbs_mul, Nat.pow_add]
      exact Nat.mul_le_mul (Nat.le_of_lt (hp.cf _)) (Nat.le_of_lt (hq.cf _))
    · exact Nat.zero_le _
  refine Nat.lt_of_le_of_lt h2 ?_
  have h3 := two_pow_ge P.length
  have h4 : 2 ^ (n + m + P.length + 1) = 2 ^ (P.length + 1) * 2 ^ (n + m) := by rw [← Nat.pow_add]; congr 1; omega
  rw [h4]
  exact Nat.mul_lt_mul_of_pos_right (by rw [Nat.pow_succ]; omega) (Nat.two_pow_pos _)
theorem Sz.mulL {P Q : List Int} {n m : Nat} (hp : Sz n P) (hq : Sz m Q) : Sz (n + m + P.length + 1) (mulL P Q) := Sz.of fun k _ => by rw [cf_mulL]; exact cv_sz hp hq k
theorem Sz.mulU {P Q : List Int} {n m : Nat} (hp : Sz n P) (hq : Sz m Q) : Sz (n + m + P.length + 1) (mulU P Q) := Sz.of fun k _ => by rw [cf_mulU]; exact cv_sz hp hq k
theorem Sz.addL {P Q : List Int} {n : Nat} (hp : Sz n P) (hq : Sz n Q) : Sz (n + 1) (addL P Q) := Sz.of fun k _ => by
  rw [cf_addL]
  have := hp.cf k
  have := hq.cf k
  have : 2 ^ (n + 1) = 2 ^ n + 2 ^ n := by rw [Nat.pow_succ]; omega
  omega
end ML

set_option linter.all false
/-! The determinant as the program reckons it. -/
namespace MT
open ML
/-- a cell -/
def at_ (M : List (List Int)) (i j : Nat) : Int := cf (M.getD i []) j
def pivL (M : List (List Int)) (k : Nat) : Nat := k + ((M.drop k).takeWhile (fun R => decide (cf R k = 0))).length
def clrRow (top : List Int) (k : Nat) (before : Int) (R : List Int) : List Int := (List.range R.length).map fun j => (cf top k * cf R j - cf R k * cf top j).fdiv before
def clrL (M : List (List Int)) (k : Nat) (before : Int) : List (List Int) := M.take (k + 1) ++ (M.drop (k + 1)).map (clrRow (M.getD k []) k before)
def swapL (M : List (List Int)) (i k : Nat) : List (List Int) := (M.set i (M.getD k [])).set k (M.getD i [])
/-- the rows as they stand when they are cleared -/
def swp (M : List (List Int)) (k : Nat) : List (List Int) := if pivL M k > k then swapL M k (pivL M k) else M
def sgn_ (M : List (List Int)) (k : Nat) (s : Int) : Int := if pivL M k > k then -s else s
def detG : Nat → Nat → List (List Int) → Int → Int → Int
  | 0, _, _, s, b => s * b
  | r + 1, k, M, s, b => if pivL M k = M.length then 0 else detG r (k + 1) (clrL (swp M k) k b) (sgn_ M k s) (at_ (clrL (swp M k) k b) k k)
def detL (M : List (List Int)) : Int := detG M.length 0 M 1 1
theorem pivL_ge (M : List (List Int)) (k : Nat) : k ≤ pivL M k := Nat.le_add_right ..
theorem pivL_le {M : List (List Int)} {k : Nat} (h : k ≤ M.length) : pivL M k ≤ M.length := by
  unfold pivL
  have : ((M.drop k).takeWhile (fun R => decide (cf R k = 0))).length ≤ (M.drop k).length := (List.takeWhile_sublist _).length_le
  rw [List.length_drop] at this
  omega
end MT
namespace MT
open ML
theorem swapL_len (M : List (List Int)) (i k : Nat) : (swapL M i k).length = M.length := by unfold swapL; simp
theorem swp_len (M : List (List Int)) (k : Nat) : (swp M k).length = M.length := by
  unfold swp
  split
  · exact swapL_len ..
  · rfl
theorem clrL_len (M : List (List Int)) (k : Nat) (b : Int) : (clrL M k b).length = M.length := by
  unfold clrL
  rw [List.length_append, List.length_map, List.length_take, List.length_drop]; omega
end MT

set_option linter.all false
set_option maxRecDepth 100000
/-! Lists of lists of ints. -/
namespace RB
open PySem PySem.Spec PyProof.Rows L2
open Evl (Ex rLenS rListS rMax2 tCut pss_cut)
def Rws (H : Hp) : List Addr → List (List Int) → Prop
  | [], [] => True
  | p :: ps, R :: Rs => H p = some (.lst (R.map V.int)) ∧ Rws H ps Rs
  | _, _ => False
theorem Rws.len {H : Hp} : ∀ {ps : List Addr} {Rs : List (List Int)}, Rws H ps Rs → ps.length = Rs.length
  | [], [], _ => rfl
  | p :: ps, R :: Rs, h => by rw [List.length_cons, List.length_cons, Rws.len h.2]
theorem Rws.ex {H H' : Hp} (e : Ex H H') : ∀ {ps : List Addr} {Rs : List (List Int)}, Rws H ps Rs → Rws H' ps Rs
  | [], [], _ => trivial
  | p :: ps, R :: Rs, h => ⟨e _ _ h.1, Rws.ex e h.2⟩
theorem Rws.exb {l : Addr} {H H' : Hp} (e : Exb l H H') : ∀ {ps : List Addr} {Rs : List (List Int)}, l ∉ ps → Rws H ps Rs → Rws H' ps Rs
  | [], [], _, _ => trivial
  | p :: ps, R :: Rs, hn, h => ⟨e _ (fun x => hn (by rw [x]; exact List.mem_cons_self ..)) _ h.1, Rws.exb e (fun x => hn (List.mem_cons_of_mem _ x)) h.2⟩
theorem Rws.append {H : Hp} : ∀ {ps qs : List Addr} {Rs Ss : List (List Int)}, Rws H ps Rs → Rws H qs Ss → Rws H (ps ++ qs) (Rs ++ Ss)
  | [], _, [], _, _, h => h
  | p :: ps, _, R :: Rs, _, h, h' => ⟨h.1, Rws.append h.2 h'⟩
theorem Rws.get {H : Hp} : ∀ {ps : List Addr} {Rs : List (List Int)} {i : Nat} {p : Addr}, Rws H ps Rs → ps[i]? = some p → ∃ R, Rs[i]? = some R ∧ H p = some (.lst (R.map V.int))
  | p :: ps, R :: Rs, 0, q, h, e => by
    simp only [List.getElem?_cons_zero, Option.some.injEq] at e
    exact ⟨R, rfl, by rw [← e]; exact h.1⟩
  | p :: ps, R :: Rs, i + 1, q, h, e => by
    simp only [List.getElem?_cons_succ] at e
    obtain ⟨S, h1, h2⟩ := Rws.get (i := i) h.2 e
    exact ⟨S, by simpa using h1, h2⟩
theorem dp_rows {K : PySem.W.Frag} {H : Hp} : ∀ {ps : List Addr} {Rs : List (List Int)}, Rws H ps Rs → DpAll K H (ps.map V.ref) (Rs.map dI)
  | [], [], _ => .nil
  | p :: ps, R :: Rs, h => .cons (dp_listI (SqL.inj h.1)) (dp_rows h.2)
theorem canLay_rows : ∀ Rs : List (List Int), PyData.canLayAll0 (Rs.map dI) = true
  | [] => by simp [PyData.canLayAll0]
  | n :: r => by
    rw [List.map_cons, PyData.canLayAll0, canLay_rows r]
    show (PyData.canLay0 (dI n) && true) = true
    unfold dI
    rw [PyData.canLay0, canLay_ints]; rfl
theorem depth_dI (n : List Int) : PyData.depth (dI n) ≤ 2 := by
  have := depth_ints n
  unfold dI
  rw [PyData.depth]
  omega
theorem depth_rows : ∀ Rs : List (List Int), PyData.depthAll (Rs.map dI) ≤ 2
  | [] => by simp [PyData.depthAll]
  | n :: r => by
    have h1 := depth_rows r
    have h2 := depth_dI n
    rw [List.map_cons, PyData.depthAll]
    omega
def dR (Rs : List (List Int)) : PyData := .list (Rs.map dI)
theorem shaped_dR (Rs : List (List Int)) : SeqAt.shaped (dR Rs) = true := by
  have h1 := canLay_rows Rs
  have h2 := depth_rows Rs
  unfold SeqAt.shaped dR
  rw [Bool.and_eq_true, PyData.canLay0, PyData.depth]
  exact ⟨h1, decide_eq_true (by omega)⟩
theorem eqvAll_rows : ∀ Rs Ss : List (List Int), PyData.eqvAll (Rs.map dI) (Ss.map dI) = decide (Rs = Ss)
  | [], [] => by simp [PyData.eqvAll]
  | [], m :: r => by simp [PyData.eqvAll]
  | n :: r, [] => by simp [PyData.eqvAll]
  | n :: r, m :: s => by
    rw [List.map_cons, List.map_cons, PyData.eqvAll, eqvAll_rows r s, eqv_dI]
    simp
theorem eqv_dR (Rs Ss : List (List Int)) : PyData.eqv (dR Rs) (dR Ss) = decide (Rs = Ss) := by
  unfold dR
  rw [PyData.eqv, eqvAll_rows]
def RowsK (K : PySem.W.Frag) (H : Hp) (a : Addr) (Rs : List (List Int)) : Prop := ∃ ps, SqL K H a (ps.map V.ref) ∧ Rws H ps Rs
theorem dp_listR {K : PySem.W.Frag} {H : Hp} {a : Addr} {ps : List Addr} {Rs : List (List Int)} (h : SqL K H a (ps.map V.ref)) (h' : Rws H ps Rs) : Dp K H (.ref a) (dR Rs) := .lst h (dp_rows h')
theorem r_eqRows {K : PySem.W.Frag} {H : Hp} {Q : VK} {a b : Addr} {ps qs : List Addr} {Rs Ss : List (List Int)} (h1 : SqL K H a (ps.map V.ref)) (h1' : Rws H ps Rs) (h2 : SqL K H b (qs.map V.ref)) (h2' : Rws H qs Ss) (q : Q (.bl (decide (Rs = Ss))) H) : rEqD K (.ref a) (.ref b) H Q :=
  ⟨_, _, dp_listR h1 h1', dp_listR h2 h2', shaped_dR Rs, shaped_dR Ss, by rw [eqv_dR]; exact q⟩
/-- what a row tells: new lists -/
def RetRow (Rs : List (List Int)) (H : Hp) (Q : VK) : Prop := ∀ (a : Addr) (ps : List Addr) (H' : Hp), H a = none → (∀ p ∈ ps, H p = none) → a ∉ ps → Ex H H' → H' a = some (.lst (ps.map V.ref)) → Rws H' ps Rs → Q (.ref a) H'
/-- the last two items -/
theorem r_ix2 {K : PySem.W.Frag} {H : Hp} {Q : VK} {p : Addr} {xs : List V} {x y : V} (h : SqL K H p (xs ++ [x, y])) (q : Q x H) : rIxL K (.ref p) (.int (-2)) H Q :=
  r_ixL h (by
    unfold atI
    have e : ixN (xs ++ [x, y]).length (-2) = some xs.length := by
      unfold ixN
      rw [if_neg (by decide), if_pos (by simp; omega)]
      simp
      omega
    rw [e]; simp) q
theorem r_ix1 {K : PySem.W.Frag} {H : Hp} {Q : VK} {p : Addr} {xs : List V} {x y : V} (h : SqL K H p (xs ++ [x, y])) (q : Q y H) : rIxL K (.ref p) (.int (-1)) H Q :=
  r_ixL h (by
    have : xs ++ [x, y] = (xs ++ [x]) ++ [y] := by simp
    rw [this]; exact atI_last _ _) q
end RB
namespace RB
open PySem PySem.Spec PyProof.Rows L2
open Evl (Ex)
theorem Rws.take {H : Hp} : ∀ (n : Nat) {ps : List Addr} {Rs : List (List Int)}, Rws H ps Rs → Rws H (ps.take n) (Rs.take n)
  | 0, _, _, _ => by rw [List.take_zero, List.take_zero]; trivial
  | n + 1, [], [], _ => trivial
  | n + 1, p :: ps, R :: Rs, h => ⟨h.1, Rws.take n h.2⟩
theorem Rws.flat {H : Hp} {ps : List Addr} {Rs : List (List Int)} (h : Rws H ps Rs) : ∀ n : Nat, Rws H (List.replicate n ps).flatten (List.replicate n Rs).flatten
  | 0 => trivial
  | n + 1 => by
    rw [List.replicate_succ, List.replicate_succ, List.flatten_cons, List.flatten_cons]
    exact Rws.append h (Rws.flat h n)
theorem flat_map {α β : Type} (f : α → β) (xs : List α) : ∀ n : Nat, (List.replicate n (xs.map f)).flatten = ((List.replicate n xs).flatten).map f
  | 0 => rfl
  | n + 1 => by rw [List.replicate_succ, List.replicate_succ, List.flatten_cons, List.flatten_cons, flat_map f xs n, List.map_append]
theorem flat_len {α : Type} (xs : List α) : ∀ n : Nat, ((List.replicate n xs).flatten).length = n * xs.length
  | 0 => by simp
  | n + 1 => by rw [List.replicate_succ, List.flatten_cons, List.length_append, flat_len xs n, Nat.add_mul]; omega
theorem flat_mem {α : Type} {xs : List α} {x : α} : ∀ {n : Nat}, x ∈ (List.replicate n xs).flatten → x ∈ xs
  | 0, h => by cases h
  | n + 1, h => by
    rw [List.replicate_succ, List.flatten_cons, List.mem_append] at h
    exact h.elim id flat_mem
/-- a list of lists times a number -/
theorem r_repR {H : Hp} {Q : VK} {l : Addr} {ps : List Addr} {k : Int} (h1 : H l = some (.lst (ps.map V.ref))) (hk : k < 2 ^ 63) (z : ps.length * k.toNat ≤ 16777216) (q : ∀ p H', H p = none → Ex H H' → H' p = some (.lst (((List.replicate k.toNat ps).flatten).map V.ref)) → Q (.ref p) H') (h0 : -(2 ^ 63) ≤ k := by omega) : rRep (.ref l) (.int k) H Q :=
  ⟨l, k, ps.map V.ref, rfl, rfl, h1, h0, hk, by rw [List.length_map]; exact small_le z, newL fun p H' hp e h => q p H' hp e (by rw [← flat_map]; exact h)⟩
theorem cutV_to {xs : List V} {n : Int} (h0 : 0 ≤ n) : cutV xs none (some n) = xs.take n.toNat := by
  obtain ⟨k, rfl⟩ : ∃ k : Nat, n = (k : Int) := ⟨n.toNat, by omega⟩
  unfold cutV
  rw [HT.sIx_none, HT.sIx_nat, List.drop_zero, Int.toNat_natCast, Nat.sub_zero]
  by_cases h : k ≤ xs.length
  · rw [Nat.min_eq_left h]
  · rw [Nat.min_eq_right (by omega), List.take_length, List.take_of_length_le (by omega)]
/-- over a list of lists, each giving a new list -/
theorem lc_rowsN {K : PySem.W.Frag} {σ : L2.St} {H : Hp} {te : TE} {Q : VK} {a : Addr} {ps : List Addr} {Rs : List (List Int)} {j : Nat} (f : List Int → List Int) (hx : SqL K H a (ps.map V.ref)) (hW : Rws H ps Rs) (hz : ps.length < 1000000)
    (he : ∀ p R H1, R ∈ Rs → H1 p = some (.lst (R.map V.int)) → Ex H H1 → ∀ Q' : VK, (∀ q H2, H1 q = none → Ex H1 H2 → H2 q = some (.lst ((f R).map V.int)) → Q' (.ref q) H2) → te (σ.set j (some (.ref p))) H1 Q')
    (q : ∀ D H' qs, H D = none → Ex H H' → H' D = some (.lst (qs.map V.ref)) → Rws H' qs (Rs.map f) → D ∉ qs → Q (.ref D) H') : Lc (Itl K a) (gName j) tYes te [j] σ H Q := fun D hD =>
  lc_list (xs := ps.map V.ref) (fun i H' => Ex H H' ∧ ∃ qs : List Addr, H' D = some (.lst (qs.map V.ref)) ∧ Rws H' qs ((Rs.take i).map f) ∧ D ∉ qs ∧ qs.length ≤ i) ⟨Evl.Ex.new hD, [], upd_same, trivial, (fun h => by cases h), Nat.le_refl _⟩ (fun i H' _ p => p.1.l hx)
    (fun i x H' hi p => ⟨by show ((σ.set j none).set j (some x)).set j none = σ.set j none; rw [set_set, set_set], by
      show te ((σ.set j none).set j (some x)) H' _
      rw [set_set]
      rw [List.getElem?_map] at hi
      obtain ⟨p', hp', rfl⟩ := Option.map_eq_some_iff.mp hi
      obtain ⟨e, qs, hq, hR, hn, hl⟩ := p
      obtain ⟨R, hRm, hpR⟩ := hW.get hp'
      have hlt : i < ps.length := (List.getElem?_eq_some_iff.mp hp').1
      refine he p' R H' (List.mem_of_getElem? hRm) (e _ _ hpR) e _ fun r H2 hr e2 hr2 => ⟨_, e2 D _ hq, ?_, Evl.Ex.mut (e.trans e2) hD, qs ++ [r], ?_, ?_, ?_, ?_⟩
      · rw [List.length_map]; exact small_lt (by omega)
      · rw [upd_same, List.map_append]; rfl
      · rw [List.take_add_one, hRm, List.map_append]
        have nD : r ≠ D := fun z => by rw [z, hq] at hr; cases hr
        refine Rws.append ?_ ⟨by rw [upd_ne nD]; exact hr2, trivial⟩
        exact (hR.ex e2).exb (l := D) (fun c n o h => by rw [upd_ne n]; exact h) hn
      · intro h
        rcases List.mem_append.mp h with h | h
        · exact hn h
        · rw [List.mem_singleton] at h
          rw [← h, hq] at hr
          cases hr
      · rw [List.length_append]; simp; omega⟩)
    (fun H' p => by
      obtain ⟨e, qs, hq, hR, hn, hl⟩ := p
      rw [List.length_map, hW.len, List.take_length] at hR
      exact q D H' qs hD e hq hR hn)
theorem lc_rows {K : PySem.W.Frag} {σ : L2.St} {H : Hp} {te : TE} {Q : VK} {a : Addr} {ps : List Addr} {Rs : List (List Int)} {j : Nat} (f : List Int → List Int) (hx : SqL K H a (ps.map V.ref)) (hW : Rws H ps Rs) (hz : ps.length < 1000000)
    (he : ∀ p R H1, R ∈ Rs → H1 p = some (.lst (R.map V.int)) → Ex H H1 → ∀ Q' : VK, (∀ q H2, H1 q = none → Ex H1 H2 → H2 q = some (.lst ((f R).map V.int)) → Q' (.ref q) H2) → te (σ.set j (some (.ref p))) H1 Q')
    (q : ∀ D H' qs, H D = none → Ex H H' → H' D = some (.lst (qs.map V.ref)) → Rws H' qs (Rs.map f) → Q (.ref D) H') : Lc (Itl K a) (gName j) tYes te [j] σ H Q := lc_rowsN f hx hW hz he fun D H' qs h1 h2 h3 h4 _ => q D H' qs h1 h2 h3 h4
theorem Rws.set {H : Hp} {p : Addr} {R : List Int} (hp : H p = some (.lst (R.map V.int))) : ∀ {ps : List Addr} {Rs : List (List Int)} (i : Nat), Rws H ps Rs → Rws H (ps.set i p) (Rs.set i R)
  | [], [], _, _ => trivial
  | _ :: _, _ :: _, 0, h => ⟨hp, h.2⟩
  | _ :: ps, _ :: Rs, i + 1, h => ⟨h.1, Rws.set hp i h.2⟩
end RB
namespace RB
open PySem PySem.Spec PyProof.Rows L2
theorem Rws.notin {H : Hp} {p : Addr} (hp : H p = none) : ∀ {ps : List Addr} {Rs : List (List Int)}, Rws H ps Rs → p ∉ ps
  | [], [], _ => fun h => by cases h
  | r :: ps, R :: Rs, h => fun hm => by
    rcases List.mem_cons.mp hm with e | e
    · have := h.1
      rw [← e, hp] at this
      cases this
    · exact Rws.notin hp h.2 e
end RB
namespace RB
open PySem PySem.Spec PyProof.Rows L2
theorem r_neRows {K : PySem.W.Frag} {H : Hp} {Q : VK} {a b : Addr} {ps qs : List Addr} {Rs Ss : List (List Int)} (h1 : SqL K H a (ps.map V.ref)) (h1' : Rws H ps Rs) (h2 : SqL K H b (qs.map V.ref)) (h2' : Rws H qs Ss) (q : Q (.bl (!decide (Rs = Ss))) H) : rNeD K (.ref a) (.ref b) H Q :=
  ⟨_, _, dp_listR h1 h1', dp_listR h2 h2', shaped_dR Rs, shaped_dR Ss, by rw [eqv_dR]; exact q⟩
end RB
namespace RB
open PySem PySem.Spec PyProof.Rows L2
/-- two pairs of lists of ints, alike -/
theorem r_neT2 {K : PySem.W.Frag} {H : Hp} {Q : VK} {p q a b c d : Addr} {ns ms : List Int} (h1 : SqT K H p [.ref a, .ref b]) (ha : SqL K H a (ns.map V.int)) (hb : SqL K H b (ms.map V.int)) (h2 : SqT K H q [.ref c, .ref d]) (hc : SqL K H c (ns.map V.int)) (hd : SqL K H d (ms.map V.int)) (k : Q (.bl false) H) : rNeD K (.ref p) (.ref q) H Q := by
  have sh : SeqAt.shaped (PyData.tuple [dI ns, dI ms]) = true := by
    have h1 := depth_dI ns
    have h2 := depth_dI ms
    have l1 : PyData.canLay0 (dI ns) = true := by unfold dI; rw [PyData.canLay0, canLay_ints]
    have l2 : PyData.canLay0 (dI ms) = true := by unfold dI; rw [PyData.canLay0, canLay_ints]
    unfold SeqAt.shaped
    rw [Bool.and_eq_true]
    refine ⟨?_, ?_⟩
    · simp [PyData.canLay0, PyData.canLayAll0, l1, l2]
    · refine decide_eq_true ?_
      simp only [PyData.depth, PyData.depthAll]
      omega
  refine ⟨_, _, .tup h1 (.cons (dp_listI ha) (.cons (dp_listI hb) .nil)), .tup h2 (.cons (dp_listI hc) (.cons (dp_listI hd) .nil)), sh, sh, ?_⟩
  have e : PyData.eqv (.tuple [dI ns, dI ms]) (.tuple [dI ns, dI ms]) = true := by
    simp [PyData.eqv, PyData.eqvAll, eqv_dI]
  show Q (.bl (!PyData.eqv (.tuple [dI ns, dI ms]) (.tuple [dI ns, dI ms]))) H
  rw [e]; exact k
end RB

set_option linter.all false
/-! What the walk of the determinant asks. -/
namespace RB
/-- rows that can be cleared -/
structure ClSz (n : Nat) (M : List (List Int)) (k : Nat) (b : Int) : Prop where
  k0 : k < M.length
  ln : M.length ≤ 100000
  wd : ∀ R ∈ M, R.length = (M.getD k []).length
  kw : k < (M.getD k []).length
  lw : (M.getD k []).length ≤ 100000
  sz : ∀ R ∈ M, ML.Sz n R
  n0 : 0 < n
  n9 : n ≤ 400000
  b0 : b ≠ 0
  b9 : b.natAbs.log2 < 9000
/-- what the walk asks of each step -/
def detOk : Nat → Nat → List (List Int) → Int → Prop
  | 0, _, _, b => ∃ n, 0 < n ∧ n ≤ 400000 ∧ b.natAbs < 2 ^ n
  | r + 1, k, M, b => (∀ R ∈ M, k < R.length) ∧ (MT.pivL M k ≠ M.length → (∃ n, ClSz n (MT.swp M k) k b) ∧ detOk r (k + 1) (MT.clrL (MT.swp M k) k b) (MT.at_ (MT.clrL (MT.swp M k) k b) k k))
end RB

set_option linter.all false
/-! The determinant of at most two rows. -/
namespace MT
open ML
theorem detG_no {r k : Nat} {M : List (List Int)} {s b : Int} (h : pivL M k = M.length) : detG (r + 1) k M s b = 0 := by
  unfold detG; rw [if_pos h]
theorem detG_go {r k : Nat} {M : List (List Int)} {s b : Int} (h : pivL M k ≠ M.length) : detG (r + 1) k M s b = detG r (k + 1) (clrL (swp M k) k b) (sgn_ M k s) (at_ (clrL (swp M k) k b) k k) := by
  conv => lhs; unfold detG
  rw [if_neg h]
theorem swp_eq {k : Nat} {M : List (List Int)} (h : pivL M k = k) : swp M k = M := by
  unfold swp; rw [if_neg (by omega)]
theorem sgn_eq {k : Nat} {M : List (List Int)} {s : Int} (h : pivL M k = k) : sgn_ M k s = s := by
  unfold sgn_; rw [if_neg (by omega)]
theorem swp_gt {k i : Nat} {M : List (List Int)} (h : pivL M k = i) (h' : k < i) : swp M k = swapL M k i := by
  unfold swp; rw [h, if_pos (by omega)]
theorem sgn_gt {k i : Nat} {M : List (List Int)} {s : Int} (h : pivL M k = i) (h' : k < i) : sgn_ M k s = -s := by
  unfold sgn_; rw [h, if_pos (by omega)]
theorem detL_nil : detL [] = 1 := rfl
theorem pivL_cons (R : List Int) (M : List (List Int)) : pivL (R :: M) 0 = if cf R 0 = 0 then 1 + pivL M 0 else 0 := by
  unfold pivL
  rw [List.drop_zero, List.drop_zero, Nat.zero_add, Nat.zero_add, List.takeWhile_cons]
  by_cases h : cf R 0 = 0
  · rw [if_pos h, if_pos (by simpa using h), List.length_cons]; omega
  · rw [if_neg h, if_neg (by simpa using h)]; rfl
theorem pivL_nil : pivL [] 0 = 0 := rfl
theorem pivL_one (a : Int) : pivL [[a]] 0 = if a = 0 then 1 else 0 := by
  rw [pivL_cons, pivL_nil]; rfl
theorem clr1 (a : Int) (b : Int) : clrL [[a]] 0 b = [[a]] := rfl
theorem clr2 (a b c d : Int) : clrL [[a, b], [c, d]] 0 1 = [[a, b], [0, a * d - c * b]] := by
  show [[a, b], [(a * c - c * a).fdiv 1, (a * d - c * b).fdiv 1]] = _
  rw [Int.fdiv_one, Int.fdiv_one, Int.mul_comm c a, Int.sub_self]
theorem detL_one (a : Int) : detL [[a]] = a := by
  show detG 1 0 [[a]] 1 1 = a
  have e := pivL_one a
  by_cases h : a = 0
  · rw [if_pos h] at e
    rw [detG_no e, h]
  · rw [if_neg h] at e
    rw [detG_go (by rw [e]; show 0 ≠ 1; decide), swp_eq e, sgn_eq e, clr1]
    show 1 * a = a
    omega
theorem pivL_last (R : List Int) (x y : Int) : pivL [R, [x, y]] 1 = if y = 0 then 2 else 1 := by
  show 1 + (List.takeWhile _ [[x, y]]).length = _
  rw [List.takeWhile_cons]
  show 1 + (if decide (y = 0) = true then _ else _ : List (List Int)).length = _
  by_cases h : y = 0
  · rw [if_pos h, if_pos (by simpa using h)]; rfl
  · rw [if_neg h, if_neg (by simpa using h)]; rfl
theorem detG_last (R : List Int) (x y s b : Int) : detG 1 1 [R, [x, y]] s b = s * y := by
  have e := pivL_last R x y
  by_cases h : y = 0
  · rw [if_pos h] at e
    rw [detG_no e, h, Int.mul_zero]
  · rw [if_neg h] at e
    rw [detG_go (by rw [e]; show 1 ≠ 2; decide), swp_eq e, sgn_eq e]
    rfl
theorem pivL_two (a b c d : Int) : pivL [[a, b], [c, d]] 0 = if a = 0 then if c = 0 then 2 else 1 else 0 := by
  rw [pivL_cons, pivL_cons, pivL_nil]
  show (if a = 0 then 1 + (if c = 0 then 1 + 0 else 0) else 0) = _
  split
  · split <;> rfl
  · rfl
theorem detL_two (a b c d : Int) : detL [[a, b], [c, d]] = a * d - b * c := by
  show detG 2 0 [[a, b], [c, d]] 1 1 = _
  have e := pivL_two a b c d
  by_cases h1 : a = 0
  · rw [if_pos h1] at e
    by_cases h2 : c = 0
    · rw [if_pos h2] at e
      rw [detG_no e, h1, h2]; simp
    · rw [if_neg h2] at e
      rw [detG_go (by rw [e]; show 1 ≠ 2; decide), swp_gt e (by decide), sgn_gt e (by decide)]
      show detG 1 1 (clrL [[c, d], [a, b]] 0 1) (-1) _ = _
      rw [clr2, detG_last, h1]
      grind
  · rw [if_neg h1] at e
    rw [detG_go (by rw [e]; show 0 ≠ 2; decide), swp_eq e, sgn_eq e, clr2, detG_last]
    grind
/-- the rows that are cleared -/
theorem swp_two (a b c d : Int) (h : pivL [[a, b], [c, d]] 0 ≠ 2) : ∃ p q r s, swp [[a, b], [c, d]] 0 = [[p, q], [r, s]] ∧ ((p = a ∧ q = b ∧ r = c ∧ s = d) ∨ (p = c ∧ q = d ∧ r = a ∧ s = b)) ∧ p ≠ 0 := by
  have e := pivL_two a b c d
  by_cases h1 : a = 0
  · rw [if_pos h1] at e
    by_cases h2 : c = 0
    · rw [if_pos h2] at e
      exact absurd e h
    · rw [if_neg h2] at e
      exact ⟨c, d, a, b, by rw [swp_gt e (by decide)]; rfl, .inr ⟨rfl, rfl, rfl, rfl⟩, h2⟩
  · rw [if_neg h1] at e
    exact ⟨a, b, c, d, by rw [swp_eq e], .inl ⟨rfl, rfl, rfl, rfl⟩, h1⟩
end MT

set_option linter.all false
/-! Determinants, expanded along the first of the columns. -/
namespace DT
abbrev Row := Nat → Int
def ex (c : Nat) (F : List Row → Int) : List Row → List Row → Int
  | _, [] => 0
  | pre, r :: post => r c * F (pre ++ post) - ex c F (pre ++ [r]) post
def D : List Nat → List Row → Int
  | [], [] => 1
  | [], _ :: _ => 0
  | c :: cs, rs => ex c (D cs) [] rs
def Anti (F : List Row → Int) : Prop := ∀ a b r s, F (a ++ r :: s :: b) = - F (a ++ s :: r :: b)
theorem ex_anti1 {F : List Row → Int} (h : Anti F) (c : Nat) (p : List Row) (r s : Row) : ∀ (b q : List Row), ex c F (p ++ r :: s :: q) b = - ex c F (p ++ s :: r :: q) b
  | [], q => rfl
  | t :: b, q => by
    have ih := ex_anti1 h c p r s b (q ++ [t])
    have hF := h p (q ++ b) r s
    unfold ex
    simp only [List.append_assoc, List.cons_append, List.nil_append] at ih hF ⊢
    rw [ih, hF]
    grind
theorem ex_anti2 {F : List Row → Int} (h : Anti F) (c : Nat) (r s : Row) (b : List Row) : ∀ (a p : List Row), ex c F p (a ++ r :: s :: b) = - ex c F p (a ++ s :: r :: b)
  | [], p => by
    have h1 := ex_anti1 h c p r s b []
    simp only [List.nil_append, ex, List.append_assoc, List.cons_append] at h1 ⊢
    rw [h1]
    grind
  | t :: a, p => by
    have ih := ex_anti2 h c r s b a (p ++ [t])
    have hF := h (p ++ a) b r s
    simp only [List.cons_append, ex]
    simp only [List.append_assoc, List.cons_append, List.nil_append] at ih hF ⊢
    rw [ih, hF]
    grind
theorem anti : ∀ cs : List Nat, Anti (D cs)
  | [] => fun a b r s => by
    cases a <;> rfl
  | c :: cs => fun a b r s => ex_anti2 (anti cs) c r s b a []
def Lin (F : List Row → Int) : Prop := ∀ (a b : List Row) (x y : Row) (l : Int), F (a ++ (fun j => x j + l * y j) :: b) = F (a ++ x :: b) + l * F (a ++ y :: b)
theorem ex_lin1 {F : List Row → Int} (h : Lin F) (c : Nat) (p : List Row) (x y : Row) (l : Int) : ∀ (b q : List Row), ex c F (p ++ (fun j => x j + l * y j) :: q) b = ex c F (p ++ x :: q) b + l * ex c F (p ++ y :: q) b
  | [], q => by simp [ex]
  | t :: b, q => by
    have ih := ex_lin1 h c p x y l b (q ++ [t])
    have hF := h p (q ++ b) x y l
    unfold ex
    simp only [List.append_assoc, List.cons_append, List.nil_append] at ih hF ⊢
    rw [ih, hF]
    grind
theorem ex_lin2 {F : List Row → Int} (h : Lin F) (c : Nat) (x y : Row) (l : Int) (b : List Row) : ∀ (a p : List Row), ex c F p (a ++ (fun j => x j + l * y j) :: b) = ex c F p (a ++ x :: b) + l * ex c F p (a ++ y :: b)
  | [], p => by
    have h1 := ex_lin1 h c p x y l b []
    simp only [List.nil_append, ex] at h1 ⊢
    rw [h1]
    grind
  | t :: a, p => by
    have ih := ex_lin2 h c x y l b a (p ++ [t])
    have hF := h (p ++ a) b x y l
    simp only [List.cons_append, ex]
    simp only [List.append_assoc, List.cons_append, List.nil_append] at ih hF ⊢
    rw [ih, hF]
    grind
theorem lin : ∀ cs : List Nat, Lin (D cs)
  | [] => fun a b x y l => by
    cases a <;> simp [D]
  | c :: cs => fun a b x y l => ex_lin2 (lin cs) c x y l b a []
/-- a row moved over others -/
theorem moved (cs : List Nat) (r : Row) (c : List Row) : ∀ (b a : List Row), D cs (a ++ r :: (b ++ c)) = (-1) ^ b.length * D cs (a ++ (b ++ r :: c))
  | [], a => by simp
  | t :: b, a => by
    have ih := moved cs r c b (a ++ [t])
    have h := anti cs a (b ++ c) r t
    simp only [List.append_assoc, List.cons_append, List.nil_append] at ih h ⊢
    rw [h, ih, List.length_cons, Int.pow_succ]
    grind
theorem alike0 (cs : List Nat) (a b : List Row) (r : Row) : D cs (a ++ r :: r :: b) = 0 := by
  have := anti cs a b r r
  omega
theorem alike (cs : List Nat) (a b c : List Row) (r : Row) : D cs (a ++ r :: (b ++ r :: c)) = 0 := by
  have h := moved cs r (r :: c) b a
  have h2 := alike0 cs (a ++ b) c r
  simp only [List.append_assoc] at h2
  rw [h, h2, Int.mul_zero]
theorem add_before (cs : List Nat) (a b c : List Row) (x y : Row) (l : Int) : D cs (a ++ y :: (b ++ (fun j => x j + l * y j) :: c)) = D cs (a ++ y :: (b ++ x :: c)) := by
  have h := lin cs (a ++ y :: b) c x y l
  simp only [List.append_assoc, List.cons_append] at h
  rw [h, alike]
  omega
theorem add_after (cs : List Nat) (a b c : List Row) (x y : Row) (l : Int) : D cs (a ++ (fun j => x j + l * y j) :: (b ++ y :: c)) = D cs (a ++ x :: (b ++ y :: c)) := by
  rw [lin cs a (b ++ y :: c) x y l, alike]
  omega
theorem swapped (cs : List Nat) (a b c : List Row) (r s : Row) : D cs (a ++ r :: (b ++ s :: c)) = - D cs (a ++ s :: (b ++ r :: c)) := by
  -- (r + s) twice
  have h := alike cs a b c (fun j => r j + 1 * s j)
  rw [lin cs a _ r s 1] at h
  have h1 := lin cs (a ++ r :: b) c r s 1
  have h2 := lin cs (a ++ s :: b) c r s 1
  simp only [List.append_assoc, List.cons_append] at h1 h2
  rw [h1, h2, alike, alike] at h
  omega
theorem ex_zero (c : Nat) (F : List Row → Int) : ∀ (us p : List Row), (∀ u ∈ us, u c = 0) → ex c F p us = 0
  | [], _, _ => rfl
  | u :: us, p, h => by
    unfold ex
    rw [h u (List.mem_cons_self ..), ex_zero c F us _ fun v hv => h v (List.mem_cons_of_mem _ hv)]
    omega
theorem block (ds : List Nat) (us : List Row) : ∀ (cs : List Nat) (as : List Row), as.length = cs.length → (∀ u ∈ us, ∀ c ∈ cs, u c = 0) → D (cs ++ ds) (as ++ us) = D cs as * D ds us
  | [], [], _, _ => by simp [D]
  | c :: cs, as, hl, h => by
    have ih := block ds us cs
    have hu : ∀ u ∈ us, ∀ d ∈ cs, u d = 0 := fun u hu d hd => h u hu d (List.mem_cons_of_mem _ hd)
    have aux : ∀ (post pre : List Row), pre.length + post.length = cs.length + 1 → ex c (D (cs ++ ds)) pre (post ++ us) = ex c (D cs) pre post * D ds us := by
      intro post
      induction post with
      | nil =>
        intro pre _
        rw [List.nil_append, ex_zero c _ us pre fun u hu' => h u hu' c (List.mem_cons_self ..)]
        show 0 = 0 * _
        rw [Int.zero_mul]
      | cons r post ih2 =>
        intro pre hp
        rw [List.length_cons] at hp
        rw [List.cons_append]
        unfold ex
        rw [ih2 (pre ++ [r]) (by rw [List.length_append, List.length_singleton]; omega), ← List.append_assoc, ih (pre ++ post) (by rw [List.length_append]; omega) hu]
        grind
    exact aux as [] (by rw [List.length_nil, hl, List.length_cons]; omega)
theorem one (j : Nat) (u : Row) : D [j] [u] = u j := by simp [D, ex]
theorem two (i j : Nat) (u v : Row) : D [i, j] [u, v] = u i * v j - v i * u j := by simp [D, ex]
/-- a bound -/
theorem ex_bound {c : Nat} {F : List Row → Int} {L B m : Nat} : ∀ (post pre : List Row), pre.length + post.length ≤ L + 1 → (∀ r ∈ post, (r c).natAbs ≤ B) → (∀ q, q.Sublist (pre ++ post) → q.length ≤ L → (F q).natAbs ≤ m) → (ex c F pre post).natAbs ≤ post.length * (B * m)
  | [], pre, _, _, _ => by simp [ex]
  | r :: post, pre, hl, hB, hF => by
    have ih := ex_bound (c := c) (F := F) (L := L) (B := B) (m := m) post (pre ++ [r]) (by rw [List.length_append, List.length_singleton]; rw [List.length_cons] at hl; omega) (fun s hs => hB s (List.mem_cons_of_mem _ hs)) (fun q hq hl' => hF q (by simpa using hq) hl')
    have h1 := hF (pre ++ post) (List.Sublist.append (List.Sublist.refl _) (List.sublist_cons_self ..)) (by rw [List.length_append]; rw [List.length_cons] at hl; omega)
    have h2 := hB r (List.mem_cons_self ..)
    unfold ex
    rw [List.length_cons, Nat.add_mul, Nat.one_mul]
    have h3 : (r c * F (pre ++ post)).natAbs ≤ B * m := by rw [Int.natAbs_mul]; exact Nat.mul_le_mul h2 h1
    omega
theorem bound {L B : Nat} (hL : 1 ≤ L) : ∀ (cs : List Nat) (rs : List Row), rs.length ≤ L → (∀ r ∈ rs, ∀ c ∈ cs, (r c).natAbs ≤ B) → (D cs rs).natAbs ≤ (L * B) ^ cs.length
  | [], [], _, _ => by simp [D]
  | [], _ :: _, _, _ => by simp [D]
  | c :: cs, rs, hl, h => by
    have ih := bound hL (B := B) cs
    have hh := ex_bound (c := c) (F := D cs) (L := L) (B := B) (m := (L * B) ^ cs.length) rs [] (by rw [List.length_nil]; omega) (fun r hr => h r hr c (List.mem_cons_self ..)) (fun q hq hl' => ih q hl' fun r hr d hd => h r (hq.subset (by simpa using hr)) d (List.mem_cons_of_mem _ hd))
    rw [List.length_cons, Nat.pow_succ]
    refine Nat.le_trans hh ?_
    calc rs.length * (B * (L * B) ^ cs.length) ≤ L * (B * (L * B) ^ cs.length) := Nat.mul_le_mul_right _ hl
      _ = (L * B) ^ cs.length * (L * B) := by rw [← Nat.mul_assoc, Nat.mul_comm]
end DT

set_option linter.all false
/-! The program's determinant is the determinant. -/
namespace DT
open ML MT
theorem getD_sw (M : List (List Int)) (k p j : Nat) (hk : k < M.length) (hp : p < M.length) : (swapL M k p).getD j [] = if j = p then M.getD k [] else if j = k then M.getD p [] else M.getD j [] := by
  unfold swapL
  simp only [List.getD_eq_getElem?_getD, List.getElem?_set, List.length_set]
  by_cases h1 : j = p
  · subst h1; simp [hp]
  · have h1' : ¬ p = j := fun z => h1 z.symm
    by_cases h2 : j = k
    · subst h2; simp [hk, h1, h1']
    · have h2' : ¬ k = j := fun z => h2 z.symm
      simp [h1, h1', h2, h2']
theorem split2 {α : Type} (A : List α) (k p : Nat) (h : k < p) (hp : p < A.length) : ∃ a r b s c, A = a ++ r :: (b ++ s :: c) ∧ a.length = k ∧ a.length + (1 + b.length) = p := by
  refine ⟨A.take k, A[k], (A.drop (k + 1)).take (p - k - 1), A[p], A.drop (p + 1), ?_, ?_, ?_⟩
  · conv => lhs; rw [← List.take_append_drop k A, List.drop_eq_getElem_cons (show k < A.length by omega), ← List.take_append_drop (p - k - 1) (A.drop (k + 1)), List.drop_drop, show k + 1 + (p - k - 1) = p by omega, List.drop_eq_getElem_cons hp]
  · rw [List.length_take]; omega
  · rw [List.length_take, List.length_take, List.length_drop]; omega
theorem swap_split (a b c : List (List Int)) (r s : List Int) : swapL (a ++ r :: (b ++ s :: c)) a.length (a.length + (1 + b.length)) = a ++ s :: (b ++ r :: c) := by
  unfold swapL
  have e1 : (a ++ r :: (b ++ s :: c)).getD (a.length + (1 + b.length)) [] = s := by
    rw [List.getD_eq_getElem?_getD, List.getElem?_append_right (by omega), show a.length + (1 + b.length) - a.length = b.length + 1 by omega, List.getElem?_cons_succ, List.getElem?_append_right (by omega), Nat.sub_self]
    rfl
  have e2 : (a ++ r :: (b ++ s :: c)).getD a.length [] = r := by
    rw [List.getD_eq_getElem?_getD, List.getElem?_append_right (by omega), Nat.sub_self]
    rfl
  rw [e1, e2, List.set_append_right _ _ (Nat.le_refl _), Nat.sub_self, List.set_cons_zero, List.set_append_right _ _ (by omega), show a.length + (1 + b.length) - a.length = b.length + 1 by omega, List.set_cons_succ, List.set_append_right _ _ (by omega), Nat.sub_self, List.set_cons_zero]
/-- two rows change places -/
theorem D_swap {A : List (List Int)} {k p : Nat} (h : k < p) (hp : p < A.length) (cs : List Nat) : D cs ((swapL A k p).map cf) = - D cs (A.map cf) := by
  obtain ⟨a, r, b, s, c, e, h1, h2⟩ := split2 A k p h hp
  rw [e, ← h1, ← h2, swap_split]
  simp only [List.map_append, List.map_cons]
  rw [swapped]
theorem take_swap {A : List (List Int)} {k p : Nat} (h : k < p) (hp : p < A.length) : (swapL A k p).take k = A.take k := by
  obtain ⟨a, r, b, s, c, e, h1, h2⟩ := split2 A k p h hp
  rw [e, ← h1, ← h2, swap_split, List.take_left, List.take_left]
theorem mem_swap {A : List (List Int)} {k p : Nat} (h : k < p) (hp : p < A.length) {R : List Int} (hR : R ∈ swapL A k p) : R ∈ A := by
  obtain ⟨a, r, b, s, c, e, h1, h2⟩ := split2 A k p h hp
  rw [e, ← h1, ← h2, swap_split] at hR
  rw [e]
  simp only [List.mem_append, List.mem_cons] at hR ⊢
  rcases hR with h | h | h | h | h
  · exact .inl h
  · exact .inr (.inr (.inr (.inl h)))
  · exact .inr (.inr (.inl h))
  · exact .inr (.inl h)
  · exact .inr (.inr (.inr (.inr h)))
theorem sum_swap {A : List (List Int)} {w : List Int → Nat} {k p : Nat} (h : k < p) (hp : p < A.length) : ((swapL A k p).map w).sum = (A.map w).sum := by
  obtain ⟨a, r, b, s, c, e, h1, h2⟩ := split2 A k p h hp
  rw [e, ← h1, ← h2, swap_split]
  simp only [List.map_append, List.map_cons, List.sum_append, List.sum_cons]
  omega
theorem sum_sub (w : List Int → Nat) {a b : List (List Int)} (h : a.Sublist b) : (a.map w).sum ≤ (b.map w).sum := by
  induction h with
  | slnil => exact Nat.le_refl _
  | cons x _ ih => rw [List.map_cons, List.sum_cons]; omega
  | cons_cons x _ ih => rw [List.map_cons, List.map_cons, List.sum_cons, List.sum_cons]; omega
theorem ex_boundW {c : Nat} {F : List Row → Int} {L m : Nat} (w : List Int → Nat) : ∀ (post pre : List (List Int)), pre.length + post.length ≤ L + 1 → (∀ R ∈ post, (cf R c).natAbs ≤ 2 ^ w R) → (∀ q : List (List Int), q.Sublist (pre ++ post) → q.length ≤ L → (F (q.map cf)).natAbs ≤ m * 2 ^ (q.map w).sum) → (ex c F (pre.map cf) (post.map cf)).natAbs ≤ post.length * (m * 2 ^ ((pre ++ post).map w).sum)
  | [], pre, _, _, _ => by simp [ex]
  | r :: post, pre, hl, hB, hF => by
    have ih := ex_boundW (c := c) (F := F) (L := L) (m := m) w post (pre ++ [r]) (by rw [List.length_append, List.length_singleton]; rw [List.length_cons] at hl; omega) (fun s hs => hB s (List.mem_cons_of_mem _ hs)) (fun q hq hl' => hF q (by simpa using hq) hl')
    have h1 := hF (pre ++ post) (List.Sublist.append (List.Sublist.refl _) (List.sublist_cons_self ..)) (by rw [List.length_append]; rw [List.length_cons] at hl; omega)
    have h2 := hB r (List.mem_cons_self ..)
    rw [List.map_cons, List.length_cons, Nat.add_mul, Nat.one_mul]
    unfold ex
    rw [List.map_append] at h1
    have e1 : List.map cf (pre ++ [r]) = List.map cf pre ++ [cf r] := by rw [List.map_append]; rfl
    rw [e1] at ih
    have e2 : pre ++ [r] ++ post = pre ++ r :: post := by simp
    rw [e2] at ih
    have h3 : (cf r c * F (List.map cf pre ++ List.map cf post)).natAbs ≤ m * 2 ^ ((pre ++ r :: post).map w).sum := by
      rw [Int.natAbs_mul]
      refine Nat.le_trans (Nat.mul_le_mul h2 h1) (Nat.le_of_eq ?_)
      simp only [List.map_append, List.map_cons, List.sum_append, List.sum_cons]
      rw [show (pre.map w).sum + (w r + (post.map w).sum) = w r + ((pre.map w).sum + (post.map w).sum) by omega, Nat.pow_add 2 (w r)]
      rw [Nat.mul_left_comm]
    omega
theorem boundW {L : Nat} (w : List Int → Nat) : ∀ (cs : List Nat) (rs : List (List Int)), rs.length ≤ L → (∀ R ∈ rs, ∀ c, (cf R c).natAbs ≤ 2 ^ w R) → (D cs (rs.map cf)).natAbs ≤ L ^ cs.length * 2 ^ (rs.map w).sum
  | [], [], _, _ => by simp [D]
  | [], _ :: _, _, _ => by simp [D]
  | c :: cs, rs, hl, h => by
    have ih := boundW (L := L) w cs
    have hh := ex_boundW (c := c) (F := D cs) (L := L) (m := L ^ cs.length) w rs [] (by rw [List.length_nil]; omega) (fun r hr => h r hr c) (fun q hq hl' => ih q hl' fun r hr d => h r (hq.subset (by simpa using hr)) d)
    rw [List.length_cons, Nat.pow_succ]
    refine Nat.le_trans hh ?_
    rw [List.nil_append, ← Nat.mul_assoc, Nat.mul_comm (L ^ cs.length) L]
    exact Nat.mul_le_mul_right _ (Nat.mul_le_mul_right _ hl)
theorem pivL_all {M : List (List Int)} {k : Nat} (hk : k ≤ M.length) (h : pivL M k = M.length) : ∀ i, k ≤ i → i < M.length → cf (M.getD i []) k = 0 := by
  unfold pivL at h
  have aux : ∀ (L : List (List Int)), (L.takeWhile (fun R => decide (cf R k = 0))).length = L.length → ∀ R ∈ L, cf R k = 0 := by
    intro L
    induction L with
    | nil => intro _ R hR; cases hR
    | cons R L ih =>
      intro e S hS
      rw [List.takeWhile_cons] at e
      by_cases hz : cf R k = 0
      · rw [if_pos (by simpa using hz), List.length_cons, List.length_cons] at e
        rcases List.mem_cons.mp hS with rfl | hS
        · exact hz
        · exact ih (by omega) S hS
      · rw [if_neg (by simpa using hz)] at e
        simp at e
  intro i h1 h2
  refine aux (M.drop k) (by rw [List.length_drop]; omega) _ ?_
  rw [List.getD_eq_getElem?_getD, List.getElem?_eq_getElem h2]
  rw [List.mem_drop_iff_getElem]
  exact ⟨i - k, by omega, by congr 1; omega⟩
theorem pivL_at {M : List (List Int)} {k : Nat} (hk : k ≤ M.length) (h : pivL M k ≠ M.length) : cf (M.getD (pivL M k) []) k ≠ 0 := by
  have aux : ∀ (L : List (List Int)), (L.takeWhile (fun R => decide (cf R k = 0))).length ≠ L.length → cf (L.getD (L.takeWhile (fun R => decide (cf R k = 0))).length []) k ≠ 0 := by
    intro L
    induction L with
    | nil => intro h; exact absurd rfl h
    | cons R L ih =>
      intro e
      rw [List.takeWhile_cons] at e ⊢
      by_cases hz : cf R k = 0
      · rw [if_pos (by simpa using hz), List.length_cons, List.length_cons] at e
        rw [if_pos (by simpa using hz), List.length_cons]
        exact ih (by omega)
      · rw [if_neg (by simpa using hz)]
        exact hz
  have h1 := aux (M.drop k) (by unfold pivL at h; rw [List.length_drop]; omega)
  have e : (M.drop k).getD ((M.drop k).takeWhile (fun R => decide (cf R k = 0))).length [] = M.getD (pivL M k) [] := by
    rw [List.getD_eq_getElem?_getD, List.getD_eq_getElem?_getD, List.getElem?_drop]; rfl
  rw [e] at h1
  exact h1
/-- what holds at each step -/
structure Inv (n W k : Nat) (w : List Int → Nat) (A M : List (List Int)) (b : Int) : Prop where
  lA : A.length = n
  lM : M.length = n
  wd : ∀ R ∈ M, R.length = n
  hb : D (List.range k) ((A.take k).map cf) = b
  b0 : b ≠ 0
  z : ∀ i, k ≤ i → i < n → ∀ j, j < k → cf (M.getD i []) j = 0
  rel : ∀ i, k ≤ i → i < n → ∀ cs t, D cs ((A.take k).map cf ++ cf (M.getD i []) :: t) = b * D cs ((A.take k).map cf ++ cf (A.getD i []) :: t)
  sA : ∀ R ∈ A, ∀ j, (cf R j).natAbs ≤ 2 ^ w R
  tot : (A.map w).sum ≤ W
  sM : ∀ R ∈ M, ∀ j, (cf R j).natAbs ≤ n ^ n * 2 ^ W
theorem mem_getD {M : List (List Int)} {i : Nat} (h : i < M.length) : M.getD i [] ∈ M := by
  rw [List.getD_eq_getElem?_getD, List.getElem?_eq_getElem h]
  exact List.getElem_mem h
theorem Inv.swap {n W k p : Nat} {w : List Int → Nat} {A M : List (List Int)} {b : Int} (h : Inv n W k w A M b) (hk : k < p) (hp : p < n) : Inv n W k w (swapL A k p) (swapL M k p) b := by
  have lA := h.lA
  have lM := h.lM
  have tA := take_swap (A := A) hk (by omega)
  refine ⟨by rw [swapL_len, lA], by rw [swapL_len, lM], fun R hR => h.wd R (mem_swap hk (by omega) hR), by rw [tA]; exact h.hb, h.b0, ?_, ?_, fun R hR => h.sA R (mem_swap hk (by omega) hR), by rw [sum_swap hk (by omega)]; exact h.tot, fun R hR => h.sM R (mem_swap hk (by omega) hR)⟩
  · intro i h1 h2 j hj
    rw [getD_sw M k p i (by omega) (by omega)]
    split
    · exact h.z k (by omega) (by omega) j hj
    · split
      · exact h.z p (by omega) (by omega) j hj
      · exact h.z i h1 h2 j hj
  · intro i h1 h2 cs t
    rw [tA, getD_sw M k p i (by omega) (by omega), getD_sw A k p i (by omega) (by omega)]
    split
    · exact h.rel k (by omega) (by omega) cs t
    · split
      · exact h.rel p (by omega) (by omega) cs t
      · exact h.rel i h1 h2 cs t
theorem cf_clrRow {top R : List Int} (k : Nat) (b : Int) (hl : top.length = R.length) (j : Nat) : cf (clrRow top k b R) j = (cf top k * cf R j - cf R k * cf top j).fdiv b := by
  by_cases h : j < R.length
  · rw [show cf (clrRow top k b R) j = _ from cf_some (x := (cf top k * cf R j - cf R k * cf top j).fdiv b) (by unfold clrRow; rw [List.getElem?_map, List.getElem?_range h]; rfl)]
  · rw [cf_beyond (P := clrRow top k b R) (by unfold clrRow; rw [List.length_map, List.length_range]; omega), cf_beyond (P := R) (k := j) (by omega), cf_beyond (P := top) (k := j) (by omega)]
    simp
theorem getD_clr {M : List (List Int)} {k : Nat} {b : Int} (i : Nat) (hk : k < M.length) (hi : i < M.length) : (clrL M k b).getD i [] = if i ≤ k then M.getD i [] else clrRow (M.getD k []) k b (M.getD i []) := by
  unfold clrL
  rw [List.getD_eq_getElem?_getD]
  split
  · rw [List.getElem?_append_left (by rw [List.length_take]; omega), List.getElem?_take, if_pos (by omega), List.getD_eq_getElem?_getD]
  · rw [List.getElem?_append_right (by rw [List.length_take]; omega), List.length_take, List.getElem?_map, List.getElem?_drop, show k + 1 + (i - min (k + 1) M.length) = i by omega, List.getD_eq_getElem?_getD (l := M) (i := i), List.getElem?_eq_getElem hi]
    rfl
theorem take_one {A : List (List Int)} {k : Nat} (hk : k < A.length) : (A.take (k + 1)).map cf = (A.take k).map cf ++ [cf (A.getD k [])] := by
  rw [List.take_add_one, List.map_append, List.getD_eq_getElem?_getD, List.getElem?_eq_getElem hk]
  rfl
theorem Inv.as_len {n W k : Nat} {w : List Int → Nat} {A M : List (List Int)} {b : Int} (h : Inv n W k w A M b) (hk : k ≤ n) : ((A.take k).map cf).length = (List.range k).length := by
  rw [List.length_map, List.length_take, List.length_range, h.lA]; omega
/-- the pivot is the next first minor -/
theorem Inv.pivot {n W k : Nat} {w : List Int → Nat} {A M : List (List Int)} {b : Int} (h : Inv n W k w A M b) (hk : k < n) : D (List.range (k + 1)) ((A.take (k + 1)).map cf) = at_ M k k := by
  have lA := h.lA
  rw [take_one (by omega), List.range_succ]
  have h1 := h.rel k (Nat.le_refl _) hk (List.range k ++ [k]) []
  rw [block [k] [cf (M.getD k [])] (List.range k) _ (h.as_len (by omega)) (fun u hu c hc => by
    rw [List.mem_singleton] at hu
    subst hu
    exact h.z k (Nat.le_refl _) hk c (List.mem_range.mp hc)), h.hb, one] at h1
  exact (Int.eq_of_mul_eq_mul_left h.b0 h1).symm
/-- the division has no rest: what comes is a minor -/
theorem Inv.exact {n W k i : Nat} {w : List Int → Nat} {A M : List (List Int)} {b : Int} (h : Inv n W k w A M b) (hk : k < n) (hi : k < i) (hin : i < n) (j : Nat) : cf (M.getD k []) k * cf (M.getD i []) j - cf (M.getD i []) k * cf (M.getD k []) j = b * D (List.range k ++ [k, j]) ((A.take k).map cf ++ [cf (A.getD k []), cf (A.getD i [])]) := by
  have h1 := block [k, j] [cf (M.getD k []), cf (M.getD i [])] (List.range k) _ (h.as_len (by omega)) (fun u hu c hc => by
    simp only [List.mem_cons, List.not_mem_nil, or_false] at hu
    rcases hu with rfl | rfl
    · exact h.z k (Nat.le_refl _) hk c (List.mem_range.mp hc)
    · exact h.z i (by omega) hin c (List.mem_range.mp hc))
  rw [h.hb, two, h.rel k (Nat.le_refl _) hk, anti, h.rel i (by omega) hin, anti] at h1
  have b0 := h.b0
  refine Int.eq_of_mul_eq_mul_left b0 ?_
  rw [← h1]
  grind
theorem Inv.step {n W k : Nat} {w : List Int → Nat} {A M : List (List Int)} {b : Int} (h : Inv n W k w A M b) (hk : k < n) (hp : at_ M k k ≠ 0) : Inv n W (k + 1) w A (clrL M k b) (at_ M k k) := by
  have lA := h.lA
  have lM := h.lM
  have b0 := h.b0
  have wk : (M.getD k []).length = n := h.wd _ (mem_getD (by omega))
  have ent : ∀ i, k < i → i < n → ∀ j, cf (clrRow (M.getD k []) k b (M.getD i [])) j = D (List.range k ++ [k, j]) ((A.take k).map cf ++ [cf (A.getD k []), cf (A.getD i [])]) := by
    intro i h1 h2 j
    rw [cf_clrRow k b (by rw [wk, h.wd _ (mem_getD (show i < M.length by omega))]) j, h.exact hk h1 h2 j, Int.mul_fdiv_cancel_left _ b0]
  have bent : ∀ i, k < i → i < n → ∀ j, b * cf (clrRow (M.getD k []) k b (M.getD i [])) j = cf (M.getD k []) k * cf (M.getD i []) j - cf (M.getD i []) k * cf (M.getD k []) j := by
    intro i h1 h2 j
    rw [ent i h1 h2 j, h.exact hk h1 h2 j]
  refine ⟨lA, by rw [clrL_len, lM], ?_, h.pivot hk, hp, ?_, ?_, h.sA, h.tot, ?_⟩
  · intro R hR
    unfold clrL at hR
    rcases List.mem_append.mp hR with hR | hR
    · exact h.wd R (List.mem_of_mem_take hR)
    · obtain ⟨S, hS, rfl⟩ := List.mem_map.mp hR
      unfold clrRow
      rw [List.length_map, List.length_range]
      exact h.wd S (List.mem_of_mem_drop hS)
  · intro i h1 h2 j hj
    rw [getD_clr i (by omega) (by omega), if_neg (by omega)]
    have e := bent i (by omega) h2 j
    have : cf (M.getD k []) k * cf (M.getD i []) j - cf (M.getD i []) k * cf (M.getD k []) j = 0 := by
      by_cases hjk : j = k
      · subst hjk; rw [Int.mul_comm]; omega
      · rw [h.z i (by omega) h2 j (by omega), h.z k (Nat.le_refl _) hk j (by omega)]; simp
    rw [this] at e
    exact (Int.mul_eq_zero.mp e).resolve_left b0
  · intro i h1 h2 cs t
    rw [getD_clr i (by omega) (by omega), if_neg (by omega), take_one (by omega)]
    simp only [List.append_assoc, List.cons_append, List.nil_append]
    have e1 : (fun j => b * cf (clrRow (M.getD k []) k b (M.getD i [])) j) = fun j => (fun j => cf (M.getD k []) k * cf (M.getD i []) j) j + (-cf (M.getD i []) k) * cf (M.getD k []) j := by
      funext j
      rw [bent i (by omega) h2 j]
      grind
    have sc : ∀ (l : Int) (x : Row) (a : List Row), D cs (a ++ (fun j => l * x j) :: t) = l * D cs (a ++ x :: t) := by
      intro l x a
      have h1 := lin cs a t x x (l - 1)
      have e : (fun j => x j + (l - 1) * x j) = fun j => l * x j := by funext j; grind
      rw [e] at h1
      rw [h1]; grind
    have key := sc b (cf (clrRow (M.getD k []) k b (M.getD i []))) ((A.take k).map cf ++ [cf (A.getD k [])])
    rw [e1, lin, sc] at key
    simp only [List.append_assoc, List.cons_append, List.nil_append] at key
    rw [anti cs _ t (cf (A.getD k [])) (cf (M.getD i [])), anti cs _ t (cf (A.getD k [])) (cf (M.getD k [])), h.rel i (by omega) h2, h.rel k (Nat.le_refl _) hk, alike0, anti cs _ t (cf (A.getD i [])) (cf (A.getD k []))] at key
    have := Int.eq_of_mul_eq_mul_left b0 (a := b) (b := b) rfl
    refine Int.eq_of_mul_eq_mul_left b0 ?_
    rw [← key]
    show _ = b * (at_ M k k * _)
    unfold at_
    grind
  · intro R hR j
    unfold clrL at hR
    rcases List.mem_append.mp hR with hR | hR
    · exact h.sM R (List.mem_of_mem_take hR) j
    · obtain ⟨S, hS, rfl⟩ := List.mem_map.mp hR
      obtain ⟨i, hi, hSi⟩ := List.mem_iff_getElem.mp hS
      rw [List.length_drop] at hi
      have e : S = M.getD (k + 1 + i) [] := by
        rw [← hSi, List.getElem_drop, List.getD_eq_getElem?_getD, List.getElem?_eq_getElem (by omega)]; rfl
      rw [e, ent (k + 1 + i) (by omega) (by omega) j]
      have hsub : (A.take k ++ [A.getD k [], A.getD (k + 1 + i) []]).Sublist A := by
        have e1 : A = A.take k ++ (A.getD k [] :: ((A.drop (k + 1)).take i ++ (A.getD (k + 1 + i) [] :: A.drop (k + 1 + i + 1)))) := by
          conv => lhs; rw [← List.take_append_drop k A, List.drop_eq_getElem_cons (show k < A.length by omega), ← List.take_append_drop i (A.drop (k + 1)), List.drop_drop, List.drop_eq_getElem_cons (show k + 1 + i < A.length by omega)]
          rw [List.getD_eq_getElem?_getD, List.getD_eq_getElem?_getD, List.getElem?_eq_getElem (show k < A.length by omega), List.getElem?_eq_getElem (show k + 1 + i < A.length by omega)]
          rfl
        conv => rhs; rw [e1]
        refine List.Sublist.append (List.Sublist.refl _) (List.Sublist.cons_cons _ ?_)
        exact List.Sublist.trans (List.Sublist.cons_cons _ (List.nil_sublist _)) (List.sublist_append_right _ _)
      have hb := boundW (L := n) w (List.range k ++ [k, j]) (A.take k ++ [A.getD k [], A.getD (k + 1 + i) []]) (by rw [List.length_append, List.length_take]; show min k A.length + 2 ≤ n; omega) (fun R hR c => h.sA R (hsub.subset hR) c)
      rw [List.map_append] at hb
      refine Nat.le_trans hb (Nat.mul_le_mul ?_ (Nat.pow_le_pow_right (by decide) (Nat.le_trans (sum_sub w hsub) h.tot)))
      refine Nat.pow_le_pow_right (by omega) ?_
      rw [List.length_append, List.length_range]; show k + 2 ≤ n; omega
/-- lists of rows, pair by pair -/
def All2 (P : Row → Row → Prop) : List Row → List Row → Prop
  | [], [] => True
  | e :: es, a :: as => P e a ∧ All2 P es as
  | _, _ => False
theorem rel_mid {as : List Row} {b : Int} {e a : Row} (h : ∀ cs t, D cs (as ++ e :: t) = b * D cs (as ++ a :: t)) (cs : List Nat) (mid t : List Row) : D cs (as ++ (mid ++ e :: t)) = b * D cs (as ++ (mid ++ a :: t)) := by
  have h1 := moved cs e t mid as
  have h2 := moved cs a t mid as
  rw [h cs (mid ++ t), h2] at h1
  have s : ((-1 : Int) ^ mid.length) ≠ 0 := Int.pow_ne_zero (by decide)
  refine Int.eq_of_mul_eq_mul_left s ?_
  rw [← h1]; grind
theorem rel_all {as : List Row} {b : Int} (cs : List Nat) : ∀ (es aas mid : List Row), All2 (fun e a => ∀ cs t, D cs (as ++ e :: t) = b * D cs (as ++ a :: t)) es aas → D cs (as ++ (mid ++ es)) = b ^ es.length * D cs (as ++ (mid ++ aas))
  | [], [], mid, _ => by simp
  | e :: es, a :: aas, mid, h => by
    have ih := rel_all cs es aas (mid ++ [a]) h.2
    have h1 := rel_mid h.1 cs mid es
    simp only [List.append_assoc, List.cons_append, List.nil_append] at ih
    rw [h1, ih, List.length_cons, Int.pow_succ]; grind
theorem all2_drop {P : Row → Row → Prop} {A M : List (List Int)} {n : Nat} (lA : A.length = n) (lM : M.length = n) : ∀ (d k : Nat), k + d = n → (∀ i, k ≤ i → i < n → P (cf (M.getD i [])) (cf (A.getD i []))) → All2 P ((M.drop k).map cf) ((A.drop k).map cf)
  | 0, k, hd, _ => by
    rw [List.drop_eq_nil_of_le (by omega), List.drop_eq_nil_of_le (by omega)]
    trivial
  | d + 1, k, hd, h => by
    rw [List.drop_eq_getElem_cons (show k < M.length by omega), List.drop_eq_getElem_cons (show k < A.length by omega)]
    refine ⟨?_, all2_drop lA lM d (k + 1) (by omega) fun i h1 h2 => h i (by omega) h2⟩
    have := h k (Nat.le_refl _) (by omega)
    rw [List.getD_eq_getElem?_getD, List.getD_eq_getElem?_getD, List.getElem?_eq_getElem (show k < M.length by omega), List.getElem?_eq_getElem (show k < A.length by omega)] at this
    exact this
theorem range_split {k n : Nat} (h : k ≤ n) : List.range n = List.range k ++ (List.range (n - k)).map (k + ·) := by
  conv => lhs; rw [show n = k + (n - k) by omega, List.range_add]
theorem Inv.none {n W k : Nat} {w : List Int → Nat} {A M : List (List Int)} {b : Int} (h : Inv n W k w A M b) (hk : k < n) (hp : pivL M k = M.length) : D (List.range n) (A.map cf) = 0 := by
  have lA := h.lA
  have lM := h.lM
  have h1 := rel_all (as := (A.take k).map cf) (b := b) (List.range n) ((M.drop k).map cf) ((A.drop k).map cf) [] (all2_drop lA lM (n - k) k (by omega) fun i h1 h2 => h.rel i h1 h2)
  have hz : ∀ u ∈ (M.drop k).map cf, ∀ c, c ≤ k → u c = 0 := by
    intro u hu c hc
    obtain ⟨S, hS, rfl⟩ := List.mem_map.mp hu
    obtain ⟨i, hi, hSi⟩ := List.mem_iff_getElem.mp hS
    rw [List.length_drop] at hi
    have e : S = M.getD (k + i) [] := by
      rw [← hSi, List.getElem_drop, List.getD_eq_getElem?_getD, List.getElem?_eq_getElem (by omega)]; rfl
    rw [e]
    by_cases hck : c = k
    · subst hck; exact pivL_all (by omega) hp (c + i) (by omega) (by omega)
    · exact h.z (k + i) (by omega) (by omega) c (by omega)
  rw [List.nil_append, List.nil_append, ← List.map_append (l₁ := A.take k) (l₂ := A.drop k), List.take_append_drop] at h1
  have h2 : D (List.range n) ((A.take k).map cf ++ (M.drop k).map cf) = 0 := by
    rw [range_split (k := k) (n := n) (by omega), block _ _ _ _ (h.as_len (by omega)) (fun u hu c hc => hz u hu c (by have := List.mem_range.mp hc; omega))]
    obtain ⟨m, hm⟩ : ∃ m, n - k = m + 1 := ⟨n - k - 1, by omega⟩
    rw [hm, List.range_succ_eq_map, List.map_cons]
    show _ * ex _ _ _ _ = 0
    rw [ex_zero _ _ _ _ fun u hu => hz u hu _ (by omega), Int.mul_zero]
  rw [h2] at h1
  exact (Int.mul_eq_zero.mp h1.symm).resolve_left (Int.pow_ne_zero h.b0)
theorem detG_eq {n W : Nat} {w : List Int → Nat} : ∀ (r k : Nat) (A M : List (List Int)) (s b : Int), Inv n W k w A M b → k + r = n → detG r k M s b = s * D (List.range n) (A.map cf)
  | 0, k, A, M, s, b, h, hr => by
    have hk : k = n := by omega
    subst hk
    have := h.hb
    rw [List.take_of_length_le (by rw [h.lA]; exact Nat.le_refl _)] at this
    rw [this]; rfl
  | r + 1, k, A, M, s, b, h, hr => by
    have lA := h.lA
    have lM := h.lM
    by_cases hp : pivL M k = M.length
    · rw [detG_no hp, h.none (by omega) hp, Int.mul_zero]
    · rw [detG_go hp]
      have hge := pivL_ge M k
      have hle := pivL_le (M := M) (k := k) (by omega)
      have hat := pivL_at (M := M) (k := k) (by omega) hp
      have same : ∀ N : List (List Int), N.length = n → at_ (clrL N k b) k k = at_ N k k := by
        intro N hN
        unfold at_
        rw [getD_clr k (by omega) (by omega), if_pos (Nat.le_refl _)]
      by_cases hgt : k < pivL M k
      · rw [swp_gt rfl hgt, sgn_gt rfl hgt, same _ (by rw [swapL_len]; exact lM)]
        have hs := h.swap hgt (show pivL M k < n by omega)
        have := hs.step (by omega) (by
          unfold at_
          rw [getD_sw M k _ k (by omega) (by omega), if_neg (by omega), if_pos rfl]
          exact hat)
        rw [detG_eq r (k + 1) _ _ (-s) _ this (by omega), D_swap hgt (by omega)]
        grind
      · have he : pivL M k = k := by omega
        rw [he] at hat
        rw [swp_eq he, sgn_eq he, same _ lM]
        exact detG_eq r (k + 1) _ _ s _ (h.step (by omega) hat) (by omega)
theorem Inv.start {n W : Nat} {w : List Int → Nat} {A : List (List Int)} (lA : A.length = n) (wd : ∀ R ∈ A, R.length = n) (sA : ∀ R ∈ A, ∀ j, (cf R j).natAbs ≤ 2 ^ w R) (tot : (A.map w).sum ≤ W) (hn : 0 < n) : Inv n W 0 w A A 1 := by
  refine ⟨lA, lA, wd, by simp [D], by decide, fun _ _ _ j hj => absurd hj (by omega), fun i _ _ cs t => by simp, sA, tot, fun R hR j => ?_⟩
  refine Nat.le_trans (sA R hR j) ?_
  have h1 : w R ≤ W := by
    have := sum_sub w (List.singleton_sublist.mpr hR)
    simp only [List.map_cons, List.map_nil, List.sum_cons, List.sum_nil] at this
    omega
  exact Nat.le_trans (Nat.pow_le_pow_right (by decide) h1) (Nat.le_mul_of_pos_left _ (Nat.pow_pos hn))
theorem detL_eq {n : Nat} {w : List Int → Nat} {A : List (List Int)} (lA : A.length = n) (wd : ∀ R ∈ A, R.length = n) (sA : ∀ R ∈ A, ∀ j, (cf R j).natAbs ≤ 2 ^ w R) : detL A = D (List.range n) (A.map cf) := by
  by_cases hn : n = 0
  · subst hn
    rw [List.length_eq_zero_iff] at lA
    subst lA; rfl
  · unfold detL
    rw [lA, detG_eq (w := w) (W := (A.map w).sum) n 0 A A 1 1 (Inv.start lA wd sA (Nat.le_refl _) (by omega)) (by omega), Int.one_mul]
end DT

set_option linter.all false
/-! Resultants. -/
namespace DT
open ML
/-- the columns from the last to the first -/
def dn : Nat → List Nat
  | 0 => []
  | n + 1 => n :: dn n
theorem mem_dn {c : Nat} : ∀ {n : Nat}, c ∈ dn n → c < n
  | n + 1, h => by
    rcases List.mem_cons.mp h with rfl | h
    · omega
    · have := mem_dn h; omega
theorem dn_len : ∀ n, (dn n).length = n
  | 0 => rfl
  | n + 1 => by unfold dn; rw [List.length_cons, dn_len n]
/-- x^k times p -/
def sh (k : Nat) (p : Row) : Row := fun j => if j < k then 0 else p (j - k)
def shs : Nat → Row → List Row
  | 0, _ => []
  | k + 1, p => sh k p :: shs k p
theorem shs_len (p : Row) : ∀ k, (shs k p).length = k
  | 0 => rfl
  | k + 1 => by unfold shs; rw [List.length_cons, shs_len p k]
theorem sh_zero (p : Row) : sh 0 p = p := by funext j; simp [sh]
theorem sh_sh (i k : Nat) (p : Row) : sh i (sh k p) = sh (i + k) p := by
  funext j
  unfold sh
  by_cases h1 : j < i
  · rw [if_pos h1, if_pos (by omega)]
  · rw [if_neg h1]
    by_cases h2 : j - i < k
    · rw [if_pos h2, if_pos (by omega)]
    · rw [if_neg h2, if_neg (by omega), show j - i - k = j - (i + k) by omega]
theorem shs_add (n : Nat) (p : Row) : ∀ m, shs (m + n) p = shs m (sh n p) ++ shs n p
  | 0 => by rw [Nat.zero_add]; rfl
  | m + 1 => by
    rw [show m + 1 + n = (m + n) + 1 by omega]
    show sh (m + n) p :: shs (m + n) p = sh m (sh n p) :: (shs m (sh n p) ++ shs n p)
    rw [shs_add n p m, sh_sh]
theorem mem_shs {u p : Row} : ∀ {k : Nat}, u ∈ shs k p → ∃ i, i < k ∧ u = sh i p
  | k + 1, h => by
    rcases List.mem_cons.mp h with rfl | h
    · exact ⟨k, by omega, rfl⟩
    · obtain ⟨i, h1, h2⟩ := mem_shs h; exact ⟨i, by omega, h2⟩
/-! alike on the columns -/
theorem ex_congr {P : Row → Row → Prop} {c : Nat} {F : List Row → Int} (hP : ∀ e a, P e a → e c = a c) (hF : ∀ q q', All2 P q q' → F q = F q') : ∀ (post post' pre pre' : List Row), All2 P pre pre' → All2 P post post' → ex c F pre post = ex c F pre' post'
  | [], [], _, _, _, _ => rfl
  | r :: post, r' :: post', pre, pre', h1, h2 => by
    have app : ∀ (a a' b b' : List Row), All2 P a a' → All2 P b b' → All2 P (a ++ b) (a' ++ b') := by
      intro a
      induction a with
      | nil => intro a' b b' h h'; cases a' with
        | nil => exact h'
        | cons _ _ => exact h.elim
      | cons x a ih => intro a' b b' h h'; cases a' with
        | nil => exact h.elim
        | cons y a' => exact ⟨h.1, ih a' b b' h.2 h'⟩
    unfold ex
    rw [hP r r' h2.1, hF _ _ (app _ _ _ _ h1 h2.2), ex_congr hP hF post post' (pre ++ [r]) (pre' ++ [r']) (app _ _ _ _ h1 ⟨h2.1, trivial⟩) h2.2]
theorem D_congr : ∀ (cs : List Nat) (rs rs' : List Row), All2 (fun e a => ∀ c ∈ cs, e c = a c) rs rs' → D cs rs = D cs rs'
  | [], [], [], _ => rfl
  | [], _ :: _, _ :: _, _ => rfl
  | c :: cs, rs, rs', h => by
    refine ex_congr (P := fun e a => ∀ d ∈ c :: cs, e d = a d) (fun e a h => h c (List.mem_cons_self ..)) (fun q q' hq => ?_) rs rs' [] [] trivial h
    refine D_congr cs q q' ?_
    have wk : ∀ (a b : List Row), All2 (fun e a => ∀ d ∈ c :: cs, e d = a d) a b → All2 (fun e a => ∀ d ∈ cs, e d = a d) a b := by
      intro a
      induction a with
      | nil => intro b h; cases b with
        | nil => trivial
        | cons _ _ => exact h.elim
      | cons x a ih => intro b h; cases b with
        | nil => exact h.elim
        | cons y b => exact ⟨fun d hd => h.1 d (List.mem_cons_of_mem _ hd), ih b h.2⟩
    exact wk q q' hq
theorem all2_refl {P : Row → Row → Prop} (h : ∀ r, P r r) : ∀ rs, All2 P rs rs
  | [] => trivial
  | r :: rs => ⟨h r, all2_refl h rs⟩
theorem all2_app {P : Row → Row → Prop} : ∀ {a a' b b' : List Row}, All2 P a a' → All2 P b b' → All2 P (a ++ b) (a' ++ b')
  | [], [], _, _, _, h' => h'
  | x :: a, y :: a', _, _, h, h' => ⟨h.1, all2_app h.2 h'⟩
theorem D_relabel (g : Nat → Nat) : ∀ (cs : List Nat) (rs : List Row), D (cs.map g) rs = D cs (rs.map fun r c => r (g c))
  | [], [] => rfl
  | [], _ :: _ => rfl
  | c :: cs, rs => by
    have aux : ∀ (post pre : List Row), ex (g c) (D (cs.map g)) pre post = ex c (D cs) (pre.map fun r c => r (g c)) (post.map fun r c => r (g c)) := by
      intro post
      induction post with
      | nil => intro pre; rfl
      | cons r post ih =>
        intro pre
        rw [List.map_cons]
        unfold ex
        rw [ih, D_relabel g cs, List.map_append, List.map_append]
        rfl
    exact aux rs []
theorem range_dn : ∀ N, List.range N = (dn N).map fun c => N - 1 - c
  | 0 => rfl
  | N + 1 => by
    rw [List.range_succ_eq_map, range_dn N, List.map_map]
    show 0 :: _ = (N + 1 - 1 - N) :: List.map (fun c => N + 1 - 1 - c) (dn N)
    congr 1
    · omega
    · refine List.map_congr_left fun c hc => ?_
      have := mem_dn hc
      show N - 1 - c + 1 = N + 1 - 1 - c
      omega
theorem D_zero (cs : List Nat) (a b : List Row) : D cs (a ++ (fun _ => 0) :: b) = 0 := by
  have h := lin cs a b (fun _ => 0) (fun _ => 0) 1
  simp only [Int.mul_zero, Int.add_zero, Int.one_mul] at h
  omega
theorem D_zero' {cs : List Nat} {u : Row} (h : ∀ d ∈ cs, u d = 0) (a b : List Row) : D cs (a ++ u :: b) = 0 := by
  rw [D_congr cs _ (a ++ (fun _ => 0) :: b) (all2_app (b := u :: b) (b' := (fun _ => 0) :: b) (all2_refl (fun _ _ _ => rfl) a) ⟨fun c hc => h c hc, all2_refl (fun _ _ _ => rfl) b⟩), D_zero]
theorem D_top {c : Nat} {cs : List Nat} {u : Row} {us : List Row} (h : ∀ v ∈ us, v c = 0) : D (c :: cs) (u :: us) = u c * D cs us := by
  show ex c (D cs) [] (u :: us) = _
  unfold ex
  rw [ex_zero c _ us _ h]
  simp
theorem D_first {c : Nat} {cs : List Nat} {u : Row} {us : List Row} (h : ∀ d ∈ cs, u d = 0) : D (c :: cs) (u :: us) = u c * D cs us := by
  have aux : ∀ (post q : List Row), ex c (D cs) (u :: q) post = 0 := by
    intro post
    induction post with
    | nil => intro q; rfl
    | cons r post ih =>
      intro q
      unfold ex
      have h1 := D_zero' h [] (q ++ post)
      rw [List.nil_append] at h1
      rw [List.cons_append, h1, List.cons_append, ih]
      simp
  show ex c (D cs) [] (u :: us) = _
  unfold ex
  rw [List.nil_append, List.nil_append, aux us []]
  omega
theorem D_long : ∀ (cs : List Nat) (rs : List Row), cs.length < rs.length → D cs rs = 0
  | [], _ :: _, _ => rfl
  | c :: cs, rs, h => by
    have aux : ∀ (post pre : List Row), cs.length + 1 < pre.length + post.length → ex c (D cs) pre post = 0 := by
      intro post
      induction post with
      | nil => intro pre _; rfl
      | cons r post ih =>
        intro pre hp
        rw [List.length_cons] at hp
        unfold ex
        rw [D_long cs (pre ++ post) (by rw [List.length_append]; omega), ih (pre ++ [r]) (by rw [List.length_append, List.length_singleton]; omega)]
        simp
    exact aux rs [] (by rw [List.length_cons] at h; rw [List.length_nil]; omega)
/-- the rows ws, so many times as r says -/
def comb : List Nat → List Row → Row → Row
  | t :: ts, w :: ws, r => fun j => comb ts ws r j + r t * w j
  | _, _, _ => fun _ => 0
theorem D_comb (cols : List Nat) (rest : List Row) : ∀ (ts : List Nat) (ws : List Row), ts.length = ws.length → ∀ (as Cs : List Row), ws.length ≤ Cs.length → D cols (as ++ (Cs.map (comb ts ws) ++ rest)) = D ts Cs * D cols (as ++ (ws ++ rest))
  | [], [], _, as, Cs, _ => by
    cases Cs with
    | nil => simp [D]
    | cons c Cs =>
      rw [List.map_cons]
      show D cols (as ++ (fun _ => 0) :: _) = 0 * _
      rw [D_zero, Int.zero_mul]
  | t :: ts, w :: ws, hl, as, Cs, hC => by
    rw [List.length_cons, List.length_cons] at hl
    rw [List.length_cons] at hC
    have IH := D_comb cols rest ts ws (by omega)
    have clr : ∀ (post a b : List Row), D cols (a ++ w :: (b ++ (post.map (comb (t :: ts) (w :: ws)) ++ rest))) = D cols (a ++ w :: (b ++ (post.map (comb ts ws) ++ rest))) := by
      intro post
      induction post with
      | nil => intro a b; rfl
      | cons r post ih =>
        intro a b
        rw [List.map_cons, List.map_cons]
        have h1 := add_before cols a b (post.map (comb (t :: ts) (w :: ws)) ++ rest) (comb ts ws r) w (r t)
        have h2 := ih a (b ++ [comb ts ws r])
        simp only [List.append_assoc, List.cons_append, List.nil_append] at h2
        rw [List.cons_append, List.cons_append, ← h2]
        exact h1
    have aux : ∀ (post pre : List Row), pre.length + post.length = Cs.length → D cols (as ++ (pre.map (comb ts ws) ++ (post.map (comb (t :: ts) (w :: ws)) ++ rest))) = D cols (as ++ ((pre ++ post).map (comb ts ws) ++ rest)) + (-1) ^ pre.length * ex t (D ts) pre post * D cols (as ++ (w :: ws ++ rest)) := by
      intro post
      induction post with
      | nil => intro pre _; simp [ex]
      | cons r post ih =>
        intro pre hp
        rw [List.length_cons] at hp
        have h1 := lin cols (as ++ pre.map (comb ts ws)) (post.map (comb (t :: ts) (w :: ws)) ++ rest) (comb ts ws r) w (r t)
        have h2 := ih (pre ++ [r]) (by rw [List.length_append, List.length_singleton]; omega)
        have h3 := clr post (as ++ pre.map (comb ts ws)) []
        have h4 := moved cols w (post.map (comb ts ws) ++ rest) (pre.map (comb ts ws)) as
        have h5 := IH (as ++ [w]) (pre ++ post) (by rw [List.length_append]; omega)
        rw [List.map_cons]
        have e : comb (t :: ts) (w :: ws) r = fun j => comb ts ws r j + r t * w j := rfl
        rw [List.cons_append, e]
        simp only [List.append_assoc, List.cons_append, List.nil_append, List.map_append, List.map_cons, List.map_nil, List.length_append, List.length_singleton, List.length_map] at h1 h2 h3 h4 h5 ⊢
        rw [h1, h2, h3]
        rw [h5] at h4
        have sq : ((-1 : Int) ^ pre.length) * ((-1) ^ pre.length) = 1 := by
          rw [← Int.pow_add, ← Nat.two_mul, Int.pow_mul, show ((-1 : Int) ^ 2) = 1 from rfl, Int.one_pow]
        have h6 : D cols (as ++ (List.map (comb ts ws) pre ++ w :: (List.map (comb ts ws) post ++ rest))) = (-1) ^ pre.length * (D ts (pre ++ post) * D cols (as ++ w :: (ws ++ rest))) := by
          rw [h4, ← Int.mul_assoc, sq, Int.one_mul]
        rw [h6, ex, Int.pow_succ]
        grind
    have h1 := aux Cs [] (by simp)
    have h2 := IH as Cs (by omega)
    rw [D_long ts Cs (by omega), Int.zero_mul] at h2
    simp only [List.map_nil, List.nil_append, List.length_nil, Int.pow_zero, Int.one_mul] at h1
    rw [h2, Int.zero_add] at h1
    exact h1
theorem comb_null {cols : List Nat} {as : List Row} (r : Row) (mid t : List Row) : ∀ (ts : List Nat) (ws : List Row), (∀ w ∈ ws, w ∈ as) → D cols (as ++ (mid ++ comb ts ws r :: t)) = 0
  | [], _, _ => by
    have := D_zero cols (as ++ mid) t
    rw [List.append_assoc] at this
    exact this
  | _ :: _, [], _ => by
    have := D_zero cols (as ++ mid) t
    rw [List.append_assoc] at this
    exact this
  | k :: ts, w :: ws, h => by
    have h1 := lin cols (as ++ mid) t (comb ts ws r) w (r k)
    rw [List.append_assoc, List.append_assoc, List.append_assoc, comb_null r mid t ts ws fun x hx => h x (List.mem_cons_of_mem _ hx)] at h1
    obtain ⟨a, b, e⟩ := List.append_of_mem (h w (List.mem_cons_self ..))
    have h2 := alike cols a (b ++ mid) t w
    rw [e] at h1 ⊢
    simp only [List.append_assoc, List.cons_append] at h1 h2 ⊢
    rw [h2] at h1
    exact h1.trans (by omega)
/-- the higher rows of a triangle -/
theorem peel {N : Nat} {q : Row} {us : List Row} (hq : ∀ j, N < j → q j = 0) (hu : ∀ u ∈ us, ∀ c, N ≤ c → u c = 0) : ∀ k, D (dn (N + k)) (shs k q ++ us) = q N ^ k * D (dn N) us
  | 0 => by simp [shs]
  | k + 1 => by
    show D ((N + k) :: dn (N + k)) (sh k q :: (shs k q ++ us)) = _
    rw [D_top, peel hq hu k, Int.pow_succ]
    · have : sh k q (N + k) = q N := by unfold sh; rw [if_neg (by omega), Nat.add_sub_cancel]
      rw [this]; grind
    · intro v hv
      rcases List.mem_append.mp hv with hv | hv
      · obtain ⟨i, hi, rfl⟩ := mem_shs hv
        unfold sh
        rw [if_neg (by omega)]
        exact hq _ (by omega)
      · exact hu v hv _ (by omega)
/-- the product -/
def pm (p q : Row) : Row := fun k => sm (k + 1) fun i => p i * q (k - i)
theorem sh_van {k N : Nat} {p : Row} (h : ∀ j, N < j → p j = 0) {c : Nat} (hc : N + k < c) : sh k p c = 0 := by
  unfold sh
  rw [if_neg (by omega)]
  exact h _ (by omega)
theorem comb_sm (q r : Row) (j : Nat) : ∀ K, comb (dn K) (shs K q) r j = sm K fun i => r i * sh i q j
  | 0 => rfl
  | K + 1 => by
    show comb (dn K) (shs K q) r j + r K * sh K q j = _
    rw [comb_sm q r j K]; rfl
theorem comb_pm {q r : Row} {K : Nat} (h : ∀ j, K ≤ j → r j = 0) : comb (dn K) (shs K q) r = pm r q := by
  funext j
  rw [comb_sm]
  unfold pm
  have e : ∀ i, i < j + 1 → r i * q (j - i) = r i * sh i q j := fun i hi => by
    unfold sh; rw [if_neg (by omega)]
  rw [sm_congr e]
  rcases Nat.le_total K (j + 1) with hK | hK
  · exact (sm_ext hK fun i h1 h2 => by rw [h i h1, Int.zero_mul]).symm
  · exact sm_ext hK fun i h1 h2 => by
      unfold sh; rw [if_pos (by omega), Int.mul_zero]
end DT

set_option linter.all false
/-! The laws of resultants. -/
namespace DT
open ML
def Res (m n : Nat) (p q : Row) : Int := D (dn (m + n)) (shs n p ++ shs m q)
def Deg (p : Row) (m : Nat) : Prop := ∀ j, m < j → p j = 0
theorem Deg.sh {p : Row} {m : Nat} (h : Deg p m) {k c : Nat} (hc : m + k < c) : sh k p c = 0 := sh_van h hc
def one_ : Row := fun j => if j = 0 then 1 else 0
theorem deg_one : Deg one_ 0 := fun j hj => if_neg (by omega)
theorem pm_one (q : Row) : pm one_ q = q := by
  funext j
  unfold pm one_
  rw [sm_single (j := 0) (by omega) fun i _ hi => by rw [if_neg hi, Int.zero_mul]]
  simp
theorem pm_sh1 (p q : Row) : pm (sh 1 p) q = sh 1 (pm p q) := by
  funext j
  cases j with
  | zero =>
    show sm 1 _ = 0
    simp [sm, sh]
  | succ j =>
    show sm (j + 1 + 1) _ = sh 1 (pm p q) (j + 1)
    rw [sm_shift]
    have e : sh 1 (pm p q) (j + 1) = pm p q j := by unfold sh; rw [if_neg (by omega), Nat.add_sub_cancel]
    rw [e]
    unfold pm
    have z : sh 1 p 0 * q (j + 1 - 0) = 0 := by simp [sh]
    rw [z, Int.zero_add]
    refine sm_congr fun i hi => ?_
    have e1 : sh 1 p (i + 1) = p i := by unfold sh; rw [if_neg (by omega), Nat.add_sub_cancel]
    rw [e1, show j + 1 - (i + 1) = j - i by omega]
theorem pm_sh (p q : Row) : ∀ k, pm (sh k p) q = sh k (pm p q)
  | 0 => by rw [sh_zero, sh_zero]
  | k + 1 => by
    rw [show k + 1 = 1 + k by omega, ← sh_sh, pm_sh1, pm_sh p q k, sh_sh]
theorem pm_comm (p q : Row) : pm p q = pm q p := by
  funext j
  unfold pm
  rw [← sm_rev]
  refine sm_congr fun i hi => ?_
  rw [show j + 1 - 1 - i = j - i by omega, show j - (j - i) = i by omega, Int.mul_comm]
theorem deg_pm {p q : Row} {m n : Nat} (hp : Deg p m) (hq : Deg q n) : Deg (pm p q) (m + n) := fun j hj => sm_zero fun i hi => by
  by_cases h : m < i
  · rw [hp i h, Int.zero_mul]
  · rw [hq _ (by omega), Int.mul_zero]
theorem pm_top {p q : Row} {m n : Nat} (hp : Deg p m) (hq : Deg q n) : pm p q (m + n) = p m * q n := by
  unfold pm
  rw [sm_single (j := m) (by omega) fun i _ hi => by
    by_cases h : m < i
    · rw [hp i h, Int.zero_mul]
    · rw [hq _ (by omega), Int.mul_zero]]
  rw [show m + n - m = n by omega]
theorem comb_shs {p q : Row} {m k K : Nat} (hp : Deg p m) (h : m + k ≤ K) : (shs k p).map (comb (dn K) (shs K q)) = shs k (pm p q) := by
  have aux : ∀ i, i ≤ k → (shs i p).map (comb (dn K) (shs K q)) = shs i (pm p q) := by
    intro i
    induction i with
    | zero => intro _; rfl
    | succ i ih =>
      intro hi
      show comb (dn K) (shs K q) (DT.sh i p) :: _ = DT.sh i (pm p q) :: _
      rw [ih (by omega), comb_pm (fun j hj => hp.sh (k := i) (by omega)), pm_sh]
  exact aux k (Nat.le_refl _)
/-- a constant -/
theorem Res_const {n : Nat} {p q : Row} (hp : Deg p 0) : Res 0 n p q = p 0 ^ n := by
  unfold Res
  have := peel (us := []) hp (fun u hu => by cases hu) n
  show D (dn (0 + n)) (shs n p ++ []) = _
  rw [this]
  show _ * 1 = _
  rw [Int.mul_one]
/-- one row of R's less: the top's power -/
theorem Res_over {m n k : Nat} {p q : Row} (hp : Deg p m) (hq : Deg q n) : D (dn (m + n + k)) (shs (k + n) p ++ shs m q) = p m ^ k * Res m n p q := by
  rw [shs_add, List.append_assoc]
  have hs : ∀ j, m + n < j → sh n p j = 0 := fun j hj => hp.sh hj
  rw [peel hs (fun u hu c hc => ?_) k]
  · have : sh n p (m + n) = p m := by unfold sh; rw [if_neg (by omega), Nat.add_sub_cancel]
    rw [this]; rfl
  · rcases List.mem_append.mp hu with hu | hu
    · obtain ⟨i, hi, rfl⟩ := mem_shs hu
      exact hp.sh (by omega)
    · obtain ⟨i, hi, rfl⟩ := mem_shs hu
      exact hq.sh (by omega)
theorem Res_mul {m n d : Nat} {p q r : Row} (hp : Deg p m) (hq : Deg q n) (hr : Deg r d) (h0 : r d ≠ 0) : Res (m + d) n (pm p r) q = Res m n p q * Res d n r q := by
  have h1 := D_comb (dn (m + d + n)) [] (dn (d + m)) (shs (d + m) q) (by rw [dn_len, shs_len]) (shs n (pm p r)) (shs m r ++ shs d one_) (by rw [shs_len, List.length_append, shs_len, shs_len]; omega)
  rw [List.map_append, comb_shs hr (Nat.le_refl _), comb_shs deg_one (by omega), pm_one] at h1
  have h2 : D (dn (d + m)) (shs m r ++ shs d one_) = r d ^ m := by
    rw [peel hr (fun u hu c hc => ?_) m]
    · have := peel (us := []) deg_one (fun u hu => by cases hu) d
      rw [Nat.zero_add, List.append_nil] at this
      rw [this]
      show r d ^ m * ((1 : Int) ^ d * 1) = _
      rw [Int.one_pow]; simp
    · obtain ⟨i, hi, rfl⟩ := mem_shs hu
      exact deg_one.sh (by omega)
  rw [h2] at h1
  have h3 := D_comb (dn (m + d + n)) (shs d q) (dn (m + n)) (shs (m + n) r) (by rw [dn_len, shs_len]) [] (shs n p ++ shs m q) (by rw [shs_len, List.length_append, shs_len, shs_len]; omega)
  rw [List.map_append, comb_shs hp (Nat.le_refl _), comb_shs hq (by omega)] at h3
  have h4 := Res_over (k := m) hr hq
  rw [show m + d + n = d + n + m by omega] at h1 h3
  simp only [List.nil_append, List.append_nil] at h1 h3
  rw [h4] at h3
  rw [pm_comm q r, List.append_assoc] at h3
  rw [h3] at h1
  have e : Res (m + d) n (pm p r) q = D (dn (d + n + m)) (shs n (pm p r) ++ shs (d + m) q) := by
    unfold Res
    rw [show m + d + n = d + n + m by omega, show m + d = d + m by omega]
  rw [← e] at h1
  have hm : r d ^ m ≠ 0 := Int.pow_ne_zero h0
  refine Int.eq_of_mul_eq_mul_left hm ?_
  rw [← h1]
  unfold Res
  grind
/-- a common part -/
theorem Res_common {m n d : Nat} {p q f : Row} (hp : Deg p m) (hq : Deg q n) (hd : 0 < d) : Res (m + d) (n + d) (pm p f) (pm q f) = 0 := by
  have h1 := D_comb (dn (m + d + (n + d))) [] (dn (m + n + d)) (shs (m + n + d) f) (by rw [dn_len, shs_len]) [] (shs (n + d) p ++ shs (m + d) q) (by rw [shs_len, List.length_append, shs_len, shs_len]; omega)
  rw [List.map_append, comb_shs hp (by omega), comb_shs hq (by omega), D_long (dn (m + n + d)) _ (by rw [dn_len, List.length_append, shs_len, shs_len]; omega), Int.zero_mul] at h1
  simp only [List.nil_append, List.append_nil] at h1
  exact h1
/-- the other with so many times the one added -/
theorem Res_add {m h d : Nat} {p q r : Row} (hp : Deg p m) (hh : Deg q h) (hr : Deg r d) (hd : d < m) : Res m (m + h) p (fun j => r j + pm q p j) = p m ^ (m + h - d) * Res m d p r := by
  have h1 := rel_all (as := shs (m + h) p) (b := 1) (dn (m + (m + h))) (shs m (fun j => r j + pm q p j)) (shs m r) [] ?_
  · rw [List.nil_append, List.nil_append, Int.one_pow, Int.one_mul] at h1
    unfold Res
    rw [h1]
    have := Res_over (k := m + h - d) hp hr
    rw [show m + d + (m + h - d) = m + (m + h) by omega, show m + h - d + d = m + h by omega] at this
    exact this
  · have aux : ∀ k, k ≤ m → All2 (fun e a => ∀ cs t, D cs (shs (m + h) p ++ e :: t) = 1 * D cs (shs (m + h) p ++ a :: t)) (shs k (fun j => r j + pm q p j)) (shs k r) := by
      intro k
      induction k with
      | zero => intro _; trivial
      | succ k ih =>
        intro hk
        refine ⟨fun cs t => ?_, ih (by omega)⟩
        have e : DT.sh k (fun j => r j + pm q p j) = fun j => DT.sh k r j + 1 * comb (dn (m + h)) (shs (m + h) p) (DT.sh k q) j := by
          rw [comb_pm (fun j hj => hh.sh (k := k) (by omega)), pm_sh]
          funext j
          unfold DT.sh
          split
          · simp
          · show r (j - k) + pm q p (j - k) = r (j - k) + 1 * pm q p (j - k)
            omega
        rw [e, lin, Int.one_mul, Int.one_mul]
        have := comb_null (cols := cs) (as := shs (m + h) p) (DT.sh k q) [] t (dn (m + h)) (shs (m + h) p) (fun w hw => hw)
        rw [List.nil_append] at this
        rw [this, Int.add_zero]
    exact aux m (Nat.le_refl _)
theorem swap_blocks (cs : List Nat) (d : List Row) : ∀ (b a c : List Row), D cs (a ++ (b ++ (c ++ d))) = (-1) ^ (b.length * c.length) * D cs (a ++ (c ++ (b ++ d)))
  | [], a, c => by simp
  | x :: b, a, c => by
    have h1 := swap_blocks cs d b (a ++ [x]) c
    have h2 := moved cs x (b ++ d) c a
    simp only [List.append_assoc, List.cons_append, List.nil_append] at h1 h2 ⊢
    rw [h1, h2, List.length_cons, Nat.add_mul, Nat.one_mul, Int.pow_add]
    grind
theorem Res_swap (m n : Nat) (p q : Row) : Res n m q p = (-1) ^ (m * n) * Res m n p q := by
  unfold Res
  have := swap_blocks (dn (m + n)) [] (shs m q) [] (shs n p)
  simp only [List.append_nil, List.nil_append] at this
  rw [show n + m = m + n by omega, this, shs_len, shs_len]
theorem ex_app {c : Nat} {F : List Row → Int} (u : Row) : ∀ (zs pre : List Row), (∀ z ∈ zs, z c = 0) → ex c F pre (zs ++ [u]) = (-1) ^ zs.length * (u c * F (pre ++ zs))
  | [], pre, _ => by simp [ex]
  | z :: zs, pre, h => by
    rw [List.cons_append]
    unfold ex
    rw [h z (List.mem_cons_self ..), ex_app u zs (pre ++ [z]) fun x hx => h x (List.mem_cons_of_mem _ hx), List.length_cons, Int.pow_succ]
    simp only [List.append_assoc, List.cons_append, List.nil_append]
    grind
theorem low_tri (p : Row) : ∀ k, D (dn k) (shs k p) = p 0 ^ k
  | 0 => by simp [dn, shs, D]
  | k + 1 => by
    show D (k :: dn k) (sh k p :: shs k p) = _
    rw [D_first (fun d hd => by unfold sh; rw [if_pos (mem_dn hd)]), low_tri p k, Int.pow_succ]
    have : sh k p k = p 0 := by unfold sh; rw [if_neg (by omega), Nat.sub_self]
    rw [this]; grind
/-- what Q comes to at a / b, times b to the n -/
def hom (a b : Int) (q : Row) : Nat → Int
  | 0 => q 0
  | n + 1 => b * hom a b q n + q (n + 1) * a ^ (n + 1)
theorem Res_lin {p q : Row} (hp : Deg p 1) (a : Int) (h0 : p 0 = -a) : ∀ n, D (dn (n + 1)) (shs n p ++ [q]) = hom a (p 1) q n
  | 0 => by
    show D (0 :: []) [q] = _
    rw [one]; rfl
  | n + 1 => by
    show ex (n + 1) (D (dn (n + 1))) [] (sh n p :: (shs n p ++ [q])) = _
    unfold ex
    rw [ex_app q (shs n p) _ (fun z hz => by
      obtain ⟨i, hi, rfl⟩ := mem_shs hz
      exact hp.sh (by omega)), List.nil_append, List.nil_append, Res_lin hp a h0 n, shs_len]
    have e1 : sh n p (n + 1) = p 1 := by unfold sh; rw [if_neg (by omega), Nat.add_sub_cancel_left]
    have e2 := low_tri p (n + 1)
    have e3 : shs (n + 1) p = [sh n p] ++ shs n p := rfl
    rw [e3] at e2
    rw [e1, e2, h0]
    show _ = p 1 * hom a (p 1) q n + q (n + 1) * a ^ (n + 1)
    have e4 : ((-1 : Int) ^ n) * (-a) ^ (n + 1) = - a ^ (n + 1) := by
      have : (-a) ^ (n + 1) = (-1) ^ (n + 1) * a ^ (n + 1) := by rw [← Int.mul_pow]; simp
      rw [this, Int.pow_succ]
      have sq : ((-1 : Int) ^ n) * ((-1) ^ n) = 1 := by
        rw [← Int.pow_add, ← Nat.two_mul, Int.pow_mul, show ((-1 : Int) ^ 2) = 1 from rfl, Int.one_pow]
      grind
    grind
end DT

set_option linter.all false
/-! Determinants: sizes, and what is done to rows. -/
namespace DT
open ML MT RB
theorem Inv.cl {n W k N : Nat} {w : List Int → Nat} {A M : List (List Int)} {b : Int} (h : Inv n W k w A M b) (hk : k < n) (hn : n ≤ 100000) (hN : n ^ n * 2 ^ W < 2 ^ N) (N9 : N ≤ 9000) (N0 : 0 < N) (bb : b.natAbs < 2 ^ N) : ClSz N M k b := by
  have lM := h.lM
  have wk : (M.getD k []).length = n := h.wd _ (mem_getD (by omega))
  refine ⟨by omega, by omega, fun R hR => by rw [wk]; exact h.wd R hR, by omega, by omega, fun R hR => Sz.of fun j _ => Nat.lt_of_le_of_lt (h.sM R hR j) hN, N0, by omega, h.b0, ?_⟩
  have b0 := h.b0
  have : b.natAbs.log2 < N := (Nat.log2_lt (by omega)).mpr bb
  omega
theorem detOk_go {n W N : Nat} {w : List Int → Nat} (hn : n ≤ 100000) (hN : n ^ n * 2 ^ W < 2 ^ N) (N9 : N ≤ 9000) (N0 : 0 < N) : ∀ (r k : Nat) (A M : List (List Int)) (b : Int), Inv n W k w A M b → k + r = n → b.natAbs < 2 ^ N → detOk r k M b
  | 0, k, A, M, b, h, hr, bb => ⟨N, N0, by omega, bb⟩
  | r + 1, k, A, M, b, h, hr, bb => by
    have lA := h.lA
    have lM := h.lM
    refine ⟨fun R hR => by rw [h.wd R hR]; omega, fun hp => ?_⟩
    have hge := pivL_ge M k
    have hle := pivL_le (M := M) (k := k) (by omega)
    have hat := pivL_at (M := M) (k := k) (by omega) hp
    have same : ∀ N : List (List Int), N.length = n → at_ (clrL N k b) k k = at_ N k k := by
      intro N hN
      unfold at_
      rw [getD_clr k (by omega) (by omega), if_pos (Nat.le_refl _)]
    by_cases hgt : k < pivL M k
    · rw [swp_gt rfl hgt, same _ (by rw [swapL_len]; exact lM)]
      have hs := h.swap hgt (show pivL M k < n by omega)
      have := hs.step (by omega) (by
        unfold at_
        rw [getD_sw M k _ k (by omega) (by omega), if_neg (by omega), if_pos rfl]
        exact hat)
      exact ⟨⟨N, hs.cl (by omega) hn hN N9 N0 bb⟩, detOk_go hn hN N9 N0 r (k + 1) _ _ _ this (by omega) (Nat.lt_of_le_of_lt (hs.sM _ (mem_getD (by have := hs.lM; omega)) k) hN)⟩
    · have he : pivL M k = k := by omega
      rw [he] at hat
      rw [swp_eq he, same _ lM]
      exact ⟨⟨N, h.cl (by omega) hn hN N9 N0 bb⟩, detOk_go hn hN N9 N0 r (k + 1) _ _ _ (h.step (by omega) hat) (by omega) (Nat.lt_of_le_of_lt (h.sM _ (mem_getD (by omega)) k) hN)⟩
theorem detOk_of {n W N : Nat} {w : List Int → Nat} {A : List (List Int)} (lA : A.length = n) (wd : ∀ R ∈ A, R.length = n) (sA : ∀ R ∈ A, ∀ j, (cf R j).natAbs ≤ 2 ^ w R) (tot : (A.map w).sum ≤ W) (hn : n ≤ 100000) (hN : n ^ n * 2 ^ W < 2 ^ N) (N9 : N ≤ 9000) (N0 : 0 < N) : detOk A.length 0 A 1 := by
  have one : (1 : Int).natAbs < 2 ^ N := by
    show 1 < 2 ^ N
    exact Nat.one_lt_two_pow (by omega)
  by_cases h0 : n = 0
  · subst h0
    rw [lA]
    exact ⟨N, N0, by omega, one⟩
  · rw [lA]
    exact detOk_go hn hN N9 N0 n 0 A A 1 (Inv.start lA wd sA tot (by omega)) (by omega) one
/-- the product along the slant -/
def pd (M : List (List Int)) : Nat → Int
  | 0 => 1
  | k + 1 => pd M k * at_ M k k
theorem D_tri {M : List (List Int)} {n : Nat} (hl : M.length = n) (h : ∀ i, i < n → ∀ j, j < i → at_ M i j = 0) : ∀ k, k ≤ n → D (List.range k) ((M.take k).map cf) = pd M k
  | 0, _ => by simp [D, pd]
  | k + 1, hk => by
    rw [take_one (by omega), List.range_succ, block [k] _ (List.range k) _ (by rw [List.length_map, List.length_take, List.length_range]; omega) (fun u hu c hc => by
      rw [List.mem_singleton] at hu
      subst hu
      exact h k (by omega) c (List.mem_range.mp hc)), D_tri hl h k (by omega), one]
    rfl
theorem swapL_comm (M : List (List Int)) {i j : Nat} (h : i ≠ j) : swapL M i j = swapL M j i := by
  unfold swapL
  rw [List.set_comm _ _ h]
theorem D_swap' {A : List (List Int)} {i j : Nat} (h : i ≠ j) (hi : i < A.length) (hj : j < A.length) (cs : List Nat) : D cs ((swapL A i j).map cf) = - D cs (A.map cf) := by
  rcases Nat.lt_or_gt_of_ne h with h | h
  · exact D_swap h hj cs
  · rw [swapL_comm _ (by omega)]
    exact D_swap h hi cs
/-- a row with so many times another one added -/
def addRow (n : Nat) (R S : List Int) (m : Int) : List Int := (List.range n).map fun k => cf R k + m * cf S k
theorem cf_addRow {n : Nat} {R S : List Int} (m : Int) (hR : R.length = n) (hS : S.length = n) : cf (addRow n R S m) = fun j => cf R j + m * cf S j := by
  funext j
  by_cases h : j < n
  · exact cf_some (by unfold addRow; rw [List.getElem?_map, List.getElem?_range h]; rfl)
  · rw [cf_beyond (P := addRow n R S m) (by unfold addRow; rw [List.length_map, List.length_range]; omega), cf_beyond (P := R) (by omega), cf_beyond (P := S) (by omega)]
    simp
theorem D_add {A : List (List Int)} {n i j : Nat} (wd : ∀ R ∈ A, R.length = n) (h : i ≠ j) (hi : i < A.length) (hj : j < A.length) (m : Int) (cs : List Nat) : D cs ((A.set i (addRow n (A.getD i []) (A.getD j []) m)).map cf) = D cs (A.map cf) := by
  have hR := wd _ (mem_getD hi)
  have hS := wd _ (mem_getD hj)
  rcases Nat.lt_or_gt_of_ne h with h | h
  · obtain ⟨a, r, b, s, c, e, h1, h2⟩ := split2 A i j h hj
    have e1 : A.getD i [] = r := by
      rw [e, List.getD_eq_getElem?_getD, List.getElem?_append_right (by omega), h1, Nat.sub_self]; rfl
    have e2 : A.getD j [] = s := by
      rw [e, ← h2, List.getD_eq_getElem?_getD, List.getElem?_append_right (by omega), show a.length + (1 + b.length) - a.length = b.length + 1 by omega, List.getElem?_cons_succ, List.getElem?_append_right (by omega), Nat.sub_self]; rfl
    rw [e1] at hR ⊢
    rw [e2] at hS ⊢
    have e3 : A.set i (addRow n r s m) = a ++ addRow n r s m :: (b ++ s :: c) := by
      rw [e, ← h1, List.set_append_right _ _ (Nat.le_refl _), Nat.sub_self, List.set_cons_zero]
    rw [e3, e]
    simp only [List.map_append, List.map_cons]
    rw [cf_addRow m hR hS, add_after]
  · obtain ⟨a, s, b, r, c, e, h1, h2⟩ := split2 A j i h hi
    have e1 : A.getD j [] = s := by
      rw [e, List.getD_eq_getElem?_getD, List.getElem?_append_right (by omega), h1, Nat.sub_self]; rfl
    have e2 : A.getD i [] = r := by
      rw [e, ← h2, List.getD_eq_getElem?_getD, List.getElem?_append_right (by omega), show a.length + (1 + b.length) - a.length = b.length + 1 by omega, List.getElem?_cons_succ, List.getElem?_append_right (by omega), Nat.sub_self]; rfl
    rw [e1] at hS ⊢
    rw [e2] at hR ⊢
    have e3 : A.set i (addRow n r s m) = a ++ s :: (b ++ addRow n r s m :: c) := by
      rw [e, ← h2, List.set_append_right _ _ (by omega), show a.length + (1 + b.length) - a.length = b.length + 1 by omega, List.set_cons_succ, List.set_append_right _ _ (by omega), Nat.sub_self, List.set_cons_zero]
    rw [e3, e]
    simp only [List.map_append, List.map_cons]
    rw [cf_addRow m hR hS, add_before]
end DT

set_option linter.all false
set_option exponentiation.threshold 100000
/-! The rows of a resultant. -/
namespace DT
open ML RB
def bits : List Int → Nat
  | [] => 0
  | x :: r => max (x.natAbs.log2 + 1) (bits r)
theorem bits_cf : ∀ (R : List Int) (j : Nat), (cf R j).natAbs ≤ 2 ^ bits R
  | [], j => by rw [cf_nil]; exact Nat.zero_le _
  | x :: r, 0 => by
    rw [cf_zero]
    have h1 : x.natAbs < 2 ^ (x.natAbs.log2 + 1) := Nat.lt_log2_self
    exact Nat.le_trans (Nat.le_of_lt h1) (Nat.pow_le_pow_right (by decide) (Nat.le_max_left ..))
  | x :: r, j + 1 => by
    rw [cf_succ]
    exact Nat.le_trans (bits_cf r j) (Nat.pow_le_pow_right (by decide) (Nat.le_max_right ..))
theorem bits_le {b : Nat} (h0 : 1 ≤ b) : ∀ {R : List Int}, Sz b R → bits R ≤ b
  | [], _ => Nat.zero_le _
  | x :: r, h => by
    unfold bits
    refine Nat.max_le.mpr ⟨?_, bits_le h0 fun y hy => h y (List.mem_cons_of_mem _ hy)⟩
    have hx := h x (List.mem_cons_self ..)
    by_cases z : x.natAbs = 0
    · rw [z]; show 0 + 1 ≤ b; omega
    · have := (Nat.log2_lt z).mpr hx
      omega
/-- a row: the list turned round, noughts ahead and behind -/
def sylRow (k t : Nat) (P : List Int) : List Int := List.replicate k 0 ++ P.reverse ++ List.replicate t 0
def sylR (n : Nat) (P : List Int) : List (List Int) := (List.range n).map fun k => sylRow k (n - 1 - k) P
def sylL (P Q : List Int) : List (List Int) := sylR (Q.length - 1) P ++ sylR (P.length - 1) Q
theorem sylR_len (n : Nat) (P : List Int) : (sylR n P).length = n := by unfold sylR; rw [List.length_map, List.length_range]
theorem sylRow_sz {b k t : Nat} {P : List Int} (h : Sz b P) : Sz b (sylRow k t P) := fun x hx => by
  unfold sylRow at hx
  simp only [List.mem_append, List.mem_replicate, List.mem_reverse] at hx
  rcases hx with (⟨_, rfl⟩ | hx) | ⟨_, rfl⟩
  · exact Nat.two_pow_pos _
  · exact h x hx
  · exact Nat.two_pow_pos _
theorem sylRow_len (k t : Nat) (P : List Int) : (sylRow k t P).length = k + P.length + t := by
  unfold sylRow; simp only [List.length_append, List.length_replicate, List.length_reverse]
theorem cf_sylRow {k t N : Nat} {P : List Int} (hN : k + P.length + t = N) {c : Nat} (hc : c < N) : cf (sylRow k t P) (N - 1 - c) = sh t (cf P) c := by
  unfold sh
  by_cases h1 : c < t
  · rw [if_pos h1]
    refine cf_some ?_
    unfold sylRow
    rw [List.getElem?_append_right (by simp only [List.length_append, List.length_replicate, List.length_reverse]; omega), List.getElem?_replicate, if_pos]
    simp only [List.length_append, List.length_replicate, List.length_reverse]; omega
  · rw [if_neg h1]
    by_cases h2 : c - t < P.length
    · rw [cf_get h2]
      refine cf_some ?_
      unfold sylRow
      rw [List.getElem?_append_left (by simp only [List.length_append, List.length_replicate, List.length_reverse]; omega), List.getElem?_append_right (by rw [List.length_replicate]; omega), List.length_replicate, List.getElem?_reverse (by omega), show P.length - 1 - (N - 1 - c - k) = c - t by omega, List.getElem?_eq_getElem h2]
    · rw [cf_beyond (P := P) (by omega)]
      refine cf_some ?_
      unfold sylRow
      rw [List.append_assoc, List.getElem?_append_left (by rw [List.length_replicate]; omega), List.getElem?_replicate, if_pos (by omega)]
theorem all2_shs {P : Row → Row → Prop} {p : Row} : ∀ (n : Nat) (f : Nat → Row), (∀ k, k < n → P (f k) (sh (n - 1 - k) p)) → All2 P ((List.range n).map f) (shs n p)
  | 0, _, _ => trivial
  | n + 1, f, h => by
    rw [List.range_succ_eq_map, List.map_cons, List.map_map]
    refine ⟨h 0 (by omega), all2_shs n (f ∘ Nat.succ) fun k hk => ?_⟩
    have := h (k + 1) (by omega)
    rw [show n + 1 - 1 - (k + 1) = n - 1 - k by omega] at this
    exact this
theorem syl_part {N n : Nat} {P : List Int} (h : n - 1 + P.length = N ∨ n = 0) : All2 (fun e a => ∀ c ∈ dn N, e c = a c) (((sylR n P).map cf).map fun r c => r (N - 1 - c)) (shs n (cf P)) := by
  unfold sylR
  rw [List.map_map, List.map_map]
  refine all2_shs n _ fun k hk c hc => ?_
  have := mem_dn hc
  exact cf_sylRow (by omega) this
theorem syl_D {P Q : List Int} (hP : P ≠ []) (hQ : Q ≠ []) : D (List.range (P.length - 1 + (Q.length - 1))) ((sylL P Q).map cf) = Res (P.length - 1) (Q.length - 1) (cf P) (cf Q) := by
  have lP := List.length_pos_iff.mpr hP
  have lQ := List.length_pos_iff.mpr hQ
  rw [range_dn, D_relabel]
  unfold Res
  refine D_congr _ _ _ ?_
  unfold sylL
  rw [List.map_append, List.map_append]
  exact all2_app (syl_part (by omega)) (syl_part (by omega))
theorem sum_le (w : List Int → Nat) (b : Nat) : ∀ l : List (List Int), (∀ R ∈ l, w R ≤ b) → (l.map w).sum ≤ l.length * b
  | [], _ => by simp
  | R :: l, h => by
    have h1 := h R (List.mem_cons_self ..)
    have h2 := sum_le w b l fun S hS => h S (List.mem_cons_of_mem _ hS)
    rw [List.map_cons, List.sum_cons, List.length_cons, Nat.add_mul, Nat.one_mul]
    omega
/-- the resultant -/
def resL (P Q : List Int) : Int := if P = [] ∨ Q = [] then 0 else Res (P.length - 1) (Q.length - 1) (cf P) (cf Q)
/-- what the walk asks -/
structure ResOk (P Q : List Int) (b c : Nat) : Prop where
  b0 : 1 ≤ b
  c0 : 1 ≤ c
  sP : Sz b P
  sQ : Sz c Q
  n9 : P.length - 1 + (Q.length - 1) ≤ 16
  w9 : (Q.length - 1) * b + (P.length - 1) * c ≤ 8900
theorem syl_wd {P Q : List Int} (hP : P ≠ []) (hQ : Q ≠ []) : ∀ R ∈ sylL P Q, R.length = P.length - 1 + (Q.length - 1) := by
  have lP := List.length_pos_iff.mpr hP
  have lQ := List.length_pos_iff.mpr hQ
  intro R hR
  unfold sylL sylR at hR
  rcases List.mem_append.mp hR with hR | hR
  · obtain ⟨k, hk, rfl⟩ := List.mem_map.mp hR
    have := List.mem_range.mp hk
    rw [sylRow_len]; omega
  · obtain ⟨k, hk, rfl⟩ := List.mem_map.mp hR
    have := List.mem_range.mp hk
    rw [sylRow_len]; omega
/-- a bound of a resultant -/
theorem bound_le {N W M : Nat} (hN : N ≤ 16) (hW : W ≤ M) : N ^ N * 2 ^ W ≤ 2 ^ (64 + M) := by
  have h1 : N ^ N ≤ 16 ^ 16 := Nat.le_trans (Nat.pow_le_pow_left hN _) (Nat.pow_le_pow_right (by decide) hN)
  rw [Nat.pow_add]
  exact Nat.mul_le_mul (Nat.le_trans h1 (by decide)) (Nat.pow_le_pow_right (by decide) hW)
theorem ResOk.ok {P Q : List Int} {b c : Nat} (h : ResOk P Q b c) (hP : P ≠ []) (hQ : Q ≠ []) : detOk (sylL P Q).length 0 (sylL P Q) 1 ∧ MT.detL (sylL P Q) = resL P Q := by
  have wd := syl_wd hP hQ
  have ln : (sylL P Q).length = P.length - 1 + (Q.length - 1) := by
    unfold sylL; rw [List.length_append, sylR_len, sylR_len]; omega
  have n9 := h.n9
  have w9 := h.w9
  refine ⟨detOk_of (N := 9000) (W := 8900) ln wd (fun R _ j => bits_cf R j) ?_ (by omega) ?_ (by decide) (by decide), ?_⟩
  · refine Nat.le_trans ?_ w9
    unfold sylL
    rw [List.map_append, List.sum_append]
    have h1 := sum_le bits b (sylR (Q.length - 1) P) fun R hR => by
      unfold sylR at hR
      obtain ⟨k, _, rfl⟩ := List.mem_map.mp hR
      exact bits_le h.b0 (sylRow_sz h.sP)
    have h2 := sum_le bits c (sylR (P.length - 1) Q) fun R hR => by
      unfold sylR at hR
      obtain ⟨k, _, rfl⟩ := List.mem_map.mp hR
      exact bits_le h.c0 (sylRow_sz h.sQ)
    rw [sylR_len] at h1 h2
    omega
  · exact Nat.lt_of_le_of_lt (bound_le n9 (Nat.le_refl _)) (Nat.pow_lt_pow_right (by decide) (by decide))
  · rw [detL_eq ln wd (fun R _ j => bits_cf R j), syl_D hP hQ]
    unfold resL
    rw [if_neg fun z => z.elim hP hQ]
theorem ResOk.lt {P Q : List Int} {b c M : Nat} (h : ResOk P Q b c) (hM : (Q.length - 1) * b + (P.length - 1) * c ≤ M) : (resL P Q).natAbs < 2 ^ (65 + M) := by
  unfold resL
  split
  · exact Nat.two_pow_pos _
  · next hn =>
    have hP : P ≠ [] := fun z => hn (.inl z)
    have hQ : Q ≠ [] := fun z => hn (.inr z)
    have ln : (sylL P Q).length = P.length - 1 + (Q.length - 1) := by
      unfold sylL; rw [List.length_append, sylR_len, sylR_len]; omega
    rw [← syl_D hP hQ]
    have hb := boundW (L := P.length - 1 + (Q.length - 1)) bits (List.range (P.length - 1 + (Q.length - 1))) (sylL P Q) (by omega) (fun R _ j => bits_cf R j)
    rw [List.length_range] at hb
    have hs : ((sylL P Q).map bits).sum ≤ M := by
      refine Nat.le_trans ?_ hM
      unfold sylL
      rw [List.map_append, List.sum_append]
      have h1 := sum_le bits b (sylR (Q.length - 1) P) fun R hR => by
        unfold sylR at hR
        obtain ⟨k, _, rfl⟩ := List.mem_map.mp hR
        exact bits_le h.b0 (sylRow_sz h.sP)
      have h2 := sum_le bits c (sylR (P.length - 1) Q) fun R hR => by
        unfold sylR at hR
        obtain ⟨k, _, rfl⟩ := List.mem_map.mp hR
        exact bits_le h.c0 (sylRow_sz h.sQ)
      rw [sylR_len] at h1 h2
      omega
    refine Nat.lt_of_le_of_lt (Nat.le_trans hb (bound_le h.n9 hs)) (Nat.pow_lt_pow_right (by decide) (by omega))
end DT

set_option linter.all false
set_option maxRecDepth 100000
set_option maxHeartbeats 1000000
/-! list(reversed(x)), x a list. -/
namespace RT
open PySem PySem.Spec PyProof.Rows L2
open PyProof
section
variable {prog : Program} {w : World} {A : Around} {E : Value → Shared → Prop} {s : Shared}
theorem list_init_rev {it l S : Addr} {items : Array Value} {R : Result → Shared → Prop} (hh : A.in1.handled = none) (hit : s.heap.IsRevIter it l ((items.size : Int) - 1)) (hl : s.heap.IsList l items) (hne : l ≠ it) (hn : items.size ≤ sizeLine) (hSi : S ≠ it) (hSl : S ≠ l)
    (hS : s.heap.get? S = some { cls := .type "list", data := .seq #[] })
    (hR : ∀ (s' : Shared) (acc' : Array Value) (c' : Nat), (∀ b o, b ≠ S → b ≠ it → s.heap.get? b = some o → s'.heap.get? b = some o) → s' = { s with heap := s'.heap, toks := s'.toks } → s'.heap.get? S = some { cls := .type "list", dict := none, data := .seq acc' c', slots := #[] } → ItemsOf (fun i v => items[items.size - 1 - i]? = some v) acc' items.size → R (.ok (.ret .none)) s') :
    wpAny (model prog w) A.in1 (Builtin.«list.__init__» ⟨[.ref S, .ref it], []⟩)
      (fun fin s' => match fin with | .done f => R (.ok f) s' | .again c' => c'.quiet = true ∧ codeAny (model prog w) A c' R s') (fun e s' => R (.error e) s') s := by
  have W := (Walks.listRev (prog := prog) (w := w) (A := A.in1) hh it l hne items).toS
  have hSf : S ∉ [it, l] := by simp only [List.mem_cons, List.not_mem_nil, or_false, not_or]; exact ⟨hSi, hSl⟩
  show wpAny _ A.in1 (do let old ← Builtin.List.listItems (.ref S); Builtin.List.listUpdate (.ref S) (fun _ => #[]); letGo old.toList.reverse; Builtin.List.listExtendWith (.ref S) (.ref it) .none) _ _ s
  refine wpAny_bind ?_
  unfold Builtin.List.listItems
  refine wpAny_bind (wpAny_seqItems hS rfl (wpAny_pure ?_))
  show wpAny _ A.in1 (updateSeq S (fun _ => #[]) >>= fun _ => letGo (#[] : Array Value).toList.reverse >>= fun _ => Builtin.List.listExtendWith (.ref S) (.ref it) .none) _ _ s
  refine wpAny_bind (wpAny_updateSeq hS rfl ?_)
  have hS₁ := Heap.get?_update_self (Obj.mapSeq (fun _ => (#[] : Array Value))) hS rfl
  have oth : ∀ b o, b ≠ S → s.heap.get? b = some o → (s.heap.update S (Obj.mapSeq (fun _ => (#[] : Array Value)))).get? b = some o :=
    fun b o hb e => (Heap.get?_update_other _ _ (Ne.symm hb)).trans e
  refine wpAny_bind (wpAny_letGo ?_)
  have hit1 : (s.heap.update S (Obj.mapSeq (fun _ => (#[] : Array Value)))).IsRevIter it l ((items.size : Int) - 1) := hit.at fun o e => oth it o (Ne.symm hSi) e
  have hl1 : (s.heap.update S (Obj.mapSeq (fun _ => (#[] : Array Value)))).IsList l items := by
    obtain ⟨o, ho, hc⟩ := hl
    exact ⟨o, oth l o (Ne.symm hSl) ho, hc⟩
  generalize eh : s.heap.update S (Obj.mapSeq (fun _ => (#[] : Array Value))) = h0 at hS₁ oth hit1 hl1 ⊢
  have hT : ({ s with heap := h0 } : Shared).TypeIs (.ref it) "list_reverseiterator" := Heap.IsRevIter.typeIs (s := { s with heap := h0 }) hit1
  have h1 : Builtin.List.listSameRef (.ref S) (.ref it) = false := by simp [Builtin.List.listSameRef, hSi]
  unfold Builtin.List.listExtendWith
  refine wpAny_bind (wpAny_typeOf hT ?_)
  rw [if_neg (by rw [h1]; decide)]
  refine wpAny_bind (wpAny_pyIter_revIter (s := { s with heap := h0 }) hit1 ?_)
  refine wpAny_bind (wpAny_holding ?_)
  unfold Builtin.List.listLengthHint
  refine wpAny_bind (wpAny_specialOf hT nolen_lri ?_)
  show wpAny _ A.in1 (specialOf (Value.ref it) (Str.ofString "__length_hint__") >>= _) _ _ _
  refine wpAny_bind (wpAny_specialOf hT hint_lri ?_)
  generalize hid : ("list_reverseiterator.__length_hint__" : String) = id0
  wp_delta
  rw [show splitId id0 = some ("list_reverseiterator", "__length_hint__") from by subst hid; decide +kernel]
  subst hid
  refine wpAny_bind (wpAny_isInstance (b := true) hT (by rw [isSubtype_type]; kernel_rfl) ?_)
  refine wpAny_pure ?_
  rw [if_neg (by decide)]
  have e0 : ((items.size : Nat) : Int) - 1 - ((0 : Nat) : Int) = (items.size : Int) - 1 := by omega
  refine wpAny_pure ⟨plainId_quiet F.plain_extend_loop _, codeAny_extend_loopS W hn _ hSf _ items.size 0 _ _ _ rfl (Nat.zero_le _) ⟨Nat.zero_le _, by rw [e0]; exact hit1, hl1⟩ hS₁ (ItemsOf.nil _) fun s' acc' c' hm hS' hacc => ?_⟩
  refine hR s' acc' c' (fun b o hb hb2 e => hm.heap b o (fun hmem => ?_) (oth b o hb e)) (by have h9 := Moved.eq_with hm; exact h9) hS' hacc
  rcases List.mem_cons.mp hmem with e' | hmem
  · exact hb e'
  · exact hb2 (List.mem_singleton.mp hmem)
theorem call_list_rev {it l : Addr} {items : Array Value} {Q : Value → Shared → Prop} (hh : A.handled = none) (hit : s.heap.IsRevIter it l ((items.size : Int) - 1)) (hl : s.heap.IsList l items) (hne : l ≠ it) (hn : items.size ≤ sizeLine)
    (hQ : ∀ (h' : Heap) (tk : Nat) (acc : Array Value) (c' : Nat), (∀ b o, b ≠ it → s.heap.get? b = some o → h'.get? b = some o) → h'.get? s.heap.objs.size = some { cls := .type "list", dict := none, data := .seq acc c', slots := #[] } → ItemsOf (fun i v => items[items.size - 1 - i]? = some v) acc items.size →
      Q (.ref s.heap.objs.size) { s with heap := h', toks := tk }) :
    wpAny (model prog w) A (call (.type "list") [.ref it]) Q E s := by
  obtain ⟨oi, hoi, _⟩ := id hit
  obtain ⟨ol, hol, _⟩ := id hl
  have hSi : s.heap.objs.size ≠ it := Nat.ne_of_gt (Heap.lt_size hoi)
  have hSl : s.heap.objs.size ≠ l := Nat.ne_of_gt (Heap.lt_size hol)
  refine callType_codes (Q₁ := fun obj s₁ => obj = .ref s.heap.objs.size ∧ s₁ = { s with heap := s.heap.push { cls := .type "list", data := .seq #[] } }) F.called_list (F.typeCall_list_1 _) F.entry_list_init
    (code_list_new _ ⟨rfl, rfl⟩) fun obj s₁ h₁ => ?_
  obtain ⟨rfl, rfl⟩ := h₁
  have hS : (s.heap.push { cls := .type "list", data := .seq #[] }).get? s.heap.objs.size = some { cls := .type "list", data := .seq #[] } := Heap.get?_push_size _ rfl
  refine ⟨⟨_, hS, rfl⟩, F.args_list_init_2 _ _, list_init_rev (A := A.in1) hh (hit.at fun o e => Heap.get?_push_of_some _ e) (hl.push _) hne hn hSi hSl hS fun s' acc' c' hk hw hS' hacc => ⟨rfl, ?_⟩⟩
  rw [hw]
  exact hQ s'.heap s'.toks acc' c' (fun b o hb e => hk b o (Nat.ne_of_lt (Heap.lt_size e)) hb (Heap.get?_push_of_some _ e)) hS' hacc
end
end RT
namespace RB
open PySem PySem.Spec PyProof.Rows L2 RT
open Evl (Ex)
/-- list(reversed(x)), x a list: a new list -/
def tListRev (K : PySem.W.Frag) (ta : TA) : TE := fun σ H Q => ta σ H fun vs H1 => ∃ (a : Addr) (xs : List V), vs = [.ref a] ∧ SqL K H1 a xs ∧ ∀ q, H1 q = none → Q (.ref q) (upd H1 q (.lst xs.reverse))
section
variable {X : Cx}
theorem pe_listrev {e : Expr} {ta : TA} {p p2 pos pos2 : Pos} (hc : X.calm = true) (hg : Gl X "list") (hm : X.mg "list" = none) (hg2 : Gl X "reversed") (hm2 : X.mg "reversed" = none) (ha : PA X [e] ta)
    (hs : starEach [e] X.env = [(false, eval e X.env)] := by rfl)
    (hs2 : starEach [.Call (.Name "reversed" p2) [e] [] pos2] X.env = (false, eval (.Call (.Name "reversed" p2) [e] [] pos2) X.env) :: starEach [] X.env := by rfl) :
    PE X (.Call (.Name "list" p) [.Call (.Name "reversed" p2) [e] [] pos2] [] pos) (tListRev X.K ta) := by
  refine ⟨fun pins s σ H Q I h => ?_⟩
  refine Call_ (ld_blt I hg hm boot_list (PyProof.Rows.callWith_type1 (args_cons (Call_ (ld_blt I hg2 hm2 PyProof.Rows.boot_reversed (PyProof.Rows.callWith_type1 (thn (ha.run pos2 pins s σ H _ I h) fun us s1 hh => ?_) hs rfl))) hs2) hs2 rfl))
  obtain ⟨vs, H1, I1, r1, q1⟩ := hh
  obtain ⟨a, xs, ev, hq, q⟩ := q1
  subst ev
  cases r1 with
  | cons r rr =>
    cases rr
    cases r
    obtain ⟨its, rv, p', hz⟩ := I1.list hq
    refine call_reversed_list p'.isList (args_nil ?_)
    have k0 : ∀ b o, s1.heap.get? b = some o → (s1.heap.push (revObj a ((its.toArray.size : Int) - 1))).get? b = some o := fun b o e => Heap.get?_push_of_some _ e
    have I2 : Inv X pins σ H1 { s1 with heap := s1.heap.push (revObj a ((its.toArray.size : Int) - 1)) } := I1.kept (t' := s1.toks) k0
    have hf := I1.fpOk (H' := H1) (b := s1.heap.objs.size) (Nat.le_refl _) (I1.hok.fresh (Nat.le_refl _))
    have hl := p'.isList
    obtain ⟨ol, hol, _⟩ := id hl
    have hne : a ≠ s1.heap.objs.size := Nat.ne_of_lt (Heap.lt_size hol)
    have hn : its.toArray.size ≤ sizeLine := by rw [List.size_toArray, ← rv.length]; exact hz
    refine call_list_rev (s := { s1 with heap := s1.heap.push (revObj a ((its.toArray.size : Int) - 1)) }) (I1.ok.hd hc) ⟨_, Heap.get?_push_size _ rfl, rfl, rfl⟩ (hl.push _) hne hn fun h' tk acc c' hk hL hi => ?_
    exact ⟨.ref (s1.heap.push (revObj a ((its.toArray.size : Int) - 1))).objs.size, upd H1 (s1.heap.push (revObj a ((its.toArray.size : Int) - 1))).objs.size (.lst xs.reverse), I2.turnedNew (t' := tk) (ch := [s1.heap.objs.size]) (fun b o hb e => hk b o (fun z => hb (by rw [z]; exact List.mem_singleton_self _)) e) (fun b hb => by rw [List.mem_singleton.mp hb]; exact hf) (Nat.le_refl _) (show ObjOk X.prog X.w _ _ _ (.lst xs.reverse) from ⟨by rw [List.length_reverse]; exact hz, acc.toList, c', vals_rev rv hi, by rw [Array.toArray_toList]; exact hL⟩), rfl, q _ (I2.hok.fresh (Nat.le_refl _))⟩
end
section
variable {K : PySem.W.Frag} {σ : L2.St} {H : Hp} {Q : VK}
def LRK (K : PySem.W.Frag) (Q : VK) : List V → Hp → Prop := fun vs H1 => ∃ (a : Addr) (xs : List V), vs = [.ref a] ∧ SqL K H1 a xs ∧ ∀ q, H1 q = none → Q (.ref q) (upd H1 q (.lst xs.reverse))
theorem r_listRev {ta : TA} (h : ta σ H (LRK K Q)) : tListRev K ta σ H Q := h
theorem r_listRevA {a : Addr} {ns : List Int} (h : SqL K H a (ns.map V.int)) (q : ∀ p H', H p = none → Ex H H' → H' p = some (.lst (ns.reverse.map V.int)) → Q (.ref p) H') : LRK K Q [.ref a] H := ⟨a, _, rfl, h, newL fun p H' hp e hh => q p H' hp e (by rw [List.map_reverse]; exact hh)⟩
end
end RB

set_option linter.all false
set_option maxRecDepth 100000
/-! a, b, .. = a list. -/
namespace RB
open PySem PySem.Spec PyProof.Rows L2
open PyProof
section
variable {prog : Program} {w : World} {A : Around} {E : Value → Shared → Prop}
theorem drawn {it l : Addr} {xs : Array Value} (apart : l ≠ it) : ∀ (n i : Nat) (s : Shared) (Q : List Value → Shared → Prop), s.heap.IsListIter it l i → s.heap.IsList l xs → i + n ≤ xs.size →
    (∀ g, g.IsListIter it l (i + n) → Heap.SameBut it s.heap g → Q ((xs.toList.drop i).take n) { s with heap := g }) → wpAny (model prog w) A (draw (.ref it) n) Q E s
  | 0, i, s, Q, h1, _, _, k => by
    show wpAny _ _ (pure []) Q E s
    apply wpAny_pure
    have := k s.heap h1 (Heap.SameBut.refl ..)
    rwa [List.take_zero] at this
  | n + 1, i, s, Q, h1, h2, hle, k => by
    have lt : i < xs.size := by omega
    show wpAny _ _ (pyNext (.ref it) >>= _) Q E s
    apply wpAny_bind
    refine wpAny_pyNext_list_item h1 h2 (x := xs[i]) (by simp [lt]) fun g g1 gs => ?_
    apply wpAny_bind
    apply wpAny_holding
    refine drawn apart n (i + 1) _ _ g1 (h2.extBut gs.extBut apart) (by omega) fun g' g1' gs' => wpAny_pure ?_
    have e : xs.toList.drop i = xs[i] :: xs.toList.drop (i + 1) := by simp [List.drop_eq_getElem_cons, lt]
    have r := k g' (by rw [show i + (n + 1) = i + 1 + n by omega]; exact g1') (gs.trans gs')
    rw [e, List.take_succ_cons] at r
    exact r
theorem unpacked {s : Shared} {l : Addr} {xs : Array Value} {ts : List (Bool × (Value → Sem Unit))} {Q : Unit → Shared → Prop} (calm : A.handled = none) (hl : s.heap.IsList l xs) (hn : ts.length = xs.size) (hst : ts.findIdx? (·.1) = none)
    (k : ∀ g, Heap.ExtBut s.heap.objs.size s.heap g → wpAny (model prog w) A (assignInOrder (ts.map (·.2)) xs.toList) Q E { s with heap := g }) : wpAny (model prog w) A (unpack (.ref l) ts) Q E s := by
  have apart : l ≠ s.heap.objs.size := by
    obtain ⟨o, ho, _⟩ := hl
    exact Nat.ne_of_lt (Heap.lt_size ho)
  unfold unpack
  rw [hn, hst]
  apply wpAny_bind
  apply wpAny_holding
  unfold unpackItems
  apply wpAny_bind
  unfold notIterableAtAll
  apply wpAny_bind
  refine wpAny_specialOf hl.typeIs slot_list_iter.lookup ?_
  apply wpAny_pure
  simp only [Bool.false_eq_true, if_false]
  apply wpAny_bind
  apply wpAny_holding
  apply wpAny_pyIter_list hl
  apply wpAny_bind
  apply wpAny_holding
  refine drawn apart xs.size 0 _ _ ⟨_, Heap.get?_push_size _ rfl, rfl, rfl⟩ (hl.push _) (by omega) fun g g1 gs => ?_
  have all_ : List.take xs.size (List.drop 0 xs.toList) = xs.toList := by
    rw [List.drop_zero]
    exact List.take_of_length_le (by simp)
  rw [all_, if_neg (by simp)]
  apply wpAny_bind
  apply wpAny_holding
  refine wpAny_pyNext_list_end calm g1 ((hl.push _).extBut gs.extBut apart) (by simp) fun g' ge => ?_
  simp only [Option.isSome_none, Bool.false_eq_true, if_false]
  exact wpAny_pure (k g' fun b o hb e => ge b o hb (gs.extBut b o hb (Heap.get?_push_of_some _ e)))
end
/-- (a, b, ..) = a list of that length -/
def gTupL (K : PySem.W.Frag) (n : Nat) (t : TGs) : TG := fun v σ H Q => ∃ a xs, v = .ref a ∧ SqL K H a xs ∧ xs.length = n ∧ t xs σ H Q
theorem pg_tupL {X : Cx} {es : List Expr} {k : Nat} {t : TGs} {n : Nat} {pos : Pos} (hc : X.calm = true) (h : PGs X es t)
    (hn : (assignEach es X.env).length = n := by rfl) (hst : (assignEach es X.env).findIdx? (·.1) = none := by rfl) : PG X (.Tuple es k pos) (gTupL X.K n t) := by
  constructor
  intro pins s σ H v u Q I r hw
  obtain ⟨a, xs, rfl, hq, hl, hw⟩ := hw
  cases r
  obtain ⟨its, rv, pl, hz⟩ := I.list hq
  rw [assign_Tuple]
  apply wpAny_bind
  apply wpAny_standAt
  refine unpacked (I.ok.hd hc) pl.isList (by simp [hn, ← hl, rv.length]) hst fun g hx => ?_
  have J : Inv X pins σ H { s with heap := g } := I.kept (t' := s.toks) fun b o e => hx b o (Nat.ne_of_lt (Heap.lt_size e)) e
  exact h.run pins _ σ H xs _ Q J (by simpa using rv) hw
end RB
namespace RB
open PySem PySem.Spec PyProof.Rows L2
open Evl (Ex)
section
variable {K : PySem.W.Frag} {σ : L2.St} {H : Hp} {te : TE} {Q : VK} {g : TG}
theorem r_cTupA {a : Addr} {xs : List V} {tt : TT} {vs : List Nat} (h : SqT K H a xs) (q : Lc (Itt K a) g tt te vs σ H Q) : ∃ a', V.ref a = .ref a' ∧ (∃ xs, SqT K H a' xs) ∧ Lc (Itt K a') g tt te vs σ H Q := ⟨a, rfl, ⟨xs, h⟩, q⟩
/-- over a tuple of ints, each giving an int -/
theorem lc_intsT {a : Addr} {ns : List Int} {j : Nat} (f : Int → Int) (hx : H a = some (.tup (ns.map V.int))) (hz : ns.length < 1000000)
    (he : ∀ x, x ∈ ns → ∀ H1, Ex H H1 → ∀ Q' : VK, (∀ H2, Ex H1 H2 → Q' (.int (f x)) H2) → te (σ.set j (some (.int x))) H1 Q')
    (q : ∀ p H', H p = none → Ex H H' → H' p = some (.lst ((ns.map f).map V.int)) → Q (.ref p) H') : Lc (Itt K a) (gName j) tYes te [j] σ H Q := fun D hD =>
  lc_tup (xs := ns.map V.int) (fun i H' => Ex H H' ∧ H' D = some (.lst (((ns.take i).map f).map V.int))) ⟨Evl.Ex.new hD, upd_same⟩ (fun i H' _ p => .inl (.inl (p.1 _ _ hx)))
    (fun i x H' hi p => ⟨by show ((σ.set j none).set j (some x)).set j none = σ.set j none; rw [set_set, set_set], by
      show te ((σ.set j none).set j (some x)) H' _
      rw [set_set]
      rw [List.getElem?_map] at hi
      obtain ⟨n, hn, rfl⟩ := Option.map_eq_some_iff.mp hi
      refine he n (List.mem_of_getElem? hn) H' p.1 _ fun H2 e2 => ⟨_, e2 D _ p.2, ?_, (Evl.Ex.mut (p.1.trans e2) hD), ?_⟩
      · rw [List.length_map, List.length_map, List.length_take]; exact small_lt (by omega)
      · rw [upd_same, List.take_add_one, hn, List.map_append, List.map_append]; rfl⟩)
    (fun H' p => q D H' hD p.1 (by
      rw [List.length_map, List.take_length] at p
      exact p.2))
end
theorem r_gtupL {K : PySem.W.Frag} {n : Nat} {t : TGs} {a : Addr} {xs : List V} {σ : L2.St} {H : Hp} {Q : L2.St → Hp → Prop} (h : SqL K H a xs) (hn : xs.length = n) (q : t xs σ H Q) : gTupL K n t (.ref a) σ H Q := ⟨a, xs, rfl, h, hn, q⟩
theorem r_gcons {t : TG} {u : TGs} {v : V} {r : List V} {σ : L2.St} {H : Hp} {Q : L2.St → Hp → Prop} (h : t v σ H fun σ' H' => u r σ' H' Q) : gCons t u (v :: r) σ H Q := ⟨v, r, rfl, h⟩
theorem r_gnil {σ : L2.St} {H : Hp} {Q : L2.St → Hp → Prop} (h : Q σ H) : gNil [] σ H Q := ⟨rfl, h⟩
end RB

set_option linter.all false
/-! Shared divisors. -/
namespace MG
def gcdN (ns : List Int) : Nat := ns.foldl (fun (g : Nat) x => Nat.gcd g x.natAbs) 0
def gcdL (ns : List Int) : Int := (gcdN ns : Int)
theorem fmod_lt {a b : Int} (h : b ≠ 0) : (a.fmod b).natAbs < b.natAbs := by
  by_cases hb : 0 < b
  · have h1 := Int.fmod_nonneg_of_pos a hb
    have h2 := Int.fmod_lt_of_pos a hb
    omega
  · have hb' : 0 < -b := by omega
    have e : a.fmod b = -((-a).fmod (-b)) := by rw [Int.neg_fmod_neg]; omega
    have h1 := Int.fmod_nonneg_of_pos (-a) hb'
    have h2 := Int.fmod_lt_of_pos (-a) hb'
    rw [e]
    omega
theorem gcd_fmod (a b : Int) : Int.gcd b (a.fmod b) = Int.gcd a b := by
  rw [Int.fmod_def, Int.gcd_sub_mul_left_right, Int.gcd_comm]
theorem foldl_gcd (ns : List Int) : ∀ g : Nat, ns.foldl (fun (g : Nat) x => Nat.gcd g x.natAbs) g = Nat.gcd g (gcdN ns) := by
  induction ns with
  | nil => intro g; simp [gcdN]
  | cons x r ih =>
    intro g
    show List.foldl _ (Nat.gcd g x.natAbs) r = _
    rw [ih]
    have e : gcdN (x :: r) = Nat.gcd (x.natAbs) (gcdN r) := by
      show List.foldl _ (Nat.gcd 0 x.natAbs) r = _
      rw [ih, Nat.gcd_zero_left]
    rw [e, Nat.gcd_assoc]
theorem gcdN_cons (x : Int) (r : List Int) : gcdN (x :: r) = Nat.gcd x.natAbs (gcdN r) := by
  show List.foldl _ (Nat.gcd 0 x.natAbs) r = _
  rw [foldl_gcd, Nat.gcd_zero_left]
theorem gcdN_nil : gcdN [] = 0 := rfl
theorem gcdN_append (xs ys : List Int) : gcdN (xs ++ ys) = Nat.gcd (gcdN xs) (gcdN ys) := by
  show List.foldl _ 0 (xs ++ ys) = _
  rw [List.foldl_append, foldl_gcd]; rfl
theorem gcdN_take {ns : List Int} {i : Nat} {x : Int} (h : ns[i]? = some x) : gcdN (ns.take (i + 1)) = Nat.gcd (gcdN (ns.take i)) x.natAbs := by
  rw [List.take_add_one, h, gcdN_append]
  congr 1
  show gcdN [x] = _
  rw [gcdN_cons, gcdN_nil, Nat.gcd_zero_right]
theorem gcdN_dvd {ns : List Int} : ∀ {x : Int}, x ∈ ns → (gcdN ns : Int) ∣ x := by
  induction ns with
  | nil => intro x h; cases h
  | cons y r ih =>
    intro x h
    rw [gcdN_cons]
    rcases List.mem_cons.mp h with rfl | h
    · exact Int.ofNat_dvd_left.mpr (Nat.gcd_dvd_left _ _)
    · exact Int.dvd_trans (Int.ofNat_dvd.mpr (Nat.gcd_dvd_right _ _)) (ih h)
theorem dvd_gcdN {ns : List Int} {d : Nat} (h : ∀ x ∈ ns, (d : Int) ∣ x) : d ∣ gcdN ns := by
  induction ns with
  | nil => exact Nat.dvd_zero _
  | cons y r ih =>
    rw [gcdN_cons]
    exact Nat.dvd_gcd (Int.ofNat_dvd_left.mp (h y (List.mem_cons_self))) (ih fun x hx => h x (List.mem_cons_of_mem _ hx))
theorem gcdN_eq {ns : List Int} {g : Nat} (h1 : ∀ x ∈ ns, (g : Int) ∣ x) (h2 : ∀ d : Nat, (∀ x ∈ ns, (d : Int) ∣ x) → d ∣ g) : gcdN ns = g :=
  Nat.dvd_antisymm (h2 _ fun _ hx => gcdN_dvd hx) (dvd_gcdN h1)
end MG

set_option linter.all false
set_option maxRecDepth 100000
/-! Instances: made, their fields, their methods; the fraction. -/
namespace RB
open PySem PySem.Spec PyProof.Rows L2
open Evl (Ex rLenS rListS rMax2 tCut pss_cut)
theorem okN {P : Program} {w : World} {K : PySem.W.Frag} {mg : Str → Option Value} {base : Heap} {x qual : Str} {params : Arguments} {body : List Stmt} {scope : Scope} {dvs : List V} {kws : List (Str × V)} {f : Addr} {fd : FuncData} {N ps : List Str} {k : Nat} {sp : Sp} (F : FunD K x qual params body scope dvs kws f fd) (S : FnScope N ps scope) (len : ∀ vs H Q E, sp vs H Q E → vs.length = ps.length)
    (hb : ∀ (cdv : Value) (A : Around) (outer : List Env) (s : Shared) (H : Hp) (vs : List V) (Q : VK) (E : XK), Room k (A.deeper (envOfC qual scope s.heap.objs.size f cdv)) → sp vs H Q E →
      ∃ t, PSs (cxOf CX0 P w K mg base N qual scope f cdv A outer s H E).nox body t ∧ t { nx := fun _ H' => Q .non H', rt := Q } (start N vs) H) : FnOk P w K mg base CX0 (k + 1) f fd ps sp :=
  F.ok S len fun cdv A outer s H vs Q E hr h => by
    obtain ⟨t, h1, h2⟩ := hb cdv A outer s H vs Q E hr h
    exact ⟨t, h1.nox, h2⟩
theorem funD_mk {K : PySem.W.Frag} {x qual : Str} {params : Arguments} {body : List Stmt} {scope : Scope} {i : Int} {f T : Addr} {oc : Value} {od an : Option Addr} {osl : Array (Option Value)} {kV doc pm cdv ct oc2 : Value} {od2 : Option Addr} {tk : Tok} {n2 : Nat} {sl2 : Array (Option Value)}
    (l : K.lookup f = some ⟨oc, od, .func (PySem.W.fnOf x qual params body scope (.ref T) kV doc pm an cdv ct), osl⟩) (d : K.lookup T = some ⟨oc2, od2, .seq #[.int i tk] n2, sl2⟩) (c : PySem.W.codeIn K cdv qual = true) (k : PySem.W.keepIn K (.ref f) = true) :
    FunD K x qual params body scope [.int i] [] f (PySem.W.fnOf x qual params body scope (.ref T) kV doc pm an cdv ct) :=
  ⟨⟨oc, od, .ref T, kV, doc, pm, an, cdv, ct, osl, rfl, l, c, .inr ⟨by simp, T, _, [.int i tk], n2, rfl, d, rfl, .cons ⟨tk, rfl⟩ .nil⟩, .inl rfl⟩, k⟩
theorem binds_full {K : PySem.W.Frag} {fd : FuncData} {ps : List Str} (h : ∃ ds, Vals ([] : List V) ds ∧ Binds K fd ps ds) : Binds K fd ps [] := by
  obtain ⟨ds, h1, h2⟩ := h
  cases h1
  exact h2
/-! ### making -/
def MakeK (C : Addr) (sp : Sp) (dvs : List V) (E : XK) (Q : VK) : List V → Hp → Prop := fun vs H1 => ∀ x dx, H1 x = none → H1 dx = none → dx ≠ x →
  sp (.ref x :: (vs ++ dvs)) (upd (upd H1 dx (.own x)) x (.ins C dx [])) (fun v H2 => v = .non ∧ Q (.ref x) H2) E
theorem r_make {C : Addr} {sp : Sp} {dvs : List V} {E : XK} {ta : TA} {σ : L2.St} {H : Hp} {Q : VK} (h : ta σ H (MakeK C sp dvs E Q)) : tMake C sp dvs E ta σ H Q := h
def FldK (K : PySem.W.Frag) (f : Str) (Q : VK) : V → Hp → Prop := fun x H1 => ∃ a C dx fs v, x = .ref a ∧ H1 a = some (.ins C dx fs) ∧ Cls K C ∧ NoAttr K C f ∧ fs.lookup f = some v ∧ Q v H1
theorem r_fld {K : PySem.W.Frag} {te : TE} {f : Str} {σ : L2.St} {H : Hp} {Q : VK} (h : te σ H (FldK K f Q)) : tFld K te f σ H Q := h
def SFldK (K : PySem.W.Frag) (f : Str) (y : V) (G : Hp → Prop) : V → Hp → Prop := fun x H2 => ∃ a C dx fs, x = .ref a ∧ H2 a = some (.ins C dx fs) ∧ Cls K C ∧ NoAttr K C f ∧ fs.length < 1000 ∧ G (upd H2 a (.ins C dx (putF f y fs)))
theorem r_sfld {K : PySem.W.Frag} {ta tv : TE} {f : Str} {D : Ends} {σ : L2.St} {H : Hp} (h : tv σ H fun y H1 => ta σ H1 (SFldK K f y (D.nx σ))) : sFld K ta tv f D σ H := h
def MethK (C : Addr) (m : Str) (sp : Sp) (dvs : List V) (E : XK) (t : TA) (σ : L2.St) (Q : VK) : V → Hp → Prop := fun x H1 => ∃ a dx fs, x = .ref a ∧ H1 a = some (.ins C dx fs) ∧ fs.lookup m = none ∧ t σ H1 fun vs H2 => sp (x :: (vs ++ dvs)) H2 Q E
theorem r_meth {C : Addr} {m : Str} {sp : Sp} {dvs : List V} {E : XK} {ta : TE} {t : TA} {σ : L2.St} {H : Hp} {Q : VK} (h : ta σ H (MethK C m sp dvs E t σ Q)) : tMeth C m sp dvs E ta t σ H Q := h
/-! ### the fraction -/
def rF (t b : Int) : List (Str × V) := [("top", .int t), ("bottom", .int b)]
def IsR (C : Addr) (H : Hp) (a : Addr) (t b : Int) : Prop := ∃ dx, H a = some (.ins C dx (rF t b))
theorem IsR.ex {C : Addr} {H H' : Hp} {a : Addr} {t b : Int} (e : Ex H H') (h : IsR C H a t b) : IsR C H' a t b := h.elim fun dx h => ⟨dx, e _ _ h⟩
theorem IsR.exb {C : Addr} {H H' : Hp} {a l : Addr} {t b : Int} (e : Exb l H H') (n : a ≠ l) (h : IsR C H a t b) : IsR C H' a t b := h.elim fun dx h => ⟨dx, e _ n _ h⟩
theorem rF_top (t b : Int) : (rF t b).lookup ("top" : Str) = some (.int t) := by
  unfold rF
  simp [List.lookup]
theorem rF_bottom (t b : Int) : (rF t b).lookup ("bottom" : Str) = some (.int b) := by
  unfold rF
  have e : (("bottom" : Str) == ("top" : Str)) = false := by decide +kernel
  simp [List.lookup, e]
theorem rF_none (t b : Int) {m : Str} (h1 : (m == ("top" : Str)) = false) (h2 : (m == ("bottom" : Str)) = false) : (rF t b).lookup m = none := by
  unfold rF
  simp [List.lookup, h1, h2]
theorem r_top {K : PySem.W.Frag} {C : Addr} {H : Hp} {Q : VK} {a : Addr} {t b : Int} (c : Cls K C) (n : NoAttr K C "top") (h : IsR C H a t b) (q : Q (.int t) H) : FldK K "top" Q (.ref a) H := by
  obtain ⟨dx, h⟩ := h
  exact ⟨a, C, dx, _, _, rfl, h, c, n, rF_top t b, q⟩
theorem r_bottom {K : PySem.W.Frag} {C : Addr} {H : Hp} {Q : VK} {a : Addr} {t b : Int} (c : Cls K C) (n : NoAttr K C "bottom") (h : IsR C H a t b) (q : Q (.int b) H) : FldK K "bottom" Q (.ref a) H := by
  obtain ⟨dx, h⟩ := h
  exact ⟨a, C, dx, _, _, rfl, h, c, n, rF_bottom t b, q⟩
theorem r_methR {C : Addr} {m : Str} {sp : Sp} {dvs : List V} {E : XK} {ta : TA} {σ : L2.St} {Q : VK} {H : Hp} {a : Addr} {t b : Int} (h : IsR C H a t b) (h1 : (m == ("top" : Str)) = false) (h2 : (m == ("bottom" : Str)) = false) (q : ta σ H fun vs H2 => sp (.ref a :: (vs ++ dvs)) H2 Q E) : MethK C m sp dvs E ta σ Q (.ref a) H := by
  obtain ⟨dx, h⟩ := h
  exact ⟨a, dx, _, rfl, h, rF_none t b h1 h2, q⟩
def RetR (C : Addr) (t b : Int) (H : Hp) (Q : VK) : Prop := ∀ p H', H p = none → Ex H H' → IsR C H' p t b → Q (.ref p) H'
theorem RetR.go {C : Addr} {t b : Int} {H H1 : Hp} {Q : VK} (k : RetR C t b H Q) (e : Ex H H1) : RetR C t b H1 Q := fun p H' hp e2 h => k p H' (Evl.fresh_back e hp) (e.trans e2) h
/-- the shared divisor with the bottom's sign -/
def rG (t b : Int) : Int := if b < 0 then -MG.gcdL [t, b] else MG.gcdL [t, b]
def rT (t b : Int) : Int := t.fdiv (rG t b)
def rB (t b : Int) : Int := b.fdiv (rG t b)
theorem gcdL_pair (t b : Int) : MG.gcdL [t, b] = (Int.gcd t b : Int) := by
  unfold MG.gcdL MG.gcdN Int.gcd
  simp
theorem rG_pos {t b : Int} (hb : b ≠ 0) : 0 < Int.gcd t b := Int.gcd_pos_of_ne_zero_right t hb
theorem rG_ne {t b : Int} (hb : b ≠ 0) : rG t b ≠ 0 := by
  have := rG_pos (t := t) hb
  unfold rG
  rw [gcdL_pair]
  split <;> omega
theorem rG_abs (t b : Int) : (rG t b).natAbs = Int.gcd t b := by
  unfold rG
  rw [gcdL_pair]
  split <;> omega
theorem rG_log {t b : Int} {n : Nat} (hb : b ≠ 0) (h0 : 0 < n) (h : b.natAbs < 2 ^ n) : (rG t b).natAbs.log2 < n := by
  rw [rG_abs]
  exact PySem.Flt.log2_lt_of h0 (Nat.lt_of_le_of_lt (Nat.gcd_le_right _ (by omega)) h)
theorem rG_dvd_t (t b : Int) : rG t b ∣ t := by
  rw [← Int.natAbs_dvd, rG_abs]; exact Int.gcd_dvd_left ..
theorem rG_dvd_b (t b : Int) : rG t b ∣ b := by
  rw [← Int.natAbs_dvd, rG_abs]; exact Int.gcd_dvd_right ..
theorem rT_mul {t b : Int} (hb : b ≠ 0) : rT t b * rG t b = t := by
  obtain ⟨k, hk⟩ := rG_dvd_t t b
  unfold rT
  conv => lhs; arg 1; arg 1; rw [hk]
  rw [Int.mul_fdiv_cancel_left _ (rG_ne hb), Int.mul_comm, ← hk]
theorem rB_mul {t b : Int} (hb : b ≠ 0) : rB t b * rG t b = b := by
  obtain ⟨k, hk⟩ := rG_dvd_b t b
  unfold rB
  conv => lhs; arg 1; arg 1; rw [hk]
  rw [Int.mul_fdiv_cancel_left _ (rG_ne hb), Int.mul_comm, ← hk]
theorem rB_pos {t b : Int} (hb : b ≠ 0) : 0 < rB t b := by
  have h1 := rB_mul (t := t) hb
  have h2 := rG_pos (t := t) hb
  have hs : (b < 0 → rG t b < 0) ∧ (¬ b < 0 → 0 < rG t b) := by
    unfold rG
    rw [gcdL_pair]
    constructor
    · intro h; rw [if_pos h]; omega
    · intro h; rw [if_neg h]; omega
  apply Classical.byContradiction
  intro h
  by_cases hn : b < 0
  · have := Int.mul_nonneg_of_nonpos_of_nonpos (show rB t b ≤ 0 by omega) (show rG t b ≤ 0 by have := hs.1 hn; omega)
    omega
  · have := Int.mul_nonneg (show 0 ≤ -rB t b by omega) (show 0 ≤ rG t b by have := hs.2 hn; omega)
    rw [Int.neg_mul] at this
    omega
theorem r_cross {t b : Int} (hb : b ≠ 0) : rT t b * b = t * rB t b := by
  have h1 := rT_mul (t := t) hb
  have h2 := rB_mul (t := t) hb
  generalize rT t b = p at *
  generalize rB t b = q at *
  generalize rG t b = g at *
  rw [← h1, ← h2, Int.mul_assoc, Int.mul_comm g q]
theorem r_low {t b : Int} (hb : b ≠ 0) : Int.gcd (rT t b) (rB t b) = 1 := by
  have h1 := rT_mul (t := t) hb
  have h2 := rB_mul (t := t) hb
  have h3 := rG_abs t b
  have h4 := rG_pos (t := t) hb
  have h5 := Int.gcd_mul_right (rT t b) (rG t b) (rB t b)
  rw [h1, h2, h3] at h5
  exact Nat.eq_of_mul_eq_mul_right h4 (by omega)
theorem rT_abs {t b : Int} (hb : b ≠ 0) : (rT t b).natAbs ≤ t.natAbs := by
  have h1 := rT_mul (t := t) hb
  have h4 := rG_pos (t := t) hb
  have h3 := rG_abs t b
  have h5 : (rT t b).natAbs * (rG t b).natAbs = t.natAbs := by rw [← Int.natAbs_mul, h1]
  rw [h3] at h5
  rw [← h5]
  exact Nat.le_mul_of_pos_right _ h4
theorem rB_abs {t b : Int} (hb : b ≠ 0) : (rB t b).natAbs ≤ b.natAbs := by
  have h1 := rB_mul (t := t) hb
  have h4 := rG_pos (t := t) hb
  have h3 := rG_abs t b
  have h5 : (rB t b).natAbs * (rG t b).natAbs = b.natAbs := by rw [← Int.natAbs_mul, h1]
  rw [h3] at h5
  rw [← h5]
  exact Nat.le_mul_of_pos_right _ h4
end RB
namespace RB
open PySem PySem.Spec PyProof.Rows L2
/-- what isinstance asks of a class of instances -/
structure InsC (K : PySem.W.Frag) (C : Addr) : Prop where
  ha : PySem.W.findIn K (.ref C) "__class__" = some (some (.builtin "object.__class__"))
  hn : PySem.W.specialIn K (.builtin "object.__class__") "__get__" = some (some (.builtin "getset_descriptor.__get__"))
  ht : PySem.W.takesIn K (.builtin "object.__class__") = some true
  hm : PySem.W.mroIn K C (.type "object") = some true
theorem kit_self (K : PySem.W.Frag) (t : Value) (h : (t == t) = true) : PySem.W.kitOne K t t = some true := by
  unfold PySem.W.kitOne
  rw [if_pos h]
theorem r_isR {K : PySem.W.Frag} {C : Addr} {H : Hp} {Q : VK} {a : Addr} {t b : Int} (c : Cls K C) (i : InsC K C) (h : IsR C H a t b) (q : Q (.bl true) H) : rIsi K [.ref a, .ref C] H Q := by
  obtain ⟨dx, h⟩ := h
  exact ⟨.ref a, .ref C, .ref C, .ref C, true, rfl, .own C, .base (.ins h c i.ha i.hn i.ht i.hm), kit_self K (.ref C) (beq_self_eq_true _), q⟩
end RB

set_option linter.all false
/-! Fractions: order, sign, floor. -/
namespace RB
/-- -1, 0 or 1 -/
def ordI (l r : Int) : Int := if l < r then -1 else if r < l then 1 else 0
theorem ordI_lt {l r : Int} (h : l < r) : ordI l r = -1 := if_pos h
theorem ordI_gt {l r : Int} (h : r < l) : ordI l r = 1 := by
  unfold ordI
  rw [if_neg (by omega), if_pos h]
theorem ordI_self (l : Int) : ordI l l = 0 := by
  unfold ordI
  rw [if_neg (by omega), if_neg (by omega)]
theorem ordI_swap (l r : Int) : ordI r l = - ordI l r := by
  rcases Int.lt_trichotomy l r with h | h | h
  · rw [ordI_lt h, ordI_gt h]; rfl
  · subst h; rw [ordI_self]; rfl
  · rw [ordI_gt h, ordI_lt h]
theorem ordI_scale {c : Int} (hc : 0 < c) (l r : Int) : ordI (l * c) (r * c) = ordI l r := by
  rcases Int.lt_trichotomy l r with h | h | h
  · rw [ordI_lt h, ordI_lt (Int.mul_lt_mul_of_pos_right h hc)]
  · subst h; rw [ordI_self, ordI_self]
  · rw [ordI_gt h, ordI_gt (Int.mul_lt_mul_of_pos_right h hc)]
theorem ordI_sub (l r : Int) : ordI (l - r) 0 = ordI l r := by
  rcases Int.lt_trichotomy l r with h | h | h
  · rw [ordI_lt h, ordI_lt (by omega)]
  · subst h; rw [ordI_self, Int.sub_self, ordI_self]
  · rw [ordI_gt h, ordI_gt (by omega)]
theorem rG_gt {t b : Int} (hb : 0 < b) : 0 < rG t b := by
  have := rG_pos (t := t) (b := b) (by omega)
  unfold rG
  rw [gcdL_pair, if_neg (by omega)]
  omega
/-- the order of two made fractions is that of what they are made of -/
theorem ord_made {t b u v : Int} (hb : 0 < b) (hv : 0 < v) : ordI (rT t b * rB u v) (rT u v * rB t b) = ordI (t * v) (u * b) := by
  have g1 := rG_gt (t := t) hb
  have g2 := rG_gt (t := u) hv
  have e1 := rT_mul (t := t) (b := b) (by omega)
  have e2 := rB_mul (t := t) (b := b) (by omega)
  have e3 := rT_mul (t := u) (b := v) (by omega)
  have e4 := rB_mul (t := u) (b := v) (by omega)
  generalize rT t b = p at *
  generalize rB t b = q at *
  generalize rT u v = p' at *
  generalize rB u v = q' at *
  generalize rG t b = g at *
  generalize rG u v = g' at *
  have hg : 0 < g * g' := Int.mul_pos g1 g2
  have a1 : t * v = (p * q') * (g * g') := by rw [← e1, ← e4]; simp only [Int.mul_assoc, Int.mul_left_comm, Int.mul_comm]
  have a2 : u * b = (p' * q) * (g * g') := by rw [← e3, ← e2]; simp only [Int.mul_assoc, Int.mul_left_comm, Int.mul_comm]
  rw [a1, a2, ordI_scale hg]
theorem sign_made {t b : Int} (hb : 0 < b) : ordI (rT t b) 0 = ordI t 0 := by
  have g1 := rG_gt (t := t) hb
  have e1 := rT_mul (t := t) (b := b) (by omega)
  have := ordI_scale g1 (rT t b) 0
  rw [e1, Int.zero_mul] at this
  exact this.symm
theorem rG_one (t : Int) : rG t 1 = 1 := by
  unfold rG
  rw [gcdL_pair, if_neg (by decide), Int.gcd_one_right]; rfl
theorem rT_one (t : Int) : rT t 1 = t := by
  unfold rT; rw [rG_one, Int.fdiv_one]
theorem rB_one (t : Int) : rB t 1 = 1 := by
  unfold rB; rw [rG_one]; rfl
theorem fdiv_two {p q : Int} (hq : 0 < q) : p.fdiv q * q ≤ p ∧ p < (p.fdiv q + 1) * q := by
  have h1 := Int.mul_fdiv_add_fmod p q
  have h2 := Int.fmod_nonneg_of_pos p hq
  have h3 := Int.fmod_lt_of_pos p hq
  rw [Int.add_mul, Int.one_mul, Int.mul_comm (p.fdiv q) q]
  omega
theorem fdiv_abs {p q : Int} (hq : 0 < q) : (p.fdiv q).natAbs ≤ p.natAbs := by
  obtain ⟨h1, h2⟩ := fdiv_two (p := p) hq
  generalize p.fdiv q = l at *
  by_cases hl : 0 ≤ l
  · have := Int.mul_le_mul_of_nonneg_left (show 1 ≤ q by omega) hl
    rw [Int.mul_one] at this
    omega
  · have := Int.mul_le_mul_of_nonneg_left (show 1 ≤ q by omega) (show 0 ≤ -(l + 1) by omega)
    rw [Int.mul_one, Int.neg_mul] at this
    omega
/-- the floor of a made fraction, told by what it is made of -/
theorem floor_made {t b : Int} (hb : 0 < b) : (rT t b).fdiv (rB t b) * b ≤ t ∧ t < ((rT t b).fdiv (rB t b) + 1) * b := by
  have g1 := rG_gt (t := t) hb
  have e1 := rT_mul (t := t) (b := b) (by omega)
  have e2 := rB_mul (t := t) (b := b) (by omega)
  obtain ⟨h1, h2⟩ := fdiv_two (p := rT t b) (rB_pos (t := t) (b := b) (by omega))
  generalize (rT t b).fdiv (rB t b) = l at *
  generalize rT t b = p at *
  generalize rB t b = q at *
  generalize rG t b = g at *
  have a1 := Int.mul_le_mul_of_nonneg_right h1 (show 0 ≤ g by omega)
  have a2 := Int.mul_lt_mul_of_pos_right h2 g1
  rw [Int.mul_assoc, e2, e1] at a1 a2
  exact ⟨a1, a2⟩
end RB
namespace RB
open PySem PySem.Spec PyProof.Rows L2
theorem r_strI {i : Int} {H : Hp} {Q : VK} (h : i.natAbs.log2 < 1920) (q : Q (.str (toString i)) H) : rStrInt [.int i] H Q := ⟨i, rfl, h, q⟩
theorem r_addS {i j : Str} {H : Hp} {Q : VK} (h : i.length + j.length ≤ sizeLine) (q : Q (.str (i ++ j)) H) : rAddS (.str i) (.str j) H Q := ⟨i, j, rfl, rfl, h, q⟩
theorem rG_low {t b : Int} (hb : 0 < b) (h : Int.gcd t b = 1) : rG t b = 1 := by
  unfold rG
  rw [gcdL_pair, if_neg (by omega), h]; rfl
theorem rT_low {t b : Int} (hb : 0 < b) (h : Int.gcd t b = 1) : rT t b = t := by
  unfold rT; rw [rG_low hb h, Int.fdiv_one]
theorem rB_low {t b : Int} (hb : 0 < b) (h : Int.gcd t b = 1) : rB t b = b := by
  unfold rB; rw [rG_low hb h, Int.fdiv_one]
/-- a fraction's text -/
def textR (t b : Int) : Str := if b = 1 then (toString t : String) else Str.ofString (toString t) ++ "/" ++ Str.ofString (toString b)
theorem text_len {i : Int} (h : i.natAbs.log2 < 1920) : (Str.ofString (toString i)).length ≤ 1921 := PyProof.Rows.int_text_len_1921 h
theorem cat_len (a b : Str) : (a ++ b).length = a.length + b.length := by
  show (a.cps ++ b.cps).size = _
  rw [Array.size_append]; rfl
theorem log_lt {i : Int} {n : Nat} (h0 : 0 < n) (h9 : n ≤ 1920) (h : i.natAbs < 2 ^ n) : i.natAbs.log2 < 1920 := Nat.lt_of_lt_of_le (PySem.Flt.log2_lt_of h0 h) h9
end RB
namespace RB
theorem cross_made {X Y T B : Int} (hY : Y ≠ 0) (h : X * B = T * Y) : rT X Y * B = T * rB X Y := by
  have h1 := rT_mul (t := X) hY
  have h2 := rB_mul (t := X) hY
  have hg := rG_ne (t := X) hY
  generalize rT X Y = p at *
  generalize rB X Y = q at *
  generalize rG X Y = g at *
  apply Int.eq_of_mul_eq_mul_right hg
  rw [Int.mul_assoc, Int.mul_comm B g, ← Int.mul_assoc, h1, h, Int.mul_assoc, h2]
theorem plus_cross {p q p' q' a b c d : Int} (h1 : p * b = a * q) (h2 : p' * d = c * q') : (p * q' + p' * q) * (b * d) = (a * d + c * b) * (q * q') := by grind
theorem minus_cross {p q p' q' a b c d : Int} (h1 : p * b = a * q) (h2 : p' * d = c * q') : (p * q' - p' * q) * (b * d) = (a * d - c * b) * (q * q') := by grind
theorem times_cross {p q p' q' a b c d : Int} (h1 : p * b = a * q) (h2 : p' * d = c * q') : (p * p') * (b * d) = (a * c) * (q * q') := by grind
theorem over_cross {p q p' q' a b c d : Int} (h1 : p * b = a * q) (h2 : p' * d = c * q') : (p * q') * (b * c) = (a * d) * (q * p') := by grind
theorem rT_zero (b : Int) : rT 0 b = 0 := by
  unfold rT; exact Int.zero_fdiv _
end RB

set_option linter.all false
/-! A polynomial at a fraction, by places from the top (top_at), and changes of sign. -/
namespace MH
open ML
/-- the total behind the coefficients (that of the highest power first), the scale -/
def hs (t b : Int) : List Int → Int × Int
  | [] => (0, 1)
  | x :: r => ((hs t b r).1 * t + x * (hs t b r).2, (hs t b r).2 * b)
/-- P at t / b, times b to the power of P's degree; the list's head is the constant, so hs is read from behind -/
def topL (P : List Int) (t b : Int) : Int := (hs t b P).1
theorem hs_cons (t b x : Int) (r : List Int) : hs t b (x :: r) = ((hs t b r).1 * t + x * (hs t b r).2, (hs t b r).2 * b) := rfl
theorem hs_drop {t b : Int} {P : List Int} {i : Nat} {x : Int} (h : P[i]? = some x) : hs t b (P.drop i) = ((hs t b (P.drop (i + 1))).1 * t + x * (hs t b (P.drop (i + 1))).2, (hs t b (P.drop (i + 1))).2 * b) := by
  obtain ⟨hl, e⟩ := List.getElem?_eq_some_iff.mp h
  rw [List.drop_eq_getElem_cons hl, e, hs_cons]
theorem hs_sz {t b : Int} {n m : Nat} (ht : t.natAbs < 2 ^ m) (hb : b.natAbs < 2 ^ m) : ∀ P : List Int, Sz n P → ((hs t b P).1).natAbs < 2 ^ (n + (m + 1) * P.length + 1) ∧ ((hs t b P).2).natAbs < 2 ^ (m * P.length + 1)
  | [], _ => ⟨Nat.two_pow_pos _, by show (1 : Int).natAbs < 2 ^ (m * 0 + 1); simp⟩
  | x :: r, h => by
    obtain ⟨h1, h2⟩ := hs_sz ht hb r (fun y hy => h y (List.mem_cons_of_mem _ hy))
    have hx := h x (List.mem_cons_self ..)
    have a1 : ((hs t b r).1 * t).natAbs < 2 ^ (n + (m + 1) * r.length + 1 + m) := L2.wide_lt h1 ht
    have a2 : (x * (hs t b r).2).natAbs < 2 ^ (n + (m * r.length + 1)) := L2.wide_lt hx h2
    have a3 : ((hs t b r).2 * b).natAbs < 2 ^ (m * r.length + 1 + m) := L2.wide_lt h2 hb
    have e1 : (m + 1) * (r.length + 1) = m * r.length + r.length + m + 1 := by
      rw [Nat.mul_add, Nat.add_mul]; omega
    have e1' : (m + 1) * r.length = m * r.length + r.length := by rw [Nat.add_mul, Nat.one_mul]
    have e2 : m * (r.length + 1) = m * r.length + m := by rw [Nat.mul_add]; omega
    rw [hs_cons, List.length_cons, e1, e2]
    refine ⟨?_, Nat.lt_of_lt_of_le a3 (Nat.pow_le_pow_right (by decide) (by omega))⟩
    have b1 : ((hs t b r).1 * t).natAbs < 2 ^ (n + (m * r.length + r.length + m + 1)) := Nat.lt_of_lt_of_le a1 (Nat.pow_le_pow_right (by decide) (by omega))
    have b2 : (x * (hs t b r).2).natAbs < 2 ^ (n + (m * r.length + r.length + m + 1)) := Nat.lt_of_lt_of_le a2 (Nat.pow_le_pow_right (by decide) (by omega))
    rw [Nat.pow_succ]
    show ((hs t b r).1 * t + x * (hs t b r).2).natAbs < _
    generalize 2 ^ (n + (m * r.length + r.length + m + 1)) = z at b1 b2 ⊢
    omega
theorem hs_scale (p q g : Int) : ∀ P : List Int, (hs (p * g) (q * g) P).1 * g = (hs p q P).1 * g ^ P.length ∧ (hs (p * g) (q * g) P).2 = (hs p q P).2 * g ^ P.length
  | [] => ⟨by show (0 : Int) * g = 0 * g ^ 0; rw [Int.zero_mul, Int.zero_mul], by show (1 : Int) = 1 * g ^ 0; rw [Int.pow_zero]; rfl⟩
  | x :: r => by
    obtain ⟨h1, h2⟩ := hs_scale p q g r
    rw [hs_cons, hs_cons, List.length_cons, Int.pow_succ, h2]
    constructor
    · show ((hs (p * g) (q * g) r).1 * (p * g) + x * ((hs p q r).2 * g ^ r.length)) * g = ((hs p q r).1 * p + x * (hs p q r).2) * (g ^ r.length * g)
      generalize (hs (p * g) (q * g) r).1 = A at *
      generalize (hs p q r).1 = B at *
      generalize g ^ r.length = G at *
      grind
    · show (hs p q r).2 * g ^ r.length * (q * g) = (hs p q r).2 * q * (g ^ r.length * g)
      generalize g ^ r.length = G
      grind
theorem pow_pos {g : Int} (h : 0 < g) : ∀ n : Nat, 0 < g ^ n
  | 0 => by rw [Int.pow_zero]; decide
  | n + 1 => by rw [Int.pow_succ]; exact Int.mul_pos (pow_pos h n) h
/-- the sign at a made fraction is that at what it is made of -/
theorem sign_made (P : List Int) {t b : Int} (hb : 0 < b) : RB.ordI (topL P (RB.rT t b) (RB.rB t b)) 0 = RB.ordI (topL P t b) 0 := by
  have hg := RB.rG_gt (t := t) hb
  have e1 := RB.rT_mul (t := t) (b := b) (by omega)
  have e2 := RB.rB_mul (t := t) (b := b) (by omega)
  have h := (hs_scale (RB.rT t b) (RB.rB t b) (RB.rG t b) P).1
  rw [e1, e2] at h
  have a1 := RB.ordI_scale hg (topL P t b) 0
  have a2 := RB.ordI_scale (pow_pos hg P.length) (topL P (RB.rT t b) (RB.rB t b)) 0
  rw [Int.zero_mul] at a1 a2
  rw [← a1, ← a2]
  unfold topL
  rw [h]
/-- one more sign: how many changes, the last sign -/
def stp (s : Int × Int) (x : Int) : Int × Int := if x ≠ 0 then (if s.2 = 0 - x then s.1 + 1 else s.1, x) else s
def chg (Ps : List (List Int)) (t b : Int) : Int × Int := Ps.foldl (fun s P => stp s (RB.ordI (topL P t b) 0)) (0, 0)
theorem chg_take {Ps : List (List Int)} {t b : Int} {i : Nat} {P : List Int} (h : Ps[i]? = some P) : chg (Ps.take (i + 1)) t b = stp (chg (Ps.take i) t b) (RB.ordI (topL P t b) 0) := by
  unfold chg
  rw [List.take_add_one, h]
  simp [List.foldl_append]
theorem chg_made (Ps : List (List Int)) {t b : Int} (hb : 0 < b) : chg Ps (RB.rT t b) (RB.rB t b) = chg Ps t b := by
  unfold chg
  congr 1
  funext s P
  rw [sign_made P hb]
end MH

namespace RB
structure HSz (n m : Nat) (P : List Int) (t b : Int) : Prop where
  sP : ML.Sz n P
  st : t.natAbs < 2 ^ m
  sb : b.natAbs < 2 ^ m
  n0 : 0 < n
  m0 : 0 < m
  le : n + (m + 1) * (P.length + 1) ≤ 900000
theorem HSz.steps {n m : Nat} {P : List Int} {t b : Int} (s : HSz n m P t b) (k : Nat) : (MH.hs t b (P.drop k)).1.natAbs < 2 ^ (n + (m + 1) * P.length + 1) ∧ (MH.hs t b (P.drop k)).2.natAbs < 2 ^ (m * P.length + 1) := by
  have h := MH.hs_sz s.st s.sb (P.drop k) (s.sP.drop k)
  have hl : (P.drop k).length ≤ P.length := by rw [List.length_drop]; omega
  have h1 := Nat.mul_le_mul_left (m + 1) hl
  have h2 := Nat.mul_le_mul_left m hl
  exact ⟨Nat.lt_of_lt_of_le h.1 (Nat.pow_le_pow_right (by decide) (by omega)), Nat.lt_of_lt_of_le h.2 (Nat.pow_le_pow_right (by decide) (by omega))⟩
end RB

set_option linter.all false
/-! Division with a factor. -/
namespace MD
open ML
/-- the last coefficient -/
def lc (Q : List Int) : Int := cf Q (Q.length - 1)
def subShift (rs Q : List Int) (k : Nat) (many : Int) : List Int := (List.range rs.length).map fun j => if k ≤ j ∧ j - k < Q.length then cf rs j - many * cf Q (j - k) else cf rs j
theorem subShift_len (rs Q : List Int) (k : Nat) (many : Int) : (subShift rs Q k many).length = rs.length := by unfold subShift; simp
theorem cf_subShift {rs Q : List Int} {k : Nat} {many : Int} (j : Nat) (h : k + Q.length ≤ rs.length) : cf (subShift rs Q k many) j = cf rs j - if k ≤ j then many * cf Q (j - k) else 0 := by
  unfold subShift
  by_cases hj : j < rs.length
  · rw [cf_range hj]
    by_cases h1 : k ≤ j
    · rw [if_pos h1]
      by_cases h2 : j - k < Q.length
      · rw [if_pos ⟨h1, h2⟩]
      · rw [if_neg (by omega), cf_beyond (P := Q) (by omega), Int.mul_zero]; omega
    · rw [if_neg (by omega), if_neg h1]; omega
  · rw [cf_range_beyond (by omega), cf_beyond (P := rs) (by omega)]
    split
    · rw [cf_beyond (P := Q) (by omega), Int.mul_zero]; rfl
    · rfl
def dloop (Q : List Int) : Nat → List Int × List Int → List Int × List Int
  | 0, s => s
  | k + 1, (qs, rs) => dloop Q k (qs.set k ((cf rs (k + (Q.length - 1))).fdiv (lc Q)), subShift rs Q k ((cf rs (k + (Q.length - 1))).fdiv (lc Q)))
def facL (P Q : List Int) : Int := if P.length < Q.length then 1 else ((lc Q).natAbs : Int) ^ (P.length - Q.length + 1)
def quoL (P Q : List Int) : List Int := if P.length < Q.length then [] else trimL (dloop Q (P.length - Q.length + 1) (List.replicate (P.length - Q.length + 1) 0, P.map (· * facL P Q))).1
def remL (P Q : List Int) : List Int := if P.length < Q.length then P else trimL (dloop Q (P.length - Q.length + 1) (List.replicate (P.length - Q.length + 1) 0, P.map (· * facL P Q))).2
theorem cv_set {qs Q : List Int} {k : Nat} {x : Int} (hk : k < qs.length) (h0 : cf qs k = 0) (j : Nat) : cv (qs.set k x) Q j = cv qs Q j + if k ≤ j then x * cf Q (j - k) else 0 := by
  unfold cv
  have e : sm (j + 1) (fun i => cf (qs.set k x) i * cf Q (j - i)) = sm (j + 1) (fun i => cf qs i * cf Q (j - i) + if i = k then x * cf Q (j - k) else 0) := sm_congr fun i _ => by
    rw [cf_set hk]
    by_cases h : i = k
    · rw [if_pos h, if_pos h, h, h0, Int.zero_mul]; omega
    · rw [if_neg h, if_neg h]; omega
  rw [e, sm_add]
  congr 1
  by_cases hj : k ≤ j
  · rw [if_pos hj, sm_single (j := k) (by omega) fun i _ hn => if_neg hn, if_pos rfl]
  · rw [if_neg hj]
    exact sm_zero fun i hi => if_neg (by omega)
structure Inv (Q : List Int) (F : Nat → Int) (N g k : Nat) (s : List Int × List Int) : Prop where
  lq : s.1.length = g
  lr : s.2.length = N
  eq : ∀ j, F j = cv s.1 Q j + cf s.2 j
  hi : ∀ j, k + (Q.length - 1) ≤ j → cf s.2 j = 0
  dv : ∀ j, (((lc Q).natAbs ^ k : Nat) : Int) ∣ cf s.2 j
  lo : ∀ i, i < k → cf s.1 i = 0
theorem many_eq {Q rs : List Int} {k : Nat} (hl : lc Q ≠ 0) (dv : ∀ j, (((lc Q).natAbs ^ (k + 1) : Nat) : Int) ∣ cf rs j) (j : Nat) : lc Q * (cf rs j).fdiv (lc Q) = cf rs j := by
  have h1 : lc Q ∣ cf rs j := by
    refine Int.dvd_trans ?_ (dv j)
    refine Int.natAbs_dvd_natAbs.mp ?_
    rw [Int.natAbs_natCast, Nat.pow_succ]
    exact Nat.dvd_mul_left _ _
  rw [Int.fdiv_eq_ediv_of_dvd h1, Int.mul_ediv_cancel' h1]
theorem Inv.step {Q : List Int} {F : Nat → Int} {N g k : Nat} {qs rs : List Int} (I : Inv Q F N g (k + 1) (qs, rs)) (hl : lc Q ≠ 0) (hQ : 0 < Q.length) (hk : k < g) (hN : k + Q.length ≤ N) :
    Inv Q F N g k (qs.set k ((cf rs (k + (Q.length - 1))).fdiv (lc Q)), subShift rs Q k ((cf rs (k + (Q.length - 1))).fdiv (lc Q))) := by
  obtain ⟨lq, lr, eq, hi, dv, lo⟩ := I
  dsimp only at lq lr eq hi dv lo
  have me := many_eq hl dv (k + (Q.length - 1))
  have dm : (((lc Q).natAbs ^ k : Nat) : Int) ∣ (cf rs (k + (Q.length - 1))).fdiv (lc Q) := by
    have h1 := dv (k + (Q.length - 1))
    rw [← me] at h1
    have h2 := Int.natAbs_dvd_natAbs.mpr h1
    rw [Int.natAbs_natCast, Int.natAbs_mul, Nat.pow_succ, Nat.mul_comm] at h2
    have h3 := Nat.dvd_of_mul_dvd_mul_left (by omega) h2
    exact Int.natAbs_dvd_natAbs.mp (by rw [Int.natAbs_natCast]; exact h3)
  generalize (cf rs (k + (Q.length - 1))).fdiv (lc Q) = many at me dm ⊢
  refine ⟨by rw [List.length_set]; exact lq, by rw [subShift_len]; exact lr, fun j => ?_, fun j hj => ?_, fun j => ?_, fun i hi' => ?_⟩
  · dsimp only
    rw [eq j, cv_set (by omega) (lo k (by omega)), cf_subShift j (by omega)]; omega
  · dsimp only
    rw [cf_subShift j (by omega), if_pos (by omega)]
    by_cases h : j = k + (Q.length - 1)
    · have e2 : j - k = Q.length - 1 := by omega
      have e3 : cf Q (Q.length - 1) = lc Q := rfl
      rw [e2, e3, h, ← me, Int.mul_comm]; omega
    · rw [hi j (by omega), cf_beyond (P := Q) (by omega), Int.mul_zero]; rfl
  · dsimp only
    rw [cf_subShift j (by omega)]
    have d1 : (((lc Q).natAbs ^ k : Nat) : Int) ∣ cf rs j := Int.dvd_trans (Int.ofNat_dvd.mpr (Nat.pow_dvd_pow _ (by omega))) (dv j)
    refine Int.dvd_sub d1 ?_
    split
    · exact Int.dvd_mul_of_dvd_left dm
    · exact Int.dvd_zero _
  · dsimp only
    rw [cf_set (by omega), if_neg (by omega)]
    exact lo i (by omega)
theorem Inv.run {Q : List Int} {F : Nat → Int} {N g : Nat} (hl : lc Q ≠ 0) (hQ : 0 < Q.length) : ∀ (k : Nat) (s : List Int × List Int), k ≤ g → (k = 0 ∨ k - 1 + Q.length ≤ N) → Inv Q F N g k s → Inv Q F N g 0 (dloop Q k s)
  | 0, s, _, _, I => I
  | k + 1, (qs, rs), hk, hN, I => Inv.run hl hQ k _ (by omega) (by omega) (I.step hl hQ (by omega) (by omega))
theorem cv_zero_left {qs Q : List Int} (h : ∀ i, cf qs i = 0) (j : Nat) : cv qs Q j = 0 := sm_zero fun i _ => by rw [h, Int.zero_mul]
theorem lc_ne {Q : List Int} (hT : Trim Q) (h0 : Q ≠ []) : lc Q ≠ 0 := hT.elim (fun e => absurd e h0) id
theorem len_pos {Q : List Int} (h0 : Q ≠ []) : 0 < Q.length := List.length_pos_iff.mpr h0
theorem dstart {P Q : List Int} (hT : Trim Q) (h0 : Q ≠ []) (hg : ¬ P.length < Q.length) : Inv Q (fun j => cf P j * facL P Q) P.length (P.length - Q.length + 1) (P.length - Q.length + 1) (List.replicate (P.length - Q.length + 1) 0, P.map (· * facL P Q)) where
  lq := by simp
  lr := by simp
  eq := fun j => by
    dsimp only
    rw [cv_zero_left (fun i => cf_rep0 _ _), cf_map (f := (· * facL P Q)) (by omega)]; omega
  hi := fun j hj => by
    have := len_pos h0
    exact cf_beyond (by simp; omega)
  dv := fun j => by
    dsimp only
    rw [cf_map (f := (· * facL P Q)) (by omega)]
    refine Int.dvd_mul_of_dvd_right ?_
    unfold facL
    rw [if_neg hg, ← Int.natCast_pow]
    exact Int.dvd_refl _
  lo := fun i _ => cf_rep0 _ _
theorem dend {P Q : List Int} (hT : Trim Q) (h0 : Q ≠ []) (hg : ¬ P.length < Q.length) : Inv Q (fun j => cf P j * facL P Q) P.length (P.length - Q.length + 1) 0 (dloop Q (P.length - Q.length + 1) (List.replicate (P.length - Q.length + 1) 0, P.map (· * facL P Q))) :=
  Inv.run (lc_ne hT h0) (len_pos h0) _ _ (Nat.le_refl _) (.inr (by omega)) (dstart hT h0 hg)
theorem cv_trim_left (P Q : List Int) (j : Nat) : cv (trimL P) Q j = cv P Q j := sm_congr fun i _ => by rw [cf_trimL]
/-- factor times P is quotient times Q, added to the rest -/
theorem div_eq {P Q : List Int} (hT : Trim Q) (h0 : Q ≠ []) (j : Nat) : facL P Q * cf P j = cv (quoL P Q) Q j + cf (remL P Q) j := by
  by_cases hg : P.length < Q.length
  · unfold facL quoL remL
    rw [if_pos hg, if_pos hg, if_pos hg, cv_zero_left (fun i => cf_nil i)]; omega
  · have I := dend hT h0 hg
    unfold quoL remL
    rw [if_neg hg, if_neg hg, cv_trim_left, cf_trimL, Int.mul_comm]
    exact I.eq j
theorem rem_len {P Q : List Int} (hT : Trim Q) (h0 : Q ≠ []) : (remL P Q).length < Q.length := by
  by_cases hg : P.length < Q.length
  · unfold remL; rw [if_pos hg]; exact hg
  · have I := dend hT h0 hg
    have hq := len_pos h0
    have hz : ∀ j, Q.length - 1 ≤ j → cf (remL P Q) j = 0 := fun j hj => by
      unfold remL
      rw [if_neg hg, cf_trimL]
      exact I.hi j (by omega)
    have ht : Trim (remL P Q) := by
      unfold remL; rw [if_neg hg]; exact trim_trimL _
    rcases ht with h | h
    · rw [h]; exact hq
    · apply Nat.lt_of_not_le
      intro hle
      exact h (hz _ (by omega))
theorem trim_rem {P Q : List Int} (h : Trim P) : Trim (remL P Q) := by
  unfold remL
  split
  · exact h
  · exact trim_trimL _
theorem trim_quo (P Q : List Int) : Trim (quoL P Q) := by
  unfold quoL
  split
  · exact .inl rfl
  · exact trim_trimL _
/-! ### sizes -/
theorem abs_sub_lt {a b : Int} {n m : Nat} (ha : a.natAbs < 2 ^ n) (hb : b.natAbs < 2 ^ m) (h : n ≤ m) : (a - b).natAbs < 2 ^ (m + 1) := by
  have h1 : (2 : Nat) ^ n ≤ 2 ^ m := Nat.pow_le_pow_right (by decide) h
  have h2 : (2 : Nat) ^ (m + 1) = 2 ^ m + 2 ^ m := by rw [Nat.pow_succ]; omega
  omega
theorem many_lt {Q rs : List Int} {k n : Nat} (hl : lc Q ≠ 0) (dv : ∀ j, (((lc Q).natAbs ^ (k + 1) : Nat) : Int) ∣ cf rs j) (hs : Sz n rs) (j : Nat) : ((cf rs j).fdiv (lc Q)).natAbs < 2 ^ n := by
  have h1 := many_eq hl dv j
  have h2 := hs.cf j
  rw [← h1, Int.natAbs_mul] at h2
  exact Nat.lt_of_le_of_lt (Nat.le_mul_of_pos_left _ (by omega)) h2
theorem Sz.sub {Q rs : List Int} {k n m : Nat} {many : Int} (hs : Sz n rs) (hq : Sz m Q) (hm : many.natAbs < 2 ^ n) : Sz (n + m + 1) (subShift rs Q k many) := fun x hx => by
  unfold subShift at hx
  obtain ⟨j, _, rfl⟩ := List.mem_map.mp hx
  have h1 := hs.cf j
  have h2 : (many * cf Q (j - k)).natAbs < 2 ^ (n + m) := by
    rw [Int.natAbs_mul, Nat.pow_add]
    exact Nat.mul_lt_mul'' hm (hq.cf _)
  split
  · exact abs_sub_lt h1 h2 (by omega)
  · exact Nat.lt_of_lt_of_le h1 (Nat.pow_le_pow_right (by decide) (by omega))
theorem Sz.setq {qs : List Int} {n k : Nat} {x : Int} (hs : Sz n qs) (hx : x.natAbs < 2 ^ n) : Sz n (qs.set k x) := fun y hy => by
  rcases List.mem_or_eq_of_mem_set hy with h | h
  · exact hs y h
  · rw [h]; exact hx
theorem dloop_sz {Q : List Int} {F : Nat → Int} {N g m : Nat} (hl : lc Q ≠ 0) (hQ : 0 < Q.length) (hq : Sz m Q) : ∀ (k : Nat) (s : List Int × List Int) (n : Nat), k ≤ g → (k = 0 ∨ k - 1 + Q.length ≤ N) → Inv Q F N g k s → Sz n s.1 → Sz n s.2 → Sz (n + k * (m + 1)) (dloop Q k s).1 ∧ Sz (n + k * (m + 1)) (dloop Q k s).2
  | 0, s, n, _, _, _, h1, h2 => ⟨h1.mono (by omega), h2.mono (by omega)⟩
  | k + 1, (qs, rs), n, hk, hN, I, h1, h2 => by
    have hm := many_lt hl I.dv h2 (k + (Q.length - 1))
    have := dloop_sz hl hQ hq k _ (n + m + 1) (by omega) (by omega) (I.step hl hQ (by omega) (by omega)) ((Sz.setq h1 hm).mono (by omega)) (Sz.sub h2 hq hm)
    have e : n + m + 1 + k * (m + 1) = n + (k + 1) * (m + 1) := by rw [Nat.add_mul]; omega
    rw [e] at this
    exact this
theorem facL_lt {P Q : List Int} {m : Nat} (hq : Sz m Q) : (facL P Q).natAbs < 2 ^ (m * (P.length - Q.length + 1) + 1) := by
  unfold facL
  split
  · exact Nat.lt_of_lt_of_le (by decide : (1 : Int).natAbs < 2 ^ 1) (Nat.pow_le_pow_right (by decide) (by omega))
  · have h := hq.cf (Q.length - 1)
    rw [← Int.natCast_pow, Int.natAbs_natCast]
    refine Nat.lt_of_le_of_lt (Nat.pow_le_pow_left (Nat.le_of_lt h) _) ?_
    rw [← Nat.pow_mul]
    exact Nat.pow_lt_pow_right (by decide) (by omega)
/-- how great the quotient and the rest can be -/
theorem div_sz {P Q : List Int} {n m : Nat} (hT : Trim Q) (h0 : Q ≠ []) (hp : Sz n P) (hq : Sz m Q) : Sz (n + (2 * m + 1) * (P.length + 1) + 1) (quoL P Q) ∧ Sz (n + (2 * m + 1) * (P.length + 1) + 1) (remL P Q) := by
  by_cases hg : P.length < Q.length
  · unfold quoL remL
    rw [if_pos hg, if_pos hg]
    exact ⟨Sz.nil _, hp.mono (by omega)⟩
  · have hs0 : Sz (n + (m * (P.length - Q.length + 1) + 1)) (P.map (· * facL P Q)) := fun x hx => by
      obtain ⟨y, hy, rfl⟩ := List.mem_map.mp hx
      rw [Int.natAbs_mul, Nat.pow_add]
      exact Nat.mul_lt_mul'' (hp y hy) (facL_lt hq)
    have h := dloop_sz (lc_ne hT h0) (len_pos h0) hq (P.length - Q.length + 1) _ _ (Nat.le_refl _) (.inr (by omega)) (dstart hT h0 hg) (Sz.rep0 _ _) hs0
    have hle : n + (m * (P.length - Q.length + 1) + 1) + (P.length - Q.length + 1) * (m + 1) ≤ n + (2 * m + 1) * (P.length + 1) + 1 := by
      have e1 : (P.length - Q.length + 1) * (m + 1) = m * (P.length - Q.length + 1) + (P.length - Q.length + 1) := by rw [Nat.mul_add, Nat.mul_comm]; omega
      have e2 : (2 * m + 1) * (P.length + 1) = 2 * (m * (P.length + 1)) + (P.length + 1) := by rw [Nat.add_mul, Nat.mul_assoc]; omega
      have e3 : m * (P.length - Q.length + 1) ≤ m * (P.length + 1) := Nat.mul_le_mul_left m (by omega)
      omega
    unfold quoL remL
    rw [if_neg hg, if_neg hg]
    exact ⟨(h.1.mono hle).trim, (h.2.mono hle).trim⟩
theorem cv_one (f : Int) (P : List Int) (k : Nat) : cv [f] P k = f * cf P k := by
  unfold cv
  rw [sm_single (j := 0) (by omega) fun i _ hn => by rw [cf_beyond (P := [f]) (by simp; omega), Int.zero_mul]]
  rfl
theorem mul_one_trim {f : Int} {P : List Int} (hf : f ≠ 0) (hT : Trim P) : Trim (mulU [f] P) := by
  rcases hT with h | h
  · left; unfold mulU; rw [if_pos (.inr h)]
  · right
    have hP : P ≠ [] := fun e => by rw [e] at h; exact h (cf_nil _)
    have hl : (mulU [f] P).length = P.length := by
      unfold mulU
      rw [if_neg (fun z => z.elim (fun h => by cases h) hP), List.length_map, List.length_range]
      show 1 + P.length - 1 = _
      omega
    rw [hl, cf_mulU, cv_one]
    exact Int.mul_ne_zero hf h
theorem facL_pos {P Q : List Int} (hT : Trim Q) (h0 : Q ≠ []) : 0 < facL P Q := by
  unfold facL
  split
  · decide
  · have := lc_ne hT h0
    exact Int.pow_pos (by omega)
/-- the sentence of a division, as lists -/
theorem div_lists {P Q : List Int} (hP : Trim P) (hT : Trim Q) (h0 : Q ≠ []) : mulU [facL P Q] P = addL (mulU (quoL P Q) Q) (remL P Q) := by
  refine trim_ext (mul_one_trim (by have := facL_pos (P := P) hT h0; omega) hP) (trim_addL _ _) fun k => ?_
  rw [cf_mulU, cv_one, cf_addL, cf_mulU]
  exact div_eq hT h0 k
end MD

set_option linter.all false
/-! The ring of polynomials, by coefficients. -/
namespace MR
open ML MD
theorem cv_comm (P Q : List Int) (k : Nat) : cv P Q k = cv Q P k := by
  unfold cv
  rw [← sm_rev (k + 1) (fun i => cf Q i * cf P (k - i))]
  refine sm_congr fun i hi => ?_
  rw [show k + 1 - 1 - i = k - i by omega, show k - (k - i) = i by omega, Int.mul_comm]
theorem sm_tri (g : Nat → Nat → Int) : ∀ k : Nat, sm (k + 1) (fun i => sm (i + 1) (fun j => g j (i - j))) = sm (k + 1) (fun j => sm (k - j + 1) (fun l => g j l))
  | 0 => rfl
  | k + 1 => by
    rw [sm_succ, sm_tri g k, sm_succ (k + 1) (fun j => g j (k + 1 - j)), sm_succ (k + 1) (fun j => sm (k + 1 - j + 1) (fun l => g j l))]
    have e : sm (k + 1) (fun j => sm (k + 1 - j + 1) (fun l => g j l)) = sm (k + 1) (fun j => sm (k - j + 1) (fun l => g j l) + g j (k + 1 - j)) := sm_congr fun j hj => by
      have : k + 1 - j = k - j + 1 := by omega
      rw [this, sm_succ]
    rw [e, sm_add]
    have e2 : sm (k + 1 - (k + 1) + 1) (fun l => g (k + 1) l) = g (k + 1) (k + 1 - (k + 1)) := by
      rw [Nat.sub_self]; simp [sm]
    rw [e2]; omega
theorem cv_assoc' (P Q R : List Int) (k : Nat) : sm (k + 1) (fun i => cv P Q i * cf R (k - i)) = sm (k + 1) (fun j => cf P j * cv Q R (k - j)) := by
  have h := sm_tri (fun j l => cf P j * cf Q l * cf R (k - j - l)) k
  have e1 : sm (k + 1) (fun i => cv P Q i * cf R (k - i)) = sm (k + 1) (fun i => sm (i + 1) (fun j => cf P j * cf Q (i - j) * cf R (k - j - (i - j)))) := sm_congr fun i hi => by
    unfold cv
    rw [← sm_mul_r]
    exact sm_congr fun j hj => by rw [show k - j - (i - j) = k - i by omega]
  have e2 : sm (k + 1) (fun j => cf P j * cv Q R (k - j)) = sm (k + 1) (fun j => sm (k - j + 1) (fun l => cf P j * cf Q l * cf R (k - j - l))) := sm_congr fun j hj => by
    unfold cv
    rw [← sm_mul]
    exact sm_congr fun l _ => by rw [Int.mul_assoc]
  rw [e1, e2]; exact h
theorem cv_congr {P P' Q Q' : List Int} (h : ∀ i, cf P i = cf P' i) (h' : ∀ i, cf Q i = cf Q' i) (k : Nat) : cv P Q k = cv P' Q' k := sm_congr fun i _ => by rw [h, h']
theorem cv_assoc (P Q R : List Int) (k : Nat) : cv (mulL P Q) R k = cv P (mulL Q R) k := by
  have h := cv_assoc' P Q R k
  unfold cv at h ⊢
  rw [show sm (k + 1) (fun i => cf (mulL P Q) i * cf R (k - i)) = sm (k + 1) (fun i => sm (i + 1) (fun j => cf P j * cf Q (i - j)) * cf R (k - i)) from sm_congr fun i _ => by rw [cf_mulL]; rfl, h]
  exact sm_congr fun i _ => by rw [cf_mulL]; rfl
theorem cv_add_left (P P' Q : List Int) (k : Nat) : cv (addL P P') Q k = cv P Q k + cv P' Q k := by
  unfold cv
  rw [← sm_add]
  exact sm_congr fun i _ => by rw [cf_addL, Int.add_mul]
theorem cv_sub_left (P P' Q : List Int) (k : Nat) : cv (subL P P') Q k = cv P Q k - cv P' Q k := by
  unfold cv
  rw [← sm_sub]
  exact sm_congr fun i _ => by rw [cf_subL, Int.sub_mul]
theorem cv_add_right (P Q Q' : List Int) (k : Nat) : cv P (addL Q Q') k = cv P Q k + cv P Q' k := by
  rw [cv_comm, cv_add_left, cv_comm Q, cv_comm Q']
theorem cv_sub_right (P Q Q' : List Int) (k : Nat) : cv P (subL Q Q') k = cv P Q k - cv P Q' k := by
  rw [cv_comm, cv_sub_left, cv_comm Q, cv_comm Q']
/-- times a number -/
def sclL (c : Int) (P : List Int) : List Int := P.map (c * ·)
theorem cf_sclL (c : Int) (P : List Int) (k : Nat) : cf (sclL c P) k = c * cf P k := cf_map (f := (c * ·)) (by omega) P k
theorem sclL_len (c : Int) (P : List Int) : (sclL c P).length = P.length := by unfold sclL; simp
theorem trim_sclL {c : Int} {P : List Int} (hc : c ≠ 0) (h : Trim P) : Trim (sclL c P) := by
  rcases h with h | h
  · left; rw [h]; rfl
  · right; rw [sclL_len, cf_sclL]; exact Int.mul_ne_zero hc h
theorem cv_scl_left (c : Int) (P Q : List Int) (k : Nat) : cv (sclL c P) Q k = c * cv P Q k := by
  unfold cv
  rw [← sm_mul]
  exact sm_congr fun i _ => by rw [cf_sclL, Int.mul_assoc]
theorem cv_scl_right (c : Int) (P Q : List Int) (k : Nat) : cv P (sclL c Q) k = c * cv P Q k := by
  rw [cv_comm, cv_scl_left, cv_comm]
theorem mulL_comm (P Q : List Int) : mulL P Q = mulL Q P := trim_ext (trim_mulL _ _) (trim_mulL _ _) fun k => by rw [cf_mulL, cf_mulL, cv_comm]
theorem mulL_assoc (P Q R : List Int) : mulL (mulL P Q) R = mulL P (mulL Q R) := trim_ext (trim_mulL _ _) (trim_mulL _ _) fun k => by rw [cf_mulL, cf_mulL, cv_assoc]
theorem mulU_one {c : Int} (P : List Int) : mulU [c] P = sclL c P := by
  by_cases h : P = []
  · subst h; rfl
  · refine ext ?_ fun k _ => ?_
    · unfold mulU
      rw [if_neg (fun z => z.elim (fun h => by cases h) h), List.length_map, List.length_range, sclL_len]
      show 1 + P.length - 1 = _
      omega
    · rw [cf_mulU, cv_one, cf_sclL]
/-- the top of a product -/
theorem cv_top {D Q : List Int} {d e : Nat} (hd : ∀ i, d < i → cf D i = 0) (he : ∀ i, e < i → cf Q i = 0) : cv D Q (d + e) = cf D d * cf Q e := by
  unfold cv
  rw [sm_single (j := d) (by omega) fun i _ hn => ?_]
  · rw [Nat.add_sub_cancel_left]
  · by_cases h : d < i
    · rw [hd i h, Int.zero_mul]
    · rw [he (d + e - i) (by omega), Int.mul_zero]
theorem exists_top {D : List Int} (h : ∃ i, cf D i ≠ 0) : ∃ d, cf D d ≠ 0 ∧ ∀ i, d < i → cf D i = 0 := by
  have ht := trim_trimL D
  rcases ht with e | e
  · obtain ⟨i, hi⟩ := h
    rw [← cf_trimL, e, cf_nil] at hi
    exact absurd rfl hi
  · refine ⟨(trimL D).length - 1, by rw [cf_trimL] at e; exact e, fun i hi => ?_⟩
    rw [← cf_trimL]
    exact cf_beyond (by omega)
theorem top_of {Q : List Int} (hT : Trim Q) (h0 : Q ≠ []) : cf Q (Q.length - 1) ≠ 0 ∧ ∀ i, Q.length - 1 < i → cf Q i = 0 :=
  ⟨lc_ne hT h0, fun i hi => cf_beyond (by omega)⟩
/-- what is times Q and of a lower degree than Q is nought -/
theorem low_zero {D Q : List Int} (hT : Trim Q) (h0 : Q ≠ []) (h : ∀ k, Q.length - 1 ≤ k → cv D Q k = 0) : ∀ i, cf D i = 0 := by
  intro i
  apply Classical.byContradiction
  intro hi
  obtain ⟨d, hd, hd2⟩ := exists_top ⟨i, hi⟩
  obtain ⟨q1, q2⟩ := top_of hT h0
  have := cv_top hd2 q2
  rw [h _ (by omega)] at this
  exact Int.mul_ne_zero hd q1 this.symm
/-- the rest of a division is told by any such sentence -/
theorem rest_unique {P Q A R : List Int} {f : Int} (hT : Trim Q) (h0 : Q ≠ []) (hR : R.length < Q.length) (h : ∀ k, f * cf P k = cv A Q k + cf R k) (k : Nat) : facL P Q * cf R k = f * cf (remL P Q) k ∧ facL P Q * cf A k = f * cf (quoL P Q) k := by
  have hz : ∀ i, cf (subL (sclL (facL P Q) A) (sclL f (quoL P Q))) i = 0 := low_zero hT h0 fun k hk => by
    rw [cv_sub_left, cv_scl_left, cv_scl_left]
    have h1 := h k
    have h2 := div_eq (P := P) hT h0 k
    have hr := rem_len (P := P) hT h0
    rw [cf_beyond (P := R) (by omega)] at h1
    rw [cf_beyond (P := remL P Q) (by omega)] at h2
    rw [show cv A Q k = f * cf P k by omega, show cv (quoL P Q) Q k = facL P Q * cf P k by omega, ← Int.mul_assoc, ← Int.mul_assoc, Int.mul_comm (facL P Q) f]
    omega
  have ha : ∀ i, facL P Q * cf A i = f * cf (quoL P Q) i := fun i => by
    have := hz i
    rw [cf_subL, cf_sclL, cf_sclL] at this
    omega
  refine ⟨?_, ha k⟩
  have h1 := h k
  have h2 := div_eq (P := P) hT h0 k
  have h3 : facL P Q * cv A Q k = f * cv (quoL P Q) Q k := by
    rw [← cv_scl_left, ← cv_scl_left]
    exact cv_congr (fun i => by rw [cf_sclL, cf_sclL, ha]) (fun _ => rfl) k
  have h4 : cf R k = f * cf P k - cv A Q k := by omega
  have h5 : cf (remL P Q) k = facL P Q * cf P k - cv (quoL P Q) Q k := by omega
  rw [h4, h5, Int.mul_sub, Int.mul_sub, h3, ← Int.mul_assoc, ← Int.mul_assoc, Int.mul_comm (facL P Q) f]
theorem trim_mulU {P Q : List Int} (hP : Trim P) (hQ : Trim Q) : Trim (mulU P Q) := by
  by_cases h : P = [] ∨ Q = []
  · left; unfold mulU; rw [if_pos h]
  · right
    have h1 : P ≠ [] := fun e => h (.inl e)
    have h2 : Q ≠ [] := fun e => h (.inr e)
    have e : (mulU P Q).length = P.length + Q.length - 1 := by unfold mulU; rw [if_neg h]; simp
    have l1 := len_pos h1
    have l2 := len_pos h2
    obtain ⟨a1, a2⟩ := top_of hP h1
    obtain ⟨b1, b2⟩ := top_of hQ h2
    rw [e, cf_mulU, show P.length + Q.length - 1 - 1 = (P.length - 1) + (Q.length - 1) by omega, cv_top a2 b2]
    exact Int.mul_ne_zero a1 b1
theorem cf_zero_nil {P : List Int} (hT : Trim P) : P = [] ↔ ∀ k, cf P k = 0 :=
  ⟨fun h k => by rw [h, cf_nil], fun h => hT.elim id fun e => absurd (h _) e⟩
/-- Q divides P just where the rest is [] -/
theorem rem_nil {P Q A R : List Int} {f : Int} (hf : f ≠ 0) (hP : Trim P) (hT : Trim Q) (h0 : Q ≠ []) (hR : R.length < Q.length) (tR : Trim R) (h : ∀ k, f * cf P k = cv A Q k + cf R k) : remL P Q = [] ↔ R = [] := by
  have hp := facL_pos (P := P) hT h0
  rw [cf_zero_nil (trim_rem hP), cf_zero_nil tR]
  constructor
  · intro hz k
    have := (rest_unique hT h0 hR h k).1
    rw [hz k, Int.mul_zero] at this
    rcases Int.mul_eq_zero.mp this with e | e
    · omega
    · exact e
  · intro hz k
    have := (rest_unique hT h0 hR h k).1
    rw [hz k, Int.mul_zero] at this
    rcases Int.mul_eq_zero.mp this.symm with e | e
    · exact absurd e hf
    · exact e
end MR

set_option linter.all false
/-! Products of linear factors, at fractions. -/
namespace MH
open ML MR
/-- times b * x - a, the coefficient ahead given -/
def linM (a b : Int) : List Int → Int → List Int
  | [], p => [b * p]
  | x :: r, p => (b * p - a * x) :: linM a b r x
theorem linM_len (a b : Int) : ∀ (P : List Int) (p : Int), (linM a b P p).length = P.length + 1
  | [], _ => rfl
  | x :: r, p => by
    show (linM a b r x).length + 1 = _
    rw [linM_len a b r x]; rfl
theorem cf_linM (a b : Int) : ∀ (P : List Int) (p : Int) (k : Nat), cf (linM a b P p) k = b * (if k = 0 then p else cf P (k - 1)) - a * cf P k
  | [], p, 0 => by
    show b * p = _
    rw [if_pos rfl, cf_nil, Int.mul_zero, Int.sub_zero]
  | [], p, k + 1 => by
    rw [if_neg (by omega), cf_nil, cf_nil, Int.mul_zero, Int.mul_zero, Int.sub_zero]
    exact cf_beyond (by show 1 ≤ k + 1; omega)
  | x :: r, p, 0 => by
    show b * p - a * x = _
    rw [if_pos rfl, cf_zero]
  | x :: r, p, k + 1 => by
    have h := cf_linM a b r x k
    show cf ((b * p - a * x) :: linM a b r x) (k + 1) = _
    rw [cf_succ, h, cf_succ, if_neg (Nat.succ_ne_zero k), Nat.add_sub_cancel]
    cases k with
    | zero => rw [if_pos rfl, cf_zero]
    | succ k => rw [if_neg (Nat.succ_ne_zero k), cf_succ, Nat.add_sub_cancel]
theorem hs_linM (a b t u : Int) : ∀ (P : List Int) (p : Int), hs t u (linM a b P p) = ((hs t u P).1 * (b * t - a * u) + b * p * (hs t u P).2, (hs t u P).2 * u)
  | [], p => by
    show ((0 : Int) * t + b * p * 1, (1 : Int) * u) = (0 * (b * t - a * u) + b * p * 1, 1 * u)
    rw [Int.zero_mul, Int.zero_mul]
  | x :: r, p => by
    have h := hs_linM a b t u r x
    show ((hs t u (linM a b r x)).1 * t + (b * p - a * x) * (hs t u (linM a b r x)).2, (hs t u (linM a b r x)).2 * u) = (((hs t u r).1 * t + x * (hs t u r).2) * (b * t - a * u) + b * p * ((hs t u r).2 * u), (hs t u r).2 * u * u)
    rw [h]
    refine Prod.ext ?_ rfl
    show ((hs t u r).1 * (b * t - a * u) + b * x * (hs t u r).2) * t + (b * p - a * x) * ((hs t u r).2 * u) = ((hs t u r).1 * t + x * (hs t u r).2) * (b * t - a * u) + b * p * ((hs t u r).2 * u)
    grind
theorem topL_linM (a b t u : Int) (P : List Int) : topL (linM a b P 0) t u = topL P t u * (b * t - a * u) := by
  unfold topL
  rw [hs_linM, Int.mul_zero, Int.zero_mul, Int.add_zero]
theorem cv_lin (a b : Int) (P : List Int) (k : Nat) : cv P [a, b] k = (if k = 0 then 0 else cf P (k - 1) * b) + cf P k * a := by
  have h2 : ∀ j, 2 ≤ j → cf [a, b] j = 0 := fun j hj => cf_beyond (by show 2 ≤ j; exact hj)
  unfold cv
  cases k with
  | zero =>
    rw [if_pos rfl]
    show 0 + cf P 0 * cf [a, b] 0 = _
    rfl
  | succ k =>
    rw [if_neg (by omega), sm_succ, sm_succ]
    have z : sm k (fun i => cf P i * cf [a, b] (k + 1 - i)) = 0 := sm_zero fun i hi => by rw [h2 _ (by omega), Int.mul_zero]
    rw [z, show k + 1 - k = 1 by omega, Nat.sub_self, Nat.add_sub_cancel, Int.zero_add]
    rfl
theorem mul_lin {a b : Int} {P : List Int} (hT : Trim P) (h0 : P ≠ []) (hb : b ≠ 0) : mulL P [-a, b] = linM a b P 0 := by
  have hl := MD.len_pos h0
  refine trim_ext (trim_mulL _ _) (.inr ?_) fun k => ?_
  · rw [linM_len, Nat.add_sub_cancel, cf_linM, if_neg (by omega), cf_beyond (P := P) (Nat.le_refl _), Int.mul_zero, Int.sub_zero]
    exact Int.mul_ne_zero hb (MD.lc_ne hT h0)
  · rw [cf_mulL, cv_lin, cf_linM]
    cases k with
    | zero => rw [if_pos rfl, if_pos rfl, Int.mul_zero, Int.zero_add, Int.zero_sub, Int.mul_neg, Int.mul_comm]
    | succ k => rw [if_neg (by omega), if_neg (by omega), Int.mul_neg, Int.mul_comm b, Int.mul_comm a]; rfl
/-- the product of the factors b * t - a * u -/
def prodF (ab : List (Int × Int)) (t u : Int) : Int := ab.foldl (fun s q => s * (q.2 * t - q.1 * u)) 1
theorem prodF_take {ab : List (Int × Int)} {t u : Int} {i : Nat} {q : Int × Int} (h : ab[i]? = some q) : prodF (ab.take (i + 1)) t u = prodF (ab.take i) t u * (q.2 * t - q.1 * u) := by
  unfold prodF
  rw [List.take_add_one, h]
  simp [List.foldl_append]
theorem prodF_zero {ab : List (Int × Int)} {t u : Int} {q : Int × Int} (h : q ∈ ab) (hz : q.2 * t - q.1 * u = 0) : prodF ab t u = 0 := by
  have gen : ∀ (ab : List (Int × Int)) (s : Int), (s = 0 ∨ q ∈ ab) → ab.foldl (fun s q => s * (q.2 * t - q.1 * u)) s = 0 := by
    intro ab
    induction ab with
    | nil => intro s hs; exact hs.elim id (fun h => by cases h)
    | cons x r ih =>
      intro s hs
      rw [List.foldl_cons]
      apply ih
      rcases hs with hs | hs
      · left; rw [hs, Int.zero_mul]
      · rcases List.mem_cons.mp hs with e | e
        · left; rw [← e, hz, Int.mul_zero]
        · exact .inr e
  exact gen ab 1 (.inr h)
end MH

set_option linter.all false
set_option exponentiation.threshold 100000
/-! Resultants of lists. -/
namespace DT
open ML RB
theorem cf_pm (P Q : List Int) : cf (mulU P Q) = pm (cf P) (cf Q) := by
  funext k
  rw [cf_mulU]; rfl
theorem deg_cf {P : List Int} {m : Nat} (h : P.length ≤ m + 1) : Deg (cf P) m := fun j hj => cf_beyond (by omega)
theorem mulU_len' {P Q : List Int} (hP : P ≠ []) (hQ : Q ≠ []) : (mulU P Q).length = P.length + Q.length - 1 := by
  unfold mulU
  rw [if_neg fun z => z.elim hP hQ, List.length_map, List.length_range]
theorem mulU_ne {P Q : List Int} (hP : P ≠ []) (hQ : Q ≠ []) : mulU P Q ≠ [] := by
  have lP := List.length_pos_iff.mpr hP
  have lQ := List.length_pos_iff.mpr hQ
  have := mulU_len' hP hQ
  intro z
  rw [z] at this
  simp at this
  omega
theorem resL_eq {P Q : List Int} {m n : Nat} (hP : P.length = m + 1) (hQ : Q.length = n + 1) : resL P Q = Res m n (cf P) (cf Q) := by
  unfold resL
  rw [if_neg, hP, hQ]
  · rfl
  · rintro (rfl | rfl)
    · simp at hP
    · simp at hQ
theorem resL_const {c : Int} {Q : List Int} {n : Nat} (hQ : Q.length = n + 1) : resL [c] Q = c ^ n := by
  rw [resL_eq (m := 0) rfl hQ, Res_const (deg_cf (by simp))]; rfl
theorem resL_mul {P Q R : List Int} {m n d : Nat} (hP : P.length = m + 1) (hQ : Q.length = n + 1) (hR : R.length = d + 1) (h0 : cf R d ≠ 0) : resL (mulU P R) Q = resL P Q * resL R Q := by
  have nP : P ≠ [] := fun z => by rw [z] at hP; simp at hP
  have nR : R ≠ [] := fun z => by rw [z] at hR; simp at hR
  rw [resL_eq (m := m + d) (n := n) (by rw [mulU_len' nP nR]; omega) hQ, resL_eq hP hQ, resL_eq hR hQ, cf_pm]
  exact Res_mul (deg_cf (by omega)) (deg_cf (by omega)) (deg_cf (by omega)) h0
theorem resL_swap {P Q : List Int} {m n : Nat} (hP : P.length = m + 1) (hQ : Q.length = n + 1) : resL Q P = (-1) ^ (m * n) * resL P Q := by
  rw [resL_eq hP hQ, resL_eq hQ hP, Res_swap]
theorem resL_common {P Q F : List Int} {m n d : Nat} (hP : P.length = m + 1) (hQ : Q.length = n + 1) (hF : F.length = d + 1) (hd : 0 < d) : resL (mulU P F) (mulU Q F) = 0 := by
  have nP : P ≠ [] := fun z => by rw [z] at hP; simp at hP
  have nQ : Q ≠ [] := fun z => by rw [z] at hQ; simp at hQ
  have nF : F ≠ [] := fun z => by rw [z] at hF; simp at hF
  rw [resL_eq (m := m + d) (n := n + d) (by rw [mulU_len' nP nF]; omega) (by rw [mulU_len' nQ nF]; omega), cf_pm, cf_pm]
  exact Res_common (deg_cf (by omega)) (deg_cf (by omega)) hd
theorem resL_add {P H L S : List Int} {m h d : Nat} (hP : P.length = m + 1) (hH : H.length = h + 1) (hL : L.length = d + 1) (hS : S.length = m + h + 1) (hd : d < m) (e : ∀ j, cf S j = cf L j + cv P H j) : resL P S = cf P m ^ (m + h - d) * resL P L := by
  rw [resL_eq hP hS, resL_eq hP hL]
  have : cf S = fun j => cf L j + pm (cf H) (cf P) j := by
    funext j
    rw [e, pm_comm]; rfl
  rw [this]
  exact Res_add (deg_cf (by omega)) (deg_cf (by omega)) (deg_cf (by omega)) hd
theorem hom_shift (a b : Int) : ∀ (n : Nat) (q : Row), hom a b q (n + 1) = a * hom a b (fun j => q (j + 1)) n + q 0 * b ^ (n + 1)
  | 0, q => by
    show b * q 0 + q 1 * a ^ 1 = a * q 1 + q 0 * b ^ 1
    grind
  | n + 1, q => by
    have ih := hom_shift a b n q
    have e : hom a b q (n + 1 + 1) = b * hom a b q (n + 1) + q (n + 1 + 1) * a ^ (n + 1 + 1) := rfl
    have e2 : hom a b (fun j => q (j + 1)) (n + 1) = b * hom a b (fun j => q (j + 1)) n + q (n + 1 + 1) * a ^ (n + 1) := rfl
    rw [e, ih, e2, Int.pow_succ a (n + 1), Int.pow_succ b (n + 1)]
    grind
theorem hs_two (a b : Int) : ∀ Q : List Int, (MH.hs a b Q).2 = b ^ Q.length
  | [] => by simp [MH.hs]
  | x :: r => by rw [MH.hs_cons, hs_two a b r, List.length_cons, Int.pow_succ]
theorem hs_hom (a b : Int) : ∀ (n : Nat) (Q : List Int), Q.length = n + 1 → MH.topL Q a b = hom a b (cf Q) n
  | 0, [x], _ => by simp [MH.topL, MH.hs, hom, cf]
  | n + 1, x :: r, h => by
    have hr : r.length = n + 1 := by rw [List.length_cons] at h; omega
    have ih := hs_hom a b n r hr
    unfold MH.topL at ih ⊢
    rw [MH.hs_cons, hom_shift]
    show (MH.hs a b r).1 * a + x * (MH.hs a b r).2 = a * hom a b (fun j => cf (x :: r) (j + 1)) n + cf (x :: r) 0 * b ^ (n + 1)
    have e : (fun j => cf (x :: r) (j + 1)) = cf r := by funext j; rw [cf_succ]
    rw [e, ih, hs_two, hr, cf_zero]
    grind
theorem resL_lin {Q : List Int} {n : Nat} (a b : Int) (hQ : Q.length = n + 1) : resL [-a, b] Q = MH.topL Q a b := by
  rw [resL_eq (m := 1) rfl hQ, hs_hom a b n Q hQ]
  unfold Res
  rw [show 1 + n = n + 1 by omega]
  have := Res_lin (p := cf [-a, b]) (q := cf Q) (deg_cf (by simp)) a rfl n
  show D (dn (n + 1)) (shs n (cf [-a, b]) ++ [sh 0 (cf Q)]) = _
  rw [sh_zero]
  exact this
theorem sz_lin {P : List Int} {a b : Int} {n k : Nat} (hP : Sz n P) (ha : a.natAbs < 2 ^ k) (hb : b.natAbs < 2 ^ k) : Sz (n + k + 1) (mulU P [-a, b]) := Sz.of fun j _ => by
  rw [cf_mulU, MH.cv_lin]
  have h1 := L2.wide_lt (hP.cf j) ha
  have h2 : (if j = 0 then 0 else cf P (j - 1) * b).natAbs < 2 ^ (n + k) := by
    split
    · exact Nat.two_pow_pos _
    · exact L2.wide_lt (hP.cf _) hb
  rw [Nat.pow_succ]
  have e : (cf P j * -a).natAbs = (cf P j * a).natAbs := by rw [Int.mul_neg, Int.natAbs_neg]
  generalize (2 : Nat) ^ (n + k) = B at h1 h2
  omega
end DT
namespace DT
open ML RB
theorem sq_one (k : Nat) : ((-1 : Int) ^ k) * ((-1) ^ k) = 1 := by
  rw [← Int.pow_add, ← Nat.two_mul, Int.pow_mul, show ((-1 : Int) ^ 2) = 1 from rfl, Int.one_pow]
theorem resL_mul_right {P Q R : List Int} {m n r : Nat} (hP : P.length = m + 1) (hQ : Q.length = n + 1) (hR : R.length = r + 1) (h0 : cf R r ≠ 0) : resL P (mulU Q R) = resL P Q * resL P R := by
  have nQ : Q ≠ [] := fun z => by rw [z] at hQ; simp at hQ
  have nR : R ≠ [] := fun z => by rw [z] at hR; simp at hR
  have lQR : (mulU Q R).length = n + r + 1 := by rw [mulU_len' nQ nR]; omega
  rw [resL_swap lQR hP, resL_mul hQ hP hR h0, resL_swap hP hQ, resL_swap hP hR, show (n + r) * m = m * n + m * r by rw [Nat.add_mul, Nat.mul_comm n, Nat.mul_comm r], Int.pow_add]
  have h1 := sq_one (m * n)
  have h2 := sq_one (m * r)
  generalize ((-1 : Int) ^ (m * n)) = x at h1 ⊢
  generalize ((-1 : Int) ^ (m * r)) = y at h2 ⊢
  grind
theorem resL_add' {P H L S : List Int} {m h d : Nat} (hP : P.length = m + 1) (hH : H.length = h + 1) (hL : L.length = d + 1) (hS : S.length = m + h + 1) (hd : d < m) (e : ∀ j, cf S j = cv P H j + cf L j) : resL P S * cf P m ^ d = resL P L * cf P m ^ (m + h) := by
  rw [resL_add hP hH hL hS hd fun j => by rw [e]; omega, show m + h = m + h - d + d by omega, Int.pow_add, Nat.add_sub_cancel]
  grind
end DT

set_option linter.all false
set_option maxRecDepth 100000
set_option maxHeartbeats 4000000
set_option exponentiation.threshold 100000
namespace RP
open PySem PySem.Spec PyProof.Rows L2 RB
open Evl (Ex rLenS rListS rMax2 tCut pss_cut)
local macro_rules | `(tactic| walk_at "ir") => `(tactic| first
  | assumption
  | exact IsR.ex (by assumption) (by walk_at "ir"))
local macro_rules | `(tactic| walk_at "hp") => `(tactic| first
  | assumption
  | exact hx_e (by assumption) (by walk_at "hp")
  | exact hx_b (by assumption) (by walk_at "ne") (by walk_at "hp"))
local macro_rules | `(tactic| walk_at "ne") => `(tactic| first
  | assumption
  | exact Ne.symm (by assumption)
  | exact ne_1 (by assumption) (by walk_at "hp")
  | exact ne_2 (by assumption) (by walk_at "hp"))
local macro_rules | `(tactic| walk_at "sq") => `(tactic| first
  | assumption
  | exact Fx.l (by assumption) (by assumption)
  | exact Evl.Ex.l (by assumption) (by assumption)
  | exact SqL.inj (by walk_at "hp"))
local macro_rules | `(tactic| walk_at "rd") => `(tactic| repeat (first
  | with_reducible refine r_seq ?_
  | with_reducible refine r_asg ?_
  | with_reducible refine r_gn ?_
  | ((with_reducible refine' r_var ?h ?_); (case h => exact rfl))
  | with_reducible refine r_c ?_
  | with_reducible refine r_op ?_
  | with_reducible refine r_un ?_
  | with_reducible refine r_add ?_
  | with_reducible refine r_sub ?_
  | ((with_reducible refine' r_pow ?h ?_); (case h => exact ⟨by decide, by decide, by decide⟩))
  | ((with_reducible refine' r_mod ?h ?_); (case h => first | decide | omega))
  | ((with_reducible refine' r_div ?h ?_); (case h => exact ⟨by decide, by decide⟩))
  | with_reducible refine r_lc ?_
  | ((with_reducible refine' r_cListA ?h ?_); (case h => walk_at "sq"))
  | with_reducible refine r_lt ?_
  | with_reducible refine r_le ?_
  | with_reducible refine r_gt ?_
  | with_reducible refine r_ge ?_
  | with_reducible refine r_eqI ?_
  | with_reducible refine r_neI ?_
  | with_reducible refine r_eqB ?_
  | with_reducible refine r_eqS ?_
  | with_reducible refine r_neg ?_
  | with_reducible refine r_ret ?_
  | with_reducible refine r_ifS ?_
  | with_reducible refine r_test ?_
  | with_reducible refine r_B ?_
  | with_reducible refine r_bl ?_
  | with_reducible refine r_int ?_
  | with_reducible refine r_cb ?_
  | with_reducible refine r_cons ?_
  | with_reducible refine r_nil ?_
  | with_reducible refine r_abs ?_
  | with_reducible refine r_max2 ?_
  | with_reducible refine r_min2 ?_
  | ((with_reducible refine' r_lenI ?h ?_); (case h => walk_at "sq"))
  | ((with_reducible refine' r_len ?h ?_); (case h => walk_at "sq"))
  | with_reducible refine r_tru ?_
  | with_reducible refine r_rev ?_
  | with_reducible refine r_iRng3 ?_
  | ((with_reducible refine' r_ixL ?h ?a ?_); (case h => walk_at "sq"); (case a => assumption))
  | ((with_reducible refine' r_ixT ?h ?a ?_); (case h => walk_at "sq"); (case a => assumption))
  | with_reducible refine r_intI ?_
  | with_reducible refine r_intB ?_
  | with_reducible refine r_call ?_
  | with_reducible refine r_lst ?_
  | with_reducible refine r_tup ?_
  | with_reducible refine r_drop ?_
  | with_reducible refine r_and ?_
  | with_reducible refine r_or ?_
  | with_reducible refine r_not ?_
  | with_reducible refine r_andV ?_
  | with_reducible refine r_orV ?_
  | with_reducible refine r_notV ?_
  | with_reducible refine r_if ?_
  | with_reducible refine r_bm ?_
  | with_reducible refine r_bm0 ?_
  | with_reducible refine r_sub_ ?_
  | with_reducible refine r_sl ?_
  | with_reducible refine r_part ?_
  | with_reducible refine r_nopart ?_
  | with_reducible refine r_par ?_
  | with_reducible refine r_par2 ?_
  | with_reducible refine r_for ?_
  | with_reducible refine r_iList ?_
  | ((with_reducible refine' r_iListA ?h ?_); (case h => walk_at "sq"))
  | with_reducible refine r_iTup ?_
  | ((with_reducible refine' r_iTupA ?h ?_); (case h => walk_at "sq"))
  | with_reducible refine r_iRng1 ?_
  | with_reducible refine r_iRng2 ?_
  | with_reducible refine r_iRev ?_
  | ((with_reducible refine' r_iRevA ?h ?_); (case h => walk_at "sq"))
  | with_reducible refine r_iEnum ?_
  | ((with_reducible refine' r_iEnumA ?h ?_); (case h => walk_at "sq"))
  | with_reducible refine r_iRevR ?_
  | with_reducible refine r_rg1 ?_
  | with_reducible refine r_make ?_
  | with_reducible refine r_fld ?_
  | with_reducible refine r_sfld ?_
  | with_reducible refine r_meth ?_
  | ((with_reducible refine' r_top ?c ?n ?h ?_); (case c => assumption); (case n => assumption); (case h => walk_at "ir"))
  | ((with_reducible refine' r_bottom ?c ?n ?h ?_); (case c => assumption); (case n => assumption); (case h => walk_at "ir"))
  | ((with_reducible refine' r_methR ?h ?h1 ?h2 ?_); (case h => walk_at "ir"); (case h1 => decide +kernel); (case h2 => decide +kernel))
  | with_reducible refine r_next ?_
  | ((with_reducible refine' r_ty ?h ?_); (case h => exact tyL (by walk_at "hp")))
  | with_reducible refine i_t ?_
  | with_reducible refine i_f ?_
  | with_reducible refine i_nt ?_
  | with_reducible refine i_nf ?_
  | walk_at "call"))
/-! #### pivot_at -/
--USE MT RN
def sp_pivot_at (K : PySem.W.Frag) (Cof : String → Addr) : Sp := fun vs H Q _ => ∃ (a : Addr) (ps : List Addr) (M : List (List Int)) (k : Nat), vs = [.ref a, .int (k : Int)] ∧ SqL K H a (ps.map V.ref) ∧ Rws H ps M ∧ k ≤ M.length ∧ M.length ≤ 100000 ∧ (∀ R ∈ M, k < R.length) ∧ Q (.int (MT.pivL M k : Nat)) H
def t_pivot_at (K : PySem.W.Frag) (Cof : String → Addr) (E : XK) : TS :=
  tSeq (tAsg (tVar 1) (gName 2))
  (tSeq (tWhile (tAnd (tTest (tOp rLt (tVar 2) (tCB (rLenS K) (tCons (tVar 0) (tNil))))) (tTest (tOp rEq (tOp (rIxL K) (tOp (rIxL K) (tVar 0) (tVar 2)) (tVar 1)) (tC (.int 0))))) (tAsg (tOp rIAdd (tVar 2) (tC (.int 1))) (gName 2)))
  (tRet (tVar 2)))

section
variable {K : PySem.W.Frag} {Cof : String → Addr} {vs : List V} {H : Hp} {Q : VK} {E : XK}
theorem len_pivot_at (h : sp_pivot_at K Cof vs H Q E) : vs.length = 2 := by
  obtain ⟨a, ps, M, k, rfl, _⟩ := h; rfl
/-- an item of a list of lists -/
theorem r_ixRow {p : Addr} {ps : List Addr} {M : List (List Int)} {i : Nat} (h : SqL K H p (ps.map V.ref)) (hW : Rws H ps M) (hi : i < M.length) (q : ∀ r, ps[i]? = some r → H r = some (.lst ((M.getD i []).map V.int)) → Q (.ref r) H) : rIxL K (.ref p) (.int (i : Int)) H Q := by
  have hl := hW.len
  have hr : ps[i]? = some ps[i] := List.getElem?_eq_getElem (by omega)
  obtain ⟨R, hR, hpR⟩ := hW.get hr
  have e : M.getD i [] = R := by rw [List.getD_eq_getElem?_getD, hR]; rfl
  refine r_ixL h (v := .ref ps[i]) (atI_nat (j := i) (by rw [List.getElem?_map, hr]; rfl)) (q _ hr (by rw [e]; exact hpR))
theorem rd_pivot_at (h : sp_pivot_at K Cof vs H Q E) : t_pivot_at K Cof E { nx := fun _ H' => Q .non H', rt := Q } (start ["rows", "at", "k"] vs) H := by
  obtain ⟨a, ps, M, k, rfl, hA, hW, hk, hl, hR, q⟩ := h
  have hlen := hW.len
  unfold t_pivot_at
  walk_at "rd"
  refine r_while (fun m σ' H' => ∃ j : Nat, σ' = [some (.ref a), some (.int (k : Int)), some (.int (j : Int))] ∧ H' = H ∧ m = M.length - j ∧ k ≤ j ∧ j ≤ M.length ∧ MT.pivL M k = j + ((M.drop j).takeWhile (fun R => decide (ML.cf R k = 0))).length) (M.length - k) ⟨k, rfl, rfl, rfl, Nat.le_refl _, hk, rfl⟩ (fun m σ' H' hw => ?_)
  obtain ⟨j, rfl, rfl, rfl, hj1, hj2, hp⟩ := hw
  walk_at "rd"
  try rw [List.length_map]
  refine ite_d (fun hlt => ?_) (fun hlt => ?_)
  · have hjl : j < M.length := by omega
    walk_at "rd"
    refine r_ixRow hA hW hjl fun r hr hpr => ?_
    have hm : M.getD j [] ∈ M := by
      rw [List.getD_eq_getElem?_getD, List.getElem?_eq_getElem hjl]
      exact List.getElem_mem hjl
    have hd : M.drop j = M.getD j [] :: M.drop (j + 1) := by
      rw [List.drop_eq_getElem_cons hjl, List.getD_eq_getElem?_getD, List.getElem?_eq_getElem hjl]; rfl
    walk_at "rd"
    refine r_ixI (SqL.inj hpr) (by omega) (by have := hR _ hm; omega) ?_
    rw [Int.toNat_natCast]
    walk_at "rd"
    refine ite_d (fun hz => wh_in ?_) (fun hz => ?_)
    · walk_at "rd"
      refine ⟨M.length - (j + 1), by omega, j + 1, by rw [Int.natCast_add]; rfl, rfl, rfl, by omega, by omega, ?_⟩
      rw [hp, hd, List.takeWhile_cons, if_pos (by exact decide_eq_true hz), List.length_cons]
      omega
    · walk_at "rd"
      have e : MT.pivL M k = j := by
        rw [hp, hd, List.takeWhile_cons, if_neg (by have hz' : ¬ ML.cf (M.getD j []) k = 0 := hz; rw [decide_eq_false hz']; decide)]; rfl
      rw [e] at q
      exact q
  · walk_at "rd"
    have e : MT.pivL M k = j := by
      rw [hp, List.drop_eq_nil_of_le (by omega)]; rfl
    rw [e] at q
    exact q
theorem c_pivot_at {a : Addr} {ps : List Addr} {M : List (List Int)} {k : Nat} (hA : SqL K H a (ps.map V.ref)) (hW : Rws H ps M) (hk : k ≤ M.length) (hl : M.length ≤ 100000) (hR : ∀ R ∈ M, k < R.length) (q : Q (.int (MT.pivL M k : Nat)) H) : sp_pivot_at K Cof [.ref a, .int (k : Int)] H Q E := ⟨a, ps, M, k, rfl, hA, hW, hk, hl, hR, q⟩
end

/-! #### cleared_rows -/
--USE MT RN MO
def sp_cleared_rows (K : PySem.W.Frag) (Cof : String → Addr) : Sp := fun vs H Q _ => ∃ (a : Addr) (ps : List Addr) (M : List (List Int)) (k n : Nat) (b : Int), vs = [.ref a, .int (k : Int), .int b] ∧ SqL K H a (ps.map V.ref) ∧ Rws H ps M ∧ ClSz n M k b ∧
  ∀ (D : Addr) (H' : Hp) (qs : List Addr), H D = none → Ex H H' → H' D = some (.lst (qs.map V.ref)) → Rws H' qs (MT.clrL M k b) → D ∉ qs → Q (.ref D) H'
def t_cleared_rows (K : PySem.W.Frag) (Cof : String → Addr) (E : XK) : TS :=
  tSeq (tAsg (tOp (rIxL K) (tVar 0) (tVar 1)) (gName 3))
  (tSeq (tAsg (tSl (rSlL K) (tVar 0) (tNoPart) (tPart (tOp rIAdd (tVar 1) (tC (.int 1))))) (gName 4))
  (tSeq (tFor (iList K (tSl (rSlL K) (tVar 0) (tPart (tOp rIAdd (tVar 1) (tC (.int 1)))) (tNoPart))) (gName 5) (tDrop (tBM K "list" rAppend (tVar 4) (tCons (tLc (iRng1 (tCons (tCB (rLenS K) (tCons (tVar 5) (tNil))) (tNil))) (gName 6) (tYes) (tOp rDiv (tOp rISub (tOp rMul (tOp (rIxL K) (tVar 3) (tVar 1)) (tOp (rIxL K) (tVar 5) (tVar 6))) (tOp rMul (tOp (rIxL K) (tVar 5) (tVar 1)) (tOp (rIxL K) (tVar 3) (tVar 6)))) (tVar 2)) [6]) (tNil)))))
  (tRet (tVar 4))))

section
variable {K : PySem.W.Frag} {Cof : String → Addr} {vs : List V} {H : Hp} {Q : VK} {E : XK}
theorem len_cleared_rows (h : sp_cleared_rows K Cof vs H Q E) : vs.length = 3 := by
  obtain ⟨a, ps, M, k, n, b, rfl, _⟩ := h; rfl
theorem rws_drop {H : Hp} : ∀ (n : Nat) {ps : List Addr} {Rs : List (List Int)}, Rws H ps Rs → Rws H (ps.drop n) (Rs.drop n)
  | 0, _, _, h => h
  | n + 1, [], [], _ => trivial
  | n + 1, p :: ps, R :: Rs, h => rws_drop n h.2
theorem cutV_from {xs : List V} {k : Nat} (h : k ≤ xs.length) : cutV xs (some (k : Int)) none = xs.drop k := by
  unfold cutV
  rw [HT.sIx_none, HT.sIx_nat, Nat.min_eq_left h, List.take_of_length_le (by rw [List.length_drop]; omega)]
theorem rd_cleared_rows (h : sp_cleared_rows K Cof vs H Q E) : t_cleared_rows K Cof E { nx := fun _ H' => Q .non H', rt := Q } (start ["rows", "at", "before", "top", "done", "row", "j"] vs) H := by
  obtain ⟨a, ps, M, k, n, b, rfl, hA, hW, s, q⟩ := h
  have hlen := hW.len
  have k0 := s.k0
  have kw := s.kw
  have lw := s.lw
  have ln := s.ln
  have n9 := s.n9
  unfold t_cleared_rows
  walk_at "rd"
  refine r_ixRow hA hW s.k0 fun r hr hpr => ?_
  have ek : (k : Int) + 1 = ((k + 1 : Nat) : Int) := by omega
  walk_at "rd"
  rw [ek]
  refine r_slL hA fun p1 H1 hp1 e1 h1 => ?_
  rw [cutV_to (by omega), Int.toNat_natCast, ← List.map_take] at h1
  have hW1 := hW.ex e1
  have hA1 := e1.l hA
  have hpr1 := e1 _ _ hpr
  have hmk : M.getD k [] ∈ M := by
    rw [List.getD_eq_getElem?_getD, List.getElem?_eq_getElem s.k0]
    exact List.getElem_mem s.k0
  have sT := s.sz _ hmk
  have hb9 : CDivA 0 b := ⟨s.b0, s.b9⟩
  generalize eT : M.getD k [] = T at hpr1 sT kw lw
  walk_at "rd"
  rw [ek]
  refine r_slL hA1 fun p2 H2 hp2 e2 h2 => ?_
  rw [cutV_from (by rw [List.length_map]; omega), ← List.map_drop] at h2
  have h1' := e2 _ _ h1
  have hD2 := rws_drop (k + 1) (hW1.ex e2)
  have hT2 := (hW1.ex e2).take (k + 1)
  have n1 : p1 ∉ ps.take (k + 1) := fun h => Rws.notin hp1 hW (List.mem_of_mem_take h)
  have n1d : p1 ∉ ps.drop (k + 1) := fun h => Rws.notin hp1 hW (List.mem_of_mem_drop h)
  have n12 : p2 ≠ p1 := fun z => by rw [z, h1] at hp2; cases hp2
  have hprt : H2 r = some (.lst (T.map V.int)) := e2 _ _ hpr1
  have nr : r ≠ p1 := fun z => by rw [z, hp1] at hpr; cases hpr
  walk_at "rd"
  refine loop_list (xs := (ps.drop (k + 1)).map V.ref) (fun i σ' H' => ∃ (qs : List Addr) (u5 : Option V), σ' = [some (.ref a), some (.int (k : Int)), some (.int b), some (.ref r), some (.ref p1), u5, none] ∧ Exb p1 H2 H' ∧ Ex H H' ∧ H' p1 = some (.lst ((ps.take (k + 1) ++ qs).map V.ref)) ∧ Rws H' qs (((M.drop (k + 1)).take i).map (MT.clrRow T k b)) ∧ p1 ∉ qs ∧ qs.length ≤ i) ⟨[], _, rfl, fun _ _ _ h => h, e1.trans e2, by rw [List.append_nil]; exact h1', trivial, (fun h => by cases h), Nat.le_refl _⟩ (fun i σ' H' _ hp => ?_) (fun i x σ' H' hx hp => ?_) (fun σ' H' hp => ?_)
  · obtain ⟨qs, u5, rfl, x1, _⟩ := hp
    exact SqL.inj (x1 _ n12 _ h2)
  · obtain ⟨qs, u5, rfl, x1, x2, x3, x4, x5, x6⟩ := hp
    rw [List.getElem?_map] at hx
    obtain ⟨p, hp, rfl⟩ := Option.map_eq_some_iff.mp hx
    obtain ⟨R, hR, hpR⟩ := hD2.get hp
    have hRM : R ∈ M := List.mem_of_mem_drop (List.mem_of_getElem? hR)
    have np : p ≠ p1 := fun z => n1d (by rw [← z]; exact List.mem_of_getElem? hp)
    have hpR' := x1 _ np _ hpR
    have hrT := x1 _ nr _ hprt
    have sR := s.sz R hRM
    have lR := s.wd R hRM
    rw [eT] at lR
    have hi : i < (ps.drop (k + 1)).length := (List.getElem?_eq_some_iff.mp hp).1
    rw [List.length_drop] at hi
    walk_at "rd"
    try rw [List.length_map]
    refine r_cRng1A (by omega) (by omega) ?_
    rw [Int.toNat_natCast]
    refine lc_rangeI (fun j => (ML.cf T k * ML.cf R j - ML.cf R k * ML.cf T j).fdiv b) (by omega) (fun j hj H3 e3 Q' k' => ?_) fun p3 H3 hp3 e3 h3 => ?_
    · have hT3 := e3 _ _ hrT
      have hR3 := e3 _ _ hpR'
      walk_at "rd"
      refine r_ixI (ns := T) (SqL.inj hT3) (by omega) (by omega) ?_
      walk_at "rd"
      refine r_ixI (ns := R) (SqL.inj hR3) (by omega) (by omega) ?_
      rw [Int.toNat_natCast, Int.toNat_natCast]
      refine r_mul (wide_mul (sT.cf k) (sR.cf j) s.n0 s.n0 (by omega)) ?_
      walk_at "rd"
      refine r_ixI (ns := R) (SqL.inj hR3) (by omega) (by omega) ?_
      walk_at "rd"
      refine r_ixI (ns := T) (SqL.inj hT3) (by omega) (by omega) ?_
      rw [Int.toNat_natCast, Int.toNat_natCast]
      refine r_mul (wide_mul (sR.cf k) (sT.cf j) s.n0 s.n0 (by omega)) ?_
      walk_at "rd"
      refine r_div hb9 ?_
      exact k' _ (Evl.Ex.refl _)
    have x3' := e3 _ _ x3
    have n3 : p3 ≠ p1 := fun z => by rw [z, x3] at hp3; cases hp3
    walk_at "rd"
    refine r_append x3' (by
      rw [List.length_map, List.length_append, List.length_take]
      exact small_lt (by omega)) fun H4 b4 h4 => ?_
    have fb : H p1 = none := hp1
    refine ⟨qs ++ [p3], _, rfl, (x1.ex e3).trans b4, Evl.Ex.mutb (x2.trans e3) b4 fb, by rw [h4, ← List.append_assoc, List.map_append (l₁ := ps.take (k + 1) ++ qs)]; rfl, ?_, ?_, by simp; omega⟩
    · rw [List.take_add_one, hR, List.map_append]
      exact Rws.append ((x4.ex e3).exb b4 x5) ⟨b4 _ n3 _ h3, trivial⟩
    · intro h
      rcases List.mem_append.mp h with h | h
      · exact x5 h
      · rw [List.mem_singleton] at h
        exact n3 h.symm
  · obtain ⟨qs, u5, rfl, x1, x2, x3, x4, x5, x6⟩ := hp
    walk_at "rd"
    have el : (ps.drop (k + 1)).length = (M.drop (k + 1)).length := by rw [List.length_drop, List.length_drop, hlen]
    rw [List.length_map, el, List.take_length] at x4
    refine q p1 H' (ps.take (k + 1) ++ qs) hp1 x2 x3 ?_ ?_
    · unfold MT.clrL
      rw [eT]
      exact Rws.append (hT2.exb x1 n1) x4
    · intro h
      rcases List.mem_append.mp h with h | h
      · exact n1 h
      · exact x5 h
theorem c_cleared_rows {a : Addr} {ps : List Addr} {M : List (List Int)} {k : Nat} {b : Int} (n : Nat) (hA : SqL K H a (ps.map V.ref)) (hW : Rws H ps M) (s : ClSz n M k b) (q : ∀ (D : Addr) (H' : Hp) (qs : List Addr), H D = none → Ex H H' → H' D = some (.lst (qs.map V.ref)) → Rws H' qs (MT.clrL M k b) → D ∉ qs → Q (.ref D) H') : sp_cleared_rows K Cof [.ref a, .int (k : Int), .int b] H Q E := ⟨a, ps, M, k, n, b, rfl, hA, hW, s, q⟩
end

/-! #### determinant -/
--USE MT RN MO
def sp_determinant (K : PySem.W.Frag) (Cof : String → Addr) : Sp := fun vs H Q _ => ∃ (a : Addr) (ps : List Addr) (M : List (List Int)), vs = [.ref a] ∧ SqL K H a (ps.map V.ref) ∧ Rws H ps M ∧ M.length ≤ 100000 ∧ detOk M.length 0 M 1 ∧ ∀ H', Ex H H' → Q (.int (MT.detL M)) H'
def t_determinant (K : PySem.W.Frag) (Cof : String → Addr) (E : XK) : TS :=
  tSeq (tAsg (tLc (iList K (tVar 0)) (gName 2) (tYes) (tCB (rListS K) (tCons (tVar 2) (tNil))) [2]) (gName 1))
  (tSeq (tAsg (tC (.int 1)) (gName 3))
  (tSeq (tAsg (tC (.int 1)) (gName 4))
  (tSeq (tFor (iRng1 (tCons (tCB (rLenS K) (tCons (tVar 0) (tNil))) (tNil))) (gName 5) (tSeq (tAsg (tCall (sp_pivot_at K Cof) [] E0 (tCons (tVar 1) (tCons (tVar 5) (tNil)))) (gName 6))
  (tSeq (tIfS (tTest (tOp rEq (tVar 6) (tCB (rLenS K) (tCons (tVar 0) (tNil))))) (tRet (tC (.int 0))) (tNext))
  (tCut (tIfS (tTest (tOp rGt (tVar 6) (tVar 5))) (tSeq (tAsg (tOp (rIxL K) (tVar 1) (tVar 5)) (gName 7))
  (tSeq (tAsg (tOp (rIxL K) (tVar 1) (tVar 6)) (gSub (tVar 1) (tVar 5) rSetL))
  (tSeq (tAsg (tVar 7) (gSub (tVar 1) (tVar 6) rSetL))
  (tAsg (tUn rNeg (tVar 3)) (gName 3))))) (tNext))
  (tSeq (tAsg (tCall (sp_cleared_rows K Cof) [] E0 (tCons (tVar 1) (tCons (tVar 5) (tCons (tVar 4) (tNil))))) (gName 1))
  (tAsg (tOp (rIxL K) (tOp (rIxL K) (tVar 1) (tVar 5)) (tVar 5)) (gName 4)))))))
  (tRet (tOp rMul (tVar 3) (tVar 4))))))

section
variable {K : PySem.W.Frag} {Cof : String → Addr} {vs : List V} {H : Hp} {Q : VK} {E : XK}
theorem len_determinant (h : sp_determinant K Cof vs H Q E) : vs.length = 1 := by
  obtain ⟨a, ps, M, rfl, _⟩ := h; rfl
theorem r_setRow {p r : Addr} {ps : List Addr} {i : Nat} {H : Hp} {Q : Hp → Prop} (h : H p = some (.lst (ps.map V.ref))) (hi : i < ps.length) (q : ∀ H', Exb p H H' → H' p = some (.lst ((ps.set i r).map V.ref)) → Q H') : rSetL (.ref p) (.int (i : Int)) (.ref r) H Q :=
  r_setL h (Evl.ixN_nat (by rw [List.length_map]; exact hi)) fun H' b h' => q H' b (by rw [h', List.map_set])
theorem rd_determinant (h : sp_determinant K Cof vs H Q E) : t_determinant K Cof E { nx := fun _ H' => Q .non H', rt := Q } (start ["rows", "left", "row", "sign", "before", "at", "k", "kept"] vs) H := by
  obtain ⟨a, ps, M, rfl, hA, hW, hl, hok, q⟩ := h
  have hlen := hW.len
  unfold t_determinant
  walk_at "rd"
  refine lc_rowsN (fun R => R) hA hW (by omega) (fun p R H1 hR hpR e1 Q' k' => ?_) fun D H1 qs hD e1 h1 hW1 hn1 => ?_
  · walk_at "rd"
    refine r_list (SqL.inj hpR) fun l H9 hl9 e9 h9 => ?_
    exact k' l H9 hl9 e9 h9
  rw [show M.map (fun R => R) = M from List.map_id' M] at hW1
  have hA1 := e1.l hA
  walk_at "rd"
  try rw [List.length_map]
  refine r_iRng1A (by omega) (by omega) ?_
  rw [Int.toNat_natCast, hlen]
  refine loop_range0 (fun k σ' H' => ∃ (D : Addr) (qs : List Addr) (M' : List (List Int)) (s b : Int) (u2 u5 u6 u7 : Option V), σ' = [some (.ref a), some (.ref D), u2, some (.int s), some (.int b), u5, u6, u7] ∧ Ex H H' ∧ H D = none ∧ H' D = some (.lst (qs.map V.ref)) ∧ Rws H' qs M' ∧ D ∉ qs ∧ M'.length = M.length ∧ k ≤ M.length ∧ detOk (M.length - k) k M' b ∧ MT.detG (M.length - k) k M' s b = MT.detL M ∧ (s = 1 ∨ s = -1)) ⟨D, qs, M, 1, 1, _, _, _, _, rfl, e1, hD, h1, hW1, hn1, rfl, Nat.zero_le _, hok, rfl, .inl rfl⟩ (fun k σ' H' hk hp' => ?_) (fun σ' H' hp' => ?_)
  · clear hD h1 hW1 hn1 hok e1 hA1
    obtain ⟨D, qs, M', s, b, u2, u5, u6, u7, rfl, e1, hD, h1, hW1, hn1, hM', _, hok, hdet, hs⟩ := hp'
    obtain ⟨r, hr⟩ : ∃ r, M.length - k = r + 1 := ⟨M.length - k - 1, by omega⟩
    have hr' : M.length - (k + 1) = r := by omega
    rw [hr] at hok hdet
    rw [hr']
    obtain ⟨hwd, hok⟩ := hok
    have hA1 := e1.l hA
    have hql := hW1.len
    walk_at "rd"
    refine c_pivot_at (SqL.inj h1) hW1 (by omega) (by omega) hwd ?_
    have hdet' : (if MT.pivL M' k = M'.length then 0 else MT.detG r (k + 1) (MT.clrL (MT.swp M' k) k b) (MT.sgn_ M' k s) (MT.at_ (MT.clrL (MT.swp M' k) k b) k k)) = MT.detL M := hdet
    walk_at "rd"
    try rw [List.length_map]
    refine ite_d (fun hz => ?_) (fun hz => ?_)
    · walk_at "rd"
      have hp0 : MT.pivL M' k = M'.length := by omega
      rw [if_pos hp0] at hdet'
      rw [hdet']
      exact q _ e1
    have hp0 : MT.pivL M' k ≠ M'.length := by omega
    have hpg := MT.pivL_ge M' k
    have hpl := MT.pivL_le (M := M') (k := k) (by omega)
    rw [if_neg hp0] at hdet'
    obtain ⟨⟨n, hcl⟩, hok⟩ := hok hp0
    walk_at "rd"
    refine ⟨fun σ2 H2 => ∃ (qs2 : List Addr) (v7 : Option V), σ2 = [some (.ref a), some (.ref D), u2, some (.int (MT.sgn_ M' k s)), some (.int b), some (.int (k : Int)), some (.int (MT.pivL M' k : Nat)), v7] ∧ Ex H H2 ∧ H2 D = some (.lst (qs2.map V.ref)) ∧ Rws H2 qs2 (MT.swp M' k) ∧ D ∉ qs2, ?_, fun σ2 H2 hM => ?_⟩
    · walk_at "rd"
      refine ite_d (fun hgt => ?_) (fun hgt => ?_)
      · have hgt' : MT.pivL M' k > k := by omega
        walk_at "rd"
        refine r_ixRow (SqL.inj h1) hW1 (i := k) (by omega) fun r1 hr1 hpr1 => ?_
        walk_at "rd"
        refine r_ixRow (SqL.inj h1) hW1 (i := MT.pivL M' k) (by omega) fun r2 hr2 hpr2 => ?_
        have m1 := List.mem_of_getElem? hr1
        have m2 := List.mem_of_getElem? hr2
        walk_at "rd"
        refine r_setRow h1 (by omega) fun H3 b3 h3 => ?_
        walk_at "rd"
        refine r_setRow h3 (by rw [List.length_set]; omega) fun H4 b4 h4 => ?_
        walk_at "rd"
        have b34 := b3.trans b4
        have nd1 : r1 ≠ D := fun z => hn1 (by rw [← z]; exact m1)
        have nd2 : r2 ≠ D := fun z => hn1 (by rw [← z]; exact m2)
        refine ⟨_, some (.ref r1), ?_, Evl.Ex.mutb e1 b34 hD, h4, ?_, ?_⟩
        · unfold MT.sgn_; rw [if_pos hgt']; rfl
        · unfold MT.swp
          rw [if_pos hgt']
          unfold MT.swapL
          exact Rws.set (b34 _ nd1 _ hpr1) _ (Rws.set (b34 _ nd2 _ hpr2) _ (hW1.exb b34 hn1))
        · intro h
          rcases List.mem_or_eq_of_mem_set h with h | h
          · rcases List.mem_or_eq_of_mem_set h with h | h
            · exact hn1 h
            · exact nd2 h.symm
          · exact nd1 h.symm
      · walk_at "rd"
        have hgt' : ¬ MT.pivL M' k > k := by omega
        refine ⟨qs, u7, ?_, e1, h1, ?_, hn1⟩
        · unfold MT.sgn_; rw [if_neg hgt']; rfl
        · unfold MT.swp; rw [if_neg hgt']; exact hW1
    obtain ⟨qs2, v7, rfl, e2, h2, hW2, hn2⟩ := hM
    walk_at "rd"
    refine c_cleared_rows n (SqL.inj h2) hW2 hcl fun D2 H3 qs3 hD2 e3 h3 hW3 hn3 => ?_
    have lcl : (MT.clrL (MT.swp M' k) k b).length = M.length := by rw [MT.clrL_len, MT.swp_len, hM']
    walk_at "rd"
    refine r_ixRow (SqL.inj h3) hW3 (i := k) (by omega) fun r1 hr1 hpr1 => ?_
    walk_at "rd"
    have hkw : k < ((MT.clrL (MT.swp M' k) k b).getD k []).length := by
      have hk0 := hcl.k0
      have e : (MT.clrL (MT.swp M' k) k b).getD k [] = (MT.swp M' k).getD k [] := by
        unfold MT.clrL
        rw [List.getD_eq_getElem?_getD, List.getD_eq_getElem?_getD, List.getElem?_append_left (by rw [List.length_take]; omega), List.getElem?_take, if_pos (by omega)]
      rw [e]; exact hcl.kw
    refine r_ixI (SqL.inj hpr1) (by omega) (by omega) ?_
    rw [Int.toNat_natCast]
    walk_at "rd"
    refine ⟨D2, qs3, MT.clrL (MT.swp M' k) k b, MT.sgn_ M' k s, MT.at_ (MT.clrL (MT.swp M' k) k b) k k, _, _, _, _, rfl, e2.trans e3, Evl.fresh_back e2 hD2, h3, hW3, hn3, lcl, by omega, hok, hdet', ?_⟩
    unfold MT.sgn_
    split <;> omega
  · obtain ⟨D, qs, M', s, b, u2, u5, u6, u7, rfl, e1, hD, h1, hW1, hn1, hM', _, hok, hdet, hs⟩ := hp'
    rw [Nat.sub_self] at hok hdet
    obtain ⟨n, n0, n9, hb⟩ := hok
    have hs' : s.natAbs < 2 ^ 1 := by omega
    walk_at "rd"
    refine r_mul (wide_mul hs' hb (by decide) n0 (by omega)) ?_
    have e : s * b = MT.detL M := hdet
    rw [e]
    exact q _ e1
theorem c_determinant {a : Addr} {ps : List Addr} {M : List (List Int)} (hA : SqL K H a (ps.map V.ref)) (hW : Rws H ps M) (hl : M.length ≤ 100000) (hok : detOk M.length 0 M 1) (q : ∀ H', Ex H H' → Q (.int (MT.detL M)) H') : sp_determinant K Cof [.ref a] H Q E := ⟨a, ps, M, rfl, hA, hW, hl, hok, q⟩
end

/-! #### sylvester_rows -/
--USE DV RN RV
def sp_sylvester_rows (K : PySem.W.Frag) (Cof : String → Addr) : Sp := fun vs H Q _ => ∃ (a b : Addr) (P R : List Int), vs = [.ref a, .ref b] ∧ SqL K H a (P.map V.int) ∧ SqL K H b (R.map V.int) ∧ (P ≠ [] ∧ R ≠ [] ∧ P.length ≤ 1000 ∧ R.length ≤ 1000) ∧
  ∀ (D : Addr) (H' : Hp) (ps : List Addr), H D = none → Ex H H' → H' D = some (.lst (ps.map V.ref)) → Rws H' ps (DT.sylL P R) → Q (.ref D) H'
def t_sylvester_rows (K : PySem.W.Frag) (Cof : String → Addr) (E : XK) : TS :=
  tSeq (tAsg (tOp rISub (tCB (rLenS K) (tCons (tVar 0) (tNil))) (tC (.int 1))) (gName 2))
  (tSeq (tAsg (tOp rISub (tCB (rLenS K) (tCons (tVar 1) (tNil))) (tC (.int 1))) (gName 3))
  (tSeq (tAsg (tLst (tNil)) (gName 4))
  (tSeq (tFor (iRng1 (tCons (tVar 3) (tNil))) (gName 5) (tDrop (tBM K "list" rAppend (tVar 4) (tCons (tOp rCat (tOp rCat (tOp rRep (tLst (tCons (tC (.int 0)) (tNil))) (tVar 5)) (tListRev K (tCons (tVar 0) (tNil)))) (tOp rRep (tLst (tCons (tC (.int 0)) (tNil))) (tOp rISub (tOp rISub (tVar 3) (tC (.int 1))) (tVar 5)))) (tNil)))))
  (tSeq (tFor (iRng1 (tCons (tVar 2) (tNil))) (gName 5) (tDrop (tBM K "list" rAppend (tVar 4) (tCons (tOp rCat (tOp rCat (tOp rRep (tLst (tCons (tC (.int 0)) (tNil))) (tVar 5)) (tListRev K (tCons (tVar 1) (tNil)))) (tOp rRep (tLst (tCons (tC (.int 0)) (tNil))) (tOp rISub (tOp rISub (tVar 2) (tC (.int 1))) (tVar 5)))) (tNil)))))
  (tRet (tVar 4))))))

section
variable {K : PySem.W.Frag} {Cof : String → Addr} {vs : List V} {H : Hp} {Q : VK} {E : XK}
theorem len_sylvester_rows (h : sp_sylvester_rows K Cof vs H Q E) : vs.length = 2 := by
  obtain ⟨a, b, P, R, rfl, _⟩ := h; rfl
theorem sylR_take (n : Nat) (P : List Int) {k : Nat} (hk : k < n) : (DT.sylR n P).take (k + 1) = (DT.sylR n P).take k ++ [DT.sylRow k (n - 1 - k) P] := by
  unfold DT.sylR
  rw [← List.map_take, ← List.map_take, List.take_range, List.take_range, Nat.min_eq_left (by omega), Nat.min_eq_left (by omega), List.range_succ, List.map_append]; rfl
theorem rd_sylvester_rows (h : sp_sylvester_rows K Cof vs H Q E) : t_sylvester_rows K Cof E { nx := fun _ H' => Q .non H', rt := Q } (start ["P", "Q", "m", "n", "rows", "k"] vs) H := by
  obtain ⟨a, b, P, R, rfl, hA, hB, ⟨hP, hR, lP9, lR9⟩, q⟩ := h
  have lP := List.length_pos_iff.mpr hP
  have lR := List.length_pos_iff.mpr hR
  unfold t_sylvester_rows
  have em : (P.length : Int) - 1 = ((P.length - 1 : Nat) : Int) := by omega
  have en : (R.length : Int) - 1 = ((R.length - 1 : Nat) : Int) := by omega
  walk_at "rd"
  refine r_lstK fun D H1 hD e1 h1 => ?_
  rw [em, en]
  walk_at "rd"
  refine r_iRng1A (by omega) (by omega) ?_
  rw [Int.toNat_natCast]
  refine loop_range0 (fun k σ' H' => ∃ (ps : List Addr) (u5 : Option V), σ' = [some (.ref a), some (.ref b), some (.int ((P.length - 1 : Nat) : Int)), some (.int ((R.length - 1 : Nat) : Int)), some (.ref D), u5] ∧ Ex H H' ∧ H' D = some (.lst (ps.map V.ref)) ∧ Rws H' ps ((DT.sylR (R.length - 1) P).take k) ∧ D ∉ ps) ⟨[], _, rfl, e1, h1, trivial, (fun h => by cases h)⟩ (fun k σ' H' hk hp' => ?_) (fun σ' H' hp' => ?_)
  · clear h1 e1
    obtain ⟨ps, u5, rfl, e1, h1, hW, hn1⟩ := hp'
    have hlen := hW.len
    rw [List.length_take, DT.sylR_len] at hlen
    have hA1 := e1.l hA
    walk_at "rd"
    refine r_lstK fun p1 H2 hp1 e2 h2 => ?_
    walk_at "rd"
    refine r_rep1 h2 (by omega) fun p2 H3 hp2 e3 h3 => ?_
    rw [Int.toNat_natCast] at h3
    have h3' : H3 p2 = some (.lst ((List.replicate k (0 : Int)).map V.int)) := by rw [List.map_replicate]; exact h3
    have hA3 := e3.l (e2.l hA1)
    walk_at "rd"
    refine r_listRev ?_
    walk_at "rd"
    refine r_listRevA hA3 fun p3 H4 hp3 e4 h4 => ?_
    walk_at "rd"
    refine r_catI (e4 _ _ h3') h4 (by rw [List.length_replicate, List.length_reverse]; omega) fun p4 H5 hp4 e5 h5 => ?_
    walk_at "rd"
    refine r_lstK fun p5 H6 hp5 e6 h6 => ?_
    walk_at "rd"
    have ek : (((R.length - 1 : Nat) : Int) - 1 - (k : Int)).toNat = R.length - 1 - 1 - k := by omega
    refine r_rep1 h6 (by omega) fun p6 H7 hp6 e7 h7 => ?_
    rw [ek] at h7
    have h7' : H7 p6 = some (.lst ((List.replicate (R.length - 1 - 1 - k) (0 : Int)).map V.int)) := by rw [List.map_replicate]; exact h7
    walk_at "rd"
    refine r_catI (e7 _ _ (e6 _ _ h5)) h7' (by simp only [List.length_append, List.length_replicate, List.length_reverse]; omega) fun p7 H8 hp7 e8 h8 => ?_
    have e27 := ((((e2.trans e3).trans e4).trans e5).trans e6).trans e7
    have e28 := e27.trans e8
    walk_at "rd"
    refine r_append (e28 _ _ h1) (by rw [List.length_map]; exact small_lt (by omega)) fun H9 b9 h9 => ?_
    walk_at "rd"
    have nD : p7 ≠ D := fun z => by
      have := e27 _ _ h1
      rw [z, this] at hp7; cases hp7
    refine ⟨ps ++ [p7], _, rfl, Evl.Ex.mutb (e1.trans e28) b9 hD, by rw [List.map_append]; exact h9, ?_, ?_⟩
    · rw [sylR_take _ _ hk]
      exact Rws.append ((hW.ex e28).exb b9 hn1) ⟨b9 _ nD _ h8, trivial⟩
    · intro h
      rcases List.mem_append.mp h with h | h
      · exact hn1 h
      · exact nD (List.mem_singleton.mp h).symm
  clear h1 e1
  obtain ⟨ps0, u5, rfl, e1, h1, hW0, hn1⟩ := hp'
  rw [List.take_of_length_le (by rw [DT.sylR_len]; exact Nat.le_refl _)] at hW0
  walk_at "rd"
  refine r_iRng1A (by omega) (by omega) ?_
  rw [Int.toNat_natCast]
  refine loop_range0 (fun k σ' H' => ∃ (ps : List Addr) (u5 : Option V), σ' = [some (.ref a), some (.ref b), some (.int ((P.length - 1 : Nat) : Int)), some (.int ((R.length - 1 : Nat) : Int)), some (.ref D), u5] ∧ Ex H H' ∧ H' D = some (.lst (ps.map V.ref)) ∧ Rws H' ps (DT.sylR (R.length - 1) P ++ (DT.sylR (P.length - 1) R).take k) ∧ D ∉ ps) ⟨ps0, _, rfl, e1, h1, by rw [List.take_zero, List.append_nil]; exact hW0, hn1⟩ (fun k σ' H' hk hp' => ?_) (fun σ' H' hp' => ?_)
  · clear h1 e1 hn1 hW0
    obtain ⟨ps, u5, rfl, e1, h1, hW, hn1⟩ := hp'
    have hlen := hW.len
    rw [List.length_append, List.length_take, DT.sylR_len, DT.sylR_len] at hlen
    have hA1 := e1.l hB
    walk_at "rd"
    refine r_lstK fun p1 H2 hp1 e2 h2 => ?_
    walk_at "rd"
    refine r_rep1 h2 (by omega) fun p2 H3 hp2 e3 h3 => ?_
    rw [Int.toNat_natCast] at h3
    have h3' : H3 p2 = some (.lst ((List.replicate k (0 : Int)).map V.int)) := by rw [List.map_replicate]; exact h3
    have hA3 := e3.l (e2.l hA1)
    walk_at "rd"
    refine r_listRev ?_
    walk_at "rd"
    refine r_listRevA hA3 fun p3 H4 hp3 e4 h4 => ?_
    walk_at "rd"
    refine r_catI (e4 _ _ h3') h4 (by rw [List.length_replicate, List.length_reverse]; omega) fun p4 H5 hp4 e5 h5 => ?_
    walk_at "rd"
    refine r_lstK fun p5 H6 hp5 e6 h6 => ?_
    walk_at "rd"
    have ek : (((P.length - 1 : Nat) : Int) - 1 - (k : Int)).toNat = P.length - 1 - 1 - k := by omega
    refine r_rep1 h6 (by omega) fun p6 H7 hp6 e7 h7 => ?_
    rw [ek] at h7
    have h7' : H7 p6 = some (.lst ((List.replicate (P.length - 1 - 1 - k) (0 : Int)).map V.int)) := by rw [List.map_replicate]; exact h7
    walk_at "rd"
    refine r_catI (e7 _ _ (e6 _ _ h5)) h7' (by simp only [List.length_append, List.length_replicate, List.length_reverse]; omega) fun p7 H8 hp7 e8 h8 => ?_
    have e27 := ((((e2.trans e3).trans e4).trans e5).trans e6).trans e7
    have e28 := e27.trans e8
    walk_at "rd"
    refine r_append (e28 _ _ h1) (by rw [List.length_map]; exact small_lt (by omega)) fun H9 b9 h9 => ?_
    walk_at "rd"
    have nD : p7 ≠ D := fun z => by
      have := e27 _ _ h1
      rw [z, this] at hp7; cases hp7
    refine ⟨ps ++ [p7], _, rfl, Evl.Ex.mutb (e1.trans e28) b9 hD, by rw [List.map_append]; exact h9, ?_, ?_⟩
    · rw [sylR_take _ _ hk, ← List.append_assoc]
      exact Rws.append ((hW.ex e28).exb b9 hn1) ⟨b9 _ nD _ h8, trivial⟩
    · intro h
      rcases List.mem_append.mp h with h | h
      · exact hn1 h
      · exact nD (List.mem_singleton.mp h).symm
  · obtain ⟨ps, u5, rfl, e1, h1, hW, hn1⟩ := hp'
    rw [List.take_of_length_le (by rw [DT.sylR_len]; exact Nat.le_refl _)] at hW
    walk_at "rd"
    exact q _ _ _ hD e1 h1 hW
theorem c_sylvester_rows {a b : Addr} {P R : List Int} (hA : SqL K H a (P.map V.int)) (hB : SqL K H b (R.map V.int)) (hs : P ≠ [] ∧ R ≠ [] ∧ P.length ≤ 1000 ∧ R.length ≤ 1000) (q : ∀ (D : Addr) (H' : Hp) (ps : List Addr), H D = none → Ex H H' → H' D = some (.lst (ps.map V.ref)) → Rws H' ps (DT.sylL P R) → Q (.ref D) H') : sp_sylvester_rows K Cof [.ref a, .ref b] H Q E := ⟨a, b, P, R, rfl, hA, hB, hs, q⟩
end

/-! #### resultant -/
--USE DV RN
def sp_resultant (K : PySem.W.Frag) (Cof : String → Addr) : Sp := fun vs H Q _ => ∃ (a b : Addr) (P R : List Int), vs = [.ref a, .ref b] ∧ SqL K H a (P.map V.int) ∧ SqL K H b (R.map V.int) ∧ (P ≠ [] → R ≠ [] → ∃ bP bR, DT.ResOk P R bP bR) ∧ ∀ H', Ex H H' → Q (.int (DT.resL P R)) H'
def t_resultant (K : PySem.W.Frag) (Cof : String → Addr) (E : XK) : TS :=
  tSeq (tIfS (tOr (tTest (tOp (rEqD K) (tVar 0) (tLst (tNil)))) (tTest (tOp (rEqD K) (tVar 1) (tLst (tNil))))) (tRet (tC (.int 0))) (tNext))
  (tRet (tCall (sp_determinant K Cof) [] E0 (tCons (tCall (sp_sylvester_rows K Cof) [] E0 (tCons (tVar 0) (tCons (tVar 1) (tNil)))) (tNil))))

section
variable {K : PySem.W.Frag} {Cof : String → Addr} {vs : List V} {H : Hp} {Q : VK} {E : XK}
theorem len_resultant (h : sp_resultant K Cof vs H Q E) : vs.length = 2 := by
  obtain ⟨a, b, P, R, rfl, _⟩ := h; rfl
theorem rd_resultant (h : sp_resultant K Cof vs H Q E) : t_resultant K Cof E { nx := fun _ H' => Q .non H', rt := Q } (start ["P", "Q"] vs) H := by
  obtain ⟨a, b, P, R, rfl, hA, hB, ok, q⟩ := h
  unfold t_resultant
  walk_at "rd"
  refine r_lstK fun p1 H1 hp1 e1 h1 => ?_
  have hA1 := e1.l hA
  have hB1 := e1.l hB
  walk_at "rd"
  refine r_eqInts (ns := P) (ms := []) hA1 (SqL.inj h1) ?_
  walk_at "rd"
  refine ite_d (fun h0 => ?_) (fun h0 => ?_)
  · walk_at "rd"
    have : DT.resL P R = 0 := by unfold DT.resL; rw [if_pos (.inl h0)]
    rw [← this]
    exact q _ e1
  walk_at "rd"
  refine r_lstK fun p2 H2 hp2 e2 h2 => ?_
  have hA2 := e2.l hA1
  have hB2 := e2.l hB1
  walk_at "rd"
  refine r_eqInts (ns := R) (ms := []) hB2 (SqL.inj h2) ?_
  walk_at "rd"
  refine ite_d (fun h3 => ?_) (fun h3 => ?_)
  · walk_at "rd"
    have : DT.resL P R = 0 := by unfold DT.resL; rw [if_pos (.inr h3)]
    rw [← this]
    exact q _ (e1.trans e2)
  walk_at "rd"
  obtain ⟨bP, bR, ok⟩ := ok h0 h3
  have n9 := ok.n9
  have lP := List.length_pos_iff.mpr h0
  have lR := List.length_pos_iff.mpr h3
  refine c_sylvester_rows hA2 hB2 ⟨h0, h3, by omega, by omega⟩ fun D H3 ps hD e3 h4 hW => ?_
  walk_at "rd"
  obtain ⟨o1, o2⟩ := ok.ok h0 h3
  refine c_determinant (SqL.inj h4) hW (by unfold DT.sylL; rw [List.length_append, DT.sylR_len, DT.sylR_len]; omega) o1 fun H4 e4 => ?_
  rw [o2]
  exact q _ (((e1.trans e2).trans e3).trans e4)
theorem c_resultant {a b : Addr} {P R : List Int} (hA : SqL K H a (P.map V.int)) (hB : SqL K H b (R.map V.int)) (ok : P ≠ [] → R ≠ [] → ∃ bP bR, DT.ResOk P R bP bR) (q : ∀ H', Ex H H' → Q (.int (DT.resL P R)) H') : sp_resultant K Cof [.ref a, .ref b] H Q E := ⟨a, b, P, R, rfl, hA, hB, ok, q⟩
end

/-! #### _law_cell_at -/
/-- the k-th cell, 0 beyond the last one -/
def cellOf (ns : List Int) (k : Int) : Int := ns.getD k.toNat 0
def sp__law_cell_at (K : PySem.W.Frag) (Cof : String → Addr) : Sp := fun vs H Q _ => ∃ (a : Addr) (ns : List Int) (k : Int), vs = [.ref a, .int k] ∧ SqL K H a (ns.map V.int) ∧ 0 ≤ k ∧ Q (.int (cellOf ns k)) H
def t__law_cell_at (K : PySem.W.Frag) (Cof : String → Addr) (E : XK) : TS :=
  tSeq (tIfS (tTest (tOp rLt (tVar 1) (tCB (rLenS K) (tCons (tVar 0) (tNil))))) (tRet (tOp (rIxL K) (tVar 0) (tVar 1))) (tNext))
  (tRet (tC (.int 0)))

section
variable {K : PySem.W.Frag} {Cof : String → Addr} {vs : List V} {H : Hp} {Q : VK} {E : XK}
theorem len__law_cell_at (h : sp__law_cell_at K Cof vs H Q E) : vs.length = 2 := by
  obtain ⟨a, ns, k, rfl, _⟩ := h; rfl
theorem rd__law_cell_at (h : sp__law_cell_at K Cof vs H Q E) : t__law_cell_at K Cof E { nx := fun _ H' => Q .non H', rt := Q } (start ["_law_script", "_law_k"] vs) H := by
  obtain ⟨a, ns, k, rfl, hS, h0, q⟩ := h
  obtain ⟨k, rfl⟩ : ∃ n : Nat, k = (n : Int) := ⟨k.toNat, by omega⟩
  unfold t__law_cell_at
  walk_at "rd"
  try rw [List.length_map]
  refine ite_d (fun h => ?_) (fun h => ?_)
  · walk_at "rd"
    have hk : k < ns.length := by omega
    exact r_ixI hS h0 h q
  · walk_at "rd"
    have e : cellOf ns k = 0 := by
      unfold cellOf
      rw [List.getD_eq_getElem?_getD, List.getElem?_eq_none (by omega)]; rfl
    rw [e] at q
    exact q
theorem c__law_cell_at {a : Addr} {ns : List Int} {k : Int} (h : SqL K H a (ns.map V.int)) (h0 : 0 ≤ k) (q : Q (.int (cellOf ns k)) H) : sp__law_cell_at K Cof [.ref a, .int k] H Q E := ⟨a, ns, k, rfl, h, h0, q⟩
end
local macro_rules | `(tactic| walk_at "call") => `(tactic| ((with_reducible refine' c__law_cell_at ?h ?h0 ?_); (case h => walk_at "sq"); (case h0 => first | decide | omega)))

/-! #### _law_whole -/
def sp__law_whole (K : PySem.W.Frag) (Cof : String → Addr) : Sp := fun vs H Q _ => ∃ i : Int, vs = [.int i] ∧ Q (.bl true) H
def t__law_whole (K : PySem.W.Frag) (Cof : String → Addr) (E : XK) : TS :=
  tRet (tAndV (tCB (rIsi K) (tCons (tVar 0) (tCons (tC (.ty "int")) (tNil)))) (tNotV (tCB (rIsi K) (tCons (tVar 0) (tCons (tC (.ty "bool")) (tNil))))))

section
variable {K : PySem.W.Frag} {Cof : String → Addr} {vs : List V} {H : Hp} {Q : VK} {E : XK}
theorem len__law_whole (h : sp__law_whole K Cof vs H Q E) : vs.length = 1 := by
  obtain ⟨i, rfl, _⟩ := h; rfl
theorem rd__law_whole (h : sp__law_whole K Cof vs H Q E) : t__law_whole K Cof E { nx := fun _ H' => Q .non H', rt := Q } (start ["_law_found"] vs) H := by
  obtain ⟨i, rfl, q⟩ := h
  unfold t__law_whole
  walk_at "rd"
  refine r_isi (.base (.int i)) (.ty _) (kit_ty (r := true) (by decide +kernel)) ?_
  walk_at "rd"
  refine r_isi (.base (.int i)) (.ty _) (kit_ty (r := false) (by decide +kernel)) ?_
  walk_at "rd"
  exact q
end
theorem c__law_whole {K : PySem.W.Frag} {Cof : String → Addr} {H : Hp} {Q : VK} {E : XK} {i : Int} (q : Q (.bl true) H) : sp__law_whole K Cof [.int i] H Q E := ⟨i, rfl, q⟩
local macro_rules | `(tactic| walk_at "call") => `(tactic| with_reducible refine c__law_whole ?_)

/-! #### _law_number -/
def numF (c i : Int) : Int := if c.fmod 2 = 1 then (c.fdiv 2).fmod (2 * 1000000000000 + 1) - 1000000000000 else (c.fdiv 2 + i * i).fmod 11 - 5
theorem numF_lt (c i : Int) : (numF c i).natAbs < 2 ^ 41 := by
  unfold numF
  split
  · have d0 := Int.fmod_nonneg_of_pos (c.fdiv 2) (show (0 : Int) < 2 * 1000000000000 + 1 by decide)
    have d1 := Int.fmod_lt_of_pos (c.fdiv 2) (show (0 : Int) < 2 * 1000000000000 + 1 by decide)
    omega
  · have d0 := Int.fmod_nonneg_of_pos (c.fdiv 2 + i * i) (show (0 : Int) < 11 by decide)
    have d1 := Int.fmod_lt_of_pos (c.fdiv 2 + i * i) (show (0 : Int) < 11 by decide)
    omega
def sp__law_number (K : PySem.W.Frag) (Cof : String → Addr) : Sp := fun vs H Q _ => ∃ c i : Int, vs = [.int c, .int i] ∧ i.natAbs < 2 ^ 40 ∧ Q (.int (numF c i)) H
def t__law_number (K : PySem.W.Frag) (Cof : String → Addr) (E : XK) : TS :=
  tSeq (tIfS (tTest (tOp rEq (tOp rMod (tVar 0) (tC (.int 2))) (tC (.int 1)))) (tRet (tOp rISub (tOp rMod (tOp rDiv (tVar 0) (tC (.int 2))) (tOp rIAdd (tOp rMul (tC (.int 2)) (tOp rPow (tC (.int 10)) (tC (.int 12)))) (tC (.int 1)))) (tOp rPow (tC (.int 10)) (tC (.int 12))))) (tNext))
  (tRet (tOp rISub (tOp rMod (tOp rIAdd (tOp rDiv (tVar 0) (tC (.int 2))) (tOp rMul (tVar 1) (tVar 1))) (tC (.int 11))) (tC (.int 5))))

section
variable {K : PySem.W.Frag} {Cof : String → Addr} {vs : List V} {H : Hp} {Q : VK} {E : XK}
theorem len__law_number (h : sp__law_number K Cof vs H Q E) : vs.length = 2 := by
  obtain ⟨c, i, rfl, _⟩ := h; rfl
theorem rd__law_number (h : sp__law_number K Cof vs H Q E) : t__law_number K Cof E { nx := fun _ H' => Q .non H', rt := Q } (start ["_law_cell", "_law_at"] vs) H := by
  obtain ⟨c, i, rfl, hi, q⟩ := h
  unfold t__law_number
  have e12 : (10 : Int) ^ (12 : Int).toNat = 1000000000000 := by decide
  walk_at "rd"
  refine ite_d (fun h => ?_) (fun h => ?_)
  · walk_at "rd"
    refine r_mul (wide_mul (a := 2) (b := 41) (by decide) (by decide) (by decide) (by decide) (by decide)) ?_
    walk_at "rd"
    rw [e12]
    unfold numF at q
    rw [if_pos h] at q
    exact q
  · walk_at "rd"
    refine r_mul (wide_mul hi hi (by decide) (by decide) (by decide)) ?_
    walk_at "rd"
    unfold numF at q
    rw [if_neg h] at q
    exact q
theorem c__law_number {c i : Int} (hi : i.natAbs < 2 ^ 40) (q : Q (.int (numF c i)) H) : sp__law_number K Cof [.int c, .int i] H Q E := ⟨c, i, rfl, hi, q⟩
end

/-! #### _law_drawn -/
--USE ML RU
/-- a drawn list: so long, the last one not 0 -/
structure Drawn (n : Nat) (P : List Int) : Prop where
  ln : P.length = n + 1
  sz : ML.Sz 41 P
  top : ML.cf P n ≠ 0
def sp__law_drawn (K : PySem.W.Frag) (Cof : String → Addr) : Sp := fun vs H Q _ => ∃ (a : Addr) (ns : List Int) (i : Int) (n : Nat), vs = [.ref a, .int i, .int (n : Int)] ∧ SqL K H a (ns.map V.int) ∧ 0 ≤ i ∧ n ≤ 1000 ∧ ∀ P, Drawn n P → RetI P H Q
def t__law_drawn (K : PySem.W.Frag) (Cof : String → Addr) (E : XK) : TS :=
  tSeq (tAsg (tLc (iRng1 (tCons (tOp rIAdd (tVar 2) (tC (.int 1))) (tNil))) (gName 4) (tYes) (tCall (sp__law_number K Cof) [] E0 (tCons (tCall (sp__law_cell_at K Cof) [] E0 (tCons (tVar 0) (tCons (tOp rIAdd (tVar 1) (tVar 4)) (tNil)))) (tCons (tVar 4) (tNil)))) [4]) (gName 3))
  (tCut (tIfS (tTest (tOp rEq (tOp (rIxL K) (tVar 3) (tVar 2)) (tC (.int 0)))) (tAsg (tOp rISub (tC (.int 1)) (tOp rMul (tC (.int 2)) (tOp rMod (tVar 2) (tC (.int 2))))) (gSub (tVar 3) (tVar 2) rSetL)) (tNext))
  (tRet (tVar 3)))

section
variable {K : PySem.W.Frag} {Cof : String → Addr} {vs : List V} {H : Hp} {Q : VK} {E : XK}
theorem len__law_drawn (h : sp__law_drawn K Cof vs H Q E) : vs.length = 3 := by
  obtain ⟨a, ns, i, n, rfl, _⟩ := h; rfl
theorem rd__law_drawn (h : sp__law_drawn K Cof vs H Q E) : t__law_drawn K Cof E { nx := fun _ H' => Q .non H', rt := Q } (start ["_law_script", "_law_at", "_law_size", "_law_row", "_law_k"] vs) H := by
  obtain ⟨a, ns, i, n, rfl, hA, hi, hn, q⟩ := h
  unfold t__law_drawn
  walk_at "rd"
  refine r_cRng1A (by omega) (by omega) ?_
  rw [show ((n : Int) + 1).toNat = n + 1 by omega]
  refine lc_rangeI (fun j => numF (cellOf ns (i + (j : Int))) (j : Int)) (by omega) (fun j hj H1 e1 Q' k' => ?_) fun p1 H1 hp1 e1 h1 => ?_
  · have hS1 := e1.l hA
    walk_at "rd"
    refine c__law_number (by omega) ?_
    exact k' _ (Evl.Ex.refl _)
  obtain ⟨P, eP, lP, sP⟩ : ∃ P : List Int, (List.range (n + 1)).map (fun j : Nat => numF (cellOf ns (i + (j : Int))) (j : Int)) = P ∧ P.length = n + 1 ∧ ML.Sz 41 P := by
    refine ⟨_, rfl, by rw [List.length_map, List.length_range], fun z hz => ?_⟩
    obtain ⟨j, _, rfl⟩ := List.mem_map.mp hz
    exact numF_lt _ _
  rw [eP] at h1
  walk_at "rd"
  refine ⟨fun σ' H' => ∃ P : List Int, σ' = [some (.ref a), some (.int i), some (.int (n : Int)), some (.ref p1), none] ∧ Ex H H' ∧ H' p1 = some (.lst (P.map V.int)) ∧ Drawn n P, ?_, fun σ' H' hM => ?_⟩
  · walk_at "rd"
    refine r_ixI (ns := P) (SqL.inj h1) (by omega) (by omega) ?_
    rw [Int.toNat_natCast]
    walk_at "rd"
    refine ite_d (fun _ => ?_) (fun h0 => ?_)
    · walk_at "rd"
      have t0 := Int.fmod_nonneg_of_pos (n : Int) (show (0 : Int) < 2 by decide)
      have t1 := Int.fmod_lt_of_pos (n : Int) (show (0 : Int) < 2 by decide)
      refine r_mul (wide_mul (a := 2) (b := 2) (by decide) (by omega) (by decide) (by decide) (by decide)) ?_
      walk_at "rd"
      refine r_setL (p := p1) (xs := P.map V.int) h1 (Evl.ixN_nat (by rw [List.length_map]; omega)) fun H4 b4 h5 => ?_
      have hv : (1 - 2 * (n : Int).fmod 2).natAbs < 2 ^ 41 ∧ (1 - 2 * (n : Int).fmod 2) ≠ 0 := by omega
      generalize (1 - 2 * (n : Int).fmod 2) = v at hv h5
      refine ⟨P.set n v, rfl, Evl.Ex.mutb e1 b4 hp1, by rw [List.map_set]; exact h5, by rw [List.length_set]; exact lP, fun z hz => ?_, ?_⟩
      · rcases List.mem_or_eq_of_mem_set hz with hz | rfl
        · exact sP z hz
        · exact hv.1
      · rw [show ML.cf (P.set n v) n = v from ML.cf_some (by rw [List.getElem?_set_self (by omega)])]
        exact hv.2
    · walk_at "rd"
      exact ⟨P, rfl, e1, h1, lP, sP, h0⟩
  obtain ⟨P, rfl, e2, h2, d⟩ := hM
  walk_at "rd"
  exact q P d p1 H' hp1 e2 h2
theorem c__law_drawn {a : Addr} {ns : List Int} {i : Int} {n : Nat} (hA : SqL K H a (ns.map V.int)) (hi : 0 ≤ i) (hn : n ≤ 1000) (q : ∀ P, Drawn n P → ∀ p H', H p = none → Ex H H' → H' p = some (.lst (P.map V.int)) → Q (.ref p) H') : sp__law_drawn K Cof [.ref a, .int i, .int (n : Int)] H Q E := ⟨a, ns, i, n, rfl, hA, hi, hn, q⟩
end

/-! #### _law_product -/
--USE ML
def sp__law_product (K : PySem.W.Frag) (Cof : String → Addr) : Sp := fun vs H Q _ => ∃ (a b : Addr) (P R : List Int) (n m : Nat), vs = [.ref a, .ref b] ∧ SqL K H a (P.map V.int) ∧ SqL K H b (R.map V.int) ∧ (P ≠ [] ∧ R ≠ [] ∧ P.length ≤ 1000 ∧ R.length ≤ 1000) ∧ ML.Sz n P ∧ ML.Sz m R ∧ (0 < n ∧ 0 < m ∧ n + m ≤ 100000) ∧ RetI (ML.mulU P R) H Q
def t__law_product (K : PySem.W.Frag) (Cof : String → Addr) (E : XK) : TS :=
  tSeq (tAsg (tOp rRep (tLst (tCons (tC (.int 0)) (tNil))) (tOp rISub (tOp rIAdd (tCB (rLenS K) (tCons (tVar 0) (tNil))) (tCB (rLenS K) (tCons (tVar 1) (tNil)))) (tC (.int 1)))) (gName 2))
  (tSeq (tFor (iRng1 (tCons (tCB (rLenS K) (tCons (tVar 0) (tNil))) (tNil))) (gName 3) (tFor (iRng1 (tCons (tCB (rLenS K) (tCons (tVar 1) (tNil))) (tNil))) (gName 4) (tAsg (tOp rIAdd (tOp (rIxL K) (tVar 2) (tOp rIAdd (tVar 3) (tVar 4))) (tOp rMul (tOp (rIxL K) (tVar 0) (tVar 3)) (tOp (rIxL K) (tVar 1) (tVar 4)))) (gSub (tVar 2) (tOp rIAdd (tVar 3) (tVar 4)) rSetL))))
  (tRet (tVar 2)))

section
variable {K : PySem.W.Frag} {Cof : String → Addr} {vs : List V} {H : Hp} {Q : VK} {E : XK}
theorem len__law_product (h : sp__law_product K Cof vs H Q E) : vs.length = 2 := by
  obtain ⟨a, b, P, R, n, m, rfl, _⟩ := h; rfl
theorem rd__law_product (h : sp__law_product K Cof vs H Q E) : t__law_product K Cof E { nx := fun _ H' => Q .non H', rt := Q } (start ["_law_kp", "_law_kq", "_law_found", "_law_i", "_law_j"] vs) H := by
  obtain ⟨a, b, P, R, n, m, rfl, hA, hB, ⟨hP, hR, lA, lB⟩, sA, sB, ⟨n0, m0, nm⟩, q⟩ := h
  have lP := List.length_pos_iff.mpr hP
  have lR := List.length_pos_iff.mpr hR
  unfold t__law_product
  walk_at "rd"
  refine r_lstK fun p1 H1 hp1 e1 h1 => ?_
  have hA1 := e1.l hA
  have hB1 := e1.l hB
  walk_at "rd"
  have el : ((P.length : Int) + (R.length : Int) - 1).toNat = P.length + R.length - 1 := by omega
  refine r_rep1 h1 (by omega) fun p H2 hp e2 h2 => ?_
  rw [el] at h2
  have h2' : H2 p = some (.lst ((List.replicate (P.length + R.length - 1) (0 : Int)).map V.int)) := by rw [List.map_replicate]; exact h2
  have hA2 := e2.l hA1
  have hB2 := e2.l hB1
  have hpH := Evl.fresh_back e1 hp
  walk_at "rd"
  refine r_iRng1A (by omega) (by omega) ?_
  rw [Int.toNat_natCast]
  refine loop_range0 (fun k σ' H' => ∃ (rs : List Int) (u3 u4 : Option V), σ' = [some (.ref a), some (.ref b), some (.ref p), u3, u4] ∧ Ex H H' ∧ H' p = some (.lst (rs.map V.int)) ∧ rs.length = P.length + R.length - 1 ∧ ∀ j, ML.cf rs j = ML.pcv P R k j)
    ⟨_, _, _, rfl, e1.trans e2, h2', by rw [List.length_replicate], fun j => by rw [ML.cf_rep0]; rfl⟩ (fun k σ' H' hk hp' => ?_) (fun σ' H' hp' => ?_)
  · obtain ⟨rs, u3, u4, rfl, f2, h3, l3, c3⟩ := hp'
    have hA3 := f2.l hA
    have hB3 := f2.l hB
    walk_at "rd"
    refine r_iRng1A (by omega) (by omega) ?_
    rw [Int.toNat_natCast]
    refine loop_range0 (fun i σ2 H2 => ∃ (rs : List Int) (u4 : Option V), σ2 = [some (.ref a), some (.ref b), some (.ref p), some (.int (k : Int)), u4] ∧ Ex H H2 ∧ H2 p = some (.lst (rs.map V.int)) ∧ rs.length = P.length + R.length - 1 ∧ ∀ j, ML.cf rs j = ML.pcw P R k i j)
      ⟨rs, _, rfl, f2, h3, l3, fun j => by rw [ML.pcw_zero]; exact c3 j⟩ (fun i σ2 H2 hi hp2 => ?_) (fun σ2 H2 hp2 => ?_)
    · obtain ⟨rs, u4, rfl, f3, h4, l4, c4⟩ := hp2
      have hA4 := f3.l hA
      have hB4 := f3.l hB
      have eki : (k : Int) + (i : Int) = ((k + i : Nat) : Int) := by omega
      walk_at "rd"
      rw [eki]
      refine r_ixI (ns := rs) (SqL.inj h4) (by omega) (by omega) ?_
      rw [Int.toNat_natCast]
      walk_at "rd"
      refine r_ixI (ns := P) hA4 (by omega) (by omega) ?_
      walk_at "rd"
      refine r_ixI (ns := R) hB4 (by omega) (by omega) ?_
      rw [Int.toNat_natCast, Int.toNat_natCast]
      refine r_mul (wide_mul (sA.cf k) (sB.cf i) n0 m0 (by omega)) ?_
      walk_at "rd"
      rw [eki]
      refine r_setL (p := p) (xs := rs.map V.int) h4 (Evl.ixN_nat (by rw [List.length_map]; omega)) fun H4 b4 h5 => ?_
      refine ⟨rs.set (k + i) (ML.cf rs (k + i) + ML.cf P k * ML.cf R i), _, rfl, Evl.Ex.mutb f3 b4 hpH, by rw [List.map_set]; exact h5, by rw [List.length_set]; exact l4, fun j => ?_⟩
      rw [ML.pcw_step]
      by_cases hj : j = k + i
      · rw [if_pos hj, hj, ← c4]
        exact ML.cf_some (by rw [List.getElem?_set_self (by omega)])
      · rw [if_neg hj, ← c4]
        unfold ML.cf
        rw [List.getD_eq_getElem?_getD, List.getElem?_set_ne (fun z => hj z.symm), ← List.getD_eq_getElem?_getD]
    · obtain ⟨rs, u4, rfl, f3, h4, l4, c4⟩ := hp2
      exact ⟨rs, _, _, rfl, f3, h4, l4, fun j => by rw [c4, ML.pcw_full]⟩
  · obtain ⟨rs, u3, u4, rfl, f2, h3, l3, c3⟩ := hp'
    walk_at "rd"
    refine q p H' hpH f2 ?_
    have : rs = ML.mulU P R := by
      refine ML.ext ?_ fun j _ => ?_
      · rw [l3]; unfold ML.mulU; rw [if_neg fun z => z.elim hP hR, List.length_map, List.length_range]
      · rw [c3, ML.pcv_full, ML.cf_mulU]
    rw [← this]; exact h3
theorem c__law_product {a b : Addr} {P R : List Int} (n m : Nat) (hA : SqL K H a (P.map V.int)) (hB : SqL K H b (R.map V.int)) (hs : P ≠ [] ∧ R ≠ [] ∧ P.length ≤ 1000 ∧ R.length ≤ 1000) (sA : ML.Sz n P) (sB : ML.Sz m R) (hn : 0 < n ∧ 0 < m ∧ n + m ≤ 100000) (q : ∀ p H', H p = none → Ex H H' → H' p = some (.lst ((ML.mulU P R).map V.int)) → Q (.ref p) H') : sp__law_product K Cof [.ref a, .ref b] H Q E := ⟨a, b, P, R, n, m, rfl, hA, hB, hs, sA, sB, hn, q⟩
end

/-! #### _law_sum -/
--USE ML
def sp__law_sum (K : PySem.W.Frag) (Cof : String → Addr) : Sp := fun vs H Q _ => ∃ (a b : Addr) (P R : List Int), vs = [.ref a, .ref b] ∧ SqL K H a (P.map V.int) ∧ SqL K H b (R.map V.int) ∧ P.length ≤ 1000 ∧ R.length ≤ P.length ∧
  ∀ S : List Int, S.length = P.length → (∀ j, ML.cf S j = ML.cf P j + ML.cf R j) → RetI S H Q
def t__law_sum (K : PySem.W.Frag) (Cof : String → Addr) (E : XK) : TS :=
  tSeq (tAsg (tCB (rListS K) (tCons (tVar 0) (tNil))) (gName 2))
  (tSeq (tFor (iRng1 (tCons (tCB (rLenS K) (tCons (tVar 1) (tNil))) (tNil))) (gName 3) (tAsg (tOp rIAdd (tOp (rIxL K) (tVar 2) (tVar 3)) (tOp (rIxL K) (tVar 1) (tVar 3))) (gSub (tVar 2) (tVar 3) rSetL)))
  (tRet (tVar 2)))

section
variable {K : PySem.W.Frag} {Cof : String → Addr} {vs : List V} {H : Hp} {Q : VK} {E : XK}
theorem len__law_sum (h : sp__law_sum K Cof vs H Q E) : vs.length = 2 := by
  obtain ⟨a, b, P, R, rfl, _⟩ := h; rfl
theorem rd__law_sum (h : sp__law_sum K Cof vs H Q E) : t__law_sum K Cof E { nx := fun _ H' => Q .non H', rt := Q } (start ["_law_kp", "_law_kq", "_law_found", "_law_k"] vs) H := by
  obtain ⟨a, b, P, R, rfl, hA, hB, lP, lR, q⟩ := h
  unfold t__law_sum
  walk_at "rd"
  refine r_list hA fun p H1 hp e1 h1 => ?_
  have hB1 := e1.l hB
  walk_at "rd"
  refine r_iRng1A (by omega) (by omega) ?_
  rw [Int.toNat_natCast]
  refine loop_range0 (fun k σ' H' => ∃ (S : List Int) (u : Option V), σ' = [some (.ref a), some (.ref b), some (.ref p), u] ∧ Ex H H' ∧ H' p = some (.lst (S.map V.int)) ∧ S.length = P.length ∧ ∀ j, ML.cf S j = ML.cf P j + if j < k then ML.cf R j else 0) ⟨P, _, rfl, e1, h1, rfl, fun j => by rw [if_neg (by omega)]; omega⟩ (fun k σ' H' hk hp' => ?_) (fun σ' H' hp' => ?_)
  · obtain ⟨S, u, rfl, e2, h2, lS, cS⟩ := hp'
    have hB2 := e2.l hB
    walk_at "rd"
    refine r_ixI (ns := S) (SqL.inj h2) (by omega) (by omega) ?_
    walk_at "rd"
    refine r_ixI (ns := R) hB2 (by omega) (by omega) ?_
    rw [Int.toNat_natCast]
    walk_at "rd"
    refine r_setL (p := p) (xs := S.map V.int) h2 (Evl.ixN_nat (by rw [List.length_map]; omega)) fun H4 b4 h5 => ?_
    refine ⟨S.set k (ML.cf S k + ML.cf R k), _, rfl, Evl.Ex.mutb e2 b4 hp, by rw [List.map_set]; exact h5, by rw [List.length_set]; exact lS, fun j => ?_⟩
    by_cases hj : j = k
    · subst hj
      rw [show ML.cf (S.set j (ML.cf S j + ML.cf R j)) j = _ from ML.cf_some (by rw [List.getElem?_set_self (by omega)]), cS j, if_neg (by omega), if_pos (by omega)]
      omega
    · have : ML.cf (S.set k (ML.cf S k + ML.cf R k)) j = ML.cf S j := by
        unfold ML.cf
        rw [List.getD_eq_getElem?_getD, List.getElem?_set_ne (fun z => hj z.symm), ← List.getD_eq_getElem?_getD]
      rw [this, cS j]
      by_cases h3 : j < k
      · rw [if_pos h3, if_pos (by omega)]
      · rw [if_neg h3, if_neg (by omega)]
  · obtain ⟨S, u, rfl, e2, h2, lS, cS⟩ := hp'
    walk_at "rd"
    refine q S lS (fun j => ?_) p H' hp e2 h2
    rw [cS j]
    by_cases h3 : j < R.length
    · rw [if_pos h3]
    · rw [if_neg h3, ML.cf_beyond (P := R) (by omega)]
theorem c__law_sum {a b : Addr} {P R : List Int} (hA : SqL K H a (P.map V.int)) (hB : SqL K H b (R.map V.int)) (lP : P.length ≤ 1000) (lR : R.length ≤ P.length) (q : ∀ S : List Int, S.length = P.length → (∀ j, ML.cf S j = ML.cf P j + ML.cf R j) → ∀ p H', H p = none → Ex H H' → H' p = some (.lst (S.map V.int)) → Q (.ref p) H') : sp__law_sum K Cof [.ref a, .ref b] H Q E := ⟨a, b, P, R, rfl, hA, hB, lP, lR, q⟩
end

/-! #### _law_power -/
def sp__law_power (K : PySem.W.Frag) (Cof : String → Addr) : Sp := fun vs H Q _ => ∃ (b : Int) (n m : Nat), vs = [.int b, .int (n : Int)] ∧ b.natAbs < 2 ^ m ∧ 0 < m ∧ m ≤ 1000 ∧ n ≤ 100 ∧ Q (.int (b ^ n)) H
def t__law_power (K : PySem.W.Frag) (Cof : String → Addr) (E : XK) : TS :=
  tSeq (tAsg (tC (.int 1)) (gName 2))
  (tSeq (tFor (iRng1 (tCons (tVar 1) (tNil))) (gName 3) (tAsg (tOp rMul (tVar 2) (tVar 0)) (gName 2)))
  (tRet (tVar 2)))

section
variable {K : PySem.W.Frag} {Cof : String → Addr} {vs : List V} {H : Hp} {Q : VK} {E : XK}
theorem len__law_power (h : sp__law_power K Cof vs H Q E) : vs.length = 2 := by
  obtain ⟨b, n, m, rfl, _⟩ := h; rfl
theorem pow_lt' {b : Int} {m : Nat} (h : b.natAbs < 2 ^ m) : ∀ k, (b ^ k).natAbs < 2 ^ (m * k + 1)
  | 0 => by rw [Int.pow_zero]; exact Nat.one_lt_two_pow (by omega)
  | k + 1 => by
    rw [Int.pow_succ, show m * (k + 1) + 1 = m * k + 1 + m by rw [Nat.mul_succ]; omega]
    exact wide_lt (pow_lt' h k) h
theorem rd__law_power (h : sp__law_power K Cof vs H Q E) : t__law_power K Cof E { nx := fun _ H' => Q .non H', rt := Q } (start ["_law_base", "_law_k", "_law_found", "_law_turn"] vs) H := by
  obtain ⟨b, n, m, rfl, hb, m0, m9, hn, q⟩ := h
  unfold t__law_power
  walk_at "rd"
  refine r_iRng1A (by omega) (by omega) ?_
  rw [Int.toNat_natCast]
  refine loop_range0 (fun k σ' H' => ∃ u, σ' = [some (.int b), some (.int (n : Int)), some (.int (b ^ k)), u] ∧ H = H') ⟨_, by rw [Int.pow_zero]; rfl, rfl⟩ (fun k σ' H' hk hp' => ?_) (fun σ' H' hp' => ?_)
  · obtain ⟨u, rfl, rfl⟩ := hp'
    walk_at "rd"
    have : m * k ≤ 1000 * 100 := Nat.mul_le_mul m9 (by omega)
    refine r_mul (wide_mul (pow_lt' hb k) hb (by omega) m0 (by omega)) ?_
    walk_at "rd"
    exact ⟨_, by rw [Int.pow_succ]; rfl, rfl⟩
  · obtain ⟨u, rfl, rfl⟩ := hp'
    walk_at "rd"
    exact q
theorem c__law_power {b : Int} {n : Nat} (m : Nat) (hb : b.natAbs < 2 ^ m) (m0 : 0 < m) (m9 : m ≤ 1000) (hn : n ≤ 100) (q : Q (.int (b ^ n)) H) : sp__law_power K Cof [.int b, .int (n : Int)] H Q E := ⟨b, n, m, rfl, hb, m0, m9, hn, q⟩
end

/-! #### law -/
--USE DW RN
def sp_law (K : PySem.W.Frag) (Cof : String → Addr) : Sp := fun vs H Q _ => ∃ (a : Addr) (ns : List Int), vs = [.ref a] ∧ SqL K H a (ns.map V.int) ∧ ns.length ≤ 63 ∧ ∀ H', Q (.bl true) H'
def t_law (K : PySem.W.Frag) (Cof : String → Addr) (E : XK) : TS :=
  tSeq (tAsg (tCall (sp__law_cell_at K Cof) [] E0 (tCons (tVar 0) (tCons (tC (.int 0)) (tNil)))) (gName 1))
  (tSeq (tAsg (tOp rMod (tVar 1) (tC (.int 5))) (gName 2))
  (tSeq (tAsg (tOp rMod (tOp rDiv (tVar 1) (tC (.int 5))) (tC (.int 4))) (gName 3))
  (tSeq (tAsg (tCall (sp__law_drawn K Cof) [] E0 (tCons (tVar 0) (tCons (tC (.int 1)) (tCons (tVar 2) (tNil))))) (gName 4))
  (tSeq (tAsg (tCall (sp__law_drawn K Cof) [] E0 (tCons (tVar 0) (tCons (tC (.int 6)) (tCons (tVar 3) (tNil))))) (gName 5))
  (tSeq (tAsg (tCall (sp__law_drawn K Cof) [] E0 (tCons (tVar 0) (tCons (tC (.int 10)) (tCons (tOp rMod (tOp rDiv (tVar 1) (tC (.int 20))) (tC (.int 4))) (tNil))))) (gName 6))
  (tSeq (tAsg (tCall (sp__law_drawn K Cof) [] E0 (tCons (tVar 0) (tCons (tC (.int 14)) (tCons (tOp rIAdd (tC (.int 1)) (tOp rMod (tOp rDiv (tVar 1) (tC (.int 80))) (tC (.int 2)))) (tNil))))) (gName 7))
  (tSeq (tAsg (tCall (sp_resultant K Cof) [] E0 (tCons (tVar 4) (tCons (tVar 5) (tNil)))) (gName 8))
  (tSeq (tIfS (tNot (tB (tCall (sp__law_whole K Cof) [] E0 (tCons (tVar 8) (tNil))))) (tRet (tC (.bl false))) (tNext))
  (tSeq (tIfS (tTest (tOp rNe (tCall (sp_resultant K Cof) [] E0 (tCons (tVar 4) (tCons (tCall (sp__law_product K Cof) [] E0 (tCons (tVar 5) (tCons (tVar 6) (tNil)))) (tNil)))) (tOp rMul (tVar 8) (tCall (sp_resultant K Cof) [] E0 (tCons (tVar 4) (tCons (tVar 6) (tNil))))))) (tRet (tC (.bl false))) (tNext))
  (tSeq (tIfS (tTest (tOp rNe (tCall (sp_resultant K Cof) [] E0 (tCons (tCall (sp__law_product K Cof) [] E0 (tCons (tVar 6) (tCons (tVar 4) (tNil)))) (tCons (tVar 5) (tNil)))) (tOp rMul (tCall (sp_resultant K Cof) [] E0 (tCons (tVar 6) (tCons (tVar 5) (tNil)))) (tVar 8)))) (tRet (tC (.bl false))) (tNext))
  (tSeq (tIfS (tTest (tOp rNe (tCall (sp_resultant K Cof) [] E0 (tCons (tCall (sp__law_product K Cof) [] E0 (tCons (tVar 4) (tCons (tVar 7) (tNil)))) (tCons (tCall (sp__law_product K Cof) [] E0 (tCons (tVar 5) (tCons (tVar 7) (tNil)))) (tNil)))) (tC (.int 0)))) (tRet (tC (.bl false))) (tNext))
  (tSeq (tIfS (tTest (tOp rEq (tVar 2) (tC (.int 0)))) (tRet (tC (.bl true))) (tNext))
  (tSeq (tAsg (tCall (sp__law_drawn K Cof) [] E0 (tCons (tVar 0) (tCons (tC (.int 17)) (tCons (tOp rMod (tOp rDiv (tVar 1) (tC (.int 160))) (tVar 2)) (tNil))))) (gName 9))
  (tSeq (tAsg (tCall (sp__law_drawn K Cof) [] E0 (tCons (tVar 0) (tCons (tC (.int 21)) (tCons (tOp rMod (tOp rDiv (tVar 1) (tC (.int 640))) (tC (.int 3))) (tNil))))) (gName 10))
  (tSeq (tAsg (tCall (sp__law_sum K Cof) [] E0 (tCons (tCall (sp__law_product K Cof) [] E0 (tCons (tVar 4) (tCons (tVar 10) (tNil)))) (tCons (tVar 9) (tNil)))) (gName 11))
  (tSeq (tAsg (tOp rMul (tCall (sp_resultant K Cof) [] E0 (tCons (tVar 4) (tCons (tVar 9) (tNil)))) (tCall (sp__law_power K Cof) [] E0 (tCons (tOp (rIxL K) (tVar 4) (tVar 2)) (tCons (tOp rISub (tCB (rLenS K) (tCons (tVar 11) (tNil))) (tC (.int 1))) (tNil))))) (gName 12))
  (tRet (tOp rEq (tOp rMul (tCall (sp_resultant K Cof) [] E0 (tCons (tVar 4) (tCons (tVar 11) (tNil)))) (tCall (sp__law_power K Cof) [] E0 (tCons (tOp (rIxL K) (tVar 4) (tVar 2)) (tCons (tOp rISub (tCB (rLenS K) (tCons (tVar 9) (tNil))) (tC (.int 1))) (tNil))))) (tVar 12)))))))))))))))))))

section
variable {K : PySem.W.Frag} {Cof : String → Addr} {vs : List V} {H : Hp} {Q : VK} {E : XK}
theorem len_law (h : sp_law K Cof vs H Q E) : vs.length = 1 := by
  obtain ⟨a, ns, rfl, _⟩ := h; rfl
/-- a list of so many coefficients, of small size -/
structure Small (n : Nat) (P : List Int) : Prop where
  ln : P.length = n + 1
  n8 : n ≤ 7
  sz : ML.Sz 100 P
theorem Drawn.sm {n : Nat} {P : List Int} (h : Drawn n P) (hn : n ≤ 4) : Small n P := ⟨h.ln, by omega, h.sz.mono (by decide)⟩
theorem Drawn.ne {n : Nat} {P : List Int} (h : Drawn n P) : P ≠ [] := fun z => by
  have := h.ln
  rw [z] at this; simp at this
theorem Drawn.mul {n m : Nat} {P R : List Int} (h : Drawn n P) (h' : Drawn m R) (hn : n ≤ 4) (hm : n + m ≤ 7) : Small (n + m) (ML.mulU P R) := by
  have l1 := h.ln
  have l2 := h'.ln
  refine ⟨by rw [DT.mulU_len' h.ne h'.ne]; omega, hm, (ML.Sz.mulU h.sz h'.sz).mono (by omega)⟩
theorem Small.ok {n m : Nat} {P R : List Int} (h : Small n P) (h' : Small m R) : DT.ResOk P R 100 100 := by
  have l1 := h.ln
  have l2 := h'.ln
  have n1 := h.n8
  have n2 := h'.n8
  refine ⟨by decide, by decide, h.sz, h'.sz, by omega, by omega⟩
theorem Small.lt {n m : Nat} {P R : List Int} (h : Small n P) (h' : Small m R) : (DT.resL P R).natAbs < 2 ^ 2000 := by
  have l1 := h.ln
  have l2 := h'.ln
  have n1 := h.n8
  have n2 := h'.n8
  exact Nat.lt_of_lt_of_le ((h.ok h').lt (M := 1400) (by omega)) (Nat.pow_le_pow_right (by decide) (by decide))
theorem rd_law (h : sp_law K Cof vs H Q E) : t_law K Cof E { nx := fun _ H' => Q .non H', rt := Q } (start ["_law_script", "_law_first", "_law_m", "_law_n", "_law_kp", "_law_kq", "_law_kr", "_law_kf", "_law_found", "_law_low", "_law_kh", "_law_high", "_law_before"] vs) H := by
  obtain ⟨a, ns, rfl, hS, hl, q⟩ := h
  unfold t_law
  walk_at "rd"
  generalize cellOf ns 0 = first
  have nat_ : ∀ (x k : Int), 0 < k → ∃ m : Nat, x.fmod k = (m : Int) ∧ (m : Int) < k := fun x k hk => by
    have i0 := Int.fmod_nonneg_of_pos x hk
    have i1 := Int.fmod_lt_of_pos x hk
    exact ⟨(x.fmod k).toNat, by omega, by omega⟩
  obtain ⟨m, em, hm⟩ := nat_ first 5 (by decide)
  obtain ⟨n, en, hn⟩ := nat_ (first.fdiv 5) 4 (by decide)
  obtain ⟨r, er, hr⟩ := nat_ (first.fdiv 20) 4 (by decide)
  obtain ⟨f, ef, hf⟩ := nat_ (first.fdiv 80) 2 (by decide)
  rw [em, en]
  refine c__law_drawn hS (by decide) (by omega) fun P dP p1 H1 hp1 e1 h1 => ?_
  have hS1 := e1.l hS
  walk_at "rd"
  refine c__law_drawn hS1 (by decide) (by omega) fun R dR p2 H2 hp2 e2 h2 => ?_
  have hS2 := e2.l hS1
  walk_at "rd"
  rw [er]
  refine c__law_drawn hS2 (by decide) (by omega) fun S dS p3 H3 hp3 e3 h3 => ?_
  have hS3 := e3.l hS2
  walk_at "rd"
  rw [ef, show (1 : Int) + (f : Int) = ((1 + f : Nat) : Int) by omega]
  refine c__law_drawn hS3 (by decide) (by omega) fun F dF p4 H4 hp4 e4 h4 => ?_
  have hS4 := e4.l hS3
  have k1 := e4 _ _ (e3 _ _ (e2 _ _ h1))
  have k2 := e4 _ _ (e3 _ _ h2)
  have k3 := e4 _ _ h3
  clear hS1 hS2 hS3 e1 e2 e3 e4 h1 h2 h3 hS
  have sP := dP.sm (by omega)
  have sR := dR.sm (by omega)
  have sS := dS.sm (by omega)
  have lP := dP.ln
  have lR := dR.ln
  have lS := dS.ln
  have lF := dF.ln
  walk_at "rd"
  refine c_resultant (SqL.inj k1) (SqL.inj k2) (fun _ _ => ⟨_, _, sP.ok sR⟩) fun H5 e5 => ?_
  have hS5 := e5.l hS4
  have k1 := e5 _ _ k1
  have k2 := e5 _ _ k2
  have k3 := e5 _ _ k3
  have k4 := e5 _ _ h4
  walk_at "rd"
  have sRS := dR.mul dS (by omega) (by omega)
  refine c__law_product 41 41 (SqL.inj k2) (SqL.inj k3) ⟨dR.ne, dS.ne, by omega, by omega⟩ dR.sz dS.sz ⟨by decide, by decide, by decide⟩ fun p6 H6 hp6 e6 h6 => ?_
  walk_at "rd"
  refine c_resultant (SqL.inj (e6 _ _ k1)) (SqL.inj h6) (fun _ _ => ⟨_, _, sP.ok sRS⟩) fun H7 e7 => ?_
  have e67 := e6.trans e7
  have hS7 := e67.l hS5
  have k1 := e67 _ _ k1
  have k2 := e67 _ _ k2
  have k3 := e67 _ _ k3
  have k4 := e67 _ _ k4
  clear e5 e6 e7 hS5 hS4 h4
  walk_at "rd"
  refine c_resultant (SqL.inj k1) (SqL.inj k3) (fun _ _ => ⟨_, _, sP.ok sS⟩) fun H8 e8 => ?_
  have hS8 := e8.l hS7
  have k1 := e8 _ _ k1
  have k2 := e8 _ _ k2
  have k3 := e8 _ _ k3
  have k4 := e8 _ _ k4
  walk_at "rd"
  refine r_mul (wide_mul (sP.lt sR) (sP.lt sS) (by decide) (by decide) (by decide)) ?_
  walk_at "rd"
  rw [DT.resL_mul_right lP lR lS dS.top]
  refine ite_nd (fun h => absurd rfl h) (fun _ => ?_)
  walk_at "rd"
  have sSP := dS.mul dP (by omega) (by omega)
  refine c__law_product 41 41 (SqL.inj k3) (SqL.inj k1) ⟨dS.ne, dP.ne, by omega, by omega⟩ dS.sz dP.sz ⟨by decide, by decide, by decide⟩ fun p9 H9 hp9 e9 h9 => ?_
  have sSP : Small (r + m) (ML.mulU S P) := sSP
  walk_at "rd"
  refine c_resultant (SqL.inj h9) (SqL.inj (e9 _ _ k2)) (fun _ _ => ⟨_, _, sSP.ok sR⟩) fun H10 e10 => ?_
  have e910 := e9.trans e10
  have hS10 := e910.l hS8
  have k1 := e910 _ _ k1
  have k2 := e910 _ _ k2
  have k3 := e910 _ _ k3
  have k4 := e910 _ _ k4
  walk_at "rd"
  refine c_resultant (SqL.inj k3) (SqL.inj k2) (fun _ _ => ⟨_, _, sS.ok sR⟩) fun H11 e11 => ?_
  have hS11 := e11.l hS10
  have k1 := e11 _ _ k1
  have k2 := e11 _ _ k2
  have k4 := e11 _ _ k4
  walk_at "rd"
  refine r_mul (wide_mul (sS.lt sR) (sP.lt sR) (by decide) (by decide) (by decide)) ?_
  walk_at "rd"
  rw [DT.resL_mul lS lR lP dP.top]
  refine ite_nd (fun h => absurd rfl h) (fun _ => ?_)
  walk_at "rd"
  refine c__law_product 41 41 (SqL.inj k1) (SqL.inj k4) ⟨dP.ne, dF.ne, by omega, by omega⟩ dP.sz dF.sz ⟨by decide, by decide, by decide⟩ fun p12 H12 hp12 e12 h12 => ?_
  walk_at "rd"
  refine c__law_product 41 41 (SqL.inj (e12 _ _ k2)) (SqL.inj (e12 _ _ k4)) ⟨dR.ne, dF.ne, by omega, by omega⟩ dR.sz dF.sz ⟨by decide, by decide, by decide⟩ fun p13 H13 hp13 e13 h13 => ?_
  have sPF := dP.mul dF (by omega) (by omega)
  have sRF := dR.mul dF (by omega) (by omega)
  walk_at "rd"
  refine c_resultant (SqL.inj (e13 _ _ h12)) (SqL.inj h13) (fun _ _ => ⟨_, _, sPF.ok sRF⟩) fun H14 e14 => ?_
  have e1214 := (e12.trans e13).trans e14
  have hS14 := e1214.l hS11
  have k1 := e1214 _ _ k1
  walk_at "rd"
  rw [DT.resL_common lP lR lF (by omega)]
  refine ite_nd (fun h => absurd rfl h) (fun _ => ?_)
  walk_at "rd"
  refine ite_d (fun _ => ?_) (fun hm0 => ?_)
  · walk_at "rd"
    exact q _
  have hm0 : m ≠ 0 := by omega
  clear k2 k3 k4 e8 e9 e10 e11 e12 e13 e14 e910 e67 e1214 hS7 hS8 hS10 hS11 h6 h9 h12 h13
  obtain ⟨d, ed, hd⟩ := nat_ (first.fdiv 160) (m : Int) (by omega)
  obtain ⟨h, eh, hh⟩ := nat_ (first.fdiv 640) 3 (by decide)
  walk_at "rd"
  rw [ed]
  refine c__law_drawn hS14 (by decide) (by omega) fun L dL p15 H15 hp15 e15 h15 => ?_
  have hS15 := e15.l hS14
  have k1 := e15 _ _ k1
  walk_at "rd"
  rw [eh]
  refine c__law_drawn hS15 (by decide) (by omega) fun W dW p16 H16 hp16 e16 h16 => ?_
  have k1 := e16 _ _ k1
  have k5 := e16 _ _ h15
  have lL := dL.ln
  have lW := dW.ln
  walk_at "rd"
  refine c__law_product 41 41 (SqL.inj k1) (SqL.inj h16) ⟨dP.ne, dW.ne, by omega, by omega⟩ dP.sz dW.sz ⟨by decide, by decide, by decide⟩ fun p17 H17 hp17 e17 h17 => ?_
  have k1 := e17 _ _ k1
  have k5 := e17 _ _ k5
  have sPW := dP.mul dW (by omega) (by omega)
  have lPW := sPW.ln
  walk_at "rd"
  refine c__law_sum (SqL.inj h17) (SqL.inj k5) (by omega) (by omega) fun G lG cG p18 H18 hp18 e18 h18 => ?_
  have k1 := e18 _ _ k1
  have k5 := e18 _ _ k5
  have sG : Small (m + h) G := ⟨by omega, by omega, ML.Sz.of fun j _ => by
    have s1 := (ML.Sz.mulU dP.sz dW.sz).cf j
    have s2 := dL.sz.cf j
    rw [cG]
    have s3 : (2 : Nat) ^ (41 + 41 + P.length + 1) ≤ 2 ^ 90 := Nat.pow_le_pow_right (by decide) (by omega)
    omega⟩
  have sL := dL.sm (by omega)
  walk_at "rd"
  refine c_resultant (SqL.inj k1) (SqL.inj k5) (fun _ _ => ⟨_, _, sP.ok sL⟩) fun H19 e19 => ?_
  have k1 := e19 _ _ k1
  have k5 := e19 _ _ k5
  have k6 := e19 _ _ h18
  have top := dP.sz.cf m
  have p100 : ∀ {k : Nat}, k ≤ 100 → (ML.cf P m ^ k).natAbs < 2 ^ (41 * 100 + 1) := fun {k} hk => Nat.lt_of_lt_of_le (pow_lt' top k) (Nat.pow_le_pow_right (by decide) (by omega))
  walk_at "rd"
  refine r_ixI (ns := P) (SqL.inj k1) (by omega) (by omega) ?_
  rw [Int.toNat_natCast]
  walk_at "rd"
  rw [show (G.length : Int) - 1 = ((m + h : Nat) : Int) by omega]
  refine c__law_power 41 top (by decide) (by decide) (by omega) ?_
  walk_at "rd"
  refine r_mul (wide_mul (sP.lt sL) (p100 (by omega)) (by decide) (by decide) (by decide)) ?_
  walk_at "rd"
  refine c_resultant (SqL.inj k1) (SqL.inj k6) (fun _ _ => ⟨_, _, sP.ok sG⟩) fun H20 e20 => ?_
  have k1 := e20 _ _ k1
  have k5 := e20 _ _ k5
  walk_at "rd"
  refine r_ixI (ns := P) (SqL.inj k1) (by omega) (by omega) ?_
  rw [Int.toNat_natCast]
  walk_at "rd"
  rw [show (L.length : Int) - 1 = ((d : Nat) : Int) by omega]
  refine c__law_power 41 top (by decide) (by decide) (by omega) ?_
  walk_at "rd"
  refine r_mul (wide_mul (sP.lt sG) (p100 (by omega)) (by decide) (by decide) (by decide)) ?_
  walk_at "rd"
  rw [decide_eq_true (show DT.resL P G * P.getD m 0 ^ d = DT.resL P L * P.getD m 0 ^ (m + h) from DT.resL_add' lP lW lL (by omega) (by omega) fun j => by rw [cG, ML.cf_mulU])]
  exact q _
theorem c_law {a : Addr} {ns : List Int} (h : SqL K H a (ns.map V.int)) (hl : ns.length ≤ 63) (q : ∀ H', Q (.bl true) H') : sp_law K Cof [.ref a] H Q E := ⟨a, ns, rfl, h, hl, q⟩
end

def topS (i : Nat) : Stmt := PySem.Challenge.pw_rootspan_k35_resultant_carried.main.body.getD i (.Pass ⟨0, 0, 0, 0⟩)
abbrev s_pivot_at : Stmt := topS 1
theorem sc_pivot_at : FnScope ["rows", "at", "k"] ["rows", "at"] (defScope s_pivot_at) := ⟨rfl, rfl, rfl, by decide +kernel, rfl, by decide +kernel, by decide +kernel⟩
abbrev s_cleared_rows : Stmt := topS 2
theorem sc_cleared_rows : FnScope ["rows", "at", "before", "top", "done", "row", "j"] ["rows", "at", "before"] (defScope s_cleared_rows) := ⟨rfl, rfl, rfl, by decide +kernel, rfl, by decide +kernel, by decide +kernel⟩
abbrev s_determinant : Stmt := topS 3
theorem sc_determinant : FnScope ["rows", "left", "row", "sign", "before", "at", "k", "kept"] ["rows"] (defScope s_determinant) := ⟨rfl, rfl, rfl, by decide +kernel, rfl, by decide +kernel, by decide +kernel⟩
abbrev s_sylvester_rows : Stmt := topS 5
theorem sc_sylvester_rows : FnScope ["P", "Q", "m", "n", "rows", "k"] ["P", "Q"] (defScope s_sylvester_rows) := ⟨rfl, rfl, rfl, by decide +kernel, rfl, by decide +kernel, by decide +kernel⟩
abbrev s_resultant : Stmt := topS 6
theorem sc_resultant : FnScope ["P", "Q"] ["P", "Q"] (defScope s_resultant) := ⟨rfl, rfl, rfl, by decide +kernel, rfl, by decide +kernel, by decide +kernel⟩
abbrev s__law_cell_at : Stmt := topS 8
theorem sc__law_cell_at : FnScope ["_law_script", "_law_k"] ["_law_script", "_law_k"] (defScope s__law_cell_at) := ⟨rfl, rfl, rfl, by decide +kernel, rfl, by decide +kernel, by decide +kernel⟩
abbrev s__law_whole : Stmt := topS 9
theorem sc__law_whole : FnScope ["_law_found"] ["_law_found"] (defScope s__law_whole) := ⟨rfl, rfl, rfl, by decide +kernel, rfl, by decide +kernel, by decide +kernel⟩
abbrev s__law_number : Stmt := topS 10
theorem sc__law_number : FnScope ["_law_cell", "_law_at"] ["_law_cell", "_law_at"] (defScope s__law_number) := ⟨rfl, rfl, rfl, by decide +kernel, rfl, by decide +kernel, by decide +kernel⟩
abbrev s__law_drawn : Stmt := topS 11
theorem sc__law_drawn : FnScope ["_law_script", "_law_at", "_law_size", "_law_row", "_law_k"] ["_law_script", "_law_at", "_law_size"] (defScope s__law_drawn) := ⟨rfl, rfl, rfl, by decide +kernel, rfl, by decide +kernel, by decide +kernel⟩
abbrev s__law_product : Stmt := topS 12
theorem sc__law_product : FnScope ["_law_kp", "_law_kq", "_law_found", "_law_i", "_law_j"] ["_law_kp", "_law_kq"] (defScope s__law_product) := ⟨rfl, rfl, rfl, by decide +kernel, rfl, by decide +kernel, by decide +kernel⟩
abbrev s__law_sum : Stmt := topS 13
theorem sc__law_sum : FnScope ["_law_kp", "_law_kq", "_law_found", "_law_k"] ["_law_kp", "_law_kq"] (defScope s__law_sum) := ⟨rfl, rfl, rfl, by decide +kernel, rfl, by decide +kernel, by decide +kernel⟩
abbrev s__law_power : Stmt := topS 14
theorem sc__law_power : FnScope ["_law_base", "_law_k", "_law_found", "_law_turn"] ["_law_base", "_law_k"] (defScope s__law_power) := ⟨rfl, rfl, rfl, by decide +kernel, rfl, by decide +kernel, by decide +kernel⟩
abbrev s_law : Stmt := topS 15
theorem sc_law : FnScope ["_law_script", "_law_first", "_law_m", "_law_n", "_law_kp", "_law_kq", "_law_kr", "_law_kf", "_law_found", "_law_low", "_law_kh", "_law_high", "_law_before"] ["_law_script"] (defScope s_law) := ⟨rfl, rfl, rfl, by decide +kernel, rfl, by decide +kernel, by decide +kernel⟩
structure Txt (K : PySem.W.Frag) (mg : Str → Option Value) (Cof : String → Addr) (ad : Nat → Addr) (fd : Nat → FuncData) : Prop where
  z_bool : mg "bool" = none
  z_int : mg "int" = none
  z_isinstance : mg "isinstance" = none
  z_len : mg "len" = none
  z_list : mg "list" = none
  z_range : mg "range" = none
  z_reversed : mg "reversed" = none
  g_pivot_at : mg "pivot_at" = some (.ref (ad 0))
  F_pivot_at : Fun K "pivot_at" "pivot_at" s_pivot_at (ad 0) (fd 0)
  g_cleared_rows : mg "cleared_rows" = some (.ref (ad 1))
  F_cleared_rows : Fun K "cleared_rows" "cleared_rows" s_cleared_rows (ad 1) (fd 1)
  g_determinant : mg "determinant" = some (.ref (ad 2))
  F_determinant : Fun K "determinant" "determinant" s_determinant (ad 2) (fd 2)
  g_sylvester_rows : mg "sylvester_rows" = some (.ref (ad 3))
  F_sylvester_rows : Fun K "sylvester_rows" "sylvester_rows" s_sylvester_rows (ad 3) (fd 3)
  g_resultant : mg "resultant" = some (.ref (ad 4))
  F_resultant : Fun K "resultant" "resultant" s_resultant (ad 4) (fd 4)
  g__law_cell_at : mg "_law_cell_at" = some (.ref (ad 5))
  F__law_cell_at : Fun K "_law_cell_at" "_law_cell_at" s__law_cell_at (ad 5) (fd 5)
  g__law_whole : mg "_law_whole" = some (.ref (ad 6))
  F__law_whole : Fun K "_law_whole" "_law_whole" s__law_whole (ad 6) (fd 6)
  g__law_number : mg "_law_number" = some (.ref (ad 7))
  F__law_number : Fun K "_law_number" "_law_number" s__law_number (ad 7) (fd 7)
  g__law_drawn : mg "_law_drawn" = some (.ref (ad 8))
  F__law_drawn : Fun K "_law_drawn" "_law_drawn" s__law_drawn (ad 8) (fd 8)
  g__law_product : mg "_law_product" = some (.ref (ad 9))
  F__law_product : Fun K "_law_product" "_law_product" s__law_product (ad 9) (fd 9)
  g__law_sum : mg "_law_sum" = some (.ref (ad 10))
  F__law_sum : Fun K "_law_sum" "_law_sum" s__law_sum (ad 10) (fd 10)
  g__law_power : mg "_law_power" = some (.ref (ad 11))
  F__law_power : Fun K "_law_power" "_law_power" s__law_power (ad 11) (fd 11)
  g_law : mg "law" = some (.ref (ad 12))
  F_law : Fun K "law" "law" s_law (ad 12) (fd 12)
section
variable {P : Program} {w : World} {K : PySem.W.Frag} {mg : Str → Option Value} {base : Heap} {Cof : String → Addr} {ad : Nat → Addr} {fd : Nat → FuncData}
theorem B_pivot_at (T : Txt K mg Cof ad fd) : Binds K (fd 0) ["rows", "at"] [] := T.F_pivot_at.binds (ps := ["rows", "at"]) fun _ _ _ _ _ _ us hl => match us, hl with | [_, _], _ => rfl
theorem B_cleared_rows (T : Txt K mg Cof ad fd) : Binds K (fd 1) ["rows", "at", "before"] [] := T.F_cleared_rows.binds (ps := ["rows", "at", "before"]) fun _ _ _ _ _ _ us hl => match us, hl with | [_, _, _], _ => rfl
theorem B_determinant (T : Txt K mg Cof ad fd) : Binds K (fd 2) ["rows"] [] := T.F_determinant.binds (ps := ["rows"]) fun _ _ _ _ _ _ us hl => match us, hl with | [_], _ => rfl
theorem B_sylvester_rows (T : Txt K mg Cof ad fd) : Binds K (fd 3) ["P", "Q"] [] := T.F_sylvester_rows.binds (ps := ["P", "Q"]) fun _ _ _ _ _ _ us hl => match us, hl with | [_, _], _ => rfl
theorem B_resultant (T : Txt K mg Cof ad fd) : Binds K (fd 4) ["P", "Q"] [] := T.F_resultant.binds (ps := ["P", "Q"]) fun _ _ _ _ _ _ us hl => match us, hl with | [_, _], _ => rfl
theorem B__law_cell_at (T : Txt K mg Cof ad fd) : Binds K (fd 5) ["_law_script", "_law_k"] [] := T.F__law_cell_at.binds (ps := ["_law_script", "_law_k"]) fun _ _ _ _ _ _ us hl => match us, hl with | [_, _], _ => rfl
theorem B__law_whole (T : Txt K mg Cof ad fd) : Binds K (fd 6) ["_law_found"] [] := T.F__law_whole.binds (ps := ["_law_found"]) fun _ _ _ _ _ _ us hl => match us, hl with | [_], _ => rfl
theorem B__law_number (T : Txt K mg Cof ad fd) : Binds K (fd 7) ["_law_cell", "_law_at"] [] := T.F__law_number.binds (ps := ["_law_cell", "_law_at"]) fun _ _ _ _ _ _ us hl => match us, hl with | [_, _], _ => rfl
theorem B__law_drawn (T : Txt K mg Cof ad fd) : Binds K (fd 8) ["_law_script", "_law_at", "_law_size"] [] := T.F__law_drawn.binds (ps := ["_law_script", "_law_at", "_law_size"]) fun _ _ _ _ _ _ us hl => match us, hl with | [_, _, _], _ => rfl
theorem B__law_product (T : Txt K mg Cof ad fd) : Binds K (fd 9) ["_law_kp", "_law_kq"] [] := T.F__law_product.binds (ps := ["_law_kp", "_law_kq"]) fun _ _ _ _ _ _ us hl => match us, hl with | [_, _], _ => rfl
theorem B__law_sum (T : Txt K mg Cof ad fd) : Binds K (fd 10) ["_law_kp", "_law_kq"] [] := T.F__law_sum.binds (ps := ["_law_kp", "_law_kq"]) fun _ _ _ _ _ _ us hl => match us, hl with | [_, _], _ => rfl
theorem B__law_power (T : Txt K mg Cof ad fd) : Binds K (fd 11) ["_law_base", "_law_k"] [] := T.F__law_power.binds (ps := ["_law_base", "_law_k"]) fun _ _ _ _ _ _ us hl => match us, hl with | [_, _], _ => rfl
theorem B_law (T : Txt K mg Cof ad fd) : Binds K (fd 12) ["_law_script"] [] := T.F_law.binds (ps := ["_law_script"]) fun _ _ _ _ _ _ us hl => match us, hl with | [_], _ => rfl
theorem ok_pivot_at (T : Txt K mg Cof ad fd) : FnOk P w K mg base CX0 1 (ad 0) (fd 0) ["rows", "at"] (sp_pivot_at K Cof) := by
  have nd := sc_pivot_at.nd
  refine T.F_pivot_at.ok sc_pivot_at (fun vs H Q E h => len_pivot_at h) (fun cdv A outer s H vs Q E hr h => ⟨t_pivot_at K Cof E, ?_, rd_pivot_at h⟩)
  exact pss_cons (ps_set (i := 2) nd rfl (by first | exact Or.inl rfl | exact Or.inr rfl) (pv 1))
       (pss_cons (ps_while PassesOwn.never (PW.pt (pw_and (pt_cmpR op_lt (pv 2) (pe_callB call_len_seq (by rfl) T.z_len (by decide +kernel) (pa_cons (pv 0) (pa_nil))) (nomark _)) (pw_and1 (pt_cmpR op_eq (pe_ix ix_list (pe_ix ix_list (pv 0) (pv 2) (fun _ _ => rfl)) (pv 1) (fun _ _ => rfl)) (pe_int) (nomark _))))) (pss_one (ps_set (i := 2) nd rfl (by first | exact Or.inl rfl | exact Or.inr rfl) (pe_op op_add (pv 2) (pe_int)))))
       (pss_one (ps_ret (pv 2))))
theorem ok_cleared_rows (T : Txt K mg Cof ad fd) : FnOk P w K mg base CX0 1 (ad 1) (fd 1) ["rows", "at", "before"] (sp_cleared_rows K Cof) := by
  have nd := sc_cleared_rows.nd
  refine T.F_cleared_rows.ok sc_cleared_rows (fun vs H Q E h => len_cleared_rows h) (fun cdv A outer s H vs Q E hr h => ⟨t_cleared_rows K Cof E, ?_, rd_cleared_rows h⟩)
  exact pss_cons (ps_set (i := 3) nd rfl (by first | exact Or.inl rfl | exact Or.inr rfl) (pe_ix ix_list (pv 0) (pv 1) (fun _ _ => rfl)))
       (pss_cons (ps_set (i := 4) nd rfl (by first | exact Or.inl rfl | exact Or.inr rfl) (pe_slice sl_list (pv 0) (po_none) (po_some (pe_op op_add (pv 1) (pe_int)))))
       (pss_cons (ps_for PassesOwn.never rfl (pi_list (pe_slice sl_list (pv 0) (po_some (pe_op op_add (pv 1) (pe_int))) (po_none))) (pg_name (i := 5) nd rfl (by first | exact Or.inl rfl | exact Or.inr rfl)) (pss_one (ps_expr (pe_bm PySem.F.plainAttrs_list PySem.F.slot_list_append PySem.F.type_list_append mt_append (pv 4) (pa_cons (pe_lc (own := [("j", 6)]) (by rfl) nd (pi_range1 (by rfl) T.z_range (pa_cons (pe_callB call_len_seq (by rfl) T.z_len (by decide +kernel) (pa_cons (pv 5) (pa_nil))) (pa_nil))) (blkOk_by (own := [("j", 6)]) (N := ["rows", "at", "before", "top", "done", "row", "j"]) (sc := defScope s_cleared_rows) (by decide +kernel)) (fun _ _ _ _ _ => pg_name (i := 6) nd rfl (by first | exact Or.inl rfl | exact Or.inr rfl)) (fun _ _ _ _ _ => pts_nil) (fun _ _ _ _ _ => pe_op op_fdivA (pe_op op_sub (pe_op op_mulW (pe_ix ix_list (pv 3) (pv 1) (fun _ _ => rfl)) (pe_ix ix_list (pv 5) (pv 6) (fun _ _ => rfl))) (pe_op op_mulW (pe_ix ix_list (pv 5) (pv 1) (fun _ _ => rfl)) (pe_ix ix_list (pv 3) (pv 6) (fun _ _ => rfl)))) (pv 2))) (pa_nil))))))
       (pss_one (ps_ret (pv 4)))))
theorem ok_determinant (T : Txt K mg Cof ad fd) : FnOk P w K mg base CX0 2 (ad 2) (fd 2) ["rows"] (sp_determinant K Cof) := by
  have G_cleared_rows := ok_cleared_rows (P := P) (w := w) (base := base) T
  have B_cleared_rows := B_cleared_rows T
  have G_pivot_at := ok_pivot_at (P := P) (w := w) (base := base) T
  have B_pivot_at := B_pivot_at T
  have nd := sc_determinant.nd
  refine T.F_determinant.ok sc_determinant (fun vs H Q E h => len_determinant h) (fun cdv A outer s H vs Q E hr h => ⟨t_determinant K Cof E, ?_, rd_determinant h⟩)
  exact pss_cons (ps_setLc (i := 1) (own := [("row", 2)]) (by rfl) nd rfl rfl (sw_true rfl rfl rfl (by decide +kernel)) (pi_list (pv 0)) (blkOk_by (own := [("row", 2)]) (N := ["rows", "left", "row", "sign", "before", "at", "k", "kept"]) (sc := defScope s_determinant) (by decide +kernel)) (fun _ _ _ _ _ => pg_name (i := 2) nd rfl (by first | exact Or.inl rfl | exact Or.inr rfl)) (fun _ _ _ _ _ => pts_nil) (fun _ _ _ _ _ => pe_callTy call_list_of (by rfl) T.z_list (by decide +kernel) (pa_cons (pv 2) (pa_nil))))
       (pss_cons (ps_set (i := 3) nd rfl (by first | exact Or.inl rfl | exact Or.inr rfl) (pe_int))
       (pss_cons (ps_set (i := 4) nd rfl (by first | exact Or.inl rfl | exact Or.inr rfl) (pe_int))
       (pss_cons (ps_for PassesOwn.never rfl (pi_range1 (by rfl) T.z_range (pa_cons (pe_callB call_len_seq (by rfl) T.z_len (by decide +kernel) (pa_cons (pv 0) (pa_nil))) (pa_nil))) (pg_name (i := 5) nd rfl (by first | exact Or.inl rfl | exact Or.inr rfl)) (pss_cons (ps_set (i := 6) nd rfl (by first | exact Or.inl rfl | exact Or.inr rfl) (pe_call G_pivot_at (hr.mono (by decide)) (by rfl) T.g_pivot_at T.F_pivot_at.kp B_pivot_at .nil pass0 (pa_cons (pv 1) (pa_cons (pv 5) (pa_nil)))))
       (pss_cons (ps_if (pt_cmpR op_eq (pv 6) (pe_callB call_len_seq (by rfl) T.z_len (by decide +kernel) (pa_cons (pv 0) (pa_nil))) (nomark _)) (pss_one (ps_ret (pe_int))) (pss_nil))
       (pss_cut (ps_if (pt_cmpR op_gt (pv 6) (pv 5) (nomark _)) (pss_cons (ps_set (i := 7) nd rfl (by first | exact Or.inl rfl | exact Or.inr rfl) (pe_ix ix_list (pv 1) (pv 5) (fun _ _ => rfl)))
       (pss_cons (ps_asg (pe_ix ix_list (pv 1) (pv 6) (fun _ _ => rfl)) (pg_sub (pv 1) (pv 5) set_list))
       (pss_cons (ps_asg (pv 7) (pg_sub (pv 1) (pv 6) set_list))
       (pss_one (ps_set (i := 3) nd rfl (by first | exact Or.inl rfl | exact Or.inr rfl) (pe_un un_neg (pv 3))))))) (pss_nil))
       (pss_cons (ps_set (i := 1) nd rfl (by first | exact Or.inl rfl | exact Or.inr rfl) (pe_call G_cleared_rows (hr.mono (by decide)) (by rfl) T.g_cleared_rows T.F_cleared_rows.kp B_cleared_rows .nil pass0 (pa_cons (pv 1) (pa_cons (pv 5) (pa_cons (pv 4) (pa_nil))))))
       (pss_one (ps_set (i := 4) nd rfl (by first | exact Or.inl rfl | exact Or.inr rfl) (pe_ix ix_list (pe_ix ix_list (pv 1) (pv 5) (fun _ _ => rfl)) (pv 5) (fun _ _ => rfl)))))))))
       (pss_one (ps_ret (pe_op op_mulW (pv 3) (pv 4)))))))
theorem ok_sylvester_rows (T : Txt K mg Cof ad fd) : FnOk P w K mg base CX0 1 (ad 3) (fd 3) ["P", "Q"] (sp_sylvester_rows K Cof) := by
  have nd := sc_sylvester_rows.nd
  refine T.F_sylvester_rows.ok sc_sylvester_rows (fun vs H Q E h => len_sylvester_rows h) (fun cdv A outer s H vs Q E hr h => ⟨t_sylvester_rows K Cof E, ?_, rd_sylvester_rows h⟩)
  exact pss_cons (ps_set (i := 2) nd rfl (by first | exact Or.inl rfl | exact Or.inr rfl) (pe_op op_sub (pe_callB call_len_seq (by rfl) T.z_len (by decide +kernel) (pa_cons (pv 0) (pa_nil))) (pe_int)))
       (pss_cons (ps_set (i := 3) nd rfl (by first | exact Or.inl rfl | exact Or.inr rfl) (pe_op op_sub (pe_callB call_len_seq (by rfl) T.z_len (by decide +kernel) (pa_cons (pv 1) (pa_nil))) (pe_int)))
       (pss_cons (ps_set (i := 4) nd rfl (by first | exact Or.inl rfl | exact Or.inr rfl) (pe_lst (pa_nil)))
       (pss_cons (ps_for PassesOwn.never rfl (pi_range1 (by rfl) T.z_range (pa_cons (pv 3) (pa_nil))) (pg_name (i := 5) nd rfl (by first | exact Or.inl rfl | exact Or.inr rfl)) (pss_one (ps_expr (pe_bm PySem.F.plainAttrs_list PySem.F.slot_list_append PySem.F.type_list_append mt_append (pv 4) (pa_cons (pe_op op_cat (pe_op op_cat (pe_op op_rep (pe_lst (pa_cons (pe_int) (pa_nil))) (pv 5)) (pe_listrev (by rfl) (by rfl) T.z_list (by rfl) T.z_reversed (pa_cons (pv 0) (pa_nil)))) (pe_op op_rep (pe_lst (pa_cons (pe_int) (pa_nil))) (pe_op op_sub (pe_op op_sub (pv 3) (pe_int)) (pv 5)))) (pa_nil))))))
       (pss_cons (ps_for PassesOwn.never rfl (pi_range1 (by rfl) T.z_range (pa_cons (pv 2) (pa_nil))) (pg_name (i := 5) nd rfl (by first | exact Or.inl rfl | exact Or.inr rfl)) (pss_one (ps_expr (pe_bm PySem.F.plainAttrs_list PySem.F.slot_list_append PySem.F.type_list_append mt_append (pv 4) (pa_cons (pe_op op_cat (pe_op op_cat (pe_op op_rep (pe_lst (pa_cons (pe_int) (pa_nil))) (pv 5)) (pe_listrev (by rfl) (by rfl) T.z_list (by rfl) T.z_reversed (pa_cons (pv 1) (pa_nil)))) (pe_op op_rep (pe_lst (pa_cons (pe_int) (pa_nil))) (pe_op op_sub (pe_op op_sub (pv 2) (pe_int)) (pv 5)))) (pa_nil))))))
       (pss_one (ps_ret (pv 4)))))))
theorem ok_resultant (T : Txt K mg Cof ad fd) : FnOk P w K mg base CX0 3 (ad 4) (fd 4) ["P", "Q"] (sp_resultant K Cof) := by
  have G_determinant := ok_determinant (P := P) (w := w) (base := base) T
  have B_determinant := B_determinant T
  have G_sylvester_rows := ok_sylvester_rows (P := P) (w := w) (base := base) T
  have B_sylvester_rows := B_sylvester_rows T
  have nd := sc_resultant.nd
  refine T.F_resultant.ok sc_resultant (fun vs H Q E h => len_resultant h) (fun cdv A outer s H vs Q E hr h => ⟨t_resultant K Cof E, ?_, rd_resultant h⟩)
  exact pss_cons (ps_if (PW.pt (pw_or (pt_cmpR (op_eqD hr.units) (pv 0) (pe_lst (pa_nil)) (nomark _)) (pw_or1 (pt_cmpR (op_eqD hr.units) (pv 1) (pe_lst (pa_nil)) (nomark _))))) (pss_one (ps_ret (pe_int))) (pss_nil))
       (pss_one (ps_ret (pe_call G_determinant (hr.mono (by decide)) (by rfl) T.g_determinant T.F_determinant.kp B_determinant .nil pass0 (pa_cons (pe_call G_sylvester_rows (hr.mono (by decide)) (by rfl) T.g_sylvester_rows T.F_sylvester_rows.kp B_sylvester_rows .nil pass0 (pa_cons (pv 0) (pa_cons (pv 1) (pa_nil)))) (pa_nil)))))
theorem ok__law_cell_at (T : Txt K mg Cof ad fd) : FnOk P w K mg base CX0 1 (ad 5) (fd 5) ["_law_script", "_law_k"] (sp__law_cell_at K Cof) := by
  have nd := sc__law_cell_at.nd
  refine T.F__law_cell_at.ok sc__law_cell_at (fun vs H Q E h => len__law_cell_at h) (fun cdv A outer s H vs Q E hr h => ⟨t__law_cell_at K Cof E, ?_, rd__law_cell_at h⟩)
  exact pss_cons (ps_if (pt_cmpR op_lt (pv 1) (pe_callB call_len_seq (by rfl) T.z_len (by decide +kernel) (pa_cons (pv 0) (pa_nil))) (nomark _)) (pss_one (ps_ret (pe_ix ix_list (pv 0) (pv 1) (fun _ _ => rfl)))) (pss_nil))
       (pss_one (ps_ret (pe_int)))
theorem ok__law_whole (T : Txt K mg Cof ad fd) : FnOk P w K mg base CX0 1 (ad 6) (fd 6) ["_law_found"] (sp__law_whole K Cof) := by
  have nd := sc__law_whole.nd
  refine T.F__law_whole.ok sc__law_whole (fun vs H Q E h => len__law_whole h) (fun cdv A outer s H vs Q E hr h => ⟨t__law_whole K Cof E, ?_, rd__law_whole h⟩)
  exact pss_one (ps_ret (pe_and (pe_callB call_isi (by rfl) T.z_isinstance (by decide +kernel) (pa_cons (pv 0) (pa_cons (pe_bltn (v := .ty "int") (by rfl) T.z_int (by decide +kernel) rfl) (pa_nil)))) (pe_one (pe_not (pe_callB call_isi (by rfl) T.z_isinstance (by decide +kernel) (pa_cons (pv 0) (pa_cons (pe_bltn (v := .ty "bool") (by rfl) T.z_bool (by decide +kernel) rfl) (pa_nil))))))))
theorem ok__law_number (T : Txt K mg Cof ad fd) : FnOk P w K mg base CX0 1 (ad 7) (fd 7) ["_law_cell", "_law_at"] (sp__law_number K Cof) := by
  have nd := sc__law_number.nd
  refine T.F__law_number.ok sc__law_number (fun vs H Q E h => len__law_number h) (fun cdv A outer s H vs Q E hr h => ⟨t__law_number K Cof E, ?_, rd__law_number h⟩)
  exact pss_cons (ps_if (pt_cmpR op_eq (pe_op op_modN (pv 0) (pe_int)) (pe_int) (nomark _)) (pss_one (ps_ret (pe_op op_sub (pe_op op_modN (pe_op op_fdivA (pv 0) (pe_int)) (pe_op op_add (pe_op op_mulW (pe_int) (pe_op op_pow (pe_int) (pe_int))) (pe_int))) (pe_op op_pow (pe_int) (pe_int))))) (pss_nil))
       (pss_one (ps_ret (pe_op op_sub (pe_op op_modN (pe_op op_add (pe_op op_fdivA (pv 0) (pe_int)) (pe_op op_mulW (pv 1) (pv 1))) (pe_int)) (pe_int))))
theorem ok__law_drawn (T : Txt K mg Cof ad fd) : FnOk P w K mg base CX0 2 (ad 8) (fd 8) ["_law_script", "_law_at", "_law_size"] (sp__law_drawn K Cof) := by
  have G__law_cell_at := ok__law_cell_at (P := P) (w := w) (base := base) T
  have B__law_cell_at := B__law_cell_at T
  have G__law_number := ok__law_number (P := P) (w := w) (base := base) T
  have B__law_number := B__law_number T
  have nd := sc__law_drawn.nd
  refine T.F__law_drawn.ok sc__law_drawn (fun vs H Q E h => len__law_drawn h) (fun cdv A outer s H vs Q E hr h => ⟨t__law_drawn K Cof E, ?_, rd__law_drawn h⟩)
  exact pss_cons (ps_setLc (i := 3) (own := [("_law_k", 4)]) (by rfl) nd rfl rfl (sw_true rfl rfl rfl (by decide +kernel)) (pi_range1 (by rfl) T.z_range (pa_cons (pe_op op_add (pv 2) (pe_int)) (pa_nil))) (blkOk_by (own := [("_law_k", 4)]) (N := ["_law_script", "_law_at", "_law_size", "_law_row", "_law_k"]) (sc := defScope s__law_drawn) (by decide +kernel)) (fun _ _ _ _ _ => pg_name (i := 4) nd rfl (by first | exact Or.inl rfl | exact Or.inr rfl)) (fun _ _ _ _ _ => pts_nil) (fun _ _ _ _ _ => pe_call G__law_number (hr.mono (by decide)) (by rfl) T.g__law_number T.F__law_number.kp B__law_number .nil pass0 (pa_cons (pe_call G__law_cell_at (hr.mono (by decide)) (by rfl) T.g__law_cell_at T.F__law_cell_at.kp B__law_cell_at .nil pass0 (pa_cons (pv 0) (pa_cons (pe_op op_add (pv 1) (pv 4)) (pa_nil)))) (pa_cons (pv 4) (pa_nil)))))
       (pss_cut (ps_if (pt_cmpR op_eq (pe_ix ix_list (pv 3) (pv 2) (fun _ _ => rfl)) (pe_int) (nomark _)) (pss_one (ps_asg (pe_op op_sub (pe_int) (pe_op op_mulW (pe_int) (pe_op op_modN (pv 2) (pe_int)))) (pg_sub (pv 3) (pv 2) set_list))) (pss_nil))
       (pss_one (ps_ret (pv 3))))
theorem ok__law_product (T : Txt K mg Cof ad fd) : FnOk P w K mg base CX0 1 (ad 9) (fd 9) ["_law_kp", "_law_kq"] (sp__law_product K Cof) := by
  have nd := sc__law_product.nd
  refine T.F__law_product.ok sc__law_product (fun vs H Q E h => len__law_product h) (fun cdv A outer s H vs Q E hr h => ⟨t__law_product K Cof E, ?_, rd__law_product h⟩)
  exact pss_cons (ps_set (i := 2) nd rfl (by first | exact Or.inl rfl | exact Or.inr rfl) (pe_op op_rep (pe_lst (pa_cons (pe_int) (pa_nil))) (pe_op op_sub (pe_op op_add (pe_callB call_len_seq (by rfl) T.z_len (by decide +kernel) (pa_cons (pv 0) (pa_nil))) (pe_callB call_len_seq (by rfl) T.z_len (by decide +kernel) (pa_cons (pv 1) (pa_nil)))) (pe_int))))
       (pss_cons (ps_for PassesOwn.never rfl (pi_range1 (by rfl) T.z_range (pa_cons (pe_callB call_len_seq (by rfl) T.z_len (by decide +kernel) (pa_cons (pv 0) (pa_nil))) (pa_nil))) (pg_name (i := 3) nd rfl (by first | exact Or.inl rfl | exact Or.inr rfl)) (pss_one (ps_for PassesOwn.never rfl (pi_range1 (by rfl) T.z_range (pa_cons (pe_callB call_len_seq (by rfl) T.z_len (by decide +kernel) (pa_cons (pv 1) (pa_nil))) (pa_nil))) (pg_name (i := 4) nd rfl (by first | exact Or.inl rfl | exact Or.inr rfl)) (pss_one (ps_asg (pe_op op_add (pe_ix ix_list (pv 2) (pe_op op_add (pv 3) (pv 4)) (fun _ _ => rfl)) (pe_op op_mulW (pe_ix ix_list (pv 0) (pv 3) (fun _ _ => rfl)) (pe_ix ix_list (pv 1) (pv 4) (fun _ _ => rfl)))) (pg_sub (pv 2) (pe_op op_add (pv 3) (pv 4)) set_list))))))
       (pss_one (ps_ret (pv 2))))
theorem ok__law_sum (T : Txt K mg Cof ad fd) : FnOk P w K mg base CX0 1 (ad 10) (fd 10) ["_law_kp", "_law_kq"] (sp__law_sum K Cof) := by
  have nd := sc__law_sum.nd
  refine T.F__law_sum.ok sc__law_sum (fun vs H Q E h => len__law_sum h) (fun cdv A outer s H vs Q E hr h => ⟨t__law_sum K Cof E, ?_, rd__law_sum h⟩)
  exact pss_cons (ps_set (i := 2) nd rfl (by first | exact Or.inl rfl | exact Or.inr rfl) (pe_callTy call_list_of (by rfl) T.z_list (by decide +kernel) (pa_cons (pv 0) (pa_nil))))
       (pss_cons (ps_for PassesOwn.never rfl (pi_range1 (by rfl) T.z_range (pa_cons (pe_callB call_len_seq (by rfl) T.z_len (by decide +kernel) (pa_cons (pv 1) (pa_nil))) (pa_nil))) (pg_name (i := 3) nd rfl (by first | exact Or.inl rfl | exact Or.inr rfl)) (pss_one (ps_asg (pe_op op_add (pe_ix ix_list (pv 2) (pv 3) (fun _ _ => rfl)) (pe_ix ix_list (pv 1) (pv 3) (fun _ _ => rfl))) (pg_sub (pv 2) (pv 3) set_list))))
       (pss_one (ps_ret (pv 2))))
theorem ok__law_power (T : Txt K mg Cof ad fd) : FnOk P w K mg base CX0 1 (ad 11) (fd 11) ["_law_base", "_law_k"] (sp__law_power K Cof) := by
  have nd := sc__law_power.nd
  refine T.F__law_power.ok sc__law_power (fun vs H Q E h => len__law_power h) (fun cdv A outer s H vs Q E hr h => ⟨t__law_power K Cof E, ?_, rd__law_power h⟩)
  exact pss_cons (ps_set (i := 2) nd rfl (by first | exact Or.inl rfl | exact Or.inr rfl) (pe_int))
       (pss_cons (ps_for PassesOwn.never rfl (pi_range1 (by rfl) T.z_range (pa_cons (pv 1) (pa_nil))) (pg_name (i := 3) nd rfl (by first | exact Or.inl rfl | exact Or.inr rfl)) (pss_one (ps_set (i := 2) nd rfl (by first | exact Or.inl rfl | exact Or.inr rfl) (pe_op op_mulW (pv 2) (pv 0)))))
       (pss_one (ps_ret (pv 2))))
theorem ok_law (T : Txt K mg Cof ad fd) : FnOk P w K mg base CX0 4 (ad 12) (fd 12) ["_law_script"] (sp_law K Cof) := by
  have G__law_cell_at := ok__law_cell_at (P := P) (w := w) (base := base) T
  have B__law_cell_at := B__law_cell_at T
  have G__law_drawn := ok__law_drawn (P := P) (w := w) (base := base) T
  have B__law_drawn := B__law_drawn T
  have G__law_power := ok__law_power (P := P) (w := w) (base := base) T
  have B__law_power := B__law_power T
  have G__law_product := ok__law_product (P := P) (w := w) (base := base) T
  have B__law_product := B__law_product T
  have G__law_sum := ok__law_sum (P := P) (w := w) (base := base) T
  have B__law_sum := B__law_sum T
  have G__law_whole := ok__law_whole (P := P) (w := w) (base := base) T
  have B__law_whole := B__law_whole T
  have G_resultant := ok_resultant (P := P) (w := w) (base := base) T
  have B_resultant := B_resultant T
  have nd := sc_law.nd
  refine T.F_law.ok sc_law (fun vs H Q E h => len_law h) (fun cdv A outer s H vs Q E hr h => ⟨t_law K Cof E, ?_, rd_law h⟩)
  exact pss_cons (ps_set (i := 1) nd rfl (by first | exact Or.inl rfl | exact Or.inr rfl) (pe_call G__law_cell_at (hr.mono (by decide)) (by rfl) T.g__law_cell_at T.F__law_cell_at.kp B__law_cell_at .nil pass0 (pa_cons (pv 0) (pa_cons (pe_int) (pa_nil)))))
       (pss_cons (ps_set (i := 2) nd rfl (by first | exact Or.inl rfl | exact Or.inr rfl) (pe_op op_modN (pv 1) (pe_int)))
       (pss_cons (ps_set (i := 3) nd rfl (by first | exact Or.inl rfl | exact Or.inr rfl) (pe_op op_modN (pe_op op_fdivA (pv 1) (pe_int)) (pe_int)))
       (pss_cons (ps_set (i := 4) nd rfl (by first | exact Or.inl rfl | exact Or.inr rfl) (pe_call G__law_drawn (hr.mono (by decide)) (by rfl) T.g__law_drawn T.F__law_drawn.kp B__law_drawn .nil pass0 (pa_cons (pv 0) (pa_cons (pe_int) (pa_cons (pv 2) (pa_nil))))))
       (pss_cons (ps_set (i := 5) nd rfl (by first | exact Or.inl rfl | exact Or.inr rfl) (pe_call G__law_drawn (hr.mono (by decide)) (by rfl) T.g__law_drawn T.F__law_drawn.kp B__law_drawn .nil pass0 (pa_cons (pv 0) (pa_cons (pe_int) (pa_cons (pv 3) (pa_nil))))))
       (pss_cons (ps_set (i := 6) nd rfl (by first | exact Or.inl rfl | exact Or.inr rfl) (pe_call G__law_drawn (hr.mono (by decide)) (by rfl) T.g__law_drawn T.F__law_drawn.kp B__law_drawn .nil pass0 (pa_cons (pv 0) (pa_cons (pe_int) (pa_cons (pe_op op_modN (pe_op op_fdivA (pv 1) (pe_int)) (pe_int)) (pa_nil))))))
       (pss_cons (ps_set (i := 7) nd rfl (by first | exact Or.inl rfl | exact Or.inr rfl) (pe_call G__law_drawn (hr.mono (by decide)) (by rfl) T.g__law_drawn T.F__law_drawn.kp B__law_drawn .nil pass0 (pa_cons (pv 0) (pa_cons (pe_int) (pa_cons (pe_op op_add (pe_int) (pe_op op_modN (pe_op op_fdivA (pv 1) (pe_int)) (pe_int))) (pa_nil))))))
       (pss_cons (ps_set (i := 8) nd rfl (by first | exact Or.inl rfl | exact Or.inr rfl) (pe_call G_resultant (hr.mono (by decide)) (by rfl) T.g_resultant T.F_resultant.kp B_resultant .nil pass0 (pa_cons (pv 4) (pa_cons (pv 5) (pa_nil)))))
       (pss_cons (ps_if (pt_not (pt_val (pe_call G__law_whole (hr.mono (by decide)) (by rfl) T.g__law_whole T.F__law_whole.kp B__law_whole .nil pass0 (pa_cons (pv 8) (pa_nil))))) (pss_one (ps_ret (pe_bl))) (pss_nil))
       (pss_cons (ps_if (pt_cmpR op_ne (pe_call G_resultant (hr.mono (by decide)) (by rfl) T.g_resultant T.F_resultant.kp B_resultant .nil pass0 (pa_cons (pv 4) (pa_cons (pe_call G__law_product (hr.mono (by decide)) (by rfl) T.g__law_product T.F__law_product.kp B__law_product .nil pass0 (pa_cons (pv 5) (pa_cons (pv 6) (pa_nil)))) (pa_nil)))) (pe_op op_mulW (pv 8) (pe_call G_resultant (hr.mono (by decide)) (by rfl) T.g_resultant T.F_resultant.kp B_resultant .nil pass0 (pa_cons (pv 4) (pa_cons (pv 6) (pa_nil))))) (nomark _)) (pss_one (ps_ret (pe_bl))) (pss_nil))
       (pss_cons (ps_if (pt_cmpR op_ne (pe_call G_resultant (hr.mono (by decide)) (by rfl) T.g_resultant T.F_resultant.kp B_resultant .nil pass0 (pa_cons (pe_call G__law_product (hr.mono (by decide)) (by rfl) T.g__law_product T.F__law_product.kp B__law_product .nil pass0 (pa_cons (pv 6) (pa_cons (pv 4) (pa_nil)))) (pa_cons (pv 5) (pa_nil)))) (pe_op op_mulW (pe_call G_resultant (hr.mono (by decide)) (by rfl) T.g_resultant T.F_resultant.kp B_resultant .nil pass0 (pa_cons (pv 6) (pa_cons (pv 5) (pa_nil)))) (pv 8)) (nomark _)) (pss_one (ps_ret (pe_bl))) (pss_nil))
       (pss_cons (ps_if (pt_cmpR op_ne (pe_call G_resultant (hr.mono (by decide)) (by rfl) T.g_resultant T.F_resultant.kp B_resultant .nil pass0 (pa_cons (pe_call G__law_product (hr.mono (by decide)) (by rfl) T.g__law_product T.F__law_product.kp B__law_product .nil pass0 (pa_cons (pv 4) (pa_cons (pv 7) (pa_nil)))) (pa_cons (pe_call G__law_product (hr.mono (by decide)) (by rfl) T.g__law_product T.F__law_product.kp B__law_product .nil pass0 (pa_cons (pv 5) (pa_cons (pv 7) (pa_nil)))) (pa_nil)))) (pe_int) (nomark _)) (pss_one (ps_ret (pe_bl))) (pss_nil))
       (pss_cons (ps_if (pt_cmpR op_eq (pv 2) (pe_int) (nomark _)) (pss_one (ps_ret (pe_bl))) (pss_nil))
       (pss_cons (ps_set (i := 9) nd rfl (by first | exact Or.inl rfl | exact Or.inr rfl) (pe_call G__law_drawn (hr.mono (by decide)) (by rfl) T.g__law_drawn T.F__law_drawn.kp B__law_drawn .nil pass0 (pa_cons (pv 0) (pa_cons (pe_int) (pa_cons (pe_op op_modN (pe_op op_fdivA (pv 1) (pe_int)) (pv 2)) (pa_nil))))))
       (pss_cons (ps_set (i := 10) nd rfl (by first | exact Or.inl rfl | exact Or.inr rfl) (pe_call G__law_drawn (hr.mono (by decide)) (by rfl) T.g__law_drawn T.F__law_drawn.kp B__law_drawn .nil pass0 (pa_cons (pv 0) (pa_cons (pe_int) (pa_cons (pe_op op_modN (pe_op op_fdivA (pv 1) (pe_int)) (pe_int)) (pa_nil))))))
       (pss_cons (ps_set (i := 11) nd rfl (by first | exact Or.inl rfl | exact Or.inr rfl) (pe_call G__law_sum (hr.mono (by decide)) (by rfl) T.g__law_sum T.F__law_sum.kp B__law_sum .nil pass0 (pa_cons (pe_call G__law_product (hr.mono (by decide)) (by rfl) T.g__law_product T.F__law_product.kp B__law_product .nil pass0 (pa_cons (pv 4) (pa_cons (pv 10) (pa_nil)))) (pa_cons (pv 9) (pa_nil)))))
       (pss_cons (ps_set (i := 12) nd rfl (by first | exact Or.inl rfl | exact Or.inr rfl) (pe_op op_mulW (pe_call G_resultant (hr.mono (by decide)) (by rfl) T.g_resultant T.F_resultant.kp B_resultant .nil pass0 (pa_cons (pv 4) (pa_cons (pv 9) (pa_nil)))) (pe_call G__law_power (hr.mono (by decide)) (by rfl) T.g__law_power T.F__law_power.kp B__law_power .nil pass0 (pa_cons (pe_ix ix_list (pv 4) (pv 2) (fun _ _ => rfl)) (pa_cons (pe_op op_sub (pe_callB call_len_seq (by rfl) T.z_len (by decide +kernel) (pa_cons (pv 11) (pa_nil))) (pe_int)) (pa_nil))))))
       (pss_one (ps_ret (pe_cmpR op_eq (pe_op op_mulW (pe_call G_resultant (hr.mono (by decide)) (by rfl) T.g_resultant T.F_resultant.kp B_resultant .nil pass0 (pa_cons (pv 4) (pa_cons (pv 11) (pa_nil)))) (pe_call G__law_power (hr.mono (by decide)) (by rfl) T.g__law_power T.F__law_power.kp B__law_power .nil pass0 (pa_cons (pe_ix ix_list (pv 4) (pv 2) (fun _ _ => rfl)) (pa_cons (pe_op op_sub (pe_callB call_len_seq (by rfl) T.z_len (by decide +kernel) (pa_cons (pv 9) (pa_nil))) (pe_int)) (pa_nil))))) (pv 12) (nomark _))))))))))))))))))))
end
theorem all_mk {l : PySem.W.OpenLaw} {w : World} {K : PySem.W.Frag} {h : Heap} {mg : Str → Option Value} {fa : Addr} (X : K.In h) (G : h.Ns mainGlobals mg) (hfa : mg "law" = some (.ref fa))
    {f0 : Addr} {od0 an0 : Option Addr} {sl0 : Array (Option Value)} {oc0 kV0 dc0 pm0 cd0 ct0 : Value}
    {f1 : Addr} {od1 an1 : Option Addr} {sl1 : Array (Option Value)} {oc1 kV1 dc1 pm1 cd1 ct1 : Value}
    {f2 : Addr} {od2 an2 : Option Addr} {sl2 : Array (Option Value)} {oc2 kV2 dc2 pm2 cd2 ct2 : Value}
    {f3 : Addr} {od3 an3 : Option Addr} {sl3 : Array (Option Value)} {oc3 kV3 dc3 pm3 cd3 ct3 : Value}
    {f4 : Addr} {od4 an4 : Option Addr} {sl4 : Array (Option Value)} {oc4 kV4 dc4 pm4 cd4 ct4 : Value}
    {f5 : Addr} {od5 an5 : Option Addr} {sl5 : Array (Option Value)} {oc5 kV5 dc5 pm5 cd5 ct5 : Value}
    {f6 : Addr} {od6 an6 : Option Addr} {sl6 : Array (Option Value)} {oc6 kV6 dc6 pm6 cd6 ct6 : Value}
    {f7 : Addr} {od7 an7 : Option Addr} {sl7 : Array (Option Value)} {oc7 kV7 dc7 pm7 cd7 ct7 : Value}
    {f8 : Addr} {od8 an8 : Option Addr} {sl8 : Array (Option Value)} {oc8 kV8 dc8 pm8 cd8 ct8 : Value}
    {f9 : Addr} {od9 an9 : Option Addr} {sl9 : Array (Option Value)} {oc9 kV9 dc9 pm9 cd9 ct9 : Value}
    {f10 : Addr} {od10 an10 : Option Addr} {sl10 : Array (Option Value)} {oc10 kV10 dc10 pm10 cd10 ct10 : Value}
    {f11 : Addr} {od11 an11 : Option Addr} {sl11 : Array (Option Value)} {oc11 kV11 dc11 pm11 cd11 ct11 : Value}
    {f12 : Addr} {od12 an12 : Option Addr} {sl12 : Array (Option Value)} {oc12 kV12 dc12 pm12 cd12 ct12 : Value}
    (a0 : PySem.W.nsIn K mainGlobals "pivot_at" = some (some (.ref f0))) (l0 : K.lookup f0 = some ⟨oc0, od0, .func (PySem.W.fnOf "pivot_at" "pivot_at" (defArgs s_pivot_at) (defBody s_pivot_at) (defScope s_pivot_at) .none kV0 dc0 pm0 an0 cd0 ct0), sl0⟩) (c0 : PySem.W.codeIn K cd0 "pivot_at" = true) (k0 : PySem.W.keepIn K (.ref f0) = true)
    (a1 : PySem.W.nsIn K mainGlobals "cleared_rows" = some (some (.ref f1))) (l1 : K.lookup f1 = some ⟨oc1, od1, .func (PySem.W.fnOf "cleared_rows" "cleared_rows" (defArgs s_cleared_rows) (defBody s_cleared_rows) (defScope s_cleared_rows) .none kV1 dc1 pm1 an1 cd1 ct1), sl1⟩) (c1 : PySem.W.codeIn K cd1 "cleared_rows" = true) (k1 : PySem.W.keepIn K (.ref f1) = true)
    (a2 : PySem.W.nsIn K mainGlobals "determinant" = some (some (.ref f2))) (l2 : K.lookup f2 = some ⟨oc2, od2, .func (PySem.W.fnOf "determinant" "determinant" (defArgs s_determinant) (defBody s_determinant) (defScope s_determinant) .none kV2 dc2 pm2 an2 cd2 ct2), sl2⟩) (c2 : PySem.W.codeIn K cd2 "determinant" = true) (k2 : PySem.W.keepIn K (.ref f2) = true)
    (a3 : PySem.W.nsIn K mainGlobals "sylvester_rows" = some (some (.ref f3))) (l3 : K.lookup f3 = some ⟨oc3, od3, .func (PySem.W.fnOf "sylvester_rows" "sylvester_rows" (defArgs s_sylvester_rows) (defBody s_sylvester_rows) (defScope s_sylvester_rows) .none kV3 dc3 pm3 an3 cd3 ct3), sl3⟩) (c3 : PySem.W.codeIn K cd3 "sylvester_rows" = true) (k3 : PySem.W.keepIn K (.ref f3) = true)
    (a4 : PySem.W.nsIn K mainGlobals "resultant" = some (some (.ref f4))) (l4 : K.lookup f4 = some ⟨oc4, od4, .func (PySem.W.fnOf "resultant" "resultant" (defArgs s_resultant) (defBody s_resultant) (defScope s_resultant) .none kV4 dc4 pm4 an4 cd4 ct4), sl4⟩) (c4 : PySem.W.codeIn K cd4 "resultant" = true) (k4 : PySem.W.keepIn K (.ref f4) = true)
    (a5 : PySem.W.nsIn K mainGlobals "_law_cell_at" = some (some (.ref f5))) (l5 : K.lookup f5 = some ⟨oc5, od5, .func (PySem.W.fnOf "_law_cell_at" "_law_cell_at" (defArgs s__law_cell_at) (defBody s__law_cell_at) (defScope s__law_cell_at) .none kV5 dc5 pm5 an5 cd5 ct5), sl5⟩) (c5 : PySem.W.codeIn K cd5 "_law_cell_at" = true) (k5 : PySem.W.keepIn K (.ref f5) = true)
    (a6 : PySem.W.nsIn K mainGlobals "_law_whole" = some (some (.ref f6))) (l6 : K.lookup f6 = some ⟨oc6, od6, .func (PySem.W.fnOf "_law_whole" "_law_whole" (defArgs s__law_whole) (defBody s__law_whole) (defScope s__law_whole) .none kV6 dc6 pm6 an6 cd6 ct6), sl6⟩) (c6 : PySem.W.codeIn K cd6 "_law_whole" = true) (k6 : PySem.W.keepIn K (.ref f6) = true)
    (a7 : PySem.W.nsIn K mainGlobals "_law_number" = some (some (.ref f7))) (l7 : K.lookup f7 = some ⟨oc7, od7, .func (PySem.W.fnOf "_law_number" "_law_number" (defArgs s__law_number) (defBody s__law_number) (defScope s__law_number) .none kV7 dc7 pm7 an7 cd7 ct7), sl7⟩) (c7 : PySem.W.codeIn K cd7 "_law_number" = true) (k7 : PySem.W.keepIn K (.ref f7) = true)
    (a8 : PySem.W.nsIn K mainGlobals "_law_drawn" = some (some (.ref f8))) (l8 : K.lookup f8 = some ⟨oc8, od8, .func (PySem.W.fnOf "_law_drawn" "_law_drawn" (defArgs s__law_drawn) (defBody s__law_drawn) (defScope s__law_drawn) .none kV8 dc8 pm8 an8 cd8 ct8), sl8⟩) (c8 : PySem.W.codeIn K cd8 "_law_drawn" = true) (k8 : PySem.W.keepIn K (.ref f8) = true)
    (a9 : PySem.W.nsIn K mainGlobals "_law_product" = some (some (.ref f9))) (l9 : K.lookup f9 = some ⟨oc9, od9, .func (PySem.W.fnOf "_law_product" "_law_product" (defArgs s__law_product) (defBody s__law_product) (defScope s__law_product) .none kV9 dc9 pm9 an9 cd9 ct9), sl9⟩) (c9 : PySem.W.codeIn K cd9 "_law_product" = true) (k9 : PySem.W.keepIn K (.ref f9) = true)
    (a10 : PySem.W.nsIn K mainGlobals "_law_sum" = some (some (.ref f10))) (l10 : K.lookup f10 = some ⟨oc10, od10, .func (PySem.W.fnOf "_law_sum" "_law_sum" (defArgs s__law_sum) (defBody s__law_sum) (defScope s__law_sum) .none kV10 dc10 pm10 an10 cd10 ct10), sl10⟩) (c10 : PySem.W.codeIn K cd10 "_law_sum" = true) (k10 : PySem.W.keepIn K (.ref f10) = true)
    (a11 : PySem.W.nsIn K mainGlobals "_law_power" = some (some (.ref f11))) (l11 : K.lookup f11 = some ⟨oc11, od11, .func (PySem.W.fnOf "_law_power" "_law_power" (defArgs s__law_power) (defBody s__law_power) (defScope s__law_power) .none kV11 dc11 pm11 an11 cd11 ct11), sl11⟩) (c11 : PySem.W.codeIn K cd11 "_law_power" = true) (k11 : PySem.W.keepIn K (.ref f11) = true)
    (a12 : PySem.W.nsIn K mainGlobals "law" = some (some (.ref f12))) (l12 : K.lookup f12 = some ⟨oc12, od12, .func (PySem.W.fnOf "law" "law" (defArgs s_law) (defBody s_law) (defScope s_law) .none kV12 dc12 pm12 an12 cd12 ct12), sl12⟩) (c12 : PySem.W.codeIn K cd12 "law" = true) (k12 : PySem.W.keepIn K (.ref f12) = true)
    (z_bool : PySem.W.nsIn K mainGlobals "bool" = some none)
    (z_int : PySem.W.nsIn K mainGlobals "int" = some none)
    (z_isinstance : PySem.W.nsIn K mainGlobals "isinstance" = some none)
    (z_len : PySem.W.nsIn K mainGlobals "len" = some none)
    (z_list : PySem.W.nsIn K mainGlobals "list" = some none)
    (z_range : PySem.W.nsIn K mainGlobals "range" = some none)
    (z_reversed : PySem.W.nsIn K mainGlobals "reversed" = some none)
    : ∃ fd : FuncData, (∀ (s : Shared) (v : Value), BindsTo s fd ⟨[v], []⟩ [("_law_script", v)]) ∧ ∀ base : Heap, K.In base → base.Ns mainGlobals mg → FnOk l.prog w K mg base CX0 4 fa fd ["_law_script"] (sp_law K (fun _ => 0)) := by
  have e := hfa.symm.trans (PySem.W.mg_of X G a12)
  cases e
  have T : Txt K mg (fun _ => 0) (fun i => [f0, f1, f2, f3, f4, f5, f6, f7, f8, f9, f10, f11, fa].getD i 0) (fun i => [PySem.W.fnOf "pivot_at" "pivot_at" (defArgs s_pivot_at) (defBody s_pivot_at) (defScope s_pivot_at) .none kV0 dc0 pm0 an0 cd0 ct0, PySem.W.fnOf "cleared_rows" "cleared_rows" (defArgs s_cleared_rows) (defBody s_cleared_rows) (defScope s_cleared_rows) .none kV1 dc1 pm1 an1 cd1 ct1, PySem.W.fnOf "determinant" "determinant" (defArgs s_determinant) (defBody s_determinant) (defScope s_determinant) .none kV2 dc2 pm2 an2 cd2 ct2, PySem.W.fnOf "sylvester_rows" "sylvester_rows" (defArgs s_sylvester_rows) (defBody s_sylvester_rows) (defScope s_sylvester_rows) .none kV3 dc3 pm3 an3 cd3 ct3, PySem.W.fnOf "resultant" "resultant" (defArgs s_resultant) (defBody s_resultant) (defScope s_resultant) .none kV4 dc4 pm4 an4 cd4 ct4, PySem.W.fnOf "_law_cell_at" "_law_cell_at" (defArgs s__law_cell_at) (defBody s__law_cell_at) (defScope s__law_cell_at) .none kV5 dc5 pm5 an5 cd5 ct5, PySem.W.fnOf "_law_whole" "_law_whole" (defArgs s__law_whole) (defBody s__law_whole) (defScope s__law_whole) .none kV6 dc6 pm6 an6 cd6 ct6, PySem.W.fnOf "_law_number" "_law_number" (defArgs s__law_number) (defBody s__law_number) (defScope s__law_number) .none kV7 dc7 pm7 an7 cd7 ct7, PySem.W.fnOf "_law_drawn" "_law_drawn" (defArgs s__law_drawn) (defBody s__law_drawn) (defScope s__law_drawn) .none kV8 dc8 pm8 an8 cd8 ct8, PySem.W.fnOf "_law_product" "_law_product" (defArgs s__law_product) (defBody s__law_product) (defScope s__law_product) .none kV9 dc9 pm9 an9 cd9 ct9, PySem.W.fnOf "_law_sum" "_law_sum" (defArgs s__law_sum) (defBody s__law_sum) (defScope s__law_sum) .none kV10 dc10 pm10 an10 cd10 ct10, PySem.W.fnOf "_law_power" "_law_power" (defArgs s__law_power) (defBody s__law_power) (defScope s__law_power) .none kV11 dc11 pm11 an11 cd11 ct11, PySem.W.fnOf "law" "law" (defArgs s_law) (defBody s_law) (defScope s_law) .none kV12 dc12 pm12 an12 cd12 ct12].getD i (PySem.W.fnOf "law" "law" (defArgs s_law) (defBody s_law) (defScope s_law) .none kV12 dc12 pm12 an12 cd12 ct12)) :=
    { z_bool := PySem.W.mg_none_of X G z_bool, z_int := PySem.W.mg_none_of X G z_int, z_isinstance := PySem.W.mg_none_of X G z_isinstance, z_len := PySem.W.mg_none_of X G z_len, z_list := PySem.W.mg_none_of X G z_list, z_range := PySem.W.mg_none_of X G z_range, z_reversed := PySem.W.mg_none_of X G z_reversed, g_pivot_at := PySem.W.mg_of X G a0, F_pivot_at := fun_mk (st := s_pivot_at) l0 c0 k0, g_cleared_rows := PySem.W.mg_of X G a1, F_cleared_rows := fun_mk (st := s_cleared_rows) l1 c1 k1, g_determinant := PySem.W.mg_of X G a2, F_determinant := fun_mk (st := s_determinant) l2 c2 k2, g_sylvester_rows := PySem.W.mg_of X G a3, F_sylvester_rows := fun_mk (st := s_sylvester_rows) l3 c3 k3, g_resultant := PySem.W.mg_of X G a4, F_resultant := fun_mk (st := s_resultant) l4 c4 k4, g__law_cell_at := PySem.W.mg_of X G a5, F__law_cell_at := fun_mk (st := s__law_cell_at) l5 c5 k5, g__law_whole := PySem.W.mg_of X G a6, F__law_whole := fun_mk (st := s__law_whole) l6 c6 k6, g__law_number := PySem.W.mg_of X G a7, F__law_number := fun_mk (st := s__law_number) l7 c7 k7, g__law_drawn := PySem.W.mg_of X G a8, F__law_drawn := fun_mk (st := s__law_drawn) l8 c8 k8, g__law_product := PySem.W.mg_of X G a9, F__law_product := fun_mk (st := s__law_product) l9 c9 k9, g__law_sum := PySem.W.mg_of X G a10, F__law_sum := fun_mk (st := s__law_sum) l10 c10 k10, g__law_power := PySem.W.mg_of X G a11, F__law_power := fun_mk (st := s__law_power) l11 c11 k11, g_law := PySem.W.mg_of X G a12, F_law := fun_mk (st := s_law) l12 c12 k12 }
  exact ⟨PySem.W.fnOf "law" "law" (defArgs s_law) (defBody s_law) (defScope s_law) .none kV12 dc12 pm12 an12 cd12 ct12, fun s v => .of_eq rfl, fun base _ _ => ok_law T⟩
end RP
open PySem PySem.W PyProof.Rows
set_option maxHeartbeats 0 in
theorem PySem.Challenge.cw_rootspan_k35_resultant_carried_holds : PySem.Challenge.rw_rootspan_k35_resultant_carried.Holds := by
  w_on; o_law; k_head; (case hw => w_witness2)
  k_fill
  refine L2.walk_of (l := PySem.Challenge.rw_rootspan_k35_resultant_carried) (n := 63) (k := 4) (x := "_law_script") (CX := fun _ => L2.CX0) (sp := fun w => RP.sp_law _ (fun _ => 0)) rfl (by decide) rfl ⟨rfl, by decide, by decide⟩ (fun w h Y => PySem.W.kIn_of Y) ?F (fun _ _ a ns hl _ hS => ⟨a, ns, rfl, hS, hl, fun _ => rfl⟩) (fun _ _ _ _ _ h => h)
  case F =>
    intro w mg fa h KX G hmg
    refine' RP.all_mk KX G hmg ?a0 ?l0 ?c0 ?k0 ?a1 ?l1 ?c1 ?k1 ?a2 ?l2 ?c2 ?k2 ?a3 ?l3 ?c3 ?k3 ?a4 ?l4 ?c4 ?k4 ?a5 ?l5 ?c5 ?k5 ?a6 ?l6 ?c6 ?k6 ?a7 ?l7 ?c7 ?k7 ?a8 ?l8 ?c8 ?k8 ?a9 ?l9 ?c9 ?k9 ?a10 ?l10 ?c10 ?k10 ?a11 ?l11 ?c11 ?k11 ?a12 ?l12 ?c12 ?k12 ?z_bool ?z_int ?z_isinstance ?z_len ?z_list ?z_range ?z_reversed
    (case a0 => k_is); (case l0 => k_is); (case c0 => k_is); (case k0 => k_is); (case a1 => k_is); (case l1 => k_is); (case c1 => k_is); (case k1 => k_is); (case a2 => k_is); (case l2 => k_is); (case c2 => k_is); (case k2 => k_is); (case a3 => k_is); (case l3 => k_is); (case c3 => k_is); (case k3 => k_is); (case a4 => k_is); (case l4 => k_is); (case c4 => k_is); (case k4 => k_is); (case a5 => k_is); (case l5 => k_is); (case c5 => k_is); (case k5 => k_is); (case a6 => k_is); (case l6 => k_is); (case c6 => k_is); (case k6 => k_is); (case a7 => k_is); (case l7 => k_is); (case c7 => k_is); (case k7 => k_is); (case a8 => k_is); (case l8 => k_is); (case c8 => k_is); (case k8 => k_is); (case a9 => k_is); (case l9 => k_is); (case c9 => k_is); (case k9 => k_is); (case a10 => k_is); (case l10 => k_is); (case c10 => k_is); (case k10 => k_is); (case a11 => k_is); (case l11 => k_is); (case c11 => k_is); (case k11 => k_is); (case a12 => k_is); (case l12 => k_is); (case c12 => k_is); (case k12 => k_is); (case z_bool => k_is); (case z_int => k_is); (case z_isinstance => k_is); (case z_len => k_is); (case z_list => k_is); (case z_range => k_is); (case z_reversed => k_is)

import PyProof.Rows.All
import Wide.All
import OpenK.AllK
import Wide.FinOn
import HandS.ForMost
import HandS.ForExc
import HandS.ExcInit
import HandS.ExcField
import HandS.ExcIs
import HandS.IsInst
import HandS.Conv
import HandS.TupAny
import HandS.TupMul
import HandS.SortInts
import HandS.OwnEq
import HandS.Codes
import KE.KExcIs
import HandS.ExcValue
import HandS.Strs
import PyProof.InstNe
import PyProof.TupleOfSeq
import HandS.SortRule
import HandS.EndTab
import HandS.Lambda
import HandS.TupLen
import HandS.Iter
import HandS.Zip
import HandS.TryOnly
import PyProof.EnumMake
import PyProof.TupleIter
import KE.GoesMore
import HandS.DictComp
import HandS.Sort
import KE.KRevSl
import HandS.SetFor
import HandS.Finally
import HandS.Flow
import KE.DatumOrd
import HandS.TupSets
import KE.KDictZip
import HandS.HotCalls
import KE.RegKIsAll
import PySem.Challenge.RW_foldervotes_k05_trees_and_views_refused
set_option Elab.async false
set_option linter.all false
set_option maxRecDepth 100000
set_option maxHeartbeats 4000000
namespace Fv
open PySem PySem.Spec PyProof.Rows L2


/-! ### readings in short -/
abbrev xAdd : R2 := rI0 fun i j => .int (i + j)
abbrev xSub : R2 := rI0 fun i j => .int (i - j)
abbrev xMul : R2 := rI CMul fun i j => .int (i * j)
abbrev xDiv : R2 := rI CDivN fun i j => .int (i.fdiv j)
abbrev xMod : R2 := rI (fun _ j => 0 < j) fun i j => .int (i % j)
abbrev xPow : R2 := rI CPow fun i j => .int (i ^ j.toNat)
abbrev xLt : R2 := rI0 fun i j => .bl (decide (i < j))
abbrev xLe : R2 := rI0 fun i j => .bl (decide (i ≤ j))
abbrev xGt : R2 := rI0 fun i j => .bl (decide (j < i))
abbrev xGe : R2 := rI0 fun i j => .bl (decide (j ≤ i))
abbrev xNeg : V → Hp → VK → Prop := rU fun i => .int (-i)
def xIsN : R2 := fun x y H Q => y = .non ∧ Q (.bl (decide (x = .non))) H
def xNotN : R2 := fun x y H Q => y = .non ∧ Q (.bl (!decide (x = .non))) H
def xAddStr : R2 := fun x y H Q => ∃ i j, x = .str i ∧ y = .str j ∧ i.length + j.length ≤ sizeLine ∧ Q (.str (i ++ j)) H
def xAbs : List V → Hp → VK → Prop := fun xs H Q => ∃ i, xs = [.int i] ∧ Q (.int (if i < 0 then -i else i)) H
def xInt : List V → Hp → VK → Prop := fun xs H Q => (∃ i, xs = [.int i] ∧ Q (.int i) H) ∨ ∃ k, xs = [.bl k] ∧ Q (.int (if k then 1 else 0)) H
def xLen (K : PySem.W.Frag) : List V → Hp → VK → Prop := fun xs H Q => ∃ p ys, xs = [.ref p] ∧ (SqL K H p ys ∨ SqT K H p ys) ∧ Q (.int ys.length) H
def xLenS : List V → Hp → VK → Prop := fun xs H Q => ∃ z, xs = [.str z] ∧ z.length ≤ sizeLine ∧ Q (.int z.length) H
def xListOf (K : PySem.W.Frag) : List V → Hp → VK → Prop := fun xs H Q => ∃ p ys, xs = [.ref p] ∧ (SqL K H p ys ∨ SqT K H p ys) ∧ ∀ l, H l = none → Q (.ref l) (upd H l (.lst ys))
def xTupleOf (K : PySem.W.Frag) : List V → Hp → VK → Prop := fun xs H Q => ∃ p ys, xs = [.ref p] ∧ ((SqL K H p ys ∧ ∀ l, H l = none → Q (.ref l) (upd H l (.tup ys))) ∨ (SqT K H p ys ∧ Q (.ref p) H))

/-! ### steps -/
section
variable {K : PySem.W.Frag} {σ : L2.St} {H : Hp} {Q : VK} {D : Ends} {ta tb te tc : TE} {t u : TS} {tt tu : TT} {r r' : R2} {i j : Int} {x y v : V} {a : Addr} {xs : List V}
theorem v_seq (h : t { D with nx := u D } σ H) : tSeq t u D σ H := h
theorem v_next (h : D.nx σ H) : tNext D σ H := h
theorem v_ret (h : te σ H D.rt) : tRet te D σ H := h
theorem v_retN (h : D.rt .non H) : tRetN D σ H := h
theorem v_drop (h : te σ H fun _ H1 => D.nx σ H1) : tDrop te D σ H := h
theorem v_asg {g : TG} (h : te σ H fun x H1 => g x σ H1 D.nx) : tAsg te g D σ H := h
theorem v_ifs (h : tt σ H fun b H1 => if b = true then t D σ H1 else u D σ H1) : tIfS tt t u D σ H := h
theorem v_name {k : Nat} {R : L2.St → Hp → Prop} (h : R (σ.set k (some v)) H) : gName k v σ H R := h
theorem v_sub {to ti : TE} {s : V → V → V → Hp → (Hp → Prop) → Prop} {R : L2.St → Hp → Prop} (h : to σ H fun o H1 => ti σ H1 fun i H2 => s o i v H2 fun H3 => R σ H3) : gSub to ti s v σ H R := h
theorem v_setL {k : Int} {j : Nat} {R : Hp → Prop} (h : H a = some (.lst xs)) (hj : ixN xs.length k = some j) (q : R (upd H a (.lst (xs.set j v)))) : rSetL (.ref a) (.int k) v H R := ⟨a, xs, k, j, rfl, rfl, h, hj, q⟩
theorem v_var {k : Nat} (h : σ[k]? = some (some v)) (q : Q v H) : tVar k σ H Q := ⟨v, h, q⟩
theorem v_c (q : Q v H) : tC v σ H Q := q
theorem v_op (h : ta σ H fun x H1 => tb σ H1 fun y H2 => r x y H2 Q) : tOp r ta tb σ H Q := h
theorem v_un {f : V → Hp → VK → Prop} (h : ta σ H fun x H1 => f x H1 Q) : tUn f ta σ H Q := h
theorem v_I0 {g : Int → Int → V} (q : Q (g i j) H) : rI0 g (.int i) (.int j) H Q := ⟨i, j, rfl, rfl, q⟩
theorem v_I {C : Int → Int → Prop} {g : Int → Int → V} (c : C i j) (q : Q (g i j) H) : rI C g (.int i) (.int j) H Q := ⟨i, j, rfl, rfl, c, q⟩
theorem v_U {g : Int → V} (q : Q (g i) H) : rU g (.int i) H Q := ⟨i, rfl, q⟩
theorem v_eqI (q : Q (.bl (decide (i = j))) H) : rEq (.int i) (.int j) H Q := ⟨rfl, by
  have e : decide (V.int i = V.int j) = decide (i = j) := by rw [Bool.eq_iff_iff]; simp
  rw [e]; exact q⟩
theorem v_neI (q : Q (.bl (!decide (i = j))) H) : rNe (.int i) (.int j) H Q := ⟨rfl, by
  have e : decide (V.int i = V.int j) = decide (i = j) := by rw [Bool.eq_iff_iff]; simp
  rw [e]; exact q⟩
theorem v_eqB {b c : Bool} (q : Q (.bl (decide (b = c))) H) : rEq (.bl b) (.bl c) H Q := ⟨rfl, by
  have e : decide (V.bl b = V.bl c) = decide (b = c) := by rw [Bool.eq_iff_iff]; simp
  rw [e]; exact q⟩
theorem v_neB {b c : Bool} (q : Q (.bl (!decide (b = c))) H) : rNe (.bl b) (.bl c) H Q := ⟨rfl, by
  have e : decide (V.bl b = V.bl c) = decide (b = c) := by rw [Bool.eq_iff_iff]; simp
  rw [e]; exact q⟩
theorem v_isN (q : Q (.bl (decide (x = .non))) H) : xIsN x .non H Q := ⟨rfl, q⟩
theorem v_notN (q : Q (.bl (!decide (x = .non))) H) : xNotN x .non H Q := ⟨rfl, q⟩
theorem v_ixL {n : Int} (h : SqL K H a xs) (ha : atI xs n = some v) (q : Q v H) : rIxL K (.ref a) (.int n) H Q := ⟨a, xs, n, v, rfl, rfl, h, ha, q⟩
theorem v_ixT {n : Int} (h : SqT K H a xs) (ha : atI xs n = some v) (q : Q v H) : rIxT K (.ref a) (.int n) H Q := ⟨a, xs, n, v, rfl, rfl, h, ha, q⟩
theorem v_cb {f : List V → Hp → VK → Prop} {tx : TA} (h : tx σ H fun vs H1 => f vs H1 Q) : tCB f tx σ H Q := h
theorem v_call {sp : Sp} {dvs : List V} {E : XK} {tx : TA} (h : tx σ H fun vs H1 => sp (vs ++ dvs) H1 Q E) : tCall sp dvs E tx σ H Q := h
theorem v_nil {R : List V → Hp → Prop} (h : R [] H) : tNil σ H R := h
theorem v_cons {tr : TA} {R : List V → Hp → Prop} (h : ta σ H fun x H1 => tr σ H1 fun xs H2 => R (x :: xs) H2) : tCons ta tr σ H R := h
theorem v_abs (q : Q (.int (if i < 0 then -i else i)) H) : xAbs [.int i] H Q := ⟨i, rfl, q⟩
theorem v_int (q : Q (.int i) H) : xInt [.int i] H Q := .inl ⟨i, rfl, q⟩
theorem v_lenL (h : SqL K H a xs) (q : Q (.int xs.length) H) : xLen K [.ref a] H Q := ⟨a, xs, rfl, .inl h, q⟩
theorem v_lenT (h : SqT K H a xs) (q : Q (.int xs.length) H) : xLen K [.ref a] H Q := ⟨a, xs, rfl, .inr h, q⟩
theorem v_lst {tx : TA} (h : tx σ H fun xs H1 => xs.length ≤ sizeLine ∧ ∀ p, H1 p = none → Q (.ref p) (upd H1 p (.lst xs))) : tLst tx σ H Q := h
theorem v_tup {tx : TA} (h : tx σ H fun xs H1 => xs.length ≤ sizeLine ∧ ∀ p, H1 p = none → Q (.ref p) (upd H1 p (.tup xs))) : tTup tx σ H Q := h
theorem v_bound {n : Nat} {A : Prop} (h : n ≤ 1000) (q : A) : n ≤ sizeLine ∧ A := ⟨Nat.le_of_lt (small1000 h), q⟩
theorem v_sl {f : V → Option Int → Option Int → Hp → VK → Prop} {tl th : TO} (h : te σ H fun x H1 => tl σ H1 fun l H2 => th σ H2 fun u H3 => f x l u H3 Q) : tSl f te tl th σ H Q := h
theorem v_nopart {R : Option Int → Hp → Prop} (h : R none H) : tNoPart σ H R := h
theorem v_part {R : Option Int → Hp → Prop} (h : te σ H fun x H1 => ∃ i, x = .int i ∧ R (some i) H1) : tPart te σ H R := h
theorem v_partI {R : Int → Prop} (q : R i) : ∃ k, V.int i = .int k ∧ R k := ⟨i, rfl, q⟩
theorem v_slL {lo hi : Option Int} (h : SqL K H a xs) (q : ∀ p, H p = none → Q (.ref p) (upd H p (.lst (cutV xs lo hi)))) : rSlL K (.ref a) lo hi H Q := ⟨a, xs, rfl, h, q⟩
theorem v_cat {b : Addr} {ys : List V} (h : H a = some (.lst xs)) (h' : H b = some (.lst ys)) (l : xs.length + ys.length ≤ 1000) (q : ∀ p, H p = none → Q (.ref p) (upd H p (.lst (xs ++ ys)))) : rCat (.ref a) (.ref b) H Q :=
  ⟨a, b, xs, ys, rfl, rfl, h, h', Nat.le_of_lt (small1000 l), q⟩
theorem v_if (h : tt σ H fun c H1 => if c = true then ta σ H1 Q else tb σ H1 Q) : tIf tt ta tb σ H Q := h
theorem v_chain (h : ta σ H fun x H1 => tb σ H1 fun y H2 => r x y H2 fun z H3 => ∃ k, z = .bl k ∧ (if k = true then tc σ H3 fun w' H4 => r' y w' H4 Q else Q (.bl false) H3)) : tChain r r' ta tb tc σ H Q := h
theorem v_andV (h : ta σ H fun x H1 => ∃ c, x = .bl c ∧ if c = true then tb σ H1 Q else Q (.bl false) H1) : tAndV ta tb σ H Q := h
theorem v_orV (h : ta σ H fun x H1 => ∃ c, x = .bl c ∧ if c = true then Q (.bl true) H1 else tb σ H1 Q) : tOrV ta tb σ H Q := h
theorem v_notV (h : ta σ H fun x H1 => ∃ c, x = .bl c ∧ Q (.bl (!c)) H1) : tNotV ta σ H Q := h
theorem v_bl {b : Bool} {A : Bool → Prop} (q : A b) : ∃ c, V.bl b = .bl c ∧ A c := ⟨b, rfl, q⟩
theorem v_and {R : Bool → Hp → Prop} (h : tt σ H fun c H1 => if c = true then tu σ H1 R else R false H1) : tAnd tt tu σ H R := h
theorem v_or {R : Bool → Hp → Prop} (h : tt σ H fun c H1 => if c = true then R true H1 else tu σ H1 R) : tOr tt tu σ H R := h
theorem v_not {R : Bool → Hp → Prop} (h : tt σ H fun c H1 => R (!c) H1) : tNot tt σ H R := h
theorem v_test {R : Bool → Hp → Prop} (h : ta σ H fun x H1 => ∃ k, x = .bl k ∧ R k H1) : tTest ta σ H R := h
theorem v_B {R : Bool → Hp → Prop} (h : ta σ H fun x H1 => ∃ k, x = .bl k ∧ R k H1) : tB ta σ H R := h
theorem v_yes {R : Bool → Hp → Prop} (h : R true H) : tYes σ H R := h
theorem v_dnew (q : ∀ p, H p = none → Q (.ref p) (upd H p (.dK []))) : tDNewK σ H Q := q
end
section
variable {A B : Prop}
theorem v_iteT (h : A) : if true = true then A else B := by rw [if_pos rfl]; exact h
theorem v_iteF (h : B) : if false = true then A else B := by rw [if_neg Bool.false_ne_true]; exact h
theorem v_iteNT (h : B) : if (!true) = true then A else B := v_iteF h
theorem v_iteNF (h : A) : if (!false) = true then A else B := v_iteT h
theorem v_ite {P : Prop} {dP : Decidable P} (h1 : P → A) (h2 : ¬ P → B) : if decide P = true then A else B := by
  by_cases h : P
  · rw [if_pos (decide_eq_true h)]; exact h1 h
  · rw [if_neg (by rw [decide_eq_false h]; decide)]; exact h2 h
theorem v_iteN {P : Prop} {dP : Decidable P} (h1 : ¬ P → A) (h2 : P → B) : if (!decide P) = true then A else B := by
  by_cases h : P
  · rw [if_neg (by rw [decide_eq_true h]; decide)]; exact h2 h
  · rw [if_pos (by rw [decide_eq_false h]; decide)]; exact h1 h
end


/-! ### loops -/
def LoopG (J : It) (g : TG) (tb : TS) (D : Ends) (σ : L2.St) (H : Hp) : Prop := ∃ W : Nat → Nat → L2.St → Hp → Prop, (∃ m, W 0 m σ H) ∧ ∀ i m σ H, W i m σ H →
  (J.stop i H ∧ D.nx σ H) ∨ (J.go i H ∧ ∃ N : L2.St → Hp → Prop, (∀ σ' H', N σ' H' → ∃ m', m' < m ∧ W (i + 1) m' σ' H') ∧ ∀ x H', J.yld i H x H' → g x σ H' fun σ2 H2 => tb { D with nx := N, ct := N, bk := D.nx } σ2 H2)
def LcG (J : It) (g : TG) (tt : TT) (te : TE) (vs : List Nat) (σ : L2.St) (H1 : Hp) (Q : VK) : Prop := ∀ D, H1 D = none → ∃ W : Nat → Nat → Hp → Prop, (∃ m, W 0 m (upd H1 D (.lst []))) ∧ ∀ i m H, W i m H →
  (J.stop i H ∧ Q (.ref D) H) ∨ (J.go i H ∧ ∃ Nx : Hp → Prop, (∀ H', Nx H' → ∃ m', m' < m ∧ W (i + 1) m' H') ∧ ∀ x H', J.yld i H x H' → g x (wipe σ vs) H' fun σ2 H2 => wipe σ2 vs = wipe σ vs ∧ tt σ2 H2 fun b H3 =>
    if b = true then te σ2 H3 fun y H4 => ∃ acc, H4 D = some (.lst acc) ∧ acc.length < sizeLine ∧ Nx (upd H4 D (.lst (acc ++ [y]))) else Nx H3)
def Rg1K (vs : List V) (R : It → Hp → Prop) (H : Hp) : Prop := ∃ j : Int, vs = [.int j] ∧ -(2 ^ 62) ≤ j ∧ j < 2 ^ 62 ∧ R (Itr 0 j.toNat) H
def Rg2K (vs : List V) (R : It → Hp → Prop) (H : Hp) : Prop := ∃ i j : Int, vs = [.int i, .int j] ∧ (-(2 ^ 62) ≤ i ∧ i < 2 ^ 62 ∧ -(2 ^ 62) ≤ j ∧ j < 2 ^ 62) ∧ R (Itr i (j - i).toNat) H
def ItLK (K : PySem.W.Frag) (x : V) (R : It → Hp → Prop) (H : Hp) : Prop := ∃ a, x = .ref a ∧ (∃ xs, SqL K H a xs) ∧ R (Itl K a) H
def ItTK (K : PySem.W.Frag) (x : V) (R : It → Hp → Prop) (H : Hp) : Prop := ∃ a, x = .ref a ∧ (∃ xs, SqT K H a xs) ∧ R (Itt K a) H
section
variable {K : PySem.W.Frag} {σ : L2.St} {H : Hp} {D : Ends} {ta : TA} {te : TE} {tt : TT} {tb : TS} {g : TG} {wi : TI} {R : It → Hp → Prop} {Q : VK} {a : Addr} {xs : List V} {vs : List Nat}
theorem v_for (h : wi σ H fun J H1 => LoopG J g tb D σ H1) : tFor wi g tb D σ H := h
theorem v_lc (h : wi σ H fun J H1 => LcG J g tt te vs σ H1 Q) : tLc wi g tt te vs σ H Q := h
theorem v_iR1 (h : ta σ H fun vs H1 => Rg1K vs R H1) : iRng1 ta σ H R := h
theorem v_iR2 (h : ta σ H fun vs H1 => Rg2K vs R H1) : iRng2 ta σ H R := h
theorem v_iL (h : te σ H fun x H1 => ItLK K x R H1) : iList K te σ H R := h
theorem v_iT (h : te σ H fun x H1 => ItTK K x R H1) : iTup K te σ H R := h
theorem v_itL (h : SqL K H a xs) (q : R (Itl K a) H) : ItLK K (.ref a) R H := ⟨a, rfl, ⟨xs, h⟩, q⟩
/-- a comprehension's turn: what is made so far stands at A -/
def LcT (g : TG) (tt : TT) (te : TE) (vs : List Nat) (σ : L2.St) (A : Addr) (x : V) (H : Hp) (N : Hp → Prop) : Prop := g x (wipe σ vs) H fun σ2 H2 => wipe σ2 vs = wipe σ vs ∧ tt σ2 H2 fun b H3 =>
  if b = true then te σ2 H3 fun y H4 => ∃ acc, H4 A = some (.lst acc) ∧ acc.length < sizeLine ∧ N (upd H4 A (.lst (acc ++ [y]))) else N H3
theorem v_lcL (W : Addr → Nat → Hp → Prop) (h0 : ∀ A, H A = none → W A 0 (upd H A (.lst []))) (hl : ∀ A i H', H A = none → i ≤ xs.length → W A i H' → SqL K H' a xs)
    (hs : ∀ A i x H', H A = none → xs[i]? = some x → W A i H' → LcT g tt te vs σ A x H' (W A (i + 1))) (hd : ∀ A H', H A = none → W A xs.length H' → Q (.ref A) H') : LcG (Itl K a) g tt te vs σ H Q := fun A nA =>
  lc_list (xs := xs) (W A) (h0 A nA) (fun i H' hi w => hl A i H' nA hi w) (fun i x H' hx w => hs A i x H' nA hx w) fun H' w => hd A H' nA w
/-- a turn of a comprehension with one name in slot i -/
theorem v_turn {i : Nat} {A : Addr} {x : V} {N : Hp → Prop} (e : wipe ((wipe σ vs).set i (some x)) vs = wipe σ vs) (h : tt ((wipe σ vs).set i (some x)) H fun b H3 =>
    if b = true then te ((wipe σ vs).set i (some x)) H3 fun y H4 => ∃ acc, H4 A = some (.lst acc) ∧ acc.length < sizeLine ∧ N (upd H4 A (.lst (acc ++ [y]))) else N H3) : LcT (gName i) tt te vs σ A x H N := ⟨e, h⟩
end

/-! ### methods, ranges as lists, products -/
def BmK (K : PySem.W.Frag) (T : String) (r : V → List V → Hp → VK → Prop) (t : TA) (σ : L2.St) (x : V) (H : Hp) (Q : VK) : Prop := tyV K T x H ∧ t σ H fun xs H2 => r x xs H2 Q
def Bm0K (K : PySem.W.Frag) (T : String) (r : V → List V → Hp → VK → Prop) (x : V) (H : Hp) (Q : VK) : Prop := tyV K T x H ∧ r x [] H Q
def Rg2E (x y : V) (R : Int → Int → Hp → Prop) (H : Hp) : Prop := ∃ i j, x = .int i ∧ y = .int j ∧ R i j H
def Rg1E (x : V) (R : Int → Int → Hp → Prop) (H : Hp) : Prop := ∃ j, x = .int j ∧ R 0 j H
def LRgK (i j : Int) (H : Hp) (Q : VK) : Prop := RgOk i j ∧ ∀ q, H q = none → Q (.ref q) (upd H q (.lst (rgV i j)))
def TRgK (i j : Int) (H : Hp) (Q : VK) : Prop := RgOk i j ∧ ∀ q, H q = none → Q (.ref q) (upd H q (.tup (rgV i j)))
section
variable {K : PySem.W.Frag} {σ : L2.St} {H : Hp} {Q : VK} {to ta tb : TE} {t : TA} {T : String} {r : V → List V → Hp → VK → Prop} {a : Addr} {xs ys : List V} {x y v : V} {i j : Int} {R : Int → Int → Hp → Prop} {te : L2.St → Hp → (Int → Int → Hp → Prop) → Prop}
theorem v_bm (h : to σ H fun x H1 => BmK K T r t σ x H1 Q) : tBM K T r to t σ H Q := h
theorem v_bm0 (h : to σ H fun x H1 => Bm0K K T r x H1 Q) : tBM0 K T r to σ H Q := h
theorem v_bmL (h : H a = some (.lst xs)) (q : t σ H fun vs H2 => r (.ref a) vs H2 Q) : BmK K "list" r t σ (.ref a) H Q := ⟨.inl ⟨rfl, xs, SqL.of h⟩, q⟩
theorem v_bm0L (h : H a = some (.lst xs)) (q : r (.ref a) [] H Q) : Bm0K K "list" r (.ref a) H Q := ⟨.inl ⟨rfl, xs, SqL.of h⟩, q⟩
theorem v_tRg2 (h : ta σ H fun x H1 => tb σ H1 fun y H2 => Rg2E x y R H2) : tRg2 ta tb σ H R := h
theorem v_tRg1 (h : ta σ H fun x H1 => Rg1E x R H1) : tRg1 ta σ H R := h
theorem v_rg2e (q : R i j H) : Rg2E (.int i) (.int j) R H := ⟨i, j, rfl, rfl, q⟩
theorem v_rg1e (q : R 0 j H) : Rg1E (.int j) R H := ⟨j, rfl, q⟩
theorem v_lstRg (h : te σ H fun i j H1 => LRgK i j H1 Q) : tLstRg te σ H Q := h
theorem v_tupRg (h : te σ H fun i j H1 => TRgK i j H1 Q) : tTupRg te σ H Q := h
end
theorem flat_one {α : Type} (n : Nat) (x : α) : (List.replicate n [x]).flatten = List.replicate n x := by
  induction n with
  | zero => rfl
  | succ n ih =>
    rw [List.replicate_succ, List.replicate_succ, List.flatten_cons, ih]
    rfl
theorem ixN_of {n j : Nat} {z : Int} (e : z = (j : Int)) (h : j < n) : ixN n z = some j := by
  unfold ixN
  rw [if_pos (by omega), if_pos (by omega), e]
  rfl
theorem upd_get {H : Hp} {a q : Addr} {o u : HO} (n : H q = none) (h : H a = some o) : upd H q u a = some o := by
  rw [upd_ne (ne_of_none h n)]
  exact h
theorem upd_at {H : Hp} {a q : Addr} {o u : HO} (n : a ≠ q) (h : H a = some o) : upd H q u a = some o := by
  rw [upd_ne n]
  exact h
theorem v_ixL' {K : PySem.W.Frag} {H : Hp} {Q : VK} {a : Addr} {xs : List V} {n : Int} {v : V} (h : H a = some (.lst xs)) (ha : atI xs n = some v) (q : Q v H) : rIxL K (.ref a) (.int n) H Q := v_ixL (SqL.of h) ha q
theorem v_ixT' {K : PySem.W.Frag} {H : Hp} {Q : VK} {a : Addr} {xs : List V} {n : Int} {v : V} (h : H a = some (.tup xs)) (ha : atI xs n = some v) (q : Q v H) : rIxT K (.ref a) (.int n) H Q := v_ixT (SqT.of h) ha q
theorem v_lenL' {K : PySem.W.Frag} {H : Hp} {Q : VK} {a : Addr} {xs : List V} (h : H a = some (.lst xs)) (q : Q (.int xs.length) H) : xLen K [.ref a] H Q := v_lenL (SqL.of h) q
theorem v_lenT' {K : PySem.W.Frag} {H : Hp} {Q : VK} {a : Addr} {xs : List V} (h : H a = some (.tup xs)) (q : Q (.int xs.length) H) : xLen K [.ref a] H Q := v_lenT (SqT.of h) q

/-! ### the walk over readings -/

/-! ### what the pool owns; what stays -/
def Owned (H : Hp) (p a : Addr) : Prop := a = p ∨ ∃ xs, H p = some (.lst xs) ∧ V.ref a ∈ xs
def Af (H : Hp) (p a : Addr) (o : HO) : Prop := H a = some o ∧ ¬ Owned H p a
/-- what is not the pool's stays; what is there stays there -/
structure Mo (p : Addr) (H H' : Hp) : Prop where
  at_ : ∀ a o, Af H p a o → Af H' p a o
  free : ∀ a, H' a = none → H a = none
instance {p : Addr} {H H' : Hp} : CoeFun (Mo p H H') (fun _ => ∀ a o, Af H p a o → Af H' p a o) := ⟨Mo.at_⟩
def Pool (H : Hp) (p : Addr) : Prop := ∃ (g s : Addr) (gs ss : List Int) (x y : Int), H p = some (.lst [.ref g, .ref s, .int x, .int y]) ∧ H g = some (.lst (gs.map V.int)) ∧ H s = some (.lst (ss.map V.int)) ∧
  g ≠ p ∧ s ≠ p ∧ gs.length ≤ 63 ∧ ss.length ≤ 63
theorem Mo.refl (p : Addr) (H : Hp) : Mo p H H := ⟨fun _ _ h => h, fun _ h => h⟩
theorem Mo.trans {p : Addr} {H H1 H2 : Hp} (a : Mo p H H1) (b : Mo p H1 H2) : Mo p H H2 := ⟨fun x o h => b.at_ x o (a.at_ x o h), fun x h => a.free x (b.free x h)⟩
theorem owned_pool {H : Hp} {p g s a : Addr} {x y : Int} (h : H p = some (.lst [.ref g, .ref s, .int x, .int y])) : Owned H p a ↔ a = p ∨ a = g ∨ a = s := by
  constructor
  · rintro (e | ⟨xs, e, hm⟩)
    · exact .inl e
    · rw [h] at e
      cases e
      simp at hm
      exact .inr hm
  · rintro (e | e | e)
    · exact .inl e
    · exact .inr ⟨_, h, by simp [e]⟩
    · exact .inr ⟨_, h, by simp [e]⟩
theorem same_upd {H : Hp} {q : Addr} {o : HO} (h : H q = none) : Same H (upd H q o) := fun b x e => by
  rw [upd_ne (ne_of_none e h)]
  exact e
theorem Pool.same {H H' : Hp} {p : Addr} (h : Pool H p) (e : Same H H') : Pool H' p := by
  obtain ⟨g, s, gs, ss, x, y, h1, h2, h3, r⟩ := h
  exact ⟨g, s, gs, ss, x, y, e _ _ h1, e _ _ h2, e _ _ h3, r⟩
theorem Pool.upd {H : Hp} {p q : Addr} {o : HO} (h : Pool H p) (n : H q = none) : Pool (upd H q o) p := h.same (same_upd n)
theorem Mo.same {H H' : Hp} {p : Addr} (h : Pool H p) (e : Same H H') : Mo p H H' := by
  refine ⟨fun a o ⟨h1, h2⟩ => ?_, fun a z => e.free z⟩
  obtain ⟨g, s, gs, ss, x, y, q1, _⟩ := h
  refine ⟨e _ _ h1, ?_⟩
  rw [owned_pool (e _ _ q1)]
  rw [owned_pool q1] at h2
  exact h2
theorem Mo.upd {H : Hp} {p q : Addr} {o : HO} (h : Pool H p) (n : H q = none) : Mo p H (upd H q o) := .same h (same_upd n)
/-- a new object is not the pool's -/
theorem Af.new {H H' : Hp} {p q : Addr} {o : HO} (h : Pool H p) (n : H q = none) (e : Same H H') (hq : H' q = some o) : Af H' p q o := by
  obtain ⟨g, s, gs, ss, x, y, q1, q2, q3, _⟩ := h
  refine ⟨hq, ?_⟩
  rw [owned_pool (e _ _ q1)]
  rintro (z | z | z)
  · rw [z, q1] at n; cases n
  · rw [z, q2] at n; cases n
  · rw [z, q3] at n; cases n
theorem Af.upd {H : Hp} {p q : Addr} {o : HO} (h : Pool H p) (n : H q = none) : Af (L2.upd H q o) p q o := .new h n (same_upd n) upd_same
theorem Af.self {H : Hp} {p a : Addr} {o o' : HO} (h : Pool H p) (f : Af H p a o) : Af (L2.upd H a o') p a o' := by
  obtain ⟨g, s, gs, ss, x, y, q1, q2, q3, r⟩ := h
  have hn := f.2
  rw [owned_pool q1] at hn
  refine ⟨upd_same, ?_⟩
  rw [owned_pool (g := g) (s := s) (x := x) (y := y) (by rw [upd_ne (fun z => hn (.inl z.symm))]; exact q1)]
  exact hn
theorem Af.keep {H : Hp} {p q a : Addr} {o u : HO} (h : Pool H p) (n : H q = none) (f : Af H p a o) : Af (L2.upd H q u) p a o := Mo.upd h n a o f
theorem Af.mo {H H' : Hp} {p a : Addr} {o : HO} (m : Mo p H H') (f : Af H p a o) : Af H' p a o := m a o f
section
variable {X : Cx} {CX : CXT} {C f : Addr} {fd : FuncData} {ps : List Str} {sp : Sp} {E : XK} {n : Nat}
end
/-! ### exceptions with fields -/
/-- what an exception's class must say, so that isinstance asks its instances rightly -/
structure XCls (K : PySem.W.Frag) (D : Addr) : Prop where
  cl : (PySem.W.clsIn K D).isSome = true
  ga : PySem.W.findIn K (.ref D) "__getattribute__" = some (some (.builtin "BaseException.__getattribute__"))
  gt : PySem.W.findIn K (.ref D) "__getattr__" = some none
  be : PySem.W.subIn K (.ref D) (.type "BaseException") = some true
  hd : PySem.W.hasDictIn K D = true
  ha : PySem.W.findIn K (.ref D) "__class__" = some (some (.builtin "object.__class__"))
  hn : PySem.W.specialIn K (.builtin "object.__class__") "__get__" = some (some (.builtin "getset_descriptor.__get__"))
  ht : PySem.W.takesIn K (.builtin "object.__class__") = some true
  hm : PySem.W.mroIn K D (.type "object") = some true
/-- C(e, ..) where what __init__ raises is wished for at the caller's slots -/
def tMakeS (C : Addr) (sp : Sp) (E : L2.St → XK) (t : TA) : TE := fun σ H Q => t σ H fun vs H1 => ∀ x dx, H1 x = none → H1 dx = none → dx ≠ x →
  sp (.ref x :: vs) (upd (upd H1 dx (.own x)) x (.ins C dx [])) (fun v H2 => v = .non ∧ Q (.ref x) H2) (E σ)
section
variable {X : Cx} {CX : CXT} {k : Nat} {f C : Addr} {fd : FuncData} {ps : List Str} {sp : Sp} {E : L2.St → XK} {x : Str} {p pos : Pos} {e : Expr} {es : List Expr} {t : TA}
end
theorem v_makeS {C : Addr} {sp : Sp} {E : L2.St → XK} {t : TA} {σ : L2.St} {H : Hp} {Q : VK} (h : t σ H fun vs H1 => ∀ x dx, H1 x = none → H1 dx = none → dx ≠ x →
  sp (.ref x :: vs) (upd (upd H1 dx (.own x)) x (.ins C dx [])) (fun v H2 => v = .non ∧ Q (.ref x) H2) (E σ)) : tMakeS C sp E t σ H Q := h
theorem v_make {C : Addr} {sp : Sp} {E : XK} {t : TA} {dvs : List V} {σ : L2.St} {H : Hp} {Q : VK} (h : t σ H fun vs H1 => ∀ x dx, H1 x = none → H1 dx = none → dx ≠ x →
  sp (.ref x :: (vs ++ dvs)) (upd (upd H1 dx (.own x)) x (.ins C dx [])) (fun v H2 => v = .non ∧ Q (.ref x) H2) E) : tMake C sp dvs E t σ H Q := h
theorem v_xf {a : Addr} {cls : Value} {d : Option Addr} {C : Addr} {f : Str} {te : TE} {σ : L2.St} {H : Hp} {Q : VK} (h : te σ H fun x H1 => x = .ref a ∧ cls = .ref C ∧ ∃ (dd : Addr) (fs : List (Str × V)) (v : V), d = some dd ∧ H1 dd = some (.xd fs) ∧ fs.lookup f = some v ∧ Q v H1) : tXf a cls d C f te σ H Q := h
def wE (E : XK) : WX := fun cls d _ H => E cls d H
/-- raise C(e, ..) -/
def tRaiseO (C : Addr) (sp : Sp) (ta : TA) (W : WX) : TS := fun _ σ H => tMkO C sp [] ta σ H fun cls d H' => W cls d σ H'
section
variable {K : PySem.W.Frag} {σ : L2.St} {H : Hp} {te : TE} {C : Addr} {f : Str} {W : WX} {D : Ends}
def RaiseK (C : Addr) (sp : Sp) (vs : List V) (W : WX) (σ : L2.St) (H : Hp) : Prop := vs.length ≤ 1000 ∧ ∀ a, H a = none → sp (.ref a :: (vs ++ [])) (upd H a (exo a C none))
  (fun v H2 => v = .non ∧ ∃ (d : Addr) (fs : List (Str × V)), H2 a = some (exo a C (some d)) ∧ H2 d = some (exd d fs) ∧ H d = none ∧ W (.ref C) (some d) σ (upd (del H2 a) d (.xd fs))) (fun _ _ _ => False)
theorem v_raiseO {sp : Sp} {ta : TA} (h : ta σ H fun vs H1 => RaiseK C sp vs W σ H1) : tRaiseO C sp ta W D σ H := h
end
/-- raise C(), C without fields -/
def tRaise0 (cls : Value) (W : WX) : TS := fun _ σ H => W cls none σ H
/-! ### kinds of things -/
/-- what a thing is: the name of its built-in class -/
inductive Kind (H : Hp) : V → String → Prop where
  | non : Kind H .non "NoneType"
  | bl (b : Bool) : Kind H (.bl b) "bool"
  | int (i : Int) : Kind H (.int i) "int"
  | str (s : Str) : Kind H (.str s) "str"
  | lst {a : Addr} {xs : List V} (h : H a = some (.lst xs)) : Kind H (.ref a) "list"
  | tup {a : Addr} {xs : List V} (h : H a = some (.tup xs)) : Kind H (.ref a) "tuple"
  | dK {a : Addr} {kvs : List (Key × V)} (h : H a = some (.dK kvs)) : Kind H (.ref a) "dict"
  | dF {a : Addr} {o : Obj} {kvs : List (Key × V)} (h : H a = some (.frz o (.dK kvs))) : Kind H (.ref a) "dict"
theorem Kind.tyx {K : PySem.W.Frag} {H : Hp} {x : V} {s : String} (h : Kind H x s) : TyX K H x (.type s) := by
  cases h with
  | non => exact .base .non
  | bl b => exact .base (.bl b)
  | int i => exact .base (.int i)
  | str z => exact .base (.str z)
  | lst h => exact .base (.lst h)
  | tup h => exact .base (.tup h)
  | dK h => exact .base (.dK h)
  | dF h => exact .fDict h
theorem Kind.same {H H' : Hp} {x : V} {s : String} (h : Kind H x s) (e : Same H H') : Kind H' x s := by
  cases h with
  | non => exact .non
  | bl b => exact .bl b
  | int i => exact .int i
  | str z => exact .str z
  | lst h => exact .lst (e _ _ h)
  | tup h => exact .tup (e _ _ h)
  | dK h => exact .dK (e _ _ h)
  | dF h => exact .dF (e _ _ h)
/-- isinstance's answers for these -/
def isA (s T : String) : Bool := (s == T) || (s == "bool" && T == "int")
theorem kit_kind {K : PySem.W.Frag} {H : Hp} {x : V} {s T : String} (h : Kind H x s) (hT : T = "int" ∨ T = "bool" ∨ T = "tuple" ∨ T = "list" ∨ T = "dict" ∨ T = "str") : PySem.W.kitOne K (.type s) (.type T) = some (isA s T) := by
  cases h <;> (rcases hT with rfl | rfl | rfl | rfl | rfl | rfl <;> exact kit_ty (by decide +kernel))
section
variable {K : PySem.W.Frag} {H : Hp} {Q : VK} {x : V} {s T : String} {tp : Addr}
theorem v_isi (h : Kind H x s) (hT : T = "int" ∨ T = "bool" ∨ T = "tuple" ∨ T = "list" ∨ T = "dict" ∨ T = "str") (q : Q (.bl (isA s T)) H) : rIsi K [x, .ty T] H Q :=
  ⟨x, .ty T, .type s, .type T, _, rfl, .ty T, h.tyx, kit_kind h hT, q⟩
theorem v_isiT {S T : String} (h : Kind H x s) (ht : H tp = some (.tup [.ty S, .ty T])) (hS : S = "int" ∨ S = "bool" ∨ S = "tuple" ∨ S = "list" ∨ S = "dict" ∨ S = "str") (hT : T = "int" ∨ T = "bool" ∨ T = "tuple" ∨ T = "list" ∨ T = "dict" ∨ T = "str")
    (q : Q (.bl (isA s S || isA s T)) H) : rIsiT K [x, .ref tp] H Q := by
  refine ⟨x, tp, [.ty S, .ty T], .type s, [.type S, .type T], _, rfl, ht, .cons (.ty S) (.cons (.ty T) .nil), h.tyx, ?_, q⟩
  refine kitAny_cons (kit_kind h hS) (fun e => kitAny_cons (kit_kind h hT) (fun e' => ?_) fun e' => ?_) fun e => ?_
  · rw [e, e']; exact kitAny_nil
  · rw [e, e']; rfl
  · rw [e]; rfl
end
/-! ### classes of the program -/
/-- what is known of an own class, so that isinstance tells -/
structure OwnC (K : PySem.W.Frag) (C : Addr) : Prop where
  ic : C8.InsC K C
  kt : ∀ s : String, s = "NoneType" ∨ s = "bool" ∨ s = "int" ∨ s = "str" ∨ s = "list" ∨ s = "tuple" ∨ s = "dict" → PySem.W.kitOne K (.type s) (.ref C) = some false ∧ PySem.W.notFirst K C (.type s) = true
theorem Kind.name {H : Hp} {x : V} {s : String} (h : Kind H x s) : s = "NoneType" ∨ s = "bool" ∨ s = "int" ∨ s = "str" ∨ s = "list" ∨ s = "tuple" ∨ s = "dict" := by cases h <;> simp
theorem OwnC.tyx {K : PySem.W.Frag} {C : Addr} (h : OwnC K C) {H : Hp} {a dx : Addr} {fs : List (Str × V)} (e : H a = some (.ins C dx fs)) : TyX K H (.ref a) (.ref C) := .base (.ins e h.ic.cl h.ic.ha h.ic.hn h.ic.htk h.ic.hm)
section
variable {K : PySem.W.Frag} {H : Hp} {Q : VK} {x : V} {s : String} {a dx C : Addr} {fs : List (Str × V)} {f : Str} {v : V}
/-- isinstance(x, C), x of a built-in kind -/
theorem v_isiK (o : OwnC K C) (h : Kind H x s) (q : Q (.bl false) H) : rIsi K [x, .ref C] H Q := ⟨x, .ref C, .type s, .ref C, false, rfl, .own C, h.tyx, (o.kt s h.name).1, q⟩
def FldK (K : PySem.W.Frag) (f : Str) (x : V) (H : Hp) (Q : VK) : Prop := ∃ a C dx fs v, x = .ref a ∧ H a = some (.ins C dx fs) ∧ Cls K C ∧ NoAttr K C f ∧ fs.lookup f = some v ∧ Q v H
theorem v_fld {ta : TE} {σ : L2.St} (h : ta σ H fun x H1 => FldK K f x H1 Q) : tFld K ta f σ H Q := h
def StK (K : PySem.W.Frag) (f : Str) (x y : V) (H : Hp) (R : Hp → Prop) : Prop := ∃ a C dx fs, x = .ref a ∧ H a = some (.ins C dx fs) ∧ Cls K C ∧ NoAttr K C f ∧ fs.length < 1000 ∧ R (upd H a (.ins C dx (putF f y fs)))
theorem v_stf {ta tv : TE} {σ : L2.St} {D : Ends} (h : tv σ H fun y H1 => ta σ H1 fun x H2 => StK K f x y H2 fun H3 => D.nx σ H3) : sFld K ta tv f D σ H := h
end
/-! ### things in a heap with a pool -/
/-- a thing whose kind stays whatever is drawn -/
def AK (H : Hp) (p : Addr) : V → Prop
  | .non => True
  | .bl _ => True
  | .int _ => True
  | .str _ => True
  | .ref a => (∃ xs, Af H p a (.lst xs)) ∨ (∃ xs, Af H p a (.tup xs)) ∨ ∃ kvs, Af H p a (.dK kvs)
  | _ => False
theorem AK.mo {H H' : Hp} {p : Addr} {x : V} (h : AK H p x) (m : Mo p H H') : AK H' p x := by
  cases x with
  | ref a =>
    rcases h with ⟨xs, h⟩ | ⟨xs, h⟩ | ⟨xs, h⟩
    · exact .inl ⟨xs, m _ _ h⟩
    · exact .inr (.inl ⟨xs, m _ _ h⟩)
    · exact .inr (.inr ⟨xs, m _ _ h⟩)
  | byt b => exact h.elim
  | flt b => exact h.elim
  | ty b => exact h.elim
  | _ => trivial
theorem AK.kind {H : Hp} {p : Addr} {x : V} (h : AK H p x) : ∃ s, Kind H x s := by
  cases x with
  | non => exact ⟨_, .non⟩
  | bl b => exact ⟨_, .bl b⟩
  | int i => exact ⟨_, .int i⟩
  | str z => exact ⟨_, .str z⟩
  | ref a =>
    rcases h with ⟨xs, h⟩ | ⟨xs, h⟩ | ⟨xs, h⟩
    · exact ⟨_, .lst h.1⟩
    · exact ⟨_, .tup h.1⟩
    · exact ⟨_, .dK h.1⟩
  | byt b => exact h.elim
  | flt b => exact h.elim
  | ty b => exact h.elim
local macro_rules | `(tactic| walk_at "pl") => `(tactic| first
  | assumption
  | ((with_reducible refine' Pool.upd ?k1 ?k2); (case k2 => assumption); (case k1 => walk_at "pl")))
local macro_rules | `(tactic| walk_at "af") => `(tactic| first
  | assumption
  | ((with_reducible refine' Af.upd ?k1 ?k2); (case k2 => assumption); (case k1 => walk_at "pl"))
  | ((with_reducible refine' Af.keep ?k1 ?k2 ?k3); (case k2 => assumption); (case k1 => walk_at "pl"); (case k3 => walk_at "af"))
  | ((with_reducible refine' Af.mo (by assumption) ?_); walk_at "af"))
local macro_rules | `(tactic| walk_at "ne") => `(tactic| first | assumption | (refine Ne.symm ?_; assumption))
local macro_rules | `(tactic| walk_at "hp") => `(tactic| first
  | assumption
  | exact upd_same
  | ((with_reducible refine' upd_get (by assumption) ?_); walk_at "hp")
  | ((with_reducible refine' upd_at ?k1 ?_); (case k1 => walk_at "ne"); walk_at "hp"))
local macro_rules | `(tactic| walk_at "vc1") => `(tactic| first
  | (with_reducible refine' v_seq ?_)
  | (with_reducible refine' v_asg ?_)
  | ((with_reducible refine' v_var ?k1 ?_); (case k1 => exact rfl))
  | (with_reducible refine' v_c ?_)
  | (with_reducible refine' v_op ?_)
  | (with_reducible refine' v_I0 ?_)
  | (with_reducible refine' v_name ?_)
  | (with_reducible refine' v_cons ?_)
  | (with_reducible refine' v_nil ?_)
  | (with_reducible refine' v_cb ?_)
  | (with_reducible refine' v_int ?_)
  | (with_reducible refine' v_abs ?_)
  | (with_reducible refine' v_ifs ?_)
  | (with_reducible refine' v_test ?_)
  | (with_reducible refine' v_B ?_)
  | (with_reducible refine' v_bl ?_)
  | (with_reducible refine' v_and ?_)
  | (with_reducible refine' v_or ?_)
  | (with_reducible refine' v_not ?_)
  | (with_reducible refine' v_eqI ?_)
  | (with_reducible refine' v_neI ?_)
  | (with_reducible refine' v_ret ?_)
  | (with_reducible refine' v_retN ?_)
  | (with_reducible refine' v_next ?_)
  | (with_reducible refine' v_drop ?_)
  | (with_reducible refine' v_call ?_)
  | (with_reducible refine' v_sub ?_)
  | (with_reducible refine' v_lst ?_)
  | (with_reducible refine' v_tup ?_)
  | (with_reducible refine' v_sl ?_)
  | (with_reducible refine' v_nopart ?_)
  | (with_reducible refine' v_part ?_)
  | (with_reducible refine' v_partI ?_)
  | (with_reducible refine' v_if ?_)
  | (with_reducible refine' v_chain ?_)
  | (with_reducible refine' v_andV ?_)
  | (with_reducible refine' v_orV ?_)
  | (with_reducible refine' v_notV ?_)
  | (with_reducible refine' v_un ?_)
  | (with_reducible refine' v_U ?_)
  | (with_reducible refine' v_isN ?_)
  | (with_reducible refine' v_notN ?_)
  | (with_reducible refine' v_eqB ?_)
  | (with_reducible refine' v_neB ?_)
  | (with_reducible refine' v_yes ?_)
  | (with_reducible refine' v_dnew ?_)
  | (with_reducible refine' v_iteT ?_)
  | (with_reducible refine' v_iteF ?_)
  | (with_reducible refine' v_iteNT ?_)
  | (with_reducible refine' v_iteNF ?_)
  | (with_reducible refine' v_for ?_)
  | (with_reducible refine' v_lc ?_)
  | (with_reducible refine' v_iR1 ?_)
  | (with_reducible refine' v_iR2 ?_)
  | (with_reducible refine' v_iL ?_)
  | (with_reducible refine' v_iT ?_)
  | (with_reducible refine' v_bm ?_)
  | (with_reducible refine' v_bm0 ?_)
  | (with_reducible refine' v_tRg2 ?_)
  | (with_reducible refine' v_tRg1 ?_)
  | (with_reducible refine' v_rg2e ?_)
  | (with_reducible refine' v_rg1e ?_)
  | (with_reducible refine' v_lstRg ?_)
  | (with_reducible refine' v_tupRg ?_)
  | ((with_reducible refine' v_bmL ?k1 ?_); (case k1 => walk_at "hp"))
  | ((with_reducible refine' v_bm0L ?k1 ?_); (case k1 => walk_at "hp"))
  | (with_reducible refine' v_fld ?_)
  | (with_reducible refine' v_makeS ?_)
  | (with_reducible refine' v_make ?_)
  | (with_reducible refine' v_xf ?_)
  | (with_reducible refine' v_stf ?_)
  | (with_reducible refine' v_raiseO ?_)
  | (with_reducible refine' v_raise0 ?_)
  | (with_reducible refine' v_callS ?_)
  | (with_reducible refine' v_par ?_)
  | (with_reducible refine' v_parK ?_)
  | ((with_reducible refine' v_ixL' ?k1 ?k2 ?_); (case k1 => walk_at "hp"); (case k2 => exact rfl))
  | ((with_reducible refine' v_ixT' ?k1 ?k2 ?_); (case k1 => walk_at "hp"); (case k2 => exact rfl))
  | ((with_reducible refine' v_setL ?k1 ?k2 ?_); (case k1 => walk_at "hp"); (case k2 => exact rfl))
  | ((with_reducible refine' v_lenL' ?k1 ?_); (case k1 => walk_at "hp"))
  | ((with_reducible refine' v_lenT' ?k1 ?_); (case k1 => walk_at "hp"))
  | ((with_reducible refine' v_bound ?k1 ?_); (case k1 => (first | decide | omega | (simp only [List.length_cons, List.length_nil]; omega)))))
local macro_rules | `(tactic| walk_at "vc") => `(tactic| repeat (walk_at "vc1"))
/-! ### the draw -/
section
variable {K : PySem.W.Frag}
/-! ### the pool's making -/
theorem take_snoc {α : Type} : ∀ {l : List α} {i : Nat} {x : α}, l[i]? = some x → l.take (i + 1) = l.take i ++ [x]
  | [], i, x, h => by simp at h
  | a :: l, 0, x, h => by
    have e : a = x := Option.some.inj h
    subst e
    rfl
  | a :: l, i + 1, x, h => by
    have ih := take_snoc (l := l) (i := i) (x := x) h
    show a :: l.take (i + 1) = a :: l.take i ++ [x]
    rw [ih]
    rfl
theorem cut_map (ns : List Int) (lo hi : Option Int) : ∃ ms : List Int, cutV (ns.map V.int) lo hi = ms.map V.int ∧ ms.length ≤ ns.length := by
  unfold cutV
  refine ⟨(ns.drop (HT.sIx (ns.map V.int).length 0 lo)).take (HT.sIx (ns.map V.int).length (ns.map V.int).length hi - HT.sIx (ns.map V.int).length 0 lo), ?_, ?_⟩
  · rw [List.map_take, List.map_drop]
  · rw [List.length_take, List.length_drop]
    omega
theorem map_get {ns : List Int} {i : Nat} {x : V} (h : (ns.map V.int)[i]? = some x) : ∃ n : Int, x = .int n := by
  rw [List.getElem?_map] at h
  cases e : ns[i]? with
  | none => rw [e] at h; cases h
  | some z => rw [e] at h; exact ⟨z, (Option.some.inj h).symm⟩
end

/-- the tables of code objects that the law's lambdas use (k05: law, _law_order_refused, _law_views_refused), and the names in them -/
def tabT : List (Addr × Str) := [(416, (("law" : Str) ++ ".<locals>.") ++ "<lambda>"), (406, (("_law_order_refused" : Str) ++ ".<locals>.") ++ "<lambda>"), (411, (("_law_views_refused" : Str) ++ ".<locals>.") ++ "<lambda>")]

abbrev TabS := LamX.TabS
/-- the tables are there, and no others -/
def TabOk (F : Hp) : Prop := (∀ p ∈ tabT, TabS F p.1 p.2) ∧ ∀ a ps, F a = some (.tbl ps) → ∃ p ∈ tabT, p.1 = a

/-- a dict, locked or not -/
def core : HO → HO
  | .frz _ (.dK k) => .dK k
  | .frz _ (.dT k) => .dT k
  | .tbl _ => .tbl #[]
  | o => o
def isDct : HO → Bool
  | .dK _ => true
  | .dT _ => true
  | _ => false
def isTbl : HO → Bool
  | .tbl _ => true
  | _ => false
/-- what may change where it stands -/
def isMv : HO → Bool
  | .dK _ => true
  | .dT _ => true
  | .tbl _ => true
  | _ => false
/-- the object stays, or is locked now, or is a table -/
def UpH (o o' : HO) : Prop := o' = o ∨ (∃ od, isDct o = true ∧ o' = .frz od o) ∨ isTbl o = true
/-- the same where tables are known: they grow well -/
def Up (F F' : Hp) (a : Addr) (o o' : HO) : Prop := o' = o ∨ (∃ od, isDct o = true ∧ o' = .frz od o) ∨ (isTbl o = true ∧ isTbl o' = true ∧ ∀ q, (a, q) ∈ tabT → TabS F a q → TabS F' a q)
theorem Up.toH {F F' : Hp} {a : Addr} {o o' : HO} (h : Up F F' a o o') : UpH o o' := h.elim .inl fun h => .inr (h.elim .inl fun h => .inr h.1)
theorem dct_tbl {o : HO} (h : isDct o = true) (k : isTbl o = true) : False := by cases o <;> cases h <;> cases k
theorem Up.tbl {F F' : Hp} {a : Addr} {o o' : HO} (h : Up F F' a o o') (k : isTbl o = true) : isTbl o' = true := by
  rcases h with rfl | ⟨od, e, rfl⟩ | ⟨_, h, _⟩
  · exact k
  · exact (dct_tbl e k).elim
  · exact h
theorem UpH.core {o o' : HO} (n : isTbl o = false) (h : UpH o o') : Fv.core o' = Fv.core o := by
  rcases h with rfl | ⟨od, e, rfl⟩ | h
  · rfl
  · cases o <;> first | rfl | cases e
  · rw [n] at h; cases h
theorem UpH.trans {o o1 o2 : HO} (h : UpH o o1) (k : UpH o1 o2) : UpH o o2 := by
  rcases h with rfl | ⟨od, e, rfl⟩ | h
  · exact k
  · rcases k with rfl | ⟨od', e', rfl⟩ | k
    · exact .inr (.inl ⟨od, e, rfl⟩)
    · cases e'
    · cases k
  · exact .inr (.inr h)
theorem mv_dct {o : HO} (h : isDct o = true) : isMv o = true := by cases o <;> first | rfl | cases h
theorem mv_tbl {o : HO} (h : isTbl o = true) : isMv o = true := by cases o <;> first | rfl | cases h
theorem UpH.ex {o o' : HO} (n : isMv o = false) (h : UpH o o') : o' = o := by
  rcases h with rfl | ⟨od, e, rfl⟩ | h
  · rfl
  · rw [mv_dct e] at n; cases n
  · rw [mv_tbl h] at n; cases n
theorem Up.ex {F F' : Hp} {a : Addr} {o o' : HO} (n : isMv o = false) (h : Up F F' a o o') : o' = o := h.toH.ex n
/-- objects stay; a dict may be locked, a table may grow -/
structure Sm (F F' : Hp) : Prop where
  up : ∀ a o, F a = some o → ∃ o', F' a = some o' ∧ Up F F' a o o'
  nt : ∀ a ps, F' a = some (.tbl ps) → ∃ ps0, F a = some (.tbl ps0)
instance sm_fun {F F' : Hp} : CoeFun (Sm F F') fun _ => ∀ a o, F a = some o → ∃ o', F' a = some o' ∧ Up F F' a o o' := ⟨Sm.up⟩
def SmH (F F' : Hp) : Prop := ∀ a o, F a = some o → ∃ o', F' a = some o' ∧ UpH o o'
theorem Sm.toH {F F' : Hp} (s : Sm F F') : SmH F F' := fun a o h => let ⟨o', h', e⟩ := s a o h; ⟨o', h', e.toH⟩
instance smH_coe {F F' : Hp} : Coe (Sm F F') (SmH F F') := ⟨Sm.toH⟩
theorem Sm.ex {F F' : Hp} (s : Sm F F') {a : Addr} {o : HO} (n : isMv o = false) (h : F a = some o) : F' a = some o := by
  obtain ⟨o', h', e⟩ := s a o h
  rw [h', e.ex n]
theorem TabS.sm {F F' : Hp} {a : Addr} {q : Str} (m : (a, q) ∈ tabT) (t : TabS F a q) (s : Sm F F') : TabS F' a q := by
  obtain ⟨ps, h1, h2, h3⟩ := t
  obtain ⟨o', h', e⟩ := s a _ h1
  rcases e with rfl | ⟨od, z, _⟩ | ⟨_, _, g⟩
  · refine ⟨ps, h', h2, fun pos cv hc => ?_⟩
    obtain ⟨c, e1, e2⟩ := h3 pos cv hc
    exact ⟨c, e1, s.ex rfl e2⟩
  · cases z
  · exact g q m ⟨ps, h1, h2, h3⟩
theorem TabOk.sm {F F' : Hp} (t : TabOk F) (s : Sm F F') : TabOk F' := ⟨fun p hp => TabS.sm hp (t.1 p hp) s, fun a ps h => let ⟨p0, h0⟩ := s.nt a ps h; t.2 a p0 h0⟩
theorem Sm.refl (F : Hp) : Sm F F := ⟨fun a o h => ⟨o, h, .inl rfl⟩, fun a ps h => ⟨ps, h⟩⟩
theorem Sm.trans {F F' F'' : Hp} (s : Sm F F') (t : Sm F' F'') : Sm F F'' := ⟨fun a o h => by
  obtain ⟨o1, h1, e1⟩ := s a o h
  obtain ⟨o2, h2, e2⟩ := t a o1 h1
  refine ⟨o2, h2, ?_⟩
  rcases e1.toH.trans e2.toH with h | h | h
  · exact .inl h
  · exact .inr (.inl h)
  · exact .inr (.inr ⟨h, e2.tbl (e1.tbl h), fun q m z => TabS.sm m (TabS.sm m z s) t⟩), fun a ps h => let ⟨p1, h1⟩ := t.nt a ps h; s.nt a p1 h1⟩
theorem _root_.L2.Same.sm {F F' : Hp} (s : Same F F') (n : ∀ a ps, F' a = some (.tbl ps) → ∃ ps0, F a = some (.tbl ps0)) : Sm F F' := ⟨fun a o h => ⟨o, s a o h, .inl rfl⟩, n⟩
theorem _root_.L2.Same.smH {F F' : Hp} (s : Same F F') : SmH F F' := fun a o h => ⟨o, s a o h, .inl rfl⟩
theorem SmH.refl (F : Hp) : SmH F F := (Sm.refl F).toH
theorem SmH.trans {F F' F'' : Hp} (s : SmH F F') (t : SmH F' F'') : SmH F F'' := fun a o h => by
  obtain ⟨o1, h1, e1⟩ := s a o h
  obtain ⟨o2, h2, e2⟩ := t a o1 h1
  exact ⟨o2, h2, e1.trans e2⟩
theorem SmH.free {F F' : Hp} (s : SmH F F') {a : Addr} (h : F' a = none) : F a = none := by
  cases e : F a with
  | none => rfl
  | some o =>
    obtain ⟨o', h', _⟩ := s a o e
    rw [h] at h'
    cases h'
theorem Sm.free {F F' : Hp} (s : Sm F F') {a : Addr} (h : F' a = none) : F a = none := s.toH.free h
theorem SmH.ex {F F' : Hp} (s : SmH F F') {a : Addr} {o : HO} (n : isMv o = false) (h : F a = some o) : F' a = some o := by
  obtain ⟨o', h', e⟩ := s a o h
  rw [h', e.ex n]
/-- what stands for a dict -/
def DObj : Bool → List (List Key × V) → HO → Prop
  | true, kvs, o => o = .dT kvs
  | false, kvs, o => ∃ k0 : List (Key × V), o = .dK k0 ∧ kvs = k0.map fun p => ([p.1], p.2)
theorem DObj.core {t : Bool} {kvs : List (List Key × V)} {o : HO} (h : DObj t kvs o) : Fv.core o = o := by
  cases t with
  | true => rw [show o = _ from h]; rfl
  | false => obtain ⟨k0, e, _⟩ := h; rw [e]; rfl
theorem DObj.nt {t : Bool} {kvs : List (List Key × V)} {o : HO} (h : DObj t kvs (Fv.core o)) : isTbl o = false := by
  cases o with
  | tbl ps =>
    cases t with
    | true => cases (show Fv.core (.tbl ps) = .dT kvs from h)
    | false => obtain ⟨k0, e, _⟩ := h; cases e
  | _ => rfl
theorem DObj.uniq {t : Bool} {xs ys : List (List Key × V)} {o : HO} (h : DObj t xs o) (k : DObj t ys o) : xs = ys := by
  cases t with
  | true =>
    have h : o = .dT xs := h
    have k : o = .dT ys := k
    rw [h] at k
    injection k
  | false =>
    obtain ⟨a, e1, e2⟩ := h
    obtain ⟨b, e3, e4⟩ := k
    rw [e1] at e3
    injection e3 with e3
    rw [e2, e4, e3]
/-- data: what never changes -/
inductive D where
  | non | bl (b : Bool) | int (i : Int) | str (s : Str) | ty (n : String) | cls (a : Addr)
  | tup (ds : List D) | lst (ds : List D) | ztp (ns : List Int) | dct (t : Bool) (kvs : List (List Key × D)) | ins (C : Addr) (fs : List (Str × D))
/-- owned objects: what no one else reaches -/
inductive O where
  | fr (d : D) | lst (os : List O) | dct (t : Bool) (kvs : List (List Key × O)) | ins (C : Addr) (fs : List (Str × O))
/-- a slot: unknown, own, borrowed of the caller -/
inductive S where
  | un | ow (o : O) | bo (o : O)
/-- a tuple of whole numbers whose very object is known: it has no dict of its own -/
@[irreducible] def ZRep (F : Hp) (ns : List Int) (x : V) : Prop := ∃ a ob, x = .ref a ∧ F a = some (.frz ob (.tup (ns.map V.int))) ∧ ob.dict = none
theorem ZRep.out {F : Hp} {ns : List Int} {x : V} (h : ZRep F ns x) : ∃ a ob, x = .ref a ∧ F a = some (.frz ob (.tup (ns.map V.int))) ∧ ob.dict = none := by
  unfold ZRep at h
  exact h
theorem ZRep.mk {F : Hp} {ns : List Int} {a : Addr} {ob : Obj} (h : F a = some (.frz ob (.tup (ns.map V.int)))) (d : ob.dict = none) : ZRep F ns (.ref a) := by
  unfold ZRep
  exact ⟨a, ob, rfl, h, d⟩
theorem ZRep.mono {F F' : Hp} (s : SmH F F') {ns : List Int} {x : V} (h : ZRep F ns x) : ZRep F' ns x := by
  obtain ⟨a, ob, rfl, q, r⟩ := h.out
  exact .mk (s.ex rfl q) r
mutual
def Rep (F : Hp) : D → V → Prop
  | .non, x => x = .non
  | .bl b, x => x = .bl b
  | .int i, x => x = .int i
  | .str s, x => x = .str s
  | .ty n, x => x = .ty n
  | .cls a, x => x = .ref a
  | .tup ds, x => ∃ a xs, x = .ref a ∧ F a = some (.tup xs) ∧ RepL F ds xs
  | .lst ds, x => ∃ a xs, x = .ref a ∧ F a = some (.lst xs) ∧ RepL F ds xs
  | .ztp ns, x => ZRep F ns x
  | .dct t kds, x => ∃ a o kvs, x = .ref a ∧ F a = some o ∧ DObj t kvs (core o) ∧ RepM F kds kvs
  | .ins C gs, x => ∃ a dx fs, x = .ref a ∧ F a = some (.ins C dx fs) ∧ RepF F gs fs
def RepL (F : Hp) : List D → List V → Prop
  | [], xs => xs = []
  | d :: ds, xs => ∃ x r, xs = x :: r ∧ Rep F d x ∧ RepL F ds r
def RepM (F : Hp) : List (List Key × D) → List (List Key × V) → Prop
  | [], xs => xs = []
  | (k, d) :: ds, xs => ∃ x r, xs = (k, x) :: r ∧ Rep F d x ∧ RepM F ds r
def RepF (F : Hp) : List (Str × D) → List (Str × V) → Prop
  | [], xs => xs = []
  | (k, d) :: ds, xs => ∃ x r, xs = (k, x) :: r ∧ Rep F d x ∧ RepF F ds r
end
mutual
theorem Rep.mono {F F' : Hp} (s : SmH F F') : ∀ {d : D} {x : V}, Rep F d x → Rep F' d x
  | .non, _, h => h
  | .bl _, _, h => h
  | .int _, _, h => h
  | .str _, _, h => h
  | .ty _, _, h => h
  | .cls _, _, h => h
  | .tup ds, _, h => let ⟨a, xs, e, q, r⟩ := h; ⟨a, xs, e, s.ex rfl q, RepL.mono s r⟩
  | .lst ds, _, h => let ⟨a, xs, e, q, r⟩ := h; ⟨a, xs, e, s.ex rfl q, RepL.mono s r⟩
  | .ztp _, _, h => ZRep.mono s h
  | .dct t ds, _, h => let ⟨a, o, xs, e, q, c, r⟩ := h; let ⟨o', q', c'⟩ := s _ _ q; ⟨a, o', xs, e, q', by rw [c'.core c.nt]; exact c, RepM.mono s r⟩
  | .ins _ ds, _, h => let ⟨a, dx, xs, e, q, r⟩ := h; ⟨a, dx, xs, e, s.ex rfl q, RepF.mono s r⟩
theorem RepL.mono {F F' : Hp} (s : SmH F F') : ∀ {ds : List D} {xs : List V}, RepL F ds xs → RepL F' ds xs
  | [], _, h => h
  | d :: ds, _, h => let ⟨x, r, e, q, t⟩ := h; ⟨x, r, e, Rep.mono s q, RepL.mono s t⟩
theorem RepM.mono {F F' : Hp} (s : SmH F F') : ∀ {ds : List (List Key × D)} {xs : List (List Key × V)}, RepM F ds xs → RepM F' ds xs
  | [], _, h => h
  | (k, d) :: ds, _, h => let ⟨x, r, e, q, t⟩ := h; ⟨x, r, e, Rep.mono s q, RepM.mono s t⟩
theorem RepF.mono {F F' : Hp} (s : SmH F F') : ∀ {ds : List (Str × D)} {xs : List (Str × V)}, RepF F ds xs → RepF F' ds xs
  | [], _, h => h
  | (k, d) :: ds, _, h => let ⟨x, r, e, q, t⟩ := h; ⟨x, r, e, Rep.mono s q, RepF.mono s t⟩
end
/-- the object itself stands in H, what it holds in F -/
def RepP (F H : Hp) : D → V → Prop
  | .lst ds, x => ∃ a xs, x = .ref a ∧ H a = some (.lst xs) ∧ RepL F ds xs
  | .dct t kds, x => ∃ a o kvs, x = .ref a ∧ H a = some o ∧ DObj t kvs (core o) ∧ RepM F kds kvs
  | .ins C gs, x => ∃ a dx fs, x = .ref a ∧ H a = some (.ins C dx fs) ∧ RepF F gs fs
  | d, x => Rep F d x
theorem Rep.toP {F H : Hp} (s : Same F H) {d : D} {x : V} (h : Rep F d x) : RepP F H d x := by
  cases d with
  | lst ds => obtain ⟨a, xs, e, q, r⟩ := h; exact ⟨a, xs, e, s _ _ q, r⟩
  | dct t ds => obtain ⟨a, o, xs, e, q, c, r⟩ := h; exact ⟨a, o, xs, e, s _ _ q, c, r⟩
  | ins C ds => obtain ⟨a, dx, xs, e, q, r⟩ := h; exact ⟨a, dx, xs, e, s _ _ q, r⟩
  | _ => exact h
theorem RepP.toH {F H : Hp} (s : Same F H) {d : D} {x : V} (h : RepP F H d x) : Rep H d x := by
  cases d with
  | lst ds => obtain ⟨a, xs, e, q, r⟩ := h; exact ⟨a, xs, e, q, RepL.mono s.smH r⟩
  | dct t ds => obtain ⟨a, o, xs, e, q, c, r⟩ := h; exact ⟨a, o, xs, e, q, c, RepM.mono s.smH r⟩
  | ins C ds => obtain ⟨a, dx, xs, e, q, r⟩ := h; exact ⟨a, dx, xs, e, q, RepF.mono s.smH r⟩
  | _ => exact Rep.mono s.smH h
theorem RepL.length {F : Hp} : ∀ {ds : List D} {xs : List V}, RepL F ds xs → xs.length = ds.length
  | [], _, h => by rw [show _ = [] from h]; rfl
  | d :: ds, _, ⟨x, r, e, _, t⟩ => by rw [e, List.length_cons, List.length_cons, RepL.length t]
theorem RepL.get {F : Hp} : ∀ {ds : List D} {xs : List V} {i : Nat} {d : D}, RepL F ds xs → ds[i]? = some d → ∃ x, xs[i]? = some x ∧ Rep F d x
  | [], _, _, _, _, e => by simp at e
  | d :: ds, _, 0, _, ⟨x, r, e, q, _⟩, z => by
    cases z
    exact ⟨x, by rw [e]; rfl, q⟩
  | d :: ds, _, i + 1, _, ⟨x, r, e, _, t⟩, z => by
    obtain ⟨y, h1, h2⟩ := RepL.get (i := i) t z
    exact ⟨y, by rw [e]; exact h1, h2⟩
theorem RepL.app {F : Hp} : ∀ {ds es : List D} {xs ys : List V}, RepL F ds xs → RepL F es ys → RepL F (ds ++ es) (xs ++ ys)
  | [], _, _, _, h, k => by rw [show _ = [] from h]; exact k
  | d :: ds, _, _, _, ⟨x, r, e, q, t⟩, k => by rw [e]; exact ⟨x, _, rfl, q, RepL.app t k⟩
theorem RepL.take {F : Hp} : ∀ (n : Nat) {ds : List D} {xs : List V}, RepL F ds xs → RepL F (ds.take n) (xs.take n)
  | 0, _, _, h => by rw [List.take_zero, List.take_zero]; rfl
  | n + 1, [], _, h => by rw [show _ = [] from h]; rfl
  | n + 1, d :: ds, _, ⟨x, r, e, q, t⟩ => by rw [e]; exact ⟨x, _, rfl, q, RepL.take n t⟩
theorem RepL.drop {F : Hp} : ∀ (n : Nat) {ds : List D} {xs : List V}, RepL F ds xs → RepL F (ds.drop n) (xs.drop n)
  | 0, _, _, h => h
  | n + 1, [], _, h => by rw [show _ = [] from h]; rfl
  | n + 1, d :: ds, _, ⟨x, r, e, q, t⟩ => by rw [e]; exact RepL.drop n t
theorem RepL.ints {F : Hp} : ∀ {ns : List Int} {xs : List V}, RepL F (ns.map D.int) xs → xs = ns.map V.int
  | [], _, h => h
  | n :: ns, _, ⟨x, r, e, q, t⟩ => by rw [e, show x = _ from q, RepL.ints t]; rfl
theorem RepL.ofInts {F : Hp} : ∀ (ns : List Int), RepL F (ns.map D.int) (ns.map V.int)
  | [] => rfl
  | n :: ns => ⟨_, _, rfl, rfl, RepL.ofInts ns⟩
theorem RepL.bls {F : Hp} : ∀ {ns : List Bool} {xs : List V}, RepL F (ns.map D.bl) xs → xs = ns.map V.bl
  | [], _, h => h
  | n :: ns, _, ⟨x, r, e, q, t⟩ => by rw [e, show x = _ from q, RepL.bls t]; rfl
theorem RepL.set {F : Hp} : ∀ {ds : List D} {xs : List V} (i : Nat) {d : D} {x : V}, RepL F ds xs → Rep F d x → RepL F (ds.set i d) (xs.set i x)
  | [], _, _, _, _, h, _ => by rw [show _ = [] from h]; rfl
  | d :: ds, _, 0, _, _, ⟨x, r, e, q, t⟩, z => by rw [e]; exact ⟨_, _, rfl, z, t⟩
  | d :: ds, _, i + 1, _, _, ⟨x, r, e, q, t⟩, z => by rw [e]; exact ⟨_, _, rfl, q, RepL.set i t z⟩
theorem RepF.lookup {F : Hp} {f : Str} : ∀ {gs : List (Str × D)} {fs : List (Str × V)} {d : D}, RepF F gs fs → gs.lookup f = some d → ∃ x, fs.lookup f = some x ∧ Rep F d x
  | [], _, _, _, e => by cases e
  | (k, d) :: gs, _, e, ⟨x, r, q, h, t⟩, z => by
    rw [q]
    unfold List.lookup at z ⊢
    split at z
    · cases z
      exact ⟨x, rfl, h⟩
    · exact RepF.lookup t z
/-! ### owned objects -/
mutual
def RepO (F H : Hp) : O → V → List Addr → Prop
  | .fr d, x, A => A = [] ∧ Rep F d x
  | .lst os, x, A => ∃ a xs B, x = .ref a ∧ A = a :: B ∧ H a = some (.lst xs) ∧ RepOL F H os xs B
  | .dct t kos, x, A => ∃ a o kvs B, x = .ref a ∧ A = a :: B ∧ H a = some o ∧ DObj t kvs o ∧ RepOM F H kos kvs B
  | .ins C gs, x, A => ∃ a dx fs B, x = .ref a ∧ A = a :: B ∧ H a = some (.ins C dx fs) ∧ RepOF F H gs fs B
def RepOL (F H : Hp) : List O → List V → List Addr → Prop
  | [], xs, A => xs = [] ∧ A = []
  | o :: os, xs, A => ∃ x r B C, xs = x :: r ∧ A = B ++ C ∧ RepO F H o x B ∧ RepOL F H os r C
def RepOM (F H : Hp) : List (List Key × O) → List (List Key × V) → List Addr → Prop
  | [], xs, A => xs = [] ∧ A = []
  | (k, o) :: os, xs, A => ∃ x r B C, xs = (k, x) :: r ∧ A = B ++ C ∧ RepO F H o x B ∧ RepOM F H os r C
def RepOF (F H : Hp) : List (Str × O) → List (Str × V) → List Addr → Prop
  | [], xs, A => xs = [] ∧ A = []
  | (k, o) :: os, xs, A => ∃ x r B C, xs = (k, x) :: r ∧ A = B ++ C ∧ RepO F H o x B ∧ RepOF F H os r C
end
mutual
def O.frz : O → D
  | .fr d => d
  | .lst os => .lst (O.frzL os)
  | .dct t kos => .dct t (O.frzM kos)
  | .ins C gs => .ins C (O.frzF gs)
def O.frzL : List O → List D
  | [] => []
  | o :: os => o.frz :: O.frzL os
def O.frzM : List (List Key × O) → List (List Key × D)
  | [] => []
  | (k, o) :: os => (k, o.frz) :: O.frzM os
def O.frzF : List (Str × O) → List (Str × D)
  | [] => []
  | (k, o) :: os => (k, o.frz) :: O.frzF os
end
/-- the heap stays at A, the data grow -/
structure Stay (F H : Hp) (A : List Addr) (F' H' : Hp) : Prop where
  f : Sm F F'
  h : ∀ a ∈ A, ∀ o, H a = some o → H' a = some o
theorem Stay.sub {F H F' H' : Hp} {A B : List Addr} (s : Stay F H A F' H') (i : ∀ a ∈ B, a ∈ A) : Stay F H B F' H' := ⟨s.f, fun a h => s.h a (i a h)⟩
mutual
theorem RepO.stay {F H F' H' : Hp} : ∀ {o : O} {x : V} {A : List Addr}, Stay F H A F' H' → RepO F H o x A → RepO F' H' o x A
  | .fr d, _, _, s, ⟨e, r⟩ => ⟨e, r.mono s.f.toH⟩
  | .lst os, _, _, s, ⟨a, xs, B, e, eA, h, r⟩ => ⟨a, xs, B, e, eA, s.h a (by rw [eA]; exact List.mem_cons_self) _ h, RepOL.stay (s.sub fun b hb => by rw [eA]; exact List.mem_cons_of_mem _ hb) r⟩
  | .dct t os, _, _, s, ⟨a, o, xs, B, e, eA, h, c, r⟩ => ⟨a, o, xs, B, e, eA, s.h a (by rw [eA]; exact List.mem_cons_self) _ h, c, RepOM.stay (s.sub fun b hb => by rw [eA]; exact List.mem_cons_of_mem _ hb) r⟩
  | .ins C os, _, _, s, ⟨a, dx, xs, B, e, eA, h, r⟩ => ⟨a, dx, xs, B, e, eA, s.h a (by rw [eA]; exact List.mem_cons_self) _ h, RepOF.stay (s.sub fun b hb => by rw [eA]; exact List.mem_cons_of_mem _ hb) r⟩
theorem RepOL.stay {F H F' H' : Hp} : ∀ {os : List O} {xs : List V} {A : List Addr}, Stay F H A F' H' → RepOL F H os xs A → RepOL F' H' os xs A
  | [], _, _, _, h => h
  | o :: os, _, _, s, ⟨x, r, B, C, e, eA, h, t⟩ => ⟨x, r, B, C, e, eA, RepO.stay (s.sub fun b hb => by rw [eA]; exact List.mem_append_left _ hb) h, RepOL.stay (s.sub fun b hb => by rw [eA]; exact List.mem_append_right _ hb) t⟩
theorem RepOM.stay {F H F' H' : Hp} : ∀ {os : List (List Key × O)} {xs : List (List Key × V)} {A : List Addr}, Stay F H A F' H' → RepOM F H os xs A → RepOM F' H' os xs A
  | [], _, _, _, h => h
  | (k, o) :: os, _, _, s, ⟨x, r, B, C, e, eA, h, t⟩ => ⟨x, r, B, C, e, eA, RepO.stay (s.sub fun b hb => by rw [eA]; exact List.mem_append_left _ hb) h, RepOM.stay (s.sub fun b hb => by rw [eA]; exact List.mem_append_right _ hb) t⟩
theorem RepOF.stay {F H F' H' : Hp} : ∀ {os : List (Str × O)} {xs : List (Str × V)} {A : List Addr}, Stay F H A F' H' → RepOF F H os xs A → RepOF F' H' os xs A
  | [], _, _, _, h => h
  | (k, o) :: os, _, _, s, ⟨x, r, B, C, e, eA, h, t⟩ => ⟨x, r, B, C, e, eA, RepO.stay (s.sub fun b hb => by rw [eA]; exact List.mem_append_left _ hb) h, RepOF.stay (s.sub fun b hb => by rw [eA]; exact List.mem_append_right _ hb) t⟩
end
/-! of what sort owned objects are -/
def ownK : HO → Bool
  | .lst _ => true
  | .dK _ => true
  | .dT _ => true
  | .ins _ _ _ => true
  | _ => false
theorem own_tbl {H : Hp} {a : Addr} {o : HO} (k : ∃ u, H a = some u ∧ ownK u = true) (h : H a = some o) : isTbl o = false := by
  obtain ⟨u, hu, hk⟩ := k
  rw [h] at hu
  cases hu
  cases o <;> first | rfl | cases hk
mutual
theorem RepO.kind {F H : Hp} : ∀ {o : O} {x : V} {A : List Addr}, RepO F H o x A → ∀ a ∈ A, ∃ u, H a = some u ∧ ownK u = true
  | .fr d, _, _, ⟨e, _⟩, a, ha => by rw [e] at ha; cases ha
  | .lst os, _, _, ⟨a, xs, B, _, eA, h, r⟩, b, hb => by
    rw [eA] at hb
    rcases List.mem_cons.mp hb with rfl | hb
    · exact ⟨_, h, rfl⟩
    · exact RepOL.kind r b hb
  | .dct t os, _, _, ⟨a, o, xs, B, _, eA, h, c, r⟩, b, hb => by
    rw [eA] at hb
    rcases List.mem_cons.mp hb with rfl | hb
    · refine ⟨_, h, ?_⟩
      cases t with
      | true => rw [show o = _ from c]; rfl
      | false => obtain ⟨k0, e, _⟩ := c; rw [e]; rfl
    · exact RepOM.kind r b hb
  | .ins C os, _, _, ⟨a, dx, xs, B, _, eA, h, r⟩, b, hb => by
    rw [eA] at hb
    rcases List.mem_cons.mp hb with rfl | hb
    · exact ⟨_, h, rfl⟩
    · exact RepOF.kind r b hb
theorem RepOL.kind {F H : Hp} : ∀ {os : List O} {xs : List V} {A : List Addr}, RepOL F H os xs A → ∀ a ∈ A, ∃ u, H a = some u ∧ ownK u = true
  | [], _, _, ⟨_, e⟩, a, ha => by rw [e] at ha; cases ha
  | o :: os, _, _, ⟨x, r, B, C, _, eA, h, t⟩, a, ha => by
    rw [eA] at ha
    exact (List.mem_append.mp ha).elim (RepO.kind h a) (RepOL.kind t a)
theorem RepOM.kind {F H : Hp} : ∀ {os : List (List Key × O)} {xs : List (List Key × V)} {A : List Addr}, RepOM F H os xs A → ∀ a ∈ A, ∃ u, H a = some u ∧ ownK u = true
  | [], _, _, ⟨_, e⟩, a, ha => by rw [e] at ha; cases ha
  | (k, o) :: os, _, _, ⟨x, r, B, C, _, eA, h, t⟩, a, ha => by
    rw [eA] at ha
    exact (List.mem_append.mp ha).elim (RepO.kind h a) (RepOM.kind t a)
theorem RepOF.kind {F H : Hp} : ∀ {os : List (Str × O)} {xs : List (Str × V)} {A : List Addr}, RepOF F H os xs A → ∀ a ∈ A, ∃ u, H a = some u ∧ ownK u = true
  | [], _, _, ⟨_, e⟩, a, ha => by rw [e] at ha; cases ha
  | (k, o) :: os, _, _, ⟨x, r, B, C, _, eA, h, t⟩, a, ha => by
    rw [eA] at ha
    exact (List.mem_append.mp ha).elim (RepO.kind h a) (RepOF.kind t a)
end
/-! all that is owned becomes data -/
mutual
theorem RepO.frz {F H G : Hp} (s : SmH F G) : ∀ {o : O} {x : V} {A : List Addr}, (∀ a ∈ A, ∀ u, H a = some u → G a = some u) → RepO F H o x A → Rep G o.frz x
  | .fr d, _, _, _, ⟨_, r⟩ => r.mono s
  | .lst os, _, _, g, ⟨a, xs, B, e, eA, h, r⟩ => ⟨a, xs, e, g a (by rw [eA]; exact List.mem_cons_self) _ h, RepOL.frz s (fun b hb => g b (by rw [eA]; exact List.mem_cons_of_mem _ hb)) r⟩
  | .dct t os, _, _, g, ⟨a, o, xs, B, e, eA, h, c, r⟩ => ⟨a, o, xs, e, g a (by rw [eA]; exact List.mem_cons_self) _ h, by rw [c.core]; exact c, RepOM.frz s (fun b hb => g b (by rw [eA]; exact List.mem_cons_of_mem _ hb)) r⟩
  | .ins C os, _, _, g, ⟨a, dx, xs, B, e, eA, h, r⟩ => ⟨a, dx, xs, e, g a (by rw [eA]; exact List.mem_cons_self) _ h, RepOF.frz s (fun b hb => g b (by rw [eA]; exact List.mem_cons_of_mem _ hb)) r⟩
theorem RepOL.frz {F H G : Hp} (s : SmH F G) : ∀ {os : List O} {xs : List V} {A : List Addr}, (∀ a ∈ A, ∀ u, H a = some u → G a = some u) → RepOL F H os xs A → RepL G (O.frzL os) xs
  | [], _, _, _, h => h.1
  | o :: os, _, _, g, ⟨x, r, B, C, e, eA, h, t⟩ => ⟨x, r, e, RepO.frz s (fun b hb => g b (by rw [eA]; exact List.mem_append_left _ hb)) h, RepOL.frz s (fun b hb => g b (by rw [eA]; exact List.mem_append_right _ hb)) t⟩
theorem RepOM.frz {F H G : Hp} (s : SmH F G) : ∀ {os : List (List Key × O)} {xs : List (List Key × V)} {A : List Addr}, (∀ a ∈ A, ∀ u, H a = some u → G a = some u) → RepOM F H os xs A → RepM G (O.frzM os) xs
  | [], _, _, _, h => h.1
  | (k, o) :: os, _, _, g, ⟨x, r, B, C, e, eA, h, t⟩ => ⟨x, r, e, RepO.frz s (fun b hb => g b (by rw [eA]; exact List.mem_append_left _ hb)) h, RepOM.frz s (fun b hb => g b (by rw [eA]; exact List.mem_append_right _ hb)) t⟩
theorem RepOF.frz {F H G : Hp} (s : SmH F G) : ∀ {os : List (Str × O)} {xs : List (Str × V)} {A : List Addr}, (∀ a ∈ A, ∀ u, H a = some u → G a = some u) → RepOF F H os xs A → RepF G (O.frzF os) xs
  | [], _, _, _, h => h.1
  | (k, o) :: os, _, _, g, ⟨x, r, B, C, e, eA, h, t⟩ => ⟨x, r, e, RepO.frz s (fun b hb => g b (by rw [eA]; exact List.mem_append_left _ hb)) h, RepOF.frz s (fun b hb => g b (by rw [eA]; exact List.mem_append_right _ hb)) t⟩
end
/-! what is owned is there -/
mutual
theorem RepO.there {F H : Hp} : ∀ {o : O} {x : V} {A : List Addr}, RepO F H o x A → ∀ a ∈ A, H a ≠ none
  | .fr d, _, _, ⟨e, _⟩, a, ha => by rw [e] at ha; cases ha
  | .lst os, _, _, ⟨b, xs, B, e, eA, h, r⟩, a, ha => by
    rw [eA] at ha
    rcases List.mem_cons.mp ha with z | ha
    · rw [z, h]; exact Option.some_ne_none _
    · exact RepOL.there r a ha
  | .dct t os, _, _, ⟨b, o, xs, B, e, eA, h, c, r⟩, a, ha => by
    rw [eA] at ha
    rcases List.mem_cons.mp ha with z | ha
    · rw [z, h]; exact Option.some_ne_none _
    · exact RepOM.there r a ha
  | .ins C os, _, _, ⟨b, dx, xs, B, e, eA, h, r⟩, a, ha => by
    rw [eA] at ha
    rcases List.mem_cons.mp ha with z | ha
    · rw [z, h]; exact Option.some_ne_none _
    · exact RepOF.there r a ha
theorem RepOL.there {F H : Hp} : ∀ {os : List O} {xs : List V} {A : List Addr}, RepOL F H os xs A → ∀ a ∈ A, H a ≠ none
  | [], _, _, ⟨_, e⟩, a, ha => by rw [e] at ha; cases ha
  | o :: os, _, _, ⟨x, r, B, C, e, eA, h, t⟩, a, ha => by
    rw [eA] at ha
    rcases List.mem_append.mp ha with ha | ha
    · exact RepO.there h a ha
    · exact RepOL.there t a ha
theorem RepOM.there {F H : Hp} : ∀ {os : List (List Key × O)} {xs : List (List Key × V)} {A : List Addr}, RepOM F H os xs A → ∀ a ∈ A, H a ≠ none
  | [], _, _, ⟨_, e⟩, a, ha => by rw [e] at ha; cases ha
  | (k, o) :: os, _, _, ⟨x, r, B, C, e, eA, h, t⟩, a, ha => by
    rw [eA] at ha
    rcases List.mem_append.mp ha with ha | ha
    · exact RepO.there h a ha
    · exact RepOM.there t a ha
theorem RepOF.there {F H : Hp} : ∀ {os : List (Str × O)} {xs : List (Str × V)} {A : List Addr}, RepOF F H os xs A → ∀ a ∈ A, H a ≠ none
  | [], _, _, ⟨_, e⟩, a, ha => by rw [e] at ha; cases ha
  | (k, o) :: os, _, _, ⟨x, r, B, C, e, eA, h, t⟩, a, ha => by
    rw [eA] at ha
    rcases List.mem_append.mp ha with ha | ha
    · exact RepO.there h a ha
    · exact RepOF.there t a ha
end

/-! ### slots -/
abbrev DEnv := List S
def RepSl (F H : Hp) : S → Option V → List Addr → Prop
  | .un, _, A => A = []
  | .ow o, v, A => ∃ x, v = some x ∧ RepO F H o x A
  | .bo o, v, A => ∃ x, v = some x ∧ RepO F H o x A
def RepS (F H : Hp) : DEnv → L2.St → List Addr → Prop
  | [], σ, A => σ = [] ∧ A = [] ∧ TabOk F
  | s :: env, σ, A => ∃ v r B C, σ = v :: r ∧ A = B ++ C ∧ RepSl F H s v B ∧ RepS F H env r C
theorem RepSl.stay {F H F' H' : Hp} {s : S} {v : Option V} {A : List Addr} (y : Stay F H A F' H') (h : RepSl F H s v A) : RepSl F' H' s v A := by
  cases s with
  | un => exact h
  | ow o => obtain ⟨x, e, r⟩ := h; exact ⟨x, e, r.stay y⟩
  | bo o => obtain ⟨x, e, r⟩ := h; exact ⟨x, e, r.stay y⟩
theorem RepS.stay {F H F' H' : Hp} : ∀ {env : DEnv} {σ : L2.St} {A : List Addr}, Stay F H A F' H' → RepS F H env σ A → RepS F' H' env σ A
  | [], _, _, y, ⟨e1, e2, e3⟩ => ⟨e1, e2, e3.sm y.f⟩
  | s :: env, _, _, y, ⟨v, r, B, C, e, eA, h, t⟩ => ⟨v, r, B, C, e, eA, RepSl.stay (y.sub fun b hb => by rw [eA]; exact List.mem_append_left _ hb) h, RepS.stay (y.sub fun b hb => by rw [eA]; exact List.mem_append_right _ hb) t⟩
theorem RepSl.there {F H : Hp} {s : S} {v : Option V} {A : List Addr} (h : RepSl F H s v A) : ∀ a ∈ A, H a ≠ none := by
  cases s with
  | un => intro a ha; rw [show A = [] from h] at ha; cases ha
  | ow o => obtain ⟨x, e, r⟩ := h; exact r.there
  | bo o => obtain ⟨x, e, r⟩ := h; exact r.there
theorem RepS.there {F H : Hp} : ∀ {env : DEnv} {σ : L2.St} {A : List Addr}, RepS F H env σ A → ∀ a ∈ A, H a ≠ none
  | [], _, _, ⟨_, e, _⟩, a, ha => by rw [e] at ha; cases ha
  | s :: env, _, _, ⟨v, r, B, C, e, eA, h, t⟩, a, ha => by
    rw [eA] at ha
    rcases List.mem_append.mp ha with ha | ha
    · exact h.there a ha
    · exact RepS.there t a ha
theorem RepSl.kind {F H : Hp} {s : S} {v : Option V} {A : List Addr} (h : RepSl F H s v A) : ∀ a ∈ A, ∃ u, H a = some u ∧ ownK u = true := by
  cases s with
  | un => intro a ha; rw [show A = [] from h] at ha; cases ha
  | ow o => obtain ⟨x, e, r⟩ := h; exact r.kind
  | bo o => obtain ⟨x, e, r⟩ := h; exact r.kind
theorem RepS.kind {F H : Hp} : ∀ {env : DEnv} {σ : L2.St} {A : List Addr}, RepS F H env σ A → ∀ a ∈ A, ∃ u, H a = some u ∧ ownK u = true
  | [], _, _, ⟨_, e, _⟩, a, ha => by rw [e] at ha; cases ha
  | s :: env, _, _, ⟨v, r, B, C, e, eA, h, t⟩, a, ha => by
    rw [eA] at ha
    exact (List.mem_append.mp ha).elim (h.kind a) (RepS.kind t a)
theorem RepS.tab {F H : Hp} : ∀ {env : DEnv} {σ : L2.St} {A : List Addr}, RepS F H env σ A → TabOk F
  | [], _, _, ⟨_, _, e⟩ => e
  | _ :: _, _, _, ⟨_, _, _, _, _, _, _, t⟩ => RepS.tab t
theorem RepS.len {F H : Hp} : ∀ {env : DEnv} {σ : L2.St} {A : List Addr}, RepS F H env σ A → σ.length = env.length
  | [], _, _, ⟨e, _⟩ => by rw [e]; rfl
  | s :: env, _, _, ⟨v, r, B, C, e, eA, h, t⟩ => by rw [e, List.length_cons, List.length_cons, RepS.len t]
/-- a slot taken out -/
theorem RepS.out {F H : Hp} : ∀ {env : DEnv} {σ : L2.St} {A : List Addr} {i : Nat} {s : S}, RepS F H env σ A → env[i]? = some s →
    ∃ v B R, σ[i]? = some v ∧ RepSl F H s v B ∧ A.Perm (B ++ R) ∧ RepS F H (env.set i .un) σ R
  | [], _, _, _, _, _, e => by simp at e
  | s :: env, _, _, 0, _, ⟨v, r, B, C, e, eA, h, t⟩, z => by
    cases z
    exact ⟨v, B, C, by rw [e]; rfl, h, by rw [eA], v, r, [], C, e, rfl, rfl, t⟩
  | s :: env, _, _, i + 1, _, ⟨v, r, B, C, e, eA, h, t⟩, z => by
    obtain ⟨v', B', R', h1, h2, h3, h4⟩ := RepS.out (i := i) t z
    refine ⟨v', B', B ++ R', by rw [e]; exact h1, h2, ?_, v, r, B, R', e, rfl, h, h4⟩
    rw [eA]
    exact (List.Perm.append_left B h3).trans (by
      rw [← List.append_assoc, ← List.append_assoc]
      exact List.Perm.append_right _ List.perm_append_comm)
/-- a slot filled -/
theorem RepS.put {F H : Hp} {s : S} {v : Option V} {B : List Addr} (h : RepSl F H s v B) : ∀ {env : DEnv} {σ : L2.St} {R : List Addr} {i : Nat}, RepS F H env σ R → env[i]? = some .un →
    ∃ A, A.Perm (B ++ R) ∧ RepS F H (env.set i s) (σ.set i v) A
  | [], _, _, _, _, e => by simp at e
  | u :: env, _, _, 0, ⟨w, r, B', C, e, eA, h', t⟩, z => by
    cases z
    refine ⟨B ++ C, ?_, v, r, B, C, by rw [e]; rfl, rfl, h, t⟩
    rw [eA, show B' = [] from h']
    exact List.Perm.refl _
  | u :: env, _, _, i + 1, ⟨w, r, B', C, e, eA, h', t⟩, z => by
    obtain ⟨A', p, q⟩ := RepS.put h (i := i) t z
    refine ⟨B' ++ A', ?_, w, _, B', A', by rw [e]; rfl, rfl, h', q⟩
    rw [eA]
    exact (List.Perm.append_left B' p).trans (by
      rw [← List.append_assoc, ← List.append_assoc]
      exact List.Perm.append_right _ List.perm_append_comm)
theorem set_self {α : Type} : ∀ {l : List α} {i : Nat} {x : α}, l[i]? = some x → l.set i x = l
  | [], _, _, _ => rfl
  | a :: l, 0, _, h => by cases h; rfl
  | a :: l, i + 1, _, h => by rw [List.set_cons_succ, set_self (l := l) h]
theorem get_set {α : Type} {l : List α} {i : Nat} {x y : α} (h : l[i]? = some y) : (l.set i x)[i]? = some x := by
  have := (List.getElem?_eq_some_iff.mp h).1
  rw [List.getElem?_set_self this]
/-! ### states -/
structure Good (F H : Hp) (env : DEnv) (σ : L2.St) (A : List Addr) : Prop where
  sub : Same F H
  rep : RepS F H env σ A
  nd : A.Nodup
  dis : ∀ a ∈ A, F a = none
/-- what a piece of code may do to a state -/
structure Step (F H : Hp) (env : DEnv) (σ : L2.St) (A : List Addr) (F' H' : Hp) (env' : DEnv) (σ' : L2.St) (A' : List Addr) : Prop where
  f : Sm F F'
  keep : ∀ a o, H a = some o → isTbl o = false → a ∉ A → F a = none → H' a = some o
  free : ∀ a, H' a = none → H a = none
  anew : ∀ a ∈ A', a ∈ A ∨ H a = none
  fnew : ∀ a, F' a ≠ none → F a ≠ none ∨ a ∈ A ∨ H a = none
  bor : ∀ (i : Nat) (o : O), env[i]? = some (S.bo o) → ∃ o' : O, env'[i]? = some (S.bo o') ∧ σ'[i]? = σ[i]?
section
variable {F H F' H' F'' H'' : Hp} {env env' env'' : DEnv} {σ σ' σ'' : L2.St} {A A' A'' : List Addr}
theorem Step.refl : Step F H env σ A F H env σ A := ⟨.refl _, fun _ _ h _ _ _ => h, fun _ h => h, fun _ h => .inl h, fun _ h => .inl h, fun _ _ h => ⟨_, h, rfl⟩⟩
theorem Step.trans (s : Step F H env σ A F' H' env' σ' A') (t : Step F' H' env' σ' A' F'' H'' env'' σ'' A'') : Step F H env σ A F'' H'' env'' σ'' A'' where
  f := s.f.trans t.f
  keep := fun a o h nt n f => t.keep a o (s.keep a o h nt n f) nt (fun z => (s.anew a z).elim n fun z => by rw [h] at z; cases z) (by
    cases q : F' a with
    | none => rfl
    | some u =>
      rcases s.fnew a (by rw [q]; exact Option.some_ne_none _) with z | z | z
      · exact absurd f z
      · exact absurd z n
      · rw [h] at z; cases z)
  free := fun a h => s.free a (t.free a h)
  anew := fun a h => (t.anew a h).elim (fun z => s.anew a z) fun z => .inr (s.free a z)
  fnew := fun a h => (t.fnew a h).elim (fun z => s.fnew a z) fun z => z.elim (fun z => (s.anew a z).elim (fun z => .inr (.inl z)) fun z => .inr (.inr z)) fun z => .inr (.inr (s.free a z))
  bor := fun i o h => by
    obtain ⟨o1, h1, e1⟩ := s.bor i o h
    obtain ⟨o2, h2, e2⟩ := t.bor i o1 h1
    exact ⟨o2, h2, e2.trans e1⟩
theorem Step.fno (s : Step F H env σ A F' H' env' σ' A') {a : Addr} {o : HO} (f : F a = none) (h : H a = some o) (n : a ∉ A) : F' a = none := by
  cases q : F' a with
  | none => rfl
  | some u =>
    rcases s.fnew a (by rw [q]; exact Option.some_ne_none _) with z | z | z
    · exact absurd f z
    · exact absurd z n
    · rw [h] at z; cases z
theorem Step.smH (s : Step F H env σ A F' H' env' σ' A') (sub : Same F H) (sub' : Same F' H') {a : Addr} {o : HO} (n : a ∉ A) (h : H a = some o) : ∃ o', H' a = some o' ∧ UpH o o' := by
  cases f : F a with
  | none =>
    cases nt : isTbl o with
    | false => exact ⟨o, s.keep a o h nt n f, .inl rfl⟩
    | true =>
      cases q : H' a with
      | none => rw [s.free a q] at h; cases h
      | some u => exact ⟨u, rfl, .inr (.inr nt)⟩
  | some u =>
    have e := sub _ _ f
    rw [h] at e
    cases e
    obtain ⟨o', h', c⟩ := s.f a _ f
    exact ⟨o', sub' _ _ h', c.toH⟩
/-- the footprint's order is of no matter -/
theorem Step.mem (s : Step F H env σ A F' H' env' σ' A') (m : ∀ a ∈ A'', a ∈ A') : Step F H env σ A F' H' env' σ' A'' := ⟨s.f, s.keep, s.free, fun a h => s.anew a (m a h), s.fnew, s.bor⟩
/-- a heap that only grows -/
structure Ext (F H F' H' : Hp) (C : List Addr) : Prop where
  f : Sm F F'
  h : SmH H H'
  hx : ∀ a o, H a = some o → isTbl o = false → F a = none → H' a = some o
  sub : Same F' H'
  cnew : ∀ a ∈ C, H a = none
  fnew : ∀ a, F' a ≠ none → F a ≠ none ∨ H a = none
theorem Ext.refl (s : Same F H) : Ext F H F H [] := ⟨.refl _, .refl _, fun _ _ h _ _ => h, s, fun _ h => (nomatch h), fun _ h => .inl h⟩
theorem Ext.trans {C C' : List Addr} (s : Ext F H F' H' C) (t : Ext F' H' F'' H'' C') : Ext F H F'' H'' (C ++ C') :=
  ⟨s.f.trans t.f, s.h.trans t.h, fun a o h nt f => t.hx a o (s.hx a o h nt f) nt (by
    cases q : F' a with
    | none => rfl
    | some u =>
      rcases s.fnew a (by rw [q]; exact Option.some_ne_none _) with z | z
      · exact absurd f z
      · rw [h] at z; cases z), t.sub, fun a h => (List.mem_append.mp h).elim (s.cnew a) fun z => s.h.free (t.cnew a z), fun a h => (t.fnew a h).elim (s.fnew a) fun z => .inr (s.h.free z)⟩
theorem Ext.fno {C : List Addr} (s : Ext F H F' H' C) {a : Addr} {o : HO} (f : F a = none) (h : H a = some o) : F' a = none := by
  cases q : F' a with
  | none => rfl
  | some u =>
    rcases s.fnew a (by rw [q]; exact Option.some_ne_none _) with z | z
    · exact absurd f z
    · rw [h] at z; cases z
theorem Ext.good {C : List Addr} (e : Ext F H F' H' C) (g : Good F H env σ A) : Good F' H' env σ A :=
  ⟨e.sub, g.rep.stay ⟨e.f, fun a m o h => e.hx a o h (own_tbl (g.rep.kind a m) h) (g.dis a m)⟩, g.nd, fun a ha => by
    cases q : F' a with
    | none => rfl
    | some u =>
      rcases e.fnew a (by rw [q]; exact Option.some_ne_none _) with z | z
      · exact absurd (g.dis a ha) z
      · exact absurd z (g.rep.there a ha)⟩
theorem Ext.step {C : List Addr} (e : Ext F H F' H' C) : Step F H env σ A F' H' env σ (A ++ C) :=
  ⟨e.f, fun a o h nt _ f => e.hx a o h nt f, fun a z => e.h.free z, fun a h => (List.mem_append.mp h).elim .inl fun z => .inr (e.cnew a z), fun a h => (e.fnew a h).elim .inl fun z => .inr (.inr z), fun _ _ h => ⟨_, h, rfl⟩⟩
theorem Ext.noC {C C' : List Addr} (e : Ext F H F' H' C) (h : ∀ a ∈ C', a ∈ C) : Ext F H F' H' C' := ⟨e.f, e.h, e.hx, e.sub, fun a z => e.cnew a (h a z), e.fnew⟩
end
/-! ### paths -/
inductive PSt where
  | ix (j : Nat) | fld (f : Str) | key (k : List Key)
def getM {α : Type} : List (List Key × α) → List Key → Option α
  | [], _ => none
  | (k, d) :: r, j => if k = j then some d else getM r j
def PathV (H : Hp) : V → List PSt → V → Prop
  | y, [], x => y = x
  | y, .ix j :: p, x => ∃ a xs z, y = .ref a ∧ H a = some (.lst xs) ∧ xs[j]? = some z ∧ PathV H z p x
  | y, .fld f :: p, x => ∃ a C dx fs z, y = .ref a ∧ H a = some (.ins C dx fs) ∧ fs.lookup f = some z ∧ PathV H z p x
  | y, .key k :: p, x => ∃ a o t kvs z, y = .ref a ∧ H a = some o ∧ DObj t kvs (core o) ∧ getM kvs k = some z ∧ PathV H z p x
def O.at : O → List PSt → Option O
  | o, [] => some o
  | .lst os, .ix j :: p => match os[j]? with
    | some o => o.at p
    | none => none
  | .ins _ gs, .fld f :: p => match gs.lookup f with
    | some o => o.at p
    | none => none
  | .dct _ kos, .key k :: p => match getM kos k with
    | some o => o.at p
    | none => none
  | _, _ => none
def putY {α : Type} (k : List Key) (o : α) : List (List Key × α) → List (List Key × α)
  | [] => []
  | (j, u) :: r => if j = k then (j, o) :: r else (j, u) :: putY k o r
def putA {α : Type} (f : Str) (o : α) : List (Str × α) → List (Str × α)
  | [] => []
  | (k, u) :: r => if f == k then (k, o) :: r else (k, u) :: putA f o r
def O.put : O → List PSt → O → O
  | _, [], u => u
  | .lst os, .ix j :: p, u => match os[j]? with
    | some o => .lst (os.set j (o.put p u))
    | none => .lst os
  | .ins C gs, .fld f :: p, u => match gs.lookup f with
    | some o => .ins C (putA f (o.put p u) gs)
    | none => .ins C gs
  | .dct t kos, .key k :: p, u => match getM kos k with
    | some o => .dct t (putY k (o.put p u) kos)
    | none => .dct t kos
  | o, _, _ => o
theorem perm_in {B R C D : List Addr} (h : C.Perm (B ++ R)) : (D ++ C).Perm (B ++ (D ++ R)) :=
  (List.Perm.append_left D h).trans (by
    rw [← List.append_assoc, ← List.append_assoc]
    exact List.Perm.append_right _ List.perm_append_comm)
theorem perm_inR {B R C D : List Addr} (h : C.Perm (B ++ R)) : (C ++ D).Perm (B ++ (R ++ D)) := by
  rw [← List.append_assoc]
  exact List.Perm.append_right _ h
/-- an item of a row taken out, and put back as another -/
theorem RepOL.focus {F H : Hp} : ∀ {os : List O} {xs : List V} {A : List Addr} {j : Nat} {o : O}, RepOL F H os xs A → os[j]? = some o →
    ∃ x B R, xs[j]? = some x ∧ RepO F H o x B ∧ A.Perm (B ++ R) ∧ ∀ F' H' o' B' x', Stay F H R F' H' → RepO F' H' o' x' B' → ∃ A', RepOL F' H' (os.set j o') (xs.set j x') A' ∧ A'.Perm (B' ++ R)
  | [], _, _, _, _, _, e => by simp at e
  | o :: os, _, _, 0, _, ⟨x, r, B, C, e, eA, h, t⟩, z => by
    cases z
    refine ⟨x, B, C, by rw [e]; rfl, h, by rw [eA], fun F' H' o' B' x' y h' => ⟨B' ++ C, ⟨x', r, B', C, by rw [e]; rfl, rfl, h', t.stay y⟩, List.Perm.refl _⟩⟩
  | o :: os, _, _, j + 1, _, ⟨x, r, B, C, e, eA, h, t⟩, z => by
    obtain ⟨x1, B1, R1, h1, h2, h3, h4⟩ := RepOL.focus (j := j) t z
    refine ⟨x1, B1, B ++ R1, by rw [e]; exact h1, h2, by rw [eA]; exact perm_in h3, fun F' H' o' B' x' y h' => ?_⟩
    obtain ⟨A', q1, q2⟩ := h4 F' H' o' B' x' (y.sub fun a ha => List.mem_append_right _ ha) h'
    exact ⟨B ++ A', ⟨x, _, B, A', by rw [e]; rfl, rfl, h.stay (y.sub fun a ha => List.mem_append_left _ ha), q1⟩, perm_in q2⟩
theorem RepOF.focus {F H : Hp} {f : Str} : ∀ {os : List (Str × O)} {xs : List (Str × V)} {A : List Addr} {o : O}, RepOF F H os xs A → os.lookup f = some o →
    ∃ x B R, xs.lookup f = some x ∧ RepO F H o x B ∧ A.Perm (B ++ R) ∧ ∀ F' H' o' B', Stay F H R F' H' → RepO F' H' o' x B' → ∃ A', RepOF F' H' (putA f o' os) xs A' ∧ A'.Perm (B' ++ R)
  | [], _, _, _, _, e => by cases e
  | (k, o) :: os, _, _, o0, ⟨x, r, B, C, e, eA, h, t⟩, z => by
    unfold List.lookup at z
    cases hk : f == k with
    | true =>
      rw [hk] at z
      cases z
      refine ⟨x, B, C, by rw [e]; unfold List.lookup; rw [hk], h, by rw [eA], fun F' H' o' B' y h' => ⟨B' ++ C, ?_, List.Perm.refl _⟩⟩
      unfold putA
      rw [if_pos hk]
      exact ⟨x, r, B', C, e, rfl, h', t.stay y⟩
    | false =>
      rw [hk] at z
      obtain ⟨x1, B1, R1, h1, h2, h3, h4⟩ := RepOF.focus t z
      refine ⟨x1, B1, B ++ R1, by rw [e]; unfold List.lookup; rw [hk]; exact h1, h2, by rw [eA]; exact perm_in h3, fun F' H' o' B' y h' => ?_⟩
      obtain ⟨A', q1, q2⟩ := h4 F' H' o' B' (y.sub fun a ha => List.mem_append_right _ ha) h'
      refine ⟨B ++ A', ?_, perm_in q2⟩
      unfold putA
      rw [if_neg (by rw [hk]; exact Bool.false_ne_true)]
      exact ⟨x, r, B, A', e, rfl, h.stay (y.sub fun a ha => List.mem_append_left _ ha), q1⟩
theorem RepOM.focus {F H : Hp} {k : List Key} : ∀ {os : List (List Key × O)} {xs : List (List Key × V)} {A : List Addr} {o : O}, RepOM F H os xs A → getM os k = some o →
    ∃ x B R, getM xs k = some x ∧ RepO F H o x B ∧ A.Perm (B ++ R) ∧ ∀ F' H' o' B', Stay F H R F' H' → RepO F' H' o' x B' → ∃ A', RepOM F' H' (putY k o' os) xs A' ∧ A'.Perm (B' ++ R)
  | [], _, _, _, _, e => by cases e
  | (j, o) :: os, _, _, o0, ⟨x, r, B, C, e, eA, h, t⟩, z => by
    unfold getM at z
    by_cases hk : j = k
    · rw [if_pos hk] at z
      cases z
      refine ⟨x, B, C, by rw [e]; unfold getM; rw [if_pos hk], h, by rw [eA], fun F' H' o' B' y h' => ⟨B' ++ C, ?_, List.Perm.refl _⟩⟩
      unfold putY
      rw [if_pos hk]
      exact ⟨x, r, B', C, e, rfl, h', t.stay y⟩
    · rw [if_neg hk] at z
      obtain ⟨x1, B1, R1, h1, h2, h3, h4⟩ := RepOM.focus t z
      refine ⟨x1, B1, B ++ R1, by rw [e]; unfold getM; rw [if_neg hk]; exact h1, h2, by rw [eA]; exact perm_in h3, fun F' H' o' B' y h' => ?_⟩
      obtain ⟨A', q1, q2⟩ := h4 F' H' o' B' (y.sub fun a ha => List.mem_append_right _ ha) h'
      refine ⟨B ++ A', ?_, perm_in q2⟩
      unfold putY
      rw [if_neg hk]
      exact ⟨x, r, B, A', e, rfl, h.stay (y.sub fun a ha => List.mem_append_left _ ha), q1⟩
theorem DObj.uniq2 {t u : Bool} {xs ys : List (List Key × V)} {o : HO} (h : DObj t xs o) (k : DObj u ys (Fv.core o)) : xs = ys := by
  rw [h.core] at k
  cases t with
  | true =>
    have h : o = .dT xs := h
    cases u with
    | true => exact DObj.uniq (t := true) h k
    | false =>
      obtain ⟨b, e3, _⟩ := k
      rw [h] at e3
      cases e3
  | false =>
    cases u with
    | false => exact DObj.uniq (t := false) h k
    | true =>
      obtain ⟨b, e3, _⟩ := h
      rw [show o = .dT ys from k] at e3
      cases e3
/-- a part of an owned object taken out, and put back changed -/
theorem RepO.focus {F H : Hp} : ∀ {p : List PSt} {o : O} {y x : V} {A : List Addr} {o1 : O}, RepO F H o y A → o.at p = some o1 → PathV H y p x →
    ∃ B R, RepO F H o1 x B ∧ A.Perm (B ++ R) ∧ ∀ F' H' o' B', Stay F H R F' H' → RepO F' H' o' x B' → ∃ A', RepO F' H' (o.put p o') y A' ∧ A'.Perm (B' ++ R)
  | [], o, y, x, A, o1, h, e, v => by
    have e1 : o = o1 := by unfold O.at at e; exact Option.some.inj e
    have e2 : y = x := v
    subst e1
    subst e2
    refine ⟨A, [], h, by rw [List.append_nil], fun F' H' o' B' s h' => ⟨B', ?_, by rw [List.append_nil]⟩⟩
    unfold O.put
    exact h'
  | .ix j :: p, o, y, x, A, o1, h, e, v => by
    cases o with
    | lst os =>
      unfold O.at at e
      cases ej : os[j]? with
      | none => rw [ej] at e; cases e
      | some o2 =>
        rw [ej] at e
        obtain ⟨a, xs, B, ey, eA, ha, r⟩ := h
        obtain ⟨b, xs', z, ey', hb, hz, v'⟩ := v
        rw [ey] at ey'
        cases ey'
        rw [ha] at hb
        cases hb
        obtain ⟨z', B1, R1, g1, g2, g3, g4⟩ := RepOL.focus r ej
        rw [hz] at g1
        cases g1
        obtain ⟨B2, R2, k1, k2, k3⟩ := RepO.focus (p := p) g2 e v'
        have pm : A.Perm (B2 ++ (a :: (R2 ++ R1))) := by
          rw [eA]
          exact ((List.Perm.cons a (g3.trans (perm_inR k2))).trans (List.perm_middle (l₁ := B2) (l₂ := R2 ++ R1) (a := a)).symm)
        refine ⟨B2, a :: (R2 ++ R1), k1, pm, fun F' H' o' B' s h' => ?_⟩
        obtain ⟨A1, m1, m2⟩ := k3 F' H' o' B' (s.sub fun c hc => List.mem_cons_of_mem _ (List.mem_append_left _ hc)) h'
        obtain ⟨A2, m3, m4⟩ := g4 F' H' _ A1 z (s.sub fun c hc => List.mem_cons_of_mem _ (List.mem_append_right _ hc)) m1
        rw [set_self hz] at m3
        refine ⟨a :: A2, ?_, ?_⟩
        · unfold O.put
          rw [ej]
          exact ⟨a, xs, A2, ey, rfl, s.h a List.mem_cons_self _ ha, m3⟩
        · exact (List.Perm.cons a (m4.trans (perm_inR m2))).trans (List.perm_middle (l₁ := B') (l₂ := R2 ++ R1) (a := a)).symm
    | fr d => unfold O.at at e; cases e
    | dct t d => unfold O.at at e; cases e
    | ins C d => unfold O.at at e; cases e
  | .fld f :: p, o, y, x, A, o1, h, e, v => by
    cases o with
    | ins C gs =>
      unfold O.at at e
      cases ej : gs.lookup f with
      | none => rw [ej] at e; cases e
      | some o2 =>
        rw [ej] at e
        obtain ⟨a, dx, xs, B, ey, eA, ha, r⟩ := h
        obtain ⟨b, C', dx', xs', z, ey', hb, hz, v'⟩ := v
        rw [ey] at ey'
        cases ey'
        rw [ha] at hb
        cases hb
        obtain ⟨z', B1, R1, g1, g2, g3, g4⟩ := RepOF.focus r ej
        rw [hz] at g1
        cases g1
        obtain ⟨B2, R2, k1, k2, k3⟩ := RepO.focus (p := p) g2 e v'
        have pm : A.Perm (B2 ++ (a :: (R2 ++ R1))) := by
          rw [eA]
          exact ((List.Perm.cons a (g3.trans (perm_inR k2))).trans (List.perm_middle (l₁ := B2) (l₂ := R2 ++ R1) (a := a)).symm)
        refine ⟨B2, a :: (R2 ++ R1), k1, pm, fun F' H' o' B' s h' => ?_⟩
        obtain ⟨A1, m1, m2⟩ := k3 F' H' o' B' (s.sub fun c hc => List.mem_cons_of_mem _ (List.mem_append_left _ hc)) h'
        obtain ⟨A2, m3, m4⟩ := g4 F' H' _ A1 (s.sub fun c hc => List.mem_cons_of_mem _ (List.mem_append_right _ hc)) m1
        refine ⟨a :: A2, ?_, ?_⟩
        · unfold O.put
          rw [ej]
          exact ⟨a, dx, xs, A2, ey, rfl, s.h a List.mem_cons_self _ ha, m3⟩
        · exact (List.Perm.cons a (m4.trans (perm_inR m2))).trans (List.perm_middle (l₁ := B') (l₂ := R2 ++ R1) (a := a)).symm
    | fr d => unfold O.at at e; cases e
    | dct t d => unfold O.at at e; cases e
    | lst d => unfold O.at at e; cases e
  | .key k :: p, o, y, x, A, o1, h, e, v => by
    cases o with
    | dct t gs =>
      unfold O.at at e
      cases ej : getM gs k with
      | none => rw [ej] at e; cases e
      | some o2 =>
        rw [ej] at e
        obtain ⟨a, oh, xs, B, ey, eA, ha, dc, r⟩ := h
        obtain ⟨b, oh', t', xs', z, ey', hb, dc', hz, v'⟩ := v
        rw [ey] at ey'
        cases ey'
        rw [ha] at hb
        cases hb
        have ex := dc.uniq2 dc'
        subst ex
        obtain ⟨z', B1, R1, g1, g2, g3, g4⟩ := RepOM.focus r ej
        rw [hz] at g1
        cases g1
        obtain ⟨B2, R2, k1, k2, k3⟩ := RepO.focus (p := p) g2 e v'
        have pm : A.Perm (B2 ++ (a :: (R2 ++ R1))) := by
          rw [eA]
          exact ((List.Perm.cons a (g3.trans (perm_inR k2))).trans (List.perm_middle (l₁ := B2) (l₂ := R2 ++ R1) (a := a)).symm)
        refine ⟨B2, a :: (R2 ++ R1), k1, pm, fun F' H' o' B' s h' => ?_⟩
        obtain ⟨A1, m1, m2⟩ := k3 F' H' o' B' (s.sub fun c hc => List.mem_cons_of_mem _ (List.mem_append_left _ hc)) h'
        obtain ⟨A2, m3, m4⟩ := g4 F' H' _ A1 (s.sub fun c hc => List.mem_cons_of_mem _ (List.mem_append_right _ hc)) m1
        refine ⟨a :: A2, ?_, ?_⟩
        · unfold O.put
          rw [ej]
          exact ⟨a, oh, xs, A2, ey, rfl, s.h a List.mem_cons_self _ ha, dc, m3⟩
        · exact (List.Perm.cons a (m4.trans (perm_inR m2))).trans (List.perm_middle (l₁ := B') (l₂ := R2 ++ R1) (a := a)).symm
    | fr d => unfold O.at at e; cases e
    | ins C d => unfold O.at at e; cases e
    | lst d => unfold O.at at e; cases e

/-! ### results -/
/-- what an expression tells: data or an object no one has; a part of what a slot owns -/
inductive R where
  | o (x : O) | p (i : Nat) (path : List PSt)
abbrev R.d (x : D) : R := .o (.fr x)
def S.cont : S → Option O
  | .un => none
  | .ow o => some o
  | .bo o => some o
def S.re : S → O → S
  | .un, _ => .un
  | .ow _, o => .ow o
  | .bo _, o => .bo o
def contAt (env : DEnv) (i : Nat) (p : List PSt) : Option O := match env[i]? with
  | some s => (match s.cont with
    | some o => o.at p
    | none => none)
  | none => none
def RepR (F H : Hp) (σ : L2.St) (A : List Addr) : R → V → List Addr → Prop
  | .o o, x, C => RepO F H o x C ∧ (A ++ C).Nodup ∧ ∀ a ∈ C, F a = none
  | .p i path, x, C => C = [] ∧ ∃ y, σ[i]? = some (some y) ∧ PathV H y path x
theorem RepSl.cont {F H : Hp} {s : S} {o : O} {v : Option V} {A : List Addr} (h : RepSl F H s v A) (e : s.cont = some o) : ∃ x, v = some x ∧ RepO F H o x A := by
  cases s with
  | un => cases e
  | ow o' => cases e; exact h
  | bo o' => cases e; exact h
theorem RepSl.re {F H : Hp} {s : S} {o o' : O} {x : V} {A : List Addr} (e : s.cont = some o) (h : RepO F H o' x A) : RepSl F H (s.re o') (some x) A := by
  cases s with
  | un => cases e
  | ow _ => exact ⟨x, rfl, h⟩
  | bo _ => exact ⟨x, rfl, h⟩
theorem RepS.focus {F H : Hp} {env : DEnv} {σ : L2.St} {A : List Addr} {i : Nat} {s : S} {o o1 : O} {path : List PSt} {x y : V} (g : RepS F H env σ A) (hs : env[i]? = some s) (hc : s.cont = some o) (ha : o.at path = some o1)
    (hy : σ[i]? = some (some y)) (hv : PathV H y path x) : ∃ B R, RepO F H o1 x B ∧ A.Perm (B ++ R) ∧ ∀ F' H' o' B', Stay F H R F' H' → RepO F' H' o' x B' → ∃ A', RepS F' H' (env.set i (s.re (o.put path o'))) σ A' ∧ A'.Perm (B' ++ R) := by
  obtain ⟨v, B0, R0, h1, h2, h3, h4⟩ := g.out hs
  obtain ⟨x0, ev, ro⟩ := h2.cont hc
  rw [hy] at h1
  cases h1
  cases ev
  obtain ⟨B, R1, k1, k2, k3⟩ := ro.focus ha hv
  refine ⟨B, R1 ++ R0, k1, h3.trans (perm_inR k2), fun F' H' o' B' st r' => ?_⟩
  obtain ⟨A1, m1, m2⟩ := k3 F' H' o' B' (st.sub fun a h => List.mem_append_left _ h) r'
  have h5 := h4.stay (st.sub fun a h => List.mem_append_right _ h)
  obtain ⟨A', p1, p2⟩ := RepS.put (RepSl.re hc m1) h5 (get_set hs)
  refine ⟨A', ?_, p1.trans (perm_inR m2)⟩
  rw [List.set_set] at p2
  rw [set_self hy] at p2
  exact p2
/-! ### freezing -/
def frzH (F H : Hp) (B : List Addr) : Hp := fun a => if a ∈ B then H a else F a
theorem frzH_in {F H : Hp} {B : List Addr} {a : Addr} (h : a ∈ B) : frzH F H B a = H a := if_pos h
theorem frzH_out {F H : Hp} {B : List Addr} {a : Addr} (h : a ∉ B) : frzH F H B a = F a := if_neg h
theorem frzH_f {F H : Hp} {B : List Addr} (d : ∀ a ∈ B, F a = none) : Same F (frzH F H B) := fun a o e => by
  rw [frzH_out (fun m => by rw [d a m] at e; cases e)]
  exact e
theorem frzH_h {F H : Hp} {B : List Addr} (s : Same F H) : Same (frzH F H B) H := fun a o e => by
  by_cases m : a ∈ B
  · rw [frzH_in m] at e; exact e
  · rw [frzH_out m] at e; exact s a o e
theorem frzH_new {F H : Hp} {B : List Addr} {a : Addr} (h : frzH F H B a ≠ none) : F a ≠ none ∨ a ∈ B := by
  by_cases m : a ∈ B
  · exact .inr m
  · rw [frzH_out m] at h; exact .inl h
theorem frzH_sm {F H : Hp} {B : List Addr} (d : ∀ a ∈ B, F a = none) (k : ∀ a ∈ B, ∃ u, H a = some u ∧ ownK u = true) : Sm F (frzH F H B) := (frzH_f d).sm fun a ps e => by
  by_cases m : a ∈ B
  · rw [frzH_in m] at e
    obtain ⟨u, hu, hk⟩ := k a m
    rw [e] at hu
    cases hu
    cases hk
  · rw [frzH_out m] at e; exact ⟨ps, e⟩
theorem RepO.frozen {F H : Hp} {o : O} {x : V} {B : List Addr} (s : Same F H) (d : ∀ a ∈ B, F a = none) (h : RepO F H o x B) : Rep (frzH F H B) o.frz x :=
  h.frz (frzH_f d).smH fun a m u e => by rw [frzH_in m]; exact e
def bor? (env env' : DEnv) : Prop := ∀ (i : Nat) (o : O), env[i]? = some (S.bo o) → ∃ o' : O, env'[i]? = some (S.bo o')
theorem bor_re {env : DEnv} {i : Nat} {s : S} {o : O} (hs : env[i]? = some s) : ∀ (j : Nat) (u : O), env[j]? = some (S.bo u) → ∃ o' : O, (env.set i (s.re o))[j]? = some (S.bo o') := fun j u h => by
  by_cases e : i = j
  · subst e
    rw [hs] at h
    cases h
    exact ⟨o, get_set hs⟩
  · rw [List.getElem?_set_ne e]
    exact ⟨u, h⟩
theorem nodup_l {A B : List Addr} (h : (A ++ B).Nodup) : A.Nodup := (List.nodup_append.mp h).1
theorem nodup_r {A B : List Addr} (h : (A ++ B).Nodup) : B.Nodup := (List.nodup_append.mp h).2.1
theorem nodup_d {A B : List Addr} (h : (A ++ B).Nodup) {a : Addr} (x : a ∈ A) (y : a ∈ B) : False := (List.nodup_append.mp h).2.2 a x a y rfl
theorem Good.frz {F H : Hp} {env : DEnv} {σ : L2.St} {A : List Addr} {i : Nat} {s : S} {o o1 : O} {path : List PSt} {x y : V} (g : Good F H env σ A) (hs : env[i]? = some s) (hc : s.cont = some o) (ha : o.at path = some o1)
    (hy : σ[i]? = some (some y)) (hv : PathV H y path x) : ∃ F' A', Good F' H (env.set i (s.re (o.put path (.fr o1.frz)))) σ A' ∧ Step F H env σ A F' H (env.set i (s.re (o.put path (.fr o1.frz)))) σ A' ∧ Rep F' o1.frz x := by
  obtain ⟨B, R, h1, h2, h3⟩ := g.rep.focus hs hc ha hy hv
  have nd : (B ++ R).Nodup := h2.nodup_iff.mp g.nd
  have dB : ∀ a ∈ B, F a = none := fun a m => g.dis a (h2.mem_iff.mpr (List.mem_append_left _ m))
  have dR : ∀ a ∈ R, F a = none := fun a m => g.dis a (h2.mem_iff.mpr (List.mem_append_right _ m))
  have rp := h1.frozen g.sub dB
  obtain ⟨A', p1, p2⟩ := h3 (frzH F H B) H (.fr o1.frz) [] ⟨frzH_sm dB h1.kind, fun _ _ _ h => h⟩ ⟨rfl, rp⟩
  have mA : ∀ a ∈ A', a ∈ R := fun a m => p2.mem_iff.mp m
  refine ⟨frzH F H B, A', ⟨frzH_h g.sub, p1, p2.nodup_iff.mpr (by rw [List.nil_append]; exact nodup_r nd), fun a m => ?_⟩, ⟨frzH_sm dB h1.kind, fun _ _ h _ _ _ => h, fun _ h => h, fun a m => .inl (h2.mem_iff.mpr (List.mem_append_right _ (mA a m))), fun a h => ?_, fun j u h => ?_⟩, rp⟩
  · rw [frzH_out (fun z => nodup_d nd z (mA a m))]
    exact dR a (mA a m)
  · exact (frzH_new h).elim .inl fun z => .inr (.inl (h2.mem_iff.mpr (List.mem_append_left _ z)))
  · obtain ⟨o', e⟩ := bor_re (o := o.put path (.fr o1.frz)) hs j u h
    exact ⟨o', e, rfl⟩
/-- a result as data -/
def force (r : R) (env : DEnv) (P : D → DEnv → Prop) : Prop := match r with
  | .o o => P o.frz env
  | .p i path => match env[i]? with
    | some (.ow o) => (match o.at path with
      | some o1 => P o1.frz (env.set i (.ow (o.put path (.fr o1.frz))))
      | none => False)
    | some (.bo o) => (match path with
      | [] => False
      | _ => (match o.at path with
        | some o1 => P o1.frz (env.set i (.bo (o.put path (.fr o1.frz))))
        | none => False))
    | _ => False
section
variable {F H : Hp} {env : DEnv} {σ : L2.St} {A C : List Addr} {r : R} {x : V}
theorem Good.frzO {o : O} (g : Good F H env σ A) (hr : RepR F H σ A (.o o) x C) : Good (frzH F H C) H env σ A ∧ Step F H env σ (A ++ C) (frzH F H C) H env σ A ∧ Rep (frzH F H C) o.frz x := by
  obtain ⟨h1, h2, h3⟩ := hr
  refine ⟨⟨frzH_h g.sub, g.rep.stay ⟨frzH_sm h3 h1.kind, fun _ _ _ h => h⟩, g.nd, fun a m => ?_⟩, ⟨frzH_sm h3 h1.kind, fun _ _ h _ _ _ => h, fun _ h => h, fun a m => .inl (List.mem_append_left _ m), fun a h => ?_, fun _ _ h => ⟨_, h, rfl⟩⟩, h1.frozen g.sub h3⟩
  · rw [frzH_out (fun z => nodup_d h2 m z)]
    exact g.dis a m
  · exact (frzH_new h).elim .inl fun z => .inr (.inl (List.mem_append_right _ z))
theorem force_ok {P : D → DEnv → Prop} (g : Good F H env σ A) (hr : RepR F H σ A r x C) (h : force r env P) : ∃ F' A' d env', P d env' ∧ Good F' H env' σ A' ∧ Step F H env σ (A ++ C) F' H env' σ A' ∧ Rep F' d x := by
  cases r with
  | o o =>
    obtain ⟨h1, h2, h3⟩ := g.frzO hr
    exact ⟨_, A, _, env, h, h1, h2, h3⟩
  | p i path =>
    obtain ⟨rfl, y, hy, hv⟩ := hr
    rw [List.append_nil]
    unfold force at h
    simp only at h
    cases e : env[i]? with
    | none => rw [e] at h; exact h.elim
    | some s =>
      rw [e] at h
      cases s with
      | un => exact h.elim
      | ow o =>
        simp only at h
        cases e1 : o.at path with
        | none => rw [e1] at h; exact h.elim
        | some o1 =>
          rw [e1] at h
          obtain ⟨F', A', k1, k2, k3⟩ := g.frz e rfl e1 hy hv
          exact ⟨F', A', _, _, h, k1, k2, k3⟩
      | bo o =>
        cases path with
        | nil => exact h.elim
        | cons p0 pr =>
          simp only at h
          cases e1 : o.at (p0 :: pr) with
          | none => rw [e1] at h; exact h.elim
          | some o1 =>
            rw [e1] at h
            obtain ⟨F', A', k1, k2, k3⟩ := g.frz e rfl e1 hy hv
            exact ⟨F', A', _, _, h, k1, k2, k3⟩
/-- a result as an object -/
def toO (r : R) (env : DEnv) (P : O → DEnv → Prop) : Prop := match r with
  | .o o => P o env
  | .p i path => force (.p i path) env fun d => P (.fr d)
theorem toO_ok {P : O → DEnv → Prop} (g : Good F H env σ A) (hr : RepR F H σ A r x C) (h : toO r env P) : ∃ F' A' o env' C', P o env' ∧ Good F' H env' σ A' ∧ Step F H env σ (A ++ C) F' H env' σ (A' ++ C') ∧ RepR F' H σ A' (.o o) x C' := by
  cases r with
  | o o => exact ⟨F, A, o, env, C, h, g, .refl, hr⟩
  | p i path =>
    have h' : force (.p i path) env fun d => P (.fr d) := h
    obtain ⟨F', A', d, env', h1, h2, h3, h4⟩ := force_ok g hr h'
    refine ⟨F', A', .fr d, env', [], h1, h2, ?_, ⟨rfl, h4⟩, ?_, fun _ h => nomatch h⟩
    · rw [List.append_nil]; exact h3
    · rw [List.append_nil]; exact h2.nd
/-! ### peeking -/
def frL : List O → Option (List D)
  | [] => some []
  | .fr d :: r => (match frL r with
    | some ds => some (d :: ds)
    | none => none)
  | _ => none
def frM : List (List Key × O) → Option (List (List Key × D))
  | [] => some []
  | (k, .fr d) :: r => (match frM r with
    | some ds => some ((k, d) :: ds)
    | none => none)
  | _ => none
def frF : List (Str × O) → Option (List (Str × D))
  | [] => some []
  | (k, .fr d) :: r => (match frF r with
    | some ds => some ((k, d) :: ds)
    | none => none)
  | _ => none
def O.flat : O → Option D
  | .fr d => some d
  | .lst os => (match frL os with
    | some ds => some (.lst ds)
    | none => none)
  | .dct t os => (match frM os with
    | some ds => some (.dct t ds)
    | none => none)
  | .ins C os => (match frF os with
    | some ds => some (.ins C ds)
    | none => none)
theorem frL_ok {F H : Hp} : ∀ {os : List O} {ds : List D} {xs : List V} {A : List Addr}, frL os = some ds → RepOL F H os xs A → RepL F ds xs ∧ A = []
  | [], _, _, _, e, h => by cases e; exact h
  | .fr d :: os, ds, xs, A, e, ⟨x, r, B, C, e1, e2, ⟨e3, h⟩, t⟩ => by
    unfold frL at e
    cases q : frL os with
    | none => rw [q] at e; cases e
    | some ds' =>
      rw [q] at e
      cases e
      obtain ⟨h1, h2⟩ := frL_ok q t
      exact ⟨⟨x, r, e1, h, h1⟩, by rw [e2, e3, h2]; rfl⟩
  | .lst _ :: _, _, _, _, e, _ => by cases e
  | .dct _ _ :: _, _, _, _, e, _ => by cases e
  | .ins _ _ :: _, _, _, _, e, _ => by cases e
theorem frM_ok {F H : Hp} : ∀ {os : List (List Key × O)} {ds : List (List Key × D)} {xs : List (List Key × V)} {A : List Addr}, frM os = some ds → RepOM F H os xs A → RepM F ds xs ∧ A = []
  | [], _, _, _, e, h => by cases e; exact h
  | (k, .fr d) :: os, ds, xs, A, e, ⟨x, r, B, C, e1, e2, ⟨e3, h⟩, t⟩ => by
    unfold frM at e
    cases q : frM os with
    | none => rw [q] at e; cases e
    | some ds' =>
      rw [q] at e
      cases e
      obtain ⟨h1, h2⟩ := frM_ok q t
      exact ⟨⟨x, r, e1, h, h1⟩, by rw [e2, e3, h2]; rfl⟩
  | (_, .lst _) :: _, _, _, _, e, _ => by cases e
  | (_, .dct _ _) :: _, _, _, _, e, _ => by cases e
  | (_, .ins _ _) :: _, _, _, _, e, _ => by cases e
theorem frF_ok {F H : Hp} : ∀ {os : List (Str × O)} {ds : List (Str × D)} {xs : List (Str × V)} {A : List Addr}, frF os = some ds → RepOF F H os xs A → RepF F ds xs ∧ A = []
  | [], _, _, _, e, h => by cases e; exact h
  | (k, .fr d) :: os, ds, xs, A, e, ⟨x, r, B, C, e1, e2, ⟨e3, h⟩, t⟩ => by
    unfold frF at e
    cases q : frF os with
    | none => rw [q] at e; cases e
    | some ds' =>
      rw [q] at e
      cases e
      obtain ⟨h1, h2⟩ := frF_ok q t
      exact ⟨⟨x, r, e1, h, h1⟩, by rw [e2, e3, h2]; rfl⟩
  | (_, .lst _) :: _, _, _, _, e, _ => by cases e
  | (_, .dct _ _) :: _, _, _, _, e, _ => by cases e
  | (_, .ins _ _) :: _, _, _, _, e, _ => by cases e
theorem flat_ok {F H : Hp} (s : Same F H) {o : O} {d : D} {x : V} {A : List Addr} (e : o.flat = some d) (h : RepO F H o x A) : RepP F H d x := by
  cases o with
  | fr d' => cases e; exact h.2.toP s
  | lst os =>
    unfold O.flat at e
    simp only at e
    cases q : frL os with
    | none => rw [q] at e; cases e
    | some ds =>
      rw [q] at e
      cases e
      obtain ⟨a, xs, B, e1, e2, e3, r⟩ := h
      exact ⟨a, xs, e1, e3, (frL_ok q r).1⟩
  | dct t os =>
    unfold O.flat at e
    simp only at e
    cases q : frM os with
    | none => rw [q] at e; cases e
    | some ds =>
      rw [q] at e
      cases e
      obtain ⟨a, o, xs, B, e1, e2, e3, c, r⟩ := h
      exact ⟨a, o, xs, e1, e3, by rw [c.core]; exact c, (frM_ok q r).1⟩
  | ins c os =>
    unfold O.flat at e
    simp only at e
    cases q : frF os with
    | none => rw [q] at e; cases e
    | some ds =>
      rw [q] at e
      cases e
      obtain ⟨a, dx, xs, B, e1, e2, e3, r⟩ := h
      exact ⟨a, dx, xs, e1, e3, (frF_ok q r).1⟩
def peek (r : R) (env : DEnv) : Option D := match r with
  | .o o => o.flat
  | .p i path => (match contAt env i path with
    | some o => o.flat
    | none => none)
theorem contAt_ok {i : Nat} {path : List PSt} {o1 : O} (h : contAt env i path = some o1) : ∃ s o, env[i]? = some s ∧ s.cont = some o ∧ o.at path = some o1 := by
  unfold contAt at h
  cases e : env[i]? with
  | none => rw [e] at h; cases h
  | some s =>
    rw [e] at h
    simp only at h
    cases e1 : s.cont with
    | none => rw [e1] at h; cases h
    | some o => rw [e1] at h; exact ⟨s, o, rfl, e1, h⟩
theorem peek_ok {d : D} (g : Good F H env σ A) (hr : RepR F H σ A r x C) (h : peek r env = some d) : RepP F H d x := by
  cases r with
  | o o => exact flat_ok g.sub h hr.1
  | p i path =>
    obtain ⟨rfl, y, hy, hv⟩ := hr
    unfold peek at h
    simp only at h
    cases e : contAt env i path with
    | none => rw [e] at h; cases h
    | some o1 =>
      rw [e] at h
      obtain ⟨s, o, h1, h2, h3⟩ := contAt_ok e
      obtain ⟨B, R, k1, _, _⟩ := g.rep.focus h1 h2 h3 hy hv
      exact flat_ok g.sub h k1
/-- there is one, and P of it -/
def oth {α : Type} (o : Option α) (P : α → Prop) : Prop := match o with
  | some a => P a
  | none => False
theorem oth_ok {α : Type} {o : Option α} {P : α → Prop} (h : oth o P) : ∃ a, o = some a ∧ P a := by
  cases o with
  | none => exact h.elim
  | some a => exact ⟨a, rfl, h⟩
/-- an operand that stays while the next one is found -/
def nrm (r : R) (P : R → Prop) : Prop := match r with
  | .o o => P (.d o.frz)
  | .p i [] => P (.p i [])
  | .p _ _ => False
def Per (F : Hp) (σ : L2.St) : R → V → Prop
  | .o (.fr d), x => Rep F d x
  | .p i [], x => σ[i]? = some (some x)
  | _, _ => False
theorem Per.mono {F F' : Hp} (s : Sm F F') {σ : L2.St} {r : R} {x : V} (h : Per F σ r x) : Per F' σ r x := by
  cases r with
  | o o =>
    cases o with
    | fr d => exact Rep.mono s h
    | _ => exact h
  | p i path =>
    cases path with
    | nil => exact h
    | cons a b => exact h
theorem Per.rep {r : R} {x : V} (g : Good F H env σ A) (h : Per F σ r x) : RepR F H σ A r x [] := by
  cases r with
  | o o =>
    cases o with
    | fr d => exact ⟨⟨rfl, h⟩, by rw [List.append_nil]; exact g.nd, fun _ h => nomatch h⟩
    | _ => exact h.elim
  | p i path =>
    cases path with
    | nil => exact ⟨rfl, x, h, rfl⟩
    | cons a b => exact h.elim
theorem nrm_ok {P : R → Prop} (g : Good F H env σ A) (hr : RepR F H σ A r x C) (h : nrm r P) : ∃ F' r', P r' ∧ Good F' H env σ A ∧ Step F H env σ (A ++ C) F' H env σ A ∧ Per F' σ r' x := by
  cases r with
  | o o =>
    obtain ⟨h1, h2, h3⟩ := g.frzO hr
    exact ⟨_, _, h, h1, h2, h3⟩
  | p i path =>
    cases path with
    | nil =>
      obtain ⟨rfl, y, hy, hv⟩ := hr
      have e : y = x := hv
      subst e
      rw [List.append_nil]
      exact ⟨F, _, h, g, .refl, hy⟩
    | cons a b => exact h.elim
end
/-! ### the judgements -/
structure DExc where
  cls : Value
  fs : Option (List (Str × D))
def RepX (F : Hp) (e : DExc) (cls : Value) (dd : Option Addr) : Prop := cls = e.cls ∧ match e.fs with
  | none => dd = none
  | some gs => ∃ a xs, dd = some a ∧ F a = some (.xd xs) ∧ RepF F gs xs
abbrev DX := DExc → DEnv → Prop
abbrev DTE := DEnv → (R → DEnv → Prop) → DX → Prop
abbrev DTT := DEnv → (Bool → DEnv → Prop) → DX → Prop
abbrev DTA := DEnv → (List R → DEnv → Prop) → DX → Prop
abbrev DTV := DEnv → (List D → DEnv → Prop) → DX → Prop
structure DEnds where
  nx : DEnv → Prop
  rt : O → DEnv → Prop
  bk : DEnv → Prop
  ct : DEnv → Prop
  ex : DX
abbrev DTS := DEnds → DEnv → Prop
def XOk (F H : Hp) (env : DEnv) (σ : L2.St) (A : List Addr) (W : WX) (X : DX) : Prop := ∀ cls dd e env' σ' F' H' A', Good F' H' env' σ' A' → Step F H env σ A F' H' env' σ' A' → RepX F' e cls dd → X e env' → W cls dd σ' H'
theorem XOk.step {F H F' H' : Hp} {env env' : DEnv} {σ σ' : L2.St} {A A' : List Addr} {W : WX} {X : DX} (x : XOk F H env σ A W X) (s : Step F H env σ A F' H' env' σ' A') : XOk F' H' env' σ' A' W X :=
  fun cls dd e e' σ'' F'' H'' A'' g t => x cls dd e e' σ'' F'' H'' A'' g (s.trans t)
def SimE (W : WX) (t : TE) (d : DTE) : Prop := ∀ (F H : Hp) (env : DEnv) (σ : L2.St) (A : List Addr) (Q : VK) (P : R → DEnv → Prop) (X : DX), Good F H env σ A → d env P X → XOk F H env σ A W X →
  (∀ x r env' F' H' A' C, Good F' H' env' σ A' → Step F H env σ A F' H' env' σ (A' ++ C) → RepR F' H' σ A' r x C → P r env' → Q x H') → t σ H Q
def SimT (W : WX) (t : TT) (d : DTT) : Prop := ∀ (F H : Hp) (env : DEnv) (σ : L2.St) (A : List Addr) (Q : Bool → Hp → Prop) (P : Bool → DEnv → Prop) (X : DX), Good F H env σ A → d env P X → XOk F H env σ A W X →
  (∀ b env' F' H' A', Good F' H' env' σ A' → Step F H env σ A F' H' env' σ A' → P b env' → Q b H') → t σ H Q
def RepRs (F H : Hp) (σ : L2.St) (A : List Addr) : List R → List V → List Addr → Prop
  | [], xs, C => xs = [] ∧ C = []
  | [r], xs, C => ∃ x, xs = [x] ∧ RepR F H σ A r x C
  | r :: rs, xs, C => ∃ x ys, xs = x :: ys ∧ Per F σ r x ∧ RepRs F H σ A rs ys C
def SimA (W : WX) (t : TA) (d : DTA) : Prop := ∀ (F H : Hp) (env : DEnv) (σ : L2.St) (A : List Addr) (Q : List V → Hp → Prop) (P : List R → DEnv → Prop) (X : DX), Good F H env σ A → d env P X → XOk F H env σ A W X →
  (∀ xs rs env' F' H' A' C, Good F' H' env' σ A' → Step F H env σ A F' H' env' σ (A' ++ C) → RepRs F' H' σ A' rs xs C → P rs env' → Q xs H') → t σ H Q
def SimV (W : WX) (t : TA) (d : DTV) : Prop := ∀ (F H : Hp) (env : DEnv) (σ : L2.St) (A : List Addr) (Q : List V → Hp → Prop) (P : List D → DEnv → Prop) (X : DX), Good F H env σ A → d env P X → XOk F H env σ A W X →
  (∀ xs ds env' F' H' A', Good F' H' env' σ A' → Step F H env σ A F' H' env' σ A' → RepL F' ds xs → P ds env' → Q xs H') → t σ H Q
structure EndsOk (F H : Hp) (env : DEnv) (σ : L2.St) (A : List Addr) (W : WX) (E : Ends) (DD : DEnds) : Prop where
  nx : ∀ env' σ' F' H' A', Good F' H' env' σ' A' → Step F H env σ A F' H' env' σ' A' → DD.nx env' → E.nx σ' H'
  bk : ∀ env' σ' F' H' A', Good F' H' env' σ' A' → Step F H env σ A F' H' env' σ' A' → DD.bk env' → E.bk σ' H'
  ct : ∀ env' σ' F' H' A', Good F' H' env' σ' A' → Step F H env σ A F' H' env' σ' A' → DD.ct env' → E.ct σ' H'
  rt : ∀ x o env' σ' F' H' A' C, Good F' H' env' σ' A' → Step F H env σ A F' H' env' σ' (A' ++ C) → RepR F' H' σ' A' (.o o) x C → DD.rt o env' → E.rt x H'
  ex : XOk F H env σ A W DD.ex
theorem EndsOk.step {F H F' H' : Hp} {env env' : DEnv} {σ σ' : L2.St} {A A' : List Addr} {W : WX} {E : Ends} {DD : DEnds} (x : EndsOk F H env σ A W E DD) (s : Step F H env σ A F' H' env' σ' A') : EndsOk F' H' env' σ' A' W E DD :=
  ⟨fun e σ' F' H' A' g t => x.nx e σ' F' H' A' g (s.trans t), fun e σ' F' H' A' g t => x.bk e σ' F' H' A' g (s.trans t), fun e σ' F' H' A' g t => x.ct e σ' F' H' A' g (s.trans t), fun v o e σ' F' H' A' C g t => x.rt v o e σ' F' H' A' C g (s.trans t), x.ex.step s⟩
def SimS (W : WX) (t : TS) (d : DTS) : Prop := ∀ (F H : Hp) (env : DEnv) (σ : L2.St) (A : List Addr) (E : Ends) (DD : DEnds), Good F H env σ A → d DD env → EndsOk F H env σ A W E DD → t E σ H

/-- .. and leaves the slots -/
def SimP (t : TE) (d : DTE) : Prop := ∀ (F H : Hp) (env : DEnv) (σ : L2.St) (A : List Addr) (Q : VK) (P : R → DEnv → Prop) (X : DX), Good F H env σ A → d env P X →
  (∀ x r F' H' C, Ext F H F' H' C → RepR F' H' σ A r x C → P r env → Q x H') → t σ H Q
theorem SimP.e {W : WX} {t : TE} {d : DTE} (s : SimP t d) : SimE W t d := fun F H env σ A Q P X g h _ k => s F H env σ A Q P X g h fun x r F' H' C e r' p => k x r env F' H' A C (e.good g) e.step r' p
theorem PathV.mono {H H' : Hp} (s : SmH H H') : ∀ {p : List PSt} {y x : V}, PathV H y p x → PathV H' y p x
  | [], _, _, h => h
  | .ix j :: p, _, _, ⟨a, xs, z, e, h, hz, t⟩ => ⟨a, xs, z, e, s.ex rfl h, hz, PathV.mono s t⟩
  | .fld f :: p, _, _, ⟨a, C, dx, fs, z, e, h, hz, t⟩ => ⟨a, C, dx, fs, z, e, s.ex rfl h, hz, PathV.mono s t⟩
  | .key k :: p, _, _, ⟨a, o, t, kvs, z, e, h, dc, hz, tt⟩ => by
    obtain ⟨o', h', u⟩ := s a o h
    exact ⟨a, o', t, kvs, z, e, h', by rw [u.core dc.nt]; exact dc, hz, PathV.mono s tt⟩
section
variable {F H F' H' : Hp} {env : DEnv} {σ : L2.St} {A C C' : List Addr} {r : R} {x : V}
theorem RepR.there {o : O} (h : RepR F H σ A (.o o) x C) : ∀ a ∈ C, H a ≠ none := h.1.there
theorem RepR.ext (e : Ext F H F' H' C') (h : RepR F H σ A r x C) : RepR F' H' σ A r x C := by
  cases r with
  | o o =>
    obtain ⟨h1, h2, h3⟩ := h
    refine ⟨h1.stay ⟨e.f, fun a m o k => e.hx a o k (own_tbl (h1.kind a m) k) (h3 a m)⟩, h2, fun a m => ?_⟩
    cases q : F' a with
    | none => rfl
    | some u =>
      rcases e.fnew a (by rw [q]; exact Option.some_ne_none _) with z | z
      · exact absurd (h3 a m) z
      · exact absurd z (h1.there a m)
  | p i path =>
    obtain ⟨h1, y, h2, h3⟩ := h
    exact ⟨h1, y, h2, h3.mono e.h⟩
/-- a new object -/
theorem RepR.new {o : O} (g : Good F H env σ A) (e : Ext F H F' H' C) (h : RepO F' H' o x C) (nd : C.Nodup) (d : ∀ a ∈ C, F' a = none) : RepR F' H' σ A (.o o) x C :=
  ⟨h, List.nodup_append.mpr ⟨g.nd, nd, fun a ha b hb z => by subst z; exact g.rep.there a ha (e.cnew a hb)⟩, d⟩
end
/-- an operation on values -/
def SimR2 (r : R2) (dr : D → D → (O → Prop) → Prop) : Prop := ∀ (F H : Hp) (x y : V) (d e : D) (P : O → Prop) (Q : VK), Same F H → RepP F H d x → RepP F H e y → dr d e P →
  (∀ z o F' H' C, Ext F H F' H' C → RepO F' H' o z C → C.Nodup → (∀ a ∈ C, F' a = none) → P o → Q z H') → r x y H Q
def SimR1 (r : V → Hp → VK → Prop) (dr : D → (O → Prop) → Prop) : Prop := ∀ (F H : Hp) (x : V) (d : D) (P : O → Prop) (Q : VK), Same F H → RepP F H d x → dr d P →
  (∀ z o F' H' C, Ext F H F' H' C → RepO F' H' o z C → C.Nodup → (∀ a ∈ C, F' a = none) → P o → Q z H') → r x H Q
def RepPL (F H : Hp) : List D → List V → Prop
  | [], xs => xs = []
  | d :: ds, xs => ∃ x r, xs = x :: r ∧ RepP F H d x ∧ RepPL F H ds r
def SimRL (r : List V → Hp → VK → Prop) (dr : List D → (O → Prop) → Prop) : Prop := ∀ (F H : Hp) (xs : List V) (ds : List D) (P : O → Prop) (Q : VK), Same F H → RepPL F H ds xs → dr ds P →
  (∀ z o F' H' C, Ext F H F' H' C → RepO F' H' o z C → C.Nodup → (∀ a ∈ C, F' a = none) → P o → Q z H') → r xs H Q
/-! ### expressions -/
def dVar (i : Nat) : DTE := fun env P _ => match env[i]? with
  | some (.ow (.fr d)) => P (.d d) env
  | some (.ow _) => P (.p i []) env
  | some (.bo _) => P (.p i []) env
  | _ => False
def dC (d : D) : DTE := fun env P _ => P (.d d) env
def dOp (dr : D → D → (O → Prop) → Prop) (da db : DTE) : DTE := fun env P X => da env (fun r1 env1 => nrm r1 fun r1' => db env1 (fun r2 env2 => oth (peek r1' env2) fun d1 => oth (peek r2 env2) fun d2 => dr d1 d2 fun o => P (.o o) env2) X) X
/-- the second operand leaves the slots -/
def dOpP (dr : D → D → (O → Prop) → Prop) (da db : DTE) : DTE := fun env P X => da env (fun r1 env1 => db env1 (fun r2 env2 => oth (peek r1 env2) fun d1 => oth (peek r2 env2) fun d2 => dr d1 d2 fun o => P (.o o) env2) X) X
def dUn (dr : D → (O → Prop) → Prop) (da : DTE) : DTE := fun env P X => da env (fun r1 env1 => oth (peek r1 env1) fun d1 => dr d1 fun o => P (.o o) env1) X
section
variable {W : WX} {ta tb : TE} {da db : DTE}
theorem sim_var {i : Nat} : SimP (tVar i) (dVar i) := by
  intro F H env σ A Q P X g h k
  unfold dVar at h
  cases e : env[i]? with
  | none => rw [e] at h; exact h.elim
  | some s =>
    rw [e] at h
    obtain ⟨v, B, R, h1, h2, h3, h4⟩ := g.rep.out e
    cases s with
    | un => exact h.elim
    | bo o =>
      obtain ⟨x, ex, ro⟩ := h2
      subst ex
      exact ⟨x, h1, k x (.p i []) F H [] (.refl g.sub) ⟨rfl, x, h1, rfl⟩ h⟩
    | ow o =>
      obtain ⟨x, ex, ro⟩ := h2
      subst ex
      refine ⟨x, h1, ?_⟩
      cases o with
      | fr d =>
        have ro' := ro.2
        exact k x (.d d) F H [] (.refl g.sub) ⟨⟨rfl, ro'⟩, by rw [List.append_nil]; exact g.nd, fun _ h => nomatch h⟩ h
      | lst _ => exact k x (.p i []) F H [] (.refl g.sub) ⟨rfl, x, h1, rfl⟩ h
      | dct _ _ => exact k x (.p i []) F H [] (.refl g.sub) ⟨rfl, x, h1, rfl⟩ h
      | ins _ _ => exact k x (.p i []) F H [] (.refl g.sub) ⟨rfl, x, h1, rfl⟩ h
theorem sim_c {v : V} {d : D} (hr : ∀ F, Rep F d v) : SimP (tC v) (dC d) := fun F H env σ A Q P X g h k =>
  k v (.d d) F H [] (.refl g.sub) ⟨⟨rfl, hr F⟩, by rw [List.append_nil]; exact g.nd, fun _ h => nomatch h⟩ h
theorem sim_int {i : Int} : SimP (tC (.int i)) (dC (.int i)) := sim_c fun _ => rfl
theorem sim_bl {i : Bool} : SimP (tC (.bl i)) (dC (.bl i)) := sim_c fun _ => rfl
theorem sim_str {i : Str} : SimP (tC (.str i)) (dC (.str i)) := sim_c fun _ => rfl
theorem sim_non : SimP (tC .non) (dC .non) := sim_c fun _ => rfl
theorem sim_ty {n : String} : SimP (tC (.ty n)) (dC (.ty n)) := sim_c fun _ => rfl
theorem sim_cls {a : Addr} : SimP (tC (.ref a)) (dC (.cls a)) := sim_c fun _ => rfl
theorem sim_op {r : R2} {dr : D → D → (O → Prop) → Prop} (hr : SimR2 r dr) (ha : SimE W ta da) (hb : SimE W tb db) : SimE W (tOp r ta tb) (dOp dr da db) := by
  intro F H env σ A Q P X g h xo k
  refine ha F H env σ A _ _ X g h xo fun x r1 env1 F1 H1 A1 C1 g1 s1 rr1 h1 => ?_
  obtain ⟨F2, r1', h2, g2, s2, p2⟩ := nrm_ok g1 rr1 h1
  have s12 := s1.trans s2
  refine hb F2 H1 env1 σ A1 _ _ X g2 h2 (xo.step s12) fun y r2 env2 F3 H3 A3 C3 g3 s3 rr3 h3 => ?_
  obtain ⟨d1, e1, h4⟩ := oth_ok h3
  obtain ⟨d2, e2, h5⟩ := oth_ok h4
  refine hr F3 H3 x y d1 d2 _ _ g3.sub (peek_ok g3 ((p2.mono s3.f).rep g3) e1) (peek_ok g3 rr3 e2) h5 fun z o F4 H4 C4 x4 ro4 nd4 d4 h6 => ?_
  exact k z (.o o) env2 F4 H4 A3 C4 (x4.good g3) ((s12.trans (s3.mem fun a m => List.mem_append_left _ m)).trans x4.step) (.new g3 x4 ro4 nd4 d4) h6
theorem sim_opP {r : R2} {dr : D → D → (O → Prop) → Prop} (hr : SimR2 r dr) (ha : SimE W ta da) (hb : SimP tb db) : SimE W (tOp r ta tb) (dOpP dr da db) := by
  intro F H env σ A Q P X g h xo k
  refine ha F H env σ A _ _ X g h xo fun x r1 env1 F1 H1 A1 C1 g1 s1 rr1 h1 => ?_
  refine hb F1 H1 env1 σ A1 _ _ X g1 h1 fun y r2 F3 H3 C3 e3 rr3 h3 => ?_
  have g3 := e3.good g1
  obtain ⟨d1, e1, h4⟩ := oth_ok h3
  obtain ⟨d2, e2, h5⟩ := oth_ok h4
  refine hr F3 H3 x y d1 d2 _ _ g3.sub (peek_ok g3 (rr1.ext e3) e1) (peek_ok g3 rr3 e2) h5 fun z o F4 H4 C4 x4 ro4 nd4 d4 h6 => ?_
  exact k z (.o o) env1 F4 H4 A1 C4 (x4.good g3) (((s1.mem fun a m => List.mem_append_left _ m).trans (e3.step.mem fun a m => List.mem_append_left _ m)).trans x4.step) (.new g3 x4 ro4 nd4 d4) h6
theorem simp_op {r : R2} {dr : D → D → (O → Prop) → Prop} (hr : SimR2 r dr) (ha : SimP ta da) (hb : SimP tb db) : SimP (tOp r ta tb) (dOpP dr da db) := by
  intro F H env σ A Q P X g h k
  refine ha F H env σ A _ _ X g h fun x r1 F1 H1 C1 x1 rr1 h1 => ?_
  have g1 := x1.good g
  refine hb F1 H1 env σ A _ _ X g1 h1 fun y r2 F3 H3 C3 e3 rr3 h3 => ?_
  have g3 := e3.good g1
  obtain ⟨d1, e1, h4⟩ := oth_ok h3
  obtain ⟨d2, e2, h5⟩ := oth_ok h4
  refine hr F3 H3 x y d1 d2 _ _ g3.sub (peek_ok g3 (rr1.ext e3) e1) (peek_ok g3 rr3 e2) h5 fun z o F4 H4 C4 x4 ro4 nd4 d4 h6 => ?_
  exact k z (.o o) F4 H4 C4 (((x1.trans e3).trans x4).noC fun a m => List.mem_append_right _ m) (.new g3 x4 ro4 nd4 d4) h6
theorem simp_un {r : V → Hp → VK → Prop} {dr : D → (O → Prop) → Prop} (hr : SimR1 r dr) (ha : SimP ta da) : SimP (tUn r ta) (dUn dr da) := by
  intro F H env σ A Q P X g h k
  refine ha F H env σ A _ _ X g h fun x r1 F1 H1 C1 x1 rr1 h1 => ?_
  have g1 := x1.good g
  obtain ⟨d1, e1, h4⟩ := oth_ok h1
  refine hr F1 H1 x d1 _ _ g1.sub (peek_ok g1 rr1 e1) h4 fun z o F4 H4 C4 x4 ro4 nd4 d4 h6 => ?_
  exact k z (.o o) F4 H4 C4 ((x1.trans x4).noC fun a m => List.mem_append_right _ m) (.new g1 x4 ro4 nd4 d4) h6
end
/-! ### tests -/
def D.asB : D → Option Bool
  | .bl b => some b
  | _ => none
def asB (r : R) (env : DEnv) (P : Bool → Prop) : Prop := oth (peek r env) fun d => oth d.asB P
theorem asB_ok {F H : Hp} {env : DEnv} {σ : L2.St} {A C : List Addr} {r : R} {x : V} {P : Bool → Prop} (g : Good F H env σ A) (hr : RepR F H σ A r x C) (h : asB r env P) : ∃ b, x = .bl b ∧ P b := by
  obtain ⟨d, e, h1⟩ := oth_ok h
  obtain ⟨b, e2, h2⟩ := oth_ok h1
  have rp := peek_ok g hr e
  cases d <;> cases e2
  exact ⟨b, rp, h2⟩
def dTest (da : DTE) : DTT := fun env P X => da env (fun r env1 => asB r env1 fun b => P b env1) X
def dAnd (a b : DTT) : DTT := fun env P X => a env (fun c env1 => if c = true then b env1 P X else P false env1) X
def dOr (a b : DTT) : DTT := fun env P X => a env (fun c env1 => if c = true then P true env1 else b env1 P X) X
def dNot (a : DTT) : DTT := fun env P X => a env (fun c env1 => P (!c) env1) X
def dYes : DTT := fun env P _ => P true env
def dIf (t : DTT) (a b : DTE) : DTE := fun env P X => t env (fun c env1 => if c = true then a env1 P X else b env1 P X) X
def dAndV (a b : DTE) : DTE := fun env P X => a env (fun r env1 => asB r env1 fun c => if c = true then b env1 P X else P (.d (.bl false)) env1) X
def dOrV (a b : DTE) : DTE := fun env P X => a env (fun r env1 => asB r env1 fun c => if c = true then P (.d (.bl true)) env1 else b env1 P X) X
def dNotV (a : DTE) : DTE := fun env P X => a env (fun r env1 => asB r env1 fun c => P (.d (.bl (!c))) env1) X
/-- a < b < c: b, c are data -/
def dChain (dr dr' : D → D → (O → Prop) → Prop) (da db dc : DTE) : DTE := fun env P X => da env (fun r1 env1 => nrm r1 fun r1 => db env1 (fun r2 env2 => nrm r2 fun r2 => oth (peek r1 env2) fun d1 => oth (peek r2 env2) fun d2 => dr d1 d2 fun o => oth o.flat fun z => oth z.asB fun k =>
  if k = true then dc env2 (fun r3 env3 => oth (peek r2 env3) fun d2 => oth (peek r3 env3) fun d3 => dr' d2 d3 fun o => P (.o o) env3) X else P (.d (.bl false)) env2) X) X
section
variable {W : WX} {ta tb tc : TE} {da db dc : DTE} {tt tu : TT} {dt du : DTT}
theorem RepR.dat {F H : Hp} {env : DEnv} {σ : L2.St} {A : List Addr} {d : D} {x : V} (g : Good F H env σ A) (h : Rep F d x) : RepR F H σ A (.d d) x [] := ⟨⟨rfl, h⟩, by rw [List.append_nil]; exact g.nd, fun _ h => nomatch h⟩
theorem sim_test (ha : SimE W ta da) : SimT W (tTest ta) (dTest da) := by
  intro F H env σ A Q P X g h xo k
  refine ha F H env σ A _ _ X g h xo fun x r1 env1 F1 H1 A1 C1 g1 s1 rr1 h1 => ?_
  obtain ⟨b, e, h2⟩ := asB_ok g1 rr1 h1
  exact ⟨b, e, k b env1 F1 H1 A1 g1 (s1.mem fun a m => List.mem_append_left _ m) h2⟩
theorem sim_b (ha : SimE W ta da) : SimT W (tB ta) (dTest da) := sim_test ha
theorem sim_and (ha : SimT W tt dt) (hb : SimT W tu du) : SimT W (tAnd tt tu) (dAnd dt du) := by
  intro F H env σ A Q P X g h xo k
  refine ha F H env σ A _ _ X g h xo fun b env1 F1 H1 A1 g1 s1 h1 => ?_
  cases b with
  | true =>
    rw [if_pos rfl] at h1 ⊢
    exact hb F1 H1 env1 σ A1 _ _ X g1 h1 (xo.step s1) fun c env2 F2 H2 A2 g2 s2 h2 => k c env2 F2 H2 A2 g2 (s1.trans s2) h2
  | false =>
    rw [if_neg Bool.false_ne_true] at h1 ⊢
    exact k false env1 F1 H1 A1 g1 s1 h1
theorem sim_or (ha : SimT W tt dt) (hb : SimT W tu du) : SimT W (tOr tt tu) (dOr dt du) := by
  intro F H env σ A Q P X g h xo k
  refine ha F H env σ A _ _ X g h xo fun b env1 F1 H1 A1 g1 s1 h1 => ?_
  cases b with
  | true =>
    rw [if_pos rfl] at h1 ⊢
    exact k true env1 F1 H1 A1 g1 s1 h1
  | false =>
    rw [if_neg Bool.false_ne_true] at h1 ⊢
    exact hb F1 H1 env1 σ A1 _ _ X g1 h1 (xo.step s1) fun c env2 F2 H2 A2 g2 s2 h2 => k c env2 F2 H2 A2 g2 (s1.trans s2) h2
theorem sim_not (ha : SimT W tt dt) : SimT W (tNot tt) (dNot dt) := by
  intro F H env σ A Q P X g h xo k
  exact ha F H env σ A _ _ X g h xo fun b env1 F1 H1 A1 g1 s1 h1 => k (!b) env1 F1 H1 A1 g1 s1 h1
theorem sim_yes : SimT W tYes dYes := fun F H env σ A Q P X g h xo k => k true env F H A g .refl h
theorem sim_if (ht : SimT W tt dt) (ha : SimE W ta da) (hb : SimE W tb db) : SimE W (tIf tt ta tb) (dIf dt da db) := by
  intro F H env σ A Q P X g h xo k
  refine ht F H env σ A _ _ X g h xo fun b env1 F1 H1 A1 g1 s1 h1 => ?_
  cases b with
  | true =>
    rw [if_pos rfl] at h1 ⊢
    exact ha F1 H1 env1 σ A1 _ _ X g1 h1 (xo.step s1) fun x r env2 F2 H2 A2 C2 g2 s2 rr h2 => k x r env2 F2 H2 A2 C2 g2 (s1.trans s2) rr h2
  | false =>
    rw [if_neg Bool.false_ne_true] at h1 ⊢
    exact hb F1 H1 env1 σ A1 _ _ X g1 h1 (xo.step s1) fun x r env2 F2 H2 A2 C2 g2 s2 rr h2 => k x r env2 F2 H2 A2 C2 g2 (s1.trans s2) rr h2
theorem sim_andV (ha : SimE W ta da) (hb : SimE W tb db) : SimE W (tAndV ta tb) (dAndV da db) := by
  intro F H env σ A Q P X g h xo k
  refine ha F H env σ A _ _ X g h xo fun x r1 env1 F1 H1 A1 C1 g1 s1 rr1 h1 => ?_
  obtain ⟨b, e, h2⟩ := asB_ok g1 rr1 h1
  have s1' := s1.mem (A'' := A1) fun a m => List.mem_append_left _ m
  refine ⟨b, e, ?_⟩
  cases b with
  | true =>
    rw [if_pos rfl] at h2 ⊢
    exact hb F1 H1 env1 σ A1 _ _ X g1 h2 (xo.step s1') fun x r env2 F2 H2 A2 C2 g2 s2 rr h2 => k x r env2 F2 H2 A2 C2 g2 (s1'.trans s2) rr h2
  | false =>
    rw [if_neg Bool.false_ne_true] at h2 ⊢
    exact k _ (.d (.bl false)) env1 F1 H1 A1 [] g1 (s1.mem fun a m => by rw [List.append_nil] at m; exact List.mem_append_left _ m) (.dat g1 (d := .bl false) rfl) h2
theorem sim_notV (ha : SimE W ta da) : SimE W (tNotV ta) (dNotV da) := by
  intro F H env σ A Q P X g h xo k
  refine ha F H env σ A _ _ X g h xo fun x r1 env1 F1 H1 A1 C1 g1 s1 rr1 h1 => ?_
  obtain ⟨b, e, h2⟩ := asB_ok g1 rr1 h1
  exact ⟨b, e, k _ (.d (.bl (!b))) env1 F1 H1 A1 [] g1 (s1.mem fun a m => by rw [List.append_nil] at m; exact List.mem_append_left _ m) (.dat g1 (d := .bl (!b)) rfl) h2⟩
theorem sim_chain {r r' : R2} {dr dr' : D → D → (O → Prop) → Prop} (hr : SimR2 r dr) (hr' : SimR2 r' dr') (ha : SimE W ta da) (hb : SimE W tb db) (hc : SimE W tc dc) : SimE W (tChain r r' ta tb tc) (dChain dr dr' da db dc) := by
  intro F H env σ A Q P X g h xo k
  refine ha F H env σ A _ _ X g h xo fun x r1 env1 F1 H1 A1 C1 g1 s1 rr1 h1 => ?_
  obtain ⟨F2, r1', h2, g2, s2, p2⟩ := nrm_ok g1 rr1 h1
  have s12 := s1.trans s2
  refine hb F2 H1 env1 σ A1 _ _ X g2 h2 (xo.step s12) fun y r2 env2 F3 H3 A3 C3 g3 s3 rr3 h3 => ?_
  obtain ⟨F4, r2', h4, g4, s4, p4⟩ := nrm_ok g3 rr3 h3
  have s14 := s12.trans (s3.trans s4)
  obtain ⟨d1, e1, h5⟩ := oth_ok h4
  obtain ⟨d2, e2, h6⟩ := oth_ok h5
  refine hr F4 H3 x y d1 d2 _ _ g4.sub (peek_ok g4 ((p2.mono (s3.trans s4).f).rep g4) e1) (peek_ok g4 (p4.rep g4) e2) h6 fun z o F5 H5 C5 x5 ro5 nd5 d5 h7 => ?_
  have g5 := x5.good g4
  obtain ⟨zd, ez, h8⟩ := oth_ok h7
  obtain ⟨kb, ek, h9⟩ := oth_ok h8
  have rz := flat_ok g5.sub ez ro5
  have s15 := s14.trans (x5.step (env := env2) (σ := σ) (A := A3) |>.mem fun a m => List.mem_append_left _ m)
  have hz : z = .bl kb := by cases zd <;> cases ek; exact rz
  refine ⟨kb, hz, ?_⟩
  cases kb with
  | true =>
    rw [if_pos rfl] at h9 ⊢
    refine hc F5 H5 env2 σ A3 _ _ X g5 h9 (xo.step s15) fun w r3 env3 F6 H6 A6 C6 g6 s6 rr6 h10 => ?_
    obtain ⟨d2', e2', h11⟩ := oth_ok h10
    obtain ⟨d3, e3, h12⟩ := oth_ok h11
    refine hr' F6 H6 y w d2' d3 _ _ g6.sub (peek_ok g6 ((p4.mono (x5.f.trans s6.f)).rep g6) e2') (peek_ok g6 rr6 e3) h12 fun z o F7 H7 C7 x7 ro7 nd7 d7 h13 => ?_
    exact k z (.o o) env3 F7 H7 A6 C7 (x7.good g6) ((s15.trans (s6.mem fun a m => List.mem_append_left _ m)).trans x7.step) (.new g6 x7 ro7 nd7 d7) h13
  | false =>
    rw [if_neg Bool.false_ne_true] at h9 ⊢
    exact k _ (.d (.bl false)) env2 F5 H5 A3 [] g5 (s15.mem fun a m => by rw [List.append_nil] at m; exact m) (.dat g5 (d := .bl false) rfl) h9
end
/-! ### rows of arguments -/
def dNilA : DTA := fun env P _ => P [] env
def dLastA (da : DTE) : DTA := fun env P X => da env (fun r env1 => P [r] env1) X
def dConsA (da : DTE) (dr : DTA) : DTA := fun env P X => da env (fun r env1 => nrm r fun r => dr env1 (fun rs env2 => P (r :: rs) env2) X) X
def dNilV : DTV := fun env P _ => P [] env
def dConsV (da : DTE) (dr : DTV) : DTV := fun env P X => da env (fun r env1 => force r env1 fun d env2 => dr env2 (fun ds env3 => P (d :: ds) env3) X) X
def peekL : List R → DEnv → Option (List D)
  | [], _ => some []
  | r :: rs, env => match peek r env with
    | some d => (match peekL rs env with
      | some ds => some (d :: ds)
      | none => none)
    | none => none
def dCB (dr : List D → (O → Prop) → Prop) (da : DTA) : DTE := fun env P X => da env (fun rs env1 => oth (peekL rs env1) fun ds => dr ds fun o => P (.o o) env1) X
def dTup (dv : DTV) : DTE := fun env P X => dv env (fun ds env1 => ds.length ≤ sizeLine ∧ P (.d (.tup ds)) env1) X
def dLst (dv : DTV) : DTE := fun env P X => dv env (fun ds env1 => ds.length ≤ sizeLine ∧ P (.o (.lst (ds.map .fr))) env1) X
theorem RepRs.cons {F H : Hp} {σ : L2.St} {A C : List Addr} {r : R} {rs : List R} {x : V} {xs : List V} {env : DEnv} (g : Good F H env σ A) (p : Per F σ r x) (h : RepRs F H σ A rs xs C) : RepRs F H σ A (r :: rs) (x :: xs) C := by
  cases rs with
  | nil =>
    obtain ⟨rfl, rfl⟩ := h
    exact ⟨x, rfl, p.rep g⟩
  | cons r' rs' => exact ⟨x, xs, rfl, p, h⟩
theorem peekL_ok {F H : Hp} {env : DEnv} {σ : L2.St} {A C : List Addr} (g : Good F H env σ A) : ∀ {rs : List R} {xs : List V} {ds : List D}, RepRs F H σ A rs xs C → peekL rs env = some ds → RepPL F H ds xs
  | [], xs, ds, h, e => by cases e; exact h.1
  | [r], xs, ds, ⟨x, ex, h⟩, e => by
    unfold peekL at e
    cases q : peek r env with
    | none => rw [q] at e; cases e
    | some d =>
      rw [q] at e
      cases e
      exact ⟨x, [], ex, peek_ok g h q, rfl⟩
  | r :: r' :: rs, xs, ds, ⟨x, ys, ex, h, t⟩, e => by
    unfold peekL at e
    cases q : peek r env with
    | none => rw [q] at e; cases e
    | some d =>
      rw [q] at e
      simp only at e
      cases q' : peekL (r' :: rs) env with
      | none => rw [q'] at e; cases e
      | some ds' =>
        rw [q'] at e
        cases e
        exact ⟨x, ys, ex, peek_ok g (h.rep g) q, peekL_ok g t q'⟩
theorem RepOL.ofL {F H : Hp} : ∀ {ds : List D} {xs : List V}, RepL F ds xs → RepOL F H (ds.map .fr) xs []
  | [], _, h => ⟨h, rfl⟩
  | d :: ds, _, ⟨x, r, e, h, t⟩ => ⟨x, r, [], [], e, rfl, ⟨rfl, h⟩, RepOL.ofL t⟩
section
variable {W : WX} {ta : TE} {da : DTE} {tr : TA} {dr : DTA} {dv : DTV}
theorem sim_lastA (ha : SimE W ta da) : SimA W (tCons ta tNil) (dLastA da) := by
  intro F H env σ A Q P X g h xo k
  refine ha F H env σ A _ _ X g h xo fun x r1 env1 F1 H1 A1 C1 g1 s1 rr1 h1 => ?_
  exact k [x] [r1] env1 F1 H1 A1 C1 g1 s1 ⟨x, rfl, rr1⟩ h1
theorem sim_consA (ha : SimE W ta da) (hr : SimA W tr dr) : SimA W (tCons ta tr) (dConsA da dr) := by
  intro F H env σ A Q P X g h xo k
  refine ha F H env σ A _ _ X g h xo fun x r1 env1 F1 H1 A1 C1 g1 s1 rr1 h1 => ?_
  obtain ⟨F2, r1', h2, g2, s2, p2⟩ := nrm_ok g1 rr1 h1
  have s12 := s1.trans s2
  refine hr F2 H1 env1 σ A1 _ _ X g2 h2 (xo.step s12) fun xs rs env2 F3 H3 A3 C3 g3 s3 rr3 h3 => ?_
  exact k (x :: xs) (r1' :: rs) env2 F3 H3 A3 C3 g3 (s12.trans s3) (.cons g3 (p2.mono s3.f) rr3) h3
theorem sim_nilV : SimV W tNil dNilV := fun F H env σ A Q P X g h xo k => k [] [] env F H A g .refl rfl h
theorem sim_consV (ha : SimE W ta da) (hr : SimV W tr dv) : SimV W (tCons ta tr) (dConsV da dv) := by
  intro F H env σ A Q P X g h xo k
  refine ha F H env σ A _ _ X g h xo fun x r1 env1 F1 H1 A1 C1 g1 s1 rr1 h1 => ?_
  obtain ⟨F2, A2, d, env2, h2, g2, s2, p2⟩ := force_ok g1 rr1 h1
  have s12 := s1.trans s2
  refine hr F2 H1 env2 σ A2 _ _ X g2 h2 (xo.step s12) fun xs ds env3 F3 H3 A3 g3 s3 rr3 h3 => ?_
  exact k (x :: xs) (d :: ds) env3 F3 H3 A3 g3 (s12.trans s3) ⟨x, xs, rfl, p2.mono s3.f, rr3⟩ h3
theorem sim_cb {r : List V → Hp → VK → Prop} {db : List D → (O → Prop) → Prop} (hr : SimRL r db) (ha : SimA W tr dr) : SimE W (tCB r tr) (dCB db dr) := by
  intro F H env σ A Q P X g h xo k
  refine ha F H env σ A _ _ X g h xo fun xs rs env1 F1 H1 A1 C1 g1 s1 rr1 h1 => ?_
  obtain ⟨ds, e1, h4⟩ := oth_ok h1
  refine hr F1 H1 xs ds _ _ g1.sub (peekL_ok g1 rr1 e1) h4 fun z o F4 H4 C4 x4 ro4 nd4 d4 h6 => ?_
  exact k z (.o o) env1 F4 H4 A1 C4 (x4.good g1) ((s1.mem fun a m => List.mem_append_left _ m).trans x4.step) (.new g1 x4 ro4 nd4 d4) h6
/-- one argument, the slots stay -/
theorem simp_cb1 {r : List V → Hp → VK → Prop} {db : List D → (O → Prop) → Prop} (hr : SimRL r db) (ha : SimP ta da) : SimP (tCB r (tCons ta tNil)) (dCB db (dLastA da)) := by
  intro F H env σ A Q P X g h k
  refine ha F H env σ A _ _ X g h fun x r1 F1 H1 C1 x1 rr1 h1 => ?_
  have g1 := x1.good g
  obtain ⟨ds, e1, h4⟩ := oth_ok h1
  refine hr F1 H1 [x] ds _ _ g1.sub (peekL_ok g1 (rs := [r1]) ⟨x, rfl, rr1⟩ e1) h4 fun z o F4 H4 C4 x4 ro4 nd4 d4 h6 => ?_
  exact k z (.o o) F4 H4 C4 ((x1.trans x4).noC fun a m => List.mem_append_right _ m) (.new g1 x4 ro4 nd4 d4) h6
theorem same_new {H : Hp} {q : Addr} {o : HO} (h : H q = none) : Same H (upd H q o) := fun b x e => by
  rw [upd_ne (ne_of_none e h)]
  exact e
theorem sm_new {H : Hp} {q : Addr} {o : HO} (h : H q = none) (n : isTbl o = false) : Sm H (upd H q o) := (same_new h).sm fun b ps e => by
  by_cases z : b = q
  · rw [z, upd_same] at e
    cases e
    cases n
  · rw [upd_ne z] at e
    exact ⟨ps, e⟩
/-- a new tuple -/
theorem ext_tup {F H : Hp} {p : Addr} {xs : List V} (s : Same F H) (n : H p = none) : Ext F H (upd F p (.tup xs)) (upd H p (.tup xs)) [] := by
  refine ⟨sm_new (s.free n) rfl, (same_new n).smH, fun a o e _ _ => same_new n a o e, fun a o e => ?_, fun _ h => (nomatch h), fun a h => ?_⟩
  · by_cases q : a = p
    · rw [q, upd_same] at e ⊢; exact e
    · rw [upd_ne q] at e ⊢; exact s a o e
  · by_cases q : a = p
    · exact .inr (by rw [q]; exact n)
    · rw [upd_ne q] at h; exact .inl h
theorem ext_own {F H : Hp} {p : Addr} {o : HO} (s : Same F H) (n : H p = none) : Ext F H F (upd H p o) [p] := by
  refine ⟨.refl _, (same_new n).smH, fun b x e _ _ => same_new n b x e, fun b x e => ?_, fun a m => by rw [List.mem_singleton.mp m]; exact n, fun a h => .inl h⟩
  · rw [upd_ne (ne_of_none (s b x e) n)]; exact s b x e
theorem sim_tup (ha : SimV W tr dv) : SimE W (tTup tr) (dTup dv) := by
  intro F H env σ A Q P X g h xo k
  refine ha F H env σ A _ _ X g h xo fun xs ds env1 F1 H1 A1 g1 s1 rr1 h1 => ?_
  refine ⟨by rw [rr1.length]; exact h1.1, fun p np => ?_⟩
  have x := ext_tup (xs := xs) g1.sub np
  exact k (.ref p) (.d (.tup ds)) env1 _ _ A1 [] (x.good g1) (s1.trans x.step) (.dat (x.good g1) (d := .tup ds) ⟨p, xs, rfl, upd_same, rr1.mono x.f⟩) h1.2
theorem sim_lst (ha : SimV W tr dv) : SimE W (tLst tr) (dLst dv) := by
  intro F H env σ A Q P X g h xo k
  refine ha F H env σ A _ _ X g h xo fun xs ds env1 F1 H1 A1 g1 s1 rr1 h1 => ?_
  refine ⟨by rw [rr1.length]; exact h1.1, fun p np => ?_⟩
  have x := ext_own (o := .lst xs) g1.sub np
  refine k (.ref p) (.o (.lst (ds.map .fr))) env1 _ _ A1 [p] (x.good g1) (s1.trans x.step) (.new g1 x (o := .lst (ds.map .fr)) ⟨p, xs, [], rfl, rfl, upd_same, .ofL rr1⟩ (List.nodup_cons.mpr ⟨List.not_mem_nil, List.nodup_nil⟩) fun a m => ?_) h1.2
  rw [List.mem_singleton.mp m]
  exact g1.sub.free np
end

def dNext : DTS := fun DD env => DD.nx env
def dBreak : DTS := fun DD env => DD.bk env
def dCont : DTS := fun DD env => DD.ct env
def dSeq (a b : DTS) : DTS := fun DD env => a { DD with nx := fun e => b DD e } env
/-- .. at a join -/
def dCut (a b : DTS) : DTS := fun DD env => a { DD with nx := fun e => b DD e } env
def dIfS (t : DTT) (a b : DTS) : DTS := fun DD env => t env (fun c env1 => if c = true then a DD env1 else b DD env1) DD.ex
def dDrop (a : DTE) : DTS := fun DD env => a env (fun _ env1 => DD.nx env1) DD.ex
def dRetN : DTS := fun DD env => DD.rt (.fr .non) env
def retO (r : R) (env : DEnv) (P : O → DEnv → Prop) : Prop := match r with
  | .o o => P o env
  | .p i [] => (match env[i]? with
    | some (.ow o) => P o (env.set i .un)
    | _ => False)
  | .p i path => force (.p i path) env fun d => P (.fr d)
def dRet (a : DTE) : DTS := fun DD env => a env (fun r env1 => retO r env1 DD.rt) DD.ex
section
variable {W : WX} {ta : TE} {da : DTE} {tt : TT} {dt : DTT} {t u : TS} {d e : DTS}
theorem sim_next : SimS W tNext dNext := fun F H env σ A E DD g h eo => eo.nx env σ F H A g .refl h
theorem sim_seq (ha : SimS W t d) (hb : SimS W u e) : SimS W (tSeq t u) (dSeq d e) := by
  intro F H env σ A E DD g h eo
  refine ha F H env σ A _ _ g h ⟨fun env' σ' F' H' A' g' s h' => ?_, eo.bk, eo.ct, eo.rt, eo.ex⟩
  exact hb F' H' env' σ' A' E DD g' h' (eo.step s)
theorem sim_cut (ha : SimS W t d) (hb : SimS W u e) : SimS W (tSeq t u) (dCut d e) := sim_seq ha hb
theorem sim_ifs (ht : SimT W tt dt) (ha : SimS W t d) (hb : SimS W u e) : SimS W (tIfS tt t u) (dIfS dt d e) := by
  intro F H env σ A E DD g h eo
  refine ht F H env σ A _ _ _ g h eo.ex fun b env1 F1 H1 A1 g1 s1 h1 => ?_
  cases b with
  | true =>
    rw [if_pos rfl] at h1 ⊢
    exact ha F1 H1 env1 σ A1 E DD g1 h1 (eo.step s1)
  | false =>
    rw [if_neg Bool.false_ne_true] at h1 ⊢
    exact hb F1 H1 env1 σ A1 E DD g1 h1 (eo.step s1)
theorem sim_drop (ha : SimE W ta da) : SimS W (tDrop ta) (dDrop da) := by
  intro F H env σ A E DD g h eo
  exact ha F H env σ A _ _ _ g h eo.ex fun x r env1 F1 H1 A1 C1 g1 s1 rr h1 => eo.nx env1 σ F1 H1 A1 g1 (s1.mem fun a m => List.mem_append_left _ m) h1
theorem retO_ok {F H : Hp} {env : DEnv} {σ : L2.St} {A C : List Addr} {r : R} {x : V} {P : O → DEnv → Prop} (g : Good F H env σ A) (hr : RepR F H σ A r x C) (h : retO r env P) : ∃ F' A' o env' C', P o env' ∧ Good F' H env' σ A' ∧ Step F H env σ (A ++ C) F' H env' σ (A' ++ C') ∧ RepR F' H σ A' (.o o) x C' := by
  cases r with
  | o o => exact ⟨F, A, o, env, C, h, g, .refl, hr⟩
  | p i path =>
    cases path with
    | nil =>
      obtain ⟨rfl, y, hy, hv⟩ := hr
      have ey : y = x := hv
      subst ey
      unfold retO at h
      simp only at h
      cases e : env[i]? with
      | none => rw [e] at h; exact h.elim
      | some s =>
        rw [e] at h
        cases s with
        | un => exact h.elim
        | bo o => exact h.elim
        | ow o =>
          obtain ⟨v, B, R, h1, h2, h3, h4⟩ := g.rep.out e
          rw [hy] at h1
          cases h1
          obtain ⟨z, ez, ro⟩ := h2
          cases ez
          have nd : (B ++ R).Nodup := h3.nodup_iff.mp g.nd
          refine ⟨F, R, o, env.set i .un, B, h, ⟨g.sub, h4, nodup_r nd, fun a m => g.dis a (h3.mem_iff.mpr (List.mem_append_right _ m))⟩, ⟨.refl _, fun _ _ h _ _ _ => h, fun _ h => h, fun a m => .inl ?_, fun _ h => .inl h, fun j w hj => ?_⟩, ro, ?_, fun a m => g.dis a (h3.mem_iff.mpr (List.mem_append_left _ m))⟩
          · rw [List.append_nil]
            refine h3.mem_iff.mpr ?_
            rcases List.mem_append.mp m with m | m
            · exact List.mem_append_right _ m
            · exact List.mem_append_left _ m
          · refine ⟨w, ?_, rfl⟩
            rw [List.getElem?_set_ne (fun z => by subst z; rw [e] at hj; cases hj)]
            exact hj
          · exact (List.perm_append_comm.nodup_iff.mp nd)
    | cons p0 pr =>
      have h' : toO (.p i (p0 :: pr)) env P := h
      exact toO_ok g hr h'
theorem sim_ret (ha : SimE W ta da) : SimS W (tRet ta) (dRet da) := by
  intro F H env σ A E DD g h eo
  refine ha F H env σ A _ _ _ g h eo.ex fun x r env1 F1 H1 A1 C1 g1 s1 rr h1 => ?_
  obtain ⟨F2, A2, o, env2, C2, h2, g2, s2, r2⟩ := retO_ok g1 rr h1
  exact eo.rt x o env2 σ F2 H1 A2 C2 g2 (s1.trans s2) r2 h2
end
/-! ### targets -/
abbrev DG := O → DEnv → (DEnv → Prop) → DX → Prop
abbrev DGs := List D → DEnv → (DEnv → Prop) → DX → Prop
def SimG (W : WX) (js : List Nat) (t : TG) (d : DG) : Prop := ∀ (F H : Hp) (env : DEnv) (σ : L2.St) (A C : List Addr) (x : V) (o : O) (Q : L2.St → Hp → Prop) (P : DEnv → Prop) (X : DX), Good F H env σ A → RepR F H σ A (.o o) x C → d o env P X → XOk F H env σ A W X →
  (∀ env' σ' F' H' A', Good F' H' env' σ' A' → Step F H env σ (A ++ C) F' H' env' σ' A' → σ'.length = σ.length → (∀ j, j ∉ js → σ'[j]? = σ[j]?) → P env' → Q σ' H') → t x σ H Q
def SimGs (W : WX) (js : List Nat) (t : TGs) (d : DGs) : Prop := ∀ (F H : Hp) (env : DEnv) (σ : L2.St) (A : List Addr) (xs : List V) (ds : List D) (Q : L2.St → Hp → Prop) (P : DEnv → Prop) (X : DX), Good F H env σ A → RepL F ds xs → d ds env P X → XOk F H env σ A W X →
  (∀ env' σ' F' H' A', Good F' H' env' σ' A' → Step F H env σ A F' H' env' σ' A' → σ'.length = σ.length → (∀ j, j ∉ js → σ'[j]? = σ[j]?) → P env' → Q σ' H') → t xs σ H Q
def dName (i : Nat) : DG := fun o env P _ => match env[i]? with
  | some (.bo _) => False
  | some _ => P (env.set i (.ow o))
  | none => False
def dGNil : DGs := fun ds env P _ => ds = [] ∧ P env
def dGCons (g : DG) (gs : DGs) : DGs := fun ds env P X => match ds with
  | [] => False
  | d :: r => g (.fr d) env (fun env1 => gs r env1 P X) X
def dGTup (n : Nat) (gs : DGs) : DG := fun o env P X => match o with
  | .fr (.tup ds) => ds.length = n ∧ gs ds env P X
  | _ => False
def dAsg (a : DTE) (g : DG) : DTS := fun DD env => a env (fun r env1 => toO r env1 fun o env2 => g o env2 DD.nx DD.ex) DD.ex
section
variable {W : WX} {ta : TE} {da : DTE} {js ks : List Nat}
/-- a slot gets another content -/
theorem Good.setS {F H : Hp} {env : DEnv} {σ : L2.St} {A C : List Addr} {i : Nat} {s : S} {o : O} {x : V} (g : Good F H env σ A) (hr : RepR F H σ A (.o o) x C) (e : env[i]? = some s) :
    ∃ A', Good F H (env.set i (.ow o)) (σ.set i (some x)) A' ∧ ∀ a ∈ A', a ∈ A ++ C := by
  obtain ⟨v, B, R, h1, h2, h3, h4⟩ := g.rep.out e
  obtain ⟨r1, r2, r3⟩ := hr
  have hs : RepSl F H (.ow o) (some x) C := ⟨x, rfl, r1⟩
  obtain ⟨A', p1, p2⟩ := RepS.put hs h4 (get_set e)
  rw [List.set_set] at p2
  have mR : ∀ a ∈ R, a ∈ A := fun a m => h3.mem_iff.mpr (List.mem_append_right _ m)
  have nd : (B ++ R).Nodup := h3.nodup_iff.mp g.nd
  refine ⟨A', ⟨g.sub, p2, p1.nodup_iff.mpr (List.nodup_append.mpr ⟨nodup_r r2, nodup_r nd, fun a ha b hb z => by subst z; exact nodup_d r2 (mR a hb) ha⟩), fun a m => ?_⟩, fun a m => ?_⟩
  · rcases List.mem_append.mp (p1.mem_iff.mp m) with m | m
    · exact r3 a m
    · exact g.dis a (mR a m)
  · rcases List.mem_append.mp (p1.mem_iff.mp m) with m | m
    · exact List.mem_append_right _ m
    · exact List.mem_append_left _ (mR a m)
theorem sim_name {i : Nat} : SimG W [i] (gName i) (dName i) := by
  intro F H env σ A C x o Q P X g hr h xo k
  unfold dName at h
  cases e : env[i]? with
  | none => rw [e] at h; exact h.elim
  | some s =>
    rw [e] at h
    obtain ⟨A', g', m'⟩ := g.setS hr e
    have hb : ∀ o, s ≠ .bo o := fun o z => by subst z; exact h
    have h' : P (env.set i (.ow o)) := by cases s with
      | un => exact h
      | ow _ => exact h
      | bo o => exact (hb o rfl).elim
    refine k _ _ F H A' g' ⟨.refl _, fun _ _ h _ _ _ => h, fun _ h => h, fun a m => .inl (m' a m), fun _ h => .inl h, fun j w hj => ?_⟩ List.length_set (fun j hj => List.getElem?_set_ne fun z => hj (by rw [z]; exact List.mem_singleton.mpr rfl)) h'
    have ne : i ≠ j := fun z => by subst z; rw [e] at hj; cases hj; exact hb _ rfl
    rw [List.getElem?_set_ne ne, List.getElem?_set_ne ne]
    exact ⟨w, hj, rfl⟩
theorem sim_gnil : SimGs W [] gNil dGNil := fun F H env σ A xs ds Q P X g hr h xo k => by
  obtain ⟨rfl, h⟩ := h
  exact ⟨hr, k env σ F H A g .refl rfl (fun _ _ => rfl) h⟩
theorem sim_gcons {tg : TG} {tgs : TGs} {dg : DG} {dgs : DGs} (h1 : SimG W js tg dg) (h2 : SimGs W ks tgs dgs) : SimGs W (js ++ ks) (gCons tg tgs) (dGCons dg dgs) := by
  intro F H env σ A xs ds Q P X g hr h xo k
  cases ds with
  | nil => exact h.elim
  | cons d r =>
    obtain ⟨x, ys, ex, hx, ht⟩ := hr
    refine ⟨x, ys, ex, ?_⟩
    refine h1 F H env σ A [] x (.fr d) _ _ X g (.dat g hx) h xo fun env1 σ1 F1 H1 A1 g1 s1 l1 j1 h1 => ?_
    rw [List.append_nil] at s1
    refine h2 F1 H1 env1 σ1 A1 ys r _ _ X g1 (RepL.mono s1.f ht) h1 (xo.step s1) fun env2 σ2 F2 H2 A2 g2 s2 l2 j2 h3 => ?_
    exact k env2 σ2 F2 H2 A2 g2 (s1.trans s2) (l2.trans l1) (fun j hj => (j2 j fun z => hj (List.mem_append_right _ z)).trans (j1 j fun z => hj (List.mem_append_left _ z))) h3
theorem sim_gtup {K : PySem.W.Frag} {n : Nat} {tgs : TGs} {dgs : DGs} (h1 : SimGs W js tgs dgs) : SimG W js (gTup K n tgs) (dGTup n dgs) := by
  intro F H env σ A C x o Q P X g hr h xo k
  cases o with
  | lst _ => exact h.elim
  | dct _ _ => exact h.elim
  | ins _ _ => exact h.elim
  | fr d =>
    cases d with
    | tup ds =>
      obtain ⟨hl, h⟩ := h
      obtain ⟨⟨eC, a, xs, ex, hf, rl⟩, _, _⟩ := hr
      subst eC
      refine ⟨a, xs, ex, SqT.of (g.sub _ _ hf), by rw [rl.length]; exact hl, ?_⟩
      rw [List.append_nil] at k
      exact h1 F H env σ A xs ds _ _ X g rl h xo k
    | _ => exact h.elim
theorem sim_asg {tg : TG} {dg : DG} (ha : SimE W ta da) (hg : SimG W js tg dg) : SimS W (tAsg ta tg) (dAsg da dg) := by
  intro F H env σ A E DD g h eo
  refine ha F H env σ A _ _ _ g h eo.ex fun x r env1 F1 H1 A1 C1 g1 s1 rr h1 => ?_
  obtain ⟨F2, A2, o, env2, C2, h2, g2, s2, r2⟩ := toO_ok g1 rr h1
  have s12 := s1.trans s2
  refine hg F2 H1 env2 σ A2 C2 x o _ _ _ g2 r2 h2 (eo.ex.step (s12.mem fun a m => List.mem_append_left _ m)) fun env3 σ3 F3 H3 A3 g3 s3 _ _ h3 => ?_
  exact eo.nx env3 σ3 F3 H3 A3 g3 (s12.trans s3) h3
end
/-! ### xs[i] = e -/
/-- a place is written -/
def setAt (env : DEnv) (i : Nat) (path : List PSt) (o : O) : DEnv := match env[i]? with
  | some s => (match s.cont with
    | some u => env.set i (s.re (u.put path o))
    | none => env)
  | none => env
def dSub (da di : DTE) : DG := fun o env P X => da env (fun r1 env1 => di env1 (fun r2 env2 => match r1, peek r2 env2 with
  | .p i path, some (.int k) => oth (contAt env2 i path) fun u => (match u with
    | .lst os => oth (ixN os.length k) fun j => P (setAt env2 i path (.lst (os.set j o)))
    | _ => False)
  | _, _ => False) X) X
/-- the object at a place is changed: it stays where it is -/
theorem Good.write {F H : Hp} {env : DEnv} {σ : L2.St} {A C : List Addr} {i : Nat} {path : List PSt} {o1 o2 : O} {x : V} {H' : Hp} (g : Good F H env σ A) (hc : contAt env i path = some o1) (hp : ∃ y, σ[i]? = some (some y) ∧ PathV H y path x)
    (hC : ∀ a ∈ C, a ∉ A ∧ F a = none) (ndC : C.Nodup) (f : Same F H') (fr : ∀ a, H' a = none → H a = none)
    (hw : ∀ B R, RepO F H o1 x B → A.Perm (B ++ R) → (B ++ R).Nodup → (∀ a o, H a = some o → a ∉ B → H' a = some o) ∧ ∃ B', RepO F H' o2 x B' ∧ B'.Nodup ∧ ∀ a ∈ B', a ∈ B ∨ a ∈ C) :
    ∃ A', Good F H' (setAt env i path o2) σ A' ∧ Step F H env σ (A ++ C) F H' (setAt env i path o2) σ A' := by
  obtain ⟨s, o, e1, e2, e3⟩ := contAt_ok hc
  obtain ⟨y, hy, hv⟩ := hp
  obtain ⟨B, R, h1, h2, h3⟩ := g.rep.focus e1 e2 e3 hy hv
  have nd : (B ++ R).Nodup := h2.nodup_iff.mp g.nd
  have mB : ∀ a ∈ B, a ∈ A := fun a m => h2.mem_iff.mpr (List.mem_append_left _ m)
  have mR : ∀ a ∈ R, a ∈ A := fun a m => h2.mem_iff.mpr (List.mem_append_right _ m)
  obtain ⟨kp, B', r', ndB, mB'⟩ := hw B R h1 h2 nd
  obtain ⟨A', p1, p2⟩ := h3 F H' o2 B' ⟨.refl _, fun a m o e => kp a o e fun z => nodup_d nd z m⟩ r'
  have es : setAt env i path o2 = env.set i (s.re (o.put path o2)) := by
    unfold setAt
    rw [e1]
    simp only
    rw [e2]
  rw [es]
  refine ⟨A', ⟨f, p1, p2.nodup_iff.mpr (List.nodup_append.mpr ⟨ndB, nodup_r nd, fun a ha b hb z => ?_⟩), fun a m => ?_⟩, ⟨.refl _, fun a o e _ n _ => kp a o e fun z => n (List.mem_append_left _ (mB a z)), fr, fun a m => .inl ?_, fun _ h => .inl h, fun j w hj => ?_⟩⟩
  · subst z
    rcases mB' a ha with m | m
    · exact nodup_d nd m hb
    · exact (hC a m).1 (mR a hb)
  · rcases List.mem_append.mp (p2.mem_iff.mp m) with m | m
    · rcases mB' a m with m | m
      · exact g.dis a (mB a m)
      · exact (hC a m).2
    · exact g.dis a (mR a m)
  · rcases List.mem_append.mp (p2.mem_iff.mp m) with m | m
    · rcases mB' a m with m | m
      · exact List.mem_append_left _ (mB a m)
      · exact List.mem_append_right _ m
    · exact List.mem_append_left _ (mR a m)
  · obtain ⟨o', eo⟩ := bor_re (o := o.put path o2) e1 j w hj
    exact ⟨o', eo, rfl⟩
theorem same_own {F H : Hp} {a : Addr} {o : HO} (s : Same F H) (n : F a = none) : Same F (upd H a o) := fun b x e => by
  rw [upd_ne (ne_of_none e n)]
  exact s b x e
theorem upd_free {H : Hp} {a b : Addr} {o : HO} (h : upd H a o b = none) : H b = none := by
  by_cases e : b = a
  · rw [e, upd_same] at h; cases h
  · rw [upd_ne e] at h; exact h
theorem sim_sub {W : WX} {ta ti : TE} {da di : DTE} (ha : SimP ta da) (hi : SimP ti di) : SimG W [] (gSub ta ti rSetL) (dSub da di) := by
  intro F H env σ A C x o Q P X g hr h xo k
  refine ha F H env σ A _ _ X g h fun v r1 F1 H1 C1 x1 rr1 h1 => ?_
  have g1 := x1.good g
  refine hi F1 H1 env σ A _ _ X g1 h1 fun w r2 F2 H2 C2 x2 rr2 h2 => ?_
  have g2 := x2.good g1
  have x12 := x1.trans x2
  have hr2 := (hr.ext x1).ext x2
  cases r1 with
  | o _ => exact h2.elim
  | p i path =>
    cases e2 : peek r2 env with
    | none => rw [e2] at h2; exact h2.elim
    | some d2 =>
      rw [e2] at h2
      cases d2 with
      | int kk =>
        have rw2 := peek_ok g2 rr2 e2
        have ew : w = .int kk := rw2
        obtain ⟨u, eu, h3⟩ := oth_ok h2
        cases u with
        | lst os =>
          obtain ⟨j, ej, h4⟩ := oth_ok h3
          obtain ⟨hC1, y, hy, hv⟩ := rr1.ext x2
          have hC : ∀ a ∈ C, a ∉ A ∧ F2 a = none := fun a m => ⟨fun z => nodup_d hr2.2.1 z m, hr2.2.2 a m⟩
          obtain ⟨s0, o0, q1, q2, q3⟩ := contAt_ok eu
          obtain ⟨B0, R0, k1, k2, _⟩ := g2.rep.focus q1 q2 q3 hy hv
          obtain ⟨a, xs, Bc, ea, eB, hxs, rl⟩ := k1
          have hl : xs.length = os.length := by
            clear k2 eB ej h4 eu q3
            revert rl
            generalize Bc = Z
            revert xs Z
            intro xs hxs Z rl
            exact repOL_len rl
          refine ⟨a, xs, kk, j, ea, ew, hxs, by rw [hl]; exact ej, ?_⟩
          have naF : F2 a = none := g2.dis a (k2.mem_iff.mpr (by rw [eB]; exact List.mem_cons_self))
          obtain ⟨A', g', s'⟩ := g2.write (H' := upd H2 a (.lst (xs.set j x))) (o2 := .lst (os.set j o)) eu ⟨y, hy, hv⟩ hC (nodup_r hr2.2.1) (same_own g2.sub naF) (fun b => upd_free) (fun B R b1 b2 b3 => by
            obtain ⟨a', xs', Bc', ea', eB', hxs', rl'⟩ := b1
            rw [ea] at ea'
            cases ea'
            rw [hxs] at hxs'
            cases hxs'
            have ndB := nodup_l b3
            rw [eB'] at ndB
            have naB := (List.nodup_cons.mp ndB).1
            refine ⟨fun b o e n => by rw [upd_ne (fun z => n (by rw [z, eB']; exact List.mem_cons_self))]; exact e, ?_⟩
            have hj : j < os.length := (ixN_seq ej).2.1
            obtain ⟨z, Bj, Rj, f1, f2, f3, f4⟩ := rl'.focus (List.getElem?_eq_getElem hj)
            have naC : ∀ b ∈ C, b ≠ a := fun b m z => (hC b m).1 (by rw [z]; exact b2.mem_iff.mpr (List.mem_append_left _ (by rw [eB']; exact List.mem_cons_self)))
            have naR : ∀ b ∈ Rj, b ≠ a := fun b m z => naB (by rw [← z]; exact f3.mem_iff.mpr (List.mem_append_right _ m))
            obtain ⟨A'', f5, f6⟩ := f4 F2 (upd H2 a (.lst (xs.set j x))) o C x ⟨.refl _, fun b m o e => by rw [upd_ne (naR b m)]; exact e⟩ (hr2.1.stay ⟨.refl _, fun b m o e => by rw [upd_ne (naC b m)]; exact e⟩)
            have ndBR : (Bj ++ Rj).Nodup := f3.nodup_iff.mp (List.nodup_cons.mp ndB).2
            have mem6 : ∀ b ∈ A'', b ∈ Bc' ∨ b ∈ C := fun b m => by
              rcases List.mem_append.mp (f6.mem_iff.mp m) with m | m
              · exact .inr m
              · exact .inl (f3.mem_iff.mpr (List.mem_append_right _ m))
            refine ⟨a :: A'', ⟨a, _, A'', ea, rfl, upd_same, f5⟩, List.nodup_cons.mpr ⟨fun m => ?_, f6.nodup_iff.mpr (List.nodup_append.mpr ⟨nodup_r hr2.2.1, nodup_r ndBR, fun b hb c hc z => ?_⟩)⟩, fun b m => ?_⟩
            · rcases mem6 a m with m | m
              · exact naB m
              · exact naC a m rfl
            · subst z
              exact (hC b hb).1 (b2.mem_iff.mpr (List.mem_append_left _ (by rw [eB']; exact List.mem_cons_of_mem _ (f3.mem_iff.mpr (List.mem_append_right _ hc)))))
            · rcases List.mem_cons.mp m with m | m
              · exact .inl (by rw [m, eB']; exact List.mem_cons_self)
              · rcases mem6 b m with m | m
                · exact .inl (by rw [eB']; exact List.mem_cons_of_mem _ m)
                · exact .inr m)
          exact k _ σ F2 _ A' g' (Step.trans (⟨x12.f, fun a o e nt _ f => x12.hx a o e nt f, fun a z => x12.h.free z, fun a m => .inl m, fun a h => (x12.fnew a h).elim .inl fun z => .inr (.inr z), fun _ _ h => ⟨_, h, rfl⟩⟩ : Step F H env σ (A ++ C) F2 H2 env σ (A ++ C)) s') rfl (fun _ _ => rfl) h4
        | _ => exact h3.elim
      | _ => exact h2.elim
where repOL_len {F H : Hp} : ∀ {os : List O} {xs : List V} {A : List Addr}, RepOL F H os xs A → xs.length = os.length
  | [], _, _, ⟨e, _⟩ => by rw [e]; rfl
  | o :: os, _, _, ⟨x, r, B, C, e, _, _, t⟩ => by rw [e, List.length_cons, List.length_cons, repOL_len t]

/-! ### what is walked -/
abbrev DTI := DEnv → (List D → DEnv → Prop) → DX → Prop
def IterOk (F : Hp) (J : It) (ds : List D) : Prop := ∀ (F' H' : Hp) (i : Nat), Sm F F' → Same F' H' → (∀ d, ds[i]? = some d → J.go i H' ∧ ∀ x H'', J.yld i H' x H'' → ∃ F'', Ext F' H' F'' H'' [] ∧ Rep F'' d x) ∧ (ds.length ≤ i → J.stop i H')
theorem IterOk.mono {F F' : Hp} {J : It} {ds : List D} (s : Sm F F') (h : IterOk F J ds) : IterOk F' J ds := fun F1 H1 i s1 s2 => h F1 H1 i (s.trans s1) s2
def SimI (W : WX) (t : TI) (d : DTI) : Prop := ∀ (F H : Hp) (env : DEnv) (σ : L2.St) (A : List Addr) (Q : It → Hp → Prop) (P : List D → DEnv → Prop) (X : DX), Good F H env σ A → d env P X → XOk F H env σ A W X →
  (∀ J ds env' F' H' A', Good F' H' env' σ A' → Step F H env σ A F' H' env' σ A' → IterOk F' J ds → P ds env' → Q J H') → t σ H Q
def dForGo (g : DG) (body : DTS) (DD : DEnds) : List D → DEnv → Prop
  | [], env => DD.nx env
  | d :: r, env => g (.fr d) env (fun env1 => body { DD with nx := dForGo g body DD r, ct := dForGo g body DD r, bk := DD.nx } env1) DD.ex
def dFor (di : DTI) (g : DG) (body : DTS) : DTS := fun DD env => di env (fun ds env1 => dForGo g body DD ds env1) DD.ex
section
variable {W : WX} {js : List Nat}
theorem sim_for {wi : TI} {di : DTI} {tg : TG} {dg : DG} {tb : TS} {db : DTS} (hi : SimI W wi di) (hg : SimG W js tg dg) (hb : SimS W tb db) : SimS W (tFor wi tg tb) (dFor di dg db) := by
  intro F H env σ A E DD g h eo
  refine hi F H env σ A _ _ _ g h eo.ex fun J ds env1 F1 H1 A1 g1 s1 io h1 => ?_
  refine ⟨fun i m σ' H' => m + i = ds.length ∧ ∃ env' F' A', Good F' H' env' σ' A' ∧ Step F1 H1 env1 σ A1 F' H' env' σ' A' ∧ dForGo dg db DD (ds.drop i) env', ⟨ds.length, rfl, env1, F1, A1, g1, .refl, h1⟩, ?_⟩
  rintro i m σ' H' ⟨hm, env', F', A', g', s', h'⟩
  cases e : ds[i]? with
  | none =>
    have hl : ds.length ≤ i := List.getElem?_eq_none_iff.mp e
    rw [List.drop_eq_nil_of_le hl] at h'
    exact .inl ⟨(io F' H' i s'.f g'.sub).2 hl, eo.nx env' σ' F' H' A' g' (s1.trans s') h'⟩
  | some d =>
    have hi := (List.getElem?_eq_some_iff.mp e).1
    obtain ⟨go, yl⟩ := (io F' H' i s'.f g'.sub).1 d e
    have ed : ds.drop i = d :: ds.drop (i + 1) := by
      rw [List.drop_eq_getElem_cons hi]
      rw [(List.getElem?_eq_some_iff.mp e).2]
    rw [ed] at h'
    refine .inr ⟨go, fun σ2 H2 => ∃ env2 F2 A2, Good F2 H2 env2 σ2 A2 ∧ Step F1 H1 env1 σ A1 F2 H2 env2 σ2 A2 ∧ dForGo dg db DD (ds.drop (i + 1)) env2, fun σ2 H2 ⟨env2, F2, A2, q1, q2, q3⟩ => ⟨m - 1, by omega, by omega, env2, F2, A2, q1, q2, q3⟩, fun x H'' hy => ?_⟩
    obtain ⟨F'', x1, rd⟩ := yl x H'' hy
    have g2 := x1.good g'
    have s2 := s'.trans ((x1.step (env := env') (σ := σ') (A := A')).mem fun a m => List.mem_append_left _ m)
    refine hg F'' H'' env' σ' A' [] x (.fr d) _ _ _ g2 (.dat g2 rd) h' (eo.ex.step (s1.trans s2)) fun env3 σ3 F3 H3 A3 g3 s3 _ _ h3 => ?_
    rw [List.append_nil] at s3
    have s13 := s2.trans s3
    refine hb F3 H3 env3 σ3 A3 _ _ g3 h3 ⟨fun e4 σ4 F4 H4 A4 g4 s4 h4 => ⟨e4, F4, A4, g4, s13.trans s4, h4⟩, fun e4 σ4 F4 H4 A4 g4 s4 h4 => eo.nx e4 σ4 F4 H4 A4 g4 ((s1.trans s13).trans s4) h4, fun e4 σ4 F4 H4 A4 g4 s4 h4 => ⟨e4, F4, A4, g4, s13.trans s4, h4⟩, ?_, eo.ex.step (s1.trans s13)⟩
    exact fun v o e4 σ4 F4 H4 A4 C4 g4 s4 r4 h4 => eo.rt v o e4 σ4 F4 H4 A4 C4 g4 ((s1.trans s13).trans s4) r4 h4
end
def dWhileGo (c : DTT) (body : DTS) (DD : DEnds) : Nat → DEnv → Prop
  | 0, _ => False
  | n + 1, env => c env (fun b env1 => if b = true then body { DD with nx := dWhileGo c body DD n, ct := dWhileGo c body DD n, bk := DD.nx } env1 else DD.nx env1) DD.ex
def dWhile (c : DTT) (body : DTS) : DTS := fun DD env => ∃ n, dWhileGo c body DD n env
theorem sim_while {W : WX} {tc : TT} {dc : DTT} {tb : TS} {db : DTS} (hc : SimT W tc dc) (hb : SimS W tb db) : SimS W (tWhile tc tb) (dWhile dc db) := by
  intro F H env σ A E DD g h eo
  obtain ⟨n, h⟩ := h
  refine ⟨fun m σ' H' => ∃ env' F' A', Good F' H' env' σ' A' ∧ Step F H env σ A F' H' env' σ' A' ∧ dWhileGo dc db DD m env', ⟨n, env, F, A, g, .refl, h⟩, ?_⟩
  rintro m σ' H' ⟨env', F', A', g', s', h'⟩
  cases m with
  | zero => exact h'.elim
  | succ m =>
    refine hc F' H' env' σ' A' _ _ _ g' h' (eo.ex.step s') fun b env1 F1 H1 A1 g1 s1 h1 => ?_
    have s01 := s'.trans s1
    cases b with
    | false =>
      rw [if_neg Bool.false_ne_true] at h1 ⊢
      exact eo.nx env1 σ' F1 H1 A1 g1 s01 h1
    | true =>
      rw [if_pos rfl] at h1 ⊢
      refine ⟨fun σ2 H2 => ∃ env2 F2 A2, Good F2 H2 env2 σ2 A2 ∧ Step F H env σ A F2 H2 env2 σ2 A2 ∧ dWhileGo dc db DD m env2, fun σ2 H2 q => ⟨m, Nat.lt_succ_self m, q⟩, ?_⟩
      refine hb F1 H1 env1 σ' A1 _ _ g1 h1 ⟨fun e4 σ4 F4 H4 A4 g4 s4 h4 => ⟨e4, F4, A4, g4, s01.trans s4, h4⟩, fun e4 σ4 F4 H4 A4 g4 s4 h4 => eo.nx e4 σ4 F4 H4 A4 g4 (s01.trans s4) h4, fun e4 σ4 F4 H4 A4 g4 s4 h4 => ⟨e4, F4, A4, g4, s01.trans s4, h4⟩, ?_, eo.ex.step s01⟩
      exact fun v o e4 σ4 F4 H4 A4 C4 g4 s4 r4 h4 => eo.rt v o e4 σ4 F4 H4 A4 C4 g4 (s01.trans s4) r4 h4
/-! ### comprehensions -/
def keepS : S → S
  | .ow (.fr d) => .ow (.fr d)
  | _ => .un
def S.isBo : S → Bool
  | .bo _ => true
  | _ => false
def wipeD (env : DEnv) : List Nat → DEnv
  | [] => env
  | v :: vs => (wipeD env vs).set v .un
def backD (env0 env : DEnv) : List Nat → DEnv
  | [] => env
  | v :: vs => match env0[v]? with
    | some s => (backD env0 env vs).set v (keepS s)
    | none => backD env0 env vs
def noBo (env : DEnv) (vs : List Nat) : Prop := vs.all (fun v => match env[v]? with
  | some s => !s.isBo
  | none => false) = true
def dLcGo (g : DG) (tt : DTT) (te : DTE) (vs : List Nat) (P : List O → DEnv → Prop) (X : DX) : List D → List O → DEnv → Prop
  | [], acc, env => P acc env
  | d :: r, acc, env => noBo env vs ∧ g (.fr d) (wipeD env vs) (fun env1 => tt env1 (fun b env2 => if b = true then te env2 (fun q env3 => toO q env3 fun o env4 => acc.length < sizeLine ∧ dLcGo g tt te vs P X r (acc ++ [o]) (backD env env4 vs)) (fun e _ => X e env) else dLcGo g tt te vs P X r acc (backD env env2 vs)) (fun e _ => X e env)) (fun e _ => X e env)
/-- an error does not leave a comprehension -/
def dLc (di : DTI) (g : DG) (tt : DTT) (te : DTE) (vs : List Nat) : DTE := fun env P X => di env (fun ds env1 => dLcGo g tt te vs (fun acc env2 => P (.o (.lst acc)) env2) (fun _ _ => False) ds [] env1) X
theorem wipe_get (σ : L2.St) : ∀ (vs : List Nat) (j : Nat), (wipe σ vs)[j]? = if j ∈ vs then (if j < σ.length then some none else none) else σ[j]?
  | [], j => by rw [if_neg List.not_mem_nil]; rfl
  | v :: vs, j => by
    show ((wipe σ vs).set v none)[j]? = _
    by_cases e : v = j
    · subst e
      rw [if_pos List.mem_cons_self]
      by_cases hl : v < σ.length
      · rw [if_pos hl, List.getElem?_set_self (by rw [wipe_length]; exact hl)]
      · rw [if_neg hl]
        exact List.getElem?_eq_none_iff.mpr (by rw [List.length_set, wipe_length]; omega)
    · rw [List.getElem?_set_ne e, wipe_get σ vs j]
      by_cases m : j ∈ vs
      · rw [if_pos m, if_pos (List.mem_cons_of_mem _ m)]
      · rw [if_neg m, if_neg (fun z => (List.mem_cons.mp z).elim (fun z => e z.symm) m)]
theorem wipe_eq {σ σ2 : L2.St} {vs : List Nat} (hl : σ2.length = σ.length) (h : ∀ j, j ∉ vs → σ2[j]? = σ[j]?) : wipe σ2 vs = wipe σ vs := by
  refine List.ext_getElem? fun j => ?_
  rw [wipe_get, wipe_get, hl]
  by_cases m : j ∈ vs
  · rw [if_pos m, if_pos m]
  · rw [if_neg m, if_neg m]
    exact h j m
theorem wipe_out {σ : L2.St} {vs : List Nat} {j : Nat} (m : j ∉ vs) : (wipe σ vs)[j]? = σ[j]? := by rw [wipe_get, if_neg m]
/-- some slots forgotten -/
theorem Good.unS {F H : Hp} {env : DEnv} {σ : L2.St} {A : List Addr} (g : Good F H env σ A) (i : Nat) (v : Option V) : ∃ A', Good F H (env.set i .un) (σ.set i v) A' ∧ ∀ a ∈ A', a ∈ A := by
  cases e : env[i]? with
  | none =>
    have hl : env.length ≤ i := List.getElem?_eq_none_iff.mp e
    rw [List.set_eq_of_length_le hl, List.set_eq_of_length_le (by rw [g.rep.len]; exact hl)]
    exact ⟨A, g, fun _ h => h⟩
  | some s =>
    obtain ⟨w, B, R, h1, h2, h3, h4⟩ := g.rep.out e
    obtain ⟨A', p1, p2⟩ := RepS.put (s := .un) (v := v) (B := []) rfl h4 (get_set e)
    rw [List.set_set, List.nil_append] at *
    have nd : (B ++ R).Nodup := h3.nodup_iff.mp g.nd
    have mm : ∀ a ∈ A', a ∈ A := fun a m => h3.mem_iff.mpr (List.mem_append_right _ (p1.mem_iff.mp m))
    exact ⟨A', ⟨g.sub, p2, p1.nodup_iff.mpr (nodup_r nd), fun a m => g.dis a (mm a m)⟩, mm⟩
theorem Good.wipe {F H : Hp} {env : DEnv} {σ : L2.St} {A : List Addr} (g : Good F H env σ A) : ∀ vs : List Nat, ∃ A', Good F H (wipeD env vs) (L2.wipe σ vs) A' ∧ ∀ a ∈ A', a ∈ A
  | [] => ⟨A, g, fun _ h => h⟩
  | v :: vs => by
    obtain ⟨A1, g1, m1⟩ := g.wipe vs
    obtain ⟨A2, g2, m2⟩ := g1.unS v none
    exact ⟨A2, g2, fun a m => m1 a (m2 a m)⟩
/-- the slots put back: σ0 held env0 -/
theorem Good.back {F H F0 H0 : Hp} {env env0 : DEnv} {σ σ0 : L2.St} {A A0 : List Addr} (g : Good F H env σ A) (g0 : Good F0 H0 env0 σ0 A0) (s : Sm F0 F) : ∀ vs : List Nat, (∀ v ∈ vs, ∃ s, env0[v]? = some s ∧ v < env.length) →
    ∃ A' σ', Good F H (backD env0 env vs) σ' A' ∧ (∀ a ∈ A', a ∈ A) ∧ σ'.length = σ.length ∧ (∀ j, j ∉ vs → σ'[j]? = σ[j]?) ∧ (∀ j ∈ vs, σ'[j]? = σ0[j]?) ∧ (backD env0 env vs).length = env.length ∧ (∀ j, j ∉ vs → (backD env0 env vs)[j]? = env[j]?)
  | [], _ => ⟨A, σ, g, fun _ h => h, rfl, fun _ _ => rfl, fun _ h => (nomatch h), rfl, fun _ _ => rfl⟩
  | v :: vs, hv => by
    obtain ⟨A1, σ1, g1, m1, l1, j1, k1, e1, e2⟩ := g.back g0 s vs fun u hu => hv u (List.mem_cons_of_mem _ hu)
    obtain ⟨s0, h0, hl⟩ := hv v List.mem_cons_self
    obtain ⟨w, B, R, q1, q2, q3, q4⟩ := g0.rep.out h0
    have eb : backD env0 env (v :: vs) = (backD env0 env vs).set v (keepS s0) := by
      show (match env0[v]? with
        | some s => (backD env0 env vs).set v (keepS s)
        | none => backD env0 env vs) = _
      rw [h0]
    rw [eb]
    have hv1 : v < (backD env0 env vs).length := by rw [e1]; exact hl
    obtain ⟨sv, hsv⟩ : ∃ sv, (backD env0 env vs)[v]? = some sv := ⟨_, List.getElem?_eq_getElem hv1⟩
    obtain ⟨w', B', R', z1, z2, z3, z4⟩ := g1.rep.out hsv
    have hrep : RepSl F H (keepS s0) w [] := by
      cases s0 with
      | un => rfl
      | bo o => rfl
      | ow o =>
        cases o with
        | fr d =>
          obtain ⟨x, ex, eB, rd⟩ := q2
          exact ⟨x, ex, rfl, rd.mono s⟩
        | _ => rfl
    obtain ⟨A2, p1, p2⟩ := RepS.put hrep z4 (get_set hsv)
    rw [List.set_set, List.nil_append] at *
    have nd : (B' ++ R').Nodup := z3.nodup_iff.mp g1.nd
    have mm : ∀ a ∈ A2, a ∈ A1 := fun a m => z3.mem_iff.mpr (List.mem_append_right _ (p1.mem_iff.mp m))
    have ls : v < σ1.length := by rw [g1.rep.len]; exact hv1
    refine ⟨A2, σ1.set v w, ⟨g1.sub, p2, p1.nodup_iff.mpr (nodup_r nd), fun a m => g1.dis a (mm a m)⟩, fun a m => m1 a (mm a m), by rw [List.length_set, l1], fun j hj => ?_, fun j hj => ?_, by rw [List.length_set, e1], fun j hj => ?_⟩
    · rw [List.getElem?_set_ne (fun z => hj (by rw [z]; exact List.mem_cons_self))]
      exact j1 j fun z => hj (List.mem_cons_of_mem _ z)
    · by_cases e : v = j
      · subst e
        rw [List.getElem?_set_self ls, q1]
      · rw [List.getElem?_set_ne e]
        exact k1 j ((List.mem_cons.mp hj).elim (fun z => absurd z.symm e) id)
    · rw [List.getElem?_set_ne (fun z => hj (by rw [z]; exact List.mem_cons_self))]
      exact e2 j fun z => hj (List.mem_cons_of_mem _ z)
theorem noBo_of {env : DEnv} {vs : List Nat} (h : noBo env vs) {v : Nat} (hv : v ∈ vs) {o : O} (e : env[v]? = some (.bo o)) : False := by
  have := List.all_eq_true.mp h v hv
  rw [e] at this
  exact absurd this (by simp [S.isBo])
theorem noBo_there {env : DEnv} {vs : List Nat} (h : noBo env vs) {v : Nat} (hv : v ∈ vs) : ∃ s, env[v]? = some s := by
  have := List.all_eq_true.mp h v hv
  cases e : env[v]? with
  | none => rw [e] at this; exact absurd this (by simp)
  | some s => exact ⟨s, rfl⟩
theorem wipeD_out (env : DEnv) : ∀ (vs : List Nat) {j : Nat}, j ∉ vs → (wipeD env vs)[j]? = env[j]?
  | [], _, _ => rfl
  | v :: vs, j, m => by
    show ((wipeD env vs).set v .un)[j]? = _
    rw [List.getElem?_set_ne (fun z => m (by rw [z]; exact List.mem_cons_self))]
    exact wipeD_out env vs fun z => m (List.mem_cons_of_mem _ z)
theorem Step.out {F H F' H' : Hp} {env env' : DEnv} {σ σ' : L2.St} {A A' C : List Addr} {o : O} {x : V} (s : Step F H env σ A F' H' env' σ' A') (h : RepO F H o x C) (hC : ∀ a ∈ C, a ∉ A ∧ F a = none) : RepO F' H' o x C ∧ ∀ a ∈ C, a ∉ A' ∧ F' a = none := by
  refine ⟨h.stay ⟨s.f, fun a m o e => s.keep a o e (own_tbl (h.kind a m) e) (hC a m).1 (hC a m).2⟩, fun a m => ⟨fun z => ?_, ?_⟩⟩
  · rcases s.anew a z with q | q
    · exact (hC a m).1 q
    · exact h.there a m q
  · cases q : F' a with
    | none => rfl
    | some u =>
      rcases s.fnew a (by rw [q]; exact Option.some_ne_none _) with z | z | z
      · exact absurd (hC a m).2 z
      · exact absurd z (hC a m).1
      · exact absurd z (h.there a m)
theorem RepOL.app {F H : Hp} : ∀ {os us : List O} {xs ys : List V} {A B : List Addr}, RepOL F H os xs A → RepOL F H us ys B → RepOL F H (os ++ us) (xs ++ ys) (A ++ B)
  | [], _, _, _, _, _, ⟨e, eA⟩, k => by rw [e, eA]; exact k
  | o :: os, _, _, _, _, _, ⟨x, r, B, C, e, eA, h, t⟩, k => ⟨x, _, B, _, by rw [e]; rfl, by rw [eA, List.append_assoc], h, RepOL.app t k⟩
theorem RepOL.len {F H : Hp} : ∀ {os : List O} {xs : List V} {A : List Addr}, RepOL F H os xs A → xs.length = os.length
  | [], _, _, ⟨e, _⟩ => by rw [e]; rfl
  | o :: os, _, _, ⟨x, r, B, C, e, _, _, t⟩ => by rw [e, List.length_cons, List.length_cons, RepOL.len t]
/-- behind a turn of a comprehension -/
theorem lc_back {F H F2 H2 F3 H3 : Hp} {env env3 : DEnv} {σ σ2 : L2.St} {A Aw A3 : List Addr} {vs : List Nat} (g : Good F H env σ A) (nb : noBo env vs) (x1 : Ext F H F2 H2 []) (gw : Good F2 H2 (wipeD env vs) (L2.wipe σ vs) Aw) (mw : ∀ a ∈ Aw, a ∈ A)
    {B : List Addr} (s : Step F2 H2 (wipeD env vs) (L2.wipe σ vs) Aw F3 H3 env3 σ2 (A3 ++ B)) (g3 : Good F3 H3 env3 σ2 A3) (hl : σ2.length = σ.length) (hj : ∀ j, j ∉ vs → σ2[j]? = σ[j]?) (he : env3.length = env.length) :
    ∃ A4, Good F3 H3 (backD env env3 vs) σ A4 ∧ Step F H env σ A F3 H3 (backD env env3 vs) σ (A4 ++ B) ∧ ∀ a ∈ A4, a ∈ A3 := by
  obtain ⟨A4, σ', g4, m4, l4, j4, k4, e4, b4⟩ := g3.back g (x1.f.trans s.f) vs fun v hv => by
    obtain ⟨s0, h0⟩ := noBo_there nb hv
    exact ⟨s0, h0, by rw [he]; exact (List.getElem?_eq_some_iff.mp h0).1⟩
  have es : σ' = σ := List.ext_getElem? fun j => by
    by_cases m : j ∈ vs
    · exact k4 j m
    · rw [j4 j m, hj j m]
  subst es
  refine ⟨A4, g4, ⟨x1.f.trans s.f, fun a o h nt n f => s.keep a o (x1.hx a o h nt f) nt (fun z => n (mw a z)) (x1.fno f h), fun a z => x1.h.free (s.free a z), fun a m => ?_, fun a z => ?_, fun i o hi => ?_⟩, m4⟩
  · have m' : a ∈ A3 ++ B := (List.mem_append.mp m).elim (fun m => List.mem_append_left _ (m4 a m)) fun m => List.mem_append_right _ m
    exact (s.anew a m').elim (fun z => .inl (mw a z)) fun z => .inr (x1.h.free z)
  · rcases s.fnew a z with q | q | q
    · exact (x1.fnew a q).elim .inl fun q => .inr (.inr q)
    · exact .inr (.inl (mw a q))
    · exact .inr (.inr (x1.h.free q))
  · have ni : i ∉ vs := fun z => noBo_of nb z hi
    obtain ⟨o', h1, h2⟩ := s.bor i o (by rw [wipeD_out env vs ni]; exact hi)
    exact ⟨o', by rw [b4 i ni]; exact h1, rfl⟩
theorem wipeD_len (env : DEnv) : ∀ vs : List Nat, (wipeD env vs).length = env.length
  | [] => rfl
  | v :: vs => by
    show ((wipeD env vs).set v .un).length = _
    rw [List.length_set, wipeD_len env vs]
theorem sim_lc {W : WX} {js vs : List Nat} {wi : TI} {di : DTI} {tg : TG} {dg : DG} {tt : TT} {dt : DTT} {te : TE} {de : DTE} (hi : SimI W wi di) (hg : SimG W js tg dg) (ht : SimT W tt dt) (he : SimE W te de) (hjs : ∀ j ∈ js, j ∈ vs) : SimE W (tLc wi tg tt te vs) (dLc di dg dt de vs) := by
  intro F H env σ A Q P X g h xo k
  refine hi F H env σ A _ _ _ g h xo fun J ds env1 F1 H1 A1 g1 s1 io h1 => ?_
  intro D nD
  have x0 := ext_own (o := .lst []) g1.sub nD
  have g0 := x0.good g1
  refine ⟨fun i m H' => m + i = ds.length ∧ ∃ env' F' A' acc C, Good F' H' env' σ A' ∧ Step F1 H1 env1 σ A1 F' H' env' σ (A' ++ C) ∧ RepR F' H' σ A' (.o (.lst acc)) (.ref D) C ∧ dLcGo dg dt de vs (fun acc env2 => P (.o (.lst acc)) env2) (fun _ _ => False) (ds.drop i) acc env',
    ⟨ds.length, rfl, env1, F1, A1, [], [D], g0, x0.step, .new g1 x0 (o := .lst []) ⟨D, [], [], rfl, rfl, upd_same, rfl, rfl⟩ (List.nodup_cons.mpr ⟨List.not_mem_nil, List.nodup_nil⟩) (fun a m => by rw [List.mem_singleton.mp m]; exact g1.sub.free nD), h1⟩, ?_⟩
  rintro i m H' ⟨hm, env', F', A', acc, C, g', s', rC, h'⟩
  cases e : ds[i]? with
  | none =>
    have hl : ds.length ≤ i := List.getElem?_eq_none_iff.mp e
    rw [List.drop_eq_nil_of_le hl] at h'
    exact .inl ⟨(io F' H' i s'.f g'.sub).2 hl, k (.ref D) (.o (.lst acc)) env' F' H' A' C g' (s1.trans s') rC h'⟩
  | some d =>
    have hi := (List.getElem?_eq_some_iff.mp e).1
    obtain ⟨go, yl⟩ := (io F' H' i s'.f g'.sub).1 d e
    have ed : ds.drop i = d :: ds.drop (i + 1) := by
      rw [List.drop_eq_getElem_cons hi]
      rw [(List.getElem?_eq_some_iff.mp e).2]
    rw [ed] at h'
    obtain ⟨nb, h'⟩ := h'
    refine .inr ⟨go, fun H2 => ∃ env2 F2 A2 acc2 C2, Good F2 H2 env2 σ A2 ∧ Step F1 H1 env1 σ A1 F2 H2 env2 σ (A2 ++ C2) ∧ RepR F2 H2 σ A2 (.o (.lst acc2)) (.ref D) C2 ∧ dLcGo dg dt de vs (fun acc env2 => P (.o (.lst acc)) env2) (fun _ _ => False) (ds.drop (i + 1)) acc2 env2,
      fun H2 q => ⟨m - 1, by omega, by omega, q⟩, fun x H'' hy => ?_⟩
    obtain ⟨F'', x1, rd⟩ := yl x H'' hy
    have g2 := x1.good g'
    obtain ⟨Aw, gw, mw⟩ := g2.wipe vs
    have rC2 := rC.ext x1
    have hC : ∀ a ∈ C, a ∉ Aw ∧ F'' a = none := fun a m => ⟨fun z => nodup_d rC2.2.1 (mw a z) m, rC2.2.2 a m⟩
    have xoF : ∀ (F H : Hp) (env : DEnv) (σ : L2.St) (A : List Addr), XOk F H env σ A W (fun e _ => False) := fun _ _ _ _ _ _ _ _ _ _ _ _ _ _ _ _ q => q.elim
    refine hg F'' H'' (wipeD env' vs) (L2.wipe σ vs) Aw [] x (.fr d) _ _ _ gw (.dat gw rd) h' (xoF _ _ _ _ _) fun env3 σ3 F3 H3 A3 g3 s3 l3 j3 h3 => ?_
    rw [List.append_nil] at s3
    have l3' : σ3.length = σ.length := by rw [l3, wipe_length]
    have j3' : ∀ j, j ∉ vs → σ3[j]? = σ[j]? := fun j hj => (j3 j fun z => hj (hjs j z)).trans (wipe_out hj)
    refine ⟨wipe_eq l3' j3', ?_⟩
    refine ht F3 H3 env3 σ3 A3 _ _ _ g3 h3 (xoF _ _ _ _ _) fun b env4 F4 H4 A4 g4 s4 h4 => ?_
    have s34 := s3.trans s4
    have eb : env'.length = σ.length := g'.rep.len.symm
    cases b with
    | false =>
      rw [if_neg Bool.false_ne_true] at h4 ⊢
      obtain ⟨A5, g5, s5, m5⟩ := lc_back (B := []) g' nb x1 gw mw (by rw [List.append_nil]; exact s34) g4 l3' j3' (by rw [eb, ← l3']; exact g4.rep.len.symm)
      rw [List.append_nil] at s5
      obtain ⟨q1, q2⟩ := s34.out rC2.1 hC
      refine ⟨_, F4, A5, acc, C, g5, s'.trans ⟨s5.f, fun a o h nt n f => s5.keep a o h nt (fun z => n (List.mem_append_left _ z)) f, s5.free, fun a m => ?_, fun a z => ?_, s5.bor⟩, ⟨q1, ?_, fun a m => (q2 a m).2⟩, h4⟩
      · rcases List.mem_append.mp m with m | m
        · exact (s5.anew a m).elim (fun z => .inl (List.mem_append_left _ z)) .inr
        · exact .inl (List.mem_append_right _ m)
      · rcases s5.fnew a z with z | z | z
        · exact .inl z
        · exact .inr (.inl (List.mem_append_left _ z))
        · exact .inr (.inr z)
      · exact List.nodup_append.mpr ⟨g5.nd, nodup_r rC.2.1, fun a ha b hb z => by subst z; exact (q2 a hb).1 (m5 a ha)⟩
    | true =>
      rw [if_pos rfl] at h4 ⊢
      refine he F4 H4 env4 σ3 A4 _ _ _ g4 h4 (xoF _ _ _ _ _) fun y r env5 F5 H5 A5 C5 g5 s5 r5 h5 => ?_
      obtain ⟨F6, A6, o, env6, C6, h6, g6, s6, r6⟩ := toO_ok g5 r5 h5
      obtain ⟨hz, h6⟩ := h6
      have s36 := s34.trans (s5.trans s6)
      obtain ⟨q1, q2⟩ := s36.out rC2.1 hC
      obtain ⟨D', xs, Bc, eD, eC, hxs, rl⟩ := q1
      cases eD
      refine ⟨xs, hxs, by rw [rl.len]; exact hz, ?_⟩
      have nDF : F6 D = none := (q2 D (by rw [eC]; exact List.mem_cons_self)).2
      have nDA : D ∉ A6 ++ C6 := (q2 D (by rw [eC]; exact List.mem_cons_self)).1
      have ndC := nodup_r rC.2.1
      rw [eC] at ndC
      have nDB := (List.nodup_cons.mp ndC).1
      have g7 : Good F6 (upd H5 D (.lst (xs ++ [y]))) env6 σ3 A6 := ⟨same_own g6.sub nDF, g6.rep.stay ⟨.refl _, fun a m o e => by rw [upd_ne (fun z => nDA (by rw [← z]; exact List.mem_append_left _ m))]; exact e⟩, g6.nd, g6.dis⟩
      obtain ⟨A7, g8, s8, m8⟩ := lc_back (B := C6) (H3 := H5) g' nb x1 gw mw s36 g6 l3' j3' (by rw [eb, ← l3']; exact g6.rep.len.symm)
      have nD7 : D ∉ A7 := fun z => nDA (List.mem_append_left _ (m8 D z))
      have g9 : Good F6 (upd H5 D (.lst (xs ++ [y]))) (backD env' env6 vs) σ A7 := ⟨g7.sub, g8.rep.stay ⟨.refl _, fun a m o e => by rw [upd_ne (fun z => nD7 (by rw [← z]; exact m))]; exact e⟩, g8.nd, g8.dis⟩
      have ro : RepO F6 (upd H5 D (.lst (xs ++ [y]))) (.lst (acc ++ [o])) (.ref D) (D :: (Bc ++ (C6 ++ []))) :=
        ⟨D, _, _, rfl, rfl, upd_same, (rl.stay ⟨.refl _, fun a m o e => by rw [upd_ne (fun z => nDB (by rw [← z]; exact m))]; exact e⟩).app ⟨y, [], C6, [], rfl, rfl, r6.1.stay ⟨.refl _, fun a m o e => by rw [upd_ne (fun z => nDA (by rw [← z]; exact List.mem_append_right _ m))]; exact e⟩, rfl, rfl⟩⟩
      have mC : ∀ a ∈ D :: (Bc ++ (C6 ++ [])), a ∈ C ∨ a ∈ C6 := fun a m => by
        rcases List.mem_cons.mp m with m | m
        · exact .inl (by rw [m, eC]; exact List.mem_cons_self)
        · rcases List.mem_append.mp m with m | m
          · exact .inl (by rw [eC]; exact List.mem_cons_of_mem _ m)
          · rw [List.append_nil] at m
            exact .inr m
      refine ⟨_, F6, A7, acc ++ [o], D :: (Bc ++ (C6 ++ [])), g9, s'.trans ⟨s8.f, fun a o h nt n f => ?_, fun a z => s8.free a (upd_free z), fun a m => ?_, fun a z => ?_, s8.bor⟩, ⟨ro, ?_, fun a m => ?_⟩, h6⟩
      · rw [upd_ne (fun z => n (List.mem_append_right _ (by rw [z, eC]; exact List.mem_cons_self)))]
        exact s8.keep a o h nt (fun z => n (List.mem_append_left _ z)) f
      · rcases List.mem_append.mp m with m | m
        · exact (s8.anew a (List.mem_append_left _ m)).elim (fun z => .inl (List.mem_append_left _ z)) .inr
        · rcases mC a m with m | m
          · exact .inl (List.mem_append_right _ m)
          · exact (s8.anew a (List.mem_append_right _ m)).elim (fun z => .inl (List.mem_append_left _ z)) .inr
      · rcases s8.fnew a z with z | z | z
        · exact .inl z
        · exact .inr (.inl (List.mem_append_left _ z))
        · exact .inr (.inr z)
      · have ndB : (D :: (Bc ++ (C6 ++ []))).Nodup := by
          rw [List.append_nil]
          refine List.nodup_cons.mpr ⟨fun m => ?_, List.nodup_append.mpr ⟨(List.nodup_cons.mp ndC).2, nodup_r r6.2.1, fun a ha b hb z => ?_⟩⟩
          · rcases List.mem_append.mp m with m | m
            · exact nDB m
            · exact nDA (List.mem_append_right _ m)
          · subst z
            exact (q2 a (by rw [eC]; exact List.mem_cons_of_mem _ ha)).1 (List.mem_append_right _ hb)
        refine List.nodup_append.mpr ⟨g9.nd, ndB, fun a ha b hb z => ?_⟩
        subst z
        rcases mC a hb with m | m
        · exact (q2 a m).1 (List.mem_append_left _ (m8 a ha))
        · exact nodup_d r6.2.1 (m8 a ha) m
      · rcases mC a m with m | m
        · exact (q2 a m).2
        · exact r6.2.2 a m

/-! ### sources of a walk -/
def dIter (da : DTE) : DTI := fun env P X => da env (fun r env1 => force r env1 fun d env2 => match d with
  | .lst ds => P ds env2
  | .tup ds => P ds env2
  | _ => False) X
def iSeq (K : PySem.W.Frag) (te : TE) : TI := fun σ H R => te σ H fun x H1 => ∃ a, x = .ref a ∧ (((∃ xs, SqL K H1 a xs) ∧ R (Itl K a) H1) ∨ ((∃ xs, SqT K H1 a xs) ∧ R (Itt K a) H1))
theorem pi_seq {X : Cx} {tg l : Expr} {tl : TE} (hl : PE X l tl) : PI X tg l (iSeq X.K tl) := by
  refine ⟨fun pins s σ H R I h => ?_⟩
  refine thn (hl.run pins s σ H _ I h) fun v s1 ⟨x, H1, I1, r1, q1⟩ => ?_
  obtain ⟨a, e, q⟩ := q1
  subst e
  cases r1
  rcases q with ⟨⟨xs, hq⟩, q⟩ | ⟨⟨xs, hq⟩, q⟩
  · obtain ⟨its, rv, p, hz⟩ := I1.list hq
    refine wpAny_pyIter_list p.isList ?_
    refine ⟨s1.heap.objs.size, [s1.heap.objs.size], _, _, H1, rfl, I1.kept (t' := s1.toks) fun b o e => Heap.get?_push_of_some _ e, turn_list a _, ⟨_, Heap.get?_push_size _ rfl, rfl, rfl⟩, fun b hb => ?_, q⟩
    have e : b = s1.heap.objs.size := by simpa using hb
    subst e
    exact I1.fpOk (Nat.le_refl _) (I1.hok.fresh (Nat.le_refl _))
  · obtain ⟨its, rv, p, hz⟩ := I1.tuple hq
    refine wpAny_pyIter_tuple (show s1.heap.IsTuple a its.toArray from p) ?_
    refine ⟨s1.heap.objs.size, [s1.heap.objs.size], _, _, H1, rfl, I1.kept (t' := s1.toks) fun b o e => Heap.get?_push_of_some _ e, turn_tuple a _, ⟨_, Heap.get?_push_size _ rfl, rfl, rfl⟩, fun b hb => ?_, q⟩
    have e : b = s1.heap.objs.size := by simpa using hb
    subst e
    exact I1.fpOk (Nat.le_refl _) (I1.hok.fresh (Nat.le_refl _))
def rgD (lo : Int) (n : Nat) : List D := (List.range n).map fun (k : Nat) => D.int (lo + (k : Nat))
def dRng1 (da : DTA) : DTI := fun env P X => da env (fun rs env1 => oth (peekL rs env1) fun ds => match ds with
  | [.int j] => -(2 ^ 62) ≤ j ∧ j < 2 ^ 62 ∧ P (rgD 0 j.toNat) env1
  | _ => False) X
def dRng2 (da : DTA) : DTI := fun env P X => da env (fun rs env1 => oth (peekL rs env1) fun ds => match ds with
  | [.int i, .int j] => (-(2 ^ 62) ≤ i ∧ i < 2 ^ 62 ∧ -(2 ^ 62) ≤ j ∧ j < 2 ^ 62) ∧ P (rgD i (j - i).toNat) env1
  | _ => False) X
section
variable {W : WX} {K : PySem.W.Frag} {te : TE} {de : DTE} {ta : TA} {da : DTA}
theorem iterOk_rng {F : Hp} {lo : Int} {n : Nat} : IterOk F (Itr lo n) (rgD lo n) := fun F' H' i s1 s2 => by
  have hl : (rgD lo n).length = n := by unfold rgD; rw [List.length_map, List.length_range]
  refine ⟨fun d e => ?_, fun h => by rw [hl] at h; exact h⟩
  have hi : i < n := by rw [← hl]; exact (List.getElem?_eq_some_iff.mp e).1
  have ed : d = .int (lo + (i : Nat)) := by
    unfold rgD at e
    rw [List.getElem?_map, List.getElem?_range hi] at e
    exact (Option.some.inj e).symm
  refine ⟨hi, fun x H'' ⟨e1, e2⟩ => ⟨F', ?_, ?_⟩⟩
  · rw [e1]; exact .refl s2
  · rw [ed, e2]; rfl
theorem sim_seq_it (he : SimE W te de) : SimI W (iSeq K te) (dIter de) := by
  intro F H env σ A Q P X g h xo k
  refine he F H env σ A _ _ X g h xo fun x r env1 F1 H1 A1 C1 g1 s1 rr1 h1 => ?_
  obtain ⟨F2, A2, d, env2, h2, g2, s2, rp⟩ := force_ok g1 rr1 h1
  cases d with
  | lst ds =>
    obtain ⟨a, xs, ex, hf, rl⟩ := rp
    refine ⟨a, ex, .inl ⟨⟨xs, SqL.of (g2.sub _ _ hf)⟩, k _ ds env2 F2 H1 A2 g2 (s1.trans s2) (fun F' H' i z1 z2 => ⟨fun d e => ?_, fun hl => ⟨xs, SqL.of (z2 _ _ (z1.ex rfl hf)), by rw [rl.length]; exact hl⟩⟩) h2⟩⟩
    obtain ⟨x, hx, rx⟩ := rl.get e
    refine ⟨⟨xs, x, SqL.of (z2 _ _ (z1.ex rfl hf)), hx⟩, fun y H'' ⟨e1, e2⟩ => ⟨F', by rw [e1]; exact .refl z2, ?_⟩⟩
    have := e2 xs (SqL.of (z2 _ _ (z1.ex rfl hf)))
    rw [hx] at this
    cases this
    exact rx.mono z1
  | tup ds =>
    obtain ⟨a, xs, ex, hf, rl⟩ := rp
    refine ⟨a, ex, .inr ⟨⟨xs, SqT.of (g2.sub _ _ hf)⟩, k _ ds env2 F2 H1 A2 g2 (s1.trans s2) (fun F' H' i z1 z2 => ⟨fun d e => ?_, fun hl => ⟨xs, SqT.of (z2 _ _ (z1.ex rfl hf)), by rw [rl.length]; exact hl⟩⟩) h2⟩⟩
    obtain ⟨x, hx, rx⟩ := rl.get e
    refine ⟨⟨xs, x, SqT.of (z2 _ _ (z1.ex rfl hf)), hx⟩, fun y H'' ⟨e1, e2⟩ => ⟨F', by rw [e1]; exact .refl z2, ?_⟩⟩
    have := e2 xs (SqT.of (z2 _ _ (z1.ex rfl hf)))
    rw [hx] at this
    cases this
    exact rx.mono z1
  | _ => exact h2.elim
theorem repPL_1 {F H : Hp} {d : D} {xs : List V} (h : RepPL F H [d] xs) : ∃ x, xs = [x] ∧ RepP F H d x := by
  obtain ⟨x, r, e, q, t⟩ := h
  exact ⟨x, by rw [e, show r = [] from t], q⟩
theorem repPL_2 {F H : Hp} {d e : D} {xs : List V} (h : RepPL F H [d, e] xs) : ∃ x y, xs = [x, y] ∧ RepP F H d x ∧ RepP F H e y := by
  obtain ⟨x, r, e, q, t⟩ := h
  obtain ⟨y, e2, q2⟩ := repPL_1 t
  exact ⟨x, y, by rw [e, e2], q, q2⟩
theorem sim_rng1 (ha : SimA W ta da) : SimI W (iRng1 ta) (dRng1 da) := by
  intro F H env σ A Q P X g h xo k
  refine ha F H env σ A _ _ X g h xo fun xs rs env1 F1 H1 A1 C1 g1 s1 rr1 h1 => ?_
  obtain ⟨ds, e1, h2⟩ := oth_ok h1
  have rp := peekL_ok g1 rr1 e1
  match ds, h2, rp with
  | [.int j], ⟨b1, b2, h2⟩, rp =>
    obtain ⟨x, ex, rx⟩ := repPL_1 rp
    exact ⟨j, by rw [ex, show x = _ from rx], b1, b2, k _ _ env1 F1 H1 A1 g1 (s1.mem fun a m => List.mem_append_left _ m) iterOk_rng h2⟩
theorem sim_rng2 (ha : SimA W ta da) : SimI W (iRng2 ta) (dRng2 da) := by
  intro F H env σ A Q P X g h xo k
  refine ha F H env σ A _ _ X g h xo fun xs rs env1 F1 H1 A1 C1 g1 s1 rr1 h1 => ?_
  obtain ⟨ds, e1, h2⟩ := oth_ok h1
  have rp := peekL_ok g1 rr1 e1
  match ds, h2, rp with
  | [.int i, .int j], ⟨b, h2⟩, rp =>
    obtain ⟨x, y, ex, rx, ry⟩ := repPL_2 rp
    exact ⟨i, j, by rw [ex, show x = _ from rx, show y = _ from ry], b, k _ _ env1 F1 H1 A1 g1 (s1.mem fun a m => List.mem_append_left _ m) iterOk_rng h2⟩
end
/-! ### functions -/
abbrev Fn := List O → (O → List O → Prop) → (DExc → List O → Prop) → Prop
def sel {α : Type} : List Bool → List α → List α
  | true :: ms, x :: xs => x :: sel ms xs
  | false :: ms, _ :: xs => sel ms xs
  | _, _ => []
/-- what is handed over by value is data -/
def okArgs : List Bool → List O → Prop
  | true :: ms, _ :: os => okArgs ms os
  | false :: ms, o :: os => (∃ d, o = .fr d) ∧ okArgs ms os
  | [], [] => True
  | _, _ => False
def startS : List Bool → List O → List S
  | true :: ms, o :: os => .bo o :: startS ms os
  | false :: ms, o :: os => .ow o :: startS ms os
  | _, _ => []
def startD (ms : List Bool) (n : Nat) (os : List O) : DEnv := startS ms os ++ List.replicate (n - os.length) .un
def outs : List Bool → DEnv → List O
  | true :: ms, .bo o :: env => o :: outs ms env
  | _ :: ms, _ :: env => outs ms env
  | _, _ => []
def dFn (ms : List Bool) (n : Nat) (body : DTS) : Fn := fun os P PE => os.length = ms.length ∧ body ⟨fun env => P (.fr .non) (outs ms env), fun o env => P o (outs ms env), fun _ => False, fun _ => False, fun e env => PE e (outs ms env)⟩ (startD ms n os)
abbrev Ste (F H : Hp) (A : List Addr) (F' H' : Hp) (A' : List Addr) : Prop := Step F H [] [] A F' H' [] [] A'
/-- what a def promises: what its data reading does -/
def spD (ms : List Bool) (f : Fn) : Sp := fun vs H Q E => ∃ F os B P PE, okArgs ms os ∧ Same F H ∧ RepOL F H os vs B ∧ B.Nodup ∧ (∀ a ∈ B, F a = none) ∧ TabOk F ∧ f os P PE ∧
  (∀ x o ps F' H' B' C, Same F' H' → RepOL F' H' ps (sel ms vs) B' → RepO F' H' o x C → (B' ++ C).Nodup → (∀ a ∈ B' ++ C, F' a = none) → Ste F H B F' H' (B' ++ C) → P o ps → Q x H') ∧
  (∀ e ps cls dd F' H' B', Same F' H' → RepOL F' H' ps (sel ms vs) B' → B'.Nodup → (∀ a ∈ B', F' a = none) → Ste F H B F' H' B' → RepX F' e cls dd → PE e ps → E cls dd H')
theorem okArgs_len : ∀ {ms : List Bool} {os : List O}, okArgs ms os → os.length = ms.length
  | true :: ms, _ :: os, h => by rw [List.length_cons, List.length_cons, okArgs_len (ms := ms) (os := os) h]
  | false :: ms, _ :: os, h => by rw [List.length_cons, List.length_cons, okArgs_len h.2]
  | [], [], _ => rfl
  | true :: _, [], h => h.elim
  | false :: _, [], h => h.elim
  | [], _ :: _, h => h.elim
theorem spD_len {ms : List Bool} {f : Fn} {vs : List V} {H : Hp} {Q : VK} {E : XK} (h : spD ms f vs H Q E) : vs.length = ms.length := by
  obtain ⟨F, os, B, P, PE, h1, h2, h3, _⟩ := h
  rw [h3.len, okArgs_len h1]
theorem repS_start {F H : Hp} : ∀ {ms : List Bool} {os : List O} {vs : List V} {B : List Addr} (n : Nat), TabOk F → okArgs ms os → RepOL F H os vs B → RepS F H (startS ms os ++ List.replicate n .un) (vs.map some ++ List.replicate n none) B
  | [], [], vs, B, 0, tb, _, ⟨e1, e2⟩ => by rw [e1, e2]; exact ⟨rfl, rfl, tb⟩
  | [], [], vs, B, n + 1, tb, _, ⟨e1, e2⟩ => by
    have ih := repS_start (F := F) (H := H) (ms := []) (os := []) (vs := []) (B := []) n tb trivial ⟨rfl, rfl⟩
    rw [e1, e2]
    exact ⟨none, _, [], [], rfl, rfl, rfl, ih⟩
  | true :: ms, o :: os, vs, B, n, tb, h, ⟨x, r, B1, C, e, eB, h1, t⟩ => by
    rw [e]
    exact ⟨some x, _, B1, C, rfl, eB, ⟨x, rfl, h1⟩, repS_start (ms := ms) n tb h t⟩
  | false :: ms, o :: os, vs, B, n, tb, h, ⟨x, r, B1, C, e, eB, h1, t⟩ => by
    rw [e]
    exact ⟨some x, _, B1, C, rfl, eB, ⟨x, rfl, h1⟩, repS_start (ms := ms) n tb h.2 t⟩
  | true :: _, [], _, _, _, _, h, _ => h.elim
  | false :: _, [], _, _, _, _, h, _ => h.elim
  | [], _ :: _, _, _, _, _, h, _ => h.elim
theorem sel_nil {α : Type} : ∀ {ms : List Bool} {vs : List α}, (∀ (i : Nat) (v : α), ms[i]? = some true → vs[i]? = some v → False) → sel ms vs = []
  | [], vs, _ => by unfold sel; rfl
  | true :: ms, [], _ => rfl
  | false :: ms, [], _ => rfl
  | true :: ms, v :: vs, h => (h 0 v rfl rfl).elim
  | false :: ms, v :: vs, h => sel_nil (ms := ms) (vs := vs) fun i w e1 e2 => h (i + 1) w e1 e2
theorem outs_ok {F H : Hp} : ∀ {ms : List Bool} {vs : List V} {env : DEnv} {σ : L2.St} {A : List Addr}, RepS F H env σ A → vs.length = ms.length → (∀ (i : Nat) (v : V), ms[i]? = some true → vs[i]? = some v → (∃ o : O, env[i]? = some (S.bo o)) ∧ σ[i]? = some (some v)) →
    ∃ B, RepOL F H (outs ms env) (sel ms vs) B ∧ B.Sublist A
  | [], vs, env, σ, A, h, hl, hb => by
    cases env with
    | nil => exact ⟨[], ⟨by unfold sel; rfl, rfl⟩, List.nil_sublist _⟩
    | cons s env => exact ⟨[], ⟨by unfold sel; rfl, rfl⟩, List.nil_sublist _⟩
  | m :: ms, [], env, σ, A, h, hl, hb => by cases hl
  | m :: ms, v :: vs, [], σ, A, h, hl, hb => by
    have e0 : outs (m :: ms) [] = [] := by cases m <;> rfl
    rw [e0]
    refine ⟨[], ⟨sel_nil fun i w e1 e2 => ?_, rfl⟩, List.nil_sublist _⟩
    obtain ⟨⟨o, ho⟩, _⟩ := hb i w e1 e2
    simp at ho
  | m :: ms, v :: vs, s :: env, σ, A, ⟨w, r, B, C, e, eA, h1, t⟩, hl, hb => by
    obtain ⟨B', q1, q2⟩ := outs_ok (ms := ms) (vs := vs) t (Nat.succ.inj hl) (fun i v hm hv => by
      have := hb (i + 1) v hm hv
      rw [e] at this
      exact this)
    cases m with
    | false =>
      refine ⟨B', ?_, ?_⟩
      · cases s <;> exact q1
      · rw [eA]; exact q2.trans (List.sublist_append_right _ _)
    | true =>
      obtain ⟨⟨o, ho⟩, hv⟩ := hb 0 v rfl rfl
      rw [e] at hv
      cases hv
      cases ho
      obtain ⟨x, ex, ro⟩ := h1
      cases ex
      refine ⟨B ++ B', ⟨v, _, B, B', rfl, rfl, ro, q1⟩, ?_⟩
      rw [eA]
      exact List.Sublist.append (List.Sublist.refl _) q2
theorem startS_get : ∀ {ms : List Bool} {os : List O} {i : Nat}, okArgs ms os → ms[i]? = some true → ∃ o, (startS ms os)[i]? = some (S.bo o)
  | true :: ms, o :: os, 0, _, _ => ⟨o, rfl⟩
  | true :: ms, o :: os, i + 1, h, e => startS_get (ms := ms) (os := os) (i := i) h e
  | false :: ms, o :: os, 0, _, e => by cases e
  | false :: ms, o :: os, i + 1, h, e => startS_get (ms := ms) (os := os) (i := i) h.2 e
  | [], [], _, _, e => by simp at e
  | true :: _, [], _, h, _ => h.elim
  | false :: _, [], _, h, _ => h.elim
  | [], _ :: _, _, h, _ => h.elim
theorem Step.ste {F H F' H' : Hp} {env env' : DEnv} {σ σ' : L2.St} {A A' : List Addr} (s : Step F H env σ A F' H' env' σ' A') : Ste F H A F' H' A' := ⟨s.f, s.keep, s.free, s.anew, s.fnew, fun _ _ h => by simp at h⟩
/-- a def's walk by its data reading -/
theorem fn_ok {ms : List Bool} {n : Nat} {N : List Str} {t : XK → TS} {d : DTS} {vs : List V} {H : Hp} {Q : VK} {E : XK} (hN : N.length = n) (hs : ∀ E, SimS (fun cls dd _ H => E cls dd H) (t E) d) (h : spD ms (dFn ms n d) vs H Q E) : t E { nx := fun _ H' => Q .non H', rt := Q } (L2.start N vs) H := by
  have hl := spD_len h
  obtain ⟨F, os, B, P, PE, ok, sub, ro, nd, dis, tb, ⟨_, hd⟩, hr, he⟩ := h
  have hos := okArgs_len ok
  have eσ : L2.start N vs = vs.map some ++ List.replicate (n - os.length) none := by
    unfold L2.start
    rw [hN, hl, hos]
  have g : Good F H (startD ms n os) (L2.start N vs) B := ⟨sub, by rw [eσ]; exact repS_start _ tb ok ro, nd, dis⟩
  have out : ∀ {env' : DEnv} {σ' : L2.St} {F' H' : Hp} {A' A'' : List Addr}, Good F' H' env' σ' A' → Step F H (startD ms n os) (L2.start N vs) B F' H' env' σ' A'' → ∃ B', RepOL F' H' (outs ms env') (sel ms vs) B' ∧ B'.Sublist A' := fun {env' σ' F' H' A' A''} g' s => by
    refine outs_ok g'.rep hl (fun i v hm hv => ?_)
    obtain ⟨o, ho⟩ := startS_get ok hm
    have ho' : (startD ms n os)[i]? = some (S.bo o) := by
      unfold startD
      rw [List.getElem?_append_left (List.getElem?_eq_some_iff.mp ho).1]
      exact ho
    obtain ⟨o', h1, h2⟩ := s.bor i o ho'
    refine ⟨⟨o', h1⟩, ?_⟩
    rw [h2, eσ, List.getElem?_append_left (by rw [List.length_map]; exact (List.getElem?_eq_some_iff.mp hv).1), List.getElem?_map, hv]
    rfl
  have sub' : ∀ {A' B' C : List Addr}, B'.Sublist A' → ∀ a ∈ B' ++ C, a ∈ A' ++ C := fun s a m => (List.mem_append.mp m).elim (fun z => List.mem_append_left _ (s.subset z)) fun z => List.mem_append_right _ z
  have fin : ∀ {env' : DEnv} {σ' : L2.St} {F' H' : Hp} {A' C : List Addr} {x : V} {o : O}, Good F' H' env' σ' A' → Step F H (startD ms n os) (L2.start N vs) B F' H' env' σ' (A' ++ C) → RepR F' H' σ' A' (.o o) x C → P o (outs ms env') → Q x H' := fun {env' σ' F' H' A' C x o} g' s r h => by
    obtain ⟨B', q1, q2⟩ := out g' s
    refine hr x o _ F' H' B' C g'.sub q1 r.1 ((q2.append (List.Sublist.refl C)).nodup r.2.1) (fun a m => ?_) (s.mem (sub' q2)).ste h
    exact (List.mem_append.mp (sub' q2 a m)).elim (fun z => g'.dis a z) fun z => r.2.2 a z
  refine hs E F H (startD ms n os) (L2.start N vs) B _ _ g hd ⟨fun env' σ' F' H' A' g' s h => ?_, fun env' σ' F' H' A' g' s h => h.elim, fun env' σ' F' H' A' g' s h => h.elim, fun x o env' σ' F' H' A' C g' s r h => fin g' s r h, fun cls dd e env' σ' F' H' A' g' s r h => ?_⟩
  · exact fin (C := []) g' (s.mem fun a m => by rw [List.append_nil] at m; exact m) (.dat g' (d := .non) rfl) h
  · obtain ⟨B', q1, q2⟩ := out g' s
    exact he e _ cls dd F' H' B' g'.sub q1 (q2.nodup g'.nd) (fun a m => g'.dis a (q2.subset m)) (s.mem fun a m => q2.subset m).ste r h
/-! ### calls -/
def dCall (b : Bool) (f : Fn) (dv : DTV) : DTE := fun env P X => dv env (fun ds env1 => f (ds.map .fr) (fun o _ => P (.o o) env1) (fun e _ => b = true ∧ X e env1)) X
/-- the first argument is a slot's own object, which the callee may change -/
def dCallM (b : Bool) (f : Fn) (i : Nat) (dv : DTV) : DTE := fun env P X => (contAt env i []).isSome = true ∧ dv env (fun ds env1 => match env1[i]? with
  | some s => (match s.cont with
    | some o => f (o :: ds.map .fr) (fun r ps => match ps with
      | [o'] => P (.o r) (env1.set i (s.re o'))
      | _ => False) (fun e ps => match ps with
      | [o'] => b = true ∧ X e (env1.set i (s.re o'))
      | _ => False)
    | none => False)
  | none => False) X
/-- C(..) -/
def dMake (b : Bool) (C : Addr) (f : Fn) (dv : DTV) : DTE := fun env P X => dv env (fun ds env1 => f (.ins C [] :: ds.map .fr) (fun r ps => r = .fr .non ∧ match ps with
  | [o'] => P (.o o') env1
  | _ => False) (fun e _ => b = true ∧ X e env1)) X
def vals (n : Nat) : List Bool := List.replicate n false
theorem okArgs_vals : ∀ ds : List D, okArgs (vals ds.length) (ds.map .fr)
  | [] => trivial
  | d :: ds => ⟨⟨d, rfl⟩, okArgs_vals ds⟩
theorem sel_vals {α : Type} : ∀ (n : Nat) (xs : List α), sel (vals n) xs = []
  | 0, xs => by unfold vals sel; rfl
  | n + 1, [] => rfl
  | n + 1, x :: xs => sel_vals n xs
theorem Ste.ext {F H F' H' : Hp} {C : List Addr} (s : Ste F H [] F' H' C) (sub0 : Same F H) (sub : Same F' H') : Ext F H F' H' C :=
  ⟨s.f, fun a o e => s.smH sub0 sub List.not_mem_nil e, fun a o e nt f => s.keep a o e nt List.not_mem_nil f, sub, fun a m => (s.anew a m).elim (fun z => nomatch z) id, fun a z => (s.fnew a z).elim .inl fun z => z.elim (fun z => nomatch z) .inr⟩
section
variable {W : WX} {ta : TA} {dv : DTV} {f : Fn} {n : Nat}
theorem sim_callG {b : Bool} {E : L2.St → XK} (hE : b = true → ∀ σ cls dd H, W cls dd σ H → E σ cls dd H) (hn : ∀ os P PE, f os P PE → os.length = n) (ha : SimV W ta dv) : SimE W (fun σ H Q => ta σ H fun vs H1 => spD (vals n) f vs H1 Q (E σ)) (dCall b f dv) := by
  intro F H env σ A Q P X g h xo k
  refine ha F H env σ A _ _ X g h xo fun xs ds env1 F1 H1 A1 g1 s1 rr1 h1 => ?_
  have el : ds.length = n := by have := hn _ _ _ h1; rw [List.length_map] at this; exact this
  refine ⟨F1, ds.map .fr, [], _, _, by rw [← el]; exact okArgs_vals ds, g1.sub, .ofL rr1, List.nodup_nil, fun _ h => (nomatch h), g1.rep.tab, h1, fun x o ps F' H' B' C sub rp ro nd dis st h2 => ?_, fun e ps cls dd F' H' B' sub rp nd dis st rx h2 => ?_⟩
  · rw [sel_vals] at rp
    have eB : B' = [] := by
      cases ps with
      | nil => exact rp.2
      | cons o ps => obtain ⟨_, _, _, _, e, _⟩ := rp; cases e
    subst eB
    have x1 := Ste.ext st g1.sub sub
    exact k x (.o o) env1 F' H' A1 C (x1.good g1) (s1.trans x1.step) (.new g1 x1 ro nd dis) h2
  · rw [sel_vals] at rp
    have eB : B' = [] := by
      cases ps with
      | nil => exact rp.2
      | cons o ps => obtain ⟨_, _, _, _, e, _⟩ := rp; cases e
    subst eB
    have x1 := Ste.ext st g1.sub sub
    exact hE h2.1 σ cls dd H' (xo cls dd e env1 σ F' H' A1 (x1.good g1) (s1.trans (x1.step.mem fun a m => List.mem_append_left _ m)) rx h2.2)
theorem sim_make {C0 : Addr} {b : Bool} {E : L2.St → XK} (hE : b = true → ∀ σ cls dd H, W cls dd σ H → E σ cls dd H) (hn : ∀ os P PE, f os P PE → os.length = n + 1) (ha : SimV W ta dv) :
    SimE W (fun σ H Q => ta σ H fun vs H1 => ∀ x dx, H1 x = none → H1 dx = none → dx ≠ x → spD (true :: vals n) f (.ref x :: vs) (upd (upd H1 dx (.own x)) x (.ins C0 dx [])) (fun v H2 => v = .non ∧ Q (.ref x) H2) (E σ)) (dMake b C0 f dv) := by
  intro F H env σ A Q P X g h xo k
  refine ha F H env σ A _ _ X g h xo fun xs ds env1 F1 H1 A1 g1 s1 rr1 h1 => ?_
  intro x dx nx ndx ne
  have el : ds.length = n := by have := hn _ _ _ h1; rw [List.length_cons, List.length_map] at this; exact Nat.succ.inj this
  have xa := ext_own (o := .own x) g1.sub ndx
  have nx' : (upd H1 dx (.own x)) x = none := by rw [upd_ne ne.symm]; exact nx
  have xb := ext_own (o := .ins C0 dx []) xa.sub nx'
  have x0 : Ext F1 H1 F1 (upd (upd H1 dx (.own x)) x (.ins C0 dx [])) [] := (xa.trans xb).noC fun _ h => nomatch h
  have g0 := x0.good g1
  refine ⟨F1, .ins C0 [] :: ds.map .fr, [x], _, _, by rw [← el]; exact okArgs_vals ds, x0.sub, ⟨.ref x, xs, [x], [], rfl, rfl, ⟨x, dx, [], [], rfl, rfl, upd_same, rfl, rfl⟩, .ofL rr1⟩, List.nodup_cons.mpr ⟨List.not_mem_nil, List.nodup_nil⟩, fun a m => by rw [List.mem_singleton.mp m]; exact g1.sub.free nx, g1.rep.tab, h1,
    fun y o ps F' H' B' C sub rp ro nd dis st h2 => ?_, fun e ps cls dd F' H' B' sub rp nd dis st rx h2 => ?_⟩
  · obtain ⟨ey, h2⟩ := h2
    have esel : sel (true :: vals n) (V.ref x :: xs) = [.ref x] := by
      show V.ref x :: sel (vals n) xs = _
      rw [sel_vals]
    rw [esel] at rp
    match ps, h2, rp with
    | [o'], h2, ⟨z, r, B1, C1, ez, eB, ro', ⟨er, eC⟩⟩ =>
      rw [er] at ez
      cases ez
      rw [eC, List.append_nil] at eB
      subst eB
      have mB : ∀ a ∈ B', H1 a = none := fun a m => by
        rcases st.anew a (List.mem_append_left _ m) with z | z
        · rw [List.mem_singleton.mp z]; exact nx
        · exact x0.h.free z
      have x1 : Ext F1 H1 F' H' B' := ⟨st.f, fun a o e => (let ⟨o1, h1, c1⟩ := x0.h a o e; let ⟨o2, h2, c2⟩ := st.smH x0.sub sub (fun z => by rw [List.mem_singleton.mp z, nx] at e; cases e) h1; ⟨o2, h2, c1.trans c2⟩), fun a o e nt f => st.keep a o (x0.hx a o e nt f) nt (fun z => by rw [List.mem_singleton.mp z, nx] at e; cases e) f, sub, mB, fun a z => (st.fnew a z).elim .inl fun z => .inr (z.elim (fun z => by rw [List.mem_singleton.mp z]; exact nx) x0.h.free)⟩
      subst ey
      refine ⟨ro.2, k (.ref x) (.o o') env1 F' H' A1 B' (x1.good g1) (s1.trans x1.step) (.new g1 x1 ro' (nodup_l nd) fun a m => dis a (List.mem_append_left _ m)) h2⟩
    | [], h2, _ => exact h2.elim
    | _ :: _ :: _, h2, _ => exact h2.elim
  · have x1 : Ext F1 H1 F' H' [] := ⟨st.f, fun a o e => (let ⟨o1, h1, c1⟩ := x0.h a o e; let ⟨o2, h2, c2⟩ := st.smH x0.sub sub (fun z => by rw [List.mem_singleton.mp z, nx] at e; cases e) h1; ⟨o2, h2, c1.trans c2⟩), fun a o e nt f => st.keep a o (x0.hx a o e nt f) nt (fun z => by rw [List.mem_singleton.mp z, nx] at e; cases e) f, sub, fun _ h => (nomatch h), fun a z => (st.fnew a z).elim .inl fun z => .inr (z.elim (fun z => by rw [List.mem_singleton.mp z]; exact nx) x0.h.free)⟩
    exact hE h2.1 σ cls dd H' (xo cls dd e env1 σ F' H' A1 (x1.good g1) (s1.trans (x1.step.mem fun a m => List.mem_append_left _ m)) rx h2.2)
theorem sim_callMG {i : Nat} {b : Bool} {E : L2.St → XK} (hE : b = true → ∀ σ cls dd H, W cls dd σ H → E σ cls dd H) (hn : ∀ os P PE, f os P PE → os.length = n + 1) (ha : SimV W ta dv) : SimE W (fun σ H Q => (tCons (tVar i) ta) σ H fun vs H1 => spD (true :: vals n) f vs H1 Q (E σ)) (dCallM b f i dv) := by
  intro F H env σ A Q P X g h xo k
  obtain ⟨h0, h⟩ := h
  obtain ⟨v, hv⟩ : ∃ v, σ[i]? = some (some v) := by
    cases e : contAt env i [] with
    | none => rw [e] at h0; cases h0
    | some u =>
      obtain ⟨s, o, e1, e2, e3⟩ := contAt_ok e
      obtain ⟨v, B, R, q1, q2, _⟩ := g.rep.out e1
      obtain ⟨x, ex, _⟩ := q2.cont e2
      exact ⟨x, by rw [q1, ex]⟩
  refine ⟨v, hv, ?_⟩
  refine ha F H env σ A _ _ X g h xo fun xs ds env1 F1 H1 A1 g1 s1 rr1 h1 => ?_
  cases es : env1[i]? with
  | none => rw [es] at h1; exact h1.elim
  | some s =>
    rw [es] at h1
    simp only at h1
    cases eo : s.cont with
    | none => rw [eo] at h1; exact h1.elim
    | some o =>
      rw [eo] at h1
      simp only at h1
      have el : ds.length = n := by have := hn _ _ _ h1; rw [List.length_cons, List.length_map] at this; exact Nat.succ.inj this
      obtain ⟨w, B, R, q1, q2, q3, q4⟩ := g1.rep.out es
      obtain ⟨x, ex, ro⟩ := q2.cont eo
      subst ex
      rw [hv] at q1
      cases q1
      have nd : (B ++ R).Nodup := q3.nodup_iff.mp g1.nd
      have mB : ∀ a ∈ B, a ∈ A1 := fun a m => q3.mem_iff.mpr (List.mem_append_left _ m)
      have mR : ∀ a ∈ R, a ∈ A1 := fun a m => q3.mem_iff.mpr (List.mem_append_right _ m)
      have esel : sel (true :: vals n) (v :: xs) = [v] := by
        show v :: sel (vals n) xs = _
        rw [sel_vals]
      have fin : ∀ {F' H' : Hp} {B' C : List Addr} {o' : O}, Same F' H' → RepO F' H' o' v B' → (B' ++ C).Nodup → (∀ a ∈ B' ++ C, F' a = none) → Ste F1 H1 B F' H' (B' ++ C) →
          ∃ A', Good F' H' (env1.set i (s.re o')) σ A' ∧ Step F1 H1 env1 σ A1 F' H' (env1.set i (s.re o')) σ (A' ++ C) ∧ ∀ a ∈ A', a ∉ C := fun {F' H' B' C o'} sub ro' ndB dis st => by
        have stR : Stay F1 H1 R F' H' := ⟨st.f, fun a m o e => st.keep a o e (own_tbl (g1.rep.kind a (mR a m)) e) (fun z => nodup_d nd z m) (g1.dis a (mR a m))⟩
        obtain ⟨A', p1, p2⟩ := RepS.put (RepSl.re eo ro') (q4.stay stR) (get_set es)
        rw [List.set_set, set_self hv] at p2
        have disR : ∀ a ∈ R, F' a = none := fun a m => by
          cases q : F' a with
          | none => rfl
          | some u =>
            rcases st.fnew a (by rw [q]; exact Option.some_ne_none _) with z | z | z
            · exact absurd (g1.dis a (mR a m)) z
            · exact (nodup_d nd z m).elim
            · exact absurd z (g1.rep.there a (mR a m))
        have sepR : ∀ a ∈ B' ++ C, a ∉ R := fun a m z => by
          rcases st.anew a m with q | q
          · exact nodup_d nd q z
          · exact g1.rep.there a (mR a z) q
        refine ⟨A', ⟨sub, p2, p1.nodup_iff.mpr (List.nodup_append.mpr ⟨nodup_l ndB, nodup_r nd, fun a ha b hb z => by subst z; exact sepR a (List.mem_append_left _ ha) hb⟩), fun a m => ?_⟩, ⟨st.f, fun a o e nt n f => st.keep a o e nt (fun z => n (mB a z)) f, st.free, fun a m => ?_, fun a z => ?_, fun j w hj => ?_⟩, fun a m z => ?_⟩
        · rcases List.mem_append.mp (p1.mem_iff.mp m) with m | m
          · exact dis a (List.mem_append_left _ m)
          · exact disR a m
        · rcases List.mem_append.mp m with m | m
          · rcases List.mem_append.mp (p1.mem_iff.mp m) with m | m
            · exact (st.anew a (List.mem_append_left _ m)).elim (fun z => .inl (mB a z)) .inr
            · exact .inl (mR a m)
          · exact (st.anew a (List.mem_append_right _ m)).elim (fun z => .inl (mB a z)) .inr
        · rcases st.fnew a z with z | z | z
          · exact .inl z
          · exact .inr (.inl (mB a z))
          · exact .inr (.inr z)
        · obtain ⟨o2, h2⟩ := bor_re (o := o') es j w hj
          exact ⟨o2, h2, rfl⟩
        · rcases List.mem_append.mp (p1.mem_iff.mp m) with m | m
          · exact nodup_d ndB m z
          · exact sepR a (List.mem_append_right _ z) m
      refine ⟨F1, o :: ds.map .fr, B, _, _, by rw [← el]; exact okArgs_vals ds, g1.sub, ⟨v, xs, B, [], rfl, by rw [List.append_nil], ro, .ofL rr1⟩, nodup_l nd, fun a m => g1.dis a (mB a m), g1.rep.tab, h1,
        fun y r ps F' H' B' C sub rp ror ndr dis st h2 => ?_, fun e ps cls dd F' H' B' sub rp ndr dis st rx h2 => ?_⟩
      · rw [esel] at rp
        match ps, h2, rp with
        | [o'], h2, ⟨z, r', B1, C1, ez, eB, ro', ⟨er, eC⟩⟩ =>
          rw [er] at ez
          cases ez
          rw [eC, List.append_nil] at eB
          subst eB
          obtain ⟨A', g', s', sep⟩ := fin sub ro' ndr dis st
          exact k y (.o r) _ F' H' A' C g' (s1.trans s') ⟨ror, List.nodup_append.mpr ⟨g'.nd, nodup_r ndr, fun a ha b hb z => by subst z; exact sep a ha hb⟩, fun a m => dis a (List.mem_append_right _ m)⟩ h2
        | [], h2, _ => exact h2.elim
        | _ :: _ :: _, h2, _ => exact h2.elim
      · rw [esel] at rp
        match ps, h2, rp with
        | [o'], h2, ⟨z, r', B1, C1, ez, eB, ro', ⟨er, eC⟩⟩ =>
          rw [er] at ez
          cases ez
          rw [eC, List.append_nil] at eB
          subst eB
          obtain ⟨A', g', s', sep⟩ := fin (C := []) sub ro' (by rw [List.append_nil]; exact ndr) (fun a m => dis a (by rw [List.append_nil] at m; exact m)) (st.mem fun a m => by rw [List.append_nil] at m; exact m)
          exact hE h2.1 σ cls dd H' (xo cls dd e _ σ F' H' A' g' (s1.trans (s'.mem fun a m => List.mem_append_left _ m)) rx h2.2)
        | [], h2, _ => exact h2.elim
        | _ :: _ :: _, h2, _ => exact h2.elim
theorem tCall_eq {sp : Sp} {E : XK} {t : TA} : tCall sp [] E t = fun σ H Q => t σ H fun vs H1 => sp vs H1 Q E := by
  funext σ H Q
  unfold tCall
  simp only [List.append_nil]
theorem tMake_eq {C : Addr} {sp : Sp} {E : XK} {t : TA} : tMake C sp [] E t = fun σ H Q => t σ H fun vs H1 => ∀ x dx, H1 x = none → H1 dx = none → dx ≠ x → sp (.ref x :: vs) (upd (upd H1 dx (.own x)) x (.ins C dx [])) (fun v H2 => v = .non ∧ Q (.ref x) H2) E := by
  funext σ H Q
  unfold tMake
  simp only [List.append_nil]
theorem sim_call0 {E : XK} (hn : ∀ os P PE, f os P PE → os.length = n) (ha : SimV W ta dv) : SimE W (tCall (spD (vals n) f) [] E ta) (dCall false f dv) := by
  rw [tCall_eq]
  exact sim_callG (E := fun _ => E) (fun h => nomatch h) hn ha
theorem sim_callX {E : XK} (hn : ∀ os P PE, f os P PE → os.length = n) (ha : SimV (fun cls dd _ H => E cls dd H) ta dv) : SimE (fun cls dd _ H => E cls dd H) (tCall (spD (vals n) f) [] E ta) (dCall true f dv) := by
  rw [tCall_eq]
  exact sim_callG (E := fun _ => E) (fun _ _ _ _ _ h => h) hn ha
theorem sim_callM0 {i : Nat} {E : XK} (hn : ∀ os P PE, f os P PE → os.length = n + 1) (ha : SimV W ta dv) : SimE W (tCall (spD (true :: vals n) f) [] E (tCons (tVar i) ta)) (dCallM false f i dv) := by
  rw [tCall_eq]
  exact sim_callMG (E := fun _ => E) (fun h => nomatch h) hn ha
theorem sim_make0 {C : Addr} {E : XK} (hn : ∀ os P PE, f os P PE → os.length = n + 1) (ha : SimV W ta dv) : SimE W (tMake C (spD (true :: vals n) f) [] E ta) (dMake false C f dv) := by
  rw [tMake_eq]
  exact sim_make (E := fun _ => E) (fun h => nomatch h) hn ha
end

/-! ### trees: the mathematics -/
theorem pigeon : ∀ (n : Nat) (f : Nat → Nat), (∀ k, k ≤ n → f k < n) → ∃ i j, i < j ∧ j ≤ n ∧ f i = f j
  | 0, f, h => absurd (h 0 (Nat.le_refl _)) (by omega)
  | n + 1, f, h => by
    by_cases e : ∃ i, i ≤ n ∧ f i = f (n + 1)
    · obtain ⟨i, hi, e⟩ := e
      exact ⟨i, n + 1, by omega, Nat.le_refl _, e⟩
    · have ne : ∀ i, i ≤ n → f i ≠ f (n + 1) := fun i hi z => e ⟨i, hi, z⟩
      have hl := h (n + 1) (Nat.le_refl _)
      obtain ⟨i, j, hij, hj, g⟩ := pigeon n (fun k => if f k = n then f (n + 1) else f k) fun k hk => by
        have h1 := h k (by omega)
        have h2 := ne k hk
        by_cases q : f k = n
        · simp only [q, if_true]; omega
        · simp only [q, if_false]; omega
      refine ⟨i, j, hij, by omega, ?_⟩
      have h1 := ne i (by omega)
      have h2 := ne j hj
      by_cases q1 : f i = n
      · by_cases q2 : f j = n
        · rw [q1, q2]
        · simp only [q1, q2, if_true, if_false] at g
          exact absurd g.symm h2
      · by_cases q2 : f j = n
        · simp only [q1, q2, if_true, if_false] at g
          exact absurd g h1
        · simp only [q1, q2, if_false] at g
          exact g
/-- one step up; many -/
def stp (hs : List Int) (h : Int) : Int := if h = 0 then 0 else hs.getD (h.toNat - 1) 0
def up (hs : List Int) : Nat → Int → Int
  | 0, h => h
  | k + 1, h => up hs k (stp hs h)
theorem up_add (hs : List Int) : ∀ (a b : Nat) (h : Int), up hs (a + b) h = up hs b (up hs a h)
  | 0, b, h => by rw [Nat.zero_add]; rfl
  | a + 1, b, h => by
    rw [show a + 1 + b = (a + b) + 1 by omega]
    exact up_add hs a b (stp hs h)
theorem up_succ (hs : List Int) (k : Nat) (h : Int) : up hs (k + 1) h = stp hs (up hs k h) := up_add hs k 1 h
theorem up_zero (hs : List Int) : ∀ k : Nat, up hs k 0 = 0
  | 0 => rfl
  | k + 1 => up_zero hs k
theorem up_past {hs : List Int} {i j : Nat} {h : Int} (e : up hs i h = 0) (l : i ≤ j) : up hs j h = 0 := by
  rw [show j = i + (j - i) by omega, up_add, e, up_zero]
/-- all are places -/
def Pls (hs : List Int) : Prop := ∀ h ∈ hs, 0 ≤ h ∧ h ≤ hs.length
theorem Pls.at {hs : List Int} (p : Pls hs) (i : Nat) : 0 ≤ hs.getD i 0 ∧ hs.getD i 0 ≤ hs.length := by
  by_cases hi : i < hs.length
  · rw [List.getD_eq_getElem?_getD, List.getElem?_eq_getElem hi]
    exact p _ (List.getElem_mem hi)
  · rw [List.getD_eq_getElem?_getD, List.getElem?_eq_none (by omega)]
    exact ⟨Int.le_refl _, Int.natCast_nonneg _⟩
theorem up_in {hs : List Int} (p : Pls hs) : ∀ (k : Nat) (h : Int), 0 ≤ h → h ≤ hs.length → 0 ≤ up hs k h ∧ up hs k h ≤ hs.length
  | 0, h, a, b => ⟨a, b⟩
  | k + 1, h, a, b => by
    refine up_in p k (stp hs h) ?_ ?_
    · unfold stp
      split
      · exact Int.le_refl _
      · exact (p.at _).1
    · unfold stp
      split
      · exact Int.natCast_nonneg _
      · exact (p.at _).2
def leads (hs : List Int) (b : Int) : Bool := (List.range (hs.length + 1)).any fun k => decide (up hs k b = 0)
theorem leads_true {hs : List Int} {b : Int} {k : Nat} (hk : k ≤ hs.length) (e : up hs k b = 0) : leads hs b = true :=
  List.any_eq_true.mpr ⟨k, List.mem_range.mpr (by omega), decide_eq_true e⟩
theorem of_leads {hs : List Int} {b : Int} (h : leads hs b = true) : ∃ k, k ≤ hs.length ∧ up hs k b = 0 := by
  obtain ⟨k, hk, q⟩ := List.any_eq_true.mp h
  exact ⟨k, by have := List.mem_range.mp hk; omega, of_decide_eq_true q⟩
/-! ### what is due for a thing -/
inductive Part where
  | hung
  | blk (k : Nat)
  | ring (k : Nat)
def badAt (xs : List V) (k : Nat) : Bool := match xs[k]? with
  | some (.int i) => !(decide (0 ≤ i ∧ i ≤ xs.length)) || decide (i = k + 1)
  | _ => true
def nums (xs : List V) : List Int := xs.map fun x => match x with
  | .int i => i
  | _ => 0
theorem nums_map (ns : List Int) : nums (ns.map V.int) = ns := by
  unfold nums
  rw [List.map_map]
  exact List.map_id' ns
def partT (xs : List V) : Option Part := if xs.length = 0 ∨ 40 < xs.length then some .hung else match (List.range xs.length).find? (badAt xs) with
  | some k => some (.blk (k + 1))
  | none => match (List.range xs.length).find? (fun (k : Nat) => !leads (nums xs) ((k : Int) + 1)) with
    | some k => some (.ring (k + 1))
    | none => none
theorem find_no {n : Nat} {f : Nat → Bool} (l : ∀ j, j < n → f j = false) : (List.range n).find? f = none := by
  rw [List.find?_eq_none]
  intro j hj
  rw [l j (List.mem_range.mp hj)]
  exact Bool.false_ne_true
theorem partT_none {xs : List V} (h : ¬ (xs.length = 0 ∨ 40 < xs.length)) (g : ∀ j, j < xs.length → badAt xs j = false) (l : ∀ j : Nat, j < xs.length → leads (nums xs) (j + 1) = true) : partT xs = none := by
  unfold partT
  rw [if_neg h, find_no g, find_no fun j hj => by rw [l j hj]; rfl]
/-- a tree's row: places, none the block's own, each leads home -/
def IsTree (hs : List Int) : Prop := 1 ≤ hs.length ∧ hs.length ≤ 40 ∧ Pls hs ∧ (∀ (k : Nat) (h : Int), hs[k]? = some h → h ≠ k + 1) ∧ ∀ b : Nat, b < hs.length → leads hs (b + 1) = true
theorem IsTree.part {hs : List Int} (t : IsTree hs) : partT (hs.map V.int) = none := by
  obtain ⟨h1, h2, p, ns, l⟩ := t
  have hl : (hs.map V.int).length = hs.length := List.length_map _
  refine partT_none (by rw [hl]; omega) (fun j hj => ?_) fun j hj => ?_
  · rw [hl] at hj
    unfold badAt
    rw [List.getElem?_map, List.getElem?_eq_getElem hj, hl]
    have q := p _ (List.getElem_mem hj)
    have n := ns j _ (List.getElem?_eq_getElem hj)
    show (!decide (0 ≤ hs[j] ∧ hs[j] ≤ (hs.length : Int)) || decide (hs[j] = (j : Int) + 1)) = false
    rw [decide_eq_true q, decide_eq_false n]
    rfl
  · rw [hl] at hj
    rw [nums_map]
    exact l j hj

/-! ### things and parts in a heap -/
def Thing (H : Hp) (x : V) (r : Option Part) : Prop := (∃ s, Kind H x s ∧ s ≠ "tuple" ∧ r = some .hung) ∨ ∃ (a : Addr) (xs : List V), x = .ref a ∧ H a = some (.tup xs) ∧ (∀ y ∈ xs, ∃ s, Kind H y s) ∧ r = partT xs
def Enc (H : Hp) (x : V) : Option Part → Prop
  | none => x = .non
  | some .hung => x = .str "hung"
  | some (.blk k) => x = .int k
  | some (.ring k) => ∃ t, x = .ref t ∧ H t = some (.tup [.str "ring", .int k])
theorem Thing.same {H H' : Hp} {x : V} {r : Option Part} (h : Thing H x r) (e : Same H H') : Thing H' x r := by
  rcases h with ⟨s, k, n, q⟩ | ⟨a, xs, q, ha, k, z⟩
  · exact .inl ⟨s, k.same e, n, q⟩
  · exact .inr ⟨a, xs, q, e _ _ ha, fun y hy => let ⟨s, h⟩ := k y hy; ⟨s, h.same e⟩, z⟩
theorem Enc.same {H H' : Hp} {x : V} {r : Option Part} (h : Enc H x r) (e : Same H H') : Enc H' x r := by
  cases r with
  | none => exact h
  | some p =>
    cases p with
    | hung => exact h
    | blk k => exact h
    | ring k =>
      obtain ⟨t, q, ht⟩ := h
      exact ⟨t, q, e _ _ ht⟩

/-! ### X(), X an own exception class without own __init__ -/
section
variable {X : Cx}
end
/-! ### a != b by an own __eq__ -/
theorem ns_some {K : PySem.W.Frag} {h : Heap} {N : Addr} {mg : Str → Option Value} {n : Str} {v : Value} (X : K.In h) (G : h.Ns N mg) (q : PySem.W.nsIn K N n = some (some v)) : mg n = some v := by
  obtain ⟨ob, ents, ep, hob, hdat, _, hfind⟩ := G
  unfold PySem.W.nsIn at q
  split at q
  · rename_i hl
    have e1 := X _ _ hl
    rw [hob] at e1
    cases e1
    cases hdat
    split at q
    · rename_i hx
      cases q
      rw [← hfind]
      unfold nsFind findBy
      rw [← Array.find?_toList, hx]
      rfl
    · split at q <;> cases q
  · cases q
structure NeC (K : PySem.W.Frag) (C f : Addr) : Prop where
  cls : ∃ nm q N bs sn sub ab col dd k0 k1 k2 k3 k5 hdct newId, K.lookup C = some (excClassObj nm q C N bs [.type "object"] hdct sn sub ab col dd k0 k1 k2 k3 k5 newId) ∧ PySem.W.nsOkIn K N = true ∧ PySem.W.nsIn K N "__eq__" = some (some (.ref f)) ∧ PySem.W.nsIn K N "__ne__" = some none
  fn : ∃ of, K.lookup f = some of ∧ of.cls = .type "function"
def rNeOwn (K : PySem.W.Frag) (C : Addr) (sp : Sp) (E : XK) : R2 := fun x y H Q => ∃ (a b dx dy : Addr) (fs gs : List (Str × V)), x = .ref a ∧ y = .ref b ∧ H a = some (.ins C dx fs) ∧ H b = some (.ins C dy gs) ∧
  sp [x, y] H (fun v H' => ∃ k, v = .bl k ∧ Q (.bl (!k)) H') E
section
variable {X : Cx} {CX : CXT} {C f : Addr} {fd : FuncData} {ps : List Str} {sp : Sp} {E : XK} {n : Nat}
theorem op_neOwn (F : FnOk X.prog X.w X.K X.mg X.base CX n f fd ps sp) (hr : Room (n + 1) X.A) (N : NeC X.K C f) (hb : Binds X.K fd ps []) (hx : Passes CX X E) : OpR X (compareOp .NotEq) (rNeOwn X.K C sp E) := by
  intro pins s σ H x y u v Q I rx ry d
  obtain ⟨a, b, dx, dy, fs, gs, rfl, rfl, ha, hb', hsp⟩ := d
  cases rx
  cases ry
  obtain ⟨⟨nm, q, Nn, bs, sn, sub, ab, col, dd, k0, k1, k2, k3, k5, hdct, newId, hC, hN, he, hne⟩, ⟨of, hof, hofc⟩⟩ := N
  obtain ⟨mA, J, _⟩ := ins_get I.hok ha
  obtain ⟨oda, Ja, _⟩ := J.look
  obtain ⟨mB, J2, _⟩ := ins_get I.hok hb'
  obtain ⟨odb, Jb, _⟩ := J2.look
  have hu := hr.units
  have e0 : Env0 X.prog X.w X.K X.mg X.base X.A.in1 X.stack s H := I.env0.in1
  have hl := F.len _ _ _ _ hsp
  have r2 : Vals [V.ref a, V.ref b] [Value.ref a, Value.ref b] := .cons rfl (.cons rfl .nil)
  have hcall : wpAny (model X.prog X.w) X.A.in1 (call (.ref f) [.ref a, .ref b]) (fun v s' => ∃ b, v = .bool b ∧ EP X pins σ Q (.bool (!b)) s') X.xe s :=
    wpAny_call (codeAny_mono (F.run X.A.in1 X.stack s H ⟨[.ref a, .ref b], []⟩ [.ref a, .ref b] [.ref a, .ref b] _ E hr.in1 e0 (by
      have := hb s [.ref a, .ref b] I.kIn (by simpa using hl)
      simpa using this) r2 hsp) fun r s' hq => by
    cases r with
    | error e => exact hx pins σ H s e s' I hq
    | ok fl =>
      cases fl with
      | ret w =>
        obtain ⟨z, H', I', rz, k, ez, q⟩ := I.after hq
        subst ez
        cases rz
        exact ⟨k, rfl, .bl (!k), H', I', rfl, q⟩
      | next => exact False.elim hq
      | brk => exact False.elim hq
      | cont => exact False.elim hq)
  obtain ⟨hp1, g1, d1, tk1, os1⟩ := s
  have X1 : hp1.OwnEqNoNe a C f "object" [.type "object"] := by
    refine ⟨_, of, nm, q, Nn, bs, hdct, sn, sub, ab, col, dd, k0, k1, k2, k3, k5, newId, hp1.nsMap Nn, _, Ja.1, Ja.cls, I.kIn _ _ hC, .of_isNs (PySem.W.isNs_of_in I.kIn hN), ns_some I.kIn (.of_isNs (PySem.W.isNs_of_in I.kIn hN)) he, I.kIn _ _ hof, hofc, PySem.F.cmp_object.mro, PySem.F.cmp_object.eq.lookup, PySem.W.nsMap_none_of_in I.kIn hN hne⟩
  exact compareOp_ne_ownEq PySem.F.cmp_object X1 Jb.1 Jb.cls (by omega) hcall
end
section
variable {X : Cx}
end
/-! ### sorted(t), t a tuple of whole numbers -/
section
open PySem.W PyProof.Rows SrtO
variable {prog : Program} {w : World} {A : Around} {E : Value → Shared → Prop} {s : Shared}
theorem sorted_ordT {l : Addr} {vs : List Value} {ltv : Value → Value → Bool} {o : Obj} {n : Nat} {Q : Value → Shared → Prop} (O : Swo ltv) (ho : s.heap.get? l = some o) (hc : o.cls = .type "tuple") (hd : o.data = .seq vs.toArray n) (hz : vs.length ≤ sizeLine)
    (hS : 2 ≤ vs.length → ∀ (h₁ : Heap) (a : Addr), h₁.get? a = some (seqObj "list" vs.toArray 0) → SortableO prog w A.in1.in1 { s with heap := h₁ } a vs ltv)
    (h : ∀ (out : List Value) (h2 : Heap) (a : Addr) (e : Nat), Srtd ltv out → Stb ltv out vs → s.heap.get? a = none → (∀ b o', s.heap.get? b = some o' → h2.get? b = some o') → h2.get? a = some (seqObj "list" out.toArray e) → Q (.ref a) { s with heap := h2 }) :
    wpAny (model prog w) A (call (.builtin "sorted") [.ref l]) Q E s := by
  refine Calls.call_function_entry kind_sorted plain_sorted entry_sorted (args_sorted1 _) ?_
  unfold Builtin.«sorted»
  refine wpAny_bind (m := checkCount "sorted" 1 1 _) (wpAny_pure ?_)
  refine wpAny_bind (wpAny_collect_seq l (.inr rfl) ho hc hd (fun h1 k1 => ?_) (by rw [List.size_toArray]; exact hz))
  refine wpAny_bind (wpAny_newList ?_ hz)
  have hoL : (h1.push (seqObj "list" vs.toArray 0)).get? h1.objs.size = some (seqObj "list" vs.toArray 0) := Heap.get?_push_size _ rfl
  have nw : ∀ b o', s.heap.get? b = some o' → b ≠ h1.objs.size ∧ b < (h1.push (seqObj "list" vs.toArray 0)).objs.size ∧ (h1.push (seqObj "list" vs.toArray 0)).get? b = some o' := fun b o' q => by
    have hlt : b < h1.objs.size := Heap.lt_size (k1 b o' q)
    exact ⟨Nat.ne_of_lt hlt, by rw [size_push']; exact Nat.lt_succ_of_lt hlt, Heap.get?_push_of_some _ (k1 b o' q)⟩
  have fr : s.heap.get? h1.objs.size = none := by
    cases q : s.heap.get? h1.objs.size with
    | none => rfl
    | some o' => exact absurd rfl (nw _ _ q).1
  show wpAny _ _ _ _ _ { s with heap := h1.push (seqObj "list" vs.toArray 0) }
  refine wpAny_bind (wpAny_holding (wpAny_call_entry slot_list_sort ⟨_, hoL, rfl⟩ entry_list_sort (list_sort_ord O hoL hz (fun h2 => hS h2 _ _ hoL) fun out hs hb => ⟨_, rfl, ?_⟩) (args_list_sort _)))
  obtain ⟨e, he⟩ := sortedHeap_at (vs := vs) (out := out.toArray) hoL
  exact wpAny_pure ⟨_, rfl, h out _ _ e hs hb fr (fun b o' q => by rw [sortedHeap_old (nw b o' q).1 (nw b o' q).2.1]; exact (nw b o' q).2.2) he⟩
end
def rSortedT (K : PySem.W.Frag) : List V → Hp → VK → Prop := fun vs H Q => ∃ (a : Addr) (ns : List Int), vs = [V.ref a] ∧ SqT K H a (ns.map V.int) ∧
  ∀ (ns' : List Int) (p : Addr), ns'.Perm ns → ns'.Pairwise (· ≤ ·) → H p = none → Q (.ref p) (upd H p (.lst (ns'.map V.int)))
section
variable {X : Cx}
theorem cr_sortedT : CallR X (.builtin "sorted") (rSortedT X.K) := by
  intro pins s σ H vs us Q I r h
  obtain ⟨a, ns, rfl, hs, q⟩ := h
  obtain ⟨its, rv, ⟨o, ho, hc, n, hd⟩, hz⟩ := I.tuple hs
  rw [Vals.ref1 r]
  have hi := rv.ints
  refine sorted_ordT SrtO.swo_int ho hc hd (by rw [← rv.length]; exact hz) (fun h2 h₁ a' _ => SrtO.ints_sortable hi h2) fun out h2 p e h3 h4 fr k he' => ?_
  obtain ⟨k1, k2, k3⟩ := SrtO.ints_out hi h3 h4
  have hlen : ((out.map SrtO.iv).map V.int).length ≤ sizeLine := by
    rw [List.length_map, k2.length_eq]
    rw [List.length_map] at hz
    exact hz
  have hn : H p = none := I.hok.gone fr
  exact ⟨.ref _, upd H p (.lst ((out.map SrtO.iv).map V.int)), I.laidN (t' := s.toks) k fr hn ⟨hlen, out, e, vals_of_ints k1, he'⟩, rfl, q _ _ k2 k3 hn⟩
end

/-! ### methods of lists that a slot has -/
/-- the object at a place is changed, and something is told -/
theorem Good.writeR {F H : Hp} {env : DEnv} {σ : L2.St} {A C : List Addr} {i : Nat} {path : List PSt} {o1 o2 o3 : O} {x z : V} {H' : Hp} (g : Good F H env σ A) (hc : contAt env i path = some o1) (hp : ∃ y, σ[i]? = some (some y) ∧ PathV H y path x)
    (hC : ∀ a ∈ C, a ∉ A ∧ F a = none) (f : Same F H') (fr : ∀ a, H' a = none → H a = none)
    (hw : ∀ B R, RepO F H o1 x B → A.Perm (B ++ R) → (B ++ R).Nodup → (∀ a o, H a = some o → a ∉ B → H' a = some o) ∧ ∃ B' C', RepO F H' o2 x B' ∧ RepO F H' o3 z C' ∧ (B' ++ C').Nodup ∧ ∀ a ∈ B' ++ C', a ∈ B ∨ a ∈ C) :
    ∃ A' C', Good F H' (setAt env i path o2) σ A' ∧ Step F H env σ (A ++ C) F H' (setAt env i path o2) σ (A' ++ C') ∧ RepR F H' σ A' (.o o3) z C' := by
  obtain ⟨s, o, e1, e2, e3⟩ := contAt_ok hc
  obtain ⟨y, hy, hv⟩ := hp
  obtain ⟨B, R, h1, h2, h3⟩ := g.rep.focus e1 e2 e3 hy hv
  have nd : (B ++ R).Nodup := h2.nodup_iff.mp g.nd
  have mB : ∀ a ∈ B, a ∈ A := fun a m => h2.mem_iff.mpr (List.mem_append_left _ m)
  have mR : ∀ a ∈ R, a ∈ A := fun a m => h2.mem_iff.mpr (List.mem_append_right _ m)
  obtain ⟨kp, B', C', r', r3, ndB, mB'⟩ := hw B R h1 h2 nd
  obtain ⟨A', p1, p2⟩ := h3 F H' o2 B' ⟨.refl _, fun a m o e => kp a o e fun z => nodup_d nd z m⟩ r'
  have es : setAt env i path o2 = env.set i (s.re (o.put path o2)) := by
    unfold setAt
    rw [e1]
    simp only
    rw [e2]
  rw [es]
  have dBC : ∀ a ∈ B' ++ C', F a = none := fun a m => (mB' a m).elim (fun z => g.dis a (mB a z)) fun z => (hC a z).2
  have sep : ∀ a ∈ B' ++ C', a ∉ R := fun a m z => (mB' a m).elim (fun q => nodup_d nd q z) fun q => (hC a q).1 (mR a z)
  have mA' : ∀ a ∈ A', a ∈ B' ∨ a ∈ R := fun a m => List.mem_append.mp (p2.mem_iff.mp m)
  refine ⟨A', C', ⟨f, p1, p2.nodup_iff.mpr (List.nodup_append.mpr ⟨nodup_l ndB, nodup_r nd, fun a ha b hb z => by subst z; exact sep a (List.mem_append_left _ ha) hb⟩), fun a m => (mA' a m).elim (fun z => dBC a (List.mem_append_left _ z)) fun z => g.dis a (mR a z)⟩,
    ⟨.refl _, fun a o e _ n _ => kp a o e fun z => n (List.mem_append_left _ (mB a z)), fr, fun a m => .inl ?_, fun _ h => .inl h, fun j w hj => ?_⟩, ⟨r3, List.nodup_append.mpr ⟨p2.nodup_iff.mpr (List.nodup_append.mpr ⟨nodup_l ndB, nodup_r nd, fun a ha b hb z => by subst z; exact sep a (List.mem_append_left _ ha) hb⟩), nodup_r ndB, fun a ha b hb z => ?_⟩, fun a m => dBC a (List.mem_append_right _ m)⟩⟩
  · rcases List.mem_append.mp m with m | m
    · rcases mA' a m with m | m
      · exact (mB' a (List.mem_append_left _ m)).elim (fun z => List.mem_append_left _ (mB a z)) fun z => List.mem_append_right _ z
      · exact List.mem_append_left _ (mR a m)
    · exact (mB' a (List.mem_append_right _ m)).elim (fun z => List.mem_append_left _ (mB a z)) fun z => List.mem_append_right _ z
  · obtain ⟨o', eo⟩ := bor_re (o := o.put path o2) e1 j w hj
    exact ⟨o', eo, rfl⟩
  · subst z
    rcases mA' a ha with m | m
    · exact nodup_d ndB m hb
    · exact sep a (List.mem_append_right _ hb) m
mutual
theorem RepO.uniq {F H : Hp} : ∀ {o : O} {x : V} {A A' : List Addr}, RepO F H o x A → RepO F H o x A' → A = A'
  | .fr d, _, _, _, ⟨e, _⟩, ⟨e', _⟩ => by rw [e, e']
  | .lst os, _, _, _, ⟨a, xs, B, e, eA, h, r⟩, ⟨a', xs', B', e', eA', h', r'⟩ => by
    rw [e] at e'
    cases e'
    rw [h] at h'
    cases h'
    rw [eA, eA', RepOL.uniq r r']
  | .dct t os, _, _, _, ⟨a, o, xs, B, e, eA, h, c, r⟩, ⟨a', o', xs', B', e', eA', h', c', r'⟩ => by
    rw [e] at e'
    cases e'
    rw [h] at h'
    cases h'
    have q := c.uniq c'
    subst q
    rw [eA, eA', RepOM.uniq r r']
  | .ins C os, _, _, _, ⟨a, dx, xs, B, e, eA, h, r⟩, ⟨a', dx', xs', B', e', eA', h', r'⟩ => by
    rw [e] at e'
    cases e'
    rw [h] at h'
    cases h'
    rw [eA, eA', RepOF.uniq r r']
theorem RepOL.uniq {F H : Hp} : ∀ {os : List O} {xs : List V} {A A' : List Addr}, RepOL F H os xs A → RepOL F H os xs A' → A = A'
  | [], _, _, _, ⟨_, e⟩, ⟨_, e'⟩ => by rw [e, e']
  | o :: os, _, _, _, ⟨x, r, B, C, e, eA, h, t⟩, ⟨x', r', B', C', e', eA', h', t'⟩ => by
    rw [e] at e'
    cases e'
    rw [eA, eA', RepO.uniq h h', RepOL.uniq t t']
theorem RepOM.uniq {F H : Hp} : ∀ {os : List (List Key × O)} {xs : List (List Key × V)} {A A' : List Addr}, RepOM F H os xs A → RepOM F H os xs A' → A = A'
  | [], _, _, _, ⟨_, e⟩, ⟨_, e'⟩ => by rw [e, e']
  | (k, o) :: os, _, _, _, ⟨x, r, B, C, e, eA, h, t⟩, ⟨x', r', B', C', e', eA', h', t'⟩ => by
    rw [e] at e'
    cases e'
    rw [eA, eA', RepO.uniq h h', RepOM.uniq t t']
theorem RepOF.uniq {F H : Hp} : ∀ {os : List (Str × O)} {xs : List (Str × V)} {A A' : List Addr}, RepOF F H os xs A → RepOF F H os xs A' → A = A'
  | [], _, _, _, ⟨_, e⟩, ⟨_, e'⟩ => by rw [e, e']
  | (k, o) :: os, _, _, _, ⟨x, r, B, C, e, eA, h, t⟩, ⟨x', r', B', C', e', eA', h', t'⟩ => by
    rw [e] at e'
    cases e'
    rw [eA, eA', RepO.uniq h h', RepOF.uniq t t']
end
def isL : Option O → Bool
  | some (.lst _) => true
  | _ => false
/-- xs.m(e), xs a slot -/
def dMeth1 (f : List O → O → (List O → O → Prop) → Prop) (i : Nat) (de : DTE) : DTE := fun env P X => isL (contAt env i []) = true ∧ de env (fun r env1 => toO r env1 fun o env2 => oth (contAt env2 i []) fun u => match u with
  | .lst os => f os o fun os' z => P (.o z) (setAt env2 i [] (.lst os'))
  | _ => False) X
def dMeth0 (f : List O → (List O → O → Prop) → Prop) (i : Nat) : DTE := fun env P X => oth (contAt env i []) fun u => match u with
  | .lst os => f os fun os' z => P (.o z) (setAt env i [] (.lst os'))
  | _ => False
def fAppend : List O → O → (List O → O → Prop) → Prop := fun os o k => os.length < sizeLine ∧ k (os ++ [o]) (.fr .non)
def fPop : List O → (List O → O → Prop) → Prop := fun os k => oth os[os.length - 1]? fun o => k os.dropLast o
def fPopAt : List O → O → (List O → O → Prop) → Prop := fun os o k => match o with
  | .fr (.int i) => (-(2 ^ 63) ≤ i ∧ i < 2 ^ 63) ∧ oth (seqIndex? i os.length) fun j => oth os[j]? fun u => k (os.eraseIdx j) u
  | _ => False
def fExtend : List O → O → (List O → O → Prop) → Prop := fun os o k => match o with
  | .lst us => os.length + us.length ≤ sizeLine ∧ k (os ++ us) (.fr .non)
  | .fr (.lst ds) => os.length + ds.length ≤ sizeLine ∧ k (os ++ ds.map .fr) (.fr .non)
  | _ => False
def SimM1 (r : V → List V → Hp → VK → Prop) (f : List O → O → (List O → O → Prop) → Prop) : Prop := ∀ (F H : Hp) (a : Addr) (xs : List V) (y : V) (os : List O) (o : O) (k : List O → O → Prop) (Q : VK) (B C : List Addr), Same F H → H a = some (.lst xs) → RepOL F H os xs B → RepO F H o y C → (a :: B ++ C).Nodup → F a = none → f os o k →
  (∀ os' z x xs' B' C', k os' z → RepOL F (upd H a (.lst xs')) os' xs' B' → RepO F (upd H a (.lst xs')) z x C' → (B' ++ C').Nodup → (∀ b ∈ B' ++ C', b ∈ B ++ C) → Q x (upd H a (.lst xs'))) → r (.ref a) [y] H Q
def SimM0 (r : V → List V → Hp → VK → Prop) (f : List O → (List O → O → Prop) → Prop) : Prop := ∀ (F H : Hp) (a : Addr) (xs : List V) (os : List O) (k : List O → O → Prop) (Q : VK) (B : List Addr), Same F H → H a = some (.lst xs) → RepOL F H os xs B → (a :: B).Nodup → F a = none → f os k →
  (∀ os' z x xs' B' C', k os' z → RepOL F (upd H a (.lst xs')) os' xs' B' → RepO F (upd H a (.lst xs')) z x C' → (B' ++ C').Nodup → (∀ b ∈ B' ++ C', b ∈ B) → Q x (upd H a (.lst xs'))) → r (.ref a) [] H Q
theorem RepOL.upd {F H : Hp} {a : Addr} {u : HO} {os : List O} {xs : List V} {B : List Addr} (n : a ∉ B) (h : RepOL F H os xs B) : RepOL F (upd H a u) os xs B := h.stay ⟨.refl _, fun b m o e => by rw [upd_ne (fun z => n (by rw [← z]; exact m))]; exact e⟩
theorem RepO.upd {F H : Hp} {a : Addr} {u : HO} {o : O} {x : V} {B : List Addr} (n : a ∉ B) (h : RepO F H o x B) : RepO F (L2.upd H a u) o x B := h.stay ⟨.refl _, fun b m o e => by rw [upd_ne (fun z => n (by rw [← z]; exact m))]; exact e⟩
theorem simM_append : SimM1 rAppend fAppend := by
  intro F H a xs y os o k Q B C s ha rl ro nd nF h q
  obtain ⟨hl, h⟩ := h
  have ndB : (a :: (B ++ C)).Nodup := nd
  have nB : a ∉ B ++ C := (List.nodup_cons.mp ndB).1
  refine ⟨a, xs, y, rfl, rfl, ha, by rw [rl.len]; exact hl, q _ (.fr .non) .non _ (B ++ (C ++ [])) [] h ?_ ⟨rfl, rfl⟩ ?_ fun b m => by rw [List.append_nil, List.append_nil] at m; exact m⟩
  · exact (rl.upd fun z => nB (List.mem_append_left _ z)).app ⟨y, [], C, [], rfl, rfl, ro.upd fun z => nB (List.mem_append_right _ z), rfl, rfl⟩
  · rw [List.append_nil, List.append_nil]; exact (List.nodup_cons.mp ndB).2
theorem RepOL.lastd {F H : Hp} : ∀ {os : List O} {xs : List V} {A : List Addr} {o : O}, RepOL F H os xs A → os[os.length - 1]? = some o → ∃ x B C, xs[xs.length - 1]? = some x ∧ RepO F H o x C ∧ RepOL F H os.dropLast xs.dropLast B ∧ A = B ++ C
  | [], _, _, _, _, e => by simp at e
  | [o1], xs, A, o, ⟨x, r, B, C, e, eA, h, ⟨e2, e3⟩⟩, z => by
    cases z
    rw [e, e2, eA, e3, List.append_nil]
    exact ⟨x, [], B, rfl, h, ⟨rfl, rfl⟩, rfl⟩
  | o1 :: o2 :: os, xs, A, o, ⟨x, r, B, C, e, eA, h, t⟩, z => by
    obtain ⟨y, B1, C1, h1, h2, h3, h4⟩ := RepOL.lastd (os := o2 :: os) t (by simpa using z)
    obtain ⟨y2, r2, _, _, er, _⟩ := t
    refine ⟨y, B ++ B1, C1, ?_, h2, ⟨x, _, B, B1, ?_, rfl, h, h3⟩, by rw [eA, h4, List.append_assoc]⟩
    · rw [e, ← h1, er]
      simp
    · rw [e, er]; rfl
theorem simM_pop : SimM0 rPop fPop := by
  intro F H a xs os k Q B s ha rl nd nF h q
  obtain ⟨o, e, h⟩ := oth_ok h
  obtain ⟨x, B1, C1, h1, h2, h3, h4⟩ := rl.lastd e
  have nB : a ∉ B1 ++ C1 := by rw [← h4]; exact (List.nodup_cons.mp nd).1
  exact ⟨a, xs, x, rfl, rfl, ha, h1, q _ o x _ B1 C1 h (h3.upd fun z => nB (List.mem_append_left _ z)) (h2.upd fun z => nB (List.mem_append_right _ z)) (by rw [← h4]; exact (List.nodup_cons.mp nd).2) fun b m => by rw [h4]; exact m⟩
theorem RepOL.erase {F H : Hp} : ∀ {os : List O} {xs : List V} {A : List Addr} {o : O} {j : Nat}, RepOL F H os xs A → os[j]? = some o → ∃ x B C, xs[j]? = some x ∧ RepO F H o x C ∧ RepOL F H (os.eraseIdx j) (xs.eraseIdx j) B ∧ A.Perm (B ++ C)
  | [], _, _, _, _, _, e => by simp at e
  | o1 :: os, xs, A, o, 0, ⟨x, r, B, C, e, eA, h, t⟩, z => by
    cases z
    rw [e, eA]
    exact ⟨x, C, B, rfl, h, t, List.perm_append_comm⟩
  | o1 :: os, xs, A, o, j + 1, ⟨x, r, B, C, e, eA, h, t⟩, z => by
    obtain ⟨y, B1, C1, h1, h2, h3, h4⟩ := RepOL.erase (j := j) t z
    rw [e, eA]
    exact ⟨y, B ++ B1, C1, h1, h2, ⟨x, _, B, B1, rfl, rfl, h, h3⟩, by rw [List.append_assoc]; exact List.Perm.append_left B h4⟩
theorem simM_popAt : SimM1 rPopAt fPopAt := by
  intro F H a xs y os o k Q B C s ha rl ro nd nF h q
  cases o with
  | lst _ => exact h.elim
  | dct _ _ => exact h.elim
  | ins _ _ => exact h.elim
  | fr d =>
    cases d with
    | int i =>
      obtain ⟨b, h⟩ := h
      obtain ⟨j, ej, h⟩ := oth_ok h
      obtain ⟨u, eu, h⟩ := oth_ok h
      obtain ⟨x, B1, C1, h1, h2, h3, h4⟩ := rl.erase eu
      have nB : a ∉ B1 ++ C1 := fun z => (List.nodup_cons.mp nd).1 (List.mem_append_left _ (h4.mem_iff.mpr z))
      exact ⟨a, xs, i, j, x, rfl, by rw [show y = _ from ro.2], ha, b.1, b.2, by rw [rl.len]; exact ej, h1, q _ u x _ B1 C1 h (h3.upd fun z => nB (List.mem_append_left _ z)) (h2.upd fun z => nB (List.mem_append_right _ z)) (h4.nodup_iff.mp (nodup_l (List.nodup_cons.mp nd).2)) fun b m => List.mem_append_left _ (h4.mem_iff.mpr m)⟩
    | _ => exact h.elim
theorem simM_extend : SimM1 rExtend fExtend := by
  intro F H a xs y os o k Q B C s ha rl ro nd nF h q
  have nB : a ∉ B ++ C := (List.nodup_cons.mp nd).1
  have ndB := (List.nodup_cons.mp nd).2
  cases o with
  | dct _ _ => exact h.elim
  | ins _ _ => exact h.elim
  | lst us =>
    obtain ⟨hl, h⟩ := h
    obtain ⟨b, ys, C1, ey, eC, hb, rl2⟩ := ro
    have nC : a ∉ C1 := fun z => nB (List.mem_append_right _ (by rw [eC]; exact List.mem_cons_of_mem _ z))
    have ndC : (B ++ C1).Nodup := by
      rw [eC] at ndB
      exact (List.Sublist.append (List.Sublist.refl B) (List.sublist_cons_self b C1)).nodup ndB
    refine ⟨a, b, xs, ys, rfl, by rw [ey], ha, hb, by rw [rl.len, rl2.len]; exact hl, q _ (.fr .non) .non _ (B ++ C1) [] h ((rl.upd fun z => nB (List.mem_append_left _ z)).app (rl2.upd nC)) ⟨rfl, rfl⟩ (by rw [List.append_nil]; exact ndC) fun c m => ?_⟩
    rw [List.append_nil] at m
    rcases List.mem_append.mp m with m | m
    · exact List.mem_append_left _ m
    · exact List.mem_append_right _ (by rw [eC]; exact List.mem_cons_of_mem _ m)
  | fr d =>
    cases d with
    | lst ds =>
      obtain ⟨hl, h⟩ := h
      obtain ⟨eC, b, ys, ey, hb, rl2⟩ := ro
      refine ⟨a, b, xs, ys, rfl, by rw [ey], ha, s _ _ hb, by rw [rl.len, rl2.length]; exact hl, q _ (.fr .non) .non _ (B ++ []) [] h ((rl.upd fun z => nB (List.mem_append_left _ z)).app (.ofL rl2)) ⟨rfl, rfl⟩ ?_ fun c m => ?_⟩
      · rw [List.append_nil, List.append_nil]; exact nodup_l ndB
      · rw [List.append_nil, List.append_nil] at m
        exact List.mem_append_left _ m
    | _ => exact h.elim
section
variable {W : WX} {K : PySem.W.Frag} {te : TE} {de : DTE} {i : Nat}
theorem var_there {F H : Hp} {env : DEnv} {σ : L2.St} {A : List Addr} (g : Good F H env σ A) {u : O} (e : contAt env i [] = some u) : ∃ v, σ[i]? = some (some v) := by
  obtain ⟨s, o, e1, e2, e3⟩ := contAt_ok e
  obtain ⟨v, B, R, q1, q2, _⟩ := g.rep.out e1
  obtain ⟨x, ex, _⟩ := q2.cont e2
  exact ⟨x, by rw [q1, ex]⟩
theorem lst_at {F H : Hp} {env : DEnv} {σ : L2.St} {A : List Addr} (g : Good F H env σ A) {os : List O} {v : V} (e : contAt env i [] = some (.lst os)) (hv : σ[i]? = some (some v)) : ∃ a xs B, v = .ref a ∧ H a = some (.lst xs) ∧ RepOL F H os xs B ∧ (∀ b ∈ a :: B, b ∈ A) ∧ (a :: B).Nodup := by
  obtain ⟨s, o, e1, e2, e3⟩ := contAt_ok e
  obtain ⟨B, R, h1, h2, _⟩ := g.rep.focus e1 e2 e3 hv rfl
  obtain ⟨a, xs, B1, ex, eB, hx, rl⟩ := h1
  refine ⟨a, xs, B1, ex, hx, rl, fun b m => h2.mem_iff.mpr (List.mem_append_left _ (by rw [eB]; exact m)), ?_⟩
  rw [← eB]
  exact nodup_l (h2.nodup_iff.mp g.nd)
theorem sim_meth1 {r : V → List V → Hp → VK → Prop} {f : List O → O → (List O → O → Prop) → Prop} (hr : SimM1 r f) (he : SimE W te de) : SimE W (tBM K "list" r (tVar i) (tCons te tNil)) (dMeth1 f i de) := by
  intro F H env σ A Q P X g h xo k
  obtain ⟨h0, h⟩ := h
  obtain ⟨os0, e0⟩ : ∃ os, contAt env i [] = some (.lst os) := by
    cases e : contAt env i [] with
    | none => rw [e] at h0; cases h0
    | some u =>
      cases u with
      | lst os => exact ⟨os, rfl⟩
      | _ => rw [e] at h0; cases h0
  obtain ⟨v, hv⟩ := var_there g e0
  obtain ⟨a0, xs0, B0, ev0, ha0, _⟩ := lst_at g e0 hv
  refine ⟨v, hv, by rw [ev0]; exact .inl ⟨rfl, xs0, SqL.of ha0⟩, ?_⟩
  clear ev0 ha0
  · refine he F H env σ A _ _ X g h xo fun y r1 env1 F1 H1 A1 C1 g1 s1 rr1 h1 => ?_
    obtain ⟨F2, A2, o, env2, C2, h2, g2, s2, r2⟩ := toO_ok g1 rr1 h1
    have s12 := s1.trans s2
    obtain ⟨u, eu, h3⟩ := oth_ok h2
    cases u with
    | lst os =>
      obtain ⟨a, xs, B, ev, ha, rl, mB, ndB⟩ := lst_at g2 eu hv
      subst ev
      have nF : F2 a = none := g2.dis a (mB a List.mem_cons_self)
      have sepC : ∀ b ∈ C2, b ∉ A2 ∧ F2 b = none := fun b m => ⟨fun z => nodup_d r2.2.1 z m, r2.2.2 b m⟩
      have ndBC : (a :: B ++ C2).Nodup := List.nodup_append.mpr ⟨ndB, nodup_r r2.2.1, fun b hb c hc z => by subst z; exact (sepC b hc).1 (mB b hb)⟩
      refine hr F2 H1 a xs y os o _ _ B C2 g2.sub ha rl r2.1 ndBC nF h3 fun os' z x xs' B' C' h4 rl' rz nd' m' => ?_
      have naBC : a ∉ B' ++ C' := fun m => (List.nodup_cons.mp ndBC).1 (m' a m)
      obtain ⟨A', C'', g', s', r'⟩ := g2.writeR (H' := upd H1 a (.lst xs')) (o2 := .lst os') (o3 := z) (z := x) eu ⟨.ref a, hv, rfl⟩ sepC (same_own g2.sub nF) (fun b => upd_free) (fun B0 R0 b1 b2 b3 => by
        obtain ⟨a', xs0, B1, ea, eB, hx, rl0⟩ := b1
        cases ea
        rw [ha] at hx
        cases hx
        refine ⟨fun b o e n => by rw [upd_ne (fun z => n (by rw [z, eB]; exact List.mem_cons_self))]; exact e, a :: B', C', ⟨a, xs', B', rfl, rfl, upd_same, rl'⟩, rz, List.nodup_cons.mpr ⟨naBC, nd'⟩, fun b m => ?_⟩
        have eq : B1 = B := rl0.uniq rl
        rcases List.mem_cons.mp m with m | m
        · exact .inl (by rw [m, eB]; exact List.mem_cons_self)
        · rcases List.mem_append.mp (m' b m) with m | m
          · exact .inl (by rw [eB, eq]; exact List.mem_cons_of_mem _ m)
          · exact .inr m)
      exact k x (.o z) _ F2 _ A' C'' g' (s12.trans s') r' h4
    | _ => exact h3.elim
theorem sim_meth0 {r : V → List V → Hp → VK → Prop} {f : List O → (List O → O → Prop) → Prop} (hr : SimM0 r f) : SimE W (tBM0 K "list" r (tVar i)) (dMeth0 f i) := by
  intro F H env σ A Q P X g h xo k
  obtain ⟨u, eu, h3⟩ := oth_ok h
  obtain ⟨v, hv⟩ := var_there g eu
  cases u with
  | lst os =>
    obtain ⟨a, xs, B, ev, ha, rl, mB, ndB⟩ := lst_at g eu hv
    subst ev
    have nF : F a = none := g.dis a (mB a List.mem_cons_self)
    refine ⟨.ref a, hv, .inl ⟨rfl, xs, SqL.of ha⟩, ?_⟩
    refine hr F H a xs os _ _ B g.sub ha rl ndB nF h3 fun os' z x xs' B' C' h4 rl' rz nd' m' => ?_
    have naBC : a ∉ B' ++ C' := fun m => (List.nodup_cons.mp ndB).1 (m' a m)
    obtain ⟨A', C'', g', s', r'⟩ := g.writeR (C := []) (H' := upd H a (.lst xs')) (o2 := .lst os') (o3 := z) (z := x) eu ⟨.ref a, hv, rfl⟩ (fun _ h => (nomatch h)) (same_own g.sub nF) (fun b => upd_free) (fun B0 R0 b1 b2 b3 => by
      obtain ⟨a', xs0, B1, ea, eB, hx, rl0⟩ := b1
      cases ea
      rw [ha] at hx
      cases hx
      refine ⟨fun b o e n => by rw [upd_ne (fun z => n (by rw [z, eB]; exact List.mem_cons_self))]; exact e, a :: B', C', ⟨a, xs', B', rfl, rfl, upd_same, rl'⟩, rz, List.nodup_cons.mpr ⟨naBC, nd'⟩, fun b m => ?_⟩
      have eq : B1 = B := rl0.uniq rl
      rcases List.mem_cons.mp m with m | m
      · exact .inl (by rw [m, eB]; exact List.mem_cons_self)
      · exact .inl (by rw [eB, eq]; exact List.mem_cons_of_mem _ (m' b m)))
    rw [List.append_nil] at s'
    exact k x (.o z) _ F _ A' C'' g' s' r' h4
  | _ => exact h3.elim
end

/-! ### tuple * n for n ≤ 1 -/
theorem tuple_mulS (l : Addr) (items : Array Value) (n : Nat) (dd : Option Addr) (sl : Array (Option Value)) (x : Int) (u : Tok) (c0 : (decide (x < -(2 ^ 63)) || decide (x ≥ 2 ^ 63)) = false) (c1 : (items.isEmpty || x == 1) = true) :
    Meets (Builtin.«tuple.__mul__» ⟨[.ref l, .int x u], []⟩) (fun _ R s => s.heap.get? l = some { cls := .type "tuple", dict := dd, data := .seq items n, slots := sl } ∧ R (.ok (.ret (Value.ref l))) s) :=
  .of_wp fun prog w A R s h => by
    obtain ⟨hp, g, d, tk, os⟩ := s
    obtain ⟨hl, h⟩ := h
    have f1 := AutoSeq1.idx_int
    wp_walk using wpAny_loadPart' hl
    repeat (first
      | (refine wpAny_ite_false (decide_eq_false (by rw [c0]; exact Bool.false_ne_true)) ?_; wp_walk using wpAny_loadPart' hl)
      | (refine wpAny_ite_true (decide_eq_true c1) ?_; wp_walk using wpAny_loadPart' hl))
    exact ⟨_, rfl, h⟩
theorem tuple_mulN (l : Addr) (items : Array Value) (n : Nat) (dd : Option Addr) (sl : Array (Option Value)) (x : Int) (u : Tok) (c0 : (decide (x < -(2 ^ 63)) || decide (x ≥ 2 ^ 63)) = false) (c1 : (items.isEmpty || x == 1) = false) (c2 : (decide (x ≤ 0) || items.isEmpty) = true) :
    Meets (Builtin.«tuple.__mul__» ⟨[.ref l, .int x u], []⟩) (fun _ R s => s.heap.get? l = some { cls := .type "tuple", dict := dd, data := .seq items n, slots := sl } ∧
      R (.ok (.ret (Value.ref s.heap.objs.size))) { s with heap := s.heap.push { cls := Value.type "tuple", data := Data.seq #[] }, toks := s.toks }) :=
  .of_wp fun prog w A R s h => by
    obtain ⟨hp, g, d, tk, os⟩ := s
    obtain ⟨hl, h⟩ := h
    have f1 := AutoSeq1.idx_int
    wp_walk using wpAny_loadPart' hl
    repeat (first
      | (refine wpAny_ite_false (decide_eq_false (by rw [c0]; exact Bool.false_ne_true)) ?_; wp_walk using wpAny_loadPart' hl)
      | (refine wpAny_ite_false (decide_eq_false (by rw [c1]; exact Bool.false_ne_true)) ?_; wp_walk using wpAny_loadPart' hl)
      | (refine wpAny_ite_true (decide_eq_true c2) ?_; wp_walk using wpAny_loadPart' hl))
    exact ⟨_, rfl, h⟩
def rRepS (K : PySem.W.Frag) : R2 := fun x y H Q => ∃ l xs, x = .ref l ∧ y = .int 1 ∧ SqT K H l xs ∧ Q (.ref l) H
def rRepN (K : PySem.W.Frag) : R2 := fun x y H Q => ∃ l k xs, x = .ref l ∧ y = .int k ∧ SqT K H l xs ∧ xs ≠ [] ∧ -(2 ^ 62) ≤ k ∧ k ≤ 0 ∧ ∀ p, H p = none → Q (.ref p) (upd H p (.tup []))
section
variable {X : Cx}
theorem op_repS : OpR X (binaryOp .Mult) (rRepS X.K) := by
  intro pins s σ H x y v u Q I rx ry h
  obtain ⟨l, xs, rfl, rfl, hT, q⟩ := h
  cases rx
  obtain ⟨t, rfl⟩ := ry
  obtain ⟨its, r, ⟨⟨cls, dd, data, sl⟩, ho, hc, n, hd⟩, hs⟩ := I.tuple hT
  simp only at hc hd
  subst hc hd
  have c0 : (decide ((1 : Int) < -(2 ^ 63)) || decide ((1 : Int) ≥ 2 ^ 63)) = false := by decide
  have c1 : (its.toArray.isEmpty || (1 : Int) == 1) = true := by rw [Bool.or_eq_true]; exact .inr rfl
  refine wpAny_binaryOp_repeat_ref (T := "tuple") (U := "int") (by decide) ⟨_, ho, rfl⟩ (fun s' => typeIs_int s' 1 t) noFill_tuple_mul F.fills_int_mul F.slot_int_rmul repeat_tuple F.slot_int_index.lookup
    (call_meets F.slot_int_rmul (typeIs_int s 1 t) F.entry_int_rmul (F.args_int_rmul_2 _ _) (int_rmul_tuple 1 t l its.toArray n dd sl)
      ⟨ho, rfl, ⟨_, ho, rfl⟩, call_meets F.slot_tuple_mul ⟨_, ho, rfl⟩ F.entry_tuple_mul (F.args_tuple_mul_2 _ _) (tuple_mulS l its.toArray n dd sl 1 t c0 c1) ⟨ho, ?_⟩⟩)
  exact ⟨.ref l, H, I, rfl, q⟩
theorem op_repN : OpR X (binaryOp .Mult) (rRepN X.K) := by
  intro pins s σ H x y v u Q I rx ry h
  obtain ⟨l, k, xs, rfl, rfl, hT, hne, h1, h2, q⟩ := h
  cases rx
  obtain ⟨t, rfl⟩ := ry
  obtain ⟨its, r, ⟨⟨cls, dd, data, sl⟩, ho, hc, n, hd⟩, hs⟩ := I.tuple hT
  simp only at hc hd
  subst hc hd
  have hn : its ≠ [] := fun e => hne (by
    have hle : its.length = xs.length := r.length.symm
    rw [e] at hle
    exact List.eq_nil_of_length_eq_zero hle.symm)
  have hi : its.toArray.isEmpty = false := by
    cases its with
    | nil => exact absurd rfl hn
    | cons a b => rfl
  have c0 : (decide (k < -(2 ^ 63)) || decide (k ≥ 2 ^ 63)) = false := by
    rw [decide_eq_false (by omega), decide_eq_false (by omega)] <;> rfl
  have c1 : (its.toArray.isEmpty || k == 1) = false := by
    rw [hi, Bool.false_or]
    exact beq_eq_false_iff_ne.mpr (by omega)
  have c2 : (decide (k ≤ 0) || its.toArray.isEmpty) = true := by
    rw [hi, Bool.or_false]
    exact decide_eq_true h2
  refine wpAny_binaryOp_repeat_ref (T := "tuple") (U := "int") (by decide) ⟨_, ho, rfl⟩ (fun s' => typeIs_int s' k t) noFill_tuple_mul F.fills_int_mul F.slot_int_rmul repeat_tuple F.slot_int_index.lookup
    (call_meets F.slot_int_rmul (typeIs_int s k t) F.entry_int_rmul (F.args_int_rmul_2 _ _) (int_rmul_tuple k t l its.toArray n dd sl)
      ⟨ho, rfl, ⟨_, ho, rfl⟩, call_meets F.slot_tuple_mul ⟨_, ho, rfl⟩ F.entry_tuple_mul (F.args_tuple_mul_2 _ _) (tuple_mulN l its.toArray n dd sl k t c0 c1 c2) ⟨ho, ?_⟩⟩)
  refine ⟨.ref s.heap.objs.size, _, I.laid (t' := s.toks) (o := .tup []) (fun b ob q => Heap.get?_push_of_some _ q) (Nat.le_refl _) ?_, rfl, q _ (I.hok.fresh (Nat.le_refl _))⟩
  exact ⟨by rw [sizeLine_eq]; exact Nat.zero_le _, [], .nil, IsTup.new _ _⟩
end

/-! ### operations: either .. or -/
theorem OpR.or {X : Cx} {f : Value → Value → Sem Value} {r r' : R2} (h : OpR X f r) (h' : OpR X f r') : OpR X f (fun x y H Q => r x y H Q ∨ r' x y H Q) :=
  fun pins s σ H x y v u Q I rx ry q => q.elim (h pins s σ H x y v u Q I rx ry) (h' pins s σ H x y v u Q I rx ry)
theorem CallR.or {X : Cx} {f : Value} {r r' : List V → Hp → VK → Prop} (h : CallR X f r) (h' : CallR X f r') : CallR X f (fun xs H Q => r xs H Q ∨ r' xs H Q) :=
  fun pins s σ H xs us Q I rx q => q.elim (h pins s σ H xs us Q I rx) (h' pins s σ H xs us Q I rx)
def xAddG (K : PySem.W.Frag) : R2 := fun x y H Q => xAdd x y H Q ∨ (xAddStr x y H Q ∨ (rCat x y H Q ∨ rCatA K x y H Q))
theorem op_addG {X : Cx} : OpR X (binaryOp .Add) (xAddG X.K) := OpR.or op_add (OpR.or op_add_str (OpR.or op_cat op_catA))
def xMulG (K : PySem.W.Frag) : R2 := fun x y H Q => xMul x y H Q ∨ (rRep x y H Q ∨ (rRepT K x y H Q ∨ (rRepS K x y H Q ∨ rRepN K x y H Q)))
theorem op_mulG {X : Cx} : OpR X (binaryOp .Mult) (xMulG X.K) := OpR.or op_mul (OpR.or op_rep (OpR.or op_repT (OpR.or op_repS op_repN)))
def xLtG (K : PySem.W.Frag) : R2 := fun x y H Q => xLt x y H Q ∨ rLtT K x y H Q
theorem rd_core {H : Hp} {a : Addr} {o u : HO} (h : H a = some o) (e : core o = u) (n : isTbl u = false := by rfl) : Rd H a u := by
  unfold core at e
  split at e
  · subst e; exact .inr ⟨_, h⟩
  · subst e; exact .inr ⟨_, h⟩
  · subst e; cases n
  · subst e; exact .inl h
def xLenDR : List V → Hp → VK → Prop := fun xs H Q => ∃ a kvs, xs = [V.ref a] ∧ Rd H a (.dK kvs) ∧ Q (.int kvs.length) H
theorem call_lenDR {X : Cx} : CallR X (.builtin "len") xLenDR := by
  intro pins s σ H xs us Q I r h
  obtain ⟨a, kvs, rfl, ha, q⟩ := h
  obtain ⟨u, rfl, ru⟩ := vals1 r
  cases ru
  exact d_len I ha fun t s' I' => ⟨.int kvs.length, H, I', ⟨t, rfl⟩, q⟩
def xLenTR : List V → Hp → VK → Prop := fun xs H Q => ∃ (a : Addr) (kvs : List (List Key × V)), xs = [V.ref a] ∧ Rd H a (.dT kvs) ∧ Q (.int kvs.length) H
theorem call_lenTR {X : Cx} : CallR X (.builtin "len") xLenTR := by
  intro pins s σ H xs us Q I r h
  obtain ⟨a, kvs, rfl, ha, q⟩ := h
  obtain ⟨u, rfl, ru⟩ := vals1 r
  cases ru
  obtain ⟨z, hd, ys, rel, dd⟩ := dt_rd I.hok ha
  have el : kvs.length = ys.length := Paired.length rel
  refine call_len_dictH hd dd (by rw [PySem.sizeLine_eq] at z; omega) ?_
  rw [← el]
  exact ⟨V.int kvs.length, H, I.tok _, ⟨s.toks + 1, rfl⟩, q⟩
def xIsG : R2 := fun x y H Q => xIsN x y H Q ∨ ∃ b, y = .bl b ∧ (x = .non ∨ ∃ a, x = .bl a) ∧ Q (.bl (decide (x = .bl b))) H
def xNotG : R2 := fun x y H Q => xNotN x y H Q ∨ ∃ b, y = .bl b ∧ (x = .non ∨ ∃ a, x = .bl a) ∧ Q (.bl (!decide (x = .bl b))) H
theorem op_isG {X : Cx} : OpR X (compareOp .Is) xIsG := OpR.or op_isN (by
  intro pins s σ H x y v u Q I rx ry h
  obtain ⟨b, rfl, hx, q⟩ := h
  cases (show u = Value.bool b from ry)
  rcases hx with rfl | ⟨a, rfl⟩
  · cases (show v = Value.none from rx)
    exact wpAny_is_other rfl (fun z => by cases z) ⟨.bl false, H, I, rfl, q⟩
  · cases (show v = Value.bool a from rx)
    by_cases e : a = b
    · subst e
      exact wpAny_is_self rfl ⟨.bl true, H, I, rfl, by simpa using q⟩
    · exact wpAny_is_other rfl (fun z => e (Value.bool.inj z)) ⟨.bl false, H, I, rfl, by simpa [e] using q⟩)
theorem op_notG {X : Cx} : OpR X (compareOp .IsNot) xNotG := OpR.or op_notN (by
  intro pins s σ H x y v u Q I rx ry h
  obtain ⟨b, rfl, hx, q⟩ := h
  cases (show u = Value.bool b from ry)
  rcases hx with rfl | ⟨a, rfl⟩
  · cases (show v = Value.none from rx)
    exact wpAny_isNot_other rfl (fun z => by cases z) ⟨.bl true, H, I, rfl, q⟩
  · cases (show v = Value.bool a from rx)
    by_cases e : a = b
    · subst e
      exact wpAny_isNot_self rfl ⟨.bl false, H, I, rfl, by simpa using q⟩
    · exact wpAny_isNot_other rfl (fun z => e (Value.bool.inj z)) ⟨.bl true, H, I, rfl, by simpa [e] using q⟩)
def xLenG (K : PySem.W.Frag) : List V → Hp → VK → Prop := fun xs H Q => xLen K xs H Q ∨ (xLenDR xs H Q ∨ (xLenS xs H Q ∨ xLenTR xs H Q))
theorem call_lenG {X : Cx} : CallR X (.builtin "len") (xLenG X.K) := CallR.or call_len_seq (CallR.or call_lenDR (CallR.or call_len_str call_lenTR))
def xSortG (K : PySem.W.Frag) : List V → Hp → VK → Prop := fun xs H Q => rSortedI K xs H Q ∨ (rSortedT K xs H Q ∨ rSortedPO K xs H Q)
theorem call_sortG {X : Cx} : CallR X (.builtin "sorted") (xSortG X.K) := CallR.or cr_sortedI (CallR.or cr_sortedT cr_sortedPO)
def xSlG (K : PySem.W.Frag) : V → Option Int → Option Int → Hp → VK → Prop := fun x lo hi H Q => rSlL K x lo hi H Q ∨ (rSlA K x lo hi H Q ∨ rSlS x lo hi H Q)
theorem sl_G {X : Cx} : SlR X (xSlG X.K) := SlR.or sl_list (SlR.or sl_tupA sl_str)
theorem out_d {F H : Hp} {z : V} {d : D} {P : O → Prop} {Q : VK} (s : Same F H) (hr : Rep F d z) (hp : P (.fr d)) (q : ∀ z o F' H' C, Ext F H F' H' C → RepO F' H' o z C → C.Nodup → (∀ a ∈ C, F' a = none) → P o → Q z H') : Q z H :=
  q z (.fr d) F H [] (.refl s) ⟨rfl, hr⟩ List.nodup_nil (fun _ h => nomatch h) hp
theorem out_lst {F H : Hp} {p : Addr} {xs : List V} {ds : List D} {P : O → Prop} {Q : VK} (s : Same F H) (np : H p = none) (hr : RepL F ds xs) (hp : P (.lst (ds.map .fr))) (q : ∀ z o F' H' C, Ext F H F' H' C → RepO F' H' o z C → C.Nodup → (∀ a ∈ C, F' a = none) → P o → Q z H') : Q (.ref p) (upd H p (.lst xs)) :=
  q (.ref p) (.lst (ds.map .fr)) F _ [p] (ext_own s np) ⟨p, xs, [], rfl, rfl, upd_same, .ofL hr⟩ (List.nodup_cons.mpr ⟨List.not_mem_nil, List.nodup_nil⟩) (fun a m => by rw [List.mem_singleton.mp m]; exact s.free np) hp
theorem out_tup {F H : Hp} {p : Addr} {xs : List V} {ds : List D} {P : O → Prop} {Q : VK} (s : Same F H) (np : H p = none) (hr : RepL F ds xs) (hp : P (.fr (.tup ds))) (q : ∀ z o F' H' C, Ext F H F' H' C → RepO F' H' o z C → C.Nodup → (∀ a ∈ C, F' a = none) → P o → Q z H') : Q (.ref p) (upd H p (.tup xs)) :=
  q (.ref p) (.fr (.tup ds)) _ _ [] (ext_tup s np) ⟨rfl, p, xs, rfl, upd_same, RepL.mono (ext_tup (xs := xs) s np).f hr⟩ List.nodup_nil (fun _ h => nomatch h) hp
def dAdd : D → D → (O → Prop) → Prop
  | .int i, .int j, P => P (.fr (.int (i + j)))
  | .str a, .str b, P => a.length + b.length ≤ sizeLine ∧ P (.fr (.str (a ++ b)))
  | .lst xs, .lst ys, P => xs.length + ys.length ≤ sizeLine ∧ P (.lst ((xs ++ ys).map .fr))
  | .tup xs, .tup ys, P => xs.length + ys.length ≤ sizeLine ∧ P (.fr (.tup (xs ++ ys)))
  | _, _, _ => False
def dI2 (C : Int → Int → Prop) (g : Int → Int → D) : D → D → (O → Prop) → Prop
  | .int i, .int j, P => C i j ∧ P (.fr (g i j))
  | _, _, _ => False
def dI0 (g : Int → Int → D) : D → D → (O → Prop) → Prop
  | .int i, .int j, P => P (.fr (g i j))
  | _, _, _ => False
def dU (g : Int → D) : D → (O → Prop) → Prop
  | .int i, P => P (.fr (g i))
  | _, _ => False
abbrev dSub2 := dI0 fun i j => .int (i - j)
abbrev dLe := dI0 fun i j => .bl (decide (i ≤ j))
abbrev dGt := dI0 fun i j => .bl (decide (j < i))
abbrev dMod := dI2 (fun _ j => 0 < j) fun i j => .int (i % j)
abbrev dDiv := dI2 CDivN fun i j => .int (i.fdiv j)
abbrev dPow := dI2 CPow fun i j => .int (i ^ j.toNat)
abbrev dNeg := dU fun i => .int (-i)
def dMul : D → D → (O → Prop) → Prop
  | .int i, .int j, P => CMul i j ∧ P (.fr (.int (i * j)))
  | .lst xs, .int k, P => (-(2 ^ 63) ≤ k ∧ k < 2 ^ 63 ∧ xs.length * k.toNat ≤ sizeLine) ∧ P (.lst ((List.replicate k.toNat xs).flatten.map .fr))
  | .tup xs, .int k, P => (xs ≠ [] ∧ -(2 ^ 62) ≤ k ∧ k ≤ 1000 ∧ xs.length ≤ 1000) ∧ P (.fr (.tup (List.replicate k.toNat xs).flatten))
  | _, _, _ => False
theorem repL_flat {F : Hp} {ds : List D} {xs : List V} (h : RepL F ds xs) : ∀ n : Nat, RepL F (List.replicate n ds).flatten (List.replicate n xs).flatten
  | 0 => rfl
  | n + 1 => by
    rw [List.replicate_succ, List.replicate_succ, List.flatten_cons, List.flatten_cons]
    exact h.app (repL_flat h n)
section
variable {K : PySem.W.Frag}
theorem simr_I0 {g : Int → Int → V} {gd : Int → Int → D} (hg : ∀ F i j, Rep F (gd i j) (g i j)) : SimR2 (rI0 g) (dI0 gd) := by
  intro F H x y d e P Q s hx hy h q
  match d, e, hx, hy, h with
  | .int i, .int j, hx, hy, h => exact ⟨i, j, hx, hy, out_d s (hg F i j) h q⟩
theorem simr_I {C : Int → Int → Prop} {g : Int → Int → V} {gd : Int → Int → D} (hg : ∀ F i j, Rep F (gd i j) (g i j)) : SimR2 (rI C g) (dI2 C gd) := by
  intro F H x y d e P Q s hx hy h q
  match d, e, hx, hy, h with
  | .int i, .int j, hx, hy, h => exact ⟨i, j, hx, hy, h.1, out_d s (hg F i j) h.2 q⟩
theorem simr_sub : SimR2 xSub dSub2 := simr_I0 fun _ _ _ => rfl
theorem simr_le : SimR2 xLe dLe := simr_I0 fun _ _ _ => rfl
theorem simr_gt : SimR2 xGt dGt := simr_I0 fun _ _ _ => rfl
theorem simr_mod : SimR2 xMod dMod := simr_I fun _ _ _ => rfl
theorem simr_div : SimR2 xDiv dDiv := simr_I fun _ _ _ => rfl
theorem simr_pow : SimR2 xPow dPow := simr_I fun _ _ _ => rfl
theorem simr_neg : SimR1 xNeg dNeg := by
  intro F H x d P Q s hx h q
  match d, hx, h with
  | .int i, hx, h => exact ⟨i, hx, out_d s (d := .int (-i)) rfl h q⟩
theorem simr_add : SimR2 (xAddG K) dAdd := by
  intro F H x y d e P Q s hx hy h q
  match d, e, hx, hy, h with
  | .int i, .int j, hx, hy, h => exact .inl ⟨i, j, hx, hy, out_d s (d := .int (i + j)) rfl h q⟩
  | .str a, .str b, hx, hy, h => exact .inr (.inl ⟨a, b, hx, hy, h.1, out_d s (d := .str (a ++ b)) rfl h.2 q⟩)
  | .lst xs, .lst ys, ⟨a, us, ea, ha, ra⟩, ⟨b, vs, eb, hb, rb⟩, h => exact .inr (.inr (.inl ⟨a, b, us, vs, ea, eb, ha, hb, by rw [ra.length, rb.length]; exact h.1, fun p np => out_lst s np (ra.app rb) h.2 q⟩))
  | .tup xs, .tup ys, ⟨a, us, ea, ha, ra⟩, ⟨b, vs, eb, hb, rb⟩, h =>
    refine .inr (.inr (.inr ⟨a, b, us, vs, ea, eb, SqT.of (s _ _ ha), SqT.of (s _ _ hb), by rw [ra.length, rb.length]; exact h.1, fun e0 => ?_, fun _ e0 => ?_, fun _ _ p np => out_tup s np (ra.app rb) h.2 q⟩))
    · have ex : xs = [] := List.eq_nil_of_length_eq_zero (by rw [← ra.length, e0]; rfl)
      subst ex
      exact out_d s (d := .tup ys) ⟨b, vs, rfl, hb, rb⟩ h.2 q
    · have ex : ys = [] := List.eq_nil_of_length_eq_zero (by rw [← rb.length, e0]; rfl)
      subst ex
      have h2 : P (.fr (.tup (xs ++ []))) := h.2
      rw [List.append_nil] at h2
      exact out_d s (d := .tup xs) ⟨a, us, rfl, ha, ra⟩ h2 q
theorem simr_mul : SimR2 (xMulG K) dMul := by
  intro F H x y d e P Q s hx hy h q
  match d, e, hx, hy, h with
  | .int i, .int j, hx, hy, h => exact .inl ⟨i, j, hx, hy, h.1, out_d s (d := .int (i * j)) rfl h.2 q⟩
  | .lst xs, .int k, ⟨a, us, ea, ha, ra⟩, hy, h => exact .inr (.inl ⟨a, k, us, ea, hy, ha, h.1.1, h.1.2.1, by rw [ra.length]; exact h.1.2.2, fun p np => out_lst s np (repL_flat ra _) h.2 q⟩)
  | .tup xs, .int k, ⟨a, us, ea, ha, ra⟩, hy, h =>
    have ne : us ≠ [] := fun z => h.1.1 (List.eq_nil_of_length_eq_zero (by rw [← ra.length, z]; rfl))
    by_cases h2 : 2 ≤ k
    · exact .inr (.inr (.inl ⟨a, k, us, ea, hy, SqT.of (s _ _ ha), ne, h2, h.1.2.2.1, by rw [ra.length]; exact h.1.2.2.2, fun p np => out_tup s np (repL_flat ra _) h.2 q⟩))
    by_cases h1 : k = 1
    · subst h1
      refine .inr (.inr (.inr (.inl ⟨a, us, ea, hy, SqT.of (s _ _ ha), ?_⟩)))
      have e : (List.replicate (1 : Int).toNat xs).flatten = xs := by show (xs ++ []) = xs; rw [List.append_nil]
      have hp := h.2
      rw [e] at hp
      exact out_d s (d := .tup xs) ⟨a, us, rfl, ha, ra⟩ hp q
    · refine .inr (.inr (.inr (.inr ⟨a, k, us, ea, hy, SqT.of (s _ _ ha), ne, h.1.2.1, by omega, fun p np => out_tup s np (ds := []) (xs := []) rfl ?_ q⟩)))
      have hp := h.2
      rw [show k.toNat = 0 by omega] at hp
      exact hp
/-! ### comparisons -/
theorem repL_ints' {F : Hp} {ds : List D} {xs : List V} {ns : List Int} (e : ds = ns.map .int) (h : RepL F ds xs) : xs = ns.map V.int := by subst e; exact h.ints
def asInts : List D → Option (List Int)
  | [] => some []
  | .int i :: r => (match asInts r with
    | some l => some (i :: l)
    | none => none)
  | _ => none
theorem asInts_ok : ∀ {ds : List D} {ns : List Int}, asInts ds = some ns → ds = ns.map .int
  | [], ns, e => by cases e; rfl
  | .int i :: r, ns, e => by
    unfold asInts at e
    cases q : asInts r with
    | none => rw [q] at e; cases e
    | some l => rw [q] at e; cases e; rw [asInts_ok q]; rfl
  | .non :: _, _, e => by cases e
  | .bl _ :: _, _, e => by cases e
  | .str _ :: _, _, e => by cases e
  | .ty _ :: _, _, e => by cases e
  | .cls _ :: _, _, e => by cases e
  | .tup _ :: _, _, e => by cases e
  | .lst _ :: _, _, e => by cases e
  | .ztp _ :: _, _, e => by cases e
  | .dct _ _ :: _, _, e => by cases e
  | .ins _ _ :: _, _, e => by cases e
theorem asInts_map : ∀ ns : List Int, asInts (ns.map .int) = some ns
  | [] => rfl
  | n :: ns => by
    show (match asInts (ns.map .int) with
      | some l => some (n :: l)
      | none => none) = _
    rw [asInts_map ns]
def dLtG : D → D → (O → Prop) → Prop
  | .int i, .int j, P => P (.fr (.bl (decide (i < j))))
  | .tup xs, .tup ys, P => oth (asInts xs) fun ns => oth (asInts ys) fun ms => P (.fr (.bl (HT.lexLt ns ms)))
  | _, _, _ => False
theorem simr_ltG : SimR2 (xLtG K) dLtG := by
  intro F H x y d e P Q s hx hy h q
  match d, e, hx, hy, h with
  | .int i, .int j, hx, hy, h => exact .inl ⟨i, j, hx, hy, out_d s (d := .bl (decide (i < j))) rfl h q⟩
  | .tup xs, .tup ys, ⟨a, us, ea, ha, ra⟩, ⟨b, vs, eb, hb, rb⟩, h =>
    obtain ⟨ns, e1, h⟩ := oth_ok h
    obtain ⟨ms, e2, h⟩ := oth_ok h
    refine .inr ⟨a, b, ns, ms, ea, eb, SqT.of ?_, SqT.of ?_, out_d s (d := .bl (HT.lexLt ns ms)) rfl h q⟩
    · rw [← repL_ints' (asInts_ok e1) ra]; exact s _ _ ha
    · rw [← repL_ints' (asInts_ok e2) rb]; exact s _ _ hb
mutual
def toPy : D → Option PyData
  | .non => some .none
  | .bl b => some (.bool b)
  | .int i => some (.int i)
  | .str s => some (.str s)
  | .lst ds => (match toPyL ds with
    | some l => some (.list l)
    | none => none)
  | .tup ds => (match toPyL ds with
    | some l => some (.tuple l)
    | none => none)
  | _ => none
def toPyL : List D → Option (List PyData)
  | [] => some []
  | d :: ds => (match toPy d with
    | some p => (match toPyL ds with
      | some l => some (p :: l)
      | none => none)
    | none => none)
end
mutual
theorem toPy_ok {H : Hp} : ∀ {d : D} {x : V} {p : PyData}, toPy d = some p → Rep H d x → Dp K H x p
  | .non, x, p, e, h => by cases e; rw [show x = _ from h]; exact .non
  | .bl b, x, p, e, h => by cases e; rw [show x = _ from h]; exact .bl b
  | .int b, x, p, e, h => by cases e; rw [show x = _ from h]; exact .int b
  | .str b, x, p, e, h => by cases e; rw [show x = _ from h]; exact .str b
  | .lst ds, x, p, e, ⟨a, xs, ea, ha, ra⟩ => by
    unfold toPy at e
    cases q : toPyL ds with
    | none => rw [q] at e; cases e
    | some l =>
      rw [q] at e
      cases e
      rw [ea]
      exact .lst (SqL.of ha) (toPyL_ok q ra)
  | .tup ds, x, p, e, ⟨a, xs, ea, ha, ra⟩ => by
    unfold toPy at e
    cases q : toPyL ds with
    | none => rw [q] at e; cases e
    | some l =>
      rw [q] at e
      cases e
      rw [ea]
      exact .tup (SqT.of ha) (toPyL_ok q ra)
  | .ty _, _, _, e, _ => by cases e
  | .ztp _, _, _, e, _ => by cases e
  | .cls _, _, _, e, _ => by cases e
  | .dct _ _, _, _, e, _ => by cases e
  | .ins _ _, _, _, e, _ => by cases e
theorem toPyL_ok {H : Hp} : ∀ {ds : List D} {xs : List V} {p : List PyData}, toPyL ds = some p → RepL H ds xs → DpAll K H xs p
  | [], xs, p, e, h => by cases e; rw [show xs = [] from h]; exact .nil
  | d :: ds, xs, p, e, ⟨x, r, ex, h, t⟩ => by
    unfold toPyL at e
    cases q : toPy d with
    | none => rw [q] at e; cases e
    | some p1 =>
      rw [q] at e
      simp only at e
      cases q2 : toPyL ds with
      | none => rw [q2] at e; cases e
      | some l =>
        rw [q2] at e
        cases e
        rw [ex]
        exact .cons (toPy_ok q h) (toPyL_ok q2 t)
end
/-- == and !=, through and through -/
def dEq : D → D → (O → Prop) → Prop := fun d e P => oth (toPy d) fun a => oth (toPy e) fun b => SeqAt.shaped a = true ∧ SeqAt.shaped b = true ∧ P (.fr (.bl (PyData.eqv a b)))
def dNe : D → D → (O → Prop) → Prop := fun d e P => oth (toPy d) fun a => oth (toPy e) fun b => SeqAt.shaped a = true ∧ SeqAt.shaped b = true ∧ P (.fr (.bl (!PyData.eqv a b)))
theorem simr_eq : SimR2 (rEqD K) dEq := by
  intro F H x y d e P Q s hx hy h q
  obtain ⟨a, e1, h⟩ := oth_ok h
  obtain ⟨b, e2, h⟩ := oth_ok h
  exact ⟨a, b, toPy_ok e1 (hx.toH s), toPy_ok e2 (hy.toH s), h.1, h.2.1, out_d s (d := .bl (PyData.eqv a b)) rfl h.2.2 q⟩
theorem simr_ne : SimR2 (rNeD K) dNe := by
  intro F H x y d e P Q s hx hy h q
  obtain ⟨a, e1, h⟩ := oth_ok h
  obtain ⟨b, e2, h⟩ := oth_ok h
  exact ⟨a, b, toPy_ok e1 (hx.toH s), toPy_ok e2 (hy.toH s), h.1, h.2.1, out_d s (d := .bl (!PyData.eqv a b)) rfl h.2.2 q⟩
def D.isN : D → Bool
  | .non => true
  | _ => false
def dIs : D → D → (O → Prop) → Prop
  | d, .non, P => P (.fr (.bl d.isN))
  | .bl a, .bl b, P => P (.fr (.bl (decide (a = b))))
  | .non, .bl _, P => P (.fr (.bl false))
  | _, _, _ => False
def dIsNot : D → D → (O → Prop) → Prop
  | d, .non, P => P (.fr (.bl (!d.isN)))
  | .bl a, .bl b, P => P (.fr (.bl (!decide (a = b))))
  | .non, .bl _, P => P (.fr (.bl true))
  | _, _, _ => False
theorem repP_non {F H : Hp} {d : D} {x : V} (h : RepP F H d x) : decide (x = .non) = d.isN := by
  cases d with
  | non => rw [show x = _ from h]; rfl
  | bl _ => rw [show x = _ from h]; rfl
  | int _ => rw [show x = _ from h]; rfl
  | str _ => rw [show x = _ from h]; rfl
  | ty _ => rw [show x = _ from h]; rfl
  | cls _ => rw [show x = _ from h]; rfl
  | tup _ => obtain ⟨_, _, e, _⟩ := h; rw [e]; rfl
  | lst _ => obtain ⟨_, _, e, _⟩ := h; rw [e]; rfl
  | ztp _ => obtain ⟨_, _, e, _⟩ := ZRep.out h; rw [e]; rfl
  | dct _ _ => obtain ⟨_, _, _, e, _⟩ := h; rw [e]; rfl
  | ins _ _ => obtain ⟨_, _, _, e, _⟩ := h; rw [e]; rfl
theorem bl_bl (a b : Bool) : decide (V.bl a = V.bl b) = decide (a = b) := by rw [Bool.eq_iff_iff]; simp
theorem simr_is : SimR2 xIsG dIs := by
  intro F H x y d e P Q s hx hy h q
  unfold dIs at h
  split at h
  · exact .inl ⟨hy, out_d s (d := .bl (decide (x = .non))) rfl (by rw [repP_non hx]; exact h) q⟩
  · rename_i a b
    have ex : x = .bl a := hx
    subst ex
    exact .inr ⟨b, hy, .inr ⟨a, rfl⟩, out_d s (d := .bl (decide (V.bl a = V.bl b))) rfl (by rw [bl_bl]; exact h) q⟩
  · rename_i b
    have ex : x = .non := hx
    subst ex
    exact .inr ⟨b, hy, .inl rfl, out_d s (d := .bl false) rfl h q⟩
  · exact h.elim
theorem simr_isNot : SimR2 xNotG dIsNot := by
  intro F H x y d e P Q s hx hy h q
  unfold dIsNot at h
  split at h
  · exact .inl ⟨hy, out_d s (d := .bl (!decide (x = .non))) rfl (by rw [repP_non hx]; exact h) q⟩
  · rename_i a b
    have ex : x = .bl a := hx
    subst ex
    exact .inr ⟨b, hy, .inr ⟨a, rfl⟩, out_d s (d := .bl (!decide (V.bl a = V.bl b))) rfl (by rw [bl_bl]; exact h) q⟩
  · rename_i b
    have ex : x = .non := hx
    subst ex
    exact .inr ⟨b, hy, .inl rfl, out_d s (d := .bl true) rfl h q⟩
  · exact h.elim
/-- a flat thing as a value -/
def D.flV : D → Option V
  | .non => some .non
  | .bl b => some (.bl b)
  | .int i => some (.int i)
  | .str s => some (.str s)
  | _ => none
def flVs : List D → Option (List V)
  | [] => some []
  | d :: r => (match d.flV with
    | some x => (match flVs r with
      | some l => some (x :: l)
      | none => none)
    | none => none)
def dIn (neg : Bool) : D → D → (O → Prop) → Prop
  | d, .lst ds, P => oth d.flV fun x => oth (flVs ds) fun xs => P (.fr (.bl (if neg then !inV x xs else inV x xs)))
  | d, .tup ds, P => oth d.flV fun x => oth (flVs ds) fun xs => P (.fr (.bl (if neg then !inV x xs else inV x xs)))
  | _, _, _ => False
theorem flV_ok {F H : Hp} {d : D} {x v : V} (e : d.flV = some v) (h : RepP F H d x) : x = v ∧ flatV v = true := by
  cases d <;> cases e <;> exact ⟨h, rfl⟩
theorem flVs_ok {F : Hp} : ∀ {ds : List D} {xs vs : List V}, flVs ds = some vs → RepL F ds xs → xs = vs ∧ vs.all flatV = true
  | [], xs, vs, e, h => by cases e; exact ⟨h, rfl⟩
  | d :: ds, xs, vs, e, ⟨x, r, ex, h, t⟩ => by
    unfold flVs at e
    cases q : d.flV with
    | none => rw [q] at e; cases e
    | some v =>
      rw [q] at e
      simp only at e
      cases q2 : flVs ds with
      | none => rw [q2] at e; cases e
      | some l =>
        rw [q2] at e
        cases e
        obtain ⟨h1, h2⟩ := flV_ok (H := F) q (h.toP (.refl _))
        obtain ⟨h3, h4⟩ := flVs_ok q2 t
        refine ⟨by rw [ex, h1, h3], ?_⟩
        rw [List.all_cons, h2, h4]
        rfl
theorem simr_in {neg : Bool} : SimR2 (rIn K neg) (dIn neg) := by
  intro F H x y d e P Q s hx hy h q
  cases e with
  | lst ds =>
    obtain ⟨v, e1, h⟩ := oth_ok h
    obtain ⟨vs, e2, h⟩ := oth_ok h
    obtain ⟨a, us, ea, ha, ra⟩ := hy
    obtain ⟨h1, h2⟩ := flV_ok e1 hx
    obtain ⟨h3, h4⟩ := flVs_ok e2 ra
    refine ⟨a, us, ea, .inl (SqL.of ha), by rw [h1]; exact h2, by rw [h3]; exact h4, ?_⟩
    rw [h1, h3]
    exact out_d s (d := .bl _) rfl h q
  | tup ds =>
    obtain ⟨v, e1, h⟩ := oth_ok h
    obtain ⟨vs, e2, h⟩ := oth_ok h
    obtain ⟨a, us, ea, ha, ra⟩ := hy
    obtain ⟨h1, h2⟩ := flV_ok e1 hx
    obtain ⟨h3, h4⟩ := flVs_ok e2 ra
    refine ⟨a, us, ea, .inr (SqT.of (s _ _ ha)), by rw [h1]; exact h2, by rw [h3]; exact h4, ?_⟩
    rw [h1, h3]
    exact out_d s (d := .bl _) rfl h q
  | _ => exact h.elim
/-! ### built-ins -/
def dLen : List D → (O → Prop) → Prop
  | [.lst ds], P => P (.fr (.int ds.length))
  | [.tup ds], P => P (.fr (.int ds.length))
  | [.dct _ ds], P => P (.fr (.int ds.length))
  | [.str s], P => s.length ≤ sizeLine ∧ P (.fr (.int s.length))
  | _, _ => False
theorem repM_len {F : Hp} : ∀ {ds : List (List Key × D)} {xs : List (List Key × V)}, RepM F ds xs → xs.length = ds.length
  | [], xs, h => by rw [show xs = [] from h]; rfl
  | (k, d) :: ds, xs, ⟨x, r, e, h, t⟩ => by rw [e, List.length_cons, List.length_cons, repM_len t]
theorem sim_len : SimRL (xLenG K) dLen := by
  intro F H xs ds P Q s hx h q
  match ds, hx, h with
  | [.lst ds], hx, h =>
    obtain ⟨x, ex, a, us, ea, ha, ra⟩ := repPL_1 hx
    exact .inl ⟨a, us, by rw [ex, ea], .inl (SqL.of ha), by rw [ra.length]; exact out_d s (d := .int ds.length) rfl h q⟩
  | [.tup ds], hx, h =>
    obtain ⟨x, ex, a, us, ea, ha, ra⟩ := repPL_1 hx
    exact .inl ⟨a, us, by rw [ex, ea], .inr (SqT.of (s _ _ ha)), by rw [ra.length]; exact out_d s (d := .int ds.length) rfl h q⟩
  | [.dct t ds], hx, h =>
    obtain ⟨x, ex, a, o, us, ea, ha, c, ra⟩ := repPL_1 hx
    have hq : Q (.int us.length) H := by rw [repM_len ra]; exact out_d s (d := .int ds.length) rfl h q
    cases t with
    | true => exact .inr (.inr (.inr ⟨a, us, by rw [ex, ea], rd_core ha c, hq⟩))
    | false =>
      obtain ⟨k0, c1, c2⟩ := c
      subst c2
      rw [List.length_map] at hq
      exact .inr (.inl ⟨a, k0, by rw [ex, ea], rd_core ha c1, hq⟩)
  | [.str z], hx, h =>
    obtain ⟨x, ex, ea⟩ := repPL_1 hx
    exact .inr (.inr (.inl ⟨z, by rw [ex, show x = _ from ea], h.1, out_d s (d := .int z.length) rfl h.2 q⟩))
def dAbs : List D → (O → Prop) → Prop
  | [.int i], P => P (.fr (.int (if i < 0 then -i else i)))
  | _, _ => False
def dInt : List D → (O → Prop) → Prop
  | [.int i], P => P (.fr (.int i))
  | [.bl b], P => P (.fr (.int (if b then 1 else 0)))
  | _, _ => False
theorem sim_intB : SimRL xInt dInt := by
  intro F H xs ds P Q s hx h q
  match ds, hx, h with
  | [.int i], hx, h =>
    obtain ⟨x, ex, ea⟩ := repPL_1 hx
    exact .inl ⟨i, by rw [ex, show x = _ from ea], out_d s (d := .int _) rfl h q⟩
  | [.bl i], hx, h =>
    obtain ⟨x, ex, ea⟩ := repPL_1 hx
    exact .inr ⟨i, by rw [ex, show x = _ from ea], out_d s (d := .int _) rfl h q⟩
def dTuple : List D → (O → Prop) → Prop
  | [.lst ds], P => P (.fr (.tup ds))
  | [.tup ds], P => P (.fr (.tup ds))
  | _, _ => False
def dList : List D → (O → Prop) → Prop
  | [.lst ds], P => P (.lst (ds.map .fr))
  | [.tup ds], P => P (.lst (ds.map .fr))
  | _, _ => False
theorem sim_tuple : SimRL (xTupleOf K) dTuple := by
  intro F H xs ds P Q s hx h q
  match ds, hx, h with
  | [.lst ds], hx, h =>
    obtain ⟨x, ex, a, us, ea, ha, ra⟩ := repPL_1 hx
    exact ⟨a, us, by rw [ex, ea], .inl ⟨SqL.of ha, fun l nl => out_tup s nl ra h q⟩⟩
  | [.tup ds], hx, h =>
    obtain ⟨x, ex, a, us, ea, ha, ra⟩ := repPL_1 hx
    exact ⟨a, us, by rw [ex, ea], .inr ⟨SqT.of (s _ _ ha), out_d s (d := .tup ds) ⟨a, us, rfl, ha, ra⟩ h q⟩⟩
theorem sim_list : SimRL (xListOf K) dList := by
  intro F H xs ds P Q s hx h q
  match ds, hx, h with
  | [.lst ds], hx, h =>
    obtain ⟨x, ex, a, us, ea, ha, ra⟩ := repPL_1 hx
    exact ⟨a, us, by rw [ex, ea], .inl (SqL.of ha), fun l nl => out_lst s nl ra h q⟩
  | [.tup ds], hx, h =>
    obtain ⟨x, ex, a, us, ea, ha, ra⟩ := repPL_1 hx
    exact ⟨a, us, by rw [ex, ea], .inr (SqT.of (s _ _ ha)), fun l nl => out_lst s nl ra h q⟩
def asBls : List D → Option (List Bool)
  | [] => some []
  | .bl i :: r => (match asBls r with
    | some l => some (i :: l)
    | none => none)
  | _ => none
theorem asBls_ok : ∀ {ds : List D} {ns : List Bool}, asBls ds = some ns → ds = ns.map .bl
  | [], ns, e => by cases e; rfl
  | .bl i :: r, ns, e => by
    unfold asBls at e
    cases q : asBls r with
    | none => rw [q] at e; cases e
    | some l => rw [q] at e; cases e; rw [asBls_ok q]; rfl
  | .non :: _, _, e => by cases e
  | .int _ :: _, _, e => by cases e
  | .str _ :: _, _, e => by cases e
  | .ty _ :: _, _, e => by cases e
  | .cls _ :: _, _, e => by cases e
  | .tup _ :: _, _, e => by cases e
  | .lst _ :: _, _, e => by cases e
  | .dct _ _ :: _, _, e => by cases e
  | .ins _ _ :: _, _, e => by cases e
theorem asBls_map : ∀ ns : List Bool, asBls (ns.map .bl) = some ns
  | [] => rfl
  | n :: ns => by
    show (match asBls (ns.map .bl) with
      | some l => some (n :: l)
      | none => none) = _
    rw [asBls_map ns]
def dAll : List D → (O → Prop) → Prop
  | [.lst ds], P => oth (asBls ds) fun bs => P (.fr (.bl (bs.all id)))
  | _, _ => False
theorem sim_all : SimRL (rAll K) dAll := by
  intro F H xs ds P Q s hx h q
  match ds, hx, h with
  | [.lst ds], hx, h =>
    obtain ⟨x, ex, a, us, ea, ha, ra⟩ := repPL_1 hx
    obtain ⟨bs, e1, h2⟩ := oth_ok h
    have := asBls_ok e1
    subst this
    exact ⟨a, bs, by rw [ex, ea], SqL.of (by rw [← ra.bls]; exact ha), out_d s (d := .bl _) rfl h2 q⟩
end

/-! ### parts: xs[i], o.f -/
def ixR (r1 : R) (k : Int) (env : DEnv) (P : R → Prop) : Prop := match peek r1 env with
  | some (.lst ds) => oth (atI ds k) fun d => P (.d d)
  | some (.tup ds) => oth (atI ds k) fun d => P (.d d)
  | some (.str z) => z.length ≤ sizeLine ∧ oth (atI z.cps.toList k) fun c => P (.d (.str ⟨#[c]⟩))
  | _ => (match r1 with
    | .p i path => oth (contAt env i path) fun u => (match u with
      | .lst os => oth (ixN os.length k) fun j => oth os[j]? fun o => (match o with
        | .fr d => P (.d d)
        | _ => P (.p i (path ++ [.ix j])))
      | _ => False)
    | _ => False)
def asI (r : R) (env : DEnv) (P : Int → Prop) : Prop := oth (peek r env) fun d => match d with
  | .int k => P k
  | _ => False
/-- the index leaves the slots -/
def dIx (da db : DTE) : DTE := fun env P X => da env (fun r1 env1 => db env1 (fun r2 env2 => asI r2 env2 fun k => ixR r1 k env2 fun r => P r env2) X) X
/-- the whole row stays data -/
def dIxE (da db : DTE) : DTE := fun env P X => da env (fun r1 env1 => nrm r1 fun r1 => db env1 (fun r2 env2 => asI r2 env2 fun k => ixR r1 k env2 fun r => P r env2) X) X
theorem asI_ok {F H : Hp} {env : DEnv} {σ : L2.St} {A C : List Addr} {r : R} {x : V} {P : Int → Prop} (g : Good F H env σ A) (hr : RepR F H σ A r x C) (h : asI r env P) : ∃ k, x = .int k ∧ P k := by
  obtain ⟨d, e, h⟩ := oth_ok h
  have rp := peek_ok g hr e
  cases d with
  | int k => exact ⟨k, rp, h⟩
  | _ => exact h.elim
theorem PathV.snoc {H : Hp} {s : PSt} {z : V} : ∀ {p : List PSt} {y x : V}, PathV H y p x → PathV H x [s] z → PathV H y (p ++ [s]) z
  | [], _, _, h, k => by rw [show _ = _ from h]; exact k
  | .ix j :: p, _, _, ⟨a, xs, w, e, h, hz, t⟩, k => ⟨a, xs, w, e, h, hz, PathV.snoc t k⟩
  | .fld f :: p, _, _, ⟨a, C, dx, fs, w, e, h, hz, t⟩, k => ⟨a, C, dx, fs, w, e, h, hz, PathV.snoc t k⟩
  | .key j :: p, _, _, ⟨a, o, t, kvs, w, e, h, dc, hz, tt⟩, k => ⟨a, o, t, kvs, w, e, h, dc, hz, PathV.snoc tt k⟩
theorem ixR_ok {K : PySem.W.Frag} {F H : Hp} {env : DEnv} {σ : L2.St} {A C : List Addr} {r : R} {x : V} {k : Int} {P : R → Prop} {Q : VK} (g : Good F H env σ A) (hr : RepR F H σ A r x C) (h : ixR r k env P)
    (q : ∀ z r', RepR F H σ A r' z [] → P r' → Q z H) : rIx K x (.int k) H Q := by
  unfold ixR at h
  split at h
  · rename_i ds e
    obtain ⟨a, xs, ex, ha, rl⟩ := peek_ok g hr e
    obtain ⟨d, ed, h⟩ := oth_ok h
    unfold atI at ed
    obtain ⟨j, ej, ed⟩ := Option.bind_eq_some_iff.mp ed
    obtain ⟨z, hz, rz⟩ := rl.get ed
    refine .inl ⟨a, xs, k, z, ex, rfl, SqL.of ha, ?_, q z (.d d) (.dat g rz) h⟩
    unfold atI
    rw [rl.length, ej]
    exact hz
  · rename_i ds e
    obtain ⟨a, xs, ex, ha, rl⟩ := peek_ok g hr e
    obtain ⟨d, ed, h⟩ := oth_ok h
    unfold atI at ed
    obtain ⟨j, ej, ed⟩ := Option.bind_eq_some_iff.mp ed
    obtain ⟨z, hz, rz⟩ := rl.get ed
    refine .inr (.inl ⟨a, xs, k, z, ex, rfl, SqT.of (g.sub _ _ ha), ?_, q z (.d d) (.dat g rz) h⟩)
    unfold atI
    rw [rl.length, ej]
    exact hz
  · rename_i z e
    have ex := peek_ok g hr e
    obtain ⟨c, ec, h2⟩ := oth_ok h.2
    exact .inr (.inr ⟨z, k, c, ex, rfl, h.1, ec, q _ (.d (.str ⟨#[c]⟩)) (.dat g (d := .str ⟨#[c]⟩) rfl) h2⟩)
  · cases r with
    | o _ => exact h.elim
    | p i path =>
      obtain ⟨u, eu, h⟩ := oth_ok h
      cases u with
      | lst os =>
        obtain ⟨j, ej, h⟩ := oth_ok h
        obtain ⟨o, eo, h⟩ := oth_ok h
        obtain ⟨eC, y, hy, hv⟩ := hr
        obtain ⟨s, o0, q1, q2, q3⟩ := contAt_ok eu
        obtain ⟨B, R, k1, k2, _⟩ := g.rep.focus q1 q2 q3 hy hv
        obtain ⟨a, xs, B1, ea, eB, hx, rl⟩ := k1
        obtain ⟨z, Bz, Rz, hz, rz, _⟩ := rl.focus eo
        refine .inl ⟨a, xs, k, z, ea, rfl, SqL.of hx, ?_, ?_⟩
        · unfold atI
          rw [rl.len, ej]
          exact hz
        · have pth : RepR F H σ A (.p i (path ++ [.ix j])) z [] := ⟨rfl, y, hy, hv.snoc ⟨a, xs, z, ea, hx, hz, rfl⟩⟩
          cases o with
          | fr d => exact q z (.d d) (.dat g rz.2) h
          | lst _ => exact q z _ pth h
          | dct _ _ => exact q z _ pth h
          | ins _ _ => exact q z _ pth h
      | _ => exact h.elim
section
variable {W : WX} {K : PySem.W.Frag} {ta tb : TE} {da db : DTE}
theorem simp_ix (ha : SimP ta da) (hb : SimP tb db) : SimP (tOp (rIx K) ta tb) (dIx da db) := by
  intro F H env σ A Q P X g h k
  refine ha F H env σ A _ _ X g h fun x r1 F1 H1 C1 x1 rr1 h1 => ?_
  have g1 := x1.good g
  refine hb F1 H1 env σ A _ _ X g1 h1 fun y r2 F3 H3 C3 e3 rr3 h3 => ?_
  have g3 := e3.good g1
  obtain ⟨i, ei, h4⟩ := asI_ok g3 rr3 h3
  subst ei
  exact ixR_ok g3 (rr1.ext e3) h4 fun z r' rz hp => k z r' F3 H3 [] ((x1.trans e3).noC fun _ h => nomatch h) rz hp
theorem sim_ixE (ha : SimE W ta da) (hb : SimE W tb db) : SimE W (tOp (rIx K) ta tb) (dIxE da db) := by
  intro F H env σ A Q P X g h xo k
  refine ha F H env σ A _ _ X g h xo fun x r1 env1 F1 H1 A1 C1 g1 s1 rr1 h1 => ?_
  obtain ⟨F2, r1', h2, g2, s2, p2⟩ := nrm_ok g1 rr1 h1
  have s12 := s1.trans s2
  refine hb F2 H1 env1 σ A1 _ _ X g2 h2 (xo.step s12) fun y r2 env2 F3 H3 A3 C3 g3 s3 rr3 h3 => ?_
  obtain ⟨i, ei, h4⟩ := asI_ok g3 rr3 h3
  subst ei
  exact ixR_ok g3 ((p2.mono s3.f).rep g3) h4 fun z r' rz hp => k z r' env2 F3 H3 A3 [] g3 (s12.trans (s3.mem fun a m => by rw [List.append_nil] at m; exact List.mem_append_left _ m)) rz hp
end
/-! ### fields -/
def fldR (Cs : List Addr) (f : Str) (r : R) (env : DEnv) (P : R → Prop) : Prop := match peek r env with
  | some (.ins C gs) => C ∈ Cs ∧ oth (gs.lookup f) fun d => P (.d d)
  | _ => (match r with
    | .p i path => oth (contAt env i path) fun u => (match u with
      | .ins C gs => C ∈ Cs ∧ oth (gs.lookup f) fun o => (match o with
        | .fr d => P (.d d)
        | _ => P (.p i (path ++ [.fld f])))
      | _ => False)
    | _ => False)
def dFld (Cs : List Addr) (f : Str) (da : DTE) : DTE := fun env P X => da env (fun r env1 => fldR Cs f r env1 fun r' => P r' env1) X
theorem fldR_ok {K : PySem.W.Frag} {Cs : List Addr} {f : Str} {F H : Hp} {env : DEnv} {σ : L2.St} {A C : List Addr} {r : R} {x : V} {P : R → Prop} {Q : VK} (hC : ∀ C ∈ Cs, Cls K C ∧ NoAttr K C f) (g : Good F H env σ A) (hr : RepR F H σ A r x C) (h : fldR Cs f r env P)
    (q : ∀ z r', RepR F H σ A r' z [] → P r' → Q z H) : ∃ a C dx fs v, x = .ref a ∧ H a = some (.ins C dx fs) ∧ Cls K C ∧ NoAttr K C f ∧ fs.lookup f = some v ∧ Q v H := by
  unfold fldR at h
  split at h
  · rename_i c gs e
    obtain ⟨a, dx, fs, ex, ha, rl⟩ := peek_ok g hr e
    obtain ⟨d, ed, h2⟩ := oth_ok h.2
    obtain ⟨z, hz, rz⟩ := rl.lookup ed
    exact ⟨a, c, dx, fs, z, ex, ha, (hC c h.1).1, (hC c h.1).2, hz, q z (.d d) (.dat g rz) h2⟩
  · cases r with
    | o _ => exact h.elim
    | p i path =>
      obtain ⟨u, eu, h⟩ := oth_ok h
      cases u with
      | ins c gs =>
        obtain ⟨hc, h⟩ := h
        obtain ⟨o, eo, h⟩ := oth_ok h
        obtain ⟨eC, y, hy, hv⟩ := hr
        obtain ⟨s, o0, q1, q2, q3⟩ := contAt_ok eu
        obtain ⟨B, R, k1, k2, _⟩ := g.rep.focus q1 q2 q3 hy hv
        obtain ⟨a, dx, xs, B1, ea, eB, hx, rl⟩ := k1
        obtain ⟨z, Bz, Rz, hz, rz, _⟩ := rl.focus eo
        refine ⟨a, c, dx, xs, z, ea, hx, (hC c hc).1, (hC c hc).2, hz, ?_⟩
        have pth : RepR F H σ A (.p i (path ++ [.fld f])) z [] := ⟨rfl, y, hy, hv.snoc ⟨a, c, dx, xs, z, ea, hx, hz, rfl⟩⟩
        cases o with
        | fr d => exact q z (.d d) (.dat g rz.2) h
        | lst _ => exact q z _ pth h
        | dct _ _ => exact q z _ pth h
        | ins _ _ => exact q z _ pth h
      | _ => exact h.elim
section
variable {W : WX} {K : PySem.W.Frag} {ta : TE} {da : DTE} {Cs : List Addr} {f : Str}
theorem simp_fld (hC : ∀ C ∈ Cs, Cls K C ∧ NoAttr K C f) (ha : SimP ta da) : SimP (tFld K ta f) (dFld Cs f da) := by
  intro F H env σ A Q P X g h k
  refine ha F H env σ A _ _ X g h fun x r1 F1 H1 C1 x1 rr1 h1 => ?_
  exact fldR_ok hC (x1.good g) rr1 h1 fun z r' rz hp => k z r' F1 H1 [] (x1.noC fun _ h => nomatch h) rz hp
end
/-- self.f = e -/
def putFD {α : Type} (f : Str) (v : α) : List (Str × α) → List (Str × α)
  | [] => [(f, v)]
  | (g, x) :: r => if g = f then (g, v) :: r else (g, x) :: putFD f v r
def dSetF (Cs : List Addr) (i : Nat) (f : Str) (de : DTE) : DTS := fun DD env => de env (fun r env1 => toO r env1 fun o env2 => oth (contAt env2 i []) fun u => match u with
  | .ins C gs => (C ∈ Cs ∧ gs.length < 1000) ∧ DD.nx (setAt env2 i [] (.ins C (putFD f o gs)))
  | _ => False) DD.ex
theorem RepOF.len {F H : Hp} : ∀ {os : List (Str × O)} {xs : List (Str × V)} {A : List Addr}, RepOF F H os xs A → xs.length = os.length
  | [], _, _, ⟨e, _⟩ => by rw [e]; rfl
  | (k, o) :: os, _, _, ⟨x, r, B, C, e, _, _, t⟩ => by rw [e, List.length_cons, List.length_cons, RepOF.len t]
theorem RepOF.putF {F H : Hp} {f : Str} {o : O} {x : V} {C : List Addr} (ro : RepO F H o x C) : ∀ {os : List (Str × O)} {xs : List (Str × V)} {B : List Addr}, RepOF F H os xs B → (B ++ C).Nodup → ∃ B', RepOF F H (putFD f o os) (putF f x xs) B' ∧ B'.Nodup ∧ ∀ a ∈ B', a ∈ B ∨ a ∈ C
  | [], xs, B, ⟨e, eB⟩, nd => by
    rw [e]
    refine ⟨C ++ [], ⟨x, [], C, [], rfl, rfl, ro, rfl, rfl⟩, by rw [List.append_nil]; exact nodup_r nd, fun a m => by rw [List.append_nil] at m; exact .inr m⟩
  | (k, u) :: os, xs, B, ⟨y, r, B1, C1, e, eB, h, t⟩, nd => by
    rw [eB] at nd
    rw [List.append_assoc] at nd
    by_cases q : k = f
    · rw [e]
      unfold putFD L2.putF
      rw [if_pos q, if_pos q]
      refine ⟨C ++ C1, ⟨x, r, C, C1, rfl, rfl, ro, t⟩, (List.perm_append_comm.nodup_iff.mp (nodup_r nd)), fun a m => ?_⟩
      rcases List.mem_append.mp m with m | m
      · exact .inr m
      · exact .inl (by rw [eB]; exact List.mem_append_right _ m)
    · obtain ⟨B', h1, h2, h3⟩ := RepOF.putF ro t (nodup_r nd)
      rw [e]
      unfold putFD L2.putF
      rw [if_neg q, if_neg q]
      refine ⟨B1 ++ B', ⟨y, _, B1, B', rfl, rfl, h, h1⟩, List.nodup_append.mpr ⟨nodup_l nd, h2, fun a ha b hb z => ?_⟩, fun a m => ?_⟩
      · subst z
        exact nodup_d nd ha ((h3 a hb).elim (fun m => List.mem_append_left _ m) fun m => List.mem_append_right _ m)
      · rcases List.mem_append.mp m with m | m
        · exact .inl (by rw [eB]; exact List.mem_append_left _ m)
        · exact (h3 a m).elim (fun z => .inl (by rw [eB]; exact List.mem_append_right _ z)) .inr
theorem RepOF.upd {F H : Hp} {a : Addr} {u : HO} {os : List (Str × O)} {xs : List (Str × V)} {B : List Addr} (n : a ∉ B) (h : RepOF F H os xs B) : RepOF F (L2.upd H a u) os xs B := h.stay ⟨.refl _, fun b m o e => by rw [upd_ne (fun z => n (by rw [← z]; exact m))]; exact e⟩
theorem sim_setF {W : WX} {K : PySem.W.Frag} {te : TE} {de : DTE} {Cs : List Addr} {i : Nat} {f : Str} (hC : ∀ C ∈ Cs, Cls K C ∧ NoAttr K C f) (he : SimE W te de) : SimS W (sFld K (tVar i) te f) (dSetF Cs i f de) := by
  intro F H env σ A E DD g h eo
  refine he F H env σ A _ _ _ g h eo.ex fun y r env1 F1 H1 A1 C1 g1 s1 rr1 h1 => ?_
  obtain ⟨F2, A2, o, env2, C2, h2, g2, s2, r2⟩ := toO_ok g1 rr1 h1
  have s12 := s1.trans s2
  obtain ⟨u, eu, h3⟩ := oth_ok h2
  obtain ⟨v, hv⟩ := var_there g2 eu
  refine ⟨v, hv, ?_⟩
  cases u with
  | ins c gs =>
    obtain ⟨⟨hc, hl⟩, h3⟩ := h3
    obtain ⟨s, o0, e1, e2, e3⟩ := contAt_ok eu
    obtain ⟨B, R, k1, k2, _⟩ := g2.rep.focus e1 e2 e3 hv rfl
    obtain ⟨a, dx, fs, B1, ex, eB, hx, rl⟩ := k1
    have mA : a ∈ A2 := k2.mem_iff.mpr (List.mem_append_left _ (by rw [eB]; exact List.mem_cons_self))
    refine ⟨a, c, dx, fs, ex, hx, (hC c hc).1, (hC c hc).2, by rw [rl.len]; exact hl, ?_⟩
    have sepC : ∀ b ∈ C2, b ∉ A2 ∧ F2 b = none := fun b m => ⟨fun z => nodup_d r2.2.1 z m, r2.2.2 b m⟩
    obtain ⟨A', g', s'⟩ := g2.write (H' := upd H1 a (.ins c dx (L2.putF f y fs))) (o2 := .ins c (putFD f o gs)) eu ⟨v, hv, rfl⟩ sepC (nodup_r r2.2.1) (same_own g2.sub (g2.dis a mA)) (fun b => upd_free) (fun B0 R0 b1 b2 b3 => by
      obtain ⟨a', dx', fs', B1', ex', eB', hx', rl'⟩ := b1
      rw [ex] at ex'
      cases ex'
      rw [hx] at hx'
      cases hx'
      have ndB := nodup_l b3
      rw [eB'] at ndB
      have naB := (List.nodup_cons.mp ndB).1
      have mB0 : ∀ b ∈ B0, b ∈ A2 := fun b m => b2.mem_iff.mpr (List.mem_append_left _ m)
      have naC : a ∉ C2 := fun z => (sepC a z).1 mA
      have ndBC : (B1' ++ C2).Nodup := List.nodup_append.mpr ⟨(List.nodup_cons.mp ndB).2, nodup_r r2.2.1, fun b hb c hc z => by subst z; exact (sepC b hc).1 (mB0 b (by rw [eB']; exact List.mem_cons_of_mem _ hb))⟩
      obtain ⟨B', q1, q2, q3⟩ := RepOF.putF (f := f) (r2.1.upd (u := .ins c dx (L2.putF f y fs)) naC) (rl'.upd (u := .ins c dx (L2.putF f y fs)) naB) ndBC
      refine ⟨fun b o e n => by rw [upd_ne (fun z => n (by rw [z, eB']; exact List.mem_cons_self))]; exact e, a :: B', ⟨a, dx, _, B', ex, rfl, upd_same, q1⟩, List.nodup_cons.mpr ⟨fun m => (q3 a m).elim naB naC, q2⟩, fun b m => ?_⟩
      rcases List.mem_cons.mp m with m | m
      · exact .inl (by rw [m, eB']; exact List.mem_cons_self)
      · exact (q3 b m).elim (fun z => .inl (by rw [eB']; exact List.mem_cons_of_mem _ z)) .inr)
    exact eo.nx _ σ F2 _ A' g' (s12.trans s') h3
  | _ => exact h3.elim
/-! ### slices -/
abbrev DTO := DEnv → (Option Int → DEnv → Prop) → DX → Prop
def SimO (t : TO) (d : DTO) : Prop := ∀ (F H : Hp) (env : DEnv) (σ : L2.St) (A : List Addr) (Q : Option Int → Hp → Prop) (P : Option Int → DEnv → Prop) (X : DX), Good F H env σ A → d env P X →
  (∀ o F' H', Ext F H F' H' [] → P o env → Q o H') → t σ H Q
def dNoPart : DTO := fun env P _ => P none env
def dPart (da : DTE) : DTO := fun env P X => da env (fun r env1 => asI r env1 fun k => P (some k) env1) X
theorem sim_noPart : SimO tNoPart dNoPart := fun F H env σ A Q P X g h k => k none F H (.refl g.sub) h
theorem sim_part {ta : TE} {da : DTE} (ha : SimP ta da) : SimO (tPart ta) (dPart da) := by
  intro F H env σ A Q P X g h k
  refine ha F H env σ A _ _ X g h fun x r1 F1 H1 C1 x1 rr1 h1 => ?_
  obtain ⟨i, ei, h2⟩ := asI_ok (x1.good g) rr1 h1
  exact ⟨i, ei, k (some i) F1 H1 (x1.noC fun _ h => nomatch h) h2⟩
def cutD (ds : List D) (lo hi : Option Int) : List D := (ds.drop (HT.sIx ds.length 0 lo)).take (HT.sIx ds.length ds.length hi - HT.sIx ds.length 0 lo)
def slR (d : D) (lo hi : Option Int) (P : O → Prop) : Prop := match d with
  | .lst ds => P (.lst ((cutD ds lo hi).map .fr))
  | .tup ds => P (.fr (.tup (cutD ds lo hi)))
  | .str z => z.length ≤ sizeLine ∧ P (.fr (.str (cutS z lo hi)))
  | _ => False
def dSl (da : DTE) (dl dh : DTO) : DTE := fun env P X => da env (fun r env1 => dl env1 (fun lo env2 => dh env2 (fun hi env3 => oth (peek r env3) fun d => slR d lo hi fun o => P (.o o) env3) X) X) X
theorem repL_cut {F : Hp} {ds : List D} {xs : List V} {lo hi : Option Int} (h : RepL F ds xs) : RepL F (cutD ds lo hi) (cutV xs lo hi) := by
  unfold cutD cutV
  rw [h.length]
  exact (h.drop _).take _
theorem sim_sl {W : WX} {K : PySem.W.Frag} {ta : TE} {da : DTE} {tl th : TO} {dl dh : DTO} (ha : SimE W ta da) (hl : SimO tl dl) (hh : SimO th dh) : SimE W (tSl (xSlG K) ta tl th) (dSl da dl dh) := by
  intro F H env σ A Q P X g h xo k
  refine ha F H env σ A _ _ X g h xo fun x r1 env1 F1 H1 A1 C1 g1 s1 rr1 h1 => ?_
  refine hl F1 H1 env1 σ A1 _ _ X g1 h1 fun lo F2 H2 x2 h2 => ?_
  have g2 := x2.good g1
  refine hh F2 H2 env1 σ A1 _ _ X g2 h2 fun hi F3 H3 x3 h3 => ?_
  have g3 := x3.good g2
  have x23 := (x2.trans x3).noC (C' := []) fun _ h => nomatch h
  obtain ⟨d, ed, h4⟩ := oth_ok h3
  have rp := peek_ok g3 (rr1.ext x23) ed
  have s3 := (s1.mem fun a m => List.mem_append_left _ m).trans ((x23.step (env := env1) (σ := σ) (A := A1)).mem fun a m => List.mem_append_left _ m)
  have fin : ∀ z o F' H' C, Ext F3 H3 F' H' C → RepO F' H' o z C → C.Nodup → (∀ a ∈ C, F' a = none) → P (.o o) env1 → Q z H' := fun z o F' H' C x4 ro nd dis h6 => k z (.o o) env1 F' H' A1 C (x4.good g3) (s3.trans x4.step) (.new g3 x4 ro nd dis) h6
  cases d with
  | lst ds =>
    obtain ⟨a, xs, ex, ha, rl⟩ := rp
    exact .inl ⟨a, xs, ex, SqL.of ha, fun p np => out_lst (P := fun o => P (.o o) env1) g3.sub np (repL_cut rl) h4 fin⟩
  | tup ds =>
    obtain ⟨a, xs, ex, ha, rl⟩ := rp
    refine .inr (.inl ⟨a, xs, ex, SqT.of (g3.sub _ _ ha), fun w => ?_, fun _ p np => out_tup (P := fun o => P (.o o) env1) g3.sub np (repL_cut rl) h4 fin⟩)
    have e : cutV xs lo hi = xs := by
      unfold cutV
      rw [w.1, w.2]
      show (xs.drop 0).take (xs.length - 0) = xs
      rw [Nat.sub_zero]
      exact List.take_length
    have rc := repL_cut (lo := lo) (hi := hi) rl
    rw [e] at rc
    exact out_d (P := fun o => P (.o o) env1) g3.sub (d := .tup (cutD ds lo hi)) ⟨a, xs, rfl, ha, rc⟩ h4 fin
  | str z => exact .inr (.inr ⟨z, rp, h4.1, out_d (P := fun o => P (.o o) env1) g3.sub (d := .str _) rfl h4.2 fin⟩)
  | _ => exact h4.elim

/-! ### sorted, isinstance, ranges as rows -/
def prD (p : Int × Int) : D := .tup [.int p.1, .int p.2]
def asPr : D → Option (Int × Int)
  | .tup [.int a, .int b] => some (a, b)
  | _ => none
theorem asPr_ok {d : D} {p : Int × Int} (h : asPr d = some p) : d = prD p := by
  unfold asPr at h
  split at h
  · cases h; rfl
  · cases h
def asPrs : List D → Option (List (Int × Int))
  | [] => some []
  | d :: r => (match asPr d with
    | some p => (match asPrs r with
      | some l => some (p :: l)
      | none => none)
    | none => none)
theorem asPrs_ok : ∀ {ds : List D} {ps : List (Int × Int)}, asPrs ds = some ps → ds = ps.map prD
  | [], ps, e => by cases e; rfl
  | d :: r, ps, e => by
    unfold asPrs at e
    cases q0 : asPr d with
    | none => rw [q0] at e; cases e
    | some p =>
      rw [q0] at e
      dsimp only at e
      cases q : asPrs r with
      | none => rw [q] at e; cases e
      | some l => rw [q] at e; cases e; rw [asPrs_ok q, asPr_ok q0]; rfl
theorem asPrs_map : ∀ ps : List (Int × Int), asPrs (ps.map prD) = some ps
  | [] => rfl
  | (a, b) :: ps => by
    show (match asPrs (ps.map prD) with
      | some l => some ((a, b) :: l)
      | none => none) = _
    rw [asPrs_map ps]
def dSorted : List D → (O → Prop) → Prop
  | [.lst ds], P => (match asInts ds with
    | some ns => ∀ ms : List Int, ms.Perm ns → ms.Pairwise (· ≤ ·) → P (.lst (ms.map fun i => .fr (.int i)))
    | none => oth (asPrs ds) fun ps => ∀ qs : List (Int × Int), qs.Perm ps → qs.Pairwise (fun a b => a.1 < b.1 ∨ a.1 = b.1 ∧ a.2 ≤ b.2) → P (.lst (qs.map fun p => .fr (prD p))))
  | [.tup ds], P => oth (asInts ds) fun ns => ∀ ms : List Int, ms.Perm ns → ms.Pairwise (· ≤ ·) → P (.lst (ms.map fun i => .fr (.int i)))
  | _, _ => False
/-- a thing told apart by its data -/
def pairAt (F : Hp) (x : V) : Int × Int := match x with
  | .ref t => (match F t with
    | some (.tup [.int a, .int b]) => (a, b)
    | _ => (0, 0))
  | _ => (0, 0)
theorem repL_prs {F : Hp} : ∀ {ps : List (Int × Int)} {xs : List V}, RepL F (ps.map prD) xs → xs.map (pairAt F) = ps ∧ ∀ x ∈ xs, ∃ t, x = .ref t ∧ F t = some (.tup [.int (pairAt F x).1, .int (pairAt F x).2])
  | [], xs, h => by rw [show xs = [] from h]; exact ⟨rfl, fun _ h => nomatch h⟩
  | (a, b) :: ps, xs, ⟨x, r, e, ⟨t, us, ex, ht, ru⟩, q⟩ => by
    obtain ⟨h1, h2⟩ := repL_prs q
    have eu : us = [.int a, .int b] := ru.ints (ns := [a, b])
    subst eu
    subst ex
    have ep : pairAt F (.ref t) = (a, b) := by
      show (match F t with
        | some (.tup [.int a, .int b]) => (a, b)
        | _ => (0, 0)) = _
      rw [ht]
    rw [e]
    refine ⟨by rw [List.map_cons, ep, h1], fun y hy => ?_⟩
    rcases List.mem_cons.mp hy with z | hy
    · rw [z, ep]
      exact ⟨t, rfl, ht⟩
    · exact h2 y hy
theorem repL_ofPrs {F : Hp} : ∀ {xs : List V}, (∀ x ∈ xs, ∃ t, x = .ref t ∧ F t = some (.tup [.int (pairAt F x).1, .int (pairAt F x).2])) → RepL F ((xs.map (pairAt F)).map prD) xs
  | [], _ => rfl
  | x :: r, h => by
    obtain ⟨t, e, ht⟩ := h x List.mem_cons_self
    have ih := repL_ofPrs fun y hy => h y (List.mem_cons_of_mem _ hy)
    exact ⟨x, r, rfl, ⟨t, _, e, ht, ⟨_, _, rfl, rfl, ⟨_, _, rfl, rfl, rfl⟩⟩⟩, ih⟩
section
variable {K : PySem.W.Frag}
theorem sim_sorted : SimRL (xSortG K) dSorted := by
  intro F H xs ds P Q s hx h q
  have iN : ∀ (a : Addr) (us : List V) (ns : List Int), us = ns.map V.int → (∀ ms : List Int, ms.Perm ns → ms.Pairwise (· ≤ ·) → P (.lst (ms.map fun i => .fr (.int i)))) →
      ∀ (ns' : List Int) (p : Addr), ns'.Perm ns → ns'.Pairwise (· ≤ ·) → H p = none → Q (.ref p) (upd H p (.lst (ns'.map V.int))) := fun a us ns e h ms p pm pw np => by
    have := h ms pm pw
    rw [show (ms.map fun i => O.fr (.int i)) = (ms.map D.int).map .fr by rw [List.map_map]; rfl] at this
    exact out_lst s np (.ofInts ms) this q
  match ds, hx, h with
  | [.lst ds], hx, h =>
    obtain ⟨x, ex, a, us, ea, ha, ra⟩ := repPL_1 hx
    unfold dSorted at h
    dsimp only at h
    cases e1 : asInts ds with
    | some ns =>
      rw [e1] at h
      have e2 := repL_ints' (asInts_ok e1) ra
      exact .inl ⟨a, ns, by rw [ex, ea], SqL.of (by rw [← e2]; exact ha), iN a us ns e2 h⟩
    | none =>
      rw [e1] at h
      dsimp only at h
      obtain ⟨ps, e2, hs⟩ := oth_ok h
      have e3 := asPrs_ok e2
      subst e3
      obtain ⟨k1, k2⟩ := repL_prs ra
      refine .inr (.inr ⟨a, us, pairAt F, by rw [ex, ea], SqL.of ha, fun x hx => let ⟨t, e, ht⟩ := k2 x hx; ⟨t, e, s _ _ ht⟩, fun ys p so st np => ?_⟩)
      have hm : ∀ x ∈ ys, ∃ t, x = .ref t ∧ F t = some (.tup [.int (pairAt F x).1, .int (pairAt F x).2]) := fun x hx => k2 x (st.perm.mem_iff.mp hx)
      have pm : (ys.map (pairAt F)).Perm ps := by
        have := st.perm.map (pairAt F)
        rw [k1] at this
        exact this
      have pw : (ys.map (pairAt F)).Pairwise (fun a b => a.1 < b.1 ∨ a.1 = b.1 ∧ a.2 ≤ b.2) := by
        refine List.pairwise_map.mpr (so.imp fun {x y} h => ?_)
        have := SrtO.lexB_no.mp h
        omega
      have hp := hs _ pm pw
      rw [show ((ys.map (pairAt F)).map fun p => O.fr (prD p)) = ((ys.map (pairAt F)).map prD).map .fr by simp only [List.map_map]; rfl] at hp
      exact out_lst s np (repL_ofPrs hm) hp q
  | [.tup ds], hx, h =>
    obtain ⟨x, ex, a, us, ea, ha, ra⟩ := repPL_1 hx
    unfold dSorted at h
    obtain ⟨ns, e1, h⟩ := oth_ok h
    have e2 := repL_ints' (asInts_ok e1) ra
    exact .inr (.inl ⟨a, ns, by rw [ex, ea], SqT.of (by rw [← e2]; exact s _ _ ha), iN a us ns e2 h⟩)
end
/-! ### isinstance -/
def D.kind : D → Option String
  | .non => some "NoneType"
  | .bl _ => some "bool"
  | .int _ => some "int"
  | .str _ => some "str"
  | .lst _ => some "list"
  | .tup _ => some "tuple"
  | .dct false _ => some "dict"
  | _ => none
theorem kind_ok {F H : Hp} {d : D} {x : V} {s : String} (sm : Same F H) (e : d.kind = some s) (h : RepP F H d x) : Kind H x s := by
  cases d with
  | non => cases e; rw [show x = _ from h]; exact .non
  | bl b => cases e; rw [show x = _ from h]; exact .bl b
  | int b => cases e; rw [show x = _ from h]; exact .int b
  | str b => cases e; rw [show x = _ from h]; exact .str b
  | lst ds => cases e; obtain ⟨a, us, ea, ha, _⟩ := h; rw [ea]; exact .lst ha
  | tup ds => cases e; obtain ⟨a, us, ea, ha, _⟩ := h; rw [ea]; exact .tup (sm _ _ ha)
  | dct t ds =>
    cases t with
    | true => cases e
    | false =>
      cases e
      obtain ⟨a, o, us, ea, ha, ⟨k0, c1, _⟩, _⟩ := h
      rw [ea]
      rcases rd_core ha c1 with z | ⟨o', z⟩
      · exact .dK z
      · exact .dF z
  | _ => cases e
def okTy (T : String) : Prop := T = "int" ∨ T = "bool" ∨ T = "tuple" ∨ T = "list" ∨ T = "dict" ∨ T = "str"
/-- what is known of a class of the program: isinstance tells its own from what is built in, and from one another -/
structure ClsOk (K : PySem.W.Frag) (Cs : List Addr) : Prop where
  own : ∀ C ∈ Cs, OwnC K C
  ty : ∀ C ∈ Cs, ∀ T, okTy T → PySem.W.kitOne K (.ref C) (.type T) = some false
  ne : ∀ C ∈ Cs, ∀ C' ∈ Cs, C ≠ C' → PySem.W.kitOne K (.ref C) (.ref C') = some false
inductive Ask where
  | ty (T : String) | cls (C : Addr) | tt (S T : String)
def D.ask : D → Option Ask
  | .ty T => some (.ty T)
  | .cls C => some (.cls C)
  | .tup [.ty S, .ty T] => some (.tt S T)
  | _ => none
def D.cl : D → Option Addr
  | .ins C _ => some C
  | _ => none
def isiA (Cs : List Addr) (d : D) (a : Ask) (P : O → Prop) : Prop := match d.cl with
  | some C => C ∈ Cs ∧ (match a with
    | .ty T => okTy T ∧ P (.fr (.bl false))
    | .cls C' => C' ∈ Cs ∧ P (.fr (.bl (decide (C = C'))))
    | .tt S T => (okTy S ∧ okTy T) ∧ P (.fr (.bl false)))
  | none => oth d.kind fun s => (match a with
    | .ty T => okTy T ∧ P (.fr (.bl (isA s T)))
    | .cls C' => C' ∈ Cs ∧ P (.fr (.bl false))
    | .tt S T => (okTy S ∧ okTy T) ∧ P (.fr (.bl (isA s S || isA s T))))
def dIsi (Cs : List Addr) : List D → (O → Prop) → Prop
  | [d, c], P => oth c.ask fun a => isiA Cs d a P
  | _, _ => False
theorem ask_ok {F H : Hp} {c : D} {y : V} {a : Ask} (s : Same F H) (e : c.ask = some a) (h : RepP F H c y) : match a with
    | .ty T => y = .ty T
    | .cls C => y = .ref C
    | .tt S T => ∃ t, y = .ref t ∧ H t = some (.tup [.ty S, .ty T]) := by
  unfold D.ask at e
  split at e
  · cases e; exact h
  · cases e; exact h
  · cases e
    obtain ⟨t, us, ey, ht, u, r, e1, e2, w, r2, e3, e4, e5⟩ := h
    refine ⟨t, ey, ?_⟩
    rw [s _ _ ht, e1, show u = _ from e2, e3, show w = _ from e4, show r2 = _ from e5]
  · cases e
theorem cl_ok {F H : Hp} {d : D} {x : V} {C : Addr} (e : d.cl = some C) (h : RepP F H d x) : ∃ a dx fs, x = .ref a ∧ H a = some (.ins C dx fs) := by
  unfold D.cl at e
  split at e
  · cases e
    obtain ⟨a, dx, fs, e1, e2, _⟩ := h
    exact ⟨a, dx, fs, e1, e2⟩
  · cases e
def xIsiG (K : PySem.W.Frag) : List V → Hp → VK → Prop := fun xs H Q => rIsi K xs H Q ∨ rIsiT K xs H Q
theorem call_isiG {X : Cx} : CallR X (.builtin "isinstance") (xIsiG X.K) := CallR.or call_isi call_isiT
theorem sim_isi {K : PySem.W.Frag} {Cs : List Addr} (hC : ClsOk K Cs) : SimRL (xIsiG K) (dIsi Cs) := by
  intro F H xs ds P Q s hx h q
  match ds, hx, h with
  | [d, c], hx, h =>
    obtain ⟨x, y, ex, rx, ry⟩ := repPL_2 hx
    subst ex
    obtain ⟨a, ea, h⟩ := oth_ok h
    have ya := ask_ok s ea ry
    unfold isiA at h
    cases ec : d.cl with
    | some C =>
      rw [ec] at h
      dsimp only at h
      obtain ⟨hm, h⟩ := h
      obtain ⟨b, dx, fs, eb, hb⟩ := cl_ok ec rx
      subst eb
      have ty := (hC.own C hm).tyx hb
      cases a with
      | ty T =>
        have ey : y = .ty T := ya
        subst ey
        exact .inl ⟨.ref b, .ty T, .ref C, .type T, false, rfl, .ty T, ty, hC.ty C hm T h.1, out_d s (d := .bl false) rfl h.2 q⟩
      | cls C' =>
        have ey : y = .ref C' := ya
        subst ey
        refine .inl ⟨.ref b, .ref C', .ref C, .ref C', decide (C = C'), rfl, .own C', ty, ?_, out_d s (d := .bl _) rfl h.2 q⟩
        by_cases e : C = C'
        · rw [e, decide_eq_true rfl]; exact (hC.own C' h.1).ic.me
        · rw [decide_eq_false e]; exact hC.ne C hm C' h.1 e
      | tt S T =>
        obtain ⟨t, ey, ht⟩ := ya
        subst ey
        refine .inr ⟨.ref b, t, _, .ref C, [.type S, .type T], false, rfl, ht, .cons (.ty S) (.cons (.ty T) .nil), ty, ?_, out_d s (d := .bl _) rfl h.2 q⟩
        exact kitAny_cons (hC.ty C hm S h.1.1) (fun e => kitAny_cons (hC.ty C hm T h.1.2) (fun e' => kitAny_nil) fun e' => by cases e') fun e => by cases e
    | none =>
      rw [ec] at h
      dsimp only at h
      obtain ⟨n, en, h⟩ := oth_ok h
      have kd := kind_ok s en rx
      cases a with
      | ty T =>
        have ey : y = .ty T := ya
        subst ey
        exact .inl (v_isi kd h.1 (out_d s (d := .bl _) rfl h.2 q))
      | cls C' =>
        have ey : y = .ref C' := ya
        subst ey
        exact .inl (v_isiK (hC.own C' h.1) kd (out_d s (d := .bl _) rfl h.2 q))
      | tt S T =>
        obtain ⟨t, ey, ht⟩ := ya
        subst ey
        exact .inr (v_isiT kd ht h.1.1 h.1.2 (out_d s (d := .bl _) rfl h.2 q))
/-! ### list(range(..)), tuple(range(..)) -/
def dRg (b : Bool) (da : DTA) : DTE := fun env P X => da env (fun rs env1 => oth (peekL rs env1) fun ds => match ds with
  | [.int j] => RgOk 0 j ∧ P (if b then .o (.lst ((rgD 0 (j - 0).toNat).map .fr)) else .d (.tup (rgD 0 (j - 0).toNat))) env1
  | [.int i, .int j] => RgOk i j ∧ P (if b then .o (.lst ((rgD i (j - i).toNat).map .fr)) else .d (.tup (rgD i (j - i).toNat))) env1
  | _ => False) X
theorem repL_rg {F : Hp} (i : Int) (n : Nat) : RepL F (rgD i n) ((List.range n).map fun (k : Nat) => V.int (i + (k : Nat))) := by
  unfold rgD
  have := RepL.ofInts (F := F) ((List.range n).map fun (k : Nat) => i + ((k : Nat) : Int))
  rw [List.map_map, List.map_map] at this
  exact this
theorem rgV_eq (i j : Int) : rgV i j = (List.range (j - i).toNat).map fun (k : Nat) => V.int (i + (k : Nat)) := rfl
section
variable {W : WX} {ta tb : TE} {da db : DTE} {n : Nat}
theorem rg_fin {F H : Hp} {env : DEnv} {σ : L2.St} {A : List Addr} {i j : Int} {b : Bool} {P : R → DEnv → Prop} {Q : VK} (g : Good F H env σ A) (h : P (if b then .o (.lst ((rgD i (j - i).toNat).map .fr)) else .d (.tup (rgD i (j - i).toNat))) env)
    (k : ∀ x r F' H' C, Ext F H F' H' C → RepR F' H' σ A r x C → P r env → Q x H') : ∀ p, H p = none → Q (.ref p) (upd H p (if b then .lst (rgV i j) else .tup (rgV i j))) := fun p np => by
  cases b with
  | true => exact out_lst (P := fun o => P (.o o) env) (Q := Q) g.sub np (by rw [rgV_eq]; exact repL_rg i _) h fun z o F' H' C x ro nd dis hp => k z (.o o) F' H' C x (.new g x ro nd dis) hp
  | false => exact out_tup (P := fun o => P (.o o) env) (Q := Q) g.sub np (by rw [rgV_eq]; exact repL_rg i _) h fun z o F' H' C x ro nd dis hp => k z (.o o) F' H' C x (.new g x ro nd dis) hp
theorem sim_rgA1 {b : Bool} (ha : SimE W ta da) : SimE W (fun σ H Q => ta σ H fun x H1 => ∃ n, x = .int n ∧ RgOk 0 n ∧ ∀ q, H1 q = none → Q (.ref q) (upd H1 q (if b then .lst (rgV 0 n) else .tup (rgV 0 n)))) (dRg b (dLastA da)) := by
  intro F H env σ A Q P X g h xo k
  refine ha F H env σ A _ _ X g h xo fun x r1 env1 F1 H1 A1 C1 g1 s1 rr1 h1 => ?_
  obtain ⟨ds, e1, h2⟩ := oth_ok h1
  have rp := peekL_ok g1 (rs := [r1]) ⟨x, rfl, rr1⟩ e1
  match ds, h2, rp with
  | [.int j], h2, rp =>
    obtain ⟨y, ey, ry⟩ := repPL_1 rp
    cases ey
    exact ⟨j, ry, h2.1, rg_fin g1 h2.2 fun z r F' H' C x1 rr hp => k z r env1 F' H' A1 C (x1.good g1) ((s1.mem fun a m => List.mem_append_left _ m).trans x1.step) rr hp⟩
  | [.int i, .int j], h2, rp =>
    obtain ⟨y, z, ey, _⟩ := repPL_2 rp
    cases ey
theorem sim_rgA2 {b : Bool} (ha : SimE W ta da) (hb : SimE W tb db) : SimE W (fun σ H Q => ta σ H fun x H1 => tb σ H1 fun y H2 => ∃ i j, x = .int i ∧ y = .int j ∧ RgOk i j ∧ ∀ q, H2 q = none → Q (.ref q) (upd H2 q (if b then .lst (rgV i j) else .tup (rgV i j)))) (dRg b (dConsA da (dLastA db))) := by
  intro F H env σ A Q P X g h xo k
  refine ha F H env σ A _ _ X g h xo fun x r1 env1 F1 H1 A1 C1 g1 s1 rr1 h1 => ?_
  obtain ⟨F2, r1', h2, g2, s2, p2⟩ := nrm_ok g1 rr1 h1
  have s12 := s1.trans s2
  refine hb F2 H1 env1 σ A1 _ _ X g2 h2 (xo.step s12) fun y r2 env2 F3 H3 A3 C3 g3 s3 rr3 h3 => ?_
  obtain ⟨ds, e1, h4⟩ := oth_ok h3
  have rp := peekL_ok g3 (rs := [r1', r2]) (xs := [x, y]) ⟨x, [y], rfl, p2.mono s3.f, y, rfl, rr3⟩ e1
  match ds, h4, rp with
  | [.int i, .int j], h4, rp =>
    obtain ⟨u, w, ey, ru, rw'⟩ := repPL_2 rp
    cases ey
    exact ⟨i, j, ru, rw', h4.1, rg_fin g3 h4.2 fun z r F' H' C x1 rr hp => k z r env2 F' H' A3 C (x1.good g3) ((s12.trans (s3.mem fun a m => List.mem_append_left _ m)).trans x1.step) rr hp⟩
  | [.int j], h4, rp =>
    obtain ⟨y, ey, _⟩ := repPL_1 rp
    cases ey
theorem sim_lstRg2 (ha : SimE W ta da) (hb : SimE W tb db) : SimE W (tLstRg (tRg2 ta tb)) (dRg true (dConsA da (dLastA db))) := sim_rgA2 (b := true) ha hb
theorem sim_tupRg1 (ha : SimE W ta da) : SimE W (tTupRg (tRg1 ta)) (dRg false (dLastA da)) := sim_rgA1 (b := false) ha
end
/-! ### raise -/
def dRaise0 (cls : Value) : DTS := fun DD env => DD.ex ⟨cls, none⟩ env
theorem sim_raise0 {W : WX} {cls : Value} : SimS W (tRaise0 cls W) (dRaise0 cls) := fun F H env σ A E DD g h eo => eo.ex cls none ⟨cls, none⟩ env σ F H A g .refl ⟨rfl, rfl⟩ h
def dPar (i j : Nat) (dv : DTV) : DTS := fun DD env => dv env (fun ds env1 => match ds with
  | [a, b] => dName i (.fr a) env1 (fun env2 => dName j (.fr b) env2 DD.nx DD.ex) DD.ex
  | _ => False) DD.ex
theorem sim_par {W : WX} {i j : Nat} {ta : TA} {dv : DTV} (ha : SimV W ta dv) : SimS W (tPar i j ta) (dPar i j dv) := by
  intro F H env σ A E DD g h eo
  refine ha F H env σ A _ _ _ g h eo.ex fun xs ds env1 F1 H1 A1 g1 s1 rl h1 => ?_
  match ds, h1, rl with
  | [a, b], h1, ⟨x, r, ex, rx, ⟨y, r2, ey, ry, er⟩⟩ =>
    have e2 : xs = [x, y] := by rw [ex, ey, show r2 = [] from er]
    subst e2
    refine ⟨x, y, rfl, ?_⟩
    have k1 := sim_name (W := W) (i := i) F1 H1 env1 σ A1 [] x (.fr a) (fun σ' H' => E.nx (σ'.set j (some y)) H') _ _ g1 (.dat g1 rx) h1 (eo.ex.step s1) fun env2 σ2 F2 H2 A2 g2 s2 _ _ h2 => ?_
    · exact k1
    · rw [List.append_nil] at s2
      exact sim_name (W := W) (i := j) F2 H2 env2 σ2 A2 [] y (.fr b) E.nx _ _ g2 (.dat g2 (ry.mono s2.f)) h2 (eo.ex.step (s1.trans s2)) fun env3 σ3 F3 H3 A3 g3 s3 _ _ h3 => by
        rw [List.append_nil] at s3
        exact eo.nx env3 σ3 F3 H3 A3 g3 ((s1.trans s2).trans s3) h3

def dNever : DTS := fun _ _ => False
theorem sim_never {W : WX} : SimS W tNever dNever := fun F H env σ A E DD g h eo => h.elim
/-! ### xs[i].m(e): a list that another one holds -/
theorem PathV.stay {F H H' : Hp} : ∀ {p : List PSt} {o o1 : O} {y x : V} {B : List Addr}, RepO F H o y B → o.at p = some o1 → PathV H y p x → (∀ a ∈ B, ∀ u, H a = some u → H' a = some u) → PathV H' y p x
  | [], _, _, _, _, _, _, _, v, _ => v
  | .ix j :: p, o, o1, y, x, B, h, e, v, k => by
    cases o with
    | lst os =>
      unfold O.at at e
      cases ej : os[j]? with
      | none => rw [ej] at e; cases e
      | some o2 =>
        rw [ej] at e
        obtain ⟨a, xs, B1, ey, eA, ha, r⟩ := h
        obtain ⟨b, xs', z, ey', hb, hz, v'⟩ := v
        rw [ey] at ey'
        cases ey'
        rw [ha] at hb
        cases hb
        obtain ⟨z', Bz, Rz, g1, g2, g3, _⟩ := RepOL.focus r ej
        rw [hz] at g1
        cases g1
        exact ⟨a, xs, z, ey, k a (by rw [eA]; exact List.mem_cons_self) _ ha, hz, PathV.stay g2 e v' fun b hb => k b (by rw [eA]; exact List.mem_cons_of_mem _ (g3.mem_iff.mpr (List.mem_append_left _ hb)))⟩
    | fr d => unfold O.at at e; cases e
    | dct t d => unfold O.at at e; cases e
    | ins C d => unfold O.at at e; cases e
  | .fld f :: p, o, o1, y, x, B, h, e, v, k => by
    cases o with
    | ins C gs =>
      unfold O.at at e
      cases ej : gs.lookup f with
      | none => rw [ej] at e; cases e
      | some o2 =>
        rw [ej] at e
        obtain ⟨a, dx, xs, B1, ey, eA, ha, r⟩ := h
        obtain ⟨b, C', dx', xs', z, ey', hb, hz, v'⟩ := v
        rw [ey] at ey'
        cases ey'
        rw [ha] at hb
        cases hb
        obtain ⟨z', Bz, Rz, g1, g2, g3, _⟩ := RepOF.focus r ej
        rw [hz] at g1
        cases g1
        exact ⟨a, C, dx, xs, z, ey, k a (by rw [eA]; exact List.mem_cons_self) _ ha, hz, PathV.stay g2 e v' fun b hb => k b (by rw [eA]; exact List.mem_cons_of_mem _ (g3.mem_iff.mpr (List.mem_append_left _ hb)))⟩
    | fr d => unfold O.at at e; cases e
    | dct t d => unfold O.at at e; cases e
    | lst d => unfold O.at at e; cases e
  | .key j :: p, o, o1, y, x, B, h, e, v, k => by
    cases o with
    | dct t gs =>
      unfold O.at at e
      cases ej : getM gs j with
      | none => rw [ej] at e; cases e
      | some o2 =>
        rw [ej] at e
        obtain ⟨a, oh, xs, B1, ey, eA, ha, dc, r⟩ := h
        obtain ⟨b, oh', t', xs', z, ey', hb, dc', hz, v'⟩ := v
        rw [ey] at ey'
        cases ey'
        rw [ha] at hb
        cases hb
        have ex := dc.uniq2 dc'
        subst ex
        obtain ⟨z', Bz, Rz, g1, g2, g3, _⟩ := RepOM.focus r ej
        rw [hz] at g1
        cases g1
        exact ⟨a, oh, t', xs, z, ey, k a (by rw [eA]; exact List.mem_cons_self) _ ha, dc', hz, PathV.stay g2 e v' fun b hb => k b (by rw [eA]; exact List.mem_cons_of_mem _ (g3.mem_iff.mpr (List.mem_append_left _ hb)))⟩
    | fr d => unfold O.at at e; cases e
    | ins C d => unfold O.at at e; cases e
    | lst d => unfold O.at at e; cases e
def S.owO : S → Option O
  | .ow o => some o
  | _ => none
def S.isUn : S → Bool
  | .un => true
  | _ => false
def dMethN1 (f : List O → O → (List O → O → Prop) → Prop) (da de : DTE) : DTE := fun env P X => da env (fun r _ => match r with
  | .p i path => oth env[i]? fun s => oth s.owO fun o0 => isL (o0.at path) = true ∧ de (env.set i .un) (fun q env2 => toO q env2 fun o env3 => oth env3[i]? fun s3 => s3.isUn = true ∧ oth (o0.at path) fun u => (match u with
    | .lst os => f os o fun os' z => P (.o z) (env3.set i (.ow (o0.put path (.lst os'))))
    | _ => False)) (fun _ _ => False)
  | _ => False) (fun _ _ => False)
/-! ### the law's own head: what is made of the script -/
def itO (ns : List Int) : O := .lst (ns.map fun i => .fr (.int i))
def poolO (gs ss : List Int) (x y : Int) : O := .lst [itO gs, itO ss, .fr (.int x), .fr (.int y)]
def spLaw (K : PySem.W.Frag) : Sp := fun vs H Q _ => ∃ (a : Addr) (ns : List Int), vs = [.ref a] ∧ SqL K H a (ns.map V.int) ∧ ns.length ≤ 63 ∧ (∀ p ∈ tabT, H p.1 = some (.tbl #[])) ∧ ∀ H', Q (.bl true) H'
theorem len_law {K : PySem.W.Frag} {vs : List V} {H : Hp} {Q : VK} {E : XK} (h : spLaw K vs H Q E) : vs.length = 1 := by obtain ⟨_, _, rfl, _⟩ := h; rfl
/-- what makes the first object of the script -/
def spHead (K : PySem.W.Frag) (Ok : O → Prop) : Sp := fun vs H Q _ => ∃ (a : Addr) (ns : List Int), vs = [.ref a] ∧ SqL K H a (ns.map V.int) ∧ ns.length ≤ 63 ∧
  ∀ o x H' A, Ok o → (∀ F : Hp, RepO F H' o x A) → A.Nodup → Same H H' → (∀ b ∈ A, H b = none) → Q x H'
theorem spHead_len {K : PySem.W.Frag} {Ok : O → Prop} {vs : List V} {H : Hp} {Q : VK} {E : XK} (h : spHead K Ok vs H Q E) : vs.length = 1 := by
  obtain ⟨a, ns, rfl, _⟩ := h
  rfl
open Classical in
/-- the tables alone -/
noncomputable def tbF (H : Hp) : Hp := fun b => if ∃ p ∈ tabT, p.1 = b then H b else none
theorem tbF_in {H : Hp} {b : Addr} (h : ∃ p ∈ tabT, p.1 = b) : tbF H b = H b := if_pos h
theorem tbF_sub {H : Hp} : Same (tbF H) H := fun b o e => by
  unfold tbF at e
  split at e
  · exact e
  · cases e
theorem tbF_free {H : Hp} {b : Addr} (h : H b = none) : tbF H b = none := by
  unfold tbF
  rw [h]
  split <;> rfl
theorem tbF_ok {H : Hp} (h : ∀ p ∈ tabT, H p.1 = some (.tbl #[])) : TabOk (tbF H) := ⟨fun p hp => LamX.TabS.nil (by rw [tbF_in ⟨p, hp, rfl⟩]; exact h p hp), fun a ps e => by
  unfold tbF at e
  split at e
  · assumption
  · cases e⟩
/-- the law by its data reading -/
theorem law_ok {K : PySem.W.Frag} {Ok : O → Prop} {n : Nat} {N : List Str} {t : TS} {d : DTS} {vs : List V} {H : Hp} {Q : VK} {E : XK} (hN : N.length = n + 2) (hs : SimS WO t d)
    (hd : ∀ o, Ok o → d ⟨fun _ => False, fun r _ => r = .fr (.bl true), fun _ => False, fun _ => False, fun _ _ => False⟩ (.un :: .ow o :: List.replicate n .un))
    (h : spLaw K vs H Q E) : (tSeq (tAsg (tCall (spHead K Ok) [] E0 (tCons (tVar 0) tNil)) (gName 1)) t) { nx := fun _ H' => Q .non H', rt := Q } (L2.start N vs) H := by
  obtain ⟨a, ns, rfl, hS, hl, hT, q⟩ := h
  have eσ : L2.start N [.ref a] = some (.ref a) :: none :: List.replicate n none := by
    unfold L2.start
    rw [hN]
    show some (V.ref a) :: List.replicate (n + 2 - 1) none = _
    rw [show n + 2 - 1 = n + 1 by omega]
    rfl
  rw [eσ]
  refine v_seq (v_asg (v_call ⟨.ref a, rfl, ?_⟩))
  refine ⟨a, ns, rfl, hS, hl, fun o x H' A hO hR nA sH fA => ?_⟩
  refine v_name ?_
  have g : Good (tbF H) H' (.un :: .ow o :: List.replicate n .un) (some (.ref a) :: some x :: List.replicate n none) A := by
    have hR2 : RepO (tbF H) H' o x A := hR _
    refine ⟨fun b u e => sH b u (tbF_sub b u e), ?_, nA, fun b hb => tbF_free (fA b hb)⟩
    refine ⟨some (.ref a), _, [], A, rfl, rfl, rfl, some x, _, A, [], rfl, by rw [List.append_nil], ⟨x, rfl, hR2⟩, ?_⟩
    have := repS_start (F := tbF H) (H := H') (ms := []) (os := []) (vs := []) (B := []) n (tbF_ok hT) trivial ⟨rfl, rfl⟩
    exact this
  refine hs (tbF H) H' _ _ A _ _ g (hd o hO) ⟨fun _ _ _ _ _ _ _ h => h.elim, fun _ _ _ _ _ _ _ h => h.elim, fun _ _ _ _ _ _ _ h => h.elim, fun v r env' σ' F2 H2 A2 C2 g2 s2 r2 e => ?_, fun _ _ _ _ _ _ _ _ _ _ _ h => h.elim⟩
  subst e
  have ev : v = .bl true := r2.1.2
  subst ev
  exact q H2

section
variable {K : PySem.W.Frag}
end

/-- a pool of draws as an owned object -/
def PoolOk (o : O) : Prop := ∃ gs ss x y, o = poolO gs ss x y ∧ gs.length ≤ 63 ∧ ss.length ≤ 63
theorem itO_rep {F H : Hp} : ∀ ns : List Int, RepOL F H (ns.map fun i => .fr (.int i)) (ns.map V.int) []
  | [] => ⟨rfl, rfl⟩
  | n :: ns => ⟨_, _, [], [], rfl, rfl, ⟨rfl, rfl⟩, itO_rep ns⟩
def t_l_pool2 (K : PySem.W.Frag) : TS :=
  (tSeq (tAsg (tLc (iList K (tSl (rSlL K) (tVar 0) tNoPart (tPart (tC (.int 63))))) (gName 3) (tTest (tOp xGe (tCB xAbs (tCons (tVar 3) tNil)) (tOp xPow (tC (.int 10)) (tC (.int 18))))) (tCB xAbs (tCons (tVar 3) tNil)) [3]) (gName 1)) (tSeq (tAsg (tLc (iList K (tSl (rSlL K) (tVar 0) tNoPart (tPart (tC (.int 63))))) (gName 3) (tTest (tOp xLt (tCB xAbs (tCons (tVar 3) tNil)) (tOp xPow (tC (.int 10)) (tC (.int 18))))) (tOp xMod (tCB xInt (tCons (tVar 3) tNil)) (tC (.int 1000003))) [3]) (gName 2)) (tRet (tLst (tCons (tVar 1) (tCons (tVar 2) (tCons (tC (.int 0)) (tCons (tC (.int 0)) tNil))))))))
local macro_rules | `(tactic| walk_at "ne") => `(tactic| first | assumption | (refine Ne.symm ?_; assumption))
local macro_rules | `(tactic| walk_at "hp") => `(tactic| first
  | assumption
  | exact upd_same
  | ((with_reducible refine' upd_get (by assumption) ?_); walk_at "hp")
  | ((with_reducible refine' upd_at ?k1 ?_); (case k1 => walk_at "ne"); walk_at "hp"))
local macro_rules | `(tactic| walk_at "vc1") => `(tactic| first
  | (with_reducible refine' v_seq ?_)
  | (with_reducible refine' v_asg ?_)
  | ((with_reducible refine' v_var ?k1 ?_); (case k1 => exact rfl))
  | (with_reducible refine' v_c ?_)
  | (with_reducible refine' v_op ?_)
  | (with_reducible refine' v_I0 ?_)
  | (with_reducible refine' v_name ?_)
  | (with_reducible refine' v_cons ?_)
  | (with_reducible refine' v_nil ?_)
  | (with_reducible refine' v_cb ?_)
  | (with_reducible refine' v_int ?_)
  | (with_reducible refine' v_abs ?_)
  | (with_reducible refine' v_ifs ?_)
  | (with_reducible refine' v_test ?_)
  | (with_reducible refine' v_B ?_)
  | (with_reducible refine' v_bl ?_)
  | (with_reducible refine' v_and ?_)
  | (with_reducible refine' v_or ?_)
  | (with_reducible refine' v_not ?_)
  | (with_reducible refine' v_eqI ?_)
  | (with_reducible refine' v_neI ?_)
  | (with_reducible refine' v_ret ?_)
  | (with_reducible refine' v_retN ?_)
  | (with_reducible refine' v_next ?_)
  | (with_reducible refine' v_drop ?_)
  | (with_reducible refine' v_call ?_)
  | (with_reducible refine' v_sub ?_)
  | (with_reducible refine' v_lst ?_)
  | (with_reducible refine' v_tup ?_)
  | (with_reducible refine' v_sl ?_)
  | (with_reducible refine' v_nopart ?_)
  | (with_reducible refine' v_part ?_)
  | (with_reducible refine' v_partI ?_)
  | (with_reducible refine' v_if ?_)
  | (with_reducible refine' v_chain ?_)
  | (with_reducible refine' v_andV ?_)
  | (with_reducible refine' v_orV ?_)
  | (with_reducible refine' v_notV ?_)
  | (with_reducible refine' v_un ?_)
  | (with_reducible refine' v_U ?_)
  | (with_reducible refine' v_isN ?_)
  | (with_reducible refine' v_notN ?_)
  | (with_reducible refine' v_eqB ?_)
  | (with_reducible refine' v_neB ?_)
  | (with_reducible refine' v_yes ?_)
  | (with_reducible refine' v_dnew ?_)
  | (with_reducible refine' v_iteT ?_)
  | (with_reducible refine' v_iteF ?_)
  | (with_reducible refine' v_iteNT ?_)
  | (with_reducible refine' v_iteNF ?_)
  | (with_reducible refine' v_for ?_)
  | (with_reducible refine' v_lc ?_)
  | (with_reducible refine' v_iR1 ?_)
  | (with_reducible refine' v_iR2 ?_)
  | (with_reducible refine' v_iL ?_)
  | (with_reducible refine' v_iT ?_)
  | (with_reducible refine' v_bm ?_)
  | (with_reducible refine' v_bm0 ?_)
  | (with_reducible refine' v_tRg2 ?_)
  | (with_reducible refine' v_tRg1 ?_)
  | (with_reducible refine' v_rg2e ?_)
  | (with_reducible refine' v_rg1e ?_)
  | (with_reducible refine' v_lstRg ?_)
  | (with_reducible refine' v_tupRg ?_)
  | ((with_reducible refine' v_bmL ?k1 ?_); (case k1 => walk_at "hp"))
  | ((with_reducible refine' v_bm0L ?k1 ?_); (case k1 => walk_at "hp"))
  | ((with_reducible refine' v_ixL' ?k1 ?k2 ?_); (case k1 => walk_at "hp"); (case k2 => exact rfl))
  | ((with_reducible refine' v_ixT' ?k1 ?k2 ?_); (case k1 => walk_at "hp"); (case k2 => exact rfl))
  | ((with_reducible refine' v_setL ?k1 ?k2 ?_); (case k1 => walk_at "hp"); (case k2 => exact rfl))
  | ((with_reducible refine' v_lenL' ?k1 ?_); (case k1 => walk_at "hp"))
  | ((with_reducible refine' v_lenT' ?k1 ?_); (case k1 => walk_at "hp"))
  | ((with_reducible refine' v_bound ?k1 ?_); (case k1 => (first | decide | omega | (simp only [List.length_cons, List.length_nil]; omega)))))
local macro_rules | `(tactic| walk_at "vc") => `(tactic| repeat (walk_at "vc1"))
section
variable {K : PySem.W.Frag}
/-! ### the pool's making -/
theorem pure_l_pool2 {vs : List V} {H : Hp} {Q : VK} {E : XK} (h : spHead K PoolOk vs H Q E) : t_l_pool2 K { nx := fun _ H' => Q .non H', rt := Q } (start ["_law_script", "_law_great", "_law_small", "_law_cell"] vs) H := by
  obtain ⟨a, ns, rfl, hS, hl, q⟩ := h
  unfold t_l_pool2
  walk_at "vc"
  obtain ⟨ms, em, hml⟩ := cut_map ns none (some 63)


  walk_at "vc"
  refine v_slL hS fun l nl => ?_
  refine ⟨l, rfl, ⟨_, SqL.of upd_same⟩, fun D nD => ?_⟩
  have s1 : Same H (upd H l (.lst (cutV (ns.map V.int) none (some 63)))) := same_upd nl
  have hl1 : (upd H l (.lst (cutV (ns.map V.int) none (some 63)))) l = some (.lst (cutV (ns.map V.int) none (some 63))) := upd_same
  generalize upd H l (.lst (cutV (ns.map V.int) none (some 63))) = H1 at *
  rw [em] at hl1
  refine lc_list (xs := ms.map V.int) (fun i H' => ∃ acc : List Int, H' D = some (.lst (acc.map V.int)) ∧ acc.length ≤ i ∧ Same H1 H') ⟨[], upd_same, Nat.le_refl _, same_upd nD⟩ (fun i H' _ ⟨_, _, _, s⟩ => SqL.of (s _ _ hl1)) ?_ ?_
  · rintro i x H2 hx ⟨acc, hacc, hal, s2⟩
    obtain ⟨n, rfl⟩ := map_get hx
    have hi : i < ms.length := by
      have := (List.getElem?_eq_some_iff.mp hx).1
      rw [List.length_map] at this
      exact this
    walk_at "vc"
    refine ⟨rfl, ?_⟩
    walk_at "vc"
    refine v_I ⟨by decide, by decide, by decide⟩ ?_
    walk_at "vc"
    refine v_ite (fun c => ?_) (fun c => ?_)
    · walk_at "vc"
      refine ⟨_, hacc, by rw [List.length_map]; exact small1000 (by omega), acc ++ [if n < 0 then -n else n], by rw [upd_same, List.map_append]; rfl, by rw [List.length_append]; show acc.length + 1 ≤ i + 1; omega, fun b o e => ?_⟩
      rw [upd_ne (ne_of_none e nD)]
      exact s2 _ _ e
    · exact ⟨acc, hacc, by omega, s2⟩
  · rintro H2 ⟨gs, hgs, hgl, s2⟩
    rw [List.length_map] at hgl
    walk_at "vc"


    walk_at "vc"
    refine v_slL ((s1.trans s2).seq hS) fun l2 nl2 => ?_
    refine ⟨l2, rfl, ⟨_, SqL.of upd_same⟩, fun D2 nD2 => ?_⟩
    have hg3 : (upd H2 l2 (.lst (cutV (ns.map V.int) none (some 63)))) D = some (.lst (gs.map V.int)) := by walk_at "hp"
    have sH : Same H (upd H2 l2 (.lst (cutV (ns.map V.int) none (some 63)))) := (s1.trans s2).trans (same_upd nl2)
    have hl3 : (upd H2 l2 (.lst (cutV (ns.map V.int) none (some 63)))) l2 = some (.lst (cutV (ns.map V.int) none (some 63))) := upd_same
    generalize upd H2 l2 (.lst (cutV (ns.map V.int) none (some 63))) = H3 at *
    rw [em] at hl3
    refine lc_list (xs := ms.map V.int) (fun i H' => ∃ acc : List Int, H' D2 = some (.lst (acc.map V.int)) ∧ acc.length ≤ i ∧ Same H3 H') ⟨[], upd_same, Nat.le_refl _, same_upd nD2⟩ (fun i H' _ ⟨_, _, _, s⟩ => SqL.of (s _ _ hl3)) ?_ ?_
    · rintro i x H4 hx ⟨acc, hacc, hal, s4⟩
      obtain ⟨n, rfl⟩ := map_get hx
      have hi : i < ms.length := by
        have := (List.getElem?_eq_some_iff.mp hx).1
        rw [List.length_map] at this
        exact this
      walk_at "vc"
      refine ⟨rfl, ?_⟩
      walk_at "vc"
      refine v_I ⟨by decide, by decide, by decide⟩ ?_
      walk_at "vc"
      refine v_ite (fun c => ?_) (fun c => ?_)
      · walk_at "vc"
        refine v_I (by decide) ?_
        refine ⟨_, hacc, by rw [List.length_map]; exact small1000 (by omega), acc ++ [n % 1000003], by rw [upd_same, List.map_append]; rfl, by rw [List.length_append]; show acc.length + 1 ≤ i + 1; omega, fun b o e => ?_⟩
        rw [upd_ne (ne_of_none e nD2)]
        exact s4 _ _ e
      · exact ⟨acc, hacc, by omega, s4⟩
    · rintro H4 ⟨ss, hss, hsl, s4⟩
      rw [List.length_map] at hsl
      walk_at "vc"
      intro p np
      have hg4 := s4 _ _ hg3
      have n1 : D ≠ p := fun z => by rw [z, np] at hg4; cases hg4
      have n2 : D2 ≠ p := fun z => by rw [z, np] at hss; cases hss
      have n12 : D ≠ D2 := fun z => by rw [z, nD2] at hg3; cases hg3
      refine q (poolO gs ss 0 0) (.ref p) _ [p, D, D2] ⟨gs, ss, 0, 0, rfl, by omega, by omega⟩ (fun F => ⟨p, [.ref D, .ref D2, .int 0, .int 0], [D, D2], rfl, rfl, upd_same, ?_⟩) ?_ ((sH.trans s4).trans (same_new np)) ?_
      · refine ⟨.ref D, _, [D], [D2], rfl, rfl, ⟨D, gs.map V.int, [], rfl, rfl, by rw [upd_ne n1]; exact hg4, itO_rep gs⟩, ?_⟩
        refine ⟨.ref D2, _, [D2], [], rfl, rfl, ⟨D2, ss.map V.int, [], rfl, rfl, by rw [upd_ne n2]; exact hss, itO_rep ss⟩, ?_⟩
        exact ⟨_, _, [], [], rfl, rfl, ⟨rfl, rfl⟩, ⟨_, _, [], [], rfl, rfl, ⟨rfl, rfl⟩, rfl, rfl⟩⟩
      · simp only [List.nodup_cons, List.mem_cons, List.not_mem_nil, or_false, not_or, not_false_eq_true, List.nodup_nil, and_true]
        exact ⟨⟨n1.symm, n2.symm⟩, n12⟩
      · have sHp := sH.trans s4
        refine fun b hb => ?_
        rcases List.mem_cons.mp hb with rfl | hb
        · exact sHp.free np
        rcases List.mem_cons.mp hb with rfl | hb
        · exact s1.free nD
        rcases List.mem_cons.mp hb with rfl | hb
        · exact (sH.free nD2)
        · cases hb
end

section
variable {W : WX} {K : PySem.W.Frag} {te : TE} {de : DTE}
end

section
variable {W : WX} {K : PySem.W.Frag} {ta : TA} {dv : DTV}
end

section
variable {W : WX} {te : TE} {de : DTE} {f : Int → Int → Int} {i : Nat}
end

/-! ### dicts: {}, d[k], k in d, d.get; keys are numbers and texts, or tuples of these -/
def dDct0 (t : Bool) : DTE := fun env P _ => P (.o (.dct t [])) env
def D.keyS : D → Option Key
  | .int i => some (.inl i)
  | .str s => some (.inr s)
  | _ => none
def keysL : List D → Option (List Key)
  | [] => some []
  | d :: r => (match d.keyS with
    | some k => (match keysL r with
      | some ks => some (k :: ks)
      | none => none)
    | none => none)
/-- a key, in a dict of this kind -/
def D.key (t : Bool) (d : D) : Option (List Key) := match t with
  | false => d.keyS.map fun k => [k]
  | true => (match d with
    | .tup ds => keysL ds
    | _ => none)
section
variable {W : WX}
theorem sim_dctK : SimE W tDNewK (dDct0 false) := by
  intro F H env σ A Q P X g h xo k
  intro p np
  have x := ext_own (o := .dK []) g.sub np
  refine k (.ref p) (.o (.dct false [])) env _ _ A [p] (x.good g) x.step (.new g x (o := .dct false []) ⟨p, .dK [], [], [], rfl, rfl, upd_same, ⟨[], rfl, rfl⟩, rfl, rfl⟩ (List.nodup_cons.mpr ⟨List.not_mem_nil, List.nodup_nil⟩) fun a m => ?_) h
  rw [List.mem_singleton.mp m]
  exact g.sub.free np
end
open AutoSeq1 (wpAny_loadPart')
section
variable {prog : Program} {w : World} {A : Around} {E : Value → Shared → Prop} {s : Shared}
end
section
variable {W : WX} {K : PySem.W.Frag} {te : TE} {de : DTE}
end

open PySem PySem.SeqAt PySem.Spec PyProof.Rows L2
/-! ### != of tuples whose items are equal, in part by an own == -/
section
variable {prog : Program} {w : World} {A : Around} {R : Result → Shared → Prop}
end
section
variable {prog : Program} {w : World} {A : Around} {E : Value → Shared → Prop} {s : Shared}
end
section
variable {X : Cx} {n : Nat} {D : Eqv}
end

/-! ### slots that no one reads any more are forgotten -/
def killAt (j : Nat) (env : DEnv) : DEnv := match env[j]? with
  | some (.ow _) => env.set j .un
  | _ => env
def killD : List Nat → DEnv → DEnv
  | [], env => env
  | j :: js, env => killD js (killAt j env)
theorem Good.killAt {F H : Hp} {env : DEnv} {σ : L2.St} {A : List Addr} (g : Good F H env σ A) (j : Nat) : ∃ A', Good F H (Fv.killAt j env) σ A' ∧ Step F H env σ A F H (Fv.killAt j env) σ A' := by
  unfold Fv.killAt
  cases e : env[j]? with
  | none => exact ⟨A, g, .refl⟩
  | some s =>
    cases s with
    | un => exact ⟨A, g, .refl⟩
    | bo o => exact ⟨A, g, .refl⟩
    | ow o =>
      obtain ⟨v, B, R, h1, h2, h3, h4⟩ := g.rep.out e
      have mR : ∀ a ∈ R, a ∈ A := fun a m => h3.mem_iff.mpr (List.mem_append_right _ m)
      have nd : (B ++ R).Nodup := h3.nodup_iff.mp g.nd
      refine ⟨R, ⟨g.sub, h4, nodup_r nd, fun a m => g.dis a (mR a m)⟩, .refl _, fun _ _ h _ _ _ => h, fun _ h => h, fun a m => .inl (mR a m), fun _ h => .inl h, fun i u h => ⟨u, ?_, rfl⟩⟩
      have ne : j ≠ i := fun z => by subst z; rw [e] at h; cases h
      rw [List.getElem?_set_ne ne]
      exact h
theorem Good.killD {F H : Hp} {σ : L2.St} : ∀ (js : List Nat) {env : DEnv} {A : List Addr}, Good F H env σ A → ∃ A', Good F H (Fv.killD js env) σ A' ∧ Step F H env σ A F H (Fv.killD js env) σ A'
  | [], _, A, g => ⟨A, g, .refl⟩
  | j :: js, env, A, g => by
    obtain ⟨A1, g1, s1⟩ := g.killAt j
    obtain ⟨A2, g2, s2⟩ := Good.killD js g1
    exact ⟨A2, g2, s1.trans s2⟩
def dPost (js : List Nat) (d : DTS) : DTS := fun DD env => d { DD with nx := fun e => DD.nx (killD js e) } env
def dKill (js : List Nat) (d : DTS) : DTS := fun DD env => d DD (killD js env)
def dIterK (js : List Nat) (di : DTI) : DTI := fun env P X => di env (fun ds env1 => P ds (killD js env1)) X
section
variable {W : WX} {t : TS} {d : DTS} {js : List Nat}
theorem sim_post (h : SimS W t d) : SimS W t (dPost js d) := by
  intro F H env σ A E DD g hd eo
  refine h F H env σ A E _ g hd ⟨fun e σ' F' H' A' g' s' q => ?_, eo.bk, eo.ct, eo.rt, eo.ex⟩
  obtain ⟨A2, g2, s2⟩ := g'.killD js
  exact eo.nx _ σ' F' H' A2 g2 (s'.trans s2) q
theorem sim_kill (h : SimS W t d) : SimS W t (dKill js d) := by
  intro F H env σ A E DD g hd eo
  obtain ⟨A2, g2, s2⟩ := g.killD js
  exact h F H _ σ A2 E DD g2 hd (eo.step s2)
theorem sim_iterK {wi : TI} {di : DTI} (h : SimI W wi di) : SimI W wi (dIterK js di) := by
  intro F H env σ A Q P X g hd xo k
  refine h F H env σ A Q _ X g hd xo fun J ds env1 F1 H1 A1 g1 s1 io h1 => ?_
  obtain ⟨A2, g2, s2⟩ := g1.killD js
  exact k J ds _ F1 H1 A2 g2 (s1.trans s2) io h1
end
section
variable {env : DEnv} {s s2 : DTS} {DD : DEnds} {js : List Nat} {ds : List D}
theorem a_post (h : s { DD with nx := fun e => DD.nx (killD js e) } env) : dPost js s DD env := h
theorem a_kill (h : s DD (killD js env)) : dKill js s DD env := h
theorem a_iterK {di : DTI} {PI : List D → DEnv → Prop} {X : DX} (h : di env (fun ds env1 => PI ds (killD js env1)) X) : dIterK js di env PI X := h
end

/-! ### == and != by an own __eq__ -/
/-! operations on what is data now -/
def SimRF (r : R2) (dr : D → D → (O → Prop) → Prop) : Prop := ∀ (F H : Hp) (x y : V) (d e : D) (P : O → Prop) (Q : VK), Same F H → TabOk F → Rep F d x → Rep F e y → dr d e P →
  (∀ z o F' H' C, Fv.Ext F H F' H' C → RepO F' H' o z C → C.Nodup → (∀ a ∈ C, F' a = none) → P o → Q z H') → r x y H Q
def dOpF (dr : D → D → (O → Prop) → Prop) (da db : DTE) : DTE := fun env P X => da env (fun r1 env1 => force r1 env1 fun d1 env2 => db env2 (fun r2 env3 => force r2 env3 fun d2 env4 => dr d1 d2 fun o => P (.o o) env4) X) X
theorem sim_opF {W : WX} {ta tb : TE} {da db : DTE} {r : R2} {dr : D → D → (O → Prop) → Prop} (hr : SimRF r dr) (ha : SimE W ta da) (hb : SimE W tb db) : SimE W (tOp r ta tb) (dOpF dr da db) := by
  intro F H env σ A Q P X g h xo k
  refine ha F H env σ A _ _ X g h xo fun x r1 env1 F1 H1 A1 C1 g1 s1 rr1 h1 => ?_
  obtain ⟨F2, A2, d1, env2, h2, g2, s2, p2⟩ := force_ok g1 rr1 h1
  have s12 := s1.trans s2
  refine hb F2 H1 env2 σ A2 _ _ X g2 h2 (xo.step s12) fun y r2 env3 F3 H3 A3 C3 g3 s3 rr3 h3 => ?_
  obtain ⟨F4, A4, d2, env4, h4, g4, s4, p4⟩ := force_ok g3 rr3 h3
  have s14 := s12.trans (s3.trans s4)
  refine hr F4 H3 x y d1 d2 _ _ g4.sub g4.rep.tab (p2.mono (s3.trans s4).f) p4 h4 fun z o F5 H5 C5 x5 ro5 nd5 d5 h6 => ?_
  exact k z (.o o) env4 F5 H5 A4 C5 (x5.good g4) (s14.trans x5.step) (.new g4 x5 ro5 nd5 d5) h6
/-- a == b, a != b of a whose class has an own == -/
def boolO (P : O → Prop) (neg : Bool) (r : O) : Prop := match r with
  | .fr (.bl b) => P (.fr (.bl (if neg then !b else b)))
  | _ => False
def dNeC (C : Addr) (f : Fn) : D → D → (O → Prop) → Prop := fun d e P => d.cl = some C ∧ e.cl = some C ∧ f [.fr d, .fr e] (fun r _ => boolO P true r) (fun _ _ => False)
theorem spD_two {f : Fn} {F H : Hp} {x y : V} {d e : D} {P : O → Prop} {Q Q' : VK} {E : XK} {neg : Bool} (s : Same F H) (tb : TabOk F) (hx : Rep F d x) (hy : Rep F e y) (h : f [.fr d, .fr e] (fun r _ => boolO P neg r) (fun _ _ => False))
    (q : ∀ z o F' H' C, Fv.Ext F H F' H' C → RepO F' H' o z C → C.Nodup → (∀ a ∈ C, F' a = none) → P o → Q z H') (qq : ∀ (b : Bool) H', Q (.bl (if neg then !b else b)) H' → Q' (.bl b) H') : spD (vals 2) f [x, y] H Q' E := by
  refine ⟨F, [.fr d, .fr e], [], _, _, ⟨⟨d, rfl⟩, ⟨e, rfl⟩, trivial⟩, s, ⟨_, _, [], [], rfl, rfl, ⟨rfl, hx⟩, _, _, [], [], rfl, rfl, ⟨rfl, hy⟩, rfl, rfl⟩, List.nodup_nil, (fun _ h => nomatch h), tb, h, fun v o ps F' H' B' C s1 r1 r2 nd dis st hb => ?_, fun _ _ _ _ _ _ _ _ _ _ _ _ _ h => h.elim⟩
  unfold boolO at hb
  split at hb
  · rename_i b
    have ex : v = .bl b := r2.2
    subst ex
    exact qq b H' (q _ (.fr (.bl _)) F' H' [] (Ste.ext (st.mem fun _ h => nomatch h) s s1) ⟨rfl, rfl⟩ List.nodup_nil (fun _ h => nomatch h) hb)
  · exact hb.elim
theorem simr_neOwn {K : PySem.W.Frag} {C : Addr} {f : Fn} : SimRF (rNeOwn K C (spD (vals 2) f) E0) (dNeC C f) := by
  intro F H x y d e P Q s tb hx hy h q
  obtain ⟨h1, h2, h3⟩ := h
  obtain ⟨a, dx, fs, rfl, ha⟩ := cl_ok h1 (hx.toP s)
  obtain ⟨b, dy, gs, rfl, hb⟩ := cl_ok h2 (hy.toP s)
  exact ⟨a, b, dx, dy, fs, gs, rfl, rfl, ha, hb, spD_two s tb hx hy h3 q fun b H' h => ⟨b, rfl, h⟩⟩

theorem Good.lk {F H : Hp} {env : DEnv} {σ : L2.St} {A : List Addr} {a : Addr} {u : HO} (g : Good F H env σ A) (ha : F a = some u) (iu : isDct u = true) (od : Obj) :
    Good (upd F a (.frz od u)) (upd H a (.frz od u)) env σ A ∧ Step F H env σ A (upd F a (.frz od u)) (upd H a (.frz od u)) env σ A := by
  have sm : Sm F (upd F a (.frz od u)) := ⟨fun b o h => by
    by_cases e : b = a
    · subst e
      rw [ha] at h
      cases h
      exact ⟨_, upd_same, .inr (.inl ⟨od, iu, rfl⟩)⟩
    · exact ⟨o, by rw [upd_ne e]; exact h, .inl rfl⟩, fun b ps h => by
    by_cases e : b = a
    · rw [e, upd_same] at h
      cases h
    · rw [upd_ne e] at h
      exact ⟨ps, h⟩⟩
  have ne : ∀ b, F b = none → b ≠ a := fun b h e => by rw [e, ha] at h; cases h
  refine ⟨⟨fun b o h => ?_, g.rep.stay ⟨sm, fun b m o h => by rw [upd_ne (ne b (g.dis b m))]; exact h⟩, g.nd, fun b m => by rw [upd_ne (ne b (g.dis b m))]; exact g.dis b m⟩, sm, fun b o h _ _ f => by rw [upd_ne (ne b f)]; exact h, fun b h => upd_free h, fun b m => .inl m, fun b h => .inl ?_, fun _ _ h => ⟨_, h, rfl⟩⟩
  · by_cases e : b = a
    · rw [e, upd_same] at h ⊢; exact h
    · rw [upd_ne e] at h ⊢; exact g.sub b o h
  · by_cases e : b = a
    · rw [e, ha]; exact Option.some_ne_none _
    · rw [upd_ne e] at h; exact h
section
variable {W : WX} {te : TE} {de : DTE}
end

end Fv
namespace L2
open PySem PySem.Spec PyProof.Rows

section
variable {X : Cx} {nm n : Str} {c : Value} {i : Nat} {body suite : List Stmt} {s0 : Stmt} {np pos pos' : Pos} {tb : WX → TS} {ts : Addr → Value → Option Addr → TS} {more : List ExceptHandler}
end
end L2
namespace Fv
open PySem PySem.Spec PyProof.Rows L2

open PySem PySem.SeqAt PySem.Spec PyProof.Rows L2
open PySem PySem.SeqAt PySem.Spec PyProof.Rows L2
/-! ### == of two pairs: the first ones equal by an own ==, the second ones data -/
section
variable {prog : Program} {w : World} {A : Around} {R : Result → Shared → Prop}
end
section
variable {prog : Program} {w : World} {A : Around} {E : Value → Shared → Prop} {s : Shared}
end
/-- == inside a tuple tells b, and only makes objects -/
def EqB (X : Cx) (n : Nat) (T : V → V → Bool → Hp → Prop) : Prop :=
  ∀ (A : Around) (pins : List (Addr × Obj)) (s : Shared) (σ : L2.St) (H : Hp) (x y : V) (u v : Value) (b : Bool), Sub X n A → Inv X pins σ H s → RelV x u → RelV y v → T x y b H →
    wpAny (model X.prog X.w) A (eqBool u v) (fun r s' => r = b ∧ ∃ H', Inv X pins σ H' s' ∧ L2.Ext H H') X.xe s
def MonB (T : V → V → Bool → Hp → Prop) : Prop := ∀ x y b H H', L2.Ext H H' → T x y b H → T x y b H'
section
variable {X : Cx} {n : Nat} {D : Eqv} {T T' : V → V → Bool → Hp → Prop}
theorem EqB.or (h : EqB X n T) (h' : EqB X n T') : EqB X n (fun x y b H => T x y b H ∨ T' x y b H) := fun A pins s σ H x y u v b sb I rx ry d => by
  rcases d with d | d
  · exact h A pins s σ H x y u v b sb I rx ry d
  · exact h' A pins s σ H x y u v b sb I rx ry d
theorem MonB.or (h : MonB T) (h' : MonB T') : MonB (fun x y b H => T x y b H ∨ T' x y b H) := fun x y b H H' e d => d.elim (fun d => .inl (h x y b H H' e d)) fun d => .inr (h' x y b H H' e d)
end
/-! ### dict comprehensions, keys of both kinds -/
section
variable {X : Cx} {pins : List (Addr × Obj)} {σ : L2.St} {H : Hp} {s : Shared} {a : Addr} {y v : V} {u r : Value} {A : Around} {E : Value → Shared → Prop}
end
section
variable {X : Cx} {pins : List (Addr × Obj)} {s : Shared} {σ : L2.St} {H : Hp} {Q : VK} {kx vx tg iter : Expr} {ifs : List Expr} {scope : Scope} {own : List (Str × Nat)} {pos pos' : Pos} {wi : TI} {g : TG} {tt : TT} {tk tv : TE} {use : Option (Value → Sem Unit)} {Qf : Value → Shared → Prop} {b : Bool}
end

section
variable {X : Cx} {o : Expr} {p pos apos mpos : Pos} {td : TE}
end
section
variable {X : Cx}
end

end Fv
namespace HR
open PySem PySem.Spec PyProof.Rows HT
section
variable {prog : Program} {w : World} {A : Around} {E : Value → Shared → Prop} {s : Shared}
end
end HR
namespace Fv
open PySem PySem.Spec PyProof.Rows L2

end Fv
namespace HR
open PySem PySem.Spec PyProof.Rows L2
abbrev noneYet (w : World) : Obj := { cls := .type "set", dict := none, data := .set #[] 0 (.fresh 0 0 (!w.params.followText "set-order")) }
section
variable {P : Program} {w : World} {A : Around} {E : Value → Shared → Prop} {s : Shared}
theorem set_list {l : Addr} {its : Array Value} (ks : List Int) {Q : Value → Shared → Prop} (calm : A.handled = none) (isL : s.heap.IsList l its) (ints_ : IntsAre its.toList ks) (small : ks.length + 1 < scanBound)
    (fin : ∀ (hp : Heap) (tk c : Nat), SetR w hp s.heap.objs.size (fun j => decide (j ∈ ks)) c → c ≤ ks.length → (∀ b o, s.heap.get? b = some o → hp.get? b = some o) → Q (.ref s.heap.objs.size) { s with heap := hp, toks := tk }) :
    wpAny (model P w) A (call (.type "set") [.ref l]) Q E s := by
  have size : its.size = ks.length := by
    have := IntsAre.length ints_
    simpa using this
  obtain ⟨c0, tl, mro⟩ := F.called_set.mro
  have made := F.called_set.made
  have sub := F.called_set.sub
  refine wpAny_call (codeAny_of_tree ?_)
  show wpAny _ _ (callAny (.type "set") _) _ _ _
  refine wpAny_pure ⟨Code.quiet_builtin _ (by decide +kernel), codeAny_builtin F.entry_type_call ?_⟩
  rw [Around.under_plain (weight_type_call_type "set" [.ref l] []) rfl]
  have f1 := F.called_set.notType
  have f2 := F.called_set.canCreate
  have f3 := F.typeCall_set_1 (.ref l)
  repeat (any_goals (first | assumption | wp_step))
  refine codeAny_mono (code_set_led1 (.ref l) (E := E) (Q₁ := fun made sh => made = .ref s.heap.objs.size ∧ sh = { s with heap := s.heap.push (noneYet w) }) ⟨rfl, rfl⟩) fun r sh got => ?_
  cases r with
  | error e => exact got
  | ok fl =>
    cases fl with
    | ret made =>
      obtain ⟨rfl, rfl⟩ := got
      have at0 : (s.heap.push (noneYet w)).get? s.heap.objs.size = some (noneYet w) := Heap.get?_push_size _ rfl
      have ty0 : Shared.TypeIs { s with heap := s.heap.push (noneYet w) } (.ref s.heap.objs.size) "set" := ⟨_, at0, rfl⟩
      have f4 := F.called_set.init.lookup
      have f5 := F.called_set.init.bind (.ref s.heap.objs.size)
      repeat (any_goals (first | assumption | wp_step))
      refine codeAny_mono (codeAny_call_builtin (R := wants (fun r sh => r = .none ∧ ∃ hp tk c, sh = { s with heap := hp, toks := tk } ∧ SetR w hp s.heap.objs.size (fun j => decide (j ∈ ks)) c ∧ c ≤ ks.length ∧ (∀ b o, s.heap.get? b = some o → hp.get? b = some o)) E)
        F.called_set.init.plain F.entry_set_init (check_set_init_1 ty0 ?_)) fun r2 sh2 got2 => ?_
      · obtain ⟨⟨oc, od, odt, osl⟩, hol, hcl, nl, hdl⟩ := isL
        simp only at hcl hdl
        subst hcl hdl
        have hol' : (s.heap.push (noneYet w)).get? l = some { cls := .type "list", dict := od, data := .seq its nl, slots := osl } := Heap.get?_push_of_some _ hol
        have g1 := F.sub_list_set
        have g2 := F.sub_list_frozenset
        have g3 : (Value.type "list" == Value.type "dict") = false := by decide
        have isL1 : (s.heap.push (noneYet w)).IsList l its := ⟨_, hol', rfl, nl, rfl⟩
        unfold Builtin.«set.__init__» noKeywords Builtin.Frozenset.updateFrom
        generalize gPI : pyIter = PI
        wp_walk
        subst gPI
        refine wpAny_pyIter_list isL1 ?_
        refine wpAny_bind (wpAny_runValue ?_)
        have lower : l < s.heap.objs.size := Heap.lt_size hol
        have calm3 : A.in1.in1.in1.handled = none := by simp [calm]
        have sz : (s.heap.push (noneYet w)).objs.size = s.heap.objs.size + 1 := Heap.size_push ..
        have neI : l ≠ (s.heap.push (noneYet w)).objs.size := by rw [sz]; exact Nat.ne_of_lt (Nat.lt_succ_of_lt lower)
        have out : s.heap.objs.size ∉ [(s.heap.push (noneYet w)).objs.size, l] := by
          rw [sz]
          simp only [List.mem_cons, List.not_mem_nil, or_false, not_or]
          exact ⟨Nat.ne_of_lt (Nat.lt_succ_self _), Nat.ne_of_gt lower⟩
        have each : ∀ (i : Nat) (v : Value), its[i]? = some v → ∃ k t, ks[i]? = some k ∧ v = .int k t := fun i v hv => by
          have hi : i < ks.length := by rw [← size]; exact (Array.getElem?_eq_some_iff.mp hv).1
          obtain ⟨t, e⟩ := PyProof.Rows.IntsAre.int_at ints_ i v (by rw [Array.getElem?_toList]; exact hv)
          exact ⟨ks[i], t, List.getElem?_eq_getElem hi, by rw [e, List.getD_eq_getElem?_getD, List.getElem?_eq_getElem hi] <;> rfl⟩
        refine set_update_ints ((Walks.list calm3 _ l neI its).toS) s.heap.objs.size out ks size small each (its.size - 0) 0 _ (by omega) (Nat.zero_le _) ⟨⟨_, Heap.get?_push_size _ rfl, rfl, rfl⟩, (isL1.push _)⟩ ?first ?last
        case first =>
          exact ⟨0, Nat.le_refl 0, setR_new_at (Heap.get?_push_of_some _ at0)⟩
        case last =>
          intro sh c moved le0 isS
          obtain ⟨hp, g, d, tk, os⟩ := sh
          have eg : g = s.gens := moved.gens
          have ed : d = s.drawn := moved.drawn
          have eo : os = s.os := moved.os
          subst eg ed eo
          show wpAny _ _ _ _ _ _
          refine wpAny_pure ?_
          show wpAny _ _ (ret Value.none) _ _ _
          refine wpAny_pure ⟨rfl, hp, tk, c, rfl, isS, by omega, fun b o e => ?_⟩
          have lb : b < s.heap.objs.size := Heap.lt_size e
          refine moved.heap b o ?_ (Heap.get?_push_of_some _ (Heap.get?_push_of_some _ e))
          simp only [List.mem_cons, List.not_mem_nil, or_false, not_or]
          rw [sz]
          exact ⟨Nat.ne_of_lt lb, Nat.ne_of_lt (Nat.lt_succ_of_lt lb)⟩
      · cases r2 with
        | error e => exact got2
        | ok fl2 =>
          cases fl2 with
          | ret r =>
            obtain ⟨rfl, hp, tk, c, rfl, isS, le0, kept⟩ := got2
            repeat (any_goals (first | assumption | wp_step))
            exact fin _ _ _ isS le0 kept
          | _ => exact got2.elim
    | _ => exact got.elim
end
end HR
namespace Fv
open PySem PySem.Spec PyProof.Rows L2

section
variable {X : Cx}
end
end Fv
namespace HR
open PySem PySem.Spec PyProof.Rows L2
open PySem.W SrtO
section
variable {P : Program} {w : World} {A : Around} {E : Value → Shared → Prop} {s : Shared} {a : Addr}
end
end HR
namespace Fv
open PySem PySem.Spec PyProof.Rows L2

end Fv
/-! ### max(xs), xs a list of tuples of whole numbers -/
namespace Fv
open PySem PySem.Spec PyProof.Rows L2
section
variable {X : Cx}
end
section
variable {X : Cx}
end
end Fv
/-! ### for a, b in d, d a dict by pairs -/
namespace Fv
open PySem PySem.Spec PyProof.Rows L2
def in1 (env : DEnv) (v u : Nat) (d : D) : DEnv := (wipeD env [v, u]).set v (.ow (.fr d))
theorem Good.in {F H : Hp} {env : DEnv} {σ : L2.St} {A : List Addr} {d : D} {x : V} (g : Good F H env σ A) (vs : List Nat) (i : Nat) (hi : i < env.length) (hr : Rep F d x) :
    ∃ A', Good F H ((wipeD env vs).set i (.ow (.fr d))) ((L2.wipe σ vs).set i (some x)) A' := by
  obtain ⟨A1, g1, _⟩ := g.wipe vs
  have hl : i < (wipeD env vs).length := by rw [wipeD_len]; exact hi
  obtain ⟨A2, g2, _⟩ := g1.setS (C := []) (o := .fr d) (x := x) ⟨⟨rfl, hr⟩, by rw [List.append_nil]; exact g1.nd, fun _ h => nomatch h⟩ (List.getElem?_eq_getElem hl)
  exact ⟨A2, g2⟩
structure LcI (F1 H1 : Hp) (env : DEnv) (σ : L2.St) (A : List Addr) (D0 : Addr) (F H : Hp) (acc : List Bool) : Prop where
  g : Good F H env σ A
  s : Step F1 H1 env σ A F H env σ (A ++ [D0])
  h : H D0 = some (.lst (acc.map V.bl))
  nA : D0 ∉ A
  nF : F D0 = none
section
variable {F1 H1 F H F' H' : Hp} {env : DEnv} {σ : L2.St} {A : List Addr} {D0 : Addr} {acc : List Bool}
theorem LcI.ext {C : List Addr} (i : LcI F1 H1 env σ A D0 F H acc) (e : Ext F H F' H' C) : LcI F1 H1 env σ A D0 F' H' acc where
  g := e.good i.g
  s := i.s.trans ((((e.noC (C' := []) fun _ h => nomatch h).step (env := env) (σ := σ) (A := A ++ [D0]))).mem fun a m => by rw [List.append_nil]; exact m)
  h := e.hx _ _ i.h rfl i.nF
  nA := i.nA
  nF := by
    cases q : F' D0 with
    | none => rfl
    | some o =>
      rcases e.fnew D0 (by rw [q]; exact Option.some_ne_none _) with z | z
      · exact absurd i.nF z
      · rw [i.h] at z; cases z
end
def rIsN (K : PySem.W.Frag) (cls : Value) (d : Option Addr) (a : Addr) : List V → Hp → VK → Prop := fun xs H Q => ∃ D : Addr, cls = .ref D ∧ d = none ∧ XCls K D ∧ rIsE K D a xs H Q
theorem call_isN {X : Cx} {a : Addr} {oe : Obj} {cls : Value} {d : Option Addr} {pn : List (Addr × Obj)} (hz : Zc cls d oe) (hf : ∃ vs, oe.data = .fields vs) : CallR (X.suite a ((a, oe) :: pn)) (.builtin "isinstance") (rIsN X.K cls d a) := by
  intro pins s σ H xs us Q I r h
  obtain ⟨D, ec, ed, hx, h⟩ := h
  subst ec
  subst ed
  exact call_isE ⟨hx.ga, hx.gt, hx.be, hx.hd, hx.ha, hx.hn, hx.ht, hx.hm⟩ hz hf pins s σ H xs us Q I r h
end Fv
namespace ZlR
open PySem
open PySem.Sem (wp)
section
variable {prog : Program} {w : World} {A : Around} {E : Value → Shared → Prop} {s : Shared}
end
theorem apart {a T j : Nat} (h : a < T) : T + j ≠ a := by omega
section
variable {prog : Program} {w : World} {A : Around} {R : Result → Shared → Prop}
end
section
variable {prog : Program} {w : World} {A : Around} {E : Value → Shared → Prop} {s : Shared}
end
end ZlR
namespace Fv
open PySem PySem.Spec PyProof.Rows L2

section
variable {prog : Program} {w : World} {A : Around} {E : Value → Shared → Prop} {s : Shared}
/-- the end of a list's iterator while an error is handled -/
theorem lstEnd_hot {it l z : Addr} {i : Nat} {items : Array Value} {Q : Option Value → Shared → Prop} (hot : HotX.HotAt A z s.heap) (ne : z ≠ it) (hit : s.heap.IsListIter it l i) (hl : s.heap.IsList l items) (hx : items[i]? = none)
    (q : ∀ h', Heap.ExtBut it s.heap h' → Q none { s with heap := h' }) : wpAny (model prog w) A (pyNext (.ref it)) Q E s := by
  obtain ⟨oi, gi, ci, di⟩ := id hit
  obtain ⟨ol, gl, cl, nl, dl⟩ := hl
  obtain ⟨hh, oz, vz, gz, dz, cz⟩ := hot
  unfold pyNext
  refine wpAny_bind (wpAny_attempt (wpAny_callSpecial?_slot (name := Str.ofString "__next__") hit.typeIs slot_listiter_next
    (wpAny_call_entry slot_listiter_next hit.typeIs entry_listiter_next ?_ (args_listiter_next _))))
  show wpAny _ _ (field (.ref it) 0 >>= _) _ _ s
  refine wpAny_bind (wpAny_field gi di (x := .ref l) rfl ?_)
  show wpAny _ _ (if (Value.ref l == Value.none) = true then _ else _) _ _ s
  rw [if_neg (show ¬ ((Value.ref l == Value.none) = true) from Bool.false_ne_true)]
  show wpAny _ _ (field (.ref it) 1 >>= _) _ _ s
  refine wpAny_bind (wpAny_field gi di (x := .int i 0) rfl ?_)
  show wpAny _ _ (seqItems? (.ref l) >>= _) _ _ s
  refine wpAny_bind (wpAny_seqItems gl dl ?_)
  simp only [Int.toNat_natCast, hx]
  refine wpAny_bind (wpAny_rule (wpAny_bind (wpAny_setField gi di (by simp) ?_)))
  show wpAny _ _ (newExc (.type "StopIteration") [] >>= _) _ _ _
  refine wpAny_bind ?_
  simp only [newExc, newTuple]
  refine wpAny_bind (wpAny_newObj_type ?_ (by size_fits))
  refine wpAny_bind (m := firstArgMember _ _) (wpAny_of_eq (a := Value.none) (by first | rfl | (simp only [firstArgMember]; rfl)) ?_)
  refine wpAny_newObj_type ?_ (by size_fits)
  have g1 := (Heap.get?_update_other s.heap (Obj.mapFields (·.setIfInBounds 0 Value.none)) ne.symm).trans gz
  refine HotX.raiseNew_hot ⟨hh, oz, vz, Heap.get?_push_of_some _ (Heap.get?_push_of_some _ g1), dz, cz⟩ (Nat.ne_of_lt (Heap.lt_size (Heap.get?_push_of_some _ g1))) (Heap.get?_push_size _ rfl) rfl (by first | (simp; done) | (simp; omega) | (simp only [Array.size_append]; simp; omega)) ?_
  refine wpAny_bind (wpAny_isInstance (T := "StopIteration") (b := true) ⟨_, Heap.get?_update_self _ (Heap.get?_push_size _ rfl) rfl, rfl⟩ isSubtype_stop ?_)
  refine wpAny_pure (q _ fun b o nb e => ?_)
  have g2 := (Heap.get?_update_other s.heap (Obj.mapFields (·.setIfInBounds 0 Value.none)) (Ne.symm nb)).trans e
  rw [Heap.get?_update_other _ _ (Nat.ne_of_gt (Heap.lt_size (Heap.get?_push_of_some _ g2)))]
  exact Heap.get?_push_of_some _ (Heap.get?_push_of_some _ g2)
end
section
variable {X : Cx}
/-- the next item of a list, whatever is handled -/
theorem lstItem_any {tg : Expr} {a it : Addr} {i : Nat} {pins : List (Addr × Obj)} {s : Shared} {σ : L2.St} {H : Hp} {E : Value → Shared → Prop} (I : Inv X pins σ H s) (f : FpOk X pins H it) (st : s.heap.IsListIter it a i) (go : (Itl X.K a).go i H) :
    wpAny (model X.prog X.w) X.A (pyNext (.ref it)) (fun r s1 => ∃ u, r = some u ∧ wpAny (model X.prog X.w) X.A (letOwnedTupleGo tg (.ref it) u) (fun _ s2 => ∃ x H', Inv X pins σ H' s2 ∧ RelV x u ∧ (Itl X.K a).yld i H x H' ∧ s2.heap.IsListIter it a (i + 1) ∧ H' it = none) E s1) E s := by
  obtain ⟨xs, x, sq, gx⟩ := go
  obtain ⟨vals, rels, lay, _⟩ := I.list sq
  obtain ⟨u, gu, ru⟩ := rels.get gx
  refine wpAny_pyNext_list_item st lay.isList (x := u) (by simpa using gu) fun h' st' keep => ?_
  have J : Inv X pins σ H { s with heap := h' } := I.turned (t' := s.toks) (fun b o nb e => (keep.2 b nb).trans e) f.1 f.2.1 f.2.2.2.1 f.2.2.2.2.1 f.2.2.2.2.2
  obtain ⟨oi, gi, ci, di⟩ := id st'
  exact ⟨u, rfl, go_of (s := { s with heap := h' }) gi ci di (by decide) ⟨x, H, J, ru, ⟨rfl, fun ys sy => by rw [I.list_inj sy sq]; exact gx⟩, st', f.1⟩⟩
/-- its end, while an error is handled -/
theorem lstDone_hot {a it z : Addr} {i : Nat} {pins : List (Addr × Obj)} {s : Shared} {σ : L2.St} {H : Hp} {E : Value → Shared → Prop} (hot : HotX.HotAt X.A z s.heap) (ne : z ≠ it) (I : Inv X pins σ H s) (f : FpOk X pins H it) (st : s.heap.IsListIter it a i) (stop : (Itl X.K a).stop i H) :
    wpAny (model X.prog X.w) X.A (pyNext (.ref it)) (fun r s1 => r = none ∧ Inv X pins σ H s1) E s := by
  obtain ⟨xs, sq, le⟩ := stop
  obtain ⟨vals, rels, lay, _⟩ := I.list sq
  have len := rels.length
  exact lstEnd_hot hot ne st lay.isList (by simp; omega) fun h' keep => ⟨rfl, I.turned (t' := s.toks) (fun b o nb e => keep b o nb e) f.1 f.2.1 f.2.2.2.1 f.2.2.2.2.1 f.2.2.2.2.2⟩
/-- [elt for tg in a list if ..], while an error is handled -/
theorem pe_lcHot {elt tg src : Expr} {tests : List Expr} {scope : Scope} {own : List (Str × Nat)} {pos : Pos} {ti : TE} {g : TG} {tt : TT} {te : TE} (hot : L2H.HotC X) (nd : X.N.Nodup) (hi : PE X src ti) (ok : BlkOk X.N X.env.scope scope own)
    (hg : ∀ (s : Shared) (H : Hp) (C : Addr) (cl : List (Str × Addr)) (fp : List Addr), PG (X.blk s H scope (compEnvC scope cl C X.env) fp) tg g) (ht : ∀ (s : Shared) (H : Hp) (C : Addr) (cl : List (Str × Addr)) (fp : List Addr), PTs (X.blk s H scope (compEnvC scope cl C X.env) fp) tests tt)
    (he : ∀ (s : Shared) (H : Hp) (C : Addr) (cl : List (Str × Addr)) (fp : List Addr), PE (X.blk s H scope (compEnvC scope cl C X.env) fp) elt te) (hs : ∀ x, foldedSetIterable src X.env x = pure x := by intro _; rfl) :
    PE X (.ListComp elt [⟨tg, src, tests, 0⟩] scope pos) (tLc (iList X.K ti) g tt te (own.map (·.2))) := by
  refine ⟨fun pins s σ H Q I want => ?_⟩
  rw [eval_ListComp]
  have caps : ∀ y ∈ scope.names, y.2 = .free → ∃ c, X.env.cells.lookup y.1 = some c := fun y hy e => (ok.free y hy e).elim (fun k => I.ok.has _ (.inl k)) fun k => I.ok.has _ (.inr k)
  refine wpAny_comprehension_free rfl hs (closure_ok caps) ok.kind (fun y hy e => by rw [ok.uniq y hy, e]) (thn (hi.run pins s σ H _ I want) fun v0 sA first => ?_)
  obtain ⟨x0, H2, IA, r0, a, e0, ⟨xs, sq⟩, q⟩ := first
  subst e0
  cases r0
  obtain ⟨vals, rels, lay, _⟩ := IA.list sq
  refine wpAny_pyIter_list lay.isList ?_
  generalize hit : sA.heap.objs.size = it
  generalize hs2 : ({ sA with heap := sA.heap.push { cls := .type "list_iterator", data := .fields #[.ref a, .int 0 0] } } : Shared) = s2
  have I2 : Inv X pins σ H2 s2 := by rw [← hs2]; exact IA.kept (t' := sA.toks) fun b o e => Heap.get?_push_of_some _ e
  have st2 : s2.heap.IsListIter it a 0 := by rw [← hs2, ← hit]; exact ⟨_, Heap.get?_push_size _ rfl, rfl, rfl⟩
  have f2 : FpOk X pins H2 it := by rw [← hit]; exact IA.fpOk (Nat.le_refl _) (IA.hok.fresh (Nat.le_refl _))
  have keepL : ∀ {i : Nat} {h h' : Heap}, h.IsListIter it a i → (∀ o, h.get? it = some o → h'.get? it = some o) → h'.IsListIter it a i := fun {i h h'} st k => st.at fun o e => k o e
  refine wpAny_newObj_type (newEnv_comp ?_) (by show 0 ≤ sizeLine; decide)
  generalize hD : s2.heap.objs.size = D
  have freeD : H2 D = none := I2.hok.fresh (Nat.le_of_eq hD)
  obtain ⟨W, ⟨m0, w0⟩, turn⟩ := q D freeD
  generalize hs3 : ({ s2 with heap := s2.heap.push { cls := .type "list", data := .seq ([] : List Value).toArray } } : Shared) = s3
  have I3 : Inv X pins σ (upd H2 D (.lst [])) s3 := by
    rw [← hs3]
    refine I2.laid (t' := s2.toks) (fun b o e => Heap.get?_push_of_some _ e) (Nat.le_of_eq hD) ⟨Nat.zero_le _, [], 0, .nil, ?_⟩
    rw [← hD]
    exact Heap.get?_push_size _ rfl
  have h3 : s3.heap = s2.heap.push { cls := .type "list", data := .seq ([] : List Value).toArray } := by rw [← hs3]
  have ltI : it < s2.heap.objs.size := by
    obtain ⟨o, e, _⟩ := st2
    exact Heap.lt_size e
  have f3 : ∀ b ∈ [it], FpOk X pins (upd H2 D (.lst [])) b ∧ b < s3.heap.objs.size := fun b hb => by
    obtain rfl := List.mem_singleton.mp hb
    refine ⟨⟨?_, f2.2⟩, by rw [h3, Heap.size_push]; exact Nat.lt_succ_of_lt ltI⟩
    rw [upd_ne (by rw [← hD]; exact Nat.ne_of_lt ltI)]
    exact f2.1
  have st3 : s3.heap.IsListIter it a 0 := keepL st2 fun o e => by rw [h3]; exact Heap.get?_push_of_some _ e
  have I4 := block_start I3 ok nd f3
  have pg := hg s3 (upd H2 D (.lst [])) s3.heap.objs.size (cellsFrom (s3.heap.objs.size + 1) scope.names (cloFrom X.env.cells scope.names [])) [it]
  have pt := ht s3 (upd H2 D (.lst [])) s3.heap.objs.size (cellsFrom (s3.heap.objs.size + 1) scope.names (cloFrom X.env.cells scope.names [])) [it]
  have pe := he s3 (upd H2 D (.lst [])) s3.heap.objs.size (cellsFrom (s3.heap.objs.size + 1) scope.names (cloFrom X.env.cells scope.names [])) [it]
  show codeAny _ _ (.compStart (.ListComp elt [⟨tg, src, tests, 0⟩] scope pos) 0 (.ref it) (.ref D) (compEnvC scope (cellsFrom (s3.heap.objs.size + 1) scope.names (cloFrom X.env.cells scope.names [])) s3.heap.objs.size X.env)) (compPost (model X.prog X.w) X.A X.xe none _ (.ref D) s3.heap.objs.size) { s3 with heap := pushCells (s3.heap.push { cls := .type "dict", data := .dict #[] }) scope.names }
  have freeI : (upd H2 D (.lst [])) it = none := (f3 it (List.mem_singleton.mpr rfl)).1.1
  -- the error that is handled stands there, out of reach
  obtain ⟨pz, ⟨hz, vz, dz, cz⟩, mz⟩ := hot
  obtain ⟨gz, nz, _, _, _⟩ := I3.pin pz (List.mem_append_left _ mz)
  have zI : pz.1 ≠ it := f2.2.2.2.2.2 pz (List.mem_append_left _ mz)
  generalize hce : compEnvC scope (cellsFrom (s3.heap.objs.size + 1) scope.names (cloFrom X.env.cells scope.names [])) s3.heap.objs.size X.env = ce at I4 pg pt pe ⊢
  have cL : ce.locals = s3.heap.objs.size := by subst hce; rfl
  generalize hH3 : upd H2 D (.lst []) = H3 at I3 I4 pg pt pe w0 freeI f3 nz
  generalize hs4 : ({ s3 with heap := pushCells (s3.heap.push { cls := .type "dict", data := .dict #[] }) scope.names } : Shared) = s4 at I4 ⊢
  have st4 : s4.heap.IsListIter it a 0 := keepL st3 fun o e => by rw [← hs4]; exact pushCells_keeps _ _ _ _ (Heap.get?_push_of_some _ e)
  have own' : ∀ {τ : L2.St} {G : Hp} {t : Shared}, Inv (X.blk s3 H3 scope ce [it]) [] τ G t → G it = none → FpOk (X.blk s3 H3 scope ce [it]) [] G it := fun {τ G t} J hn =>
    ⟨hn, (J.ok.exf it (List.mem_singleton.mpr rfl)).1, J.ok.exfs it (List.mem_singleton.mpr rfl), .inl (List.mem_singleton.mpr rfl), fun x c e => (J.ok.exf it (List.mem_singleton.mpr rfl)).2 x c e, fun p hp => absurd (show p ∈ ([] : List (Addr × Obj)) ++ [] from hp) (by simp)⟩
  have loop : codeAny (model X.prog X.w) X.A (.compLoop (.ListComp elt [⟨tg, src, tests, 0⟩] scope pos) 0 (.ref it) (.ref D) ce) (compPost (model X.prog X.w) X.A X.xe none (EP X pins σ Q) (.ref D) s3.heap.objs.size) s4 := by
    refine compLoop_any (fun n t => ∃ i G, Inv (X.blk s3 H3 scope ce [it]) [] (wipe σ (own.map (·.2))) G t ∧ t.heap.IsListIter it a i ∧ G it = none ∧ W i n G) ?_ m0 ⟨0, H3, I4, st4, freeI, w0⟩
    rintro n s5 ⟨i, H5, I5, st5, n5, w5⟩
    rcases turn i n H5 w5 with ⟨stop, fin⟩ | ⟨go, Nx, again, step⟩
    · have hot5 : HotX.HotAt (X.blk s3 H3 scope ce [it]).A pz.1 s5.heap := by
        obtain ⟨sl, e⟩ := I5.base.any gz nz (fun m => zI (List.mem_singleton.mp m))
        exact ⟨hz, _, vz, e, dz, cz⟩
      refine thnF (lstDone_hot (X := X.blk s3 H3 scope ce [it]) (E := fun _ _ => False) hot5 zI I5 (own' I5 n5) st5 stop) fun r s6 ⟨er, I6⟩ => ?_
      subst er
      have I7 : Inv X pins σ H5 s6 := I3.call' (ch := [it]) I6.os I6.base I6.hok I6.bare fun b hb => ⟨(f3 b hb).1.2.2.2.1, (f3 b hb).1.2.1, (f3 b hb).1.2.2.2.2.1, (f3 b hb).1.2.2.2.2.2⟩
      have freeC : H5 s3.heap.objs.size = none := by
        have z : H5 ce.locals = none := I6.free
        rw [cL] at z
        exact z
      obtain ⟨m, ns, _⟩ := I6.loc
      have ns : s6.heap.Ns ce.locals m := ns
      rw [cL] at ns
      obtain ⟨f0, f1, _, f4, f5, f6⟩ := I3.fpOk (Nat.le_refl _) freeC
      exact ⟨m, ns, fun h'' sb => ⟨.ref D, H5, I7.turned (t' := s6.toks) (fun b o nb e => (sb.2 b nb).trans e) f0 f1 f4 f5 f6, rfl, fin⟩⟩
    · refine thnF (lstItem_any (X := X.blk s3 H3 scope ce [it]) (tg := tg) (E := fun _ _ => False) I5 (own' I5 n5) st5 go) fun r s6 ⟨u, er, h6⟩ => ?_
      subst er
      refine thnF h6 fun _ s7 ⟨x, H7, I7, r7, y7, st7, n7⟩ => ?_
      obtain ⟨oi, gi, ci, di⟩ := id st7
      have J7 := I7.pinned (fp := [it]) (fun b hb => by obtain rfl := List.mem_singleton.mp hb; exact own' I7 n7) (fun b hb => by obtain rfl := List.mem_singleton.mp hb; exact ⟨oi, gi, fun v z => by rw [di] at z; cases z⟩)
      refine thnF (pg.run _ s7 _ H7 x u _ J7 r7 (step x H7 y7)) fun _ s8 ⟨τ, H8, I8, wz, q8⟩ => ?_
      refine thnF (pt.run _ s8 τ H8 _ I8 q8) fun b s9 ⟨H9, I9, q9⟩ => ?_
      have next : ∀ {t : Shared} {G : Hp}, Inv (X.blk s3 H3 scope ce [it]) ([] ++ pinsAt [it] s7.heap) τ G t → Nx G → ∃ m, m < n ∧ ∃ i G, Inv (X.blk s3 H3 scope ce [it]) [] (wipe σ (own.map (·.2))) G t ∧ t.heap.IsListIter it a i ∧ G it = none ∧ W i m G := fun {t G} J nx => by
        obtain ⟨m', lt, w'⟩ := again G nx
        have stay := J.pin (it, oi) (List.mem_append_right _ (List.mem_append_right _ (mem_pinsAt (List.mem_singleton.mpr rfl) gi)))
        have len : (wipe σ (own.map (·.2))).length = τ.length := by rw [← wz, wipe_length]
        refine ⟨m', lt, i + 1, G, (J.unpinned (pins := [])).weak len (fun j v e => ?_), keepL st7 fun o e => by rw [gi] at e; cases e; exact stay.1, stay.2.1, w'⟩
        rw [← wz] at e
        exact (wipe_some e).1
      cases b with
      | false =>
        simp only [Bool.false_eq_true, if_false] at q9 ⊢
        exact next I9 q9
      | true =>
        simp only [if_true] at q9 ⊢
        refine thnF (pe.run _ s9 τ H9 _ I9 q9) fun z s10 ⟨yv, H10, I10, r10, acc, eD, sz, nx⟩ => ?_
        exact app_ok (X := X.blk s3 H3 scope ce [it]) I10 eD sz r10 fun s11 I11 => next I11 nx
  refine codeAny_compStart_list loop ?_
  exact (turn_list (P := X.prog) (w := X.w) (K := X.K) (tg := tg) a it).self X.A 0 _ _ _ st4 loop
end
/-! ### errors whose context is None -/
section
variable {X : Cx}
theorem pmk_own0N {C : Addr} {bmB : List Value} {B newId initId : String} {x : Str} {p pos : Pos} (F : ExcBaseFacts B newId initId bmB) (q : PySem.W.excIn X.K C bmB newId = true) (gC : X.mg x = some (.ref C)) (kC : PySem.W.keepIn X.K (.ref C) = true) (r : Raises X (.ref C)) (hg : Gl X x)
    (hdb : (x == ("__debug__" : Str)) = false := by decide) : L2N.PMk X (.Call (.Name x p) [] [] pos) (fun _ H Q => Q (.ref C) none H) := by
  intro pins s σ H Q I want
  refine wpAny_Call_Name_kw (ld_glob I hg gC ?_ hdb)
  refine PySem.W.callWith_K0 I.kIn kC ?_
  show wpAny _ _ (call (.ref C) []) _ _ _
  obtain ⟨bm, N, nm, qn, bs, hdct, sn, sub, ab, col, dd, k0, k1, k2, k3, k5, mN, hC, hN, hni, T⟩ := exc_obj I.kIn q
  obtain ⟨hp1, g1, d1, tk1, os1⟩ := s
  refine wpAny_call_exc_subT F T hC hN hni (fun h' e made => ?_) (Nat.zero_le _)
  exact L2N.mk_of I made r want (I.hok.gone made.new)
theorem takes0N {X : Cx} : L2N.Takes X (fun _ _ _ _ => False) := fun _ _ x => by
  obtain ⟨_, _, _, _, _, _, _, _, _, _, _, _, _, _, _, _, z⟩ := x
  exact z.elim
theorem takes_lenN {W : WX} (t : L2N.Takes X W) : L2N.Takes X fun c d σ H => σ.length = X.N.length → W c d σ H := fun u s' ⟨a, B, sI, pins, σ, H, cls, d, e, I, nb, up, sky, na, os, ag, w⟩ =>
  t u s' ⟨a, B, sI, pins, σ, H, cls, d, e, I, nb, up, sky, na, os, ag, w I.len⟩
variable {P : Program} {w : World} {K : PySem.W.Frag} {mg : Str → Option Value} {base : Heap}
/-- a def that may raise, its errors without a context -/
theorem okN {x qual : Str} {st : Stmt} {f : Addr} {fd : FuncData} {N ps : List Str} {k : Nat} {sp : Sp} (F : Fun K x qual st f fd) (S : FnScope N ps (defScope st)) (len : ∀ vs H Q E, sp vs H Q E → vs.length = ps.length)
    (body : ∀ (cdv : Value) (A : Around) (outer : List Env) (s : Shared) (H : Hp) (vs : List V) (Q : VK) (E : XK), Room k (A.deeper (envOfC qual (defScope st) s.heap.objs.size f cdv)) → sp vs H Q E →
      ∃ t, PSs (cxOf (L2N.CX P w) P w K mg base N qual (defScope st) f cdv A outer s H E) (defBody st) t ∧ t { nx := fun _ H' => Q .non H', rt := Q } (L2.start N vs) H) : FnOk P w K mg base (L2N.CX P w) (k + 1) f fd ps sp := by
  obtain ⟨oc, od, kV, doc, pm, an, cdv, ct, osl, rfl, lk, hcd⟩ := F.ex
  exact fn_of lk hcd S len fun A outer s H vs Q E hr hsp => body cdv A outer s H vs Q E hr hsp
end
/-! ### a lambda handed to a def that calls it within a try -/
/-- the context of the lambda's body -/
def lamCxN (X : Cx) (A : Around) (outer : List Env) (s : Shared) (H : Hp) (E : XK) (sc : Scope) (f d : Addr) : Cx :=
  (LamX.lamCx X A outer s H E sc f d).tr [] fun e s' => wpAny (model X.prog X.w) (A.deeper (LamX.lamEnv X sc s.heap.objs.size f d)) (leaving (LamX.lamEnv X sc s.heap.objs.size f d) e) (fun _ s2 => L2N.CX X.prog X.w outer H s E e s2) (fun e' s2 => L2N.CX X.prog X.w outer H s E e' s2) s'
section
variable {X : Cx} {pins : List (Addr × Obj)} {σ : L2.St} {H : Hp} {s : Shared}
/-- x() in the def that got the lambda -/
theorem pe_actN {CXg : CXT} {Eg : XK} {Ng : List Str} {qg : Str} {sg : Scope} {g f d : Addr} {cdg pm ct : Value} {pa : Arguments} {bo : Expr} {sc : Scope} {k i : Nat} {a : Str} {pn : List (Addr × Obj)} {xe : Value → Shared → Prop} {W : WX} {E : XK} {tb : TE} {p1 p2 : Pos}
    (I : Inv X pins σ H s) (L : LamX.LamS X.env.scope sc) (hf : s.heap.get? f = some (PySem.W.kla_obj "<lambda>" (X.env.qual ++ "<lambda>") pa bo sc (cloFrom X.env.cells sc.names []) pm d ct)) (fF : H f = none) (fS : f ∉ frs X.stack)
    (hb : bindArgs (PySem.W.kla_fn "<lambda>" (X.env.qual ++ "<lambda>") pa bo sc (cloFrom X.env.cells sc.names []) pm (.ref d) ct) ⟨[], []⟩ = pure [])
    (tk : L2N.Takes ((cxOf CXg X.prog X.w X.K X.mg X.base Ng qg sg g cdg X.A X.stack s H Eg).tr pn xe) W) (toW : ∀ cls dd τ G, E cls dd G → W cls dd τ G) (hr : Room (k + 1) (X.A.deeper (envOfC qg sg s.heap.objs.size g cdg)))
    (body : ∀ (A : Around) (outer : List Env) (s : Shared) (H : Hp), Room k (A.deeper (LamX.lamEnv X sc s.heap.objs.size f d)) → PE (lamCxN X A outer s H E sc f d) bo tb)
    (hN : Ng[i]? = some a) (hv : Vis sg a) (hdb : (a == ("__debug__" : Str)) = false := by decide) (hcd : (a == ("__classdict__" : Str)) = false := by decide) :
    PE ((cxOf CXg X.prog X.w X.K X.mg X.base Ng qg sg g cdg X.A X.stack s H Eg).tr pn xe) (.Call (.Name a p1) [] [] p2)
      (fun τ G Q => τ[i]? = some (some (.ref f)) ∧ G d = some (LamX.CodeO d (X.env.qual ++ "<lambda>")) ∧ tb σ G Q) := by
  refine ⟨fun pinsZ sZ τ G Q IZ want => ?_⟩
  obtain ⟨at_, co, go⟩ := want
  refine wpAny_Call_Name_kw (thn ((pe_var (pos := p1) (i := i) hN hv hdb hcd).run pinsZ sZ τ G (fun v G1 => v = .ref f ∧ G1 = G) IZ ⟨.ref f, at_, rfl, rfl⟩) fun u s1 ⟨v, G1, I1, r1, ev, eG⟩ => ?_)
  subst ev
  rw [eG] at I1
  obtain rfl : u = Value.ref f := r1
  have there : s1.heap.get? f = some (PySem.W.kla_obj "<lambda>" (X.env.qual ++ "<lambda>") pa bo sc (cloFrom X.env.cells sc.names []) pm d ct) := I1.base.keep f _ hf fF fS (fun z => nomatch (show f ∈ ([] : List Addr) from z))
  refine PySem.W.callWith_F0 ⟨_, _, _, _, there⟩ ?_
  have since : Un (frs X.stack) [] H G s.heap s1.heap := I1.base
  obtain ⟨⟨oc, vs, t, gc, dc, vc⟩, _, _⟩ := I1.hok d _ co
  have ran : codeAny (model X.prog X.w) (X.A.deeper (envOfC qg sg s.heap.objs.size g cdg)) (.call (.ref f) ⟨[], []⟩) (CR (L2N.CX X.prog X.w) (envOfC qg sg s.heap.objs.size g cdg :: X.stack) X.prog X.w G s1 Q E) s1 := by
    refine PySem.W.kla_callFunE hr.depth there rfl L.co L.gen rfl ⟨d, oc, vs, t, rfl, gc, dc, vc⟩ ?_
    rw [hb]
    refine wpAny_pure (wpAny_newFunctionEnv (fun y hy => (L.own y hy).2) (fun y hy => absurd hy (by simp)) (fun h1 ns sb => ⟨I1.nolimit.fresh _ sb, ?_⟩) L.kind)
    show codeAny _ _ (.expr bo (LamX.lamEnv X sc s1.heap.objs.size f d)) _ _
    have keep : ∀ b o, s1.heap.get? b = some o → h1.get? b = some o := fun b o e => sb.extBut b o (Nat.ne_of_lt (Heap.lt_size e)) (Heap.get?_push_of_some _ e)
    have J0 : Inv (LamX.lamCx X (X.A.deeper (envOfC qg sg s.heap.objs.size g cdg)) (envOfC qg sg s.heap.objs.size g cdg :: X.stack) s1 G E sc f d) [] σ G { s1 with heap := h1, toks := s1.toks + ([] : List (Str × Value)).length } :=
      LamX.lam_start2 I L I1.env0 hr.hd since ns keep
    have J : Inv (lamCxN X (X.A.deeper (envOfC qg sg s.heap.objs.size g cdg)) (envOfC qg sg s.heap.objs.size g cdg :: X.stack) s1 G E sc f d) [] σ G { s1 with heap := h1, toks := s1.toks + ([] : List (Str × Value)).length } := J0.toTry _
    refine PySem.W.kla_codeExpr (wpAny_mono ((body _ _ s1 G (hr.deeper _)).run [] _ _ G Q J go) (fun v s' hq => ?_) fun e s' hq => hq)
    obtain ⟨w', H', J', rv, q⟩ := hq
    exact ⟨w', H', J'.os, J'.bare, J'.base, J'.hok, rv, q⟩
  have px : Passes (L2N.CX X.prog X.w) ((cxOf CXg X.prog X.w X.K X.mg X.base Ng qg sg g cdg X.A X.stack s H Eg).tr pn xe) E := L2N.passes_call tk toW
  refine wpAny_call (codeAny_mono ran fun r s' hq => ?_)
  cases r with
  | error e => exact px pinsZ τ G s1 e s' I1 hq
  | ok fl =>
    cases fl with
    | ret u => exact I1.after hq
    | _ => exact False.elim hq
end
/-- the def that calls what it got; TT: what it makes of the lambda's reading -/
def GivesN (X : Cx) (Ng : List Str) (x : Str) (sg : Scope) (g : Addr) (cdg : Value) (bg : List Stmt) (a : Str) (q : Str) (TT : (XK → Hp → VK → Prop) → Hp → VK → Prop) : Prop :=
  ∀ (f d : Addr) (s : Shared) (H : Hp) (Q : VK) (tl : XK → Hp → VK → Prop),
    (∀ (W : WX) (pn : List (Addr × Obj)) (xe : Value → Shared → Prop) (E : XK) (p1 p2 : Pos), L2N.Takes ((cxOf CX0 X.prog X.w X.K X.mg X.base Ng x sg g cdg X.A X.stack s H E0).tr pn xe) W → (∀ cls dd τ G, E cls dd G → W cls dd τ G) →
      PE ((cxOf CX0 X.prog X.w X.K X.mg X.base Ng x sg g cdg X.A X.stack s H E0).tr pn xe) (.Call (.Name a p1) [] [] p2) (fun τ G Q => τ[0]? = some (some (.ref f)) ∧ G d = some (LamX.CodeO d q) ∧ tl E G Q)) →
    H d = some (LamX.CodeO d q) → TT tl H Q →
    ∃ t, PSs (cxOf CX0 X.prog X.w X.K X.mg X.base Ng x sg g cdg X.A X.stack s H E0).nox bg t ∧ t { nx := fun _ H' => Q .non H', rt := Q } (L2.start Ng [.ref f]) H

/-- what the making of a lambda does: nothing, or one table of T grows by one new code object -/
def LamExt (T : List (Addr × Str)) (H H1 : Hp) : Prop := H1 = H ∨ ∃ (P d : Addr) (q : Str) (ps more : Array Value), (P, q) ∈ T ∧ (∀ p ∈ T, p.1 = P → p.2 = q) ∧ H P = some (.tbl ps) ∧ H d = none ∧ TriplesOk (ps ++ more).toList ∧
  (∀ (at_ : Pos) (u : Value), codeAmong at_ (ps ++ more).toList = some u → codeAmong at_ ps.toList = some u ∨ u = .ref d) ∧ H1 = upd (upd H P (.tbl (ps ++ more))) d (LamX.CodeO d q)
section
variable {X : Cx} {pins : List (Addr × Obj)} {σ : L2.St} {H : Hp} {s : Shared}
abbrev lamN (X : Cx) : Str := X.env.qual ++ "<lambda>"
abbrev lamO (X : Cx) (pa : Arguments) (bo : Expr) (sc : Scope) (pm : Value) (d : Addr) (ct : Value) : Obj := PySem.W.kla_obj "<lambda>" (lamN X) pa bo sc (cloFrom X.env.cells sc.names []) pm d ct
/-- the lambda made, and what it did -/
theorem lam_mk {T : List (Addr × Str)} {c P : Addr} {pa : Arguments} {bo : Expr} {sc : Scope} {at_ : Pos} {E Q : Value → Shared → Prop}
    (I : Inv X pins σ H s) (tb : LamX.TabB X.base X.mg c P) (ec : X.env.code = .ref c) (m : (P, lamN X) ∈ T) (hu : ∀ p ∈ T, p.1 = P → p.2 = lamN X) (ts : LamX.Tabs T H)
    (nd : defaultsOf pa X.env = ([], [])) (hf : ∀ y ∈ sc.names, y.2 = .free → ∃ k, X.env.cells.lookup y.1 = some k)
    (go : ∀ (f d : Addr) (pm ct : Value) (H1 : Hp) (s1 : Shared), Inv X pins σ H1 s1 → LamExt T H H1 → s1.heap.get? f = some (lamO X pa bo sc pm d ct) → H1 f = none → f ∉ frs X.stack →
      H1 d = some (LamX.CodeO d (lamN X)) → Q (.ref f) s1) :
    wpAny (model X.prog X.w) X.A (eval (.Lambda pa bo sc at_) X.env) Q E s := by
  obtain ⟨ps, tP, tr, tc⟩ := ts _ m
  have inT : s.heap.get? P = some { cls := .none, data := .fields ps } := I.hok P _ tP
  have bi := tb.bm.keeps I.bk
  have off : ∀ f, s.heap.objs.size ≤ f → f ∉ frs X.stack := by
    intro f le mem
    rcases List.mem_cons.mp (I.stkSub _ mem) with rfl | mem
    · exact absurd I.lt (Nat.not_lt.mpr le)
    · exact I.nofs le mem
  apply PySem.W.kla_eval nd
  cases hit : codeAmong at_ ps.toList with
  | some u =>
    obtain ⟨d, rfl, hd⟩ := tc at_ u hit
    apply PySem.W.kla_makeFunctionHit (mg := X.mg) (c := c) (P := P) (ps := ps) (closure_ok hf) I.ok.glob (I.mod.glob.keeps I.bk) ec (tb.code.keeps I.bk) inT tr hit bi
    intro ct hp tk ext le
    have J := I.kept (t' := tk) (h' := hp.push (lamO X pa bo sc ((X.mg "__name__").getD .none) d ct)) fun b o e => Heap.get?_push_of_some _ (ext b o e)
    exact go hp.objs.size d _ ct H _ J (.inl rfl) (Heap.get?_push_size _ rfl) (I.hok.fresh le) (off _ le) hd
  | none =>
    apply PySem.W.kla_makeFunction (mg := X.mg) (c := c) (P := P) (ps := ps) (closure_ok hf) I.ok.glob (I.mod.glob.keeps I.bk) ec (tb.code.keeps I.bk) inT tr hit tb.gP bi
    intro d ct hp tk ext ge lt rec tab
    obtain ⟨d1, oc, vs, t, ed, oa, od, ov⟩ := rec
    cases ed
    have le : s.heap.objs.size ≤ hp.objs.size := Nat.le_trans ge (Nat.le_of_lt lt)
    have nd2 : H d = none := I.hok.fresh ge
    have J := LamX.inv_table (t' := tk) (more := #[rawInt at_.line, rawInt at_.col, .ref d]) (h' := hp.push (lamO X pa bo sc ((X.mg "__name__").getD .none) d ct)) I tP
      (fun b o hb e => Heap.get?_push_of_some _ (ext b o hb e)) (Heap.get?_push_of_some _ tab) ge ⟨oc, vs, t, Heap.get?_push_of_some _ oa, od, ov⟩
    have lst : (ps ++ #[rawInt at_.line, rawInt at_.col, .ref d]).toList = ps.toList ++ [rawInt at_.line, rawInt at_.col, .ref d] := by simp
    refine go hp.objs.size d _ ct _ _ J (.inr ⟨P, d, _, ps, _, m, hu, tP, nd2, ?_, fun p u e => ?_, rfl⟩) (Heap.get?_push_size _ rfl) ?_ (off _ le) upd_same
    · rw [lst]
      exact PySem.TriplesOk_snoc _ _ _ _ tr
    · rw [lst] at e
      exact LamX.among_app _ tr e
    · have n1 : hp.objs.size ≠ d := Nat.ne_of_gt lt
      have n2 : hp.objs.size ≠ P := Nat.ne_of_gt (Nat.lt_of_lt_of_le (Heap.lt_size inT) le)
      rw [upd_ne n1, upd_ne n2]
      exact I.hok.fresh le
end
def tLamX (T : List (Addr × Str)) (TT : (XK → Hp → VK → Prop) → Hp → VK → Prop) (t : XK → TE) : TE := fun σ H Q => LamX.Tabs T H ∧ ∀ H1, LamExt T H H1 → TT (fun E H' Q' => t E σ H' Q') H1 Q
section
variable {X : Cx}
/-- x(lambda: e) -/
theorem pe_lamX {T : List (Addr × Str)} {TT : (XK → Hp → VK → Prop) → Hp → VK → Prop} {x a : Str} {g c P : Addr} {k : Nat} {pg : Arguments} {bg : List Stmt} {sg : Scope} {dV kV doc pm cdv ct oc : Value}
    {an od : Option Addr} {osl : Array (Option Value)} {Ng : List Str} {pa : Arguments} {bo : Expr} {sc : Scope} {t : XK → TE} {p lpos pos : Pos}
    (hg : Gl X x) (hm : X.mg x = some (.ref g)) (hk : PySem.W.keepIn X.K (.ref g) = true)
    (lk : X.K.lookup g = some ⟨oc, od, .func (PySem.W.fnOf x x pg bg sg dV kV doc pm an cdv ct), osl⟩) (hcg : PySem.W.codeIn X.K cdv x = true)
    (hb : L2.Binds X.K (PySem.W.fnOf x x pg bg sg dV kV doc pm an cdv ct) [a] []) (Sg : FnScope Ng [a] sg) (hNg : Ng[0]? = some a) (hva : Vis sg a)
    (hG : GivesN X Ng x sg g cdv bg a (lamN X) TT) (tb : LamX.TabB X.base X.mg c P) (ec : X.env.code = .ref c) (m : (P, lamN X) ∈ T) (hu : ∀ p ∈ T, p.1 = P → p.2 = lamN X)
    (hr : Room (k + 2) X.A) (L : LamX.LamS X.env.scope sc) (nd : defaultsOf pa X.env = ([], []))
    (hbind : ∀ (q : Str) (cl : List (Str × Addr)) (pm cv ctv : Value), bindArgs (PySem.W.kla_fn "<lambda>" q pa bo sc cl pm cv ctv) ⟨[], []⟩ = pure [])
    (hbody : ∀ (A : Around) (outer : List Env) (s : Shared) (H : Hp) (E : XK) (f d : Addr), Room k (A.deeper (LamX.lamEnv X sc s.heap.objs.size f d)) → PE (lamCxN X A outer s H E sc f d) bo (t E))
    (hdb : (x == ("__debug__" : Str)) = false := by decide) (hd : (a == ("__debug__" : Str)) = false := by decide) (hcd : (a == ("__classdict__" : Str)) = false := by decide) :
    PE X (.Call (.Name x p) [.Lambda pa bo sc lpos] [] pos) (tLamX T TT t) := by
  refine ⟨fun pins s σ H Q I h => ?_⟩
  obtain ⟨ts, go⟩ := h
  apply wpAny_Call_Name_kw
  apply ld_glob I hg hm _ hdb
  apply PySem.W.callWith_K (h₀ := X.base) I.ok.mod.kin hk _ (by rfl) (by rfl)
  show wpAny _ _ (spliced ((false, eval (.Lambda pa bo sc lpos) X.env) :: backTo pos (starEach [] X.env))) _ _ s
  apply Calls.spliced_cons
  refine lam_mk I tb ec m hu ts nd (L.has I.ok) fun f d pm' ctv H1 s1 I1 ex hf hfn hfr hco => ?_
  refine Calls.spliced_nil ⟨I1.kIn, ?_⟩
  have run : codeAny (model X.prog X.w) X.A (.call (.ref g) ⟨[.ref f], []⟩) (CR CX0 X.stack X.prog X.w H1 s1 Q E0) s1 := by
    apply LamX.run_ofS (N := Ng) (ps := [a]) (us := [.ref f]) (vs := [.ref f]) lk hcg Sg hr I1.env0 (hb s1 [.ref f] I1.kIn rfl) (.cons rfl .nil) rfl
    intro hr'
    obtain ⟨t', ht', hq'⟩ := hG f d s1 H1 Q (fun E H' Q' => t E σ H' Q')
      (fun W pn xe E p1 p2 tk hW => pe_actN (i := 0) I1 L hf hfn hfr (hbind _ _ _ _ _) tk hW hr' (fun A outer s H hr2 => hbody A outer s H E f d hr2) hNg hva hd hcd) hco (go H1 ex)
    exact ⟨t', ht'.nox, hq'⟩
  refine wpAny_call (codeAny_mono run fun r s2 hq => ?_)
  cases r with
  | error e => exact (show False from hq).elim
  | ok fl => cases fl with
    | ret u => exact I1.after hq
    | _ => exact False.elim hq
/-- the same, out of what is known of the def x -/
theorem pe_lamF {T : List (Addr × Str)} {TT : (XK → Hp → VK → Prop) → Hp → VK → Prop} {x a : Str} {g c P : Addr} {k : Nat} {st : Stmt} {fd : FuncData} {Ng : List Str} {pa : Arguments} {bo : Expr} {sc : Scope} {t : XK → TE} {p lpos pos : Pos}
    (hg : Gl X x) (hm : X.mg x = some (.ref g)) (F : Fun X.K x x st g fd) (b : L2.Binds X.K fd [a] []) (Sg : FnScope Ng [a] (defScope st)) (hNg : Ng[0]? = some a) (hva : Vis (defScope st) a)
    (hG : ∀ cdv, GivesN X Ng x (defScope st) g cdv (defBody st) a (lamN X) TT) (tb : LamX.TabB X.base X.mg c P) (ec : X.env.code = .ref c) (m : (P, lamN X) ∈ T) (hu : ∀ p ∈ T, p.1 = P → p.2 = lamN X)
    (hr : Room (k + 2) X.A) (L : LamX.LamS X.env.scope sc) (nd : defaultsOf pa X.env = ([], []))
    (hbind : ∀ (q : Str) (cl : List (Str × Addr)) (pm cv ctv : Value), bindArgs (PySem.W.kla_fn "<lambda>" q pa bo sc cl pm cv ctv) ⟨[], []⟩ = pure [])
    (hbody : ∀ (A : Around) (outer : List Env) (s : Shared) (H : Hp) (E : XK) (f d : Addr), Room k (A.deeper (LamX.lamEnv X sc s.heap.objs.size f d)) → PE (lamCxN X A outer s H E sc f d) bo (t E))
    (hdb : (x == ("__debug__" : Str)) = false := by decide) (hd : (a == ("__debug__" : Str)) = false := by decide) (hcd : (a == ("__classdict__" : Str)) = false := by decide) :
    PE X (.Call (.Name x p) [.Lambda pa bo sc lpos] [] pos) (tLamX T TT t) := by
  obtain ⟨oc, od, kV, doc, pm, an, cdv, ct, osl, rfl, lk, hcd2⟩ := F.ex
  exact pe_lamX hg hm F.kp lk hcd2 b Sg hNg hva (hG cdv) tb ec m hu hr L nd hbind hbody hdb hd hcd
end
theorem hd_of {K : PySem.W.Frag} {c P : Addr} {od : Option Addr} {vs : Array Value} {sl : Array (Option Value)} (h : K.lookup c = some ⟨.type "code", od, .fields vs, sl⟩)
    (e : PySem.W.codeHdIn [(c, ⟨.type "code", od, .fields vs, sl⟩)] c P = true) : PySem.W.codeHdIn K c P = true := by
  unfold PySem.W.codeHdIn at e ⊢
  rw [h]
  rw [show List.lookup c [(c, (⟨.type "code", od, .fields vs, sl⟩ : Obj))] = some ⟨.type "code", od, .fields vs, sl⟩ by simp [List.lookup]] at e
  exact e
/-- a def of the text whose code object is known -/
structure FunC (K : PySem.W.Frag) (x qual : Str) (st : Stmt) (f : Addr) (fd : FuncData) (c : Addr) : Prop where
  ex : ∃ (oc : Value) (od : Option Addr) (kV doc pm : Value) (an : Option Addr) (ct : Value) (osl : Array (Option Value)),
    fd = PySem.W.fnOf x qual (defArgs st) (defBody st) (defScope st) .none kV doc pm an (.ref c) ct ∧ K.lookup f = some ⟨oc, od, .func fd, osl⟩ ∧ PySem.W.codeIn K (.ref c) qual = true
section
variable {P : Program} {w : World} {K : PySem.W.Frag} {mg : Str → Option Value} {base : Heap}
theorem FunC.ok {x qual : Str} {st : Stmt} {f c : Addr} {fd : FuncData} {N ps : List Str} {k : Nat} {sp : Sp} (F : FunC K x qual st f fd c) (S : FnScope N ps (defScope st)) (len : ∀ vs H Q E, sp vs H Q E → vs.length = ps.length)
    (hbody : ∀ (A : Around) (outer : List Env) (s : Shared) (H : Hp) (vs : List V) (Q : VK) (E : XK), Room k (A.deeper (envOfC qual (defScope st) s.heap.objs.size f (.ref c))) → sp vs H Q E →
      ∃ t, PSs (cxOf CX0 P w K mg base N qual (defScope st) f (.ref c) A outer s H E).nox (defBody st) t ∧ t { nx := fun _ H' => Q .non H', rt := Q } (L2.start N vs) H) : FnOk P w K mg base CX0 (k + 1) f fd ps sp := by
  obtain ⟨oc, od, kV, doc, pm, an, ct, osl, rfl, lk, hcd⟩ := F.ex
  refine fn_of lk hcd S len fun A outer s H vs Q E hr hsp => ?_
  obtain ⟨t, h, q⟩ := hbody A outer s H vs Q E hr hsp
  exact ⟨t, h.nox, q⟩
end
/-- what x makes of it: for each own error without fields its word, else the word let -/
def TTw (tab : List (Addr × Str)) : (XK → Hp → VK → Prop) → Hp → VK → Prop := fun tl H Q => tl (fun cls d H' => d = none ∧ ∃ (C : Addr) (w : Str), cls = .ref C ∧ (C, w) ∈ tab ∧ ∀ G, Same H' G → Q (.str w) G) H (fun _ H' => ∃ v, (some (some (V.str "let")) : Option (Option V)) = some (some v) ∧ Q v H')
def dLam (tab : List (Addr × Str)) (f : Fn) (dv : DTV) : DTE := fun env P X => dCall true f dv env (fun _ env1 => P (.o (.fr (.str "let"))) env1) (fun e env1 => e.fs = none ∧ ∃ (C : Addr) (w : Str), e.cls = .ref C ∧ (C, w) ∈ tab ∧ P (.o (.fr (.str w))) env1)
section
variable {F H H1 : Hp} {env : DEnv} {σ : L2.St} {A : List Addr}
theorem lam_good (g : Good F H env σ A) (x : LamExt tabT H H1) : ∃ F1, Good F1 H1 env σ A ∧ Step F H env σ A F1 H1 env σ A := by
  rcases x with rfl | ⟨P, d, q, ps, more, m, hu, tP, nd, tr, ha, rfl⟩
  · exact ⟨F, g, .refl⟩
  obtain ⟨ps', fP, tr0, fc⟩ := g.rep.tab.1 _ m
  have e0 := g.sub _ _ fP
  rw [tP] at e0
  cases e0
  have nPd : P ≠ d := ne_of_none tP nd
  have fd : F d = none := g.sub.free nd
  have at1 : ∀ b, b ≠ P → b ≠ d → upd (upd F P (.tbl (ps ++ more))) d (LamX.CodeO d q) b = F b := fun b h1 h2 => by rw [upd_ne h2, upd_ne h1]
  have at2 : ∀ b, b ≠ P → b ≠ d → upd (upd H P (.tbl (ps ++ more))) d (LamX.CodeO d q) b = H b := fun b h1 h2 => by rw [upd_ne h2, upd_ne h1]
  have atP : upd (upd F P (.tbl (ps ++ more))) d (LamX.CodeO d q) P = some (.tbl (ps ++ more)) := by rw [upd_ne nPd, upd_same]
  have atP2 : upd (upd H P (.tbl (ps ++ more))) d (LamX.CodeO d q) P = some (.tbl (ps ++ more)) := by rw [upd_ne nPd, upd_same]
  have same : Same (upd (upd F P (.tbl (ps ++ more))) d (LamX.CodeO d q)) (upd (upd H P (.tbl (ps ++ more))) d (LamX.CodeO d q)) := fun b o h => by
    by_cases h2 : b = d
    · subst h2; rw [upd_same] at h ⊢; exact h
    · by_cases h1 : b = P
      · subst h1; rw [atP] at h; rw [atP2]; exact h
      · rw [at1 b h1 h2] at h; rw [at2 b h1 h2]; exact g.sub b o h
  have old : ∀ b o, F b = some o → b ≠ P → upd (upd F P (.tbl (ps ++ more))) d (LamX.CodeO d q) b = some o := fun b o h h1 => by
    rw [at1 b h1 (fun z => by rw [z, fd] at h; cases h)]; exact h
  have sm : Sm F (upd (upd F P (.tbl (ps ++ more))) d (LamX.CodeO d q)) := ⟨fun a o h => by
    by_cases h1 : a = P
    · subst h1
      rw [fP] at h
      cases h
      refine ⟨_, atP, .inr (.inr ⟨rfl, rfl, fun q' m' t' => ?_⟩)⟩
      have eq : q' = q := hu (a, q') m' rfl
      subst eq
      refine ⟨_, atP, tr, fun pos cv hc => ?_⟩
      rcases ha pos cv hc with z | z
      · obtain ⟨cc, e1, e2⟩ := fc pos cv z
        refine ⟨cc, e1, old cc _ e2 fun w => ?_⟩
        rw [w, fP] at e2
        have := congrArg (Option.map isTbl) e2
        cases this
      · exact ⟨d, z, upd_same⟩
    · exact ⟨o, old a o h h1, .inl rfl⟩, fun a pz h => by
    by_cases h2 : a = d
    · subst h2; rw [upd_same] at h; have := congrArg (Option.map isTbl) h; cases this
    · by_cases h1 : a = P
      · exact ⟨ps, by rw [h1]; exact fP⟩
      · rw [at1 a h1 h2] at h; exact ⟨pz, h⟩⟩
  have kd := g.rep.kind
  have offA : ∀ a ∈ A, a ≠ P ∧ a ≠ d := fun a ma => by
    obtain ⟨u, hu, hk⟩ := kd a ma
    refine ⟨fun z => ?_, fun z => ?_⟩
    · rw [z, tP] at hu; cases hu; cases hk
    · rw [z, nd] at hu; cases hu
  refine ⟨_, ⟨same, g.rep.stay ⟨sm, fun a ma o h => by rw [at2 a (offA a ma).1 (offA a ma).2]; exact h⟩, g.nd, fun a ma => by rw [at1 a (offA a ma).1 (offA a ma).2]; exact g.dis a ma⟩, sm, fun a o h nt _ f => ?_, fun a h => ?_, fun a ma => .inl ma, fun a h => ?_, fun _ _ h => ⟨_, h, rfl⟩⟩
  · rw [at2 a (fun z => by rw [z, fP] at f; cases f) (fun z => by rw [z, nd] at h; cases h)]; exact h
  · by_cases h2 : a = d
    · rw [h2]; exact nd
    · by_cases h1 : a = P
      · rw [h1, atP2] at h; cases h
      · rw [at2 a h1 h2] at h; exact h
  · by_cases h2 : a = d
    · exact .inr (.inr (by rw [h2]; exact nd))
    · by_cases h1 : a = P
      · exact .inl (by rw [h1, fP]; exact Option.some_ne_none _)
      · rw [at1 a h1 h2] at h; exact .inl h
theorem same_good {G : Hp} (g : Good F H env σ A) (s : Same H G) : Good F G env σ A ∧ Step F H env σ A F G env σ A :=
  ⟨⟨g.sub.trans s, g.rep.stay ⟨.refl _, fun a ma o h => s a o h⟩, g.nd, g.dis⟩, ⟨.refl _, fun a o h _ _ _ => s a o h, fun a h => s.free h, fun a m => .inl m, fun a h => .inl h, fun _ _ h => ⟨_, h, rfl⟩⟩⟩
end
theorem sim_lam {W : WX} {tab : List (Addr × Str)} {ta : TA} {dv : DTV} {f : Fn} {n : Nat} (hn : ∀ os P PE, f os P PE → os.length = n) (ha : ∀ W, SimV W ta dv) :
    SimE W (tLamX tabT (TTw tab) fun E => tCall (spD (vals n) f) [] E ta) (dLam tab f dv) := by
  intro F H env σ A Q P X g h xo k
  refine ⟨fun p hp => (g.rep.tab.1 p hp).ext g.sub, fun H1 ex => ?_⟩
  obtain ⟨F1, g1, s1⟩ := lam_good g ex
  have key := sim_callG (W := fun cls dd σ' H' => σ' = σ → dd = none ∧ ∃ (C : Addr) (w : Str), cls = .ref C ∧ (C, w) ∈ tab ∧ ∀ G, Same H' G → Q (.str w) G) (b := true)
    (E := fun σ' cls dd H' => σ' = σ → dd = none ∧ ∃ (C : Addr) (w : Str), cls = .ref C ∧ (C, w) ∈ tab ∧ ∀ G, Same H' G → Q (.str w) G) (fun _ _ _ _ _ h => h) hn (ha _)
    F1 H1 env σ A (fun _ H' => ∃ v, (some (some (V.str "let")) : Option (Option V)) = some (some v) ∧ Q v H') _ _ g1 h
    (fun cls dd e env' σ' F' H' A' g' s' rx hx eσ => by
      subst eσ
      obtain ⟨en, C, w, ec, hm, hp⟩ := hx
      refine ⟨by have := rx.2; rw [en] at this; exact this, C, w, by rw [rx.1, ec], hm, fun G sG => ?_⟩
      obtain ⟨g2, s2⟩ := same_good g' sG
      exact k (.str w) (.o (.fr (.str w))) env' F' G A' [] g2 (((s1.trans s').trans s2).mem fun a m => by rw [List.append_nil] at m; exact m) (.dat g2 (d := .str w) rfl) hp)
    (fun x r env' F' H' A' C g' s' rr hp => ⟨_, rfl, k (.str "let") (.o (.fr (.str "let"))) env' F' H' A' [] g' ((s1.trans s').mem fun a m => by rw [List.append_nil] at m; exact List.mem_append_left _ m) (.dat g' (d := .str "let") rfl) hp⟩)
  simp only [true_implies] at key
  show tCall _ _ _ _ _ _ _
  rw [tCall_eq]
  exact key

/-! ### the data readings, step by step -/
theorem frL_map (ds : List D) : frL (ds.map .fr) = some ds := by
  induction ds with
  | nil => rfl
  | cons d r ih =>
    show (match frL (r.map .fr) with
      | some ds => some (d :: ds)
      | none => none) = _
    rw [ih]
theorem frzL_map (ds : List D) : O.frzL (ds.map .fr) = ds := by
  induction ds with
  | nil => rfl
  | cons d r ih =>
    show d :: O.frzL (r.map .fr) = _
    rw [ih]
/-- a list of data that is owned -/
abbrev oL (ds : List D) : O := .lst (ds.map .fr)
theorem oL_flat (ds : List D) : (oL ds).flat = some (.lst ds) := by
  show (match frL (ds.map .fr) with
    | some ds => some (D.lst ds)
    | none => none) = _
  rw [frL_map]
theorem oL_frz (ds : List D) : (oL ds).frz = .lst ds := by
  show D.lst (O.frzL (ds.map .fr)) = _
  rw [frzL_map]
section
variable {P : R → DEnv → Prop} {PB : Bool → DEnv → Prop} {PL : List R → DEnv → Prop} {PD : List D → DEnv → Prop} {X : DX} {env : DEnv} {i j : Nat} {path : List PSt} {DD : DEnds} {K : O → Prop} {KB : Bool → Prop} {KR : R → Prop} {KD : D → DEnv → Prop} {KO : O → DEnv → Prop} {KI : Int → Prop} {Kd : D → Prop}
  {a b c3 : DTE} {t u : DTT} {s s2 : DTS} {d e : D} {ds es : List D} {o : O} {os : List O} {n m : Int} {dr dr' : D → D → (O → Prop) → Prop} {f : Fn} {ta : DTA} {tv : DTV}
theorem a_seq (h : s { DD with nx := fun e => s2 DD e } env) : dSeq s s2 DD env := h
theorem a_next (h : DD.nx env) : dNext DD env := h
theorem a_break (h : DD.bk env) : dBreak DD env := h
theorem a_cont (h : DD.ct env) : dCont DD env := h
theorem a_ifs (h : t env (fun c env1 => if c = true then s DD env1 else s2 DD env1) DD.ex) : dIfS t s s2 DD env := h
theorem a_drop (h : a env (fun _ env1 => DD.nx env1) DD.ex) : dDrop a DD env := h
theorem a_retN (h : DD.rt (.fr .non) env) : dRetN DD env := h
theorem a_ret (h : a env (fun r env1 => retO r env1 DD.rt) DD.ex) : dRet a DD env := h
theorem a_asg {g : DG} (h : a env (fun r env1 => toO r env1 fun o env2 => g o env2 DD.nx DD.ex) DD.ex) : dAsg a g DD env := h
theorem a_retO (h : KO o env) : retO (.o o) env KO := h
theorem a_retP (h : env[i]? = some (.ow o)) (q : KO o (env.set i .un)) : retO (.p i []) env KO := by
  show (match env[i]? with
    | some (.ow o) => KO o (env.set i .un)
    | _ => False)
  rw [h]
  exact q
theorem a_toO (h : KO o env) : toO (.o o) env KO := h
theorem a_forceD (h : KD d env) : force (.d d) env KD := h
theorem a_forceN (h : KD (.lst ds) env) : force (.o (oL ds)) env KD := by
  show KD (oL ds).frz env
  rw [oL_frz]
  exact h
theorem a_forceL (h : env[i]? = some (.ow (oL ds))) (q : KD (.lst ds) (env.set i (.ow (.fr (.lst ds))))) : force (.p i []) env KD := by
  show (match env[i]? with
    | some (.ow o) => (match o.at [] with
      | some o1 => KD o1.frz (env.set i (.ow (o.put [] (.fr o1.frz))))
      | none => False)
    | some (.bo o) => False
    | _ => False)
  rw [h]
  show KD (oL ds).frz (env.set i (.ow (.fr (oL ds).frz)))
  rw [oL_frz]
  exact q
theorem a_toOL (h : env[i]? = some (.ow (oL ds))) (q : KO (.fr (.lst ds)) (env.set i (.ow (.fr (.lst ds))))) : toO (.p i []) env KO := a_forceL (KD := fun d => KO (.fr d)) h q
theorem a_force1 {C : Addr} {gs : List (Str × O)} (h : KD (O.ins C gs).frz env) : force (.o (.ins C gs)) env KD := h
theorem a_name {PE : DEnv → Prop} (h : ∃ o', env[i]? = some (.ow o')) (q : PE (env.set i (.ow o))) : dName i o env PE X := by
  obtain ⟨o', h⟩ := h
  unfold dName
  rw [h]
  exact q
theorem a_nameU {PE : DEnv → Prop} (h : env[i]? = some .un) (q : PE (env.set i (.ow o))) : dName i o env PE X := by
  unfold dName
  rw [h]
  exact q
theorem a_varD (h : env[i]? = some (.ow (.fr d))) (q : P (.d d) env) : dVar i env P X := by
  unfold dVar
  rw [h]
  exact q
theorem a_varL (h : env[i]? = some (.ow (.lst os))) (q : P (.p i []) env) : dVar i env P X := by
  unfold dVar
  rw [h]
  exact q
theorem a_varB (h : env[i]? = some (.bo o)) (q : P (.p i []) env) : dVar i env P X := by
  unfold dVar
  rw [h]
  exact q
theorem a_varoL (h : env[i]? = some (.ow (oL ds))) (q : P (.p i []) env) : dVar i env P X := a_varL h q
theorem a_c (q : P (.d d) env) : dC d env P X := q
theorem a_op (h : a env (fun r1 env1 => nrm r1 fun r1' => b env1 (fun r2 env2 => oth (peek r1' env2) fun d1 => oth (peek r2 env2) fun d2 => dr d1 d2 fun o => P (.o o) env2) X) X) : dOp dr a b env P X := h
theorem a_opP (h : a env (fun r1 env1 => b env1 (fun r2 env2 => oth (peek r1 env2) fun d1 => oth (peek r2 env2) fun d2 => dr d1 d2 fun o => P (.o o) env2) X) X) : dOpP dr a b env P X := h
theorem a_un {du : D → (O → Prop) → Prop} (h : a env (fun r1 env1 => oth (peek r1 env1) fun d1 => du d1 fun o => P (.o o) env1) X) : dUn du a env P X := h
theorem a_nrmD (h : KR (.d d)) : nrm (.d d) KR := h
theorem a_nrmP (h : KR (.p i [])) : nrm (.p i []) KR := h
theorem a_nrmL (h : KR (.d (.lst ds))) : nrm (.o (oL ds)) KR := by
  show KR (.d (oL ds).frz)
  rw [oL_frz]
  exact h
theorem a_pkD (h : Kd d) : oth (peek (.d d) env) Kd := h
theorem a_pkN (h : Kd (.lst ds)) : oth (peek (.o (oL ds)) env) Kd := by
  show oth (oL ds).flat Kd
  rw [oL_flat]
  exact h
theorem a_pkL (h : contAt env i path = some (oL ds)) (q : Kd (.lst ds)) : oth (peek (.p i path) env) Kd := by
  show oth (match contAt env i path with
    | some o => o.flat
    | none => none) Kd
  rw [h]
  show oth (oL ds).flat Kd
  rw [oL_flat]
  exact q
theorem a_pkF (h : contAt env i path = some (.fr d)) (q : Kd d) : oth (peek (.p i path) env) Kd := by
  show oth (match contAt env i path with
    | some o => o.flat
    | none => none) Kd
  rw [h]
  exact q
theorem a_test (h : a env (fun r env1 => asB r env1 fun b => PB b env1) X) : dTest a env PB X := h
theorem a_asB {bb : Bool} (h : KB bb) : asB (.d (.bl bb)) env KB := h
theorem a_and (h : t env (fun c env1 => if c = true then u env1 PB X else PB false env1) X) : dAnd t u env PB X := h
theorem a_or (h : t env (fun c env1 => if c = true then PB true env1 else u env1 PB X) X) : dOr t u env PB X := h
theorem a_not (h : t env (fun c env1 => PB (!c) env1) X) : dNot t env PB X := h
theorem a_yes (h : PB true env) : dYes env PB X := h
theorem a_if (h : t env (fun c env1 => if c = true then a env1 P X else b env1 P X) X) : dIf t a b env P X := h
theorem a_andV (h : a env (fun r env1 => asB r env1 fun c => if c = true then b env1 P X else P (.d (.bl false)) env1) X) : dAndV a b env P X := h
theorem a_orV (h : a env (fun r env1 => asB r env1 fun c => if c = true then P (.d (.bl true)) env1 else b env1 P X) X) : dOrV a b env P X := h
theorem a_notV (h : a env (fun r env1 => asB r env1 fun c => P (.d (.bl (!c))) env1) X) : dNotV a env P X := h
theorem a_chain (h : a env (fun r1 env1 => nrm r1 fun r1 => b env1 (fun r2 env2 => nrm r2 fun r2 => oth (peek r1 env2) fun d1 => oth (peek r2 env2) fun d2 => dr d1 d2 fun o => oth o.flat fun z => oth z.asB fun k =>
  if k = true then c3 env2 (fun r3 env3 => oth (peek r2 env3) fun d2 => oth (peek r3 env3) fun d3 => dr' d2 d3 fun o => P (.o o) env3) X else P (.d (.bl false)) env2) X) X) : dChain dr dr' a b c3 env P X := h
theorem a_flD (h : Kd d) : oth (O.fr d).flat Kd := h
theorem a_asb {bb : Bool} (h : KB bb) : oth (D.bl bb).asB KB := h
theorem a_nilA (h : PL [] env) : dNilA env PL X := h
theorem a_lastA (h : a env (fun r env1 => PL [r] env1) X) : dLastA a env PL X := h
theorem a_consA (h : a env (fun r env1 => nrm r fun r => ta env1 (fun rs env2 => PL (r :: rs) env2) X) X) : dConsA a ta env PL X := h
theorem a_nilV (h : PD [] env) : dNilV env PD X := h
theorem a_consV (h : a env (fun r env1 => force r env1 fun d env2 => tv env2 (fun ds env3 => PD (d :: ds) env3) X) X) : dConsV a tv env PD X := h
theorem a_cb {db : List D → (O → Prop) → Prop} (h : ta env (fun rs env1 => oth (peekL rs env1) fun ds => db ds fun o => P (.o o) env1) X) : dCB db ta env P X := h
theorem a_pk1 {r : R} {Kl : List D → Prop} (h : oth (peek r env) fun d => Kl [d]) : oth (peekL [r] env) Kl := by
  unfold peekL
  cases e : peek r env with
  | none => rw [e] at h; exact h.elim
  | some d => rw [e] at h; exact h
theorem a_pk2 {r r2 : R} {Kl : List D → Prop} (h : oth (peek r env) fun d => oth (peek r2 env) fun e => Kl [d, e]) : oth (peekL [r, r2] env) Kl := by
  unfold peekL
  cases e : peek r env with
  | none => rw [e] at h; exact h.elim
  | some d =>
    rw [e] at h
    unfold peekL
    cases e2 : peek r2 env with
    | none => rw [e2] at h; exact h.elim
    | some d2 => rw [e2] at h; exact h
theorem a_tup (h : tv env (fun ds env1 => ds.length ≤ sizeLine ∧ P (.d (.tup ds)) env1) X) : dTup tv env P X := h
theorem a_lst (h : tv env (fun ds env1 => ds.length ≤ sizeLine ∧ P (.o (oL ds)) env1) X) : dLst tv env P X := h
theorem a_call {bb : Bool} (h : tv env (fun ds env1 => f (ds.map .fr) (fun o _ => P (.o o) env1) (fun e _ => bb = true ∧ X e env1)) X) : dCall bb f tv env P X := h
def oneP (K1 : O → Prop) (ps : List O) : Prop := match ps with
  | [o'] => K1 o'
  | _ => False
theorem a_one {K1 : O → Prop} (h : K1 o) : oneP K1 [o] := h
/-- .. a slot's own object -/
def callAt (bb : Bool) (f : Fn) (i : Nat) (P : R → DEnv → Prop) (X : DX) (ds : List D) (env1 : DEnv) : Prop := match env1[i]? with
  | some s => (match s.cont with
    | some o => f (o :: ds.map .fr) (fun r ps => oneP (fun o' => P (.o r) (env1.set i (s.re o'))) ps) (fun e ps => oneP (fun o' => bb = true ∧ X e (env1.set i (s.re o'))) ps)
    | none => False)
  | none => False
theorem a_callM {bb : Bool} {u : O} (h0 : contAt env i [] = some u) (h : tv env (fun ds env1 => callAt bb f i P X ds env1) X) : dCallM bb f i tv env P X := ⟨by rw [h0]; rfl, h⟩
theorem a_callO {bb : Bool} (h : env[i]? = some (.ow o)) (q : f (o :: ds.map .fr) (fun r ps => oneP (fun o' => P (.o r) (env.set i (.ow o'))) ps) (fun e ps => oneP (fun o' => bb = true ∧ X e (env.set i (.ow o'))) ps)) : callAt bb f i P X ds env := by
  unfold callAt
  rw [h]
  exact q
theorem a_callB {bb : Bool} (h : env[i]? = some (.bo o)) (q : f (o :: ds.map .fr) (fun r ps => oneP (fun o' => P (.o r) (env.set i (.bo o'))) ps) (fun e ps => oneP (fun o' => bb = true ∧ X e (env.set i (.bo o'))) ps)) : callAt bb f i P X ds env := by
  unfold callAt
  rw [h]
  exact q
theorem a_make {bb : Bool} {C : Addr} (h : tv env (fun ds env1 => f (.ins C [] :: ds.map .fr) (fun r ps => r = .fr .non ∧ oneP (fun o' => P (.o o') env1) ps) (fun e _ => bb = true ∧ X e env1)) X) : dMake bb C f tv env P X := h
theorem a_fld {Cs : List Addr} {fl : Str} (h : a env (fun r env1 => fldR Cs fl r env1 fun r' => P r' env1) X) : dFld Cs fl a env P X := h
theorem a_fldD {Cs : List Addr} {fl : Str} {C : Addr} {gs : List (Str × D)} (h : C ∈ Cs) (l : gs.lookup fl = some d) (q : KR (.d d)) : fldR Cs fl (.d (.ins C gs)) env KR := by
  show C ∈ Cs ∧ oth (gs.lookup fl) fun d => KR (.d d)
  rw [l]
  exact ⟨h, q⟩
theorem a_setF {Cs : List Addr} {fl : Str} (h : a env (fun r env1 => toO r env1 fun o env2 => oth (contAt env2 i []) fun u => match u with
  | .ins C gs => (C ∈ Cs ∧ gs.length < 1000) ∧ DD.nx (setAt env2 i [] (.ins C (putFD fl o gs)))
  | _ => False) DD.ex) : dSetF Cs i fl a DD env := h
theorem a_ix (h : a env (fun r1 env1 => b env1 (fun r2 env2 => asI r2 env2 fun k => ixR r1 k env2 fun r => P r env2) X) X) : dIx a b env P X := h
theorem a_ixE (h : a env (fun r1 env1 => nrm r1 fun r1 => b env1 (fun r2 env2 => asI r2 env2 fun k => ixR r1 k env2 fun r => P r env2) X) X) : dIxE a b env P X := h
theorem a_asI (h : KI n) : asI (.d (.int n)) env KI := h
theorem a_ixT (l : atI ds n = some d) (q : KR (.d d)) : ixR (.d (.tup ds)) n env KR := by
  show oth (atI ds n) fun d => KR (.d d)
  rw [l]
  exact q
theorem a_ixL (l : atI ds n = some d) (q : KR (.d d)) : ixR (.d (.lst ds)) n env KR := by
  show oth (atI ds n) fun d => KR (.d d)
  rw [l]
  exact q
theorem a_ixP (h : contAt env i path = some (oL ds)) (l : atI ds n = some d) (q : KR (.d d)) : ixR (.p i path) n env KR := by
  unfold ixR
  have e : peek (.p i path) env = some (.lst ds) := by
    show (match contAt env i path with
      | some o => o.flat
      | none => none) = _
    rw [h]
    exact oL_flat ds
  rw [e]
  show oth (atI ds n) fun d => KR (.d d)
  rw [l]
  exact q
theorem a_sl {dl dh : DTO} (h : a env (fun r env1 => dl env1 (fun lo env2 => dh env2 (fun hi env3 => oth (peek r env3) fun d => slR d lo hi fun o => P (.o o) env3) X) X) X) : dSl a dl dh env P X := h
theorem a_noPart {PO : Option Int → DEnv → Prop} (h : PO none env) : dNoPart env PO X := h
theorem a_part {PO : Option Int → DEnv → Prop} (h : a env (fun r env1 => asI r env1 fun k => PO (some k) env1) X) : dPart a env PO X := h
theorem a_slL {lo hi : Option Int} (h : K (oL (cutD ds lo hi))) : slR (.lst ds) lo hi K := h
theorem a_slT {lo hi : Option Int} (h : K (.fr (.tup (cutD ds lo hi)))) : slR (.tup ds) lo hi K := h
theorem a_iter {PI : List D → DEnv → Prop} (h : a env (fun r env1 => force r env1 fun d env2 => match d with
  | .lst ds => PI ds env2
  | .tup ds => PI ds env2
  | _ => False) X) : dIter a env PI X := h
theorem a_rng1 {PI : List D → DEnv → Prop} (h : ta env (fun rs env1 => oth (peekL rs env1) fun ds => match ds with
  | [.int j] => -(2 ^ 62) ≤ j ∧ j < 2 ^ 62 ∧ PI (rgD 0 j.toNat) env1
  | _ => False) X) : dRng1 ta env PI X := h
theorem a_rng2 {PI : List D → DEnv → Prop} (h : ta env (fun rs env1 => oth (peekL rs env1) fun ds => match ds with
  | [.int i, .int j] => (-(2 ^ 62) ≤ i ∧ i < 2 ^ 62 ∧ -(2 ^ 62) ≤ j ∧ j < 2 ^ 62) ∧ PI (rgD i (j - i).toNat) env1
  | _ => False) X) : dRng2 ta env PI X := h
theorem a_rgb {A : Prop} {z : Int} (b : -1000000 ≤ z ∧ z ≤ 1000000) (h : A) : -(2 ^ 62) ≤ z ∧ z < 2 ^ 62 ∧ A := ⟨by omega, by omega, h⟩
theorem a_rgb2 {A : Prop} {y z : Int} (b : -1000000 ≤ y ∧ y ≤ 1000000 ∧ -1000000 ≤ z ∧ z ≤ 1000000) (h : A) : (-(2 ^ 62) ≤ y ∧ y < 2 ^ 62 ∧ -(2 ^ 62) ≤ z ∧ z < 2 ^ 62) ∧ A := ⟨⟨by omega, by omega, by omega, by omega⟩, h⟩
theorem a_for {di : DTI} {g : DG} (h : di env (fun ds env1 => dForGo g s DD ds env1) DD.ex) : dFor di g s DD env := h
/-- a loop by what holds ahead of turn k -/
theorem a_forI {g : DG} (I : Nat → DEnv → Prop) (h0 : I 0 env) (hs : ∀ (k : Nat) (d : D) (env : DEnv) (NX : DEnv → Prop), ds[k]? = some d → I k env → (∀ e, I (k + 1) e → NX e) → g (.fr d) env (fun env1 => s { DD with nx := NX, ct := NX, bk := DD.nx } env1) DD.ex)
    (hd : ∀ env, I ds.length env → DD.nx env) : dForGo g s DD ds env := by
  have go : ∀ (n k : Nat) (env : DEnv), n + k = ds.length → I k env → dForGo g s DD (ds.drop k) env := by
    intro n
    induction n with
    | zero =>
      intro k env e h
      rw [List.drop_eq_nil_of_le (by omega)]
      have : k = ds.length := by omega
      subst this
      exact hd env h
    | succ n ih =>
      intro k env e h
      have hk : k < ds.length := by omega
      rw [List.drop_eq_getElem_cons hk]
      exact hs k ds[k] env _ (List.getElem?_eq_getElem hk) h fun e' h' => ih (k + 1) e' (by omega) h'
  have := go ds.length 0 env (by omega) h0
  exact this
theorem a_while {t : DTT} (I : Nat → DEnv → Prop) {m0 : Nat} (h0 : I m0 env) (hs : ∀ (m : Nat) (env : DEnv) (NX : DEnv → Prop), I m env → (∀ m' e, m' < m → I m' e → NX e) → t env (fun b env1 => if b = true then s { DD with nx := NX, ct := NX, bk := DD.nx } env1 else DD.nx env1) DD.ex) : dWhile t s DD env := by
  have go : ∀ (n m : Nat) (env : DEnv), m < n → I m env → dWhileGo t s DD n env := by
    intro n
    induction n with
    | zero => intro m env h; omega
    | succ n ih => intro m env h hi; exact hs m env _ hi fun m' e h' hi' => ih m' e (by omega) hi'
  exact ⟨m0 + 1, go _ m0 env (Nat.lt_succ_self _) h0⟩
theorem a_lc {di : DTI} {g : DG} {vs : List Nat} (h : di env (fun ds env1 => dLcGo g t a vs (fun acc env2 => P (.o (.lst acc)) env2) (fun _ _ => False) ds [] env1) X) : dLc di g t a vs env P X := h
/-- a turn of a comprehension -/
def lcT (g : DG) (t : DTT) (a : DTE) (vs : List Nat) (d : D) (acc : List O) (env : DEnv) (NX : List O → DEnv → Prop) : Prop :=
  noBo env vs ∧ g (.fr d) (wipeD env vs) (fun env1 => t env1 (fun b env2 => if b = true then a env2 (fun q env3 => toO q env3 fun o env4 => acc.length < sizeLine ∧ NX (acc ++ [o]) (backD env env4 vs)) (fun _ _ => False) else NX acc (backD env env2 vs)) (fun _ _ => False)) (fun _ _ => False)
theorem a_lcI {g : DG} {vs : List Nat} {PA : List O → DEnv → Prop} (I : Nat → List O → DEnv → Prop) (h0 : I 0 [] env) (hs : ∀ (k : Nat) (d : D) (acc : List O) (env : DEnv) (NX : List O → DEnv → Prop), ds[k]? = some d → I k acc env → (∀ acc e, I (k + 1) acc e → NX acc e) → lcT g t a vs d acc env NX)
    (hd : ∀ acc env, I ds.length acc env → PA acc env) : dLcGo g t a vs PA (fun _ _ => False) ds [] env := by
  have go : ∀ (n k : Nat) (acc : List O) (env : DEnv), n + k = ds.length → I k acc env → dLcGo g t a vs PA (fun _ _ => False) (ds.drop k) acc env := by
    intro n
    induction n with
    | zero =>
      intro k acc env e h
      rw [List.drop_eq_nil_of_le (by omega)]
      have : k = ds.length := by omega
      subst this
      exact hd acc env h
    | succ n ih =>
      intro k acc env e h
      have hk : k < ds.length := by omega
      rw [List.drop_eq_getElem_cons hk]
      exact hs k ds[k] acc env _ (List.getElem?_eq_getElem hk) h fun acc' e' h' => ih (k + 1) acc' e' (by omega) h'
  have := go ds.length 0 [] env (by omega) h0
  exact this
/-- a comprehension of data that leaves the slots -/
theorem a_lcP {g : DG} {vs : List Nat} {PA : List O → DEnv → Prop} (fm : D → Option D) (hl : ds.length < sizeLine) (hs : ∀ (k : Nat) (d : D) (acc : List O) (NX : List O → DEnv → Prop), ds[k]? = some d → acc.length < sizeLine → (∀ e, fm d = some e → NX (acc ++ [.fr e]) env) → (fm d = none → NX acc env) → lcT g t a vs d acc env NX)
    (hd : PA ((ds.filterMap fm).map .fr) env) : dLcGo g t a vs PA (fun _ _ => False) ds [] env := by
  refine a_lcI (fun k acc e => e = env ∧ acc = ((ds.take k).filterMap fm).map .fr) ⟨rfl, rfl⟩ ?_ ?_
  · rintro k d acc env' NX hk ⟨rfl, rfl⟩ nx
    have hk' := (List.getElem?_eq_some_iff.mp hk).1
    have tk : ds.take (k + 1) = ds.take k ++ [d] := take_snoc hk
    refine hs k d _ NX hk ?_ (fun e he => nx _ _ ⟨rfl, ?_⟩) fun he => nx _ _ ⟨rfl, ?_⟩
    · rw [List.length_map]
      have := List.length_filterMap_le fm (ds.take k)
      rw [List.length_take] at this
      omega
    · rw [tk, List.filterMap_append, List.map_append, List.filterMap_cons, he]; rfl
    · rw [tk, List.filterMap_append, List.map_append, List.filterMap_cons, he, List.filterMap_nil, List.map_nil, List.append_nil]
  · rintro acc e ⟨rfl, rfl⟩
    rw [List.take_length]
    exact hd
/-- xs.append(e) -/
def appK (i : Nat) (o : O) (env2 : DEnv) (P : R → DEnv → Prop) : Prop := oth (contAt env2 i []) fun u => match u with
  | .lst os => fAppend os o fun os' z => P (.o z) (setAt env2 i [] (.lst os'))
  | _ => False
theorem a_append (h : contAt env i [] = some (.lst os)) (q : a env (fun r env1 => toO r env1 fun o env2 => appK i o env2 P) X) : dMeth1 fAppend i a env P X := ⟨by rw [h]; rfl, q⟩
theorem a_app (h : env[i]? = some (.ow (oL ds))) (l : ds.length < 1000) (q : P (.d .non) (env.set i (.ow (oL (ds ++ [d]))))) : appK i (.fr d) env P := by
  unfold appK
  have e : contAt env i [] = some (oL ds) := by
    unfold contAt
    rw [h]
    rfl
  rw [e]
  refine ⟨by rw [List.length_map]; exact small1000 (by omega), ?_⟩
  have e2 : setAt env i [] (.lst (ds.map .fr ++ [.fr d])) = env.set i (.ow (oL (ds ++ [d]))) := by
    unfold setAt
    rw [h]
    show env.set i (.ow (.lst (ds.map .fr ++ [.fr d]))) = _
    unfold oL
    rw [List.map_append]
    rfl
  show P (.d .non) (setAt env i [] (.lst (ds.map .fr ++ [.fr d])))
  rw [e2]
  exact q
/-! operations -/
theorem a_addI {x y : Int} (h : K (.fr (.int (x + y)))) : dAdd (.int x) (.int y) K := h
theorem a_addT (l : ds.length + es.length ≤ 1000) (h : K (.fr (.tup (ds ++ es)))) : dAdd (.tup ds) (.tup es) K := ⟨Nat.le_of_lt (small1000 l), h⟩
theorem a_addL (l : ds.length + es.length ≤ 1000) (h : K (oL (ds ++ es))) : dAdd (.lst ds) (.lst es) K := ⟨Nat.le_of_lt (small1000 l), h⟩
theorem a_I0 {x y : Int} {g : Int → Int → D} (h : K (.fr (g x y))) : dI0 g (.int x) (.int y) K := h
theorem a_I2 {x y : Int} {C : Int → Int → Prop} {g : Int → Int → D} (c : C x y) (h : K (.fr (g x y))) : dI2 C g (.int x) (.int y) K := ⟨c, h⟩
theorem a_ltI {x y : Int} (h : K (.fr (.bl (decide (x < y))))) : dLtG (.int x) (.int y) K := h
theorem a_eqI {x y : Int} (h : K (.fr (.bl (decide (x = y))))) : dEq (.int x) (.int y) K := ⟨rfl, rfl, by
  have e : PyData.eqv (.int x) (.int y) = decide (x = y) := by rw [Bool.eq_iff_iff]; show (x == y) = true ↔ _; simp
  rw [e]; exact h⟩
theorem a_neI {x y : Int} (h : K (.fr (.bl (!decide (x = y))))) : dNe (.int x) (.int y) K := ⟨rfl, rfl, by
  have e : PyData.eqv (.int x) (.int y) = decide (x = y) := by rw [Bool.eq_iff_iff]; show (x == y) = true ↔ _; simp
  rw [e]; exact h⟩
theorem a_eqB {x y : Bool} (h : K (.fr (.bl (decide (x = y))))) : dEq (.bl x) (.bl y) K := ⟨rfl, rfl, by
  have e : PyData.eqv (.bool x) (.bool y) = decide (x = y) := by cases x <;> cases y <;> rfl
  rw [e]; exact h⟩
theorem a_neB {x y : Bool} (h : K (.fr (.bl (!decide (x = y))))) : dNe (.bl x) (.bl y) K := ⟨rfl, rfl, by
  have e : PyData.eqv (.bool x) (.bool y) = decide (x = y) := by cases x <;> cases y <;> rfl
  rw [e]; exact h⟩
theorem a_isN (h : K (.fr (.bl d.isN))) : dIs d .non K := h
theorem a_isNot (h : K (.fr (.bl (!d.isN)))) : dIsNot d .non K := h
theorem a_lenL (h : K (.fr (.int ds.length))) : dLen [.lst ds] K := h
theorem a_lenT (h : K (.fr (.int ds.length))) : dLen [.tup ds] K := h
theorem a_absI {x : Int} (h : K (.fr (.int (if x < 0 then -x else x)))) : dAbs [.int x] K := h
theorem a_intI {x : Int} (h : K (.fr (.int x))) : dInt [.int x] K := h
theorem a_intB {x : Bool} (h : K (.fr (.int (if x then 1 else 0)))) : dInt [.bl x] K := h
theorem a_tupL (h : K (.fr (.tup ds))) : dTuple [.lst ds] K := h
theorem a_tupT (h : K (.fr (.tup ds))) : dTuple [.tup ds] K := h
theorem a_lstL (h : K (oL ds)) : dList [.lst ds] K := h
theorem a_lstT (h : K (oL ds)) : dList [.tup ds] K := h
theorem a_bound {A : Prop} {k : Nat} (l : k ≤ 1000) (h : A) : k ≤ sizeLine ∧ A := ⟨Nat.le_of_lt (small1000 l), h⟩
/-! parts of lists that are owned -/
theorem a_ixO {jj : Nat} (h : contAt env i path = some (.lst os)) (hn : frL os = none) (hj : ixN os.length n = some jj) (ho : os[jj]? = some (.fr d)) (q : KR (.d d)) : ixR (.p i path) n env KR := by
  unfold ixR
  have e : peek (.p i path) env = none := by
    show (match contAt env i path with
      | some o => o.flat
      | none => none) = _
    rw [h]
    show (match frL os with
      | some ds => some (D.lst ds)
      | none => none) = _
    rw [hn]
  rw [e]
  dsimp only
  rw [h]
  show oth (ixN os.length n) _
  rw [hj]
  show oth os[jj]? _
  rw [ho]
  exact q
theorem a_ixO' {jj : Nat} {us : List O} (h : contAt env i path = some (.lst os)) (hn : frL os = none) (hj : ixN os.length n = some jj) (ho : os[jj]? = some (.lst us)) (q : KR (.p i (path ++ [.ix jj]))) : ixR (.p i path) n env KR := by
  unfold ixR
  have e : peek (.p i path) env = none := by
    show (match contAt env i path with
      | some o => o.flat
      | none => none) = _
    rw [h]
    show (match frL os with
      | some ds => some (D.lst ds)
      | none => none) = _
    rw [hn]
  rw [e]
  dsimp only
  rw [h]
  show oth (ixN os.length n) _
  rw [hj]
  show oth os[jj]? _
  rw [ho]
  exact q
def subK (r1 r2 : R) (o : O) (env2 : DEnv) (PE : DEnv → Prop) : Prop := match r1, peek r2 env2 with
  | .p i path, some (.int k) => oth (contAt env2 i path) fun u => (match u with
    | .lst os => oth (ixN os.length k) fun j => PE (setAt env2 i path (.lst (os.set j o)))
    | _ => False)
  | _, _ => False
theorem a_sub {PE : DEnv → Prop} (h : a env (fun r1 env1 => b env1 (fun r2 env2 => subK r1 r2 o env2 PE) X) X) : dSub a b o env PE X := h
theorem a_subK {PE : DEnv → Prop} {jj : Nat} (h : contAt env i path = some (.lst os)) (hj : ixN os.length n = some jj) (q : PE (setAt env i path (.lst (os.set jj o)))) : subK (.p i path) (.d (.int n)) o env PE := by
  show oth (contAt env i path) fun u => (match u with
    | .lst os => oth (ixN os.length n) fun j => PE (setAt env i path (.lst (os.set j o)))
    | _ => False)
  rw [h]
  show oth (ixN os.length n) _
  rw [hj]
  exact q
theorem oL_ints (ns : List Int) : itO ns = oL (ns.map .int) := by
  unfold itO oL
  rw [List.map_map]
  rfl
/-- a join -/
theorem a_cut (Mid : DEnv → Prop) (h : ∀ NX : DEnv → Prop, (∀ e, Mid e → NX e) → s { DD with nx := NX } env) (k : ∀ e, Mid e → s2 DD e) : dCut s s2 DD env := h _ k
theorem cutD1 (ns : List Int) : cutD (ns.map .int) (some 1) none = (ns.drop 1).map .int := by
  unfold cutD
  rw [show HT.sIx (ns.map D.int).length 0 (some 1) = min 1 (ns.map D.int).length from HT.sIx_nat (ns.map D.int).length 0 1, HT.sIx_none]
  cases ns with
  | nil => rfl
  | cons x r =>
    rw [show min 1 ((x :: r).map D.int).length = 1 by
      rw [List.map_cons, List.length_cons]
      omega]
    show List.take (((x :: r).map D.int).length - 1) (r.map D.int) = r.map D.int
    rw [List.map_cons, List.length_cons, Nat.add_sub_cancel]
    exact List.take_length
theorem atI_of {α : Type} {xs : List α} {z : Int} {jj : Nat} {x : α} (e : z = (jj : Int)) (h : xs[jj]? = some x) : atI xs z = some x := by
  unfold atI
  rw [ixN_of e (List.getElem?_eq_some_iff.mp h).1]
  exact h
/-- a comprehension without a test -/
theorem a_lcM {g : DG} {vs : List Nat} {PA : List O → DEnv → Prop} (fm : D → D) (hl : ds.length < 1000) (hs : ∀ (k : Nat) (d : D) (acc : List O) (NX : List O → DEnv → Prop), ds[k]? = some d → acc.length < sizeLine → NX (acc ++ [.fr (fm d)]) env → lcT g t a vs d acc env NX)
    (hd : PA ((ds.map fm).map .fr) env) : dLcGo g t a vs PA (fun _ _ => False) ds [] env := by
  refine a_lcP (fun x => some (fm x)) (small1000 (by omega)) (fun k d acc NX hk ha nx _ => hs k d acc NX hk ha (nx _ rfl)) ?_
  rw [List.filterMap_eq_map']
  exact hd
/-- .. that tells the items for which a test holds -/
theorem a_lcF {g : DG} {vs : List Nat} {PA : List O → DEnv → Prop} (p : D → Bool) (hl : ds.length < 1000) (hs : ∀ (k : Nat) (d : D) (acc : List O) (NX : List O → DEnv → Prop), ds[k]? = some d → acc.length < sizeLine → (p d = true → NX (acc ++ [.fr d]) env) → (p d = false → NX acc env) → lcT g t a vs d acc env NX)
    (hd : PA ((ds.filter p).map .fr) env) : dLcGo g t a vs PA (fun _ _ => False) ds [] env := by
  refine a_lcP (fun x => if p x = true then some x else none) (small1000 (by omega)) (fun k d acc NX hk ha nx nx' => hs k d acc NX hk ha (fun e => nx _ (by rw [if_pos e])) fun e => nx' (by rw [if_neg (by rw [e]; decide)])) ?_
  rw [show (fun x => if p x = true then some x else none) = Option.guard p from by funext x; simp [Option.guard]]
  rw [List.filterMap_eq_filter]
  exact hd
theorem a_allE {bs : List Bool} (e : asBls ds = some bs) (h : K (.fr (.bl (bs.all id)))) : dAll [.lst ds] K := by
  show oth (asBls ds) _
  rw [e]
  exact h
/-- xs.extend(e) -/
def extK (i : Nat) (o : O) (env2 : DEnv) (P : R → DEnv → Prop) : Prop := oth (contAt env2 i []) fun u => match u with
  | .lst os => fExtend os o fun os' z => P (.o z) (setAt env2 i [] (.lst os'))
  | _ => False
theorem a_extend (h : contAt env i [] = some (.lst os)) (q : a env (fun r env1 => toO r env1 fun o env2 => extK i o env2 P) X) : dMeth1 fExtend i a env P X := ⟨by rw [h]; rfl, q⟩
theorem a_extL (h : env[i]? = some (.ow (oL ds))) (l : ds.length + es.length ≤ 1000) (q : P (.d .non) (env.set i (.ow (oL (ds ++ es))))) : extK i (oL es) env P := by
  unfold extK
  have e : contAt env i [] = some (oL ds) := by
    unfold contAt
    rw [h]
    rfl
  rw [e]
  refine ⟨by rw [List.length_map, List.length_map]; exact Nat.le_of_lt (small1000 l), ?_⟩
  have e2 : setAt env i [] (.lst (ds.map .fr ++ es.map .fr)) = env.set i (.ow (oL (ds ++ es))) := by
    unfold setAt
    rw [h]
    show env.set i (.ow (.lst (ds.map .fr ++ es.map .fr))) = env.set i (.ow (.lst ((ds ++ es).map .fr)))
    rw [List.map_append]
  show P (.d .non) (setAt env i [] (.lst (ds.map .fr ++ es.map .fr)))
  rw [e2]
  exact q
theorem a_extF (h : env[i]? = some (.ow (oL ds))) (l : ds.length + es.length ≤ 1000) (q : P (.d .non) (env.set i (.ow (oL (ds ++ es))))) : extK i (.fr (.lst es)) env P := by
  unfold extK
  have e : contAt env i [] = some (oL ds) := by
    unfold contAt
    rw [h]
    rfl
  rw [e]
  refine ⟨by rw [List.length_map]; exact Nat.le_of_lt (small1000 l), ?_⟩
  have e2 : setAt env i [] (.lst (ds.map .fr ++ es.map .fr)) = env.set i (.ow (oL (ds ++ es))) := by
    unfold setAt
    rw [h]
    show env.set i (.ow (.lst (ds.map .fr ++ es.map .fr))) = env.set i (.ow (.lst ((ds ++ es).map .fr)))
    rw [List.map_append]
  show P (.d .non) (setAt env i [] (.lst (ds.map .fr ++ es.map .fr)))
  rw [e2]
  exact q
theorem rgD_len (lo : Int) (k : Nat) : (rgD lo k).length = k := by unfold rgD; rw [List.length_map, List.length_range]
theorem rgD_at {lo : Int} {k l : Nat} {d : D} (h : (rgD lo k)[l]? = some d) : l < k ∧ d = .int (lo + (l : Nat)) := by
  have hl := (List.getElem?_eq_some_iff.mp h).1
  rw [rgD_len] at hl
  unfold rgD at h
  rw [List.getElem?_map, List.getElem?_range hl] at h
  exact ⟨hl, (Option.some.inj h).symm⟩
theorem cutD_take {α : Type} (f : α → D) (ns : List α) (v : Nat) : cutD (ns.map f) none (some (v : Int)) = (ns.take v).map f := by
  unfold cutD
  rw [HT.sIx_none, HT.sIx_nat]
  show ((ns.map f).drop 0).take (min v (ns.map f).length - 0) = _
  rw [List.drop_zero, Nat.sub_zero, List.map_take]
  by_cases hv : v ≤ (ns.map f).length
  · rw [Nat.min_eq_left hv]
  · rw [Nat.min_eq_right (by omega), List.take_length, List.take_of_length_le (by omega)]
theorem a_nameS {PE : DEnv → Prop} {sl : S} (h : env[i]? = some sl) (hb : sl.isBo = false) (q : PE (env.set i (.ow o))) : dName i o env PE X := by
  unfold dName
  rw [h]
  cases sl with
  | bo _ => cases hb
  | _ => exact q
theorem a_gtup {PE : DEnv → Prop} {gs : DGs} {k : Nat} (l : ds.length = k) (h : gs ds env PE X) : dGTup k gs (.fr (.tup ds)) env PE X := ⟨l, h⟩
theorem a_gcons {PE : DEnv → Prop} {g : DG} {gs : DGs} (h : g (.fr d) env (fun env1 => gs ds env1 PE X) X) : dGCons g gs (d :: ds) env PE X := h
theorem a_gnil {PE : DEnv → Prop} (h : PE env) : dGNil [] env PE X := ⟨rfl, h⟩
theorem a_sortP {ps : List (Int × Int)} (h : ∀ qs : List (Int × Int), qs.Perm ps → qs.Pairwise (fun a b => a.1 < b.1 ∨ a.1 = b.1 ∧ a.2 ≤ b.2) → K (oL (qs.map prD))) : dSorted [.lst (ps.map prD)] K := by
  show (match asInts (ps.map prD) with
    | some ns => ∀ ms : List Int, ms.Perm ns → ms.Pairwise (· ≤ ·) → K (.lst (ms.map fun i => .fr (.int i)))
    | none => oth (asPrs (ps.map prD)) fun ps => ∀ qs : List (Int × Int), qs.Perm ps → qs.Pairwise (fun a b => a.1 < b.1 ∨ a.1 = b.1 ∧ a.2 ≤ b.2) → K (.lst (qs.map fun p => .fr (prD p))))
  cases ps with
  | nil =>
    intro ms pm _
    rw [List.Perm.eq_nil pm]
    exact h [] (List.Perm.refl _) List.Pairwise.nil
  | cons x r =>
    show oth (asPrs ((x :: r).map prD)) _
    rw [asPrs_map]
    intro qs pm so
    have := h qs pm so
    unfold oL at this
    rw [List.map_map] at this
    exact this
theorem a_sortI {ns : List Int} (h : ∀ ms : List Int, ms.Perm ns → ms.Pairwise (· ≤ ·) → K (oL (ms.map .int))) : dSorted [.lst (ns.map .int)] K := by
  show (match asInts (ns.map .int) with
    | some ns => ∀ ms : List Int, ms.Perm ns → ms.Pairwise (· ≤ ·) → K (.lst (ms.map fun i => .fr (.int i)))
    | none => _)
  rw [asInts_map]
  intro ms pm so
  have := h ms pm so
  unfold oL at this
  rw [List.map_map] at this
  exact this
theorem a_sortT {ns : List Int} (h : ∀ ms : List Int, ms.Perm ns → ms.Pairwise (· ≤ ·) → K (oL (ms.map .int))) : dSorted [.tup (ns.map .int)] K := by
  show oth (asInts (ns.map .int)) _
  rw [asInts_map]
  intro ms pm so
  have := h ms pm so
  unfold oL at this
  rw [List.map_map] at this
  exact this
/-! xs[i].append(e) -/
def methNF (fm : List O → O → (List O → O → Prop) → Prop) (i : Nat) (path : List PSt) (o0 o : O) (env3 : DEnv) (P : R → DEnv → Prop) : Prop := oth env3[i]? fun s3 => s3.isUn = true ∧ oth (o0.at path) fun u => (match u with
    | .lst os => fm os o fun os' z => P (.o z) (env3.set i (.ow (o0.put path (.lst os'))))
    | _ => False)
def methNK (fm : List O → O → (List O → O → Prop) → Prop) (b : DTE) (env : DEnv) (P : R → DEnv → Prop) (r : R) : Prop := match r with
  | .p i path => oth env[i]? fun s => oth s.owO fun o0 => isL (o0.at path) = true ∧ b (env.set i .un) (fun q env2 => toO q env2 fun o env3 => methNF fm i path o0 o env3 P) (fun _ _ => False)
  | _ => False
theorem a_methN {fm : List O → O → (List O → O → Prop) → Prop} (h : a env (fun r _ => methNK fm b env P r) (fun _ _ => False)) : dMethN1 fm a b env P X := h
end

def isW (K : PySem.W.Frag) (a : Addr) (cls : Value) (d : Option Addr) (C : Addr) : TE := tCB (rIsN K cls d a) (tCons (tVar 2) (tCons (tC (.ref C)) tNil))
def t_w5 (K : PySem.W.Frag) (c0 c1 c2 c3 c4 c5 c6 : Addr) (a : Addr) (cls : Value) (d : Option Addr) : TS :=
  tSeq (tAsg (tLst (tCons (isW K a cls d c0) (tCons (isW K a cls d c1) (tCons (isW K a cls d c2) (tCons (isW K a cls d c3) tNil))))) (gName 3))
  (tSeq (tAsg (tOp rCat (tVar 3) (tLst (tCons (isW K a cls d c4) (tCons (isW K a cls d c5) (tCons (isW K a cls d c6) tNil))))) (gName 3))
  (tSeq (tAsg (tC (.str "other")) (gName 1))
  (tIfS (tAnd (tTest (tOp rEq (tCB (xLen K) (tCons (tLc (iList K (tVar 3)) (gName 4) (tB (tVar 4)) (tVar 4) [4]) tNil)) (tC (.int 1)))) (tB (tCB (rIsN K cls d a) (tCons (tVar 2) (tCons (tC (.ty "ValueError")) tNil)))))
    (tAsg (tOp (rIx K) (tLst (tCons (tC (.str "block")) (tCons (tC (.str "place")) (tCons (tC (.str "beneath")) (tCons (tC (.str "order")) (tCons (tC (.str "view")) (tCons (tC (.str "blocks")) (tCons (tC (.str "number")) tNil)))))))) (tBM K "list" (rIndex K) (tVar 3) (tCons (tC (.bl true)) tNil))) (gName 1)) tNext)))
section
variable {K : PySem.W.Frag} {σ : L2.St} {H : Hp} {Q : VK} {D : Ends} {a C C' : Addr} {b : Bool} {d : Option Addr}
theorem v_isOwn (hx : XCls K C) (k : PySem.W.kitOne K (.ref C) (.ref C') = some b) (q : Q (.bl b) H) : rIsN K (.ref C) none a [.ref a, .ref C'] H Q := ⟨C, rfl, rfl, hx, .ref C', .ref C', b, rfl, (fun u r => by cases r; rfl), k, q⟩
theorem v_isNT (hx : XCls K C) (k : PySem.W.kitOne K (.ref C) (.type "ValueError") = some b) (q : Q (.bl b) H) : rIsN K (.ref C) none a [.ref a, .ty "ValueError"] H Q := ⟨C, rfl, rfl, hx, .ty "ValueError", .type "ValueError", b, rfl, (fun u r => by cases r; rfl), k, q⟩
theorem v_isW (h : σ[2]? = some (some (.ref a))) (hx : XCls K C) (k : PySem.W.kitOne K (.ref C) (.ref C') = some b) (q : Q (.bl b) H) : isW K a (.ref C) none C' σ H Q := ⟨.ref a, h, v_isOwn hx k q⟩
def words5 : List Str := ["block", "place", "beneath", "order", "view", "blocks", "number"]
theorem w5_run {c0 c1 c2 c3 c4 c5 c6 : Addr} {f : Nat → Bool} {j : Nat} (hx : XCls K C) (kv : PySem.W.kitOne K (.ref C) (.type "ValueError") = some true)
    (k0 : PySem.W.kitOne K (.ref C) (.ref c0) = some (f 0)) (k1 : PySem.W.kitOne K (.ref C) (.ref c1) = some (f 1)) (k2 : PySem.W.kitOne K (.ref C) (.ref c2) = some (f 2)) (k3 : PySem.W.kitOne K (.ref C) (.ref c3) = some (f 3))
    (k4 : PySem.W.kitOne K (.ref C) (.ref c4) = some (f 4)) (k5 : PySem.W.kitOne K (.ref C) (.ref c5) = some (f 5)) (k6 : PySem.W.kitOne K (.ref C) (.ref c6) = some (f 6))
    (one : ([f 0, f 1, f 2, f 3, f 4, f 5, f 6].filter id).length = 1) (hj : j < 7) (hz : [f 0, f 1, f 2, f 3, f 4, f 5, f 6][j]? = some true) (fst : ∀ m z, m < j → [f 0, f 1, f 2, f 3, f 4, f 5, f 6][m]? = some z → z = false)
    (l : σ.length = 5) (nx : ∀ (σ' : L2.St) (H' : Hp) (w : Str), σ'.length = 5 → words5[j]? = some w → σ'[1]? = some (some (.str w)) → Same H H' → D.nx σ' H') :
    t_w5 K c0 c1 c2 c3 c4 c5 c6 a (.ref C) none D (σ.set 2 (some (.ref a))) H := by
  obtain ⟨s0, s1, s2, s3, s4, rfl⟩ : ∃ s0 s1 s2 s3 s4, σ = [s0, s1, s2, s3, s4] := by
    match σ, l with
    | [s0, s1, s2, s3, s4], _ => exact ⟨_, _, _, _, _, rfl⟩
  unfold t_w5
  refine v_seq (v_asg (v_lst ?_))
  refine v_isW rfl hx k0 ?_
  refine v_isW rfl hx k1 ?_
  refine v_isW rfl hx k2 ?_
  refine v_isW rfl hx k3 ?_
  refine ⟨by show 4 ≤ sizeLine; decide, fun p np => ?_⟩
  refine v_name ?_
  dsimp only
  refine v_seq (v_asg ?_)
  refine v_op (v_var rfl ?_)
  refine v_lst ?_
  refine v_isW rfl hx k4 ?_
  refine v_isW rfl hx k5 ?_
  refine v_isW rfl hx k6 ?_
  refine ⟨by show 3 ≤ sizeLine; decide, fun p2 np2 => ?_⟩
  have e1 : (upd (upd H p (.lst [.bl (f 0), .bl (f 1), .bl (f 2), .bl (f 3)])) p2 (.lst [.bl (f 4), .bl (f 5), .bl (f 6)])) p = some (.lst [.bl (f 0), .bl (f 1), .bl (f 2), .bl (f 3)]) := by
    rw [upd_ne (fun z => by rw [z, upd_same] at np2; cases np2), upd_same]
  refine v_cat e1 upd_same (by show 4 + 3 ≤ 1000; decide) fun p3 np3 => ?_
  refine v_name ?_
  dsimp only
  refine v_seq (v_asg (v_c (v_name ?_)))
  dsimp only
  have sG := ((same_new (o := .lst [.bl (f 0), .bl (f 1), .bl (f 2), .bl (f 3)]) np).trans (same_new (o := .lst [.bl (f 4), .bl (f 5), .bl (f 6)]) np2)).trans (same_new (o := .lst ([.bl (f 0), .bl (f 1), .bl (f 2), .bl (f 3)] ++ [.bl (f 4), .bl (f 5), .bl (f 6)])) np3)
  generalize hG : upd (upd (upd H p (.lst [.bl (f 0), .bl (f 1), .bl (f 2), .bl (f 3)])) p2 (.lst [.bl (f 4), .bl (f 5), .bl (f 6)])) p3 (.lst ([.bl (f 0), .bl (f 1), .bl (f 2), .bl (f 3)] ++ [.bl (f 4), .bl (f 5), .bl (f 6)])) = G at sG ⊢
  have gp : G p3 = some (.lst ([f 0, f 1, f 2, f 3, f 4, f 5, f 6].map V.bl)) := by rw [← hG, upd_same]; rfl
  clear hG e1 np np2 np3
  generalize hfl : [f 0, f 1, f 2, f 3, f 4, f 5, f 6] = fl at *
  have lfl : fl.length = 7 := by rw [← hfl]; rfl
  refine v_ifs ?_
  show tAnd _ _ [s0, some (.str "other"), some (.ref a), some (.ref p3), s4] G _
  refine v_and (v_test (v_op (v_cb (v_cons (v_lc (v_iL (v_var rfl (v_itL (SqL.of gp) ?_))))))))
  refine v_lcL (xs := fl.map V.bl) (fun A i H' => H' A = some (.lst (((fl.take i).filter id).map V.bl)) ∧ ∀ b o, G b = some o → H' b = some o) (fun A nA => ⟨upd_same, fun b o e => by rw [upd_ne (ne_of_none e nA)]; exact e⟩) (fun A i H' _ _ w => SqL.of (w.2 _ _ gp)) ?_ ?_
  · rintro A i x H' nA hx ⟨w1, w2⟩
    rw [List.getElem?_map] at hx
    cases hb : fl[i]? with
    | none => rw [hb] at hx; cases hx
    | some b =>
      rw [hb] at hx
      cases hx
      have hi := (List.getElem?_eq_some_iff.mp hb).1
      refine v_turn rfl ?_
      refine v_B (v_var rfl ⟨b, rfl, ?_⟩)
      cases b with
      | false =>
        refine v_iteF ⟨?_, w2⟩
        rw [take_snoc hb, List.filter_append]
        rw [show List.filter id [false] = [] from rfl, List.append_nil]
        exact w1
      | true =>
        refine v_iteT (v_var rfl ⟨_, w1, ?_, ?_, fun b o e => ?_⟩)
        · rw [List.length_map]
          have h1 := List.length_filter_le id (fl.take i)
          rw [List.length_take] at h1
          exact small1000 (by omega)
        · rw [upd_same, take_snoc hb, List.filter_append, List.map_append]
          rfl
        · rw [upd_ne (ne_of_none e nA)]
          exact w2 b o e
  · rintro A H' nA ⟨w1, w2⟩
    rw [List.length_map, List.take_length] at w1
    refine v_nil (v_lenL (SqL.of w1) (v_c (v_eqI ⟨_, rfl, ?_⟩)))
    rw [List.length_map, one]
    refine v_iteT ?_
    refine v_B (v_cb (v_cons (v_var rfl (v_cons (v_c (v_nil (v_isNT hx kv ⟨_, rfl, v_iteT ?_⟩)))))))
    refine v_asg (v_op (v_lst ?_))
    refine v_cons (v_c (v_cons (v_c (v_cons (v_c (v_cons (v_c (v_cons (v_c (v_cons (v_c (v_cons (v_c (v_nil ⟨by show 7 ≤ sizeLine; decide, fun pw npw => ?_⟩))))))))))))))
    have gq : (upd H' pw (.lst [.str "block", .str "place", .str "beneath", .str "order", .str "view", .str "blocks", .str "number"])) p3 = some (.lst (fl.map V.bl)) := by
      rw [upd_ne (ne_of_none (w2 _ _ gp) npw)]
      exact w2 _ _ gp
    refine v_bm (v_var rfl (v_bmL gq (v_cons (v_c (v_nil ?_)))))
    have fla : (fl.map V.bl).all flatV = true := by
      rw [List.all_map]
      exact List.all_eq_true.mpr fun _ _ => rfl
    refine ⟨p3, fl.map V.bl, .bl true, j, .bl true, rfl, rfl, SqL.of gq, rfl, fla, by rw [List.getElem?_map, hz]; rfl, rfl, fun m z' hm hz' => ?_, ?_⟩
    · rw [List.getElem?_map] at hz'
      cases e : fl[m]? with
      | none => rw [e] at hz'; cases hz'
      | some b =>
        rw [e] at hz'
        cases hz'
        rw [fst m b hm e]
        rfl
    · have hw : ∃ w, words5[j]? = some w := by
        have : j < words5.length := hj
        exact ⟨_, List.getElem?_eq_getElem this⟩
      obtain ⟨w, hw⟩ := hw
      refine .inl ⟨pw, words5.map V.str, j, .str w, rfl, rfl, SqL.of upd_same, ?_, ?_⟩
      · refine atI_of (jj := j) rfl ?_
        rw [List.getElem?_map, hw]
        rfl
      · exact v_name (nx _ _ w rfl hw rfl ((sG.trans w2).trans (same_new npw)))
end
/-- what is known of the seven classes -/
structure W5 (K : PySem.W.Frag) (cs : List Addr) (V : Addr) : Prop where
  seven : cs.length = 7
  xc : ∀ C ∈ cs, XCls K C
  kv : ∀ C ∈ cs, PySem.W.kitOne K (.ref C) (.type "ValueError") = some true
  ex : ∀ C ∈ cs, PySem.W.exmOne K (.ref C) (.ref V) = some true
  k : ∀ (i j : Nat) (C C' : Addr), cs[i]? = some C → cs[j]? = some C' → PySem.W.kitOne K (.ref C) (.ref C') = some (decide (i = j))
def tab5 (cs : List Addr) : List (Addr × Str) := cs.zip words5
def tTryN (K : PySem.W.Frag) (c : Value) (i : Nat) (tb : WX → TS) (ts : Addr → Value → Option Addr → TS) : TS := fun D σ H => tb (wAs K c i ts (fun _ _ _ _ => False) D) D σ H
theorem hot_suite {X : Cx} {a : Addr} {oe : Obj} {cls : Value} {d : Option Addr} {pn : List (Addr × Obj)} (z : L2N.Zn cls d oe) (h : ∃ vs, oe.data = .fields vs) : L2H.HotC (X.suite a ((a, oe) :: pn)) := by
  obtain ⟨vs, e⟩ := h
  exact ⟨(a, oe), ⟨rfl, vs, e, z.2.2 vs e⟩, List.mem_cons_self⟩
/-- the reading of the whole body -/
def tW5 (K : PySem.W.Frag) (V c0 c1 c2 c3 c4 c5 c6 : Addr) (tb : WX → TS) : TS :=
  tSeq (tAsg (tC (.str "let")) (gName 1)) (tSeq (tTryN K (.ref V) 2 tb (t_w5 K c0 c1 c2 c3 c4 c5 c6)) (tRet (tVar 1)))
/-- the reading of the call within the try -/
def tb5 (f c' : Addr) (q : Str) (tl : XK → Hp → VK → Prop) : WX → TS := fun W D σ H => ∃ E : XK, (∀ cls d σ' H', E cls d H' → σ'.length = 5 → W cls d σ' H') ∧ σ[0]? = some (some (.ref f)) ∧ H c' = some (LamX.CodeO c' q) ∧ σ[1]? = some (some (.str "let")) ∧ tl E H (fun _ H' => D.nx σ H')
theorem word_out {K : PySem.W.Frag} {c0 c1 c2 c3 c4 c5 c6 V f c' : Addr} {q : Str} (w : W5 K [c0, c1, c2, c3, c4, c5, c6] V) {tl : XK → Hp → VK → Prop} {H : Hp} {Q : VK} {QN : L2.St → Hp → Prop}
    (hc : H c' = some (LamX.CodeO c' q)) (h : TTw (tab5 [c0, c1, c2, c3, c4, c5, c6]) tl H Q) :
    tW5 K V c0 c1 c2 c3 c4 c5 c6 (tb5 f c' q tl)
      { nx := QN, rt := Q } [some (.ref f), none, none, none, none] H := by
  unfold tW5
  refine v_seq (v_asg (v_c (v_name ?_)))
  refine v_seq ?_
  refine ⟨fun cls d H' => d = none ∧ ∃ (C : Addr) (wd : Str), cls = .ref C ∧ (C, wd) ∈ tab5 [c0, c1, c2, c3, c4, c5, c6] ∧ ∀ G, Same H' G → Q (.str wd) G, ?_, rfl, hc, rfl, ?_⟩
  · rintro cls d σ' H' ⟨rfl, C, wd, rfl, hm, hq⟩ l5
    have key : ∀ j, j < 7 → [c0, c1, c2, c3, c4, c5, c6][j]? = some C → words5[j]? = some wd → wAs K (.ref V) 2 (t_w5 K c0 c1 c2 c3 c4 c5 c6) (fun _ _ _ _ => False) { nx := fun τ G => tRet (tVar 1) { nx := QN, rt := Q } τ G, rt := Q } (.ref C) none σ' H' := by
      intro j hj hC hw
      have mC := List.mem_of_getElem? hC
      refine ⟨true, w.ex C mC, fun _ z _ => ?_, fun h => nomatch h⟩
      refine w5_run (f := fun m => decide (j = m)) (j := j) (w.xc C mC) (w.kv C mC) (w.k j 0 C c0 hC rfl) (w.k j 1 C c1 hC rfl) (w.k j 2 C c2 hC rfl) (w.k j 3 C c3 hC rfl) (w.k j 4 C c4 hC rfl) (w.k j 5 C c5 hC rfl) (w.k j 6 C c6 hC rfl) ?_ hj ?_ ?_ l5 ?_
      · have : j = 0 ∨ j = 1 ∨ j = 2 ∨ j = 3 ∨ j = 4 ∨ j = 5 ∨ j = 6 := by omega
        rcases this with rfl | rfl | rfl | rfl | rfl | rfl | rfl <;> rfl
      · have : j = 0 ∨ j = 1 ∨ j = 2 ∨ j = 3 ∨ j = 4 ∨ j = 5 ∨ j = 6 := by omega
        rcases this with rfl | rfl | rfl | rfl | rfl | rfl | rfl <;> rfl
      · intro m v hm hv
        have e1 : j = 0 ∨ j = 1 ∨ j = 2 ∨ j = 3 ∨ j = 4 ∨ j = 5 ∨ j = 6 := by omega
        have e2 : m = 0 ∨ m = 1 ∨ m = 2 ∨ m = 3 ∨ m = 4 ∨ m = 5 ∨ m = 6 := by omega
        have e3 : v = decide (j = m) := by rcases e2 with rfl | rfl | rfl | rfl | rfl | rfl | rfl <;> exact (Option.some.inj hv).symm
        rw [e3]
        exact decide_eq_false (by omega)
      · intro σ2 G w2 l2 hw2 hs sG
        have : w2 = wd := by rw [hw] at hw2; exact (Option.some.inj hw2).symm
        subst this
        show tRet (tVar 1) _ (σ2.set 2 none) G
        refine ⟨.str w2, ?_, hq G sG⟩
        rw [List.getElem?_set_ne (by decide)]
        exact hs
    simp only [tab5, words5, List.zip_cons_cons, List.zip_nil_right, List.mem_cons, List.not_mem_nil, or_false, Prod.mk.injEq] at hm
    rcases hm with ⟨rfl, rfl⟩ | ⟨rfl, rfl⟩ | ⟨rfl, rfl⟩ | ⟨rfl, rfl⟩ | ⟨rfl, rfl⟩ | ⟨rfl, rfl⟩ | ⟨rfl, rfl⟩
    · exact key 0 (by decide) rfl rfl
    · exact key 1 (by decide) rfl rfl
    · exact key 2 (by decide) rfl rfl
    · exact key 3 (by decide) rfl rfl
    · exact key 4 (by decide) rfl rfl
    · exact key 5 (by decide) rfl rfl
    · exact key 6 (by decide) rfl rfl
  · exact h

/-! more step rules -/
section
variable {c : Addr} {P : O → List O → Prop}
theorem a_mulT {xs : List D} {k : Int} {K : O → Prop} (h : xs ≠ [] ∧ -(2 ^ 62) ≤ k ∧ k ≤ 1000 ∧ xs.length ≤ 1000) (q : K (.fr (.tup (List.replicate k.toNat xs).flatten))) : dMul (.tup xs) (.int k) K := ⟨h, q⟩
theorem a_rgT {env : DEnv} {i : Nat} {j : Int} {Q : R → DEnv → Prop} {X : DExc → DEnv → Prop} (h : env[i]? = some (.ow (.fr (.int j)))) (b : RgOk 0 j) (q : Q (.d (.tup (rgD 0 (j - 0).toNat))) env) : dRg false (dLastA (dVar i)) env Q X := by
  unfold dRg dLastA dVar
  rw [h]
  exact ⟨b, q⟩
theorem flVs_ints : ∀ ns : List Int, flVs (ns.map D.int) = some (ns.map V.int)
  | [] => rfl
  | n :: ns => by
    show (match flVs (ns.map D.int) with
      | some l => some (V.int n :: l)
      | none => none) = _
    rw [flVs_ints ns]
    rfl
theorem inV_ints' (z : Int) : ∀ ns : List Int, inV (.int z) (ns.map V.int) = decide (z ∈ ns)
  | [] => rfl
  | n :: ns => by
    have := inV_ints' z ns
    unfold inV at *
    rw [List.map_cons, List.any_cons, this]
    show ((n == z) || decide (z ∈ ns)) = _
    by_cases h : n = z
    · subst h
      rw [decide_eq_true List.mem_cons_self, beq_self_eq_true, Bool.true_or]
    · rw [beq_false_of_ne h, Bool.false_or]
      by_cases h2 : z ∈ ns
      · rw [decide_eq_true h2, decide_eq_true (List.mem_cons_of_mem _ h2)]
      · rw [decide_eq_false h2, decide_eq_false fun m => (List.mem_cons.mp m).elim (fun e => h e.symm) h2]
theorem a_inRow {neg : Bool} {z : Int} {ns : List Int} {K : O → Prop} (q : K (.fr (.bl (if neg then !decide (z ∈ ns) else decide (z ∈ ns))))) : dIn neg (.int z) (.tup (ns.map .int)) K := by
  show oth (some (V.int z)) fun x => oth (flVs (ns.map D.int)) fun xs => K (.fr (.bl (if neg = true then !inV x xs else inV x xs)))
  rw [flVs_ints]
  show K (.fr (.bl (if neg = true then !inV (.int z) (ns.map V.int) else inV (.int z) (ns.map V.int))))
  rw [inV_ints']
  exact q
theorem a_par {i j : Nat} {ta : DTV} {DD : DEnds} {env : DEnv} (h : ta env (fun ds env1 => match ds with
  | [d, e] => dName i (.fr d) env1 (fun env2 => dName j (.fr e) env2 DD.nx DD.ex) DD.ex
  | _ => False) DD.ex) : dPar i j ta DD env := h

end
section
variable {P : R → DEnv → Prop} {X : DX} {env : DEnv} {i : Nat} {a : DTE} {d : D} {ds : List D} {os : List O}
/-- xs.pop() -/
theorem a_pop (h : env[i]? = some (.ow (oL (ds ++ [d])))) (q : P (.d d) (env.set i (.ow (oL ds)))) : dMeth0 fPop i env P X := by
  unfold dMeth0
  have e : contAt env i [] = some (oL (ds ++ [d])) := by
    unfold contAt
    rw [h]
    rfl
  rw [e]
  have e1 : ((ds ++ [d]).map O.fr)[((ds ++ [d]).map O.fr).length - 1]? = some (.fr d) := by
    rw [List.map_append, List.length_append]
    show (ds.map O.fr ++ [O.fr d])[(ds.map O.fr).length + 1 - 1]? = _
    rw [Nat.add_sub_cancel, List.getElem?_append_right (Nat.le_refl _), Nat.sub_self]
    rfl
  have e2 : ((ds ++ [d]).map O.fr).dropLast = ds.map O.fr := by
    rw [List.map_append]
    exact List.dropLast_concat
  show oth ((ds ++ [d]).map O.fr)[((ds ++ [d]).map O.fr).length - 1]? fun o => P (.o o) (setAt env i [] (.lst ((ds ++ [d]).map O.fr).dropLast))
  rw [e1, e2]
  have e3 : setAt env i [] (oL ds) = env.set i (.ow (oL ds)) := by
    unfold setAt
    rw [h]
    rfl
  show P (.d d) (setAt env i [] (oL ds))
  rw [e3]
  exact q
/-- xs.pop(i) -/
def popAtK (i : Nat) (o : O) (env2 : DEnv) (P : R → DEnv → Prop) : Prop := oth (contAt env2 i []) fun u => match u with
  | .lst os => fPopAt os o fun os' z => P (.o z) (setAt env2 i [] (.lst os'))
  | _ => False
theorem a_popAtM (h : contAt env i [] = some (.lst os)) (q : a env (fun r env1 => toO r env1 fun o env2 => popAtK i o env2 P) X) : dMeth1 fPopAt i a env P X := ⟨by rw [h]; rfl, q⟩
theorem map_erase' {α β : Type} (f : α → β) : ∀ (l : List α) (i : Nat), (l.map f).eraseIdx i = (l.eraseIdx i).map f
  | [], _ => rfl
  | _ :: _, 0 => rfl
  | a :: l, i + 1 => by
    show f a :: (l.map f).eraseIdx i = f a :: (l.eraseIdx i).map f
    rw [map_erase' f l i]
theorem a_popAt {n : Int} {j : Nat} (h : env[i]? = some (.ow (oL ds))) (e : n = (j : Int)) (hj : ds[j]? = some d) (l : ds.length ≤ 1000) (q : P (.d d) (env.set i (.ow (oL (ds.eraseIdx j))))) : popAtK i (.fr (.int n)) env P := by
  subst e
  unfold popAtK
  have hl := (List.getElem?_eq_some_iff.mp hj).1
  have ec : contAt env i [] = some (oL ds) := by
    unfold contAt
    rw [h]
    rfl
  rw [ec]
  refine ⟨⟨by omega, by omega⟩, ?_⟩
  have e1 : seqIndex? (j : Int) (ds.map O.fr).length = some j := by
    exact (ixN_seq (ixN_of rfl (by rw [List.length_map]; exact hl))).1
  rw [e1]
  show oth (ds.map O.fr)[j]? fun u => P (.o u) (setAt env i [] (.lst ((ds.map O.fr).eraseIdx j)))
  rw [List.getElem?_map, hj, map_erase']
  have e3 : setAt env i [] (oL (ds.eraseIdx j)) = env.set i (.ow (oL (ds.eraseIdx j))) := by
    unfold setAt
    rw [h]
    rfl
  show P (.d d) (setAt env i [] (oL (ds.eraseIdx j)))
  rw [e3]
  exact q
/-! objects of own classes in slots -/
theorem a_varI {C : Addr} {gs : List (Str × O)} (h : env[i]? = some (.ow (.ins C gs))) (q : P (.p i []) env) : dVar i env P X := by
  unfold dVar
  rw [h]
  exact q
theorem a_fldI {Cs : List Addr} {fl : Str} {C : Addr} {gs : List (Str × O)} {gd : List (Str × D)} {KR : R → Prop} {path : List PSt} (h : contAt env i path = some (.ins C gs)) (e : (O.ins C gs).flat = some (.ins C gd)) (hC : C ∈ Cs) (l : gd.lookup fl = some d) (q : KR (.d d)) : fldR Cs fl (.p i path) env KR := by
  unfold fldR
  have e1 : peek (.p i path) env = some (.ins C gd) := by
    show (match contAt env i path with
      | some o => o.flat
      | none => none) = _
    rw [h]
    exact e
  rw [e1]
  dsimp only
  rw [l]
  exact ⟨hC, q⟩
theorem a_forceI {KD : D → DEnv → Prop} {o : O} (h : env[i]? = some (.ow o)) (q : KD o.frz (env.set i (.ow (.fr o.frz)))) : force (.p i []) env KD := by
  show (match env[i]? with
    | some (.ow o) => (match o.at [] with
      | some o1 => KD o1.frz (env.set i (.ow (o.put [] (.fr o1.frz))))
      | none => False)
    | some (.bo o) => False
    | _ => False)
  rw [h]
  exact q
end
theorem cutD_drop {α : Type} (f : α → D) (ns : List α) (v : Nat) : cutD (ns.map f) (some (v : Int)) none = (ns.drop v).map f := by
  unfold cutD
  rw [HT.sIx_none, HT.sIx_nat, List.length_map, List.map_drop]
  by_cases hv : v ≤ ns.length
  · rw [Nat.min_eq_left hv]
    exact List.take_of_length_le (by rw [List.length_drop, List.length_map]; omega)
  · rw [Nat.min_eq_right (by omega), List.drop_eq_nil_of_le (by rw [List.length_map]; omega), List.drop_eq_nil_of_le (by rw [List.length_map]; omega), List.take_nil]

/-! ### ways up, blocks beneath -/
def way (hs : List Int) : Nat → Int → List Int
  | 0, _ => []
  | k + 1, h => if h = 0 then [] else stp hs h :: way hs k (stp hs h)
def wy (hs : List Int) (h : Int) : List Int := way hs hs.length h
theorem way_zero (hs : List Int) : ∀ k, way hs k 0 = []
  | 0 => rfl
  | k + 1 => if_pos rfl
theorem way_more {hs : List Int} : ∀ {k : Nat} {h : Int}, up hs k h = 0 → way hs (k + 1) h = way hs k h
  | 0, h, e => by
    have e' : h = 0 := e
    subst e'
    exact if_pos rfl
  | k + 1, h, e => by
    by_cases z : h = 0
    · subst z
      rw [way_zero, way_zero]
    · show (if h = 0 then [] else stp hs h :: way hs (k + 1) (stp hs h)) = (if h = 0 then [] else stp hs h :: way hs k (stp hs h))
      rw [if_neg z, if_neg z, way_more (k := k) e]
section
variable {hs : List Int} {c p h : Int}
theorem IsTree.up0 (t : IsTree hs) (h0 : 0 ≤ h) (h1 : h ≤ hs.length) : up hs hs.length h = 0 := by
  by_cases z : h = 0
  · rw [z, up_zero]
  · obtain ⟨k, hk, e⟩ := of_leads (t.2.2.2.2 (h.toNat - 1) (by omega))
    rw [show (((h.toNat - 1 : Nat) : Int) + 1) = h by omega] at e
    exact up_past e hk
theorem wy_zero : wy hs 0 = [] := way_zero ..
theorem wy_cons (t : IsTree hs) (h0 : 1 ≤ h) (h1 : h ≤ hs.length) : wy hs h = stp hs h :: wy hs (stp hs h) := by
  unfold wy
  rw [← way_more (t.up0 (by omega) h1)]
  show (if h = 0 then [] else _) = _
  rw [if_neg (by omega)]
theorem stp_in (p : Pls hs) (h : Int) : 0 ≤ stp hs h ∧ stp hs h ≤ hs.length := by
  unfold stp
  split
  · exact ⟨Int.le_refl _, Int.natCast_nonneg _⟩
  · exact p.at _
theorem stp_at {k : Nat} {z : Int} (h : hs[k]? = some z) : stp hs ((k : Int) + 1) = z := by
  unfold stp
  rw [if_neg (by omega), show (((k : Int) + 1).toNat - 1) = k by omega, List.getD_eq_getElem?_getD, h]
  rfl
theorem stp_get (h0 : 1 ≤ h) (h1 : h ≤ hs.length) : hs[h.toNat - 1]? = some (stp hs h) := by
  have hk : h.toNat - 1 < hs.length := by omega
  have := stp_at (List.getElem?_eq_getElem hk)
  rw [show (((h.toNat - 1 : Nat) : Int) + 1) = h by omega] at this
  rw [this, List.getElem?_eq_getElem hk]
theorem dep_stp (t : IsTree hs) (h0 : 1 ≤ h) (h1 : h ≤ hs.length) : (wy hs h).length = (wy hs (stp hs h)).length + 1 := by
  rw [wy_cons t h0 h1, List.length_cons]
/-- along the way up it is ever less deep -/
theorem dep_mem (t : IsTree hs) : ∀ (d : Nat) (c : Int), (wy hs c).length = d → 0 ≤ c → c ≤ hs.length → ∀ p, p ∈ wy hs c → (wy hs p).length < d ∧ 0 ≤ p ∧ p ≤ hs.length
  | 0, c, e, _, _, p, m => by rw [List.length_eq_zero_iff.mp e] at m; cases m
  | d + 1, c, e, h0, h1, p, m => by
    have nz : c ≠ 0 := fun z => by rw [z, wy_zero] at m; cases m
    have ds := dep_stp t (h := c) (by omega) h1
    have si := stp_in t.2.2.1 c
    rw [wy_cons t (by omega) h1] at m
    rcases List.mem_cons.mp m with z | m
    · rw [z]
      exact ⟨by omega, si⟩
    · have q := dep_mem t d (stp hs c) (by omega) si.1 si.2 p m
      exact ⟨by omega, q.2⟩
def blocks (n : Nat) : List Int := (List.range n).map fun (k : Nat) => (k : Int) + 1
theorem blocks_len (n : Nat) : (blocks n).length = n := by
  unfold blocks
  rw [List.length_map, List.length_range]
theorem blocks_mem {n : Nat} : c ∈ blocks n ↔ 1 ≤ c ∧ c ≤ n := by
  unfold blocks
  rw [List.mem_map]
  constructor
  · rintro ⟨k, hk, rfl⟩
    have := List.mem_range.mp hk
    omega
  · rintro ⟨a, b⟩
    exact ⟨c.toNat - 1, List.mem_range.mpr (by omega), by omega⟩
theorem blocks_nodup (n : Nat) : (blocks n).Nodup := by
  unfold blocks
  refine List.Pairwise.map _ (fun a b h => ?_) List.nodup_range
  intro e
  exact h (by omega)
theorem blocks_sorted (n : Nat) : (blocks n).Pairwise (· < ·) := by
  unfold blocks
  refine List.Pairwise.map _ (fun a b h => ?_) List.pairwise_lt_range
  omega
/-- the first i blocks that hang at p -/
def hangN (hs : List Int) (p : Int) (i : Nat) : List Int := (blocks i).filter fun c => decide (stp hs c = p)
def hang (hs : List Int) (p : Int) : List Int := hangN hs p hs.length
/-- the first i blocks beneath p -/
def benN (hs : List Int) (p : Int) (i : Nat) : List Int := (blocks i).filter fun c => decide (p ∈ wy hs c)
def ben (hs : List Int) (p : Int) : List Int := benN hs p hs.length
theorem mem_hang : c ∈ hang hs p ↔ (1 ≤ c ∧ c ≤ hs.length) ∧ stp hs c = p := by
  unfold hang hangN
  rw [List.mem_filter, blocks_mem, decide_eq_true_eq]
theorem mem_ben : c ∈ ben hs p ↔ (1 ≤ c ∧ c ≤ hs.length) ∧ p ∈ wy hs c := by
  unfold ben benN
  rw [List.mem_filter, blocks_mem, decide_eq_true_eq]
theorem hang_nodup : (hang hs p).Nodup := (blocks_nodup _).filter _
theorem ben_nodup : (ben hs p).Nodup := (blocks_nodup _).filter _
theorem ben_sorted : (ben hs p).Pairwise (· < ·) := (blocks_sorted _).filter _
theorem hangN_len (i : Nat) : (hangN hs p i).length ≤ i := by
  refine Nat.le_trans (List.length_filter_le _ _) ?_
  rw [blocks_len]
  exact Nat.le_refl _
/-- the search for what is beneath p: F found, W waiting -/
structure Dfs (hs : List Int) (p : Int) (F W : List Int) : Prop where
  fn : F.Nodup
  fb : ∀ c ∈ F, (1 ≤ c ∧ c ≤ hs.length) ∧ p ∈ wy hs c
  wn : W.Nodup
  wf : ∀ w ∈ W, w = p ∨ w ∈ F
  np : ∀ c ∈ F, stp hs c ∉ W
  pf : ∀ c ∈ F, stp hs c = p ∨ stp hs c ∈ F
  cl : ∀ c : Int, 1 ≤ c → c ≤ hs.length → (stp hs c = p ∨ stp hs c ∈ F) → stp hs c ∉ W → c ∈ F
theorem Dfs.start : Dfs hs p [] [p] where
  fn := List.nodup_nil
  fb := fun _ h => nomatch h
  wn := List.nodup_cons.mpr ⟨List.not_mem_nil, List.nodup_nil⟩
  wf := fun w h => .inl (List.mem_singleton.mp h)
  np := fun _ h => nomatch h
  pf := fun _ h => nomatch h
  cl := fun c _ _ h n => by
    rcases h with h | h
    · exact absurd (List.mem_singleton.mpr h) n
    · exact nomatch h
theorem Dfs.step (t : IsTree hs) (p0 : 0 ≤ p) (p1 : p ≤ hs.length) {F W : List Int} {w : Int} (d : Dfs hs p F (W ++ [w])) : Dfs hs p (F ++ hang hs w) (W ++ hang hs w) := by
  have hw : w = p ∨ w ∈ F := d.wf w (List.mem_append_right _ (List.mem_singleton.mpr rfl))
  have hA : ∀ c, c ∈ hang hs w → c ∉ F := fun c hc hf => d.np c hf (by rw [(mem_hang.mp hc).2]; exact List.mem_append_right _ (List.mem_singleton.mpr rfl))
  have hdep : (wy hs p).length ≤ (wy hs w).length := by
    rcases hw with z | z
    · rw [z]; exact Nat.le_refl _
    · have b := d.fb w z
      exact Nat.le_of_lt (dep_mem t _ w rfl (by omega) b.1.2 p b.2).1
  have hB : ∀ c, c ∈ hang hs w → c ≠ p := fun c hc z => by
    have m := mem_hang.mp hc
    have := dep_stp t m.1.1 m.1.2
    rw [m.2, z] at this
    omega
  have hC : w ∉ hang hs w := fun hc => by
    have m := mem_hang.mp hc
    have := dep_stp t m.1.1 m.1.2
    rw [m.2] at this
    omega
  have wn := List.nodup_append.mp d.wn
  have wW : w ∉ W := fun z => wn.2.2 w z w (List.mem_singleton.mpr rfl) rfl
  refine ⟨?_, ?_, ?_, ?_, ?_, ?_, ?_⟩
  · exact List.nodup_append.mpr ⟨d.fn, hang_nodup, fun a ha b hb z => hA b hb (z ▸ ha)⟩
  · intro c hc
    rcases List.mem_append.mp hc with hc | hc
    · exact d.fb c hc
    · have m := mem_hang.mp hc
      refine ⟨m.1, ?_⟩
      rw [wy_cons t m.1.1 m.1.2, m.2]
      rcases hw with z | z
      · rw [z]; exact List.mem_cons_self
      · exact List.mem_cons_of_mem _ (d.fb w z).2
  · refine List.nodup_append.mpr ⟨wn.1, hang_nodup, fun a ha b hb z => ?_⟩
    subst z
    rcases d.wf a (List.mem_append_left _ ha) with z | z
    · exact hB a hb z
    · exact hA a hb z
  · intro x hx
    rcases List.mem_append.mp hx with hx | hx
    · rcases d.wf x (List.mem_append_left _ hx) with z | z
      · exact .inl z
      · exact .inr (List.mem_append_left _ z)
    · exact .inr (List.mem_append_right _ hx)
  · intro c hc hx
    rcases List.mem_append.mp hc with hc | hc
    · rcases List.mem_append.mp hx with hx | hx
      · exact d.np c hc (List.mem_append_left _ hx)
      · rcases d.pf c hc with z | z
        · exact hB _ hx z
        · exact hA _ hx z
    · rw [(mem_hang.mp hc).2] at hx
      rcases List.mem_append.mp hx with hx | hx
      · exact wW hx
      · exact hC hx
  · intro c hc
    rcases List.mem_append.mp hc with hc | hc
    · rcases d.pf c hc with z | z
      · exact .inl z
      · exact .inr (List.mem_append_left _ z)
    · rw [(mem_hang.mp hc).2]
      rcases hw with z | z
      · exact .inl z
      · exact .inr (List.mem_append_left _ z)
  · intro c c0 c1 hs' hn
    by_cases e : stp hs c = w
    · exact List.mem_append_right _ (mem_hang.mpr ⟨⟨c0, c1⟩, e⟩)
    · refine List.mem_append_left _ (d.cl c c0 c1 ?_ fun z => ?_)
      · rcases hs' with z | z
        · exact .inl z
        · rcases List.mem_append.mp z with z | z
          · exact .inr z
          · exact absurd (List.mem_append_right _ z) hn
      · rcases List.mem_append.mp z with z | z
        · exact hn (List.mem_append_left _ z)
        · exact e (List.mem_singleton.mp z)
theorem Dfs.len {F W : List Int} (d : Dfs hs p F W) : F.length ≤ hs.length := by
  have := List.Nodup.length_le_of_subset d.fn (l₂ := blocks hs.length) fun c hc => blocks_mem.mpr (d.fb c hc).1
  rwa [blocks_len] at this
theorem Dfs.wlen {F W : List Int} (d : Dfs hs p F W) : W.length ≤ hs.length + 1 := by
  have := List.Nodup.length_le_of_subset d.wn (l₂ := p :: F) fun c hc => by
    rcases d.wf c hc with z | z
    · rw [z]; exact List.mem_cons_self
    · exact List.mem_cons_of_mem _ z
  have q := d.len
  rw [List.length_cons] at this
  omega
theorem Dfs.all (t : IsTree hs) {F : List Int} (d : Dfs hs p F []) : ∀ (k : Nat) (c : Int), (wy hs c).length = k → c ∈ ben hs p → c ∈ F
  | 0, c, e, h => by
    have m := mem_ben.mp h
    rw [List.length_eq_zero_iff.mp e] at m
    cases m.2
  | k + 1, c, e, h => by
    have m := mem_ben.mp h
    have ds := dep_stp t m.1.1 m.1.2
    have q := m.2
    rw [wy_cons t m.1.1 m.1.2] at q
    rcases List.mem_cons.mp q with z | z
    · exact d.cl c m.1.1 m.1.2 (.inl z.symm) List.not_mem_nil
    · have nz : stp hs c ≠ 0 := fun y => by rw [y, wy_zero] at z; cases z
      have si := stp_in t.2.2.1 c
      exact d.cl c m.1.1 m.1.2 (.inr (d.all t k (stp hs c) (by omega) (mem_ben.mpr ⟨⟨by omega, si.2⟩, z⟩))) List.not_mem_nil
theorem Dfs.done (t : IsTree hs) {F S : List Int} (d : Dfs hs p F []) (pm : S.Perm F) (so : S.Pairwise (· ≤ ·)) : S = ben hs p := by
  refine List.Perm.eq_of_pairwise (le := (· ≤ ·)) (fun a b _ _ h1 h2 => Int.le_antisymm h1 h2) so (ben_sorted.imp fun h => Int.le_of_lt h) ?_
  refine pm.trans ((List.perm_ext_iff_of_nodup d.fn ben_nodup).mpr fun c => ⟨fun h => ?_, fun h => d.all t _ c rfl h⟩)
  exact mem_ben.mpr (d.fb c h)
end

/-! ### blocks hung elsewhere -/
theorem lead_any {hs : List Int} (p : Pls hs) {b : Int} (h0 : 0 ≤ b) (h1 : b ≤ hs.length) : ∀ (m k : Nat), k ≤ m → up hs k b = 0 → leads hs b = true
  | m, k, hm, e => by
    by_cases hk : k ≤ hs.length
    · exact leads_true hk e
    · by_cases q : ∃ j, j ≤ hs.length ∧ up hs j b = 0
      · obtain ⟨j, hj, q⟩ := q
        exact leads_true hj q
      · have nz : ∀ j, j ≤ hs.length → up hs j b ≠ 0 := fun j hj z => q ⟨j, hj, z⟩
        obtain ⟨i, j, hij, hj, g⟩ := pigeon hs.length (fun k => (up hs k b).toNat - 1) fun k hk => by
          have := up_in p k b h0 h1
          have := nz k hk
          omega
        have e1 : up hs i b = up hs j b := by
          have := up_in p i b h0 h1
          have := up_in p j b h0 h1
          have := nz i (by omega)
          have := nz j hj
          have g' : (up hs i b).toNat - 1 = (up hs j b).toNat - 1 := g
          omega
        cases m with
        | zero => omega
        | succ m =>
          refine lead_any p h0 h1 m (i + (k - j)) (by omega) ?_
          rw [up_add, e1, ← up_add, show j + (k - j) = k by omega]
          exact e
section
variable {hs ms : List Int} {b c p h : Int}
theorem set_len (k : Nat) : (hs.set k p).length = hs.length := List.length_set
theorem stp_set (b0 : 1 ≤ b) (b1 : b ≤ hs.length) (c0 : 0 ≤ c) : stp (hs.set (b.toNat - 1) p) c = if c = b then p else stp hs c := by
  unfold stp
  by_cases z : c = 0
  · rw [if_pos z, if_pos z, if_neg (by omega)]
  · rw [if_neg z, if_neg z, List.getD_eq_getElem?_getD, List.getD_eq_getElem?_getD]
    by_cases e : c = b
    · subst e
      rw [List.getElem?_set_self (by omega), if_pos rfl]
      rfl
    · rw [List.getElem?_set_ne (by omega), if_neg e]
theorem IsTree.ne (t : IsTree hs) (h0 : 1 ≤ h) (h1 : h ≤ hs.length) : stp hs h ≠ h := fun e => by
  have := t.2.2.2.1 (h.toNat - 1) _ (stp_get h0 h1)
  omega
/-- what a tree's row must be, by steps up -/
theorem tree_of (l1 : 1 ≤ hs.length) (l2 : hs.length ≤ 40) (pl : ∀ c, 1 ≤ c → c ≤ (hs.length : Int) → 0 ≤ stp hs c ∧ stp hs c ≤ hs.length) (ne : ∀ c, 1 ≤ c → c ≤ (hs.length : Int) → stp hs c ≠ c)
    (ld : ∀ c, 1 ≤ c → c ≤ (hs.length : Int) → ∃ k, up hs k c = 0) : IsTree hs := by
  have P : Pls hs := fun x hx => by
    obtain ⟨k, hk⟩ := List.mem_iff_getElem?.mp hx
    have hl := (List.getElem?_eq_some_iff.mp hk).1
    have := pl ((k : Int) + 1) (by omega) (by omega)
    rw [stp_at hk] at this
    exact this
  refine ⟨l1, l2, P, fun k x hk e => ?_, fun k hk => ?_⟩
  · have hl := (List.getElem?_eq_some_iff.mp hk).1
    have := ne ((k : Int) + 1) (by omega) (by omega)
    rw [stp_at hk] at this
    exact this e
  · obtain ⟨m, e⟩ := ld ((k : Int) + 1) (by omega) (by omega)
    exact lead_any P (by omega) (by omega) m m (Nat.le_refl _) e
theorem up_same (b0 : 1 ≤ b) (b1 : b ≤ hs.length) (t : IsTree hs) : ∀ (k : Nat) (c : Int), 0 ≤ c → c ≤ hs.length → c ≠ b → b ∉ wy hs c → up (hs.set (b.toNat - 1) p) k c = up hs k c
  | 0, c, _, _, _, _ => rfl
  | k + 1, c, c0, c1, cb, nm => by
    show up _ k (stp _ c) = up hs k (stp hs c)
    rw [stp_set b0 b1 c0, if_neg cb]
    by_cases z : c = 0
    · subst z
      have e : stp hs 0 = 0 := if_pos rfl
      rw [e, up_zero, up_zero]
    · have w := wy_cons t (h := c) (by omega) c1
      rw [w] at nm
      have si := stp_in t.2.2.1 c
      exact up_same b0 b1 t k (stp hs c) si.1 si.2 (fun e => nm (by rw [e]; exact List.mem_cons_self)) fun m => nm (List.mem_cons_of_mem _ m)
theorem IsTree.move (t : IsTree hs) (b0 : 1 ≤ b) (b1 : b ≤ hs.length) (p0 : 0 ≤ p) (p1 : p ≤ hs.length) (nb : p ≠ b) (nm : b ∉ wy hs p) : IsTree (hs.set (b.toNat - 1) p) := by
  refine tree_of (by rw [set_len]; exact t.1) (by rw [set_len]; exact t.2.1) (fun c c0 c1 => ?_) (fun c c0 c1 => ?_) ?_
  · rw [set_len] at c1 ⊢
    rw [stp_set b0 b1 (by omega)]
    split
    · exact ⟨p0, p1⟩
    · exact stp_in t.2.2.1 c
  · rw [set_len] at c1
    rw [stp_set b0 b1 (by omega)]
    split
    · rename_i e
      rw [e]; exact nb
    · exact t.ne c0 c1
  · rw [set_len]
    have key : ∀ (d : Nat) (c : Int), (wy hs c).length = d → 0 ≤ c → c ≤ hs.length → ∃ k, up (hs.set (b.toNat - 1) p) k c = 0 := fun d => by
      induction d with
      | zero =>
        intro c e c0 c1
        by_cases z : c = 0
        · exact ⟨0, z⟩
        · rw [wy_cons t (by omega) c1] at e
          cases e
      | succ d ih =>
        intro c e c0 c1
        by_cases z : c = 0
        · exact ⟨0, z⟩
        · have ds := dep_stp t (h := c) (by omega) c1
          have si := stp_in t.2.2.1 c
          by_cases cb : c = b
          · refine ⟨hs.length + 1, ?_⟩
            show up _ hs.length (stp _ c) = 0
            rw [stp_set b0 b1 c0, if_pos cb, up_same b0 b1 t _ _ p0 p1 nb nm]
            exact t.up0 p0 p1
          · obtain ⟨k, hk⟩ := ih (stp hs c) (by omega) si.1 si.2
            refine ⟨k + 1, ?_⟩
            show up _ k (stp _ c) = 0
            rw [stp_set b0 b1 c0, if_neg cb]
            exact hk
    exact fun c c0 c1 => key _ c rfl (by omega) c1
theorem ben_iff (p0 : 0 ≤ p) (p1 : p ≤ hs.length) : p ∈ ben hs b ↔ b ∈ wy hs p := by
  rw [mem_ben]
  constructor
  · exact fun h => h.2
  · intro h
    have : p ≠ 0 := fun z => by rw [z, wy_zero] at h; cases h
    exact ⟨⟨by omega, p1⟩, h⟩
/-! ### blocks called anew -/
/-- an order of n blocks -/
structure Ord (n : Nat) (ms : List Int) : Prop where
  len : ms.length = n
  nd : ms.Nodup
  bl : ∀ m ∈ ms, 1 ≤ m ∧ m ≤ n
theorem Ord.at {n : Nat} (o : Ord n ms) (c0 : 1 ≤ c) (c1 : c ≤ n) : ms[c.toNat - 1]? = some (stp ms c) ∧ 1 ≤ stp ms c ∧ stp ms c ≤ n := by
  have e := stp_get (hs := ms) c0 (by rw [o.len]; exact c1)
  exact ⟨e, o.bl _ (List.mem_of_getElem? e)⟩
theorem stp_zero : stp ms 0 = 0 := if_pos rfl
theorem Ord.inj {n : Nat} (o : Ord n ms) {c d : Int} (c0 : 0 ≤ c) (c1 : c ≤ n) (d0 : 0 ≤ d) (d1 : d ≤ n) (e : stp ms c = stp ms d) : c = d := by
  by_cases z : c = 0
  · by_cases y : d = 0
    · rw [z, y]
    · have := (o.at (c := d) (by omega) d1).2
      rw [z, stp_zero] at e
      omega
  · by_cases y : d = 0
    · have := (o.at (c := c) (by omega) c1).2
      rw [y, stp_zero] at e
      omega
    · have hc := (o.at (c := c) (by omega) c1).1
      have hd := (o.at (c := d) (by omega) d1).1
      rw [e, ← hd] at hc
      have := (List.getElem?_inj (by rw [o.len]; omega) o.nd).mp hc
      omega
theorem Ord.perm {n : Nat} (o : Ord n ms) : ms.Perm (blocks n) := by
  refine (List.perm_ext_iff_of_nodup o.nd (blocks_nodup n)).mpr fun c => ⟨fun h => blocks_mem.mpr (o.bl c h), fun h => ?_⟩
  refine Classical.byContradiction fun nh => ?_
  have q := List.Nodup.length_le_of_subset (l₁ := c :: ms) (l₂ := blocks n) (List.nodup_cons.mpr ⟨nh, o.nd⟩) fun x hx => by
    rcases List.mem_cons.mp hx with z | z
    · rw [z]; exact h
    · exact blocks_mem.mpr (o.bl x z)
  rw [List.length_cons, o.len, blocks_len] at q
  omega
theorem Ord.sur {n : Nat} (o : Ord n ms) (c0 : 1 ≤ c) (c1 : c ≤ n) : ∃ d, 1 ≤ d ∧ d ≤ (n : Int) ∧ stp ms d = c := by
  obtain ⟨k, hk⟩ := List.mem_iff_getElem?.mp (o.perm.mem_iff.mpr (blocks_mem.mpr ⟨c0, c1⟩))
  have hl := (List.getElem?_eq_some_iff.mp hk).1
  rw [o.len] at hl
  exact ⟨(k : Int) + 1, by omega, by omega, stp_at hk⟩
/-- the row of what is called anew, block by block -/
def callF (hs ms : List Int) : Nat → List Int
  | 0 => List.replicate hs.length 0
  | i + 1 => (callF hs ms i).set ((stp ms ((i : Int) + 1)).toNat - 1) (stp ms (stp hs ((i : Int) + 1)))
def callL (hs ms : List Int) : List Int := callF hs ms hs.length
theorem callF_len : ∀ i, (callF hs ms i).length = hs.length
  | 0 => List.length_replicate
  | i + 1 => by
    show ((callF hs ms i).set _ _).length = _
    rw [List.length_set, callF_len i]
theorem callF_at (o : Ord hs.length ms) : ∀ (i : Nat), i ≤ hs.length → ∀ c, 1 ≤ c → c ≤ (i : Int) → stp (callF hs ms i) (stp ms c) = stp ms (stp hs c)
  | 0, _, c, c0, c1 => by omega
  | i + 1, hi, c, c0, c1 => by
    have w := o.at (c := (i : Int) + 1) (by omega) (by omega)
    have wc := o.at (c := c) c0 (by omega)
    show stp ((callF hs ms i).set _ _) _ = _
    rw [stp_set w.2.1 (by rw [callF_len]; exact w.2.2) (by omega)]
    by_cases e : c = (i : Int) + 1
    · rw [if_pos (by rw [e]), e]
    · rw [if_neg (fun z => e (o.inj (by omega) (by omega) (by omega) (by omega) z))]
      exact callF_at o i (by omega) c c0 (by omega)
theorem callL_len : (callL hs ms).length = hs.length := callF_len _
theorem callL_at (o : Ord hs.length ms) (c0 : 0 ≤ c) (c1 : c ≤ hs.length) : stp (callL hs ms) (stp ms c) = stp ms (stp hs c) := by
  by_cases z : c = 0
  · rw [z, stp_zero, stp_zero, stp_zero, stp_zero]
  · exact callF_at o _ (Nat.le_refl _) c (by omega) c1
theorem up_call (t : IsTree hs) (o : Ord hs.length ms) : ∀ (k : Nat) (c : Int), 0 ≤ c → c ≤ hs.length → up (callL hs ms) k (stp ms c) = stp ms (up hs k c)
  | 0, c, _, _ => rfl
  | k + 1, c, c0, c1 => by
    show up _ k (stp _ _) = stp ms (up hs k (stp hs c))
    rw [callL_at o c0 c1]
    have si := stp_in t.2.2.1 c
    exact up_call t o k _ si.1 si.2
theorem IsTree.call (t : IsTree hs) (o : Ord hs.length ms) : IsTree (callL hs ms) := by
  refine tree_of (by rw [callL_len]; exact t.1) (by rw [callL_len]; exact t.2.1) (fun c c0 c1 => ?_) (fun c c0 c1 => ?_) (fun c c0 c1 => ?_)
  all_goals
    rw [callL_len] at c1
    obtain ⟨d, d0, d1, rfl⟩ := o.sur c0 c1
    have si := stp_in t.2.2.1 d
  · rw [callL_at o (by omega) d1, callL_len]
    by_cases z : stp hs d = 0
    · rw [z, stp_zero]; omega
    · have := (o.at (c := stp hs d) (by omega) si.2).2
      omega
  · rw [callL_at o (by omega) d1]
    intro e
    exact t.ne d0 d1 (o.inj si.1 si.2 (by omega) d1 e)
  · refine ⟨hs.length, ?_⟩
    rw [up_call t o _ _ (by omega) d1, t.up0 (by omega) d1, stp_zero]
end

/-! ### tellings -/
section
variable {hs ks ms : List Int} {c p h : Int}
theorem wy_nodup (t : IsTree hs) : ∀ (d : Nat) (c : Int), (wy hs c).length = d → 0 ≤ c → c ≤ hs.length → (wy hs c).Nodup
  | 0, c, e, _, _ => by rw [List.length_eq_zero_iff.mp e]; exact List.nodup_nil
  | d + 1, c, e, c0, c1 => by
    have nz : c ≠ 0 := fun z => by rw [z, wy_zero] at e; cases e
    have ds := dep_stp t (h := c) (by omega) c1
    have si := stp_in t.2.2.1 c
    rw [wy_cons t (by omega) c1]
    refine List.nodup_cons.mpr ⟨fun m => ?_, wy_nodup t d _ (by omega) si.1 si.2⟩
    have := (dep_mem t _ _ rfl si.1 si.2 _ m).1
    omega
/-- layer by layer beneath a place -/
def layer (hs : List Int) (p : Int) : Nat → List Int
  | 0 => [p]
  | k + 1 => (layer hs p k).flatMap (hang hs)
theorem mem_layer (t : IsTree hs) : ∀ (k : Nat) (c : Int), c ∈ layer hs p (k + 1) ↔ (1 ≤ c ∧ c ≤ hs.length) ∧ (wy hs c)[k]? = some p
  | 0, c => by
    show c ∈ [p].flatMap (hang hs) ↔ _
    rw [List.flatMap_cons, List.flatMap_nil, List.append_nil, mem_hang]
    refine and_congr_right fun b => ?_
    rw [wy_cons t b.1 b.2]
    show _ ↔ some (stp hs c) = some p
    rw [Option.some_inj]
  | k + 1, c => by
    show c ∈ (layer hs p (k + 1)).flatMap (hang hs) ↔ _
    rw [List.mem_flatMap]
    constructor
    · rintro ⟨x, hx, hc⟩
      have m := mem_hang.mp hc
      refine ⟨m.1, ?_⟩
      rw [wy_cons t m.1.1 m.1.2, m.2]
      exact ((mem_layer t k x).mp hx).2
    · rintro ⟨b, e⟩
      rw [wy_cons t b.1 b.2] at e
      have e' : (wy hs (stp hs c))[k]? = some p := e
      have si := stp_in t.2.2.1 c
      have nz : stp hs c ≠ 0 := fun z => by rw [z, wy_zero] at e'; cases e'
      exact ⟨stp hs c, (mem_layer t k _).mpr ⟨⟨by omega, si.2⟩, e'⟩, mem_hang.mpr ⟨b, rfl⟩⟩
theorem layer_nodup : ∀ k, (layer hs p k).Nodup
  | 0 => List.nodup_cons.mpr ⟨List.not_mem_nil, List.nodup_nil⟩
  | k + 1 => by
    show ((layer hs p k).flatMap (hang hs)).Nodup
    refine List.pairwise_flatMap.mpr ⟨fun x _ => hang_nodup, (layer_nodup k).imp fun {a b} ne => ?_⟩
    intro x hx y hy e
    subst e
    exact ne ((mem_hang.mp hx).2.symm.trans (mem_hang.mp hy).2)
/-- what is found in s steps -/
def found (hs : List Int) (p : Int) : Nat → List Int
  | 0 => []
  | s + 1 => found hs p s ++ layer hs p (s + 1)
theorem mem_found (t : IsTree hs) : ∀ (s : Nat) (c : Int), c ∈ found hs p s ↔ (1 ≤ c ∧ c ≤ hs.length) ∧ p ∈ (wy hs c).take s
  | 0, c => by
    rw [List.take_zero]
    constructor
    · intro h
      cases h
    · rintro ⟨_, h⟩
      cases h
  | s + 1, c => by
    show c ∈ found hs p s ++ layer hs p (s + 1) ↔ _
    rw [List.mem_append, mem_found t s, mem_layer t s, List.take_succ, List.mem_append]
    constructor
    · rintro (⟨b, m⟩ | ⟨b, m⟩)
      · exact ⟨b, .inl m⟩
      · exact ⟨b, .inr (by rw [m]; exact List.mem_cons_self)⟩
    · rintro ⟨b, m | m⟩
      · exact .inl ⟨b, m⟩
      · refine .inr ⟨b, ?_⟩
        cases e : (wy hs c)[s]? with
        | none => rw [e] at m; cases m
        | some x =>
          rw [e] at m
          rw [List.mem_singleton.mp m]
theorem found_nodup (t : IsTree hs) : ∀ s, (found hs p s).Nodup
  | 0 => List.nodup_nil
  | s + 1 => by
    refine List.nodup_append.mpr ⟨found_nodup t s, layer_nodup _, fun a ha b hb e => ?_⟩
    subst e
    have m1 := (mem_found t s a).mp ha
    have m2 := (mem_layer t s a).mp hb
    obtain ⟨i, hi⟩ := List.mem_iff_getElem?.mp m1.2
    have hl : i < s := by
      have := (List.getElem?_eq_some_iff.mp hi).1
      rw [List.length_take] at this
      omega
    rw [List.getElem?_take_of_lt hl] at hi
    have nd := wy_nodup t _ a rfl (by omega) m2.1.2
    have := (List.getElem?_inj (List.getElem?_eq_some_iff.mp hi).1 nd).mp (hi.trans m2.2.symm)
    omega
/-- the blocks within s steps beneath p, ascending -/
def tieN (hs : List Int) (p : Int) (s : Nat) (i : Nat) : List Int := (blocks i).filter fun c => decide (p ∈ (wy hs c).take s)
def tie (hs : List Int) (p : Int) (s : Nat) : List Int := tieN hs p s hs.length
theorem mem_tie {s : Nat} : c ∈ tie hs p s ↔ (1 ≤ c ∧ c ≤ hs.length) ∧ p ∈ (wy hs c).take s := by
  unfold tie tieN
  rw [List.mem_filter, blocks_mem, decide_eq_true_eq]
theorem tie_nodup {s : Nat} : (tie hs p s).Nodup := (blocks_nodup _).filter _
theorem tie_sorted {s : Nat} : (tie hs p s).Pairwise (· < ·) := (blocks_sorted _).filter _
theorem found_tie (t : IsTree hs) (s : Nat) : (found hs p s).Perm (tie hs p s) :=
  (List.perm_ext_iff_of_nodup (found_nodup t s) tie_nodup).mpr fun c => by rw [mem_found t, mem_tie]
theorem tie_of (t : IsTree hs) {s : Nat} {S : List Int} (pm : S.Perm (found hs p s)) (so : S.Pairwise (· ≤ ·)) : S = tie hs p s :=
  List.Perm.eq_of_pairwise (le := (· ≤ ·)) (fun a b _ _ h1 h2 => Int.le_antisymm h1 h2) so (tie_sorted.imp fun h => Int.le_of_lt h) (pm.trans (found_tie t s))
/-- ties: blocks with their places -/
def ties (hs : List Int) (p : Int) (s : Nat) : List (Int × Int) := (tie hs p s).map fun c => (c, stp hs c)
/-- what a place tells -/
def tell (hs : List Int) (v w : Nat) (p : Int) : List Int × List (Int × Int) := ((wy hs p).take v, ties hs p w)
end

section
variable {hs ks ms : List Int} {b c p h : Int}
/-! ### places that tell otherwise -/
def places (n : Nat) : List Int := (List.range n).map fun (k : Nat) => (k : Int)
def unlN (hs ks : List Int) (v w : Nat) (i : Nat) : List Int := (places i).filter fun p => decide (tell hs v w p ≠ tell ks v w p)
end

/-! two unlike trees whose heads tell alike are unlike at so many places at least -/
section
variable {hs ks : List Int} {b c p : Int} {v w : Nat}
theorem least {Q : Int → Prop} (f : Int → Nat) : ∀ (n : Nat) (b : Int), Q b → f b ≤ n → ∃ b, Q b ∧ ∀ c, Q c → f b ≤ f c
  | 0, b, h, e => ⟨b, h, fun c _ => by omega⟩
  | n + 1, b, h, e => by
    by_cases z : ∃ c, Q c ∧ f c ≤ n
    · obtain ⟨c, hc, ec⟩ := z
      exact least f n c hc ec
    · refine ⟨b, h, fun c hc => ?_⟩
      have : ¬ f c ≤ n := fun q => z ⟨c, hc, q⟩
      omega
end

/-! the two trees of twins, of any size: a row of w blocks, two brothers beneath it, the rest at the head -/
section
variable {hs ks : List Int} {b c p : Int} {v w : Nat}
/-- a row in which each block hangs under a lower place is a tree -/
theorem tree_low (l1 : 1 ≤ hs.length) (l2 : hs.length ≤ 40) (lo : ∀ c, 1 ≤ c → c ≤ (hs.length : Int) → 0 ≤ stp hs c ∧ stp hs c < c) : IsTree hs := by
  have ld : ∀ (n : Nat) (c : Int), c ≤ n → 0 ≤ c → c ≤ (hs.length : Int) → ∃ k, up hs k c = 0 := by
    intro n
    induction n with
    | zero => exact fun c h h0 h1 => ⟨0, by show c = 0; omega⟩
    | succ n ih =>
      intro c h h0 h1
      by_cases z : c = 0
      · exact ⟨0, z⟩
      · have q := lo c (by omega) h1
        obtain ⟨k, hk⟩ := ih (stp hs c) (by omega) q.1 (by omega)
        exact ⟨k + 1, hk⟩
  refine tree_of l1 l2 (fun c h0 h1 => ?_) (fun c h0 h1 => ?_) fun c h0 h1 => ld c.toNat c (by omega) (by omega) h1
  · have q := lo c h0 h1
    omega
  · have q := lo c h0 h1
    omega
end

/-! ### drawn orders and trees: the mathematics -/
theorem nodup_at {l : List Int} (h : l.Nodup) {i j : Nat} {x : Int} (a : l[i]? = some x) (b : l[j]? = some x) : i = j := by
  obtain ⟨h1, e1⟩ := List.getElem?_eq_some_iff.mp a
  obtain ⟨h2, e2⟩ := List.getElem?_eq_some_iff.mp b
  exact (List.getElem_inj h).mp (e1.trans e2.symm)
theorem cover {n : Nat} {ms : List Int} (lm : ms.length = n) (nd : ms.Nodup) (rg : ∀ m ∈ ms, 1 ≤ m ∧ m ≤ n) {b : Int} (b0 : 1 ≤ b) (b1 : b ≤ n) : ∃ j : Nat, ms[j]? = some b := by
  by_cases hb : b ∈ ms
  · exact List.mem_iff_getElem?.mp hb
  · exfalso
    have nd2 : (b :: ms).Nodup := List.nodup_cons.mpr ⟨hb, nd⟩
    have rg2 : ∀ m ∈ b :: ms, 1 ≤ m ∧ m ≤ n := fun m hm => by
      rcases List.mem_cons.mp hm with e | hm
      · rw [e]; exact ⟨b0, b1⟩
      · exact rg m hm
    have at2 : ∀ k, k ≤ n → ∃ x, (b :: ms)[k]? = some x := fun k hk => ⟨_, List.getElem?_eq_getElem (by rw [List.length_cons]; omega)⟩
    obtain ⟨i, j, hij, hj, g⟩ := pigeon n (fun k => ((b :: ms).getD k 0).toNat - 1) fun k hk => by
      obtain ⟨x, hx⟩ := at2 k hk
      have := rg2 x (List.mem_of_getElem? hx)
      show ((b :: ms).getD k 0).toNat - 1 < n
      rw [List.getD_eq_getElem?_getD, hx]
      show x.toNat - 1 < n
      omega
    obtain ⟨x, hx⟩ := at2 i (by omega)
    obtain ⟨y, hy⟩ := at2 j hj
    have hx' := rg2 x (List.mem_of_getElem? hx)
    have hy' := rg2 y (List.mem_of_getElem? hy)
    have g' : ((b :: ms).getD i 0).toNat - 1 = ((b :: ms).getD j 0).toNat - 1 := g
    rw [List.getD_eq_getElem?_getD, hx, List.getD_eq_getElem?_getD, hy] at g'
    have g2 : x.toNat - 1 = y.toNat - 1 := g'
    have e : x = y := by omega
    rw [e] at hx
    exact absurd (nodup_at nd2 hx hy) (by omega)
theorem tree_of_order {n : Nat} {ms fs : List Int} (lm : ms.length = n) (nd : ms.Nodup) (rg : ∀ m ∈ ms, 1 ≤ m ∧ m ≤ n) (lf : fs.length = n) (h1 : 1 ≤ n) (h40 : n ≤ 40) (pl : ∀ h ∈ fs, 0 ≤ h ∧ h ≤ n)
    (inv : ∀ (j : Nat) (x : Int), 1 ≤ j → j ≤ n → (0 :: ms)[j]? = some x → ∃ (a : Nat) (y : Int), a < j ∧ (0 :: ms)[a]? = some y ∧ fs[(x - 1).toNat]? = some y) : IsTree fs := by
  have nd0 : (0 :: ms).Nodup := List.nodup_cons.mpr ⟨fun h => absurd (rg 0 h).1 (by decide), nd⟩
  have block : ∀ k : Nat, k < n → ∃ j : Nat, 1 ≤ j ∧ j ≤ n ∧ (0 :: ms)[j]? = some ((k : Int) + 1) := fun k hk => by
    obtain ⟨j, hj⟩ := cover lm nd rg (b := (k : Int) + 1) (by omega) (by omega)
    refine ⟨j + 1, by omega, ?_, by rw [List.getElem?_cons_succ]; exact hj⟩
    have := (List.getElem?_eq_some_iff.mp hj).1
    omega
  have home : ∀ (m j : Nat) (x : Int), j ≤ m → j ≤ n → (0 :: ms)[j]? = some x → ∃ k, k ≤ j ∧ up fs k x = 0 := by
    intro m
    induction m with
    | zero =>
      intro j x hj _ hx
      have e : j = 0 := by omega
      subst e
      exact ⟨0, Nat.le_refl _, (Option.some.inj hx).symm⟩
    | succ m ih =>
      intro j x hj hn hx
      by_cases j0 : j = 0
      · subst j0
        exact ⟨0, Nat.le_refl _, (Option.some.inj hx).symm⟩
      · obtain ⟨a, y, ha, hy, hf⟩ := inv j x (by omega) hn hx
        obtain ⟨k, hk, hu⟩ := ih a y (by omega) (by omega) hy
        have xp : 1 ≤ x := by
          obtain ⟨i, e⟩ : ∃ i, j = i + 1 := ⟨j - 1, by omega⟩
          rw [e, List.getElem?_cons_succ] at hx
          exact (rg x (List.mem_of_getElem? hx)).1
        refine ⟨k + 1, by omega, ?_⟩
        show up fs k (stp fs x) = 0
        have e : stp fs x = y := by
          unfold stp
          rw [if_neg (by omega), List.getD_eq_getElem?_getD, show x.toNat - 1 = (x - 1).toNat by omega, hf]
          rfl
        rw [e]
        exact hu
  refine ⟨by omega, by omega, fun h hh => by rw [lf]; exact pl h hh, fun k h hk => ?_, fun b hb => ?_⟩
  · have hk' : k < n := by rw [← lf]; exact (List.getElem?_eq_some_iff.mp hk).1
    obtain ⟨j, hj1, hjn, hj⟩ := block k hk'
    obtain ⟨a, y, ha, hy, hf⟩ := inv j _ hj1 hjn hj
    rw [show (((k : Int) + 1) - 1).toNat = k by omega, hk] at hf
    have e := Option.some.inj hf
    intro z
    rw [← e, z] at hy
    exact absurd (nodup_at nd0 hy hj) (by omega)
  · obtain ⟨j, hj1, hjn, hj⟩ := block b (by omega)
    obtain ⟨k, hk, hu⟩ := home j j _ (Nat.le_refl _) hjn hj
    exact leads_true (k := k) (by omega) hu
theorem perm_erase : ∀ (l : List Int) (i : Nat) (h : i < l.length), (l[i] :: l.eraseIdx i).Perm l
  | [], _, h => absurd h (Nat.not_lt_zero _)
  | _ :: _, 0, _ => List.Perm.refl _
  | a :: l, i + 1, h => by
    have ih := perm_erase l i (Nat.lt_of_succ_lt_succ h)
    show (l[i]'(Nat.lt_of_succ_lt_succ h) :: a :: l.eraseIdx i).Perm (a :: l)
    exact (List.Perm.swap _ _ _).trans (List.Perm.cons a ih)
/-! twins of any size -/
def twA (m w : Nat) : List Int := if w = 0 then List.replicate m 0 else ((List.range w).map fun (k : Nat) => (k : Int)) ++ [((w : Int) - 1), (w : Int)] ++ List.replicate (m - w - 2) 0
def twB (m w : Nat) : List Int := (twA m w).set (((w : Int) + 2).toNat - 1) ((w : Int) + 1)
section
variable {m w v : Nat}
theorem twA_len (h : w + 2 ≤ m) : (twA m w).length = m := by
  unfold twA
  split
  · exact List.length_replicate
  · simp only [List.length_append, List.length_map, List.length_range, List.length_cons, List.length_nil, List.length_replicate]
    omega
theorem twB_len (h : w + 2 ≤ m) : (twB m w).length = m := by unfold twB; rw [List.length_set, twA_len h]
theorem twA_at (h : w + 2 ≤ m) {c : Int} (c0 : 1 ≤ c) (c1 : c ≤ m) : stp (twA m w) c = if w = 0 then 0 else if c ≤ w then c - 1 else if c = w + 1 then (w : Int) - 1 else if c = w + 2 then (w : Int) else 0 := by
  have e : (twA m w)[c.toNat - 1]? = some (if w = 0 then 0 else if c ≤ w then c - 1 else if c = w + 1 then (w : Int) - 1 else if c = w + 2 then (w : Int) else 0) := by
    unfold twA
    split
    · rw [List.getElem?_replicate, if_pos (by omega)]
    · by_cases h1 : c ≤ w
      · rw [List.append_assoc, List.getElem?_append_left (by rw [List.length_map, List.length_range]; omega), List.getElem?_map, List.getElem?_range (by omega), if_pos h1]
        show some ((c.toNat - 1 : Nat) : Int) = some (c - 1)
        congr 1
        omega
      · by_cases h2 : c = w + 1
        · subst h2
          rw [List.append_assoc, List.getElem?_append_right (by rw [List.length_map, List.length_range]; omega), List.length_map, List.length_range, show ((w : Int) + 1).toNat - 1 - w = 0 by omega, if_neg h1, if_pos rfl]
          rfl
        · by_cases h3 : c = w + 2
          · subst h3
            rw [List.append_assoc, List.getElem?_append_right (by rw [List.length_map, List.length_range]; omega), List.length_map, List.length_range, show ((w : Int) + 2).toNat - 1 - w = 1 by omega, if_neg h1, if_neg h2, if_pos rfl]
            rfl
          · rw [if_neg h1, if_neg h2, if_neg h3, List.getElem?_append_right (by simp only [List.length_append, List.length_map, List.length_range, List.length_cons, List.length_nil]; omega), List.getElem?_replicate, if_pos (by simp only [List.length_append, List.length_map, List.length_range, List.length_cons, List.length_nil]; omega)]
  have e2 := stp_get (hs := twA m w) c0 (by rw [twA_len h]; exact c1)
  rw [e] at e2
  exact (Option.some.inj e2).symm
theorem twA_low (h : w + 2 ≤ m) {c : Int} (c0 : 1 ≤ c) (c1 : c ≤ m) : 0 ≤ stp (twA m w) c ∧ stp (twA m w) c < c := by
  rw [twA_at h c0 c1]
  split
  · omega
  · split
    · omega
    · split
      · omega
      · split <;> omega
theorem twA_tree (h : w + 2 ≤ m) (h40 : m ≤ 40) : IsTree (twA m w) := tree_low (by rw [twA_len h]; omega) (by rw [twA_len h]; exact h40) fun c c0 c1 => twA_low h c0 (by rw [twA_len h] at c1; exact c1)
theorem twB_at (h : w + 2 ≤ m) {c : Int} (c0 : 0 ≤ c) : stp (twB m w) c = if c = w + 2 then (w : Int) + 1 else stp (twA m w) c := stp_set (b := (w : Int) + 2) (by omega) (by rw [twA_len h]; omega) c0
theorem twB_tree (h : w + 2 ≤ m) (h40 : m ≤ 40) : IsTree (twB m w) := tree_low (by rw [twB_len h]; omega) (by rw [twB_len h]; exact h40) fun c c0 c1 => by
  rw [twB_len h] at c1
  rw [twB_at h (by omega)]
  have := twA_low h c0 c1
  split <;> omega
end

/-! ### pairs in a heap -/
inductive Prs (H : Hp) : List V → List (Int × Int) → Prop where
  | nil : Prs H [] []
  | cons {t : Addr} {a b : Int} {xs : List V} {ps : List (Int × Int)} (h : H t = some (.tup [.int a, .int b])) (r : Prs H xs ps) : Prs H (.ref t :: xs) ((a, b) :: ps)
theorem Prs.same {H H' : Hp} {xs : List V} {ps : List (Int × Int)} (h : Prs H xs ps) (s : Same H H') : Prs H' xs ps := by
  induction h with
  | nil => exact .nil
  | cons h _ ih => exact .cons (s _ _ h) ih
theorem Prs.app {H : Hp} {xs ys : List V} {ps qs : List (Int × Int)} (h : Prs H xs ps) (k : Prs H ys qs) : Prs H (xs ++ ys) (ps ++ qs) := by
  induction h with
  | nil => exact k
  | cons h _ ih => exact .cons h ih
theorem Prs.len {H : Hp} {xs : List V} {ps : List (Int × Int)} (h : Prs H xs ps) : xs.length = ps.length := by
  induction h with
  | nil => rfl
  | cons _ _ ih => rw [List.length_cons, List.length_cons, ih]
theorem Prs.get {H : Hp} {xs : List V} {ps : List (Int × Int)} (h : Prs H xs ps) : ∀ {i : Nat} {x : V}, xs[i]? = some x → ∃ t a b, x = .ref t ∧ H t = some (.tup [.int a, .int b]) ∧ ps[i]? = some (a, b) := by
  induction h with
  | nil => intro i x e; cases e
  | cons h _ ih =>
    intro i x e
    cases i with
    | zero => cases e; exact ⟨_, _, _, rfl, h, rfl⟩
    | succ i => exact ih e
def pairOf (H : Hp) (x : V) : Int × Int := match x with
  | .ref t => (match H t with
    | some (.tup [.int a, .int b]) => (a, b)
    | _ => (0, 0))
  | _ => (0, 0)
theorem pairOf_ref {H : Hp} {t : Addr} {a b : Int} (h : H t = some (.tup [.int a, .int b])) : pairOf H (.ref t) = (a, b) := by
  show (match H t with
    | some (.tup [.int a, .int b]) => (a, b)
    | _ => (0, 0)) = _
  rw [h]
theorem Prs.map {H : Hp} {xs : List V} {ps : List (Int × Int)} (h : Prs H xs ps) : xs.map (pairOf H) = ps := by
  induction h with
  | nil => rfl
  | cons h _ ih => rw [List.map_cons, pairOf_ref h, ih]
theorem Prs.mem {H : Hp} {xs : List V} {ps : List (Int × Int)} (h : Prs H xs ps) : ∀ x ∈ xs, ∃ t, x = .ref t ∧ H t = some (.tup [.int (pairOf H x).1, .int (pairOf H x).2]) := by
  induction h with
  | nil => intro x hx; cases hx
  | cons h _ ih =>
    intro x hx
    rcases List.mem_cons.mp hx with e | hx
    · rw [e, pairOf_ref h]
      exact ⟨_, rfl, h⟩
    · exact ih x hx
/-! ### tellings in a heap -/
def TellAt (H : Hp) (x : V) (tl : List Int × List (Int × Int)) : Prop := ∃ (t a b : Addr) (xs : List V), x = .ref t ∧ H t = some (.tup [.ref a, .ref b]) ∧ H a = some (.tup (tl.1.map V.int)) ∧ H b = some (.tup xs) ∧ Prs H xs tl.2 ∧ tl.1.length ≤ 1000 ∧ tl.2.length ≤ 1000
theorem TellAt.same {H H' : Hp} {x : V} {tl : List Int × List (Int × Int)} (h : TellAt H x tl) (s : Same H H') : TellAt H' x tl := by
  obtain ⟨t, a, b, xs, e, h1, h2, h3, h4, h5⟩ := h
  exact ⟨t, a, b, xs, e, s _ _ h1, s _ _ h2, s _ _ h3, h4.same s, h5⟩
def pairD (p : Int × Int) : PyData := .tuple [.int p.1, .int p.2]
def tellD (tl : List Int × List (Int × Int)) : PyData := .tuple [.tuple (tl.1.map PyData.int), .tuple (tl.2.map pairD)]
theorem eqvAll_pairs : ∀ ps qs : List (Int × Int), PyData.eqvAll (ps.map pairD) (qs.map pairD) = decide (ps = qs)
  | [], [] => rfl
  | [], _ :: _ => rfl
  | _ :: _, [] => rfl
  | (a, b) :: r, (c, d) :: s => by
    show ((a == c && (b == d && true)) && PyData.eqvAll (r.map pairD) (s.map pairD)) = _
    rw [eqvAll_pairs r s, Bool.eq_iff_iff]
    simp [and_assoc]
theorem layAll_pairs : ∀ ps : List (Int × Int), PyData.canLayAll0 (ps.map pairD) = true
  | [] => rfl
  | _ :: r => by
    show (true && PyData.canLayAll0 (r.map pairD)) = true
    rw [layAll_pairs r]
    rfl
theorem depthAll_pairs : ∀ ps : List (Int × Int), PyData.depthAll (ps.map pairD) ≤ 1
  | [] => Nat.zero_le _
  | _ :: r => by
    show max 1 (PyData.depthAll (r.map pairD)) ≤ 1
    have := depthAll_pairs r
    omega

structure Cl where
  (Tree NoBlock NoPlace Beneath NoOrder NoView OtherBlocks NoNumber VoteError : Addr)
structure Fa (K : PySem.W.Frag) (c : Cl) : Prop where
  cls : ClsOk K [c.Tree]
  f_hung : ∀ C ∈ [c.Tree], Cls K C ∧ NoAttr K C "hung"
  w5 : W5 K [c.NoBlock, c.NoPlace, c.Beneath, c.NoOrder, c.NoView, c.OtherBlocks, c.NoNumber] c.VoteError
def u_is_integer (K : PySem.W.Frag) (c : Cl) : TS :=
  (tRet (tAndV (tCB (xIsiG K) (tCons (tVar 0) (tCons (tC (.ty "int")) tNil))) (tNotV (tCB (xIsiG K) (tCons (tVar 0) (tCons (tC (.ty "bool")) tNil))))))
def B_is_integer (c : Cl) : DTS :=
  (dRet (dAndV (dCB (dIsi [c.Tree]) (dConsA (dVar 0) (dLastA (dC (.ty "int"))))) (dNotV (dCB (dIsi [c.Tree]) (dConsA (dVar 0) (dLastA (dC (.ty "bool"))))))))
def D_is_integer (c : Cl) : Fn := dFn (vals 1) 1 (B_is_integer c)
theorem D_is_integer_in {c : Cl} {o0 : O} {P : O → List O → Prop} {PE : DExc → List O → Prop} (h : B_is_integer c ⟨fun env => P (.fr .non) (outs [false] env), fun o env => P o (outs [false] env), fun _ => False, fun _ => False, fun e env => PE e (outs [false] env)⟩ [S.ow o0]) : D_is_integer c [o0] P PE := ⟨rfl, h⟩
theorem D_is_integer_n {c : Cl} : ∀ os P PE, D_is_integer c os P PE → os.length = 1 := fun _ _ _ h => h.1
theorem sim_is_integer {K : PySem.W.Frag} {c : Cl} (fa : Fa K c) (E : XK) : SimS (fun cls dd _ H => E cls dd H) (u_is_integer K c) (B_is_integer c) :=
  (sim_ret (sim_andV (sim_cb (sim_isi fa.cls) (sim_consA (SimP.e sim_var) (sim_lastA (SimP.e sim_ty)))) (sim_notV (sim_cb (sim_isi fa.cls) (sim_consA (SimP.e sim_var) (sim_lastA (SimP.e sim_ty)))))))
def u_is_within (K : PySem.W.Frag) (c : Cl) : TS :=
  (tRet (tAndV (tCall (spD (vals 1) (D_is_integer c)) [] E0 (tCons (tVar 0) tNil)) (tChain xLe xLe (tVar 1) (tVar 0) (tVar 2))))
def B_is_within (c : Cl) : DTS :=
  (dRet (dAndV (dCall false (D_is_integer c) (dConsV (dVar 0) dNilV)) (dChain dLe dLe (dVar 1) (dVar 0) (dVar 2))))
def D_is_within (c : Cl) : Fn := dFn (vals 3) 3 (B_is_within c)
theorem D_is_within_in {c : Cl} {o0 o1 o2 : O} {P : O → List O → Prop} {PE : DExc → List O → Prop} (h : B_is_within c ⟨fun env => P (.fr .non) (outs [false, false, false] env), fun o env => P o (outs [false, false, false] env), fun _ => False, fun _ => False, fun e env => PE e (outs [false, false, false] env)⟩ [S.ow o0, S.ow o1, S.ow o2]) : D_is_within c [o0, o1, o2] P PE := ⟨rfl, h⟩
theorem D_is_within_n {c : Cl} : ∀ os P PE, D_is_within c os P PE → os.length = 3 := fun _ _ _ h => h.1
theorem sim_is_within {K : PySem.W.Frag} {c : Cl} (fa : Fa K c) (E : XK) : SimS (fun cls dd _ H => E cls dd H) (u_is_within K c) (B_is_within c) :=
  (sim_ret (sim_andV (sim_call0 D_is_integer_n (sim_consV (SimP.e sim_var) sim_nilV)) (sim_chain simr_le simr_le (SimP.e sim_var) (SimP.e sim_var) (SimP.e sim_var))))
def u_is_pair (K : PySem.W.Frag) (c : Cl) : TS :=
  (tRet (tAndV (tCB (xIsiG K) (tCons (tVar 0) (tCons (tC (.ty "tuple")) tNil))) (tOp (rEqD K) (tCB (xLenG K) (tCons (tVar 0) tNil)) (tC (.int 2)))))
def B_is_pair (c : Cl) : DTS :=
  (dRet (dAndV (dCB (dIsi [c.Tree]) (dConsA (dVar 0) (dLastA (dC (.ty "tuple"))))) (dOpP dEq (dCB dLen (dLastA (dVar 0))) (dC (.int 2)))))
def D_is_pair (c : Cl) : Fn := dFn (vals 1) 1 (B_is_pair c)
theorem D_is_pair_in {c : Cl} {o0 : O} {P : O → List O → Prop} {PE : DExc → List O → Prop} (h : B_is_pair c ⟨fun env => P (.fr .non) (outs [false] env), fun o env => P o (outs [false] env), fun _ => False, fun _ => False, fun e env => PE e (outs [false] env)⟩ [S.ow o0]) : D_is_pair c [o0] P PE := ⟨rfl, h⟩
theorem D_is_pair_n {c : Cl} : ∀ os P PE, D_is_pair c os P PE → os.length = 1 := fun _ _ _ h => h.1
theorem sim_is_pair {K : PySem.W.Frag} {c : Cl} (fa : Fa K c) (E : XK) : SimS (fun cls dd _ H => E cls dd H) (u_is_pair K c) (B_is_pair c) :=
  (sim_ret (sim_andV (sim_cb (sim_isi fa.cls) (sim_consA (SimP.e sim_var) (sim_lastA (SimP.e sim_ty)))) (SimP.e (simp_op simr_eq (simp_cb1 sim_len sim_var) sim_int))))
def u_is_view (K : PySem.W.Frag) (c : Cl) : TS :=
  (tRet (tAndV (tCall (spD (vals 1) (D_is_pair c)) [] E0 (tCons (tVar 0) tNil)) (tCB (rAll K) (tCons (tLc (iSeq K (tVar 0)) (gName 1) tYes (tCall (spD (vals 3) (D_is_within c)) [] E0 (tCons (tVar 1) (tCons (tC (.int 0)) (tCons (tC (.int 4)) tNil)))) [1]) tNil))))
def B_is_view (c : Cl) : DTS :=
  (dRet (dAndV (dCall false (D_is_pair c) (dConsV (dVar 0) dNilV)) (dCB dAll (dLastA (dLc (dIter (dVar 0)) (dName 1) dYes (dCall false (D_is_within c) (dConsV (dVar 1) (dConsV (dC (.int 0)) (dConsV (dC (.int 4)) dNilV)))) [1])))))
def D_is_view (c : Cl) : Fn := dFn (vals 1) 2 (B_is_view c)
theorem D_is_view_in {c : Cl} {o0 : O} {P : O → List O → Prop} {PE : DExc → List O → Prop} (h : B_is_view c ⟨fun env => P (.fr .non) (outs [false] env), fun o env => P o (outs [false] env), fun _ => False, fun _ => False, fun e env => PE e (outs [false] env)⟩ [S.ow o0, S.un]) : D_is_view c [o0] P PE := ⟨rfl, h⟩
theorem D_is_view_n {c : Cl} : ∀ os P PE, D_is_view c os P PE → os.length = 1 := fun _ _ _ h => h.1
theorem sim_is_view {K : PySem.W.Frag} {c : Cl} (fa : Fa K c) (E : XK) : SimS (fun cls dd _ H => E cls dd H) (u_is_view K c) (B_is_view c) :=
  (sim_ret (sim_andV (sim_call0 D_is_pair_n (sim_consV (SimP.e sim_var) sim_nilV)) (sim_cb sim_all (sim_lastA (sim_lc (sim_seq_it (SimP.e sim_var)) sim_name sim_yes (sim_call0 D_is_within_n (sim_consV (SimP.e sim_var) (sim_consV (SimP.e sim_int) (sim_consV (SimP.e sim_int) sim_nilV)))) (by decide))))))
def u_check_block (K : PySem.W.Frag) (c : Cl) (E : XK) : TS :=
  (tIfS (tNot (tB (tCall (spD (vals 3) (D_is_within c)) [] E0 (tCons (tVar 1) (tCons (tC (.int 1)) (tCons (tVar 0) tNil)))))) (tRaise0 (.ref c.NoBlock) (wE E)) tNext)
def B_check_block (c : Cl) : DTS :=
  (dIfS (dNot (dTest (dCall false (D_is_within c) (dConsV (dVar 1) (dConsV (dC (.int 1)) (dConsV (dVar 0) dNilV)))))) (dRaise0 (.ref c.NoBlock)) (dKill [0, 1] dNext))
def D_check_block (c : Cl) : Fn := dFn (vals 2) 2 (B_check_block c)
theorem D_check_block_in {c : Cl} {o0 o1 : O} {P : O → List O → Prop} {PE : DExc → List O → Prop} (h : B_check_block c ⟨fun env => P (.fr .non) (outs [false, false] env), fun o env => P o (outs [false, false] env), fun _ => False, fun _ => False, fun e env => PE e (outs [false, false] env)⟩ [S.ow o0, S.ow o1]) : D_check_block c [o0, o1] P PE := ⟨rfl, h⟩
theorem D_check_block_n {c : Cl} : ∀ os P PE, D_check_block c os P PE → os.length = 2 := fun _ _ _ h => h.1
theorem sim_check_block {K : PySem.W.Frag} {c : Cl} (fa : Fa K c) (E : XK) : SimS (fun cls dd _ H => E cls dd H) (u_check_block K c E) (B_check_block c) :=
  (sim_ifs (sim_not (sim_b (sim_call0 D_is_within_n (sim_consV (SimP.e sim_var) (sim_consV (SimP.e sim_int) (sim_consV (SimP.e sim_var) sim_nilV)))))) sim_raise0 (sim_kill sim_next))
def u_check_place (K : PySem.W.Frag) (c : Cl) (E : XK) : TS :=
  (tIfS (tNot (tB (tCall (spD (vals 3) (D_is_within c)) [] E0 (tCons (tVar 1) (tCons (tC (.int 0)) (tCons (tVar 0) tNil)))))) (tRaise0 (.ref c.NoPlace) (wE E)) tNext)
def B_check_place (c : Cl) : DTS :=
  (dIfS (dNot (dTest (dCall false (D_is_within c) (dConsV (dVar 1) (dConsV (dC (.int 0)) (dConsV (dVar 0) dNilV)))))) (dRaise0 (.ref c.NoPlace)) (dKill [0, 1] dNext))
def D_check_place (c : Cl) : Fn := dFn (vals 2) 2 (B_check_place c)
theorem D_check_place_in {c : Cl} {o0 o1 : O} {P : O → List O → Prop} {PE : DExc → List O → Prop} (h : B_check_place c ⟨fun env => P (.fr .non) (outs [false, false] env), fun o env => P o (outs [false, false] env), fun _ => False, fun _ => False, fun e env => PE e (outs [false, false] env)⟩ [S.ow o0, S.ow o1]) : D_check_place c [o0, o1] P PE := ⟨rfl, h⟩
theorem D_check_place_n {c : Cl} : ∀ os P PE, D_check_place c os P PE → os.length = 2 := fun _ _ _ h => h.1
theorem sim_check_place {K : PySem.W.Frag} {c : Cl} (fa : Fa K c) (E : XK) : SimS (fun cls dd _ H => E cls dd H) (u_check_place K c E) (B_check_place c) :=
  (sim_ifs (sim_not (sim_b (sim_call0 D_is_within_n (sim_consV (SimP.e sim_var) (sim_consV (SimP.e sim_int) (sim_consV (SimP.e sim_var) sim_nilV)))))) sim_raise0 (sim_kill sim_next))
def u_check_view (K : PySem.W.Frag) (c : Cl) (E : XK) : TS :=
  (tIfS (tNot (tB (tCall (spD (vals 1) (D_is_view c)) [] E0 (tCons (tVar 0) tNil)))) (tRaise0 (.ref c.NoView) (wE E)) tNext)
def B_check_view (c : Cl) : DTS :=
  (dIfS (dNot (dTest (dCall false (D_is_view c) (dConsV (dVar 0) dNilV)))) (dRaise0 (.ref c.NoView)) (dKill [0] dNext))
def D_check_view (c : Cl) : Fn := dFn (vals 1) 1 (B_check_view c)
theorem D_check_view_in {c : Cl} {o0 : O} {P : O → List O → Prop} {PE : DExc → List O → Prop} (h : B_check_view c ⟨fun env => P (.fr .non) (outs [false] env), fun o env => P o (outs [false] env), fun _ => False, fun _ => False, fun e env => PE e (outs [false] env)⟩ [S.ow o0]) : D_check_view c [o0] P PE := ⟨rfl, h⟩
theorem D_check_view_n {c : Cl} : ∀ os P PE, D_check_view c os P PE → os.length = 1 := fun _ _ _ h => h.1
theorem sim_check_view {K : PySem.W.Frag} {c : Cl} (fa : Fa K c) (E : XK) : SimS (fun cls dd _ H => E cls dd H) (u_check_view K c E) (B_check_view c) :=
  (sim_ifs (sim_not (sim_b (sim_call0 D_is_view_n (sim_consV (SimP.e sim_var) sim_nilV)))) sim_raise0 (sim_kill sim_next))
def u_check_number (K : PySem.W.Frag) (c : Cl) (E : XK) : TS :=
  (tIfS (tNot (tB (tCall (spD (vals 3) (D_is_within c)) [] E0 (tCons (tVar 0) (tCons (tVar 1) (tCons (tVar 2) tNil)))))) (tRaise0 (.ref c.NoNumber) (wE E)) tNext)
def B_check_number (c : Cl) : DTS :=
  (dIfS (dNot (dTest (dCall false (D_is_within c) (dConsV (dVar 0) (dConsV (dVar 1) (dConsV (dVar 2) dNilV)))))) (dRaise0 (.ref c.NoNumber)) (dKill [0, 1, 2] dNext))
def D_check_number (c : Cl) : Fn := dFn (vals 3) 3 (B_check_number c)
theorem D_check_number_in {c : Cl} {o0 o1 o2 : O} {P : O → List O → Prop} {PE : DExc → List O → Prop} (h : B_check_number c ⟨fun env => P (.fr .non) (outs [false, false, false] env), fun o env => P o (outs [false, false, false] env), fun _ => False, fun _ => False, fun e env => PE e (outs [false, false, false] env)⟩ [S.ow o0, S.ow o1, S.ow o2]) : D_check_number c [o0, o1, o2] P PE := ⟨rfl, h⟩
theorem D_check_number_n {c : Cl} : ∀ os P PE, D_check_number c os P PE → os.length = 3 := fun _ _ _ h => h.1
theorem sim_check_number {K : PySem.W.Frag} {c : Cl} (fa : Fa K c) (E : XK) : SimS (fun cls dd _ H => E cls dd H) (u_check_number K c E) (B_check_number c) :=
  (sim_ifs (sim_not (sim_b (sim_call0 D_is_within_n (sim_consV (SimP.e sim_var) (sim_consV (SimP.e sim_var) (sim_consV (SimP.e sim_var) sim_nilV)))))) sim_raise0 (sim_kill sim_next))
def u_leads_home (K : PySem.W.Frag) (c : Cl) : TS :=
  (tSeq (tAsg (tVar 1) (gName 2)) (tSeq (tFor (iRng1 (tCons (tOp (xAddG K) (tCB (xLenG K) (tCons (tVar 0) tNil)) (tC (.int 1))) tNil)) (gName 3) (tSeq (tIfS (tTest (tOp (rEqD K) (tVar 2) (tC (.int 0)))) (tRet (tC (.bl true))) tNext) (tAsg (tOp (rIx K) (tVar 0) (tOp xSub (tVar 2) (tC (.int 1)))) (gName 2)))) (tRet (tC (.bl false)))))
def B_leads_home (c : Cl) : DTS :=
  (dSeq (dPost [1] (dAsg (dVar 1) (dName 2))) (dSeq (dPost [0, 2, 3] (dFor (dRng1 (dLastA (dOpP dAdd (dCB dLen (dLastA (dVar 0))) (dC (.int 1))))) (dName 3) (dKill [3] (dSeq (dIfS (dTest (dOpP dEq (dVar 2) (dC (.int 0)))) (dRet (dC (.bl true))) dNext) (dAsg (dIx (dVar 0) (dOpP dSub2 (dVar 2) (dC (.int 1)))) (dName 2)))))) (dRet (dC (.bl false)))))
def D_leads_home (c : Cl) : Fn := dFn (vals 2) 4 (B_leads_home c)
theorem D_leads_home_in {c : Cl} {o0 o1 : O} {P : O → List O → Prop} {PE : DExc → List O → Prop} (h : B_leads_home c ⟨fun env => P (.fr .non) (outs [false, false] env), fun o env => P o (outs [false, false] env), fun _ => False, fun _ => False, fun e env => PE e (outs [false, false] env)⟩ [S.ow o0, S.ow o1, S.un, S.un]) : D_leads_home c [o0, o1] P PE := ⟨rfl, h⟩
theorem D_leads_home_n {c : Cl} : ∀ os P PE, D_leads_home c os P PE → os.length = 2 := fun _ _ _ h => h.1
theorem sim_leads_home {K : PySem.W.Frag} {c : Cl} (fa : Fa K c) (E : XK) : SimS (fun cls dd _ H => E cls dd H) (u_leads_home K c) (B_leads_home c) :=
  (sim_seq (sim_post (sim_asg (SimP.e sim_var) sim_name)) (sim_seq (sim_post (sim_for (sim_rng1 (sim_lastA (SimP.e (simp_op simr_add (simp_cb1 sim_len sim_var) sim_int)))) sim_name (sim_kill (sim_seq (sim_ifs (sim_test (SimP.e (simp_op simr_eq sim_var sim_int))) (sim_ret (SimP.e sim_bl)) sim_next) (sim_asg (SimP.e (simp_ix sim_var (simp_op simr_sub sim_var sim_int))) sim_name))))) (sim_ret (SimP.e sim_bl))))
def u_Tree_init (K : PySem.W.Frag) (c : Cl) : TS :=
  (tSeq (tIfS (tOr (tNot (tB (tCB (xIsiG K) (tCons (tVar 1) (tCons (tC (.ty "tuple")) tNil))))) (tNot (tTest (tChain xLe xLe (tC (.int 1)) (tCB (xLenG K) (tCons (tVar 1) tNil)) (tC (.int 40)))))) tNever tNext) (tSeq (tFor (iRng2 (tCons (tC (.int 1)) (tCons (tOp (xAddG K) (tCB (xLenG K) (tCons (tVar 1) tNil)) (tC (.int 1))) tNil))) (gName 2) (tIfS (tOr (tNot (tB (tCall (spD (vals 3) (D_is_within c)) [] E0 (tCons (tOp (rIx K) (tVar 1) (tOp xSub (tVar 2) (tC (.int 1)))) (tCons (tC (.int 0)) (tCons (tCB (xLenG K) (tCons (tVar 1) tNil)) tNil)))))) (tTest (tOp (rEqD K) (tOp (rIx K) (tVar 1) (tOp xSub (tVar 2) (tC (.int 1)))) (tVar 2)))) tNever tNext)) (tSeq (tFor (iRng2 (tCons (tC (.int 1)) (tCons (tOp (xAddG K) (tCB (xLenG K) (tCons (tVar 1) tNil)) (tC (.int 1))) tNil))) (gName 2) (tIfS (tNot (tB (tCall (spD (vals 2) (D_leads_home c)) [] E0 (tCons (tVar 1) (tCons (tVar 2) tNil))))) tNever tNext)) (sFld K (tVar 0) (tVar 1) "hung"))))
def B_Tree_init (c : Cl) : DTS :=
  (dSeq (dIfS (dOr (dNot (dTest (dCB (dIsi [c.Tree]) (dConsA (dVar 1) (dLastA (dC (.ty "tuple"))))))) (dNot (dTest (dChain dLe dLe (dC (.int 1)) (dCB dLen (dLastA (dVar 1))) (dC (.int 40)))))) dNever dNext) (dSeq (dPost [2] (dFor (dRng2 (dConsA (dC (.int 1)) (dLastA (dOpP dAdd (dCB dLen (dLastA (dVar 1))) (dC (.int 1)))))) (dName 2) (dIfS (dOr (dNot (dTest (dCall false (D_is_within c) (dConsV (dIx (dVar 1) (dOpP dSub2 (dVar 2) (dC (.int 1)))) (dConsV (dC (.int 0)) (dConsV (dCB dLen (dLastA (dVar 1))) dNilV)))))) (dTest (dOpP dEq (dIx (dVar 1) (dOpP dSub2 (dVar 2) (dC (.int 1)))) (dVar 2)))) dNever (dKill [2] dNext)))) (dSeq (dPost [2] (dFor (dRng2 (dConsA (dC (.int 1)) (dLastA (dOpP dAdd (dCB dLen (dLastA (dVar 1))) (dC (.int 1)))))) (dName 2) (dIfS (dNot (dTest (dCall false (D_leads_home c) (dConsV (dVar 1) (dConsV (dVar 2) dNilV))))) dNever (dKill [2] dNext)))) (dPost [1] (dSetF [c.Tree] 0 "hung" (dVar 1))))))
def D_Tree_init (c : Cl) : Fn := dFn (true :: vals 1) 3 (B_Tree_init c)
theorem D_Tree_init_in {c : Cl} {o0 o1 : O} {P : O → List O → Prop} {PE : DExc → List O → Prop} (h : B_Tree_init c ⟨fun env => P (.fr .non) (outs [true, false] env), fun o env => P o (outs [true, false] env), fun _ => False, fun _ => False, fun e env => PE e (outs [true, false] env)⟩ [S.bo o0, S.ow o1, S.un]) : D_Tree_init c [o0, o1] P PE := ⟨rfl, h⟩
theorem D_Tree_init_n {c : Cl} : ∀ os P PE, D_Tree_init c os P PE → os.length = 1 + 1 := fun _ _ _ h => h.1
theorem sim_Tree_init {K : PySem.W.Frag} {c : Cl} (fa : Fa K c) (E : XK) : SimS (fun cls dd _ H => E cls dd H) (u_Tree_init K c) (B_Tree_init c) :=
  (sim_seq (sim_ifs (sim_or (sim_not (sim_b (sim_cb (sim_isi fa.cls) (sim_consA (SimP.e sim_var) (sim_lastA (SimP.e sim_ty)))))) (sim_not (sim_test (sim_chain simr_le simr_le (SimP.e sim_int) (SimP.e (simp_cb1 sim_len sim_var)) (SimP.e sim_int))))) sim_never sim_next) (sim_seq (sim_post (sim_for (sim_rng2 (sim_consA (SimP.e sim_int) (sim_lastA (SimP.e (simp_op simr_add (simp_cb1 sim_len sim_var) sim_int))))) sim_name (sim_ifs (sim_or (sim_not (sim_b (sim_call0 D_is_within_n (sim_consV (SimP.e (simp_ix sim_var (simp_op simr_sub sim_var sim_int))) (sim_consV (SimP.e sim_int) (sim_consV (SimP.e (simp_cb1 sim_len sim_var)) sim_nilV)))))) (sim_test (SimP.e (simp_op simr_eq (simp_ix sim_var (simp_op simr_sub sim_var sim_int)) sim_var)))) sim_never (sim_kill sim_next)))) (sim_seq (sim_post (sim_for (sim_rng2 (sim_consA (SimP.e sim_int) (sim_lastA (SimP.e (simp_op simr_add (simp_cb1 sim_len sim_var) sim_int))))) sim_name (sim_ifs (sim_not (sim_b (sim_call0 D_leads_home_n (sim_consV (SimP.e sim_var) (sim_consV (SimP.e sim_var) sim_nilV))))) sim_never (sim_kill sim_next)))) (sim_post (sim_setF fa.f_hung (SimP.e sim_var))))))
def u_Tree_eq (K : PySem.W.Frag) (c : Cl) : TS :=
  (tRet (tAndV (tCB (xIsiG K) (tCons (tVar 1) (tCons (tC (.ref c.Tree)) tNil))) (tOp (rEqD K) (tFld K (tVar 0) "hung") (tFld K (tVar 1) "hung"))))
def B_Tree_eq (c : Cl) : DTS :=
  (dRet (dAndV (dCB (dIsi [c.Tree]) (dConsA (dVar 1) (dLastA (dC (.cls c.Tree))))) (dOpP dEq (dFld [c.Tree] "hung" (dVar 0)) (dFld [c.Tree] "hung" (dVar 1)))))
def D_Tree_eq (c : Cl) : Fn := dFn (vals 2) 2 (B_Tree_eq c)
theorem D_Tree_eq_in {c : Cl} {o0 o1 : O} {P : O → List O → Prop} {PE : DExc → List O → Prop} (h : B_Tree_eq c ⟨fun env => P (.fr .non) (outs [false, false] env), fun o env => P o (outs [false, false] env), fun _ => False, fun _ => False, fun e env => PE e (outs [false, false] env)⟩ [S.ow o0, S.ow o1]) : D_Tree_eq c [o0, o1] P PE := ⟨rfl, h⟩
theorem sim_Tree_eq {K : PySem.W.Frag} {c : Cl} (fa : Fa K c) (E : XK) : SimS (fun cls dd _ H => E cls dd H) (u_Tree_eq K c) (B_Tree_eq c) :=
  (sim_ret (sim_andV (sim_cb (sim_isi fa.cls) (sim_consA (SimP.e sim_var) (sim_lastA (SimP.e sim_cls)))) (SimP.e (simp_op simr_eq (simp_fld fa.f_hung sim_var) (simp_fld fa.f_hung sim_var)))))
def u_place_of (K : PySem.W.Frag) (c : Cl) (E : XK) : TS :=
  (tSeq (tDrop (tCall (spD (vals 2) (D_check_block c)) [] E (tCons (tCB (xLenG K) (tCons (tFld K (tVar 0) "hung") tNil)) (tCons (tVar 1) tNil)))) (tRet (tOp (rIx K) (tFld K (tVar 0) "hung") (tOp xSub (tVar 1) (tC (.int 1))))))
def B_place_of (c : Cl) : DTS :=
  (dSeq (dDrop (dCall true (D_check_block c) (dConsV (dCB dLen (dLastA (dFld [c.Tree] "hung" (dVar 0)))) (dConsV (dVar 1) dNilV)))) (dRet (dIx (dFld [c.Tree] "hung" (dVar 0)) (dOpP dSub2 (dVar 1) (dC (.int 1))))))
def D_place_of (c : Cl) : Fn := dFn (vals 2) 2 (B_place_of c)
theorem D_place_of_in {c : Cl} {o0 o1 : O} {P : O → List O → Prop} {PE : DExc → List O → Prop} (h : B_place_of c ⟨fun env => P (.fr .non) (outs [false, false] env), fun o env => P o (outs [false, false] env), fun _ => False, fun _ => False, fun e env => PE e (outs [false, false] env)⟩ [S.ow o0, S.ow o1]) : D_place_of c [o0, o1] P PE := ⟨rfl, h⟩
theorem D_place_of_n {c : Cl} : ∀ os P PE, D_place_of c os P PE → os.length = 2 := fun _ _ _ h => h.1
theorem sim_place_of {K : PySem.W.Frag} {c : Cl} (fa : Fa K c) (E : XK) : SimS (fun cls dd _ H => E cls dd H) (u_place_of K c E) (B_place_of c) :=
  (sim_seq (sim_drop (sim_callX D_check_block_n (sim_consV (SimP.e (simp_cb1 sim_len (simp_fld fa.f_hung sim_var))) (sim_consV (SimP.e sim_var) sim_nilV)))) (sim_ret (SimP.e (simp_ix (simp_fld fa.f_hung sim_var) (simp_op simr_sub sim_var sim_int)))))
def u_parents_in (K : PySem.W.Frag) (c : Cl) : TS :=
  (tSeq (tAsg (tLst tNil) (gName 2)) (tSeq (tAsg (tVar 1) (gName 3)) (tSeq (tWhile (tTest (tOp (rNeD K) (tVar 3) (tC (.int 0)))) (tSeq (tAsg (tOp (rIx K) (tVar 0) (tOp xSub (tVar 3) (tC (.int 1)))) (gName 3)) (tDrop (tBM K "list" rAppend (tVar 2) (tCons (tVar 3) tNil))))) (tRet (tVar 2)))))
def B_parents_in (c : Cl) : DTS :=
  (dSeq (dAsg (dLst dNilV) (dName 2)) (dSeq (dPost [1] (dAsg (dVar 1) (dName 3))) (dSeq (dPost [0, 3] (dWhile (dTest (dOpP dNe (dVar 3) (dC (.int 0)))) (dSeq (dAsg (dIx (dVar 0) (dOpP dSub2 (dVar 3) (dC (.int 1)))) (dName 3)) (dDrop (dMeth1 fAppend 2 (dVar 3)))))) (dRet (dVar 2)))))
def D_parents_in (c : Cl) : Fn := dFn (vals 2) 4 (B_parents_in c)
theorem D_parents_in_in {c : Cl} {o0 o1 : O} {P : O → List O → Prop} {PE : DExc → List O → Prop} (h : B_parents_in c ⟨fun env => P (.fr .non) (outs [false, false] env), fun o env => P o (outs [false, false] env), fun _ => False, fun _ => False, fun e env => PE e (outs [false, false] env)⟩ [S.ow o0, S.ow o1, S.un, S.un]) : D_parents_in c [o0, o1] P PE := ⟨rfl, h⟩
theorem D_parents_in_n {c : Cl} : ∀ os P PE, D_parents_in c os P PE → os.length = 2 := fun _ _ _ h => h.1
theorem sim_parents_in {K : PySem.W.Frag} {c : Cl} (fa : Fa K c) (E : XK) : SimS (fun cls dd _ H => E cls dd H) (u_parents_in K c) (B_parents_in c) :=
  (sim_seq (sim_asg (sim_lst sim_nilV) sim_name) (sim_seq (sim_post (sim_asg (SimP.e sim_var) sim_name)) (sim_seq (sim_post (sim_while (sim_test (SimP.e (simp_op simr_ne sim_var sim_int))) (sim_seq (sim_asg (SimP.e (simp_ix sim_var (simp_op simr_sub sim_var sim_int))) sim_name) (sim_drop (sim_meth1 simM_append (SimP.e sim_var)))))) (sim_ret (SimP.e sim_var)))))
def u_parentsT (K : PySem.W.Frag) (c : Cl) (E : XK) : TS :=
  (tSeq (tDrop (tCall (spD (vals 2) (D_check_block c)) [] E (tCons (tCB (xLenG K) (tCons (tFld K (tVar 0) "hung") tNil)) (tCons (tVar 1) tNil)))) (tRet (tCB (xTupleOf K) (tCons (tCall (spD (vals 2) (D_parents_in c)) [] E0 (tCons (tFld K (tVar 0) "hung") (tCons (tVar 1) tNil))) tNil))))
def B_parentsT (c : Cl) : DTS :=
  (dSeq (dDrop (dCall true (D_check_block c) (dConsV (dCB dLen (dLastA (dFld [c.Tree] "hung" (dVar 0)))) (dConsV (dVar 1) dNilV)))) (dRet (dCB dTuple (dLastA (dCall false (D_parents_in c) (dConsV (dFld [c.Tree] "hung" (dVar 0)) (dConsV (dVar 1) dNilV)))))))
def D_parentsT (c : Cl) : Fn := dFn (vals 2) 2 (B_parentsT c)
theorem D_parentsT_in {c : Cl} {o0 o1 : O} {P : O → List O → Prop} {PE : DExc → List O → Prop} (h : B_parentsT c ⟨fun env => P (.fr .non) (outs [false, false] env), fun o env => P o (outs [false, false] env), fun _ => False, fun _ => False, fun e env => PE e (outs [false, false] env)⟩ [S.ow o0, S.ow o1]) : D_parentsT c [o0, o1] P PE := ⟨rfl, h⟩
theorem D_parentsT_n {c : Cl} : ∀ os P PE, D_parentsT c os P PE → os.length = 2 := fun _ _ _ h => h.1
theorem sim_parentsT {K : PySem.W.Frag} {c : Cl} (fa : Fa K c) (E : XK) : SimS (fun cls dd _ H => E cls dd H) (u_parentsT K c E) (B_parentsT c) :=
  (sim_seq (sim_drop (sim_callX D_check_block_n (sim_consV (SimP.e (simp_cb1 sim_len (simp_fld fa.f_hung sim_var))) (sim_consV (SimP.e sim_var) sim_nilV)))) (sim_ret (sim_cb sim_tuple (sim_lastA (sim_call0 D_parents_in_n (sim_consV (SimP.e (simp_fld fa.f_hung sim_var)) (sim_consV (SimP.e sim_var) sim_nilV)))))))
def u_hanging (K : PySem.W.Frag) (c : Cl) : TS :=
  (tRet (tLc (iRng2 (tCons (tC (.int 1)) (tCons (tOp (xAddG K) (tCB (xLenG K) (tCons (tVar 0) tNil)) (tC (.int 1))) tNil))) (gName 2) (tTest (tOp (rEqD K) (tOp (rIx K) (tVar 0) (tOp xSub (tVar 2) (tC (.int 1)))) (tVar 1))) (tVar 2) [2]))
def B_hanging (c : Cl) : DTS :=
  (dRet (dLc (dRng2 (dConsA (dC (.int 1)) (dLastA (dOpP dAdd (dCB dLen (dLastA (dVar 0))) (dC (.int 1)))))) (dName 2) (dTest (dOpP dEq (dIx (dVar 0) (dOpP dSub2 (dVar 2) (dC (.int 1)))) (dVar 1))) (dVar 2) [2]))
def D_hanging (c : Cl) : Fn := dFn (vals 2) 3 (B_hanging c)
theorem D_hanging_in {c : Cl} {o0 o1 : O} {P : O → List O → Prop} {PE : DExc → List O → Prop} (h : B_hanging c ⟨fun env => P (.fr .non) (outs [false, false] env), fun o env => P o (outs [false, false] env), fun _ => False, fun _ => False, fun e env => PE e (outs [false, false] env)⟩ [S.ow o0, S.ow o1, S.un]) : D_hanging c [o0, o1] P PE := ⟨rfl, h⟩
theorem D_hanging_n {c : Cl} : ∀ os P PE, D_hanging c os P PE → os.length = 2 := fun _ _ _ h => h.1
theorem sim_hanging {K : PySem.W.Frag} {c : Cl} (fa : Fa K c) (E : XK) : SimS (fun cls dd _ H => E cls dd H) (u_hanging K c) (B_hanging c) :=
  (sim_ret (sim_lc (sim_rng2 (sim_consA (SimP.e sim_int) (sim_lastA (SimP.e (simp_op simr_add (simp_cb1 sim_len sim_var) sim_int))))) sim_name (sim_test (SimP.e (simp_op simr_eq (simp_ix sim_var (simp_op simr_sub sim_var sim_int)) sim_var))) (SimP.e sim_var) (by decide)))
def u_under (K : PySem.W.Frag) (c : Cl) (E : XK) : TS :=
  (tSeq (tDrop (tCall (spD (vals 2) (D_check_place c)) [] E (tCons (tCB (xLenG K) (tCons (tFld K (tVar 0) "hung") tNil)) (tCons (tVar 1) tNil)))) (tRet (tCB (xTupleOf K) (tCons (tCall (spD (vals 2) (D_hanging c)) [] E0 (tCons (tFld K (tVar 0) "hung") (tCons (tVar 1) tNil))) tNil))))
def B_under (c : Cl) : DTS :=
  (dSeq (dDrop (dCall true (D_check_place c) (dConsV (dCB dLen (dLastA (dFld [c.Tree] "hung" (dVar 0)))) (dConsV (dVar 1) dNilV)))) (dRet (dCB dTuple (dLastA (dCall false (D_hanging c) (dConsV (dFld [c.Tree] "hung" (dVar 0)) (dConsV (dVar 1) dNilV)))))))
def D_under (c : Cl) : Fn := dFn (vals 2) 2 (B_under c)
theorem D_under_in {c : Cl} {o0 o1 : O} {P : O → List O → Prop} {PE : DExc → List O → Prop} (h : B_under c ⟨fun env => P (.fr .non) (outs [false, false] env), fun o env => P o (outs [false, false] env), fun _ => False, fun _ => False, fun e env => PE e (outs [false, false] env)⟩ [S.ow o0, S.ow o1]) : D_under c [o0, o1] P PE := ⟨rfl, h⟩
theorem D_under_n {c : Cl} : ∀ os P PE, D_under c os P PE → os.length = 2 := fun _ _ _ h => h.1
theorem sim_under {K : PySem.W.Frag} {c : Cl} (fa : Fa K c) (E : XK) : SimS (fun cls dd _ H => E cls dd H) (u_under K c E) (B_under c) :=
  (sim_seq (sim_drop (sim_callX D_check_place_n (sim_consV (SimP.e (simp_cb1 sim_len (simp_fld fa.f_hung sim_var))) (sim_consV (SimP.e sim_var) sim_nilV)))) (sim_ret (sim_cb sim_tuple (sim_lastA (sim_call0 D_hanging_n (sim_consV (SimP.e (simp_fld fa.f_hung sim_var)) (sim_consV (SimP.e sim_var) sim_nilV)))))))
def u_beneath_in (K : PySem.W.Frag) (c : Cl) : TS :=
  (tSeq (tAsg (tLst tNil) (gName 2)) (tSeq (tAsg (tLst (tCons (tVar 1) tNil)) (gName 3)) (tSeq (tWhile (tTest (tOp xGt (tCB (xLenG K) (tCons (tVar 3) tNil)) (tC (.int 0)))) (tSeq (tAsg (tCall (spD (vals 2) (D_hanging c)) [] E0 (tCons (tVar 0) (tCons (tBM0 K "list" rPop (tVar 3)) tNil))) (gName 4)) (tSeq (tDrop (tBM K "list" rExtend (tVar 2) (tCons (tVar 4) tNil))) (tDrop (tBM K "list" rExtend (tVar 3) (tCons (tVar 4) tNil)))))) (tRet (tCB (xTupleOf K) (tCons (tCB (xSortG K) (tCons (tVar 2) tNil)) tNil))))))
def B_beneath_in (c : Cl) : DTS :=
  (dSeq (dAsg (dLst dNilV) (dName 2)) (dSeq (dPost [1] (dAsg (dLst (dConsV (dVar 1) dNilV)) (dName 3))) (dSeq (dPost [0, 3, 4] (dWhile (dTest (dOpP dGt (dCB dLen (dLastA (dVar 3))) (dC (.int 0)))) (dSeq (dAsg (dCall false (D_hanging c) (dConsV (dVar 0) (dConsV (dMeth0 fPop 3) dNilV))) (dName 4)) (dSeq (dDrop (dMeth1 fExtend 2 (dVar 4))) (dPost [4] (dDrop (dMeth1 fExtend 3 (dVar 4)))))))) (dRet (dCB dTuple (dLastA (dCB dSorted (dLastA (dVar 2)))))))))
def D_beneath_in (c : Cl) : Fn := dFn (vals 2) 5 (B_beneath_in c)
theorem D_beneath_in_in {c : Cl} {o0 o1 : O} {P : O → List O → Prop} {PE : DExc → List O → Prop} (h : B_beneath_in c ⟨fun env => P (.fr .non) (outs [false, false] env), fun o env => P o (outs [false, false] env), fun _ => False, fun _ => False, fun e env => PE e (outs [false, false] env)⟩ [S.ow o0, S.ow o1, S.un, S.un, S.un]) : D_beneath_in c [o0, o1] P PE := ⟨rfl, h⟩
theorem D_beneath_in_n {c : Cl} : ∀ os P PE, D_beneath_in c os P PE → os.length = 2 := fun _ _ _ h => h.1
theorem sim_beneath_in {K : PySem.W.Frag} {c : Cl} (fa : Fa K c) (E : XK) : SimS (fun cls dd _ H => E cls dd H) (u_beneath_in K c) (B_beneath_in c) :=
  (sim_seq (sim_asg (sim_lst sim_nilV) sim_name) (sim_seq (sim_post (sim_asg (sim_lst (sim_consV (SimP.e sim_var) sim_nilV)) sim_name)) (sim_seq (sim_post (sim_while (sim_test (SimP.e (simp_op simr_gt (simp_cb1 sim_len sim_var) sim_int))) (sim_seq (sim_asg (sim_call0 D_hanging_n (sim_consV (SimP.e sim_var) (sim_consV (sim_meth0 simM_pop) sim_nilV))) sim_name) (sim_seq (sim_drop (sim_meth1 simM_extend (SimP.e sim_var))) (sim_post (sim_drop (sim_meth1 simM_extend (SimP.e sim_var)))))))) (sim_ret (SimP.e (simp_cb1 sim_tuple (simp_cb1 sim_sorted sim_var)))))))
def u_beneathT (K : PySem.W.Frag) (c : Cl) (E : XK) : TS :=
  (tSeq (tDrop (tCall (spD (vals 2) (D_check_place c)) [] E (tCons (tCB (xLenG K) (tCons (tFld K (tVar 0) "hung") tNil)) (tCons (tVar 1) tNil)))) (tRet (tCall (spD (vals 2) (D_beneath_in c)) [] E0 (tCons (tFld K (tVar 0) "hung") (tCons (tVar 1) tNil)))))
def B_beneathT (c : Cl) : DTS :=
  (dSeq (dDrop (dCall true (D_check_place c) (dConsV (dCB dLen (dLastA (dFld [c.Tree] "hung" (dVar 0)))) (dConsV (dVar 1) dNilV)))) (dRet (dCall false (D_beneath_in c) (dConsV (dFld [c.Tree] "hung" (dVar 0)) (dConsV (dVar 1) dNilV)))))
def D_beneathT (c : Cl) : Fn := dFn (vals 2) 2 (B_beneathT c)
theorem D_beneathT_in {c : Cl} {o0 o1 : O} {P : O → List O → Prop} {PE : DExc → List O → Prop} (h : B_beneathT c ⟨fun env => P (.fr .non) (outs [false, false] env), fun o env => P o (outs [false, false] env), fun _ => False, fun _ => False, fun e env => PE e (outs [false, false] env)⟩ [S.ow o0, S.ow o1]) : D_beneathT c [o0, o1] P PE := ⟨rfl, h⟩
theorem D_beneathT_n {c : Cl} : ∀ os P PE, D_beneathT c os P PE → os.length = 2 := fun _ _ _ h => h.1
theorem sim_beneathT {K : PySem.W.Frag} {c : Cl} (fa : Fa K c) (E : XK) : SimS (fun cls dd _ H => E cls dd H) (u_beneathT K c E) (B_beneathT c) :=
  (sim_seq (sim_drop (sim_callX D_check_place_n (sim_consV (SimP.e (simp_cb1 sim_len (simp_fld fa.f_hung sim_var))) (sim_consV (SimP.e sim_var) sim_nilV)))) (sim_ret (sim_call0 D_beneath_in_n (sim_consV (SimP.e (simp_fld fa.f_hung sim_var)) (sim_consV (SimP.e sim_var) sim_nilV)))))
def u_with_place (K : PySem.W.Frag) (c : Cl) : TS :=
  (tRet (tOp (xAddG K) (tOp (xAddG K) (tSl (xSlG K) (tVar 0) tNoPart (tPart (tOp xSub (tVar 1) (tC (.int 1))))) (tTup (tCons (tVar 2) tNil))) (tSl (xSlG K) (tVar 0) (tPart (tVar 1)) tNoPart)))
def B_with_place (c : Cl) : DTS :=
  (dRet (dOp dAdd (dOp dAdd (dSl (dVar 0) dNoPart (dPart (dOpP dSub2 (dVar 1) (dC (.int 1))))) (dTup (dConsV (dVar 2) dNilV))) (dSl (dVar 0) (dPart (dVar 1)) dNoPart)))
def D_with_place (c : Cl) : Fn := dFn (vals 3) 3 (B_with_place c)
theorem D_with_place_in {c : Cl} {o0 o1 o2 : O} {P : O → List O → Prop} {PE : DExc → List O → Prop} (h : B_with_place c ⟨fun env => P (.fr .non) (outs [false, false, false] env), fun o env => P o (outs [false, false, false] env), fun _ => False, fun _ => False, fun e env => PE e (outs [false, false, false] env)⟩ [S.ow o0, S.ow o1, S.ow o2]) : D_with_place c [o0, o1, o2] P PE := ⟨rfl, h⟩
theorem D_with_place_n {c : Cl} : ∀ os P PE, D_with_place c os P PE → os.length = 3 := fun _ _ _ h => h.1
theorem sim_with_place {K : PySem.W.Frag} {c : Cl} (fa : Fa K c) (E : XK) : SimS (fun cls dd _ H => E cls dd H) (u_with_place K c) (B_with_place c) :=
  (sim_ret (sim_op simr_add (sim_op simr_add (sim_sl (SimP.e sim_var) sim_noPart (sim_part (simp_op simr_sub sim_var sim_int))) (sim_tup (sim_consV (SimP.e sim_var) sim_nilV))) (sim_sl (SimP.e sim_var) (sim_part sim_var) sim_noPart)))
def u_moved (K : PySem.W.Frag) (c : Cl) (E : XK) : TS :=
  (tSeq (tDrop (tCall (spD (vals 2) (D_check_block c)) [] E (tCons (tCB (xLenG K) (tCons (tFld K (tVar 0) "hung") tNil)) (tCons (tVar 1) tNil)))) (tSeq (tDrop (tCall (spD (vals 2) (D_check_place c)) [] E (tCons (tCB (xLenG K) (tCons (tFld K (tVar 0) "hung") tNil)) (tCons (tVar 2) tNil)))) (tSeq (tIfS (tOr (tTest (tOp (rEqD K) (tVar 2) (tVar 1))) (tTest (tOp (rIn K false) (tVar 2) (tCall (spD (vals 2) (D_beneath_in c)) [] E0 (tCons (tFld K (tVar 0) "hung") (tCons (tVar 1) tNil)))))) (tRaise0 (.ref c.Beneath) (wE E)) tNext) (tRet (tMake c.Tree (spD (true :: vals 1) (D_Tree_init c)) [] E0 (tCons (tCall (spD (vals 3) (D_with_place c)) [] E0 (tCons (tFld K (tVar 0) "hung") (tCons (tVar 1) (tCons (tVar 2) tNil)))) tNil))))))
def B_moved (c : Cl) : DTS :=
  (dSeq (dDrop (dCall true (D_check_block c) (dConsV (dCB dLen (dLastA (dFld [c.Tree] "hung" (dVar 0)))) (dConsV (dVar 1) dNilV)))) (dSeq (dDrop (dCall true (D_check_place c) (dConsV (dCB dLen (dLastA (dFld [c.Tree] "hung" (dVar 0)))) (dConsV (dVar 2) dNilV)))) (dSeq (dIfS (dOr (dTest (dOpP dEq (dVar 2) (dVar 1))) (dTest (dOp (dIn false) (dVar 2) (dCall false (D_beneath_in c) (dConsV (dFld [c.Tree] "hung" (dVar 0)) (dConsV (dVar 1) dNilV)))))) (dRaise0 (.ref c.Beneath)) dNext) (dRet (dMake false c.Tree (D_Tree_init c) (dConsV (dCall false (D_with_place c) (dConsV (dFld [c.Tree] "hung" (dVar 0)) (dConsV (dVar 1) (dConsV (dVar 2) dNilV)))) dNilV))))))
def D_moved (c : Cl) : Fn := dFn (vals 3) 3 (B_moved c)
theorem D_moved_in {c : Cl} {o0 o1 o2 : O} {P : O → List O → Prop} {PE : DExc → List O → Prop} (h : B_moved c ⟨fun env => P (.fr .non) (outs [false, false, false] env), fun o env => P o (outs [false, false, false] env), fun _ => False, fun _ => False, fun e env => PE e (outs [false, false, false] env)⟩ [S.ow o0, S.ow o1, S.ow o2]) : D_moved c [o0, o1, o2] P PE := ⟨rfl, h⟩
theorem D_moved_n {c : Cl} : ∀ os P PE, D_moved c os P PE → os.length = 3 := fun _ _ _ h => h.1
theorem sim_moved {K : PySem.W.Frag} {c : Cl} (fa : Fa K c) (E : XK) : SimS (fun cls dd _ H => E cls dd H) (u_moved K c E) (B_moved c) :=
  (sim_seq (sim_drop (sim_callX D_check_block_n (sim_consV (SimP.e (simp_cb1 sim_len (simp_fld fa.f_hung sim_var))) (sim_consV (SimP.e sim_var) sim_nilV)))) (sim_seq (sim_drop (sim_callX D_check_place_n (sim_consV (SimP.e (simp_cb1 sim_len (simp_fld fa.f_hung sim_var))) (sim_consV (SimP.e sim_var) sim_nilV)))) (sim_seq (sim_ifs (sim_or (sim_test (SimP.e (simp_op simr_eq sim_var sim_var))) (sim_test (sim_op simr_in (SimP.e sim_var) (sim_call0 D_beneath_in_n (sim_consV (SimP.e (simp_fld fa.f_hung sim_var)) (sim_consV (SimP.e sim_var) sim_nilV)))))) sim_raise0 sim_next) (sim_ret (sim_make0 D_Tree_init_n (sim_consV (sim_call0 D_with_place_n (sim_consV (SimP.e (simp_fld fa.f_hung sim_var)) (sim_consV (SimP.e sim_var) (sim_consV (SimP.e sim_var) sim_nilV)))) sim_nilV))))))
def u_called (K : PySem.W.Frag) (c : Cl) (E : XK) : TS :=
  (tSeq (tAsg (tCB (xLenG K) (tCons (tFld K (tVar 0) "hung") tNil)) (gName 2)) (tSeq (tIfS (tOr (tNot (tB (tCB (xIsiG K) (tCons (tVar 1) (tCons (tC (.ty "tuple")) tNil))))) (tNot (tB (tCB (rAll K) (tCons (tLc (iSeq K (tVar 1)) (gName 6) tYes (tCall (spD (vals 3) (D_is_within c)) [] E0 (tCons (tVar 6) (tCons (tC (.int 1)) (tCons (tVar 2) tNil)))) [6]) tNil))))) (tRaise0 (.ref c.NoOrder) (wE E)) tNext) (tSeq (tIfS (tTest (tOp (rNeD K) (tCB (xSortG K) (tCons (tVar 1) tNil)) (tLstRg (tRg2 (tC (.int 1)) (tOp (xAddG K) (tVar 2) (tC (.int 1))))))) (tRaise0 (.ref c.NoOrder) (wE E)) tNext) (tSeq (tAsg (tOp (xAddG K) (tTup (tCons (tC (.int 0)) tNil)) (tVar 1)) (gName 3)) (tSeq (tAsg (tOp (xMulG K) (tLst (tCons (tC (.int 0)) tNil)) (tVar 2)) (gName 4)) (tSeq (tFor (iRng2 (tCons (tC (.int 1)) (tCons (tOp (xAddG K) (tVar 2) (tC (.int 1))) tNil))) (gName 5) (tAsg (tOp (rIx K) (tVar 3) (tOp (rIx K) (tFld K (tVar 0) "hung") (tOp xSub (tVar 5) (tC (.int 1))))) (gSub (tVar 4) (tOp xSub (tOp (rIx K) (tVar 3) (tVar 5)) (tC (.int 1))) rSetL))) (tRet (tMake c.Tree (spD (true :: vals 1) (D_Tree_init c)) [] E0 (tCons (tCB (xTupleOf K) (tCons (tVar 4) tNil)) tNil)))))))))
def B_called (c : Cl) : DTS :=
  (dSeq (dAsg (dCB dLen (dLastA (dFld [c.Tree] "hung" (dVar 0)))) (dName 2)) (dSeq (dIfS (dOr (dNot (dTest (dCB (dIsi [c.Tree]) (dConsA (dVar 1) (dLastA (dC (.ty "tuple"))))))) (dNot (dTest (dCB dAll (dLastA (dLc (dIter (dVar 1)) (dName 6) dYes (dCall false (D_is_within c) (dConsV (dVar 6) (dConsV (dC (.int 1)) (dConsV (dVar 2) dNilV)))) [6])))))) (dRaise0 (.ref c.NoOrder)) dNext) (dSeq (dIfS (dTest (dOp dNe (dCB dSorted (dLastA (dVar 1))) (dRg true (dConsA (dC (.int 1)) (dLastA (dOpP dAdd (dVar 2) (dC (.int 1)))))))) (dRaise0 (.ref c.NoOrder)) dNext) (dSeq (dPost [1] (dAsg (dOpP dAdd (dTup (dConsV (dC (.int 0)) dNilV)) (dVar 1)) (dName 3))) (dSeq (dAsg (dOpP dMul (dLst (dConsV (dC (.int 0)) dNilV)) (dVar 2)) (dName 4)) (dSeq (dPost [0, 2, 3, 5] (dFor (dIterK [2] (dRng2 (dConsA (dC (.int 1)) (dLastA (dOpP dAdd (dVar 2) (dC (.int 1))))))) (dName 5) (dPost [5] (dAsg (dIx (dVar 3) (dIx (dFld [c.Tree] "hung" (dVar 0)) (dOpP dSub2 (dVar 5) (dC (.int 1))))) (dSub (dVar 4) (dOpP dSub2 (dIx (dVar 3) (dVar 5)) (dC (.int 1)))))))) (dRet (dMake false c.Tree (D_Tree_init c) (dConsV (dCB dTuple (dLastA (dVar 4))) dNilV)))))))))
def D_called (c : Cl) : Fn := dFn (vals 2) 7 (B_called c)
theorem D_called_in {c : Cl} {o0 o1 : O} {P : O → List O → Prop} {PE : DExc → List O → Prop} (h : B_called c ⟨fun env => P (.fr .non) (outs [false, false] env), fun o env => P o (outs [false, false] env), fun _ => False, fun _ => False, fun e env => PE e (outs [false, false] env)⟩ [S.ow o0, S.ow o1, S.un, S.un, S.un, S.un, S.un]) : D_called c [o0, o1] P PE := ⟨rfl, h⟩
theorem D_called_n {c : Cl} : ∀ os P PE, D_called c os P PE → os.length = 2 := fun _ _ _ h => h.1
theorem sim_called {K : PySem.W.Frag} {c : Cl} (fa : Fa K c) (E : XK) : SimS (fun cls dd _ H => E cls dd H) (u_called K c E) (B_called c) :=
  (sim_seq (sim_asg (SimP.e (simp_cb1 sim_len (simp_fld fa.f_hung sim_var))) sim_name) (sim_seq (sim_ifs (sim_or (sim_not (sim_b (sim_cb (sim_isi fa.cls) (sim_consA (SimP.e sim_var) (sim_lastA (SimP.e sim_ty)))))) (sim_not (sim_b (sim_cb sim_all (sim_lastA (sim_lc (sim_seq_it (SimP.e sim_var)) sim_name sim_yes (sim_call0 D_is_within_n (sim_consV (SimP.e sim_var) (sim_consV (SimP.e sim_int) (sim_consV (SimP.e sim_var) sim_nilV)))) (by decide))))))) sim_raise0 sim_next) (sim_seq (sim_ifs (sim_test (sim_op simr_ne (SimP.e (simp_cb1 sim_sorted sim_var)) (sim_lstRg2 (SimP.e sim_int) (SimP.e (simp_op simr_add sim_var sim_int))))) sim_raise0 sim_next) (sim_seq (sim_post (sim_asg (sim_opP simr_add (sim_tup (sim_consV (SimP.e sim_int) sim_nilV)) sim_var) sim_name)) (sim_seq (sim_asg (sim_opP simr_mul (sim_lst (sim_consV (SimP.e sim_int) sim_nilV)) sim_var) sim_name) (sim_seq (sim_post (sim_for (sim_iterK (sim_rng2 (sim_consA (SimP.e sim_int) (sim_lastA (SimP.e (simp_op simr_add sim_var sim_int)))))) sim_name (sim_post (sim_asg (SimP.e (simp_ix sim_var (simp_ix (simp_fld fa.f_hung sim_var) (simp_op simr_sub sim_var sim_int)))) (sim_sub sim_var (simp_op simr_sub (simp_ix sim_var sim_var) sim_int)))))) (sim_ret (sim_make0 D_Tree_init_n (sim_consV (SimP.e (simp_cb1 sim_tuple sim_var)) sim_nilV)))))))))
def u_ties_down (K : PySem.W.Frag) (c : Cl) : TS :=
  (tSeq (tAsg (tLst tNil) (gName 3)) (tSeq (tAsg (tLst (tCons (tVar 1) tNil)) (gName 4)) (tSeq (tFor (iRng1 (tCons (tVar 2) tNil)) (gName 5) (tSeq (tAsg (tLst tNil) (gName 6)) (tSeq (tFor (iSeq K (tVar 4)) (gName 7) (tDrop (tBM K "list" rExtend (tVar 6) (tCons (tLc (iSeq K (tCall (spD (vals 2) (D_hanging c)) [] E0 (tCons (tVar 0) (tCons (tVar 7) tNil)))) (gName 8) tYes (tTup (tCons (tVar 8) (tCons (tVar 7) tNil))) [8]) tNil)))) (tSeq (tDrop (tBM K "list" rExtend (tVar 3) (tCons (tVar 6) tNil))) (tAsg (tLc (iSeq K (tVar 6)) (gTup K 2 (gCons (gName 8) (gCons (gName 7) gNil))) tYes (tVar 8) [8, 7]) (gName 4)))))) (tRet (tCB (xTupleOf K) (tCons (tCB (xSortG K) (tCons (tVar 3) tNil)) tNil))))))
def B_ties_down (c : Cl) : DTS :=
  (dSeq (dAsg (dLst dNilV) (dName 3)) (dSeq (dPost [1] (dAsg (dLst (dConsV (dVar 1) dNilV)) (dName 4))) (dSeq (dPost [0, 2, 4, 5, 6, 7] (dFor (dIterK [2] (dRng1 (dLastA (dVar 2)))) (dName 5) (dKill [5] (dSeq (dAsg (dLst dNilV) (dName 6)) (dSeq (dPost [4, 7] (dFor (dIterK [4] (dIter (dVar 4))) (dName 7) (dPost [7] (dDrop (dMeth1 fExtend 6 (dLc (dIter (dCall false (D_hanging c) (dConsV (dVar 0) (dConsV (dVar 7) dNilV)))) (dName 8) dYes (dTup (dConsV (dVar 8) (dConsV (dVar 7) dNilV))) [8])))))) (dSeq (dDrop (dMeth1 fExtend 3 (dVar 6))) (dPost [6] (dAsg (dLc (dIter (dVar 6)) (dGTup 2 (dGCons (dName 8) (dGCons (dName 7) dGNil))) dYes (dVar 8) [8, 7]) (dName 4))))))))) (dRet (dCB dTuple (dLastA (dCB dSorted (dLastA (dVar 3)))))))))
def D_ties_down (c : Cl) : Fn := dFn (vals 3) 9 (B_ties_down c)
theorem D_ties_down_in {c : Cl} {o0 o1 o2 : O} {P : O → List O → Prop} {PE : DExc → List O → Prop} (h : B_ties_down c ⟨fun env => P (.fr .non) (outs [false, false, false] env), fun o env => P o (outs [false, false, false] env), fun _ => False, fun _ => False, fun e env => PE e (outs [false, false, false] env)⟩ [S.ow o0, S.ow o1, S.ow o2, S.un, S.un, S.un, S.un, S.un, S.un]) : D_ties_down c [o0, o1, o2] P PE := ⟨rfl, h⟩
theorem D_ties_down_n {c : Cl} : ∀ os P PE, D_ties_down c os P PE → os.length = 3 := fun _ _ _ h => h.1
theorem sim_ties_down {K : PySem.W.Frag} {c : Cl} (fa : Fa K c) (E : XK) : SimS (fun cls dd _ H => E cls dd H) (u_ties_down K c) (B_ties_down c) :=
  (sim_seq (sim_asg (sim_lst sim_nilV) sim_name) (sim_seq (sim_post (sim_asg (sim_lst (sim_consV (SimP.e sim_var) sim_nilV)) sim_name)) (sim_seq (sim_post (sim_for (sim_iterK (sim_rng1 (sim_lastA (SimP.e sim_var)))) sim_name (sim_kill (sim_seq (sim_asg (sim_lst sim_nilV) sim_name) (sim_seq (sim_post (sim_for (sim_iterK (sim_seq_it (SimP.e sim_var))) sim_name (sim_post (sim_drop (sim_meth1 simM_extend (sim_lc (sim_seq_it (sim_call0 D_hanging_n (sim_consV (SimP.e sim_var) (sim_consV (SimP.e sim_var) sim_nilV)))) sim_name sim_yes (sim_tup (sim_consV (SimP.e sim_var) (sim_consV (SimP.e sim_var) sim_nilV))) (by decide))))))) (sim_seq (sim_drop (sim_meth1 simM_extend (SimP.e sim_var))) (sim_post (sim_asg (sim_lc (sim_seq_it (SimP.e sim_var)) (sim_gtup (sim_gcons sim_name (sim_gcons sim_name sim_gnil))) sim_yes (SimP.e sim_var) (by decide)) sim_name)))))))) (sim_ret (SimP.e (simp_cb1 sim_tuple (simp_cb1 sim_sorted sim_var)))))))
def u_raw_telling (K : PySem.W.Frag) (c : Cl) : TS :=
  (tRet (tTup (tCons (tCB (xTupleOf K) (tCons (tSl (xSlG K) (tCall (spD (vals 2) (D_parents_in c)) [] E0 (tCons (tVar 0) (tCons (tVar 2) tNil))) tNoPart (tPart (tOp (rIx K) (tVar 1) (tC (.int 0))))) tNil)) (tCons (tCall (spD (vals 3) (D_ties_down c)) [] E0 (tCons (tVar 0) (tCons (tVar 2) (tCons (tOp (rIx K) (tVar 1) (tC (.int 1))) tNil)))) tNil))))
def B_raw_telling (c : Cl) : DTS :=
  (dRet (dTup (dConsV (dCB dTuple (dLastA (dSl (dCall false (D_parents_in c) (dConsV (dVar 0) (dConsV (dVar 2) dNilV))) dNoPart (dPart (dIx (dVar 1) (dC (.int 0))))))) (dConsV (dCall false (D_ties_down c) (dConsV (dVar 0) (dConsV (dVar 2) (dConsV (dIx (dVar 1) (dC (.int 1))) dNilV)))) dNilV))))
def D_raw_telling (c : Cl) : Fn := dFn (vals 3) 3 (B_raw_telling c)
theorem D_raw_telling_in {c : Cl} {o0 o1 o2 : O} {P : O → List O → Prop} {PE : DExc → List O → Prop} (h : B_raw_telling c ⟨fun env => P (.fr .non) (outs [false, false, false] env), fun o env => P o (outs [false, false, false] env), fun _ => False, fun _ => False, fun e env => PE e (outs [false, false, false] env)⟩ [S.ow o0, S.ow o1, S.ow o2]) : D_raw_telling c [o0, o1, o2] P PE := ⟨rfl, h⟩
theorem D_raw_telling_n {c : Cl} : ∀ os P PE, D_raw_telling c os P PE → os.length = 3 := fun _ _ _ h => h.1
theorem sim_raw_telling {K : PySem.W.Frag} {c : Cl} (fa : Fa K c) (E : XK) : SimS (fun cls dd _ H => E cls dd H) (u_raw_telling K c) (B_raw_telling c) :=
  (sim_ret (sim_tup (sim_consV (sim_cb sim_tuple (sim_lastA (sim_sl (sim_call0 D_parents_in_n (sim_consV (SimP.e sim_var) (sim_consV (SimP.e sim_var) sim_nilV))) sim_noPart (sim_part (simp_ix sim_var sim_int))))) (sim_consV (sim_call0 D_ties_down_n (sim_consV (SimP.e sim_var) (sim_consV (SimP.e sim_var) (sim_consV (SimP.e (simp_ix sim_var sim_int)) sim_nilV)))) sim_nilV))))
def u_telling (K : PySem.W.Frag) (c : Cl) (E : XK) : TS :=
  (tSeq (tDrop (tCall (spD (vals 1) (D_check_view c)) [] E (tCons (tVar 1) tNil))) (tSeq (tDrop (tCall (spD (vals 2) (D_check_place c)) [] E (tCons (tCB (xLenG K) (tCons (tFld K (tVar 0) "hung") tNil)) (tCons (tVar 2) tNil)))) (tRet (tCall (spD (vals 3) (D_raw_telling c)) [] E0 (tCons (tFld K (tVar 0) "hung") (tCons (tVar 1) (tCons (tVar 2) tNil)))))))
def B_telling (c : Cl) : DTS :=
  (dSeq (dDrop (dCall true (D_check_view c) (dConsV (dVar 1) dNilV))) (dSeq (dDrop (dCall true (D_check_place c) (dConsV (dCB dLen (dLastA (dFld [c.Tree] "hung" (dVar 0)))) (dConsV (dVar 2) dNilV)))) (dRet (dCall false (D_raw_telling c) (dConsV (dFld [c.Tree] "hung" (dVar 0)) (dConsV (dVar 1) (dConsV (dVar 2) dNilV)))))))
def D_telling (c : Cl) : Fn := dFn (vals 3) 3 (B_telling c)
theorem D_telling_in {c : Cl} {o0 o1 o2 : O} {P : O → List O → Prop} {PE : DExc → List O → Prop} (h : B_telling c ⟨fun env => P (.fr .non) (outs [false, false, false] env), fun o env => P o (outs [false, false, false] env), fun _ => False, fun _ => False, fun e env => PE e (outs [false, false, false] env)⟩ [S.ow o0, S.ow o1, S.ow o2]) : D_telling c [o0, o1, o2] P PE := ⟨rfl, h⟩
theorem D_telling_n {c : Cl} : ∀ os P PE, D_telling c os P PE → os.length = 3 := fun _ _ _ h => h.1
theorem sim_telling {K : PySem.W.Frag} {c : Cl} (fa : Fa K c) (E : XK) : SimS (fun cls dd _ H => E cls dd H) (u_telling K c E) (B_telling c) :=
  (sim_seq (sim_drop (sim_callX D_check_view_n (sim_consV (SimP.e sim_var) sim_nilV))) (sim_seq (sim_drop (sim_callX D_check_place_n (sim_consV (SimP.e (simp_cb1 sim_len (simp_fld fa.f_hung sim_var))) (sim_consV (SimP.e sim_var) sim_nilV)))) (sim_ret (sim_call0 D_raw_telling_n (sim_consV (SimP.e (simp_fld fa.f_hung sim_var)) (sim_consV (SimP.e sim_var) (sim_consV (SimP.e sim_var) sim_nilV)))))))
def u_raw_tellings (K : PySem.W.Frag) (c : Cl) : TS :=
  (tRet (tLc (iRng1 (tCons (tOp (xAddG K) (tCB (xLenG K) (tCons (tVar 0) tNil)) (tC (.int 1))) tNil)) (gName 2) tYes (tCall (spD (vals 3) (D_raw_telling c)) [] E0 (tCons (tVar 0) (tCons (tVar 1) (tCons (tVar 2) tNil)))) [2]))
def B_raw_tellings (c : Cl) : DTS :=
  (dRet (dLc (dRng1 (dLastA (dOpP dAdd (dCB dLen (dLastA (dVar 0))) (dC (.int 1))))) (dName 2) dYes (dCall false (D_raw_telling c) (dConsV (dVar 0) (dConsV (dVar 1) (dConsV (dVar 2) dNilV)))) [2]))
def D_raw_tellings (c : Cl) : Fn := dFn (vals 2) 3 (B_raw_tellings c)
theorem D_raw_tellings_in {c : Cl} {o0 o1 : O} {P : O → List O → Prop} {PE : DExc → List O → Prop} (h : B_raw_tellings c ⟨fun env => P (.fr .non) (outs [false, false] env), fun o env => P o (outs [false, false] env), fun _ => False, fun _ => False, fun e env => PE e (outs [false, false] env)⟩ [S.ow o0, S.ow o1, S.un]) : D_raw_tellings c [o0, o1] P PE := ⟨rfl, h⟩
theorem D_raw_tellings_n {c : Cl} : ∀ os P PE, D_raw_tellings c os P PE → os.length = 2 := fun _ _ _ h => h.1
theorem sim_raw_tellings {K : PySem.W.Frag} {c : Cl} (fa : Fa K c) (E : XK) : SimS (fun cls dd _ H => E cls dd H) (u_raw_tellings K c) (B_raw_tellings c) :=
  (sim_ret (sim_lc (sim_rng1 (sim_lastA (SimP.e (simp_op simr_add (simp_cb1 sim_len sim_var) sim_int)))) sim_name sim_yes (sim_call0 D_raw_telling_n (sim_consV (SimP.e sim_var) (sim_consV (SimP.e sim_var) (sim_consV (SimP.e sim_var) sim_nilV)))) (by decide)))
def u_unlike (K : PySem.W.Frag) (c : Cl) (E : XK) : TS :=
  (tSeq (tIfS (tTest (tOp (rNeD K) (tCB (xLenG K) (tCons (tFld K (tVar 0) "hung") tNil)) (tCB (xLenG K) (tCons (tFld K (tVar 1) "hung") tNil)))) (tRaise0 (.ref c.OtherBlocks) (wE E)) tNext) (tSeq (tDrop (tCall (spD (vals 1) (D_check_view c)) [] E (tCons (tVar 2) tNil))) (tSeq (tAsg (tCall (spD (vals 2) (D_raw_tellings c)) [] E0 (tCons (tFld K (tVar 0) "hung") (tCons (tVar 2) tNil))) (gName 3)) (tSeq (tAsg (tCall (spD (vals 2) (D_raw_tellings c)) [] E0 (tCons (tFld K (tVar 1) "hung") (tCons (tVar 2) tNil))) (gName 4)) (tRet (tCB (xTupleOf K) (tCons (tLc (iRng1 (tCons (tCB (xLenG K) (tCons (tVar 3) tNil)) tNil)) (gName 5) (tTest (tOp (rNeD K) (tOp (rIx K) (tVar 3) (tVar 5)) (tOp (rIx K) (tVar 4) (tVar 5)))) (tVar 5) [5]) tNil)))))))
def B_unlike (c : Cl) : DTS :=
  (dSeq (dIfS (dTest (dOpP dNe (dCB dLen (dLastA (dFld [c.Tree] "hung" (dVar 0)))) (dCB dLen (dLastA (dFld [c.Tree] "hung" (dVar 1)))))) (dRaise0 (.ref c.OtherBlocks)) dNext) (dSeq (dDrop (dCall true (D_check_view c) (dConsV (dVar 2) dNilV))) (dSeq (dPost [0] (dAsg (dCall false (D_raw_tellings c) (dConsV (dFld [c.Tree] "hung" (dVar 0)) (dConsV (dVar 2) dNilV))) (dName 3))) (dSeq (dPost [1, 2] (dAsg (dCall false (D_raw_tellings c) (dConsV (dFld [c.Tree] "hung" (dVar 1)) (dConsV (dVar 2) dNilV))) (dName 4))) (dRet (dCB dTuple (dLastA (dLc (dRng1 (dLastA (dCB dLen (dLastA (dVar 3))))) (dName 5) (dTest (dOpP dNe (dIx (dVar 3) (dVar 5)) (dIx (dVar 4) (dVar 5)))) (dVar 5) [5]))))))))
def D_unlike (c : Cl) : Fn := dFn (vals 3) 6 (B_unlike c)
theorem D_unlike_in {c : Cl} {o0 o1 o2 : O} {P : O → List O → Prop} {PE : DExc → List O → Prop} (h : B_unlike c ⟨fun env => P (.fr .non) (outs [false, false, false] env), fun o env => P o (outs [false, false, false] env), fun _ => False, fun _ => False, fun e env => PE e (outs [false, false, false] env)⟩ [S.ow o0, S.ow o1, S.ow o2, S.un, S.un, S.un]) : D_unlike c [o0, o1, o2] P PE := ⟨rfl, h⟩
theorem D_unlike_n {c : Cl} : ∀ os P PE, D_unlike c os P PE → os.length = 3 := fun _ _ _ h => h.1
theorem sim_unlike {K : PySem.W.Frag} {c : Cl} (fa : Fa K c) (E : XK) : SimS (fun cls dd _ H => E cls dd H) (u_unlike K c E) (B_unlike c) :=
  (sim_seq (sim_ifs (sim_test (SimP.e (simp_op simr_ne (simp_cb1 sim_len (simp_fld fa.f_hung sim_var)) (simp_cb1 sim_len (simp_fld fa.f_hung sim_var))))) sim_raise0 sim_next) (sim_seq (sim_drop (sim_callX D_check_view_n (sim_consV (SimP.e sim_var) sim_nilV))) (sim_seq (sim_post (sim_asg (sim_call0 D_raw_tellings_n (sim_consV (SimP.e (simp_fld fa.f_hung sim_var)) (sim_consV (SimP.e sim_var) sim_nilV))) sim_name)) (sim_seq (sim_post (sim_asg (sim_call0 D_raw_tellings_n (sim_consV (SimP.e (simp_fld fa.f_hung sim_var)) (sim_consV (SimP.e sim_var) sim_nilV))) sim_name)) (sim_ret (sim_cb sim_tuple (sim_lastA (sim_lc (sim_rng1 (sim_lastA (SimP.e (simp_cb1 sim_len sim_var)))) sim_name (sim_test (SimP.e (simp_op simr_ne (simp_ix sim_var sim_var) (simp_ix sim_var sim_var)))) (SimP.e sim_var) (by decide)))))))))
def u_raw_distance (K : PySem.W.Frag) (c : Cl) : TS :=
  (tSeq (tAsg (tVar 0) (gTup K 2 (gCons (gName 1) (gCons (gName 2) gNil)))) (tSeq (tAsg (tIf (tTest (tOp xGt (tVar 1) (tC (.int 0)))) (tC (.int 1)) (tC (.int 0))) (gName 3)) (tRet (tIf (tTest (tOp xGt (tVar 2) (tC (.int 0)))) (tOp (xAddG K) (tOp (xAddG K) (tVar 2) (tC (.int 1))) (tVar 3)) (tVar 3)))))
def B_raw_distance (c : Cl) : DTS :=
  (dSeq (dPost [0] (dAsg (dVar 0) (dGTup 2 (dGCons (dName 1) (dGCons (dName 2) dGNil))))) (dSeq (dPost [1] (dAsg (dIf (dTest (dOpP dGt (dVar 1) (dC (.int 0)))) (dC (.int 1)) (dC (.int 0))) (dName 3))) (dRet (dIf (dTest (dOpP dGt (dVar 2) (dC (.int 0)))) (dOpP dAdd (dOpP dAdd (dVar 2) (dC (.int 1))) (dVar 3)) (dVar 3)))))
def D_raw_distance (c : Cl) : Fn := dFn (vals 1) 4 (B_raw_distance c)
theorem D_raw_distance_in {c : Cl} {o0 : O} {P : O → List O → Prop} {PE : DExc → List O → Prop} (h : B_raw_distance c ⟨fun env => P (.fr .non) (outs [false] env), fun o env => P o (outs [false] env), fun _ => False, fun _ => False, fun e env => PE e (outs [false] env)⟩ [S.ow o0, S.un, S.un, S.un]) : D_raw_distance c [o0] P PE := ⟨rfl, h⟩
theorem D_raw_distance_n {c : Cl} : ∀ os P PE, D_raw_distance c os P PE → os.length = 1 := fun _ _ _ h => h.1
theorem sim_raw_distance {K : PySem.W.Frag} {c : Cl} (fa : Fa K c) (E : XK) : SimS (fun cls dd _ H => E cls dd H) (u_raw_distance K c) (B_raw_distance c) :=
  (sim_seq (sim_post (sim_asg (SimP.e sim_var) (sim_gtup (sim_gcons sim_name (sim_gcons sim_name sim_gnil))))) (sim_seq (sim_post (sim_asg (sim_if (sim_test (SimP.e (simp_op simr_gt sim_var sim_int))) (SimP.e sim_int) (SimP.e sim_int)) sim_name)) (sim_ret (sim_if (sim_test (SimP.e (simp_op simr_gt sim_var sim_int))) (SimP.e (simp_op simr_add (simp_op simr_add sim_var sim_int) sim_var)) (SimP.e sim_var)))))
def u_distance (K : PySem.W.Frag) (c : Cl) (E : XK) : TS :=
  (tSeq (tDrop (tCall (spD (vals 1) (D_check_view c)) [] E (tCons (tVar 0) tNil))) (tRet (tCall (spD (vals 1) (D_raw_distance c)) [] E0 (tCons (tVar 0) tNil))))
def B_distance (c : Cl) : DTS :=
  (dSeq (dDrop (dCall true (D_check_view c) (dConsV (dVar 0) dNilV))) (dRet (dCall false (D_raw_distance c) (dConsV (dVar 0) dNilV))))
def D_distance (c : Cl) : Fn := dFn (vals 1) 1 (B_distance c)
theorem D_distance_in {c : Cl} {o0 : O} {P : O → List O → Prop} {PE : DExc → List O → Prop} (h : B_distance c ⟨fun env => P (.fr .non) (outs [false] env), fun o env => P o (outs [false] env), fun _ => False, fun _ => False, fun e env => PE e (outs [false] env)⟩ [S.ow o0]) : D_distance c [o0] P PE := ⟨rfl, h⟩
theorem D_distance_n {c : Cl} : ∀ os P PE, D_distance c os P PE → os.length = 1 := fun _ _ _ h => h.1
theorem sim_distance {K : PySem.W.Frag} {c : Cl} (fa : Fa K c) (E : XK) : SimS (fun cls dd _ H => E cls dd H) (u_distance K c E) (B_distance c) :=
  (sim_seq (sim_drop (sim_callX D_check_view_n (sim_consV (SimP.e sim_var) sim_nilV))) (sim_ret (sim_call0 D_raw_distance_n (sim_consV (SimP.e sim_var) sim_nilV))))
def u_twins (K : PySem.W.Frag) (c : Cl) (E : XK) : TS :=
  (tSeq (tDrop (tCall (spD (vals 1) (D_check_view c)) [] E (tCons (tVar 0) tNil))) (tSeq (tDrop (tCall (spD (vals 3) (D_check_number c)) [] E (tCons (tVar 1) (tCons (tC (.int 1)) (tCons (tC (.int 40)) tNil))))) (tSeq (tAsg (tOp (rIx K) (tVar 0) (tC (.int 1))) (gName 2)) (tSeq (tIfS (tTest (tOp (xLtG K) (tVar 1) (tOp (xAddG K) (tVar 2) (tC (.int 2))))) (tRet (tC .non)) tNext) (tSeq (tIfS (tTest (tOp (rEqD K) (tVar 2) (tC (.int 0)))) (tRet (tTup (tCons (tMake c.Tree (spD (true :: vals 1) (D_Tree_init c)) [] E0 (tCons (tOp (xMulG K) (tTup (tCons (tC (.int 0)) tNil)) (tVar 1)) tNil)) (tCons (tMake c.Tree (spD (true :: vals 1) (D_Tree_init c)) [] E0 (tCons (tOp (xAddG K) (tOp (xAddG K) (tTup (tCons (tC (.int 0)) tNil)) (tTup (tCons (tC (.int 1)) tNil))) (tOp (xMulG K) (tTup (tCons (tC (.int 0)) tNil)) (tOp xSub (tVar 1) (tC (.int 2))))) tNil)) tNil)))) tNext) (tSeq (tAsg (tTupRg (tRg1 (tVar 2))) (gName 3)) (tSeq (tAsg (tOp (xMulG K) (tTup (tCons (tC (.int 0)) tNil)) (tOp xSub (tOp xSub (tVar 1) (tVar 2)) (tC (.int 2)))) (gName 4)) (tRet (tTup (tCons (tMake c.Tree (spD (true :: vals 1) (D_Tree_init c)) [] E0 (tCons (tOp (xAddG K) (tOp (xAddG K) (tVar 3) (tTup (tCons (tOp xSub (tVar 2) (tC (.int 1))) (tCons (tVar 2) tNil)))) (tVar 4)) tNil)) (tCons (tMake c.Tree (spD (true :: vals 1) (D_Tree_init c)) [] E0 (tCons (tOp (xAddG K) (tOp (xAddG K) (tVar 3) (tTup (tCons (tOp xSub (tVar 2) (tC (.int 1))) (tCons (tOp (xAddG K) (tVar 2) (tC (.int 1))) tNil)))) (tVar 4)) tNil)) tNil)))))))))))
def B_twins (c : Cl) : DTS :=
  (dSeq (dDrop (dCall true (D_check_view c) (dConsV (dVar 0) dNilV))) (dSeq (dDrop (dCall true (D_check_number c) (dConsV (dVar 1) (dConsV (dC (.int 1)) (dConsV (dC (.int 40)) dNilV))))) (dSeq (dPost [0] (dAsg (dIx (dVar 0) (dC (.int 1))) (dName 2))) (dSeq (dIfS (dTest (dOpP dLtG (dVar 1) (dOpP dAdd (dVar 2) (dC (.int 2))))) (dRet (dC .non)) dNext) (dSeq (dIfS (dTest (dOpP dEq (dVar 2) (dC (.int 0)))) (dRet (dTup (dConsV (dMake false c.Tree (D_Tree_init c) (dConsV (dOpP dMul (dTup (dConsV (dC (.int 0)) dNilV)) (dVar 1)) dNilV)) (dConsV (dMake false c.Tree (D_Tree_init c) (dConsV (dOp dAdd (dOp dAdd (dTup (dConsV (dC (.int 0)) dNilV)) (dTup (dConsV (dC (.int 1)) dNilV))) (dOpP dMul (dTup (dConsV (dC (.int 0)) dNilV)) (dOpP dSub2 (dVar 1) (dC (.int 2))))) dNilV)) dNilV)))) dNext) (dSeq (dAsg (dRg false (dLastA (dVar 2))) (dName 3)) (dSeq (dPost [1] (dAsg (dOpP dMul (dTup (dConsV (dC (.int 0)) dNilV)) (dOpP dSub2 (dOpP dSub2 (dVar 1) (dVar 2)) (dC (.int 2)))) (dName 4))) (dRet (dTup (dConsV (dMake false c.Tree (D_Tree_init c) (dConsV (dOpP dAdd (dOp dAdd (dVar 3) (dTup (dConsV (dOpP dSub2 (dVar 2) (dC (.int 1))) (dConsV (dVar 2) dNilV)))) (dVar 4)) dNilV)) (dConsV (dMake false c.Tree (D_Tree_init c) (dConsV (dOpP dAdd (dOp dAdd (dVar 3) (dTup (dConsV (dOpP dSub2 (dVar 2) (dC (.int 1))) (dConsV (dOpP dAdd (dVar 2) (dC (.int 1))) dNilV)))) (dVar 4)) dNilV)) dNilV)))))))))))
def D_twins (c : Cl) : Fn := dFn (vals 2) 5 (B_twins c)
theorem D_twins_in {c : Cl} {o0 o1 : O} {P : O → List O → Prop} {PE : DExc → List O → Prop} (h : B_twins c ⟨fun env => P (.fr .non) (outs [false, false] env), fun o env => P o (outs [false, false] env), fun _ => False, fun _ => False, fun e env => PE e (outs [false, false] env)⟩ [S.ow o0, S.ow o1, S.un, S.un, S.un]) : D_twins c [o0, o1] P PE := ⟨rfl, h⟩
theorem D_twins_n {c : Cl} : ∀ os P PE, D_twins c os P PE → os.length = 2 := fun _ _ _ h => h.1
theorem sim_twins {K : PySem.W.Frag} {c : Cl} (fa : Fa K c) (E : XK) : SimS (fun cls dd _ H => E cls dd H) (u_twins K c E) (B_twins c) :=
  (sim_seq (sim_drop (sim_callX D_check_view_n (sim_consV (SimP.e sim_var) sim_nilV))) (sim_seq (sim_drop (sim_callX D_check_number_n (sim_consV (SimP.e sim_var) (sim_consV (SimP.e sim_int) (sim_consV (SimP.e sim_int) sim_nilV))))) (sim_seq (sim_post (sim_asg (SimP.e (simp_ix sim_var sim_int)) sim_name)) (sim_seq (sim_ifs (sim_test (SimP.e (simp_op simr_ltG sim_var (simp_op simr_add sim_var sim_int)))) (sim_ret (SimP.e sim_non)) sim_next) (sim_seq (sim_ifs (sim_test (SimP.e (simp_op simr_eq sim_var sim_int))) (sim_ret (sim_tup (sim_consV (sim_make0 D_Tree_init_n (sim_consV (sim_opP simr_mul (sim_tup (sim_consV (SimP.e sim_int) sim_nilV)) sim_var) sim_nilV)) (sim_consV (sim_make0 D_Tree_init_n (sim_consV (sim_op simr_add (sim_op simr_add (sim_tup (sim_consV (SimP.e sim_int) sim_nilV)) (sim_tup (sim_consV (SimP.e sim_int) sim_nilV))) (sim_opP simr_mul (sim_tup (sim_consV (SimP.e sim_int) sim_nilV)) (simp_op simr_sub sim_var sim_int))) sim_nilV)) sim_nilV)))) sim_next) (sim_seq (sim_asg (sim_tupRg1 (SimP.e sim_var)) sim_name) (sim_seq (sim_post (sim_asg (sim_opP simr_mul (sim_tup (sim_consV (SimP.e sim_int) sim_nilV)) (simp_op simr_sub (simp_op simr_sub sim_var sim_var) sim_int)) sim_name)) (sim_ret (sim_tup (sim_consV (sim_make0 D_Tree_init_n (sim_consV (sim_opP simr_add (sim_op simr_add (SimP.e sim_var) (sim_tup (sim_consV (SimP.e (simp_op simr_sub sim_var sim_int)) (sim_consV (SimP.e sim_var) sim_nilV)))) sim_var) sim_nilV)) (sim_consV (sim_make0 D_Tree_init_n (sim_consV (sim_opP simr_add (sim_op simr_add (SimP.e sim_var) (sim_tup (sim_consV (SimP.e (simp_op simr_sub sim_var sim_int)) (sim_consV (SimP.e (simp_op simr_add sim_var sim_int)) sim_nilV)))) sim_var) sim_nilV)) sim_nilV)))))))))))

def u_l_draw (K : PySem.W.Frag) (c : Cl) : TS :=
  (tSeq (tIfS (tAnd (tTest (tOp xLe (tOp (rIx K) (tVar 0) (tC (.int 2))) (tC (.int 1)))) (tTest (tOp xGt (tCB (xLenG K) (tCons (tOp (rIx K) (tVar 0) (tC (.int 0))) tNil)) (tC (.int 0))))) (tSeq (tAsg (tOp (rIx K) (tOp (rIx K) (tVar 0) (tC (.int 0))) (tC (.int 0))) (gSub (tVar 0) (tC (.int 2)) rSetL)) (tAsg (tSl (xSlG K) (tOp (rIx K) (tVar 0) (tC (.int 0))) (tPart (tC (.int 1))) tNoPart) (gSub (tVar 0) (tC (.int 0)) rSetL))) tNext) (tSeq (tIfS (tTest (tOp xGt (tOp (rIx K) (tVar 0) (tC (.int 2))) (tC (.int 1)))) (tSeq (tAsg (tOp xMod (tCB xInt (tCons (tOp (rIx K) (tVar 0) (tC (.int 2))) tNil)) (tVar 1)) (gName 2)) (tSeq (tAsg (tOp xDiv (tOp (rIx K) (tVar 0) (tC (.int 2))) (tVar 1)) (gSub (tVar 0) (tC (.int 2)) rSetL)) (tRet (tVar 2)))) tNext) (tSeq (tAsg (tOp (xAddG K) (tOp (rIx K) (tVar 0) (tC (.int 3))) (tC (.int 1))) (gSub (tVar 0) (tC (.int 3)) rSetL)) (tSeq (tAsg (tC (.int 0)) (gName 3)) (tSeq (tIfS (tTest (tOp xGt (tCB (xLenG K) (tCons (tOp (rIx K) (tVar 0) (tC (.int 1))) tNil)) (tC (.int 0)))) (tAsg (tOp (rIx K) (tOp (rIx K) (tVar 0) (tC (.int 1))) (tOp xMod (tCB xInt (tCons (tOp (rIx K) (tVar 0) (tC (.int 3))) tNil)) (tCB (xLenG K) (tCons (tOp (rIx K) (tVar 0) (tC (.int 1))) tNil)))) (gName 3)) tNext) (tSeq (tAsg (tOp xMod (tCB xInt (tCons (tOp (xMulG K) (tOp (xAddG K) (tOp (xAddG K) (tVar 3) (tOp (xMulG K) (tC (.int 7919)) (tOp (rIx K) (tVar 0) (tC (.int 3))))) (tC (.int 1))) (tC (.int 48271))) tNil)) (tC (.int 2147483647))) (gName 4)) (tSeq (tAsg (tOp xMod (tCB xInt (tCons (tOp (xMulG K) (tVar 4) (tOp (xAddG K) (tOp xDiv (tVar 4) (tC (.int 1009))) (tC (.int 69621)))) tNil)) (tC (.int 2147483647))) (gName 4)) (tSeq (tAsg (tOp xMod (tCB xInt (tCons (tOp (xMulG K) (tVar 4) (tOp (xAddG K) (tOp xDiv (tVar 4) (tC (.int 2003))) (tC (.int 40692)))) tNil)) (tC (.int 2147483399))) (gName 4)) (tRet (tOp xMod (tCB xInt (tCons (tOp xDiv (tVar 4) (tC (.int 16))) tNil)) (tVar 1)))))))))))
def B_l_draw (c : Cl) : DTS :=
  (dCut (dIfS (dAnd (dTest (dOpP dLe (dIx (dVar 0) (dC (.int 2))) (dC (.int 1)))) (dTest (dOpP dGt (dCB dLen (dLastA (dIx (dVar 0) (dC (.int 0))))) (dC (.int 0))))) (dSeq (dAsg (dIx (dIx (dVar 0) (dC (.int 0))) (dC (.int 0))) (dSub (dVar 0) (dC (.int 2)))) (dAsg (dSl (dIx (dVar 0) (dC (.int 0))) (dPart (dC (.int 1))) dNoPart) (dSub (dVar 0) (dC (.int 0))))) dNext) (dSeq (dIfS (dTest (dOpP dGt (dIx (dVar 0) (dC (.int 2))) (dC (.int 1)))) (dSeq (dAsg (dOpP dMod (dCB dInt (dLastA (dIx (dVar 0) (dC (.int 2))))) (dVar 1)) (dName 2)) (dSeq (dPost [1] (dAsg (dOpP dDiv (dIx (dVar 0) (dC (.int 2))) (dVar 1)) (dSub (dVar 0) (dC (.int 2))))) (dRet (dVar 2)))) dNext) (dSeq (dAsg (dOpP dAdd (dIx (dVar 0) (dC (.int 3))) (dC (.int 1))) (dSub (dVar 0) (dC (.int 3)))) (dSeq (dAsg (dC (.int 0)) (dName 3)) (dCut (dIfS (dTest (dOpP dGt (dCB dLen (dLastA (dIx (dVar 0) (dC (.int 1))))) (dC (.int 0)))) (dKill [3] (dAsg (dIx (dIx (dVar 0) (dC (.int 1))) (dOpP dMod (dCB dInt (dLastA (dIx (dVar 0) (dC (.int 3))))) (dCB dLen (dLastA (dIx (dVar 0) (dC (.int 1))))))) (dName 3))) dNext) (dSeq (dPost [3] (dAsg (dOpP dMod (dCB dInt (dLastA (dOpP dMul (dOpP dAdd (dOpP dAdd (dVar 3) (dOpP dMul (dC (.int 7919)) (dIx (dVar 0) (dC (.int 3))))) (dC (.int 1))) (dC (.int 48271))))) (dC (.int 2147483647))) (dName 4))) (dSeq (dAsg (dOpP dMod (dCB dInt (dLastA (dOpP dMul (dVar 4) (dOpP dAdd (dOpP dDiv (dVar 4) (dC (.int 1009))) (dC (.int 69621)))))) (dC (.int 2147483647))) (dName 4)) (dSeq (dAsg (dOpP dMod (dCB dInt (dLastA (dOpP dMul (dVar 4) (dOpP dAdd (dOpP dDiv (dVar 4) (dC (.int 2003))) (dC (.int 40692)))))) (dC (.int 2147483399))) (dName 4)) (dRet (dOpP dMod (dCB dInt (dLastA (dOpP dDiv (dVar 4) (dC (.int 16))))) (dVar 1)))))))))))
def D_l_draw (c : Cl) : Fn := dFn (true :: vals 1) 5 (B_l_draw c)
theorem D_l_draw_in {c : Cl} {o0 o1 : O} {P : O → List O → Prop} {PE : DExc → List O → Prop} (h : B_l_draw c ⟨fun env => P (.fr .non) (outs [true, false] env), fun o env => P o (outs [true, false] env), fun _ => False, fun _ => False, fun e env => PE e (outs [true, false] env)⟩ [S.bo o0, S.ow o1, S.un, S.un, S.un]) : D_l_draw c [o0, o1] P PE := ⟨rfl, h⟩
theorem D_l_draw_n {c : Cl} : ∀ os P PE, D_l_draw c os P PE → os.length = 1 + 1 := fun _ _ _ h => h.1
theorem sim_l_draw {K : PySem.W.Frag} {c : Cl} (fa : Fa K c) (E : XK) : SimS (fun cls dd _ H => E cls dd H) (u_l_draw K c) (B_l_draw c) :=
  (sim_cut (sim_ifs (sim_and (sim_test (SimP.e (simp_op simr_le (simp_ix sim_var sim_int) sim_int))) (sim_test (SimP.e (simp_op simr_gt (simp_cb1 sim_len (simp_ix sim_var sim_int)) sim_int)))) (sim_seq (sim_asg (SimP.e (simp_ix (simp_ix sim_var sim_int) sim_int)) (sim_sub sim_var sim_int)) (sim_asg (sim_sl (SimP.e (simp_ix sim_var sim_int)) (sim_part sim_int) sim_noPart) (sim_sub sim_var sim_int))) sim_next) (sim_seq (sim_ifs (sim_test (SimP.e (simp_op simr_gt (simp_ix sim_var sim_int) sim_int))) (sim_seq (sim_asg (SimP.e (simp_op simr_mod (simp_cb1 sim_intB (simp_ix sim_var sim_int)) sim_var)) sim_name) (sim_seq (sim_post (sim_asg (SimP.e (simp_op simr_div (simp_ix sim_var sim_int) sim_var)) (sim_sub sim_var sim_int))) (sim_ret (SimP.e sim_var)))) sim_next) (sim_seq (sim_asg (SimP.e (simp_op simr_add (simp_ix sim_var sim_int) sim_int)) (sim_sub sim_var sim_int)) (sim_seq (sim_asg (SimP.e sim_int) sim_name) (sim_cut (sim_ifs (sim_test (SimP.e (simp_op simr_gt (simp_cb1 sim_len (simp_ix sim_var sim_int)) sim_int))) (sim_kill (sim_asg (SimP.e (simp_ix (simp_ix sim_var sim_int) (simp_op simr_mod (simp_cb1 sim_intB (simp_ix sim_var sim_int)) (simp_cb1 sim_len (simp_ix sim_var sim_int))))) sim_name)) sim_next) (sim_seq (sim_post (sim_asg (SimP.e (simp_op simr_mod (simp_cb1 sim_intB (simp_op simr_mul (simp_op simr_add (simp_op simr_add sim_var (simp_op simr_mul sim_int (simp_ix sim_var sim_int))) sim_int) sim_int)) sim_int)) sim_name)) (sim_seq (sim_asg (SimP.e (simp_op simr_mod (simp_cb1 sim_intB (simp_op simr_mul sim_var (simp_op simr_add (simp_op simr_div sim_var sim_int) sim_int))) sim_int)) sim_name) (sim_seq (sim_asg (SimP.e (simp_op simr_mod (simp_cb1 sim_intB (simp_op simr_mul sim_var (simp_op simr_add (simp_op simr_div sim_var sim_int) sim_int))) sim_int)) sim_name) (sim_ret (SimP.e (simp_op simr_mod (simp_cb1 sim_intB (simp_op simr_div sim_var sim_int)) sim_var)))))))))))
def u_l_pick (K : PySem.W.Frag) (c : Cl) : TS :=
  (tRet (tOp (rIx K) (tVar 1) (tCall (spD (true :: vals 1) (D_l_draw c)) [] E0 (tCons (tVar 0) (tCons (tCB (xLenG K) (tCons (tVar 1) tNil)) tNil)))))
def B_l_pick (c : Cl) : DTS :=
  (dRet (dIxE (dVar 1) (dCallM false (D_l_draw c) 0 (dConsV (dCB dLen (dLastA (dVar 1))) dNilV))))
def D_l_pick (c : Cl) : Fn := dFn (true :: vals 1) 2 (B_l_pick c)
theorem D_l_pick_in {c : Cl} {o0 o1 : O} {P : O → List O → Prop} {PE : DExc → List O → Prop} (h : B_l_pick c ⟨fun env => P (.fr .non) (outs [true, false] env), fun o env => P o (outs [true, false] env), fun _ => False, fun _ => False, fun e env => PE e (outs [true, false] env)⟩ [S.bo o0, S.ow o1]) : D_l_pick c [o0, o1] P PE := ⟨rfl, h⟩
theorem D_l_pick_n {c : Cl} : ∀ os P PE, D_l_pick c os P PE → os.length = 1 + 1 := fun _ _ _ h => h.1
theorem sim_l_pick {K : PySem.W.Frag} {c : Cl} (fa : Fa K c) (E : XK) : SimS (fun cls dd _ H => E cls dd H) (u_l_pick K c) (B_l_pick c) :=
  (sim_ret (sim_ixE (SimP.e sim_var) (sim_callM0 D_l_draw_n (sim_consV (SimP.e (simp_cb1 sim_len sim_var)) sim_nilV))))
def BB_l_is (c : Cl) (D_rec : Fn) : DTS :=
  (dSeq (dIfS (dTest (dCB (dIsi [c.Tree]) (dConsA (dVar 1) (dLastA (dTup (dConsV (dC (.ty "tuple")) (dConsV (dC (.ty "list")) dNilV))))))) (dSeq (dIfS (dOr (dTest (dOp dNe (dCB (dIsi [c.Tree]) (dConsA (dVar 0) (dLastA (dC (.ty "tuple"))))) (dCB (dIsi [c.Tree]) (dConsA (dVar 1) (dLastA (dC (.ty "tuple"))))))) (dTest (dOp dNe (dCB (dIsi [c.Tree]) (dConsA (dVar 0) (dLastA (dC (.ty "list"))))) (dCB (dIsi [c.Tree]) (dConsA (dVar 1) (dLastA (dC (.ty "list")))))))) (dRet (dC (.bl false))) dNext) (dRet (dAndV (dOpP dEq (dCB dLen (dLastA (dVar 0))) (dCB dLen (dLastA (dVar 1)))) (dCB dAll (dLastA (dLc (dRng1 (dLastA (dCB dLen (dLastA (dVar 1))))) (dName 2) dYes (dCall false D_rec (dConsV (dIx (dVar 0) (dVar 2)) (dConsV (dIx (dVar 1) (dVar 2)) dNilV))) [2])))))) dNext) (dSeq (dIfS (dTest (dCB (dIsi [c.Tree]) (dConsA (dVar 1) (dLastA (dC (.ty "dict")))))) dNever dNext) (dSeq (dIfS (dTest (dOpP dIs (dVar 1) (dC .non))) (dRet (dOpP dIs (dVar 0) (dC .non))) dNext) (dRet (dAndV (dOp dEq (dCB (dIsi [c.Tree]) (dConsA (dVar 0) (dLastA (dC (.ty "bool"))))) (dCB (dIsi [c.Tree]) (dConsA (dVar 1) (dLastA (dC (.ty "bool")))))) (dAndV (dOpP dIsNot (dVar 0) (dC .non)) (dOpP dEq (dVar 0) (dVar 1))))))))
def D_l_is (c : Cl) : Nat → Fn
  | 0 => fun _ _ _ => False
  | k + 1 => dFn (vals 2) 4 (BB_l_is c (D_l_is c k))
theorem D_l_is_in {c : Cl} {k : Nat} {o0 o1 : O} {P : O → List O → Prop} {PE : DExc → List O → Prop} (h : BB_l_is c (D_l_is c k) ⟨fun env => P (.fr .non) (outs [false, false] env), fun o env => P o (outs [false, false] env), fun _ => False, fun _ => False, fun e env => PE e (outs [false, false] env)⟩ [S.ow o0, S.ow o1, S.un, S.un]) : D_l_is c (k + 1) [o0, o1] P PE := ⟨rfl, h⟩
theorem D_l_is_n {c : Cl} : ∀ {k : Nat} os P PE, D_l_is c k os P PE → os.length = 2
  | 0, _, _, _, h => h.elim
  | _ + 1, _, _, _, h => h.1
def u_l_is (K : PySem.W.Frag) (c : Cl) (k : Nat) : TS :=
  (tSeq (tIfS (tB (tCB (xIsiG K) (tCons (tVar 1) (tCons (tTup (tCons (tC (.ty "tuple")) (tCons (tC (.ty "list")) tNil))) tNil)))) (tSeq (tIfS (tOr (tTest (tOp (rNeD K) (tCB (xIsiG K) (tCons (tVar 0) (tCons (tC (.ty "tuple")) tNil))) (tCB (xIsiG K) (tCons (tVar 1) (tCons (tC (.ty "tuple")) tNil))))) (tTest (tOp (rNeD K) (tCB (xIsiG K) (tCons (tVar 0) (tCons (tC (.ty "list")) tNil))) (tCB (xIsiG K) (tCons (tVar 1) (tCons (tC (.ty "list")) tNil)))))) (tRet (tC (.bl false))) tNext) (tRet (tAndV (tOp (rEqD K) (tCB (xLenG K) (tCons (tVar 0) tNil)) (tCB (xLenG K) (tCons (tVar 1) tNil))) (tCB (rAll K) (tCons (tLc (iRng1 (tCons (tCB (xLenG K) (tCons (tVar 1) tNil)) tNil)) (gName 2) tYes (tCall (spD (vals 2) (D_l_is c k)) [] E0 (tCons (tOp (rIx K) (tVar 0) (tVar 2)) (tCons (tOp (rIx K) (tVar 1) (tVar 2)) tNil))) [2]) tNil))))) tNext) (tSeq (tIfS (tB (tCB (xIsiG K) (tCons (tVar 1) (tCons (tC (.ty "dict")) tNil)))) tNever tNext) (tSeq (tIfS (tTest (tOp xIsG (tVar 1) (tC .non))) (tRet (tOp xIsG (tVar 0) (tC .non))) tNext) (tRet (tAndV (tOp (rEqD K) (tCB (xIsiG K) (tCons (tVar 0) (tCons (tC (.ty "bool")) tNil))) (tCB (xIsiG K) (tCons (tVar 1) (tCons (tC (.ty "bool")) tNil)))) (tAndV (tOp xNotG (tVar 0) (tC .non)) (tOp (rEqD K) (tVar 0) (tVar 1))))))))
theorem sim_l_is {K : PySem.W.Frag} {c : Cl} (fa : Fa K c) (k : Nat) (E : XK) : SimS (fun cls dd _ H => E cls dd H) (u_l_is K c k) (BB_l_is c (D_l_is c k)) :=
  (sim_seq (sim_ifs (sim_b (sim_cb (sim_isi fa.cls) (sim_consA (SimP.e sim_var) (sim_lastA (sim_tup (sim_consV (SimP.e sim_ty) (sim_consV (SimP.e sim_ty) sim_nilV))))))) (sim_seq (sim_ifs (sim_or (sim_test (sim_op simr_ne (sim_cb (sim_isi fa.cls) (sim_consA (SimP.e sim_var) (sim_lastA (SimP.e sim_ty)))) (sim_cb (sim_isi fa.cls) (sim_consA (SimP.e sim_var) (sim_lastA (SimP.e sim_ty)))))) (sim_test (sim_op simr_ne (sim_cb (sim_isi fa.cls) (sim_consA (SimP.e sim_var) (sim_lastA (SimP.e sim_ty)))) (sim_cb (sim_isi fa.cls) (sim_consA (SimP.e sim_var) (sim_lastA (SimP.e sim_ty))))))) (sim_ret (SimP.e sim_bl)) sim_next) (sim_ret (sim_andV (SimP.e (simp_op simr_eq (simp_cb1 sim_len sim_var) (simp_cb1 sim_len sim_var))) (sim_cb sim_all (sim_lastA (sim_lc (sim_rng1 (sim_lastA (SimP.e (simp_cb1 sim_len sim_var)))) sim_name sim_yes (sim_call0 D_l_is_n (sim_consV (SimP.e (simp_ix sim_var sim_var)) (sim_consV (SimP.e (simp_ix sim_var sim_var)) sim_nilV))) (by decide))))))) sim_next) (sim_seq (sim_ifs (sim_b (sim_cb (sim_isi fa.cls) (sim_consA (SimP.e sim_var) (sim_lastA (SimP.e sim_ty))))) sim_never sim_next) (sim_seq (sim_ifs (sim_test (SimP.e (simp_op simr_is sim_var sim_non))) (sim_ret (SimP.e (simp_op simr_is sim_var sim_non))) sim_next) (sim_ret (sim_andV (sim_op simr_eq (sim_cb (sim_isi fa.cls) (sim_consA (SimP.e sim_var) (sim_lastA (SimP.e sim_ty)))) (sim_cb (sim_isi fa.cls) (sim_consA (SimP.e sim_var) (sim_lastA (SimP.e sim_ty))))) (sim_andV (SimP.e (simp_op simr_isNot sim_var sim_non)) (SimP.e (simp_op simr_eq sim_var sim_var))))))))
def u_l_deep (K : PySem.W.Frag) (c : Cl) : TS :=
  (tSeq (tAsg (tLst (tCons (tC .non) tNil)) (gName 0)) (tSeq (tFor (iRng1 (tCons (tC (.int 32)) tNil)) (gName 1) (tAsg (tIf (tTest (tOp (rEqD K) (tOp xMod (tCB xInt (tCons (tVar 1) tNil)) (tC (.int 2))) (tC (.int 0)))) (tTup (tCons (tVar 0) tNil)) (tLst (tCons (tVar 0) tNil))) (gName 0))) (tRet (tVar 0))))
def B_l_deep (c : Cl) : DTS :=
  (dSeq (dAsg (dLst (dConsV (dC .non) dNilV)) (dName 0)) (dSeq (dPost [1] (dFor (dRng1 (dLastA (dC (.int 32)))) (dName 1) (dPost [1] (dAsg (dIf (dTest (dOpP dEq (dOpP dMod (dCB dInt (dLastA (dVar 1))) (dC (.int 2))) (dC (.int 0)))) (dTup (dConsV (dVar 0) dNilV)) (dLst (dConsV (dVar 0) dNilV))) (dName 0))))) (dRet (dVar 0))))
def D_l_deep (c : Cl) : Fn := dFn (vals 0) 2 (B_l_deep c)
theorem D_l_deep_in {c : Cl} {P : O → List O → Prop} {PE : DExc → List O → Prop} (h : B_l_deep c ⟨fun env => P (.fr .non) (outs [] env), fun o env => P o (outs [] env), fun _ => False, fun _ => False, fun e env => PE e (outs [] env)⟩ [S.un, S.un]) : D_l_deep c [] P PE := ⟨rfl, h⟩
theorem D_l_deep_n {c : Cl} : ∀ os P PE, D_l_deep c os P PE → os.length = 0 := fun _ _ _ h => h.1
theorem sim_l_deep {K : PySem.W.Frag} {c : Cl} (fa : Fa K c) (E : XK) : SimS (fun cls dd _ H => E cls dd H) (u_l_deep K c) (B_l_deep c) :=
  (sim_seq (sim_asg (sim_lst (sim_consV (SimP.e sim_non) sim_nilV)) sim_name) (sim_seq (sim_post (sim_for (sim_rng1 (sim_lastA (SimP.e sim_int))) sim_name (sim_post (sim_asg (sim_if (sim_test (SimP.e (simp_op simr_eq (simp_op simr_mod (simp_cb1 sim_intB sim_var) sim_int) sim_int))) (sim_tup (sim_consV (SimP.e sim_var) sim_nilV)) (sim_lst (sim_consV (SimP.e sim_var) sim_nilV))) sim_name)))) (sim_ret (SimP.e sim_var))))
def u_l_is_number (K : PySem.W.Frag) (c : Cl) : TS :=
  (tRet (tAndV (tCB (xIsiG K) (tCons (tVar 0) (tCons (tC (.ty "int")) tNil))) (tAndV (tNotV (tCB (xIsiG K) (tCons (tVar 0) (tCons (tC (.ty "bool")) tNil)))) (tChain xLe xLe (tVar 1) (tVar 0) (tVar 2)))))
def B_l_is_number (c : Cl) : DTS :=
  (dRet (dAndV (dCB (dIsi [c.Tree]) (dConsA (dVar 0) (dLastA (dC (.ty "int"))))) (dAndV (dNotV (dCB (dIsi [c.Tree]) (dConsA (dVar 0) (dLastA (dC (.ty "bool")))))) (dChain dLe dLe (dVar 1) (dVar 0) (dVar 2)))))
def D_l_is_number (c : Cl) : Fn := dFn (vals 3) 3 (B_l_is_number c)
theorem D_l_is_number_in {c : Cl} {o0 o1 o2 : O} {P : O → List O → Prop} {PE : DExc → List O → Prop} (h : B_l_is_number c ⟨fun env => P (.fr .non) (outs [false, false, false] env), fun o env => P o (outs [false, false, false] env), fun _ => False, fun _ => False, fun e env => PE e (outs [false, false, false] env)⟩ [S.ow o0, S.ow o1, S.ow o2]) : D_l_is_number c [o0, o1, o2] P PE := ⟨rfl, h⟩
theorem D_l_is_number_n {c : Cl} : ∀ os P PE, D_l_is_number c os P PE → os.length = 3 := fun _ _ _ h => h.1
theorem sim_l_is_number {K : PySem.W.Frag} {c : Cl} (fa : Fa K c) (E : XK) : SimS (fun cls dd _ H => E cls dd H) (u_l_is_number K c) (B_l_is_number c) :=
  (sim_ret (sim_andV (sim_cb (sim_isi fa.cls) (sim_consA (SimP.e sim_var) (sim_lastA (SimP.e sim_ty)))) (sim_andV (sim_notV (sim_cb (sim_isi fa.cls) (sim_consA (SimP.e sim_var) (sim_lastA (SimP.e sim_ty))))) (sim_chain simr_le simr_le (SimP.e sim_var) (SimP.e sim_var) (SimP.e sim_var)))))
def u_l_mixed (K : PySem.W.Frag) (c : Cl) : TS :=
  (tSeq (tAsg (tLstRg (tRg2 (tC (.int 1)) (tOp (xAddG K) (tVar 1) (tC (.int 1))))) (gName 2)) (tRet (tLc (iRng1 (tCons (tVar 1) tNil)) (gName 3) tYes (tBM K "list" rPopAt (tVar 2) (tCons (tCall (spD (true :: vals 1) (D_l_draw c)) [] E0 (tCons (tVar 0) (tCons (tCB (xLenG K) (tCons (tVar 2) tNil)) tNil))) tNil)) [3])))
def B_l_mixed (c : Cl) : DTS :=
  (dSeq (dAsg (dRg true (dConsA (dC (.int 1)) (dLastA (dOpP dAdd (dVar 1) (dC (.int 1)))))) (dName 2)) (dRet (dLc (dRng1 (dLastA (dVar 1))) (dName 3) dYes (dMeth1 fPopAt 2 (dCallM false (D_l_draw c) 0 (dConsV (dCB dLen (dLastA (dVar 2))) dNilV))) [3])))
def D_l_mixed (c : Cl) : Fn := dFn (true :: vals 1) 4 (B_l_mixed c)
theorem D_l_mixed_in {c : Cl} {o0 o1 : O} {P : O → List O → Prop} {PE : DExc → List O → Prop} (h : B_l_mixed c ⟨fun env => P (.fr .non) (outs [true, false] env), fun o env => P o (outs [true, false] env), fun _ => False, fun _ => False, fun e env => PE e (outs [true, false] env)⟩ [S.bo o0, S.ow o1, S.un, S.un]) : D_l_mixed c [o0, o1] P PE := ⟨rfl, h⟩
theorem D_l_mixed_n {c : Cl} : ∀ os P PE, D_l_mixed c os P PE → os.length = 1 + 1 := fun _ _ _ h => h.1
theorem sim_l_mixed {K : PySem.W.Frag} {c : Cl} (fa : Fa K c) (E : XK) : SimS (fun cls dd _ H => E cls dd H) (u_l_mixed K c) (B_l_mixed c) :=
  (sim_seq (sim_asg (sim_lstRg2 (SimP.e sim_int) (SimP.e (simp_op simr_add sim_var sim_int))) sim_name) (sim_ret (sim_lc (sim_rng1 (sim_lastA (SimP.e sim_var))) sim_name sim_yes (sim_meth1 simM_popAt (sim_callM0 D_l_draw_n (sim_consV (SimP.e (simp_cb1 sim_len sim_var)) sim_nilV))) (by decide))))
def u_l_hung (K : PySem.W.Frag) (c : Cl) : TS :=
  (tSeq (tAsg (tCall (spD (true :: vals 1) (D_l_draw c)) [] E0 (tCons (tVar 0) (tCons (tC (.int 4)) tNil))) (gName 2)) (tSeq (tAsg (tOp (xAddG K) (tLst (tCons (tC (.int 0)) tNil)) (tCall (spD (true :: vals 1) (D_l_mixed c)) [] E0 (tCons (tVar 0) (tCons (tVar 1) tNil)))) (gName 3)) (tSeq (tAsg (tOp (xMulG K) (tLst (tCons (tC (.int 0)) tNil)) (tVar 1)) (gName 4)) (tSeq (tFor (iRng2 (tCons (tC (.int 1)) (tCons (tOp (xAddG K) (tVar 1) (tC (.int 1))) tNil))) (gName 5) (tSeq (tAsg (tCall (spD (true :: vals 1) (D_l_draw c)) [] E0 (tCons (tVar 0) (tCons (tVar 5) tNil))) (gName 6)) (tSeq (tIfS (tOr (tTest (tOp (rEqD K) (tVar 2) (tC (.int 0)))) (tAnd (tTest (tOp (rEqD K) (tVar 2) (tC (.int 1)))) (tTest (tOp xGt (tCall (spD (true :: vals 1) (D_l_draw c)) [] E0 (tCons (tVar 0) (tCons (tC (.int 3)) tNil))) (tC (.int 0)))))) (tAsg (tOp xSub (tVar 5) (tC (.int 1))) (gName 6)) tNext) (tSeq (tIfS (tAnd (tTest (tOp (rEqD K) (tVar 2) (tC (.int 2)))) (tTest (tOp (rEqD K) (tCall (spD (true :: vals 1) (D_l_draw c)) [] E0 (tCons (tVar 0) (tCons (tC (.int 2)) tNil))) (tC (.int 0))))) (tAsg (tC (.int 0)) (gName 6)) tNext) (tAsg (tOp (rIx K) (tVar 3) (tVar 6)) (gSub (tVar 4) (tOp xSub (tOp (rIx K) (tVar 3) (tVar 5)) (tC (.int 1))) rSetL)))))) (tRet (tCB (xTupleOf K) (tCons (tVar 4) tNil)))))))
def B_l_hung (c : Cl) : DTS :=
  (dSeq (dAsg (dCallM false (D_l_draw c) 0 (dConsV (dC (.int 4)) dNilV)) (dName 2)) (dSeq (dAsg (dOp dAdd (dLst (dConsV (dC (.int 0)) dNilV)) (dCallM false (D_l_mixed c) 0 (dConsV (dVar 1) dNilV))) (dName 3)) (dSeq (dAsg (dOpP dMul (dLst (dConsV (dC (.int 0)) dNilV)) (dVar 1)) (dName 4)) (dSeq (dPost [1, 2, 3, 5, 6] (dFor (dIterK [1] (dRng2 (dConsA (dC (.int 1)) (dLastA (dOpP dAdd (dVar 1) (dC (.int 1))))))) (dName 5) (dSeq (dAsg (dCallM false (D_l_draw c) 0 (dConsV (dVar 5) dNilV)) (dName 6)) (dCut (dIfS (dOr (dTest (dOpP dEq (dVar 2) (dC (.int 0)))) (dAnd (dTest (dOpP dEq (dVar 2) (dC (.int 1)))) (dTest (dOpP dGt (dCallM false (D_l_draw c) 0 (dConsV (dC (.int 3)) dNilV)) (dC (.int 0)))))) (dKill [6] (dAsg (dOpP dSub2 (dVar 5) (dC (.int 1))) (dName 6))) dNext) (dCut (dIfS (dAnd (dTest (dOpP dEq (dVar 2) (dC (.int 2)))) (dTest (dOpP dEq (dCallM false (D_l_draw c) 0 (dConsV (dC (.int 2)) dNilV)) (dC (.int 0))))) (dKill [6] (dAsg (dC (.int 0)) (dName 6))) dNext) (dPost [5, 6] (dAsg (dIx (dVar 3) (dVar 6)) (dSub (dVar 4) (dOpP dSub2 (dIx (dVar 3) (dVar 5)) (dC (.int 1))))))))))) (dRet (dCB dTuple (dLastA (dVar 4))))))))
def D_l_hung (c : Cl) : Fn := dFn (true :: vals 1) 7 (B_l_hung c)
theorem D_l_hung_in {c : Cl} {o0 o1 : O} {P : O → List O → Prop} {PE : DExc → List O → Prop} (h : B_l_hung c ⟨fun env => P (.fr .non) (outs [true, false] env), fun o env => P o (outs [true, false] env), fun _ => False, fun _ => False, fun e env => PE e (outs [true, false] env)⟩ [S.bo o0, S.ow o1, S.un, S.un, S.un, S.un, S.un]) : D_l_hung c [o0, o1] P PE := ⟨rfl, h⟩
theorem D_l_hung_n {c : Cl} : ∀ os P PE, D_l_hung c os P PE → os.length = 1 + 1 := fun _ _ _ h => h.1
theorem sim_l_hung {K : PySem.W.Frag} {c : Cl} (fa : Fa K c) (E : XK) : SimS (fun cls dd _ H => E cls dd H) (u_l_hung K c) (B_l_hung c) :=
  (sim_seq (sim_asg (sim_callM0 D_l_draw_n (sim_consV (SimP.e sim_int) sim_nilV)) sim_name) (sim_seq (sim_asg (sim_op simr_add (sim_lst (sim_consV (SimP.e sim_int) sim_nilV)) (sim_callM0 D_l_mixed_n (sim_consV (SimP.e sim_var) sim_nilV))) sim_name) (sim_seq (sim_asg (sim_opP simr_mul (sim_lst (sim_consV (SimP.e sim_int) sim_nilV)) sim_var) sim_name) (sim_seq (sim_post (sim_for (sim_iterK (sim_rng2 (sim_consA (SimP.e sim_int) (sim_lastA (SimP.e (simp_op simr_add sim_var sim_int)))))) sim_name (sim_seq (sim_asg (sim_callM0 D_l_draw_n (sim_consV (SimP.e sim_var) sim_nilV)) sim_name) (sim_cut (sim_ifs (sim_or (sim_test (SimP.e (simp_op simr_eq sim_var sim_int))) (sim_and (sim_test (SimP.e (simp_op simr_eq sim_var sim_int))) (sim_test (sim_opP simr_gt (sim_callM0 D_l_draw_n (sim_consV (SimP.e sim_int) sim_nilV)) sim_int)))) (sim_kill (sim_asg (SimP.e (simp_op simr_sub sim_var sim_int)) sim_name)) sim_next) (sim_cut (sim_ifs (sim_and (sim_test (SimP.e (simp_op simr_eq sim_var sim_int))) (sim_test (sim_opP simr_eq (sim_callM0 D_l_draw_n (sim_consV (SimP.e sim_int) sim_nilV)) sim_int))) (sim_kill (sim_asg (SimP.e sim_int) sim_name)) sim_next) (sim_post (sim_asg (SimP.e (simp_ix sim_var sim_var)) (sim_sub sim_var (simp_op simr_sub (simp_ix sim_var sim_var) sim_int))))))))) (sim_ret (SimP.e (simp_cb1 sim_tuple sim_var)))))))
def u_l_way (K : PySem.W.Frag) (c : Cl) : TS :=
  (tSeq (tAsg (tLst tNil) (gName 2)) (tSeq (tAsg (tVar 1) (gName 3)) (tSeq (tFor (iSeq K (tVar 0)) (gName 4) (tIfS (tTest (tOp (rNeD K) (tVar 3) (tC (.int 0)))) (tSeq (tAsg (tOp (rIx K) (tVar 0) (tOp xSub (tVar 3) (tC (.int 1)))) (gName 3)) (tDrop (tBM K "list" rAppend (tVar 2) (tCons (tVar 3) tNil)))) tNext)) (tRet (tVar 2)))))
def B_l_way (c : Cl) : DTS :=
  (dSeq (dAsg (dLst dNilV) (dName 2)) (dSeq (dPost [1] (dAsg (dVar 1) (dName 3))) (dSeq (dPost [0, 3, 4] (dFor (dIter (dVar 0)) (dName 4) (dKill [4] (dIfS (dTest (dOpP dNe (dVar 3) (dC (.int 0)))) (dSeq (dAsg (dIx (dVar 0) (dOpP dSub2 (dVar 3) (dC (.int 1)))) (dName 3)) (dDrop (dMeth1 fAppend 2 (dVar 3)))) dNext)))) (dRet (dVar 2)))))
def D_l_way (c : Cl) : Fn := dFn (vals 2) 5 (B_l_way c)
theorem D_l_way_in {c : Cl} {o0 o1 : O} {P : O → List O → Prop} {PE : DExc → List O → Prop} (h : B_l_way c ⟨fun env => P (.fr .non) (outs [false, false] env), fun o env => P o (outs [false, false] env), fun _ => False, fun _ => False, fun e env => PE e (outs [false, false] env)⟩ [S.ow o0, S.ow o1, S.un, S.un, S.un]) : D_l_way c [o0, o1] P PE := ⟨rfl, h⟩
theorem D_l_way_n {c : Cl} : ∀ os P PE, D_l_way c os P PE → os.length = 2 := fun _ _ _ h => h.1
theorem sim_l_way {K : PySem.W.Frag} {c : Cl} (fa : Fa K c) (E : XK) : SimS (fun cls dd _ H => E cls dd H) (u_l_way K c) (B_l_way c) :=
  (sim_seq (sim_asg (sim_lst sim_nilV) sim_name) (sim_seq (sim_post (sim_asg (SimP.e sim_var) sim_name)) (sim_seq (sim_post (sim_for (sim_seq_it (SimP.e sim_var)) sim_name (sim_kill (sim_ifs (sim_test (SimP.e (simp_op simr_ne sim_var sim_int))) (sim_seq (sim_asg (SimP.e (simp_ix sim_var (simp_op simr_sub sim_var sim_int))) sim_name) (sim_drop (sim_meth1 simM_append (SimP.e sim_var)))) sim_next)))) (sim_ret (SimP.e sim_var)))))
def u_l_odd (K : PySem.W.Frag) (c : Cl) : TS :=
  (tRet (tCall (spD (true :: vals 1) (D_l_pick c)) [] E0 (tCons (tVar 0) (tCons (tLst (tCons (tUn xNeg (tC (.int 1))) (tCons (tOp (xAddG K) (tVar 1) (tC (.int 1))) (tCons (tC (.bl true)) (tCons (tC (.bl false)) (tCons (tC .non) (tCons (tC (.str "1")) (tCons (tTup (tCons (tC (.int 1)) tNil)) (tCons (tLst (tCons (tC (.int 1)) tNil)) (tCons tDNewK (tCons (tOp xPow (tC (.int 10)) (tC (.int 40))) (tCons (tCall (spD (vals 0) (D_l_deep c)) [] E0 tNil) (tCons (tVar 1) (tCons (tC (.int 0)) (tCons (tC (.int 1)) tNil))))))))))))))) tNil))))
def B_l_odd (c : Cl) : DTS :=
  (dRet (dCallM false (D_l_pick c) 0 (dConsV (dLst (dConsV (dUn dNeg (dC (.int 1))) (dConsV (dOpP dAdd (dVar 1) (dC (.int 1))) (dConsV (dC (.bl true)) (dConsV (dC (.bl false)) (dConsV (dC .non) (dConsV (dC (.str "1")) (dConsV (dTup (dConsV (dC (.int 1)) dNilV)) (dConsV (dLst (dConsV (dC (.int 1)) dNilV)) (dConsV (dDct0 false) (dConsV (dOpP dPow (dC (.int 10)) (dC (.int 40))) (dConsV (dCall false (D_l_deep c) dNilV) (dConsV (dVar 1) (dConsV (dC (.int 0)) (dConsV (dC (.int 1)) dNilV))))))))))))))) dNilV)))
def D_l_odd (c : Cl) : Fn := dFn (true :: vals 1) 2 (B_l_odd c)
theorem D_l_odd_in {c : Cl} {o0 o1 : O} {P : O → List O → Prop} {PE : DExc → List O → Prop} (h : B_l_odd c ⟨fun env => P (.fr .non) (outs [true, false] env), fun o env => P o (outs [true, false] env), fun _ => False, fun _ => False, fun e env => PE e (outs [true, false] env)⟩ [S.bo o0, S.ow o1]) : D_l_odd c [o0, o1] P PE := ⟨rfl, h⟩
theorem D_l_odd_n {c : Cl} : ∀ os P PE, D_l_odd c os P PE → os.length = 1 + 1 := fun _ _ _ h => h.1
theorem sim_l_odd {K : PySem.W.Frag} {c : Cl} (fa : Fa K c) (E : XK) : SimS (fun cls dd _ H => E cls dd H) (u_l_odd K c) (B_l_odd c) :=
  (sim_ret (sim_callM0 D_l_pick_n (sim_consV (sim_lst (sim_consV (SimP.e (simp_un simr_neg sim_int)) (sim_consV (SimP.e (simp_op simr_add sim_var sim_int)) (sim_consV (SimP.e sim_bl) (sim_consV (SimP.e sim_bl) (sim_consV (SimP.e sim_non) (sim_consV (SimP.e sim_str) (sim_consV (sim_tup (sim_consV (SimP.e sim_int) sim_nilV)) (sim_consV (sim_lst (sim_consV (SimP.e sim_int) sim_nilV)) (sim_consV sim_dctK (sim_consV (SimP.e (simp_op simr_pow sim_int sim_int)) (sim_consV (sim_call0 D_l_deep_n sim_nilV) (sim_consV (SimP.e sim_var) (sim_consV (SimP.e sim_int) (sim_consV (SimP.e sim_int) sim_nilV))))))))))))))) sim_nilV)))
abbrev tab5c (c : Cl) : List (Addr × Str) := tab5 [c.NoBlock, c.NoPlace, c.Beneath, c.NoOrder, c.NoView, c.OtherBlocks, c.NoNumber]
def u_l_order_refused (K : PySem.W.Frag) (c : Cl) : TS :=
  (tSeq (tAsg (tCB (xTupleOf K) (tCons (tCall (spD (true :: vals 1) (D_l_mixed c)) [] E0 (tCons (tVar 0) (tCons (tVar 2) tNil))) tNil)) (gName 3)) (tSeq (tAsg (tCall (spD (true :: vals 1) (D_l_draw c)) [] E0 (tCons (tVar 0) (tCons (tVar 2) tNil))) (gName 4)) (tSeq (tAsg (tLst (tCons (tOp (xAddG K) (tOp (xAddG K) (tSl (xSlG K) (tVar 3) tNoPart (tPart (tVar 4))) (tTup (tCons (tCall (spD (true :: vals 1) (D_l_odd c)) [] E0 (tCons (tVar 0) (tCons (tVar 2) tNil))) tNil))) (tSl (xSlG K) (tVar 3) (tPart (tOp (xAddG K) (tVar 4) (tC (.int 1)))) tNoPart)) (tCons (tOp (xAddG K) (tSl (xSlG K) (tVar 3) tNoPart (tPart (tVar 4))) (tSl (xSlG K) (tVar 3) (tPart (tOp (xAddG K) (tVar 4) (tC (.int 1)))) tNoPart)) (tCons (tOp (xAddG K) (tVar 3) (tSl (xSlG K) (tVar 3) tNoPart (tPart (tC (.int 1))))) tNil)))) (gName 5)) (tSeq (tAsg (tOp (xAddG K) (tVar 5) (tLst (tCons (tCB (xListOf K) (tCons (tVar 3) tNil)) (tCons (tTup tNil) (tCons (tC .non) (tCons (tC (.int 0)) (tCons (tC (.str "")) (tCons tDNewK (tCons (tCall (spD (vals 0) (D_l_deep c)) [] E0 tNil) (tCons (tVar 1) (tCons (tVar 3) (tCons (tOp (xAddG K) (tTup (tCons (tC (.int 0)) tNil)) (tVar 3)) tNil)))))))))))) (gName 5)) (tSeq (tAsg (tCall (spD (true :: vals 1) (D_l_pick c)) [] E0 (tCons (tVar 0) (tCons (tVar 5) tNil))) (gName 6)) (tSeq (tAsg (tAndV (tCB (xIsiG K) (tCons (tVar 6) (tCons (tC (.ty "tuple")) tNil))) (tAndV (tOp (rEqD K) (tCB (xLenG K) (tCons (tVar 6) tNil)) (tVar 2)) (tCB (rAll K) (tCons (tLc (iSeq K (tVar 6)) (gName 8) tYes (tCall (spD (vals 3) (D_l_is_number c)) [] E0 (tCons (tVar 8) (tCons (tC (.int 1)) (tCons (tVar 2) tNil)))) [8]) tNil)))) (gName 7)) (tSeq (tIfS (tB (tVar 7)) (tAsg (tOp (rEqD K) (tCB (xSortG K) (tCons (tVar 6) tNil)) (tLstRg (tRg2 (tC (.int 1)) (tOp (xAddG K) (tVar 2) (tC (.int 1)))))) (gName 7)) tNext) (tRet (tOp (rEqD K) (tLamX tabT (TTw (tab5c c)) fun E => tCall (spD (vals 2) (D_called c)) [] E (tCons (tVar 1) (tCons (tVar 6) tNil))) (tIf (tB (tVar 7)) (tC (.str "let")) (tC (.str "order"))))))))))))
def B_l_order_refused (c : Cl) : DTS :=
  (dSeq (dAsg (dCB dTuple (dLastA (dCallM false (D_l_mixed c) 0 (dConsV (dVar 2) dNilV)))) (dName 3)) (dSeq (dAsg (dCallM false (D_l_draw c) 0 (dConsV (dVar 2) dNilV)) (dName 4)) (dSeq (dPost [4] (dAsg (dLst (dConsV (dOp dAdd (dOp dAdd (dSl (dVar 3) dNoPart (dPart (dVar 4))) (dTup (dConsV (dCallM false (D_l_odd c) 0 (dConsV (dVar 2) dNilV)) dNilV))) (dSl (dVar 3) (dPart (dOpP dAdd (dVar 4) (dC (.int 1)))) dNoPart)) (dConsV (dOp dAdd (dSl (dVar 3) dNoPart (dPart (dVar 4))) (dSl (dVar 3) (dPart (dOpP dAdd (dVar 4) (dC (.int 1)))) dNoPart)) (dConsV (dOp dAdd (dVar 3) (dSl (dVar 3) dNoPart (dPart (dC (.int 1))))) dNilV)))) (dName 5))) (dCut (dPost [3] (dAsg (dOp dAdd (dVar 5) (dLst (dConsV (dCB dList (dLastA (dVar 3))) (dConsV (dTup dNilV) (dConsV (dC .non) (dConsV (dC (.int 0)) (dConsV (dC (.str "")) (dConsV (dDct0 false) (dConsV (dCall false (D_l_deep c) dNilV) (dConsV (dVar 1) (dConsV (dVar 3) (dConsV (dOpP dAdd (dTup (dConsV (dC (.int 0)) dNilV)) (dVar 3)) dNilV)))))))))))) (dName 5))) (dSeq (dPost [5] (dAsg (dCallM false (D_l_pick c) 0 (dConsV (dVar 5) dNilV)) (dName 6))) (dCut (dAsg (dAndV (dCB (dIsi [c.Tree]) (dConsA (dVar 6) (dLastA (dC (.ty "tuple"))))) (dAndV (dOpP dEq (dCB dLen (dLastA (dVar 6))) (dVar 2)) (dCB dAll (dLastA (dLc (dIter (dVar 6)) (dName 8) dYes (dCall false (D_l_is_number c) (dConsV (dVar 8) (dConsV (dC (.int 1)) (dConsV (dVar 2) dNilV)))) [8]))))) (dName 7)) (dCut (dIfS (dTest (dVar 7)) (dKill [7] (dPost [2] (dAsg (dOp dEq (dCB dSorted (dLastA (dVar 6))) (dRg true (dConsA (dC (.int 1)) (dLastA (dOpP dAdd (dVar 2) (dC (.int 1))))))) (dName 7)))) (dKill [2] dNext)) (dRet (dOp dEq (dLam (tab5c c) (D_called c) (dConsV (dVar 1) (dConsV (dVar 6) dNilV))) (dIf (dTest (dVar 7)) (dC (.str "let")) (dC (.str "order"))))))))))))
def D_l_order_refused (c : Cl) : Fn := dFn (true :: vals 2) 9 (B_l_order_refused c)
theorem D_l_order_refused_in {c : Cl} {o0 o1 o2 : O} {P : O → List O → Prop} {PE : DExc → List O → Prop} (h : B_l_order_refused c ⟨fun env => P (.fr .non) (outs [true, false, false] env), fun o env => P o (outs [true, false, false] env), fun _ => False, fun _ => False, fun e env => PE e (outs [true, false, false] env)⟩ [S.bo o0, S.ow o1, S.ow o2, S.un, S.un, S.un, S.un, S.un, S.un]) : D_l_order_refused c [o0, o1, o2] P PE := ⟨rfl, h⟩
theorem D_l_order_refused_n {c : Cl} : ∀ os P PE, D_l_order_refused c os P PE → os.length = 2 + 1 := fun _ _ _ h => h.1
theorem sim_l_order_refused {K : PySem.W.Frag} {c : Cl} (fa : Fa K c) (E : XK) : SimS (fun cls dd _ H => E cls dd H) (u_l_order_refused K c) (B_l_order_refused c) :=
  (sim_seq (sim_asg (sim_cb sim_tuple (sim_lastA (sim_callM0 D_l_mixed_n (sim_consV (SimP.e sim_var) sim_nilV)))) sim_name) (sim_seq (sim_asg (sim_callM0 D_l_draw_n (sim_consV (SimP.e sim_var) sim_nilV)) sim_name) (sim_seq (sim_post (sim_asg (sim_lst (sim_consV (sim_op simr_add (sim_op simr_add (sim_sl (SimP.e sim_var) sim_noPart (sim_part sim_var)) (sim_tup (sim_consV (sim_callM0 D_l_odd_n (sim_consV (SimP.e sim_var) sim_nilV)) sim_nilV))) (sim_sl (SimP.e sim_var) (sim_part (simp_op simr_add sim_var sim_int)) sim_noPart)) (sim_consV (sim_op simr_add (sim_sl (SimP.e sim_var) sim_noPart (sim_part sim_var)) (sim_sl (SimP.e sim_var) (sim_part (simp_op simr_add sim_var sim_int)) sim_noPart)) (sim_consV (sim_op simr_add (SimP.e sim_var) (sim_sl (SimP.e sim_var) sim_noPart (sim_part sim_int))) sim_nilV)))) sim_name)) (sim_cut (sim_post (sim_asg (sim_op simr_add (SimP.e sim_var) (sim_lst (sim_consV (SimP.e (simp_cb1 sim_list sim_var)) (sim_consV (sim_tup sim_nilV) (sim_consV (SimP.e sim_non) (sim_consV (SimP.e sim_int) (sim_consV (SimP.e sim_str) (sim_consV sim_dctK (sim_consV (sim_call0 D_l_deep_n sim_nilV) (sim_consV (SimP.e sim_var) (sim_consV (SimP.e sim_var) (sim_consV (sim_opP simr_add (sim_tup (sim_consV (SimP.e sim_int) sim_nilV)) sim_var) sim_nilV)))))))))))) sim_name)) (sim_seq (sim_post (sim_asg (sim_callM0 D_l_pick_n (sim_consV (SimP.e sim_var) sim_nilV)) sim_name)) (sim_cut (sim_asg (sim_andV (sim_cb (sim_isi fa.cls) (sim_consA (SimP.e sim_var) (sim_lastA (SimP.e sim_ty)))) (sim_andV (SimP.e (simp_op simr_eq (simp_cb1 sim_len sim_var) sim_var)) (sim_cb sim_all (sim_lastA (sim_lc (sim_seq_it (SimP.e sim_var)) sim_name sim_yes (sim_call0 D_l_is_number_n (sim_consV (SimP.e sim_var) (sim_consV (SimP.e sim_int) (sim_consV (SimP.e sim_var) sim_nilV)))) (by decide)))))) sim_name) (sim_cut (sim_ifs (sim_b (SimP.e sim_var)) (sim_kill (sim_post (sim_asg (sim_op simr_eq (SimP.e (simp_cb1 sim_sorted sim_var)) (sim_lstRg2 (SimP.e sim_int) (SimP.e (simp_op simr_add sim_var sim_int)))) sim_name))) (sim_kill sim_next)) (sim_ret (sim_op simr_eq (sim_lam D_called_n (fun W => (sim_consV (SimP.e sim_var) (sim_consV (SimP.e sim_var) sim_nilV)))) (sim_if (sim_b (SimP.e sim_var)) (SimP.e sim_str) (SimP.e sim_str)))))))))))
def u_l_views_refused (K : PySem.W.Frag) (c : Cl) : TS :=
  (tSeq (tAsg (tCall (spD (true :: vals 1) (D_l_odd c)) [] E0 (tCons (tVar 0) (tCons (tC (.int 4)) tNil))) (gName 4)) (tSeq (tAsg (tLst (tCons (tTup (tCons (tVar 4) (tCons (tC (.int 1)) tNil))) (tCons (tTup (tCons (tC (.int 1)) (tCons (tVar 4) tNil))) (tCons (tTup (tCons (tC (.int 1)) tNil)) (tCons (tTup (tCons (tC (.int 1)) (tCons (tC (.int 2)) (tCons (tC (.int 0)) tNil)))) (tCons (tLst (tCons (tC (.int 1)) (tCons (tC (.int 1)) tNil))) (tCons (tC .non) (tCons (tC (.int 0)) (tCons (tC (.str "11")) (tCons tDNewK (tCons (tCall (spD (vals 0) (D_l_deep c)) [] E0 tNil) (tCons (tVar 1) (tCons (tTup (tCons (tC (.int 4)) (tCons (tC (.int 4)) tNil))) (tCons (tTup (tCons (tC (.int 0)) (tCons (tC (.int 0)) tNil))) tNil)))))))))))))) (gName 5)) (tSeq (tAsg (tCall (spD (true :: vals 1) (D_l_pick c)) [] E0 (tCons (tVar 0) (tCons (tVar 5) tNil))) (gName 6)) (tSeq (tAsg (tAndV (tCB (xIsiG K) (tCons (tVar 6) (tCons (tC (.ty "tuple")) tNil))) (tAndV (tOp (rEqD K) (tCB (xLenG K) (tCons (tVar 6) tNil)) (tC (.int 2))) (tCB (rAll K) (tCons (tLc (iSeq K (tVar 6)) (gName 12) tYes (tCall (spD (vals 3) (D_l_is_number c)) [] E0 (tCons (tVar 12) (tCons (tC (.int 0)) (tCons (tC (.int 4)) tNil)))) [12]) tNil)))) (gName 7)) (tSeq (tAsg (tIf (tNot (tB (tVar 7))) (tC (.str "view")) (tIf (tB (tVar 3)) (tC (.str "let")) (tC (.str "place")))) (gName 8)) (tSeq (tIfS (tTest (tOp (rNeD K) (tLamX tabT (TTw (tab5c c)) fun E => tCall (spD (vals 3) (D_telling c)) [] E (tCons (tVar 1) (tCons (tVar 6) (tCons (tVar 2) tNil)))) (tVar 8))) (tRet (tC (.bl false))) tNext) (tSeq (tAsg (tIf (tTest (tOp (rEqD K) (tCall (spD (true :: vals 1) (D_l_draw c)) [] E0 (tCons (tVar 0) (tCons (tC (.int 2)) tNil))) (tC (.int 0)))) (tMake c.Tree (spD (true :: vals 1) (D_Tree_init c)) [] E0 (tCons (tOp (xAddG K) (tFld K (tVar 1) "hung") (tTup (tCons (tC (.int 0)) tNil))) tNil)) (tVar 1)) (gName 9)) (tSeq (tAsg (tIf (tTest (tOp (rNeOwn K c.Tree (spD (vals 2) (D_Tree_eq c)) E0) (tVar 9) (tVar 1))) (tC (.str "blocks")) (tIf (tB (tVar 7)) (tC (.str "let")) (tC (.str "view")))) (gName 8)) (tSeq (tAsg (tLst (tCons (tLamX tabT (TTw (tab5c c)) fun E => tCall (spD (vals 3) (D_unlike c)) [] E (tCons (tVar 1) (tCons (tVar 9) (tCons (tVar 6) tNil)))) tNil)) (gName 10)) (tSeq (tDrop (tBM K "list" rAppend (tVar 10) (tCons (tLamX tabT (TTw (tab5c c)) fun E => tCall (spD (vals 3) (D_unlike c)) [] E (tCons (tVar 9) (tCons (tVar 1) (tCons (tVar 6) tNil)))) tNil))) (tSeq (tIfS (tTest (tOp (rNeD K) (tVar 10) (tLst (tCons (tVar 8) (tCons (tVar 8) tNil))))) (tRet (tC (.bl false))) tNext) (tSeq (tIfS (tTest (tOp (rNeD K) (tLamX tabT (TTw (tab5c c)) fun E => tCall (spD (vals 1) (D_distance c)) [] E (tCons (tVar 6) tNil)) (tIf (tB (tVar 7)) (tC (.str "let")) (tC (.str "view"))))) (tRet (tC (.bl false))) tNext) (tSeq (tAsg (tCall (spD (true :: vals 1) (D_l_pick c)) [] E0 (tCons (tVar 0) (tCons (tLst (tCons (tCall (spD (true :: vals 1) (D_l_odd c)) [] E0 (tCons (tVar 0) (tCons (tC (.int 40)) tNil))) (tCons (tC (.int 0)) (tCons (tC (.int 1)) (tCons (tC (.int 40)) (tCons (tC (.int 41)) tNil)))))) tNil))) (gName 11)) (tSeq (tAsg (tIf (tNot (tB (tVar 7))) (tC (.str "view")) (tIf (tB (tCall (spD (vals 3) (D_l_is_number c)) [] E0 (tCons (tVar 11) (tCons (tC (.int 1)) (tCons (tC (.int 40)) tNil))))) (tC (.str "let")) (tC (.str "number")))) (gName 8)) (tRet (tOp (rEqD K) (tLamX tabT (TTw (tab5c c)) fun E => tCall (spD (vals 2) (D_twins c)) [] E (tCons (tVar 6) (tCons (tVar 11) tNil))) (tVar 8)))))))))))))))))
def B_l_views_refused (c : Cl) : DTS :=
  (dSeq (dAsg (dCallM false (D_l_odd c) 0 (dConsV (dC (.int 4)) dNilV)) (dName 4)) (dCut (dPost [4] (dAsg (dLst (dConsV (dTup (dConsV (dVar 4) (dConsV (dC (.int 1)) dNilV))) (dConsV (dTup (dConsV (dC (.int 1)) (dConsV (dVar 4) dNilV))) (dConsV (dTup (dConsV (dC (.int 1)) dNilV)) (dConsV (dTup (dConsV (dC (.int 1)) (dConsV (dC (.int 2)) (dConsV (dC (.int 0)) dNilV)))) (dConsV (dLst (dConsV (dC (.int 1)) (dConsV (dC (.int 1)) dNilV))) (dConsV (dC .non) (dConsV (dC (.int 0)) (dConsV (dC (.str "11")) (dConsV (dDct0 false) (dConsV (dCall false (D_l_deep c) dNilV) (dConsV (dVar 1) (dConsV (dTup (dConsV (dC (.int 4)) (dConsV (dC (.int 4)) dNilV))) (dConsV (dTup (dConsV (dC (.int 0)) (dConsV (dC (.int 0)) dNilV))) dNilV)))))))))))))) (dName 5))) (dSeq (dPost [5] (dAsg (dCallM false (D_l_pick c) 0 (dConsV (dVar 5) dNilV)) (dName 6))) (dCut (dAsg (dAndV (dCB (dIsi [c.Tree]) (dConsA (dVar 6) (dLastA (dC (.ty "tuple"))))) (dAndV (dOpP dEq (dCB dLen (dLastA (dVar 6))) (dC (.int 2))) (dCB dAll (dLastA (dLc (dIter (dVar 6)) (dName 12) dYes (dCall false (D_l_is_number c) (dConsV (dVar 12) (dConsV (dC (.int 0)) (dConsV (dC (.int 4)) dNilV)))) [12]))))) (dName 7)) (dCut (dPost [3] (dAsg (dIf (dNot (dTest (dVar 7))) (dC (.str "view")) (dIf (dTest (dVar 3)) (dC (.str "let")) (dC (.str "place")))) (dName 8))) (dSeq (dIfS (dTest (dOpP dNe (dLam (tab5c c) (D_telling c) (dConsV (dVar 1) (dConsV (dVar 6) (dConsV (dVar 2) dNilV)))) (dVar 8))) (dRet (dC (.bl false))) (dKill [2, 8] dNext)) (dCut (dAsg (dIf (dTest (dOpP dEq (dCallM false (D_l_draw c) 0 (dConsV (dC (.int 2)) dNilV)) (dC (.int 0)))) (dMake false c.Tree (D_Tree_init c) (dConsV (dOp dAdd (dFld [c.Tree] "hung" (dVar 1)) (dTup (dConsV (dC (.int 0)) dNilV))) dNilV)) (dVar 1)) (dName 9)) (dCut (dAsg (dIf (dTest (dOpF (dNeC c.Tree (D_Tree_eq c)) (dVar 9) (dVar 1))) (dC (.str "blocks")) (dIf (dTest (dVar 7)) (dC (.str "let")) (dC (.str "view")))) (dName 8)) (dSeq (dAsg (dLst (dConsV (dLam (tab5c c) (D_unlike c) (dConsV (dVar 1) (dConsV (dVar 9) (dConsV (dVar 6) dNilV)))) dNilV)) (dName 10)) (dCut (dPost [1, 9] (dDrop (dMeth1 fAppend 10 (dLam (tab5c c) (D_unlike c) (dConsV (dVar 9) (dConsV (dVar 1) (dConsV (dVar 6) dNilV))))))) (dSeq (dIfS (dTest (dOp dNe (dVar 10) (dLst (dConsV (dVar 8) (dConsV (dVar 8) dNilV))))) (dRet (dC (.bl false))) (dKill [8, 10] dNext)) (dCut (dIfS (dTest (dOp dNe (dLam (tab5c c) (D_distance c) (dConsV (dVar 6) dNilV)) (dIf (dTest (dVar 7)) (dC (.str "let")) (dC (.str "view"))))) (dRet (dC (.bl false))) dNext) (dCut (dAsg (dCallM false (D_l_pick c) 0 (dConsV (dLst (dConsV (dCallM false (D_l_odd c) 0 (dConsV (dC (.int 40)) dNilV)) (dConsV (dC (.int 0)) (dConsV (dC (.int 1)) (dConsV (dC (.int 40)) (dConsV (dC (.int 41)) dNilV)))))) dNilV)) (dName 11)) (dCut (dPost [7] (dAsg (dIf (dNot (dTest (dVar 7))) (dC (.str "view")) (dIf (dTest (dCall false (D_l_is_number c) (dConsV (dVar 11) (dConsV (dC (.int 1)) (dConsV (dC (.int 40)) dNilV))))) (dC (.str "let")) (dC (.str "number")))) (dName 8))) (dRet (dOpP dEq (dLam (tab5c c) (D_twins c) (dConsV (dVar 6) (dConsV (dVar 11) dNilV))) (dVar 8)))))))))))))))))
def D_l_views_refused (c : Cl) : Fn := dFn (true :: vals 3) 13 (B_l_views_refused c)
theorem D_l_views_refused_in {c : Cl} {o0 o1 o2 o3 : O} {P : O → List O → Prop} {PE : DExc → List O → Prop} (h : B_l_views_refused c ⟨fun env => P (.fr .non) (outs [true, false, false, false] env), fun o env => P o (outs [true, false, false, false] env), fun _ => False, fun _ => False, fun e env => PE e (outs [true, false, false, false] env)⟩ [S.bo o0, S.ow o1, S.ow o2, S.ow o3, S.un, S.un, S.un, S.un, S.un, S.un, S.un, S.un, S.un]) : D_l_views_refused c [o0, o1, o2, o3] P PE := ⟨rfl, h⟩
theorem D_l_views_refused_n {c : Cl} : ∀ os P PE, D_l_views_refused c os P PE → os.length = 3 + 1 := fun _ _ _ h => h.1
theorem sim_l_views_refused {K : PySem.W.Frag} {c : Cl} (fa : Fa K c) (E : XK) : SimS (fun cls dd _ H => E cls dd H) (u_l_views_refused K c) (B_l_views_refused c) :=
  (sim_seq (sim_asg (sim_callM0 D_l_odd_n (sim_consV (SimP.e sim_int) sim_nilV)) sim_name) (sim_cut (sim_post (sim_asg (sim_lst (sim_consV (sim_tup (sim_consV (SimP.e sim_var) (sim_consV (SimP.e sim_int) sim_nilV))) (sim_consV (sim_tup (sim_consV (SimP.e sim_int) (sim_consV (SimP.e sim_var) sim_nilV))) (sim_consV (sim_tup (sim_consV (SimP.e sim_int) sim_nilV)) (sim_consV (sim_tup (sim_consV (SimP.e sim_int) (sim_consV (SimP.e sim_int) (sim_consV (SimP.e sim_int) sim_nilV)))) (sim_consV (sim_lst (sim_consV (SimP.e sim_int) (sim_consV (SimP.e sim_int) sim_nilV))) (sim_consV (SimP.e sim_non) (sim_consV (SimP.e sim_int) (sim_consV (SimP.e sim_str) (sim_consV sim_dctK (sim_consV (sim_call0 D_l_deep_n sim_nilV) (sim_consV (SimP.e sim_var) (sim_consV (sim_tup (sim_consV (SimP.e sim_int) (sim_consV (SimP.e sim_int) sim_nilV))) (sim_consV (sim_tup (sim_consV (SimP.e sim_int) (sim_consV (SimP.e sim_int) sim_nilV))) sim_nilV)))))))))))))) sim_name)) (sim_seq (sim_post (sim_asg (sim_callM0 D_l_pick_n (sim_consV (SimP.e sim_var) sim_nilV)) sim_name)) (sim_cut (sim_asg (sim_andV (sim_cb (sim_isi fa.cls) (sim_consA (SimP.e sim_var) (sim_lastA (SimP.e sim_ty)))) (sim_andV (SimP.e (simp_op simr_eq (simp_cb1 sim_len sim_var) sim_int)) (sim_cb sim_all (sim_lastA (sim_lc (sim_seq_it (SimP.e sim_var)) sim_name sim_yes (sim_call0 D_l_is_number_n (sim_consV (SimP.e sim_var) (sim_consV (SimP.e sim_int) (sim_consV (SimP.e sim_int) sim_nilV)))) (by decide)))))) sim_name) (sim_cut (sim_post (sim_asg (sim_if (sim_not (sim_b (SimP.e sim_var))) (SimP.e sim_str) (sim_if (sim_b (SimP.e sim_var)) (SimP.e sim_str) (SimP.e sim_str))) sim_name)) (sim_seq (sim_ifs (sim_test (sim_opP simr_ne (sim_lam D_telling_n (fun W => (sim_consV (SimP.e sim_var) (sim_consV (SimP.e sim_var) (sim_consV (SimP.e sim_var) sim_nilV))))) sim_var)) (sim_ret (SimP.e sim_bl)) (sim_kill sim_next)) (sim_cut (sim_asg (sim_if (sim_test (sim_opP simr_eq (sim_callM0 D_l_draw_n (sim_consV (SimP.e sim_int) sim_nilV)) sim_int)) (sim_make0 D_Tree_init_n (sim_consV (sim_op simr_add (SimP.e (simp_fld fa.f_hung sim_var)) (sim_tup (sim_consV (SimP.e sim_int) sim_nilV))) sim_nilV)) (SimP.e sim_var)) sim_name) (sim_cut (sim_asg (sim_if (sim_test (sim_opF simr_neOwn (SimP.e sim_var) (SimP.e sim_var))) (SimP.e sim_str) (sim_if (sim_b (SimP.e sim_var)) (SimP.e sim_str) (SimP.e sim_str))) sim_name) (sim_seq (sim_asg (sim_lst (sim_consV (sim_lam D_unlike_n (fun W => (sim_consV (SimP.e sim_var) (sim_consV (SimP.e sim_var) (sim_consV (SimP.e sim_var) sim_nilV))))) sim_nilV)) sim_name) (sim_cut (sim_post (sim_drop (sim_meth1 simM_append (sim_lam D_unlike_n (fun W => (sim_consV (SimP.e sim_var) (sim_consV (SimP.e sim_var) (sim_consV (SimP.e sim_var) sim_nilV)))))))) (sim_seq (sim_ifs (sim_test (sim_op simr_ne (SimP.e sim_var) (sim_lst (sim_consV (SimP.e sim_var) (sim_consV (SimP.e sim_var) sim_nilV))))) (sim_ret (SimP.e sim_bl)) (sim_kill sim_next)) (sim_cut (sim_ifs (sim_test (sim_op simr_ne (sim_lam D_distance_n (fun W => (sim_consV (SimP.e sim_var) sim_nilV))) (sim_if (sim_b (SimP.e sim_var)) (SimP.e sim_str) (SimP.e sim_str)))) (sim_ret (SimP.e sim_bl)) sim_next) (sim_cut (sim_asg (sim_callM0 D_l_pick_n (sim_consV (sim_lst (sim_consV (sim_callM0 D_l_odd_n (sim_consV (SimP.e sim_int) sim_nilV)) (sim_consV (SimP.e sim_int) (sim_consV (SimP.e sim_int) (sim_consV (SimP.e sim_int) (sim_consV (SimP.e sim_int) sim_nilV)))))) sim_nilV)) sim_name) (sim_cut (sim_post (sim_asg (sim_if (sim_not (sim_b (SimP.e sim_var))) (SimP.e sim_str) (sim_if (sim_b (sim_call0 D_l_is_number_n (sim_consV (SimP.e sim_var) (sim_consV (SimP.e sim_int) (sim_consV (SimP.e sim_int) sim_nilV))))) (SimP.e sim_str) (SimP.e sim_str))) sim_name)) (sim_ret (sim_opP simr_eq (sim_lam D_twins_n (fun W => (sim_consV (SimP.e sim_var) (sim_consV (SimP.e sim_var) sim_nilV)))) sim_var))))))))))))))))
def uR_law (K : PySem.W.Frag) (c : Cl) : TS :=
  (tSeq (tFor (iRng1 (tCons (tC (.int 5)) tNil)) (gName 2) (tSeq (tAsg (tOp (xAddG K) (tC (.int 1)) (tCall (spD (true :: vals 1) (D_l_draw c)) [] E0 (tCons (tVar 1) (tCons (tC (.int 8)) tNil)))) (gName 3)) (tSeq (tAsg (tCall (spD (true :: vals 1) (D_l_hung c)) [] E0 (tCons (tVar 1) (tCons (tVar 3) tNil))) (gName 4)) (tSeq (tAsg (tMake c.Tree (spD (true :: vals 1) (D_Tree_init c)) [] E0 (tCons (tVar 4) tNil)) (gName 5)) (tSeq (tAsg (tTup (tCons (tCall (spD (true :: vals 1) (D_l_odd c)) [] E0 (tCons (tVar 1) (tCons (tVar 3) tNil))) (tCons (tCall (spD (true :: vals 1) (D_l_odd c)) [] E0 (tCons (tVar 1) (tCons (tVar 3) tNil))) tNil))) (gTup K 2 (gCons (gName 6) (gCons (gName 7) gNil)))) (tSeq (tPar 8 9 (tCons (tCall (spD (vals 3) (D_l_is_number c)) [] E0 (tCons (tVar 6) (tCons (tC (.int 1)) (tCons (tVar 3) tNil)))) (tCons (tCall (spD (vals 3) (D_l_is_number c)) [] E0 (tCons (tVar 7) (tCons (tC (.int 0)) (tCons (tVar 3) tNil)))) tNil))) (tSeq (tAsg (tIf (tB (tVar 8)) (tC (.str "let")) (tC (.str "block"))) (gName 10)) (tSeq (tAsg (tLst (tCons (tLamX tabT (TTw (tab5c c)) fun E => tCall (spD (vals 2) (D_place_of c)) [] E (tCons (tVar 5) (tCons (tVar 6) tNil))) tNil)) (gName 11)) (tSeq (tDrop (tBM K "list" rAppend (tVar 11) (tCons (tLamX tabT (TTw (tab5c c)) fun E => tCall (spD (vals 2) (D_parentsT c)) [] E (tCons (tVar 5) (tCons (tVar 6) tNil))) tNil))) (tSeq (tIfS (tTest (tOp (rNeD K) (tVar 11) (tLst (tCons (tVar 10) (tCons (tVar 10) tNil))))) (tRet (tC (.bl false))) tNext) (tSeq (tAsg (tIf (tB (tVar 9)) (tC (.str "let")) (tC (.str "place"))) (gName 10)) (tSeq (tAsg (tLst (tCons (tLamX tabT (TTw (tab5c c)) fun E => tCall (spD (vals 2) (D_under c)) [] E (tCons (tVar 5) (tCons (tVar 7) tNil))) tNil)) (gName 11)) (tSeq (tDrop (tBM K "list" rAppend (tVar 11) (tCons (tLamX tabT (TTw (tab5c c)) fun E => tCall (spD (vals 2) (D_beneathT c)) [] E (tCons (tVar 5) (tCons (tVar 7) tNil))) tNil))) (tSeq (tIfS (tTest (tOp (rNeD K) (tVar 11) (tLst (tCons (tVar 10) (tCons (tVar 10) tNil))))) (tRet (tC (.bl false))) tNext) (tSeq (tAsg (tIf (tNot (tB (tVar 8))) (tC (.str "block")) (tIf (tB (tVar 9)) (tC (.str "let")) (tC (.str "place")))) (gName 10)) (tSeq (tIfS (tAnd (tTest (tOp (rEqD K) (tVar 10) (tC (.str "let")))) (tOr (tTest (tOp (rEqD K) (tVar 7) (tVar 6))) (tTest (tOp (rIn K false) (tVar 6) (tCall (spD (vals 2) (D_l_way c)) [] E0 (tCons (tVar 4) (tCons (tVar 7) tNil))))))) (tAsg (tC (.str "beneath")) (gName 10)) tNext) (tSeq (tIfS (tTest (tOp (rNeD K) (tLamX tabT (TTw (tab5c c)) fun E => tCall (spD (vals 3) (D_moved c)) [] E (tCons (tVar 5) (tCons (tVar 6) (tCons (tVar 7) tNil)))) (tVar 10))) (tRet (tC (.bl false))) tNext) (tSeq (tIfS (tOr (tNot (tB (tCall (spD (true :: vals 2) (D_l_order_refused c)) [] E0 (tCons (tVar 1) (tCons (tVar 5) (tCons (tVar 3) tNil)))))) (tNot (tB (tCall (spD (true :: vals 3) (D_l_views_refused c)) [] E0 (tCons (tVar 1) (tCons (tVar 5) (tCons (tVar 7) (tCons (tVar 9) tNil)))))))) (tRet (tC (.bl false))) tNext) (tIfS (tNot (tB (tCall (spD (vals 2) (D_l_is c 2)) [] E0 (tCons (tFld K (tVar 5) "hung") (tCons (tVar 4) tNil))))) (tRet (tC (.bl false))) tNext))))))))))))))))))) (tRet (tC (.bl true))))
def u_law (K : PySem.W.Frag) (c : Cl) : TS := tSeq (tAsg (tCall (spHead K PoolOk) [] E0 (tCons (tVar 0) tNil)) (gName 1)) (uR_law K c)
def D_law (c : Cl) : DTS :=
  (dSeq (dPost [1, 2, 3, 4, 5, 6, 7, 8, 9, 10, 11] (dFor (dRng1 (dLastA (dC (.int 5)))) (dName 2) (dKill [2] (dSeq (dAsg (dOp dAdd (dC (.int 1)) (dCallM false (D_l_draw c) 1 (dConsV (dC (.int 8)) dNilV))) (dName 3)) (dSeq (dAsg (dCallM false (D_l_hung c) 1 (dConsV (dVar 3) dNilV)) (dName 4)) (dSeq (dAsg (dMake false c.Tree (D_Tree_init c) (dConsV (dVar 4) dNilV)) (dName 5)) (dCut (dAsg (dTup (dConsV (dCallM false (D_l_odd c) 1 (dConsV (dVar 3) dNilV)) (dConsV (dCallM false (D_l_odd c) 1 (dConsV (dVar 3) dNilV)) dNilV))) (dGTup 2 (dGCons (dName 6) (dGCons (dName 7) dGNil)))) (dCut (dPar 8 9 (dConsV (dCall false (D_l_is_number c) (dConsV (dVar 6) (dConsV (dC (.int 1)) (dConsV (dVar 3) dNilV)))) (dConsV (dCall false (D_l_is_number c) (dConsV (dVar 7) (dConsV (dC (.int 0)) (dConsV (dVar 3) dNilV)))) dNilV))) (dCut (dAsg (dIf (dTest (dVar 8)) (dC (.str "let")) (dC (.str "block"))) (dName 10)) (dSeq (dAsg (dLst (dConsV (dLam (tab5c c) (D_place_of c) (dConsV (dVar 5) (dConsV (dVar 6) dNilV))) dNilV)) (dName 11)) (dCut (dDrop (dMeth1 fAppend 11 (dLam (tab5c c) (D_parentsT c) (dConsV (dVar 5) (dConsV (dVar 6) dNilV))))) (dSeq (dIfS (dTest (dOp dNe (dVar 11) (dLst (dConsV (dVar 10) (dConsV (dVar 10) dNilV))))) (dRet (dC (.bl false))) (dKill [10, 11] dNext)) (dCut (dAsg (dIf (dTest (dVar 9)) (dC (.str "let")) (dC (.str "place"))) (dName 10)) (dSeq (dAsg (dLst (dConsV (dLam (tab5c c) (D_under c) (dConsV (dVar 5) (dConsV (dVar 7) dNilV))) dNilV)) (dName 11)) (dCut (dDrop (dMeth1 fAppend 11 (dLam (tab5c c) (D_beneathT c) (dConsV (dVar 5) (dConsV (dVar 7) dNilV))))) (dSeq (dIfS (dTest (dOp dNe (dVar 11) (dLst (dConsV (dVar 10) (dConsV (dVar 10) dNilV))))) (dRet (dC (.bl false))) (dKill [10, 11] dNext)) (dCut (dPost [8] (dAsg (dIf (dNot (dTest (dVar 8))) (dC (.str "block")) (dIf (dTest (dVar 9)) (dC (.str "let")) (dC (.str "place")))) (dName 10))) (dCut (dIfS (dAnd (dTest (dOpP dEq (dVar 10) (dC (.str "let")))) (dOr (dTest (dOpP dEq (dVar 7) (dVar 6))) (dTest (dOp (dIn false) (dVar 6) (dCall false (D_l_way c) (dConsV (dVar 4) (dConsV (dVar 7) dNilV))))))) (dKill [10] (dAsg (dC (.str "beneath")) (dName 10))) dNext) (dSeq (dIfS (dTest (dOpP dNe (dLam (tab5c c) (D_moved c) (dConsV (dVar 5) (dConsV (dVar 6) (dConsV (dVar 7) dNilV)))) (dVar 10))) (dRet (dC (.bl false))) (dKill [6, 10] dNext)) (dSeq (dIfS (dOr (dNot (dTest (dCallM false (D_l_order_refused c) 1 (dConsV (dVar 5) (dConsV (dVar 3) dNilV))))) (dNot (dTest (dCallM false (D_l_views_refused c) 1 (dConsV (dVar 5) (dConsV (dVar 7) (dConsV (dVar 9) dNilV))))))) (dRet (dC (.bl false))) (dKill [3, 7, 9] dNext)) (dIfS (dNot (dTest (dCall false (D_l_is c 2) (dConsV (dFld [c.Tree] "hung" (dVar 5)) (dConsV (dVar 4) dNilV))))) (dRet (dC (.bl false))) (dKill [4, 5] dNext)))))))))))))))))))))) (dRet (dC (.bl true))))
theorem sim_law {K : PySem.W.Frag} {c : Cl} (fa : Fa K c) : SimS WO (uR_law K c) (D_law c) :=
  (sim_seq (sim_post (sim_for (sim_rng1 (sim_lastA (SimP.e sim_int))) sim_name (sim_kill (sim_seq (sim_asg (sim_op simr_add (SimP.e sim_int) (sim_callM0 D_l_draw_n (sim_consV (SimP.e sim_int) sim_nilV))) sim_name) (sim_seq (sim_asg (sim_callM0 D_l_hung_n (sim_consV (SimP.e sim_var) sim_nilV)) sim_name) (sim_seq (sim_asg (sim_make0 D_Tree_init_n (sim_consV (SimP.e sim_var) sim_nilV)) sim_name) (sim_cut (sim_asg (sim_tup (sim_consV (sim_callM0 D_l_odd_n (sim_consV (SimP.e sim_var) sim_nilV)) (sim_consV (sim_callM0 D_l_odd_n (sim_consV (SimP.e sim_var) sim_nilV)) sim_nilV))) (sim_gtup (sim_gcons sim_name (sim_gcons sim_name sim_gnil)))) (sim_cut (sim_par (sim_consV (sim_call0 D_l_is_number_n (sim_consV (SimP.e sim_var) (sim_consV (SimP.e sim_int) (sim_consV (SimP.e sim_var) sim_nilV)))) (sim_consV (sim_call0 D_l_is_number_n (sim_consV (SimP.e sim_var) (sim_consV (SimP.e sim_int) (sim_consV (SimP.e sim_var) sim_nilV)))) sim_nilV))) (sim_cut (sim_asg (sim_if (sim_b (SimP.e sim_var)) (SimP.e sim_str) (SimP.e sim_str)) sim_name) (sim_seq (sim_asg (sim_lst (sim_consV (sim_lam D_place_of_n (fun W => (sim_consV (SimP.e sim_var) (sim_consV (SimP.e sim_var) sim_nilV)))) sim_nilV)) sim_name) (sim_cut (sim_drop (sim_meth1 simM_append (sim_lam D_parentsT_n (fun W => (sim_consV (SimP.e sim_var) (sim_consV (SimP.e sim_var) sim_nilV)))))) (sim_seq (sim_ifs (sim_test (sim_op simr_ne (SimP.e sim_var) (sim_lst (sim_consV (SimP.e sim_var) (sim_consV (SimP.e sim_var) sim_nilV))))) (sim_ret (SimP.e sim_bl)) (sim_kill sim_next)) (sim_cut (sim_asg (sim_if (sim_b (SimP.e sim_var)) (SimP.e sim_str) (SimP.e sim_str)) sim_name) (sim_seq (sim_asg (sim_lst (sim_consV (sim_lam D_under_n (fun W => (sim_consV (SimP.e sim_var) (sim_consV (SimP.e sim_var) sim_nilV)))) sim_nilV)) sim_name) (sim_cut (sim_drop (sim_meth1 simM_append (sim_lam D_beneathT_n (fun W => (sim_consV (SimP.e sim_var) (sim_consV (SimP.e sim_var) sim_nilV)))))) (sim_seq (sim_ifs (sim_test (sim_op simr_ne (SimP.e sim_var) (sim_lst (sim_consV (SimP.e sim_var) (sim_consV (SimP.e sim_var) sim_nilV))))) (sim_ret (SimP.e sim_bl)) (sim_kill sim_next)) (sim_cut (sim_post (sim_asg (sim_if (sim_not (sim_b (SimP.e sim_var))) (SimP.e sim_str) (sim_if (sim_b (SimP.e sim_var)) (SimP.e sim_str) (SimP.e sim_str))) sim_name)) (sim_cut (sim_ifs (sim_and (sim_test (SimP.e (simp_op simr_eq sim_var sim_str))) (sim_or (sim_test (SimP.e (simp_op simr_eq sim_var sim_var))) (sim_test (sim_op simr_in (SimP.e sim_var) (sim_call0 D_l_way_n (sim_consV (SimP.e sim_var) (sim_consV (SimP.e sim_var) sim_nilV))))))) (sim_kill (sim_asg (SimP.e sim_str) sim_name)) sim_next) (sim_seq (sim_ifs (sim_test (sim_opP simr_ne (sim_lam D_moved_n (fun W => (sim_consV (SimP.e sim_var) (sim_consV (SimP.e sim_var) (sim_consV (SimP.e sim_var) sim_nilV))))) sim_var)) (sim_ret (SimP.e sim_bl)) (sim_kill sim_next)) (sim_seq (sim_ifs (sim_or (sim_not (sim_b (sim_callM0 D_l_order_refused_n (sim_consV (SimP.e sim_var) (sim_consV (SimP.e sim_var) sim_nilV))))) (sim_not (sim_b (sim_callM0 D_l_views_refused_n (sim_consV (SimP.e sim_var) (sim_consV (SimP.e sim_var) (sim_consV (SimP.e sim_var) sim_nilV))))))) (sim_ret (SimP.e sim_bl)) (sim_kill sim_next)) (sim_ifs (sim_not (sim_b (sim_call0 D_l_is_n (sim_consV (SimP.e (simp_fld fa.f_hung sim_var)) (sim_consV (SimP.e sim_var) sim_nilV))))) (sim_ret (SimP.e sim_bl)) (sim_kill sim_next)))))))))))))))))))))) (sim_ret (SimP.e sim_bl)))
local macro_rules | `(tactic| walk_at "dw1") => `(tactic| ((with_reducible refine' a_bound ?k1 ?_); (case k1 => (first | decide | omega | (simp only [List.length_cons, List.length_nil]; omega)))))
local macro_rules | `(tactic| walk_at "dw1") => `(tactic| ((with_reducible refine' a_fldD ?k1 ?k2 ?_); (case k1 => exact List.mem_cons_self); (case k2 => exact rfl)))
local macro_rules | `(tactic| walk_at "dw1") => `(tactic| (with_reducible refine' a_par ?_))
local macro_rules | `(tactic| walk_at "dw1") => `(tactic| ((with_reducible refine' a_popAtM ?k1 ?_); (case k1 => exact rfl)))
local macro_rules | `(tactic| walk_at "dw1") => `(tactic| ((with_reducible refine' a_append ?k1 ?_); (case k1 => exact rfl)))
local macro_rules | `(tactic| walk_at "dw1") => `(tactic| ((with_reducible refine' a_extend ?k1 ?_); (case k1 => exact rfl)))
local macro_rules | `(tactic| walk_at "dw1") => `(tactic| ((with_reducible refine' a_callB ?k1 ?_); (case k1 => exact rfl)))
local macro_rules | `(tactic| walk_at "dw1") => `(tactic| ((with_reducible refine' a_callO ?k1 ?_); (case k1 => exact rfl)))
local macro_rules | `(tactic| walk_at "dw1") => `(tactic| ((with_reducible refine' a_callM ?k1 ?_); (case k1 => exact rfl)))
local macro_rules | `(tactic| walk_at "dw1") => `(tactic| ((with_reducible refine' a_toOL ?k1 ?_); (case k1 => exact rfl)))
local macro_rules | `(tactic| walk_at "dw1") => `(tactic| ((with_reducible refine' a_forceL ?k1 ?_); (case k1 => exact rfl)))
local macro_rules | `(tactic| walk_at "dw1") => `(tactic| ((with_reducible refine' a_fldI ?k1 ?k2 ?k3 ?k4 ?_); (case k1 => exact rfl); (case k2 => exact rfl); (case k3 => exact List.mem_cons_self); (case k4 => exact rfl)))
local macro_rules | `(tactic| walk_at "dw1") => `(tactic| ((with_reducible refine' a_varI ?k1 ?_); (case k1 => exact rfl)))
local macro_rules | `(tactic| walk_at "dw1") => `(tactic| ((with_reducible refine' a_retP ?k1 ?_); (case k1 => exact rfl)))
local macro_rules | `(tactic| walk_at "dw1") => `(tactic| ((with_reducible refine' a_pkF ?k1 ?_); (case k1 => exact rfl)))
local macro_rules | `(tactic| walk_at "dw1") => `(tactic| ((with_reducible refine' a_pkL ?k1 ?_); (case k1 => exact rfl)))
local macro_rules | `(tactic| walk_at "dw1") => `(tactic| ((with_reducible refine' a_subK ?k1 ?k2 ?_); (case k1 => exact rfl); (case k2 => exact rfl)))
local macro_rules | `(tactic| walk_at "dw1") => `(tactic| ((with_reducible refine' a_ixO' ?k1 ?k2 ?k3 ?k4 ?_); (case k1 => exact rfl); (case k2 => exact rfl); (case k3 => exact rfl); (case k4 => exact rfl)))
local macro_rules | `(tactic| walk_at "dw1") => `(tactic| ((with_reducible refine' a_ixO ?k1 ?k2 ?k3 ?k4 ?_); (case k1 => exact rfl); (case k2 => exact rfl); (case k3 => exact rfl); (case k4 => exact rfl)))
local macro_rules | `(tactic| walk_at "dw1") => `(tactic| (with_reducible refine' a_sub ?_))
local macro_rules | `(tactic| walk_at "dw1") => `(tactic| (with_reducible refine' v_iteNF ?_))
local macro_rules | `(tactic| walk_at "dw1") => `(tactic| (with_reducible refine' v_iteNT ?_))
local macro_rules | `(tactic| walk_at "dw1") => `(tactic| (with_reducible refine' v_iteF ?_))
local macro_rules | `(tactic| walk_at "dw1") => `(tactic| (with_reducible refine' v_iteT ?_))
local macro_rules | `(tactic| walk_at "dw1") => `(tactic| (with_reducible refine' a_lstT ?_))
local macro_rules | `(tactic| walk_at "dw1") => `(tactic| (with_reducible refine' a_lstL ?_))
local macro_rules | `(tactic| walk_at "dw1") => `(tactic| (with_reducible refine' a_tupT ?_))
local macro_rules | `(tactic| walk_at "dw1") => `(tactic| (with_reducible refine' a_tupL ?_))
local macro_rules | `(tactic| walk_at "dw1") => `(tactic| (with_reducible refine' a_intB ?_))
local macro_rules | `(tactic| walk_at "dw1") => `(tactic| (with_reducible refine' a_intI ?_))
local macro_rules | `(tactic| walk_at "dw1") => `(tactic| (with_reducible refine' a_absI ?_))
local macro_rules | `(tactic| walk_at "dw1") => `(tactic| (with_reducible refine' a_lenT ?_))
local macro_rules | `(tactic| walk_at "dw1") => `(tactic| (with_reducible refine' a_lenL ?_))
local macro_rules | `(tactic| walk_at "dw1") => `(tactic| (with_reducible refine' a_isNot ?_))
local macro_rules | `(tactic| walk_at "dw1") => `(tactic| (with_reducible refine' a_isN ?_))
local macro_rules | `(tactic| walk_at "dw1") => `(tactic| (with_reducible refine' a_neB ?_))
local macro_rules | `(tactic| walk_at "dw1") => `(tactic| (with_reducible refine' a_eqB ?_))
local macro_rules | `(tactic| walk_at "dw1") => `(tactic| (with_reducible refine' a_neI ?_))
local macro_rules | `(tactic| walk_at "dw1") => `(tactic| (with_reducible refine' a_eqI ?_))
local macro_rules | `(tactic| walk_at "dw1") => `(tactic| (with_reducible refine' a_ltI ?_))
local macro_rules | `(tactic| walk_at "dw1") => `(tactic| (with_reducible refine' a_I0 ?_))
local macro_rules | `(tactic| walk_at "dw1") => `(tactic| (with_reducible refine' a_addI ?_))
local macro_rules | `(tactic| walk_at "dw1") => `(tactic| (with_reducible refine' a_lc ?_))
local macro_rules | `(tactic| walk_at "dw1") => `(tactic| (with_reducible refine' a_for ?_))
local macro_rules | `(tactic| walk_at "dw1") => `(tactic| (with_reducible refine' a_rng2 ?_))
local macro_rules | `(tactic| walk_at "dw1") => `(tactic| (with_reducible refine' a_rng1 ?_))
local macro_rules | `(tactic| walk_at "dw1") => `(tactic| (with_reducible refine' a_iterK ?_))
local macro_rules | `(tactic| walk_at "dw1") => `(tactic| (with_reducible refine' a_kill ?_))
local macro_rules | `(tactic| walk_at "dw1") => `(tactic| (with_reducible refine' a_post ?_))
local macro_rules | `(tactic| walk_at "dw1") => `(tactic| (with_reducible refine' a_iter ?_))
local macro_rules | `(tactic| walk_at "dw1") => `(tactic| (with_reducible refine' a_slT ?_))
local macro_rules | `(tactic| walk_at "dw1") => `(tactic| (with_reducible refine' a_slL ?_))
local macro_rules | `(tactic| walk_at "dw1") => `(tactic| (with_reducible refine' a_part ?_))
local macro_rules | `(tactic| walk_at "dw1") => `(tactic| (with_reducible refine' a_noPart ?_))
local macro_rules | `(tactic| walk_at "dw1") => `(tactic| (with_reducible refine' a_sl ?_))
local macro_rules | `(tactic| walk_at "dw1") => `(tactic| (with_reducible refine' a_asI ?_))
local macro_rules | `(tactic| walk_at "dw1") => `(tactic| (with_reducible refine' a_ixE ?_))
local macro_rules | `(tactic| walk_at "dw1") => `(tactic| (with_reducible refine' a_ix ?_))
local macro_rules | `(tactic| walk_at "dw1") => `(tactic| (with_reducible refine' a_fld ?_))
local macro_rules | `(tactic| walk_at "dw1") => `(tactic| (with_reducible refine' a_make ?_))
local macro_rules | `(tactic| walk_at "dw1") => `(tactic| (with_reducible refine' a_one ?_))
local macro_rules | `(tactic| walk_at "dw1") => `(tactic| (with_reducible refine' a_call ?_))
local macro_rules | `(tactic| walk_at "dw1") => `(tactic| (with_reducible refine' a_lst ?_))
local macro_rules | `(tactic| walk_at "dw1") => `(tactic| (with_reducible refine' a_tup ?_))
local macro_rules | `(tactic| walk_at "dw1") => `(tactic| (with_reducible refine' a_pk2 ?_))
local macro_rules | `(tactic| walk_at "dw1") => `(tactic| (with_reducible refine' a_pk1 ?_))
local macro_rules | `(tactic| walk_at "dw1") => `(tactic| (with_reducible refine' a_cb ?_))
local macro_rules | `(tactic| walk_at "dw1") => `(tactic| (with_reducible refine' a_consV ?_))
local macro_rules | `(tactic| walk_at "dw1") => `(tactic| (with_reducible refine' a_nilV ?_))
local macro_rules | `(tactic| walk_at "dw1") => `(tactic| (with_reducible refine' a_consA ?_))
local macro_rules | `(tactic| walk_at "dw1") => `(tactic| (with_reducible refine' a_lastA ?_))
local macro_rules | `(tactic| walk_at "dw1") => `(tactic| (with_reducible refine' a_nilA ?_))
local macro_rules | `(tactic| walk_at "dw1") => `(tactic| (with_reducible refine' a_asb ?_))
local macro_rules | `(tactic| walk_at "dw1") => `(tactic| (with_reducible refine' a_flD ?_))
local macro_rules | `(tactic| walk_at "dw1") => `(tactic| (with_reducible refine' a_chain ?_))
local macro_rules | `(tactic| walk_at "dw1") => `(tactic| (with_reducible refine' a_notV ?_))
local macro_rules | `(tactic| walk_at "dw1") => `(tactic| (with_reducible refine' a_orV ?_))
local macro_rules | `(tactic| walk_at "dw1") => `(tactic| (with_reducible refine' a_andV ?_))
local macro_rules | `(tactic| walk_at "dw1") => `(tactic| (with_reducible refine' a_if ?_))
local macro_rules | `(tactic| walk_at "dw1") => `(tactic| (with_reducible refine' a_yes ?_))
local macro_rules | `(tactic| walk_at "dw1") => `(tactic| (with_reducible refine' a_not ?_))
local macro_rules | `(tactic| walk_at "dw1") => `(tactic| (with_reducible refine' a_or ?_))
local macro_rules | `(tactic| walk_at "dw1") => `(tactic| (with_reducible refine' a_and ?_))
local macro_rules | `(tactic| walk_at "dw1") => `(tactic| (with_reducible refine' a_asB ?_))
local macro_rules | `(tactic| walk_at "dw1") => `(tactic| (with_reducible refine' a_test ?_))
local macro_rules | `(tactic| walk_at "dw1") => `(tactic| (with_reducible refine' a_pkN ?_))
local macro_rules | `(tactic| walk_at "dw1") => `(tactic| (with_reducible refine' a_pkD ?_))
local macro_rules | `(tactic| walk_at "dw1") => `(tactic| (with_reducible refine' a_nrmL ?_))
local macro_rules | `(tactic| walk_at "dw1") => `(tactic| (with_reducible refine' a_nrmP ?_))
local macro_rules | `(tactic| walk_at "dw1") => `(tactic| (with_reducible refine' a_nrmD ?_))
local macro_rules | `(tactic| walk_at "dw1") => `(tactic| (with_reducible refine' a_un ?_))
local macro_rules | `(tactic| walk_at "dw1") => `(tactic| (with_reducible refine' a_opP ?_))
local macro_rules | `(tactic| walk_at "dw1") => `(tactic| (with_reducible refine' a_op ?_))
local macro_rules | `(tactic| walk_at "dw1") => `(tactic| (with_reducible refine' a_c ?_))
local macro_rules | `(tactic| walk_at "dw1") => `(tactic| (with_reducible refine' a_forceN ?_))
local macro_rules | `(tactic| walk_at "dw1") => `(tactic| (with_reducible refine' a_forceD ?_))
local macro_rules | `(tactic| walk_at "dw1") => `(tactic| (with_reducible refine' a_toO ?_))
local macro_rules | `(tactic| walk_at "dw1") => `(tactic| (with_reducible refine' a_retO ?_))
local macro_rules | `(tactic| walk_at "dw1") => `(tactic| (with_reducible refine' a_asg ?_))
local macro_rules | `(tactic| walk_at "dw1") => `(tactic| (with_reducible refine' a_ret ?_))
local macro_rules | `(tactic| walk_at "dw1") => `(tactic| (with_reducible refine' a_retN ?_))
local macro_rules | `(tactic| walk_at "dw1") => `(tactic| (with_reducible refine' a_drop ?_))
local macro_rules | `(tactic| walk_at "dw1") => `(tactic| (with_reducible refine' a_ifs ?_))
local macro_rules | `(tactic| walk_at "dw1") => `(tactic| (with_reducible refine' a_cont ?_))
local macro_rules | `(tactic| walk_at "dw1") => `(tactic| (with_reducible refine' a_break ?_))
local macro_rules | `(tactic| walk_at "dw1") => `(tactic| (with_reducible refine' a_next ?_))
local macro_rules | `(tactic| walk_at "dw1") => `(tactic| (with_reducible refine' a_seq ?_))
local macro_rules | `(tactic| walk_at "dw1") => `(tactic| (with_reducible refine' a_methN ?_))
local macro_rules | `(tactic| walk_at "dw1") => `(tactic| (with_reducible refine' a_gnil ?_))
local macro_rules | `(tactic| walk_at "dw1") => `(tactic| (with_reducible refine' a_gcons ?_))
local macro_rules | `(tactic| walk_at "dw1") => `(tactic| ((with_reducible refine' a_gtup ?k1 ?_); (case k1 => exact rfl)))
local macro_rules | `(tactic| walk_at "dw1") => `(tactic| ((with_reducible refine' a_nameS ?k1 ?k2 ?_); (case k1 => exact rfl); (case k2 => assumption)))
local macro_rules | `(tactic| walk_at "dw1") => `(tactic| ((with_reducible refine' a_name ?k1 ?_); (case k1 => exact ⟨_, rfl⟩)))
local macro_rules | `(tactic| walk_at "dw1") => `(tactic| ((with_reducible refine' a_nameU ?k1 ?_); (case k1 => exact rfl)))
local macro_rules | `(tactic| walk_at "dw1") => `(tactic| ((with_reducible refine' a_varB ?k1 ?_); (case k1 => exact rfl)))
local macro_rules | `(tactic| walk_at "dw1") => `(tactic| ((with_reducible refine' a_varoL ?k1 ?_); (case k1 => exact rfl)))
local macro_rules | `(tactic| walk_at "dw1") => `(tactic| ((with_reducible refine' a_varD ?k1 ?_); (case k1 => exact rfl)))
local macro_rules | `(tactic| walk_at "dw") => `(tactic| (repeat (walk_at "dw1")); (try dsimp only))
theorem eqvAll_ints : ∀ hs ks : List Int, PyData.eqvAll (hs.map PyData.int) (ks.map PyData.int) = decide (hs = ks)
  | [], [] => rfl
  | [], _ :: _ => rfl
  | _ :: _, [] => rfl
  | h :: r, k :: s => by
    show (h == k && PyData.eqvAll (r.map PyData.int) (s.map PyData.int)) = _
    rw [eqvAll_ints r s, Bool.eq_iff_iff]
    simp
theorem layAll_ints : ∀ hs : List Int, PyData.canLayAll0 (hs.map PyData.int) = true
  | [] => rfl
  | h :: r => by
    show (PyData.canLay0 (.int h) && PyData.canLayAll0 (r.map PyData.int)) = true
    rw [layAll_ints r]
    rfl
theorem depthAll_ints : ∀ hs : List Int, PyData.depthAll (hs.map PyData.int) = 0
  | [] => rfl
  | h :: r => by
    show max 0 (PyData.depthAll (r.map PyData.int)) = 0
    rw [depthAll_ints r]
    rfl
theorem shaped_ints (hs : List Int) : SeqAt.shaped (.tuple (hs.map PyData.int)) = true := by
  show (PyData.canLayAll0 (hs.map PyData.int) && decide (PyData.depthAll (hs.map PyData.int) + 1 ≤ 64)) = true
  rw [layAll_ints, depthAll_ints]
  rfl
section
def D.isI : D → Bool
  | .int _ => true
  | _ => false
def withinD (lo hi : Int) : D → Bool
  | .int i => decide (lo ≤ i ∧ i ≤ hi)
  | _ => false
def isKd (d : D) (T : String) : Bool := match d.kind with
  | some s => isA s T
  | none => false
def PlainD (Cs : List Addr) (d : D) : Prop := d.kind.isSome = true ∨ ∃ C, C ∈ Cs ∧ d.cl = some C
theorem PlainD.int {Cs : List Addr} {i : Int} : PlainD Cs (.int i) := .inl rfl
theorem PlainD.tup {Cs : List Addr} {ds : List D} : PlainD Cs (.tup ds) := .inl rfl
theorem cl_kind {d : D} {C : Addr} (h : d.cl = some C) : d.kind = none := by cases d <;> first | rfl | cases h
theorem kind_cl {d : D} (h : d.kind.isSome = true) : d.cl = none := by cases d <;> first | rfl | cases h
variable {c : Cl} {P : O → List O → Prop} {PE : DExc → List O → Prop} {Cs : List Addr} {d : D} {K : O → Prop} {T : String} {C : Addr}
theorem e_isi (hp : PlainD Cs d) (hT : okTy T) (q : K (.fr (.bl (isKd d T)))) : dIsi Cs [d, .ty T] K := by
  show isiA Cs d (.ty T) K
  unfold isiA
  rcases hp with h | ⟨C, hC, h⟩
  · rw [kind_cl h]
    cases e : d.kind with
    | none => rw [e] at h; cases h
    | some s =>
      refine ⟨hT, ?_⟩
      unfold isKd at q
      rw [e] at q
      exact q
  · rw [h]
    refine ⟨hC, hT, ?_⟩
    unfold isKd at q
    rw [cl_kind h] at q
    exact q
theorem e_isiC (hp : PlainD Cs d) (hC : C ∈ Cs) (q : K (.fr (.bl (decide (d.cl = some C))))) : dIsi Cs [d, .cls C] K := by
  show isiA Cs d (.cls C) K
  unfold isiA
  rcases hp with h | ⟨C', hC', h⟩
  · rw [kind_cl h] at q ⊢
    cases e : d.kind with
    | none => rw [e] at h; cases h
    | some s => exact ⟨hC, q⟩
  · rw [h] at q ⊢
    refine ⟨hC', hC, ?_⟩
    have e : decide (some C' = some C) = decide (C' = C) := by rw [Bool.eq_iff_iff]; simp
    rw [← e]
    exact q
theorem isKd_int : (isKd d "int" && !isKd d "bool") = d.isI := by
  cases d <;> first | rfl | decide | (rename_i t kvs; cases t <;> rfl)
theorem e_integer (hp : PlainD [c.Tree] d) (q : P (.fr (.bl d.isI)) []) : D_is_integer c [.fr d] P PE := by
  refine D_is_integer_in ?_
  unfold B_is_integer
  walk_at "dw"
  refine e_isi hp (.inl rfl) ?_
  walk_at "dw"
  rw [← isKd_int] at q
  cases e : isKd d "int" with
  | false =>
    rw [e] at q
    walk_at "dw"
    exact q
  | true =>
    rw [e] at q
    walk_at "dw"
    refine e_isi hp (.inr (.inl rfl)) ?_
    walk_at "dw"
    exact q
theorem e_within {lo hi : Int} (hp : PlainD [c.Tree] d) (q : P (.fr (.bl (withinD lo hi d))) []) : D_is_within c [.fr d, .fr (.int lo), .fr (.int hi)] P PE := by
  refine D_is_within_in ?_
  unfold B_is_within
  walk_at "dw"
  refine e_integer hp ?_
  walk_at "dw"
  cases d with
  | int i =>
    refine v_iteT ?_
    walk_at "dw"
    by_cases h : lo ≤ i
    · rw [decide_eq_true h]
      walk_at "dw"
      have e : withinD lo hi (.int i) = decide (i ≤ hi) := by
        show decide (lo ≤ i ∧ i ≤ hi) = _
        rw [Bool.eq_iff_iff]
        simp [h]
      rw [e] at q
      exact q
    · rw [decide_eq_false h]
      walk_at "dw"
      have e : withinD lo hi (.int i) = false := decide_eq_false fun z => h z.1
      rw [e] at q
      exact q
  | _ =>
    refine v_iteF ?_
    walk_at "dw"
    exact q
theorem a_ifT {b : Bool} {A B : Prop} (e : b = true) (h : A) : if b = true then A else B := by rw [if_pos e]; exact h
theorem a_ifF {b : Bool} {A B : Prop} (e : b = false) (h : B) : if b = true then A else B := by rw [e]; exact h
end
section
abbrev rowD (hs : List Int) : D := .tup (hs.map .int)
theorem getD {hs : List Int} {z : Int} (h0 : 1 ≤ z) (h1 : z ≤ hs.length) : atI (hs.map D.int) (z - 1) = some (.int (stp hs z)) :=
  atI_of (jj := z.toNat - 1) (by omega) (by rw [List.getElem?_map, stp_get h0 h1]; rfl)
variable {c : Cl} {P : O → List O → Prop} {PE : DExc → List O → Prop} {hs ks : List Int} {p b : Int} {K : O → Prop}
theorem way_len (hs : List Int) : ∀ (k : Nat) (h : Int), (way hs k h).length ≤ k
  | 0, _ => Nat.le_refl _
  | k + 1, h => by
    show (if h = 0 then [] else stp hs h :: way hs k (stp hs h)).length ≤ k + 1
    split
    · exact Nat.zero_le _
    · rw [List.length_cons]
      exact Nat.succ_le_succ (way_len hs k _)
theorem e_parents (tr : IsTree hs) (p0 : 0 ≤ p) (p1 : p ≤ hs.length) (q : P (oL ((wy hs p).map .int)) []) : D_parents_in c [.fr (rowD hs), .fr (.int p)] P PE := by
  refine D_parents_in_in ?_
  unfold B_parents_in
  walk_at "dw"
  refine a_while (m0 := (wy hs p).length) (fun m e => ∃ (acc : List Int) (z : Int), e = [S.ow (.fr (rowD hs)), .un, S.ow (oL (acc.map .int)), S.ow (.fr (.int z))] ∧ acc ++ wy hs z = wy hs p ∧ 0 ≤ z ∧ z ≤ hs.length ∧ (wy hs z).length = m) ⟨[], p, rfl, rfl, p0, p1, rfl⟩ ?_
  rintro m e NX ⟨acc, z, rfl, ea, z0, z1, rfl⟩ nx
  have l40 := tr.2.1
  walk_at "dw"
  refine v_iteN (fun ne => ?_) (fun zz => ?_)
  · walk_at "dw"
    refine a_ixT (getD (by omega) z1) ?_
    walk_at "dw"
    have hl : acc.length ≤ hs.length := by
      have := congrArg List.length ea
      rw [List.length_append] at this
      have := way_len hs hs.length p
      unfold wy at *
      omega
    refine a_app (ds := acc.map .int) rfl (by rw [List.length_map]; omega) ?_
    have w := wy_cons tr (h := z) (by omega) z1
    have si := stp_in tr.2.2.1 z
    refine nx (wy hs (stp hs z)).length _ (by rw [w, List.length_cons]; omega) ⟨acc ++ [stp hs z], stp hs z, by rw [List.map_append]; rfl, ?_, si.1, si.2, rfl⟩
    rw [List.append_assoc, ← ea, w]; rfl
  · subst zz
    rw [wy_zero, List.append_nil] at ea
    walk_at "dw"
    rw [ea]
    exact q
theorem filt_blocks (f : Int → Bool) (n : Nat) : (rgD 1 n).filter (fun d => match d with
    | .int i => f i
    | _ => false) = ((blocks n).filter f).map .int := by
  unfold rgD blocks
  rw [List.filter_map, List.filter_map, List.map_map]
  have e : (List.range n).filter ((fun d => match d with
    | D.int i => f i
    | _ => false) ∘ fun (k : Nat) => D.int (1 + (k : Nat))) = (List.range n).filter (f ∘ fun (k : Nat) => (k : Int) + 1) := List.filter_congr fun k _ => by
      show f (1 + (k : Int)) = f ((k : Int) + 1)
      rw [Int.add_comm]
  rw [e]
  refine List.map_congr_left fun k _ => ?_
  show D.int (1 + (k : Int)) = D.int ((k : Int) + 1)
  rw [Int.add_comm]
theorem e_hanging (tr : IsTree hs) (q : P (oL ((hang hs p).map .int)) []) : D_hanging c [.fr (rowD hs), .fr (.int p)] P PE := by
  refine D_hanging_in ?_
  unfold B_hanging
  have l40 := tr.2.1
  walk_at "dw"
  refine a_rgb2 (by rw [List.length_map]; omega) ?_
  refine a_lcF (fun d => match d with
    | .int i => decide (stp hs i = p)
    | _ => false) (by rw [rgD_len, List.length_map]; omega) (fun k d acc NX hk ha n1 n2 => ?_) ?_
  · obtain ⟨hl, rfl⟩ := rgD_at hk
    rw [List.length_map] at hl
    refine ⟨by rfl, ?_⟩
    walk_at "dw"
    refine a_ixT (getD (by omega) (by omega)) ?_
    walk_at "dw"
    refine v_ite (fun e => ?_) (fun e => ?_)
    · walk_at "dw"
      exact ⟨ha, n1 (decide_eq_true e)⟩
    · exact n2 (decide_eq_false e)
  · rw [filt_blocks, List.length_map, show ((hs.length : Int) + 1 - 1).toNat = hs.length by omega]
    walk_at "dw"
    exact q
theorem toPyL_ints : ∀ ns : List Int, toPyL (ns.map D.int) = some (ns.map PyData.int)
  | [] => rfl
  | n :: r => by
    show (match toPy (.int n) with
      | some p => (match toPyL (r.map D.int) with
        | some l => some (p :: l)
        | none => none)
      | none => none) = _
    rw [toPyL_ints r]
    rfl
theorem toPy_row (ns : List Int) : toPy (rowD ns) = some (.tuple (ns.map PyData.int)) := by
  show (match toPyL (ns.map D.int) with
    | some l => some (PyData.tuple l)
    | none => none) = _
  rw [toPyL_ints]
theorem a_eqRow {K : O → Prop} {t u : List Int} (q : K (.fr (.bl (decide (t = u))))) : dEq (rowD t) (rowD u) K := by
  show oth (toPy (rowD t)) fun a => oth (toPy (rowD u)) fun b => _
  rw [toPy_row, toPy_row]
  refine ⟨shaped_ints _, shaped_ints _, ?_⟩
  show K (.fr (.bl (PyData.eqvAll (t.map PyData.int) (u.map PyData.int))))
  rw [eqvAll_ints]
  exact q
def treeD (c : Cl) (hs : List Int) : D := .ins c.Tree [("hung", rowD hs)]
theorem e_leads (tr : IsTree hs) (b0 : 1 ≤ b) (b1 : b ≤ hs.length) (q : P (.fr (.bl true)) []) : D_leads_home c [.fr (rowD hs), .fr (.int b)] P PE := by
  refine D_leads_home_in ?_
  unfold B_leads_home
  have l40 := tr.2.1
  walk_at "dw"
  refine a_rgb (by rw [List.length_map]; omega) ?_
  refine a_forI (fun k e => e = [S.ow (.fr (rowD hs)), .un, S.ow (.fr (.int (up hs k b))), .un] ∧ ∀ j, j < k → up hs j b ≠ 0) ⟨rfl, fun j h => absurd h (Nat.not_lt_zero _)⟩ ?_ ?_
  · rintro k d e NX hd ⟨rfl, un⟩ nx
    obtain ⟨hk, rfl⟩ := rgD_at hd
    walk_at "dw"
    refine v_ite (fun h => ?_) (fun h => ?_)
    · walk_at "dw"
      exact q
    · walk_at "dw"
      have ui := up_in tr.2.2.1 k b (by omega) b1
      refine a_ixT (getD (by omega) ui.2) ?_
      walk_at "dw"
      refine nx _ ⟨?_, fun j hj => ?_⟩
      · rw [up_succ]
        rfl
      · rcases Nat.lt_succ_iff_lt_or_eq.mp hj with h' | rfl
        · exact un j h'
        · exact h
  · rw [rgD_len, List.length_map]
    rintro e ⟨rfl, un⟩
    exact absurd (tr.up0 (by omega) b1) (un _ (by omega))
theorem e_init (tr : IsTree hs) (q : P (.fr .non) [.ins c.Tree [("hung", .fr (rowD hs))]]) : D_Tree_init c [.ins c.Tree [], .fr (rowD hs)] P PE := by
  refine D_Tree_init_in ?_
  unfold B_Tree_init
  have l40 := tr.2.1
  have l1 := tr.1
  walk_at "dw"
  refine e_isi .tup (.inr (.inr (.inl rfl))) ?_
  rw [show isKd (rowD hs) "tuple" = true from rfl]
  refine v_ite (fun _ => ?_) (fun h => absurd h (by rw [List.length_map]; omega))
  walk_at "dw"
  refine a_ifF (by rw [decide_eq_true (by rw [List.length_map]; omega)]; rfl) ?_
  walk_at "dw"
  refine a_rgb2 (by rw [List.length_map]; omega) ?_
  refine a_forI (fun k e => e = [S.bo (.ins c.Tree []), S.ow (.fr (rowD hs)), .un]) rfl ?_ ?_
  · rintro k d e NX hd rfl nx
    obtain ⟨hk, rfl⟩ := rgD_at hd
    rw [List.length_map] at hk
    walk_at "dw"
    refine a_ixT (getD (by omega) (by omega)) ?_
    walk_at "dw"
    refine e_within .int ?_
    have si := stp_in tr.2.2.1 (1 + (k : Int))
    rw [show withinD 0 (((hs.map D.int).length : Nat) : Int) (.int (stp hs (1 + (k : Int)))) = true from decide_eq_true (by rw [List.length_map]; exact si)]
    walk_at "dw"
    refine a_ixT (getD (by omega) (by omega)) ?_
    walk_at "dw"
    refine a_ifF (decide_eq_false (tr.ne (by omega) (by omega))) ?_
    walk_at "dw"
    exact nx _ rfl
  rintro e rfl
  walk_at "dw"
  refine a_rgb2 (by rw [List.length_map]; omega) ?_
  refine a_forI (fun k e => e = [S.bo (.ins c.Tree []), S.ow (.fr (rowD hs)), .un]) rfl ?_ ?_
  · rintro k d e NX hd rfl nx
    obtain ⟨hk, rfl⟩ := rgD_at hd
    rw [List.length_map] at hk
    walk_at "dw"
    refine e_leads tr (by omega) (by omega) ?_
    walk_at "dw"
    exact nx _ rfl
  rintro e rfl
  walk_at "dw"
  refine a_setF ?_
  walk_at "dw"
  exact ⟨⟨List.mem_cons_self, by decide⟩, q⟩
def numL (n : Nat) : List Int := (List.range n).map fun (k : Nat) => 1 + (k : Int)
theorem rgD_num (n : Nat) : rgD 1 n = (numL n).map .int := by
  unfold rgD numL
  rw [List.map_map]
  rfl
theorem numL_len (n : Nat) : (numL n).length = n := by unfold numL; rw [List.length_map, List.length_range]
theorem numL_nodup (n : Nat) : (numL n).Nodup := by
  unfold numL
  refine List.Pairwise.map _ ?_ List.nodup_range
  intro a b hab z
  have z' : (1 : Int) + (a : Int) = 1 + (b : Int) := z
  exact hab (by omega)
theorem numL_in {n : Nat} : ∀ m ∈ numL n, 1 ≤ m ∧ m ≤ n := fun m hm => by
  unfold numL at hm
  obtain ⟨k, hk, rfl⟩ := List.mem_map.mp hm
  have := List.mem_range.mp hk
  omega
theorem a_mulL {xs : List D} {k : Int} {K : O → Prop} (b : 0 ≤ k ∧ k ≤ 1000 ∧ xs.length ≤ 1000) (h : K (oL (List.replicate k.toNat xs).flatten)) : dMul (.lst xs) (.int k) K := by
  refine ⟨⟨by omega, by omega, ?_⟩, h⟩
  have : xs.length * k.toNat ≤ 1000 * 1000 := Nat.mul_le_mul b.2.2 (by omega)
  rw [PySem.sizeLine_eq]
  omega
theorem rep_int (n : Nat) (x : Int) : (List.replicate n [D.int x]).flatten = (List.replicate n x).map .int := by
  rw [flat_one, List.map_replicate]
theorem e_beneath (tr : IsTree hs) (p0 : 0 ≤ p) (p1 : p ≤ hs.length) (q : P (.fr (rowD (ben hs p))) []) : D_beneath_in c [.fr (rowD hs), .fr (.int p)] P PE := by
  refine D_beneath_in_in ?_
  unfold B_beneath_in
  have l40 := tr.2.1
  walk_at "dw"
  refine a_while (m0 := hs.length - 0 + 1) (fun m e => ∃ (F W : List Int), e = [S.ow (.fr (rowD hs)), .un, .ow (oL (F.map .int)), .ow (oL (W.map .int)), .un] ∧ Dfs hs p F W ∧ m = hs.length - F.length + W.length) ⟨[], [p], rfl, Dfs.start, rfl⟩ ?_
  rintro m e NX ⟨F, W, rfl, d, rfl⟩ nx
  have fl := d.len
  have wl := d.wlen
  walk_at "dw"
  refine v_ite (fun h => ?_) (fun h => ?_)
  · rcases List.eq_nil_or_concat W with z | ⟨W0, x, z⟩
    · rw [z] at h
      exact absurd h (by decide)
    · rw [List.concat_eq_append] at z
      subst z
      walk_at "dw"
      refine a_pop (ds := W0.map .int) (d := .int x) (by rw [List.map_append]; rfl) ?_
      walk_at "dw"
      refine e_hanging tr ?_
      have d' := d.step tr p0 p1
      have fl' := d'.len
      have wl' := d'.wlen
      rw [List.length_append] at fl' wl' wl
      walk_at "dw"
      refine a_extF (ds := F.map .int) (es := (hang hs x).map .int) rfl (by rw [List.length_map, List.length_map]; omega) ?_
      walk_at "dw"
      refine a_extF (ds := W0.map .int) (es := (hang hs x).map .int) rfl (by rw [List.length_map, List.length_map]; omega) ?_
      refine nx _ _ ?_ ⟨F ++ hang hs x, W0 ++ hang hs x, ?_, d', rfl⟩
      · rw [List.length_append, List.length_append, List.length_append]
        show _ < hs.length - F.length + (W0.length + 1)
        omega
      · simp only [List.map_append]
        rfl
  · have z : W = [] := by
      cases W with
      | nil => rfl
      | cons x r => exact absurd (show (0 : Int) < (((x :: r).map D.int).length : Nat) by rw [List.length_map, List.length_cons]; omega) h
    subst z
    walk_at "dw"
    refine a_sortI fun ms pm so => ?_
    walk_at "dw"
    rw [d.done tr pm so]
    exact q
theorem e_with (b0 : 1 ≤ b) (b1 : b ≤ hs.length) (l40 : hs.length ≤ 40) (q : P (.fr (rowD (hs.set (b.toNat - 1) p))) []) : D_with_place c [.fr (rowD hs), .fr (.int b), .fr (.int p)] P PE := by
  refine D_with_place_in ?_
  unfold B_with_place
  walk_at "dw"
  rw [show b - 1 = ((b.toNat - 1 : Nat) : Int) by omega, cutD_take]
  walk_at "dw"
  refine a_addT (by rw [List.length_map, List.length_take]; show _ + 1 ≤ _; omega) ?_
  walk_at "dw"
  rw [show b = ((b.toNat : Nat) : Int) by omega, cutD_drop]
  refine a_addT (by rw [List.length_append, List.length_map, List.length_take, List.length_map, List.length_drop]; show _ + 1 + _ ≤ _; omega) ?_
  have e : (hs.take (b.toNat - 1)).map D.int ++ [D.int p] ++ (hs.drop b.toNat).map D.int = (hs.set (b.toNat - 1) p).map D.int := by
    rw [List.set_eq_take_append_cons_drop, if_pos (by omega), List.map_append, List.map_cons, show b.toNat - 1 + 1 = b.toNat by omega, List.append_assoc]
    rfl
  rw [show (((b.toNat : Nat) : Int)).toNat = b.toNat by omega]
  walk_at "dw"
  rw [e]
  exact q
end
/-! ### things of all sorts -/
section
def PlN (Cs : List Addr) : Nat → D → Prop
  | 0, _ => True
  | n + 1, d => PlainD Cs d ∧ ∀ xs, d = .tup xs → ∀ x ∈ xs, PlN Cs n x
def PlA (Cs : List Addr) (d : D) : Prop := ∀ n, PlN Cs n d
variable {Cs : List Addr} {d x y : D} {xs : List D} {C : Addr} {gs : List (Str × D)}
theorem PlA.plain (h : PlA Cs d) : PlainD Cs d := (h 1).1
theorem PlA.item (h : PlA Cs (.tup xs)) (m : x ∈ xs) : PlA Cs x := fun n => (h (n + 1)).2 xs rfl x m
theorem PlA.flat (h : d.kind.isSome = true) (nt : ∀ xs, d ≠ .tup xs) : PlA Cs d := fun n => match n with
  | 0 => trivial
  | _ + 1 => ⟨.inl h, fun xs e => absurd e (nt xs)⟩
theorem PlA.int {i : Int} : PlA Cs (.int i) := .flat rfl fun _ e => nomatch e
theorem PlA.bl {b : Bool} : PlA Cs (.bl b) := .flat rfl fun _ e => nomatch e
theorem PlA.non : PlA Cs .non := .flat rfl fun _ e => nomatch e
theorem PlA.str {s : Str} : PlA Cs (.str s) := .flat rfl fun _ e => nomatch e
theorem PlA.lst : PlA Cs (.lst xs) := .flat rfl fun _ e => nomatch e
theorem PlA.dct {kvs : List (List Key × D)} : PlA Cs (.dct false kvs) := .flat rfl fun _ e => nomatch e
theorem PlA.ins (h : C ∈ Cs) : PlA Cs (.ins C gs) := fun n => match n with
  | 0 => trivial
  | _ + 1 => ⟨.inr ⟨C, h, rfl⟩, fun xs e => nomatch e⟩
theorem PlA.tup (h : ∀ x ∈ xs, PlA Cs x) : PlA Cs (.tup xs) := fun n => match n with
  | 0 => trivial
  | n + 1 => ⟨.inl rfl, fun xs' e x m => by
    cases e
    exact h x m n⟩
theorem PlA.tup0 : PlA Cs (.tup []) := .tup fun _ h => nomatch h
theorem PlA.cons (h : PlA Cs x) (t : PlA Cs (.tup xs)) : PlA Cs (.tup (x :: xs)) := .tup fun y m => by
  rcases List.mem_cons.mp m with rfl | m
  · exact h
  · exact t.item m
theorem PlA.ints {ns : List Int} : PlA Cs (.tup (ns.map .int)) := .tup fun x m => by
  obtain ⟨n, _, rfl⟩ := List.mem_map.mp m
  exact .int
theorem isKd_tup : isKd d "tuple" = true ↔ ∃ xs, d = .tup xs := by
  constructor
  · intro h
    cases d with
    | tup xs => exact ⟨xs, rfl⟩
    | dct t kvs => cases t <;> cases h
    | _ => first | exact absurd h (by decide) | cases h
  · rintro ⟨xs, rfl⟩
    rfl
end
section
variable {d : D}
theorem within_inv {lo hi : Int} (h : withinD lo hi d = true) : ∃ i, d = .int i ∧ lo ≤ i ∧ i ≤ hi := by
  unfold withinD at h
  split at h
  · have := of_decide_eq_true h
    exact ⟨_, rfl, this⟩
  · cases h
end
section
variable {c : Cl} {P : O → List O → Prop} {PE : DExc → List O → Prop}
theorem pool_mk {gs ss : List Int} {x y : Int} (lg : gs.length ≤ 63) (ls : ss.length ≤ 63) : PoolOk (.lst [oL (gs.map .int), oL (ss.map .int), .fr (.int x), .fr (.int y)]) := ⟨gs, ss, x, y, by unfold poolO; rw [oL_ints, oL_ints], lg, ls⟩
theorem e_draw {o : O} {m : Int} (ho : PoolOk o) (h1 : 1 ≤ m) (h2 : m ≤ 1000000) (q : ∀ d o', PoolOk o' → 0 ≤ d → d < m → P (.fr (.int d)) [o']) : D_l_draw c [o, .fr (.int m)] P PE := by
  obtain ⟨gs, ss, x, y, rfl, lg, ls⟩ := ho
  refine D_l_draw_in ?_
  unfold B_l_draw poolO
  rw [oL_ints, oL_ints]
  refine a_cut (fun e => ∃ (gs : List Int) (x : Int), gs.length ≤ 63 ∧ e = [S.bo (.lst [oL (gs.map .int), oL (ss.map .int), .fr (.int x), .fr (.int y)]), S.ow (.fr (.int m)), .un, .un, .un]) (fun NX nx => ?_) ?_
  · walk_at "dw"
    refine v_ite (fun hx => ?_) (fun hx => ?_)
    · walk_at "dw"
      refine v_ite (fun hl => ?_) (fun hl => ?_)
      · obtain ⟨n, gs', rfl⟩ : ∃ n gs', gs = n :: gs' := by
          cases gs with
          | nil => exact absurd hl (by simp)
          | cons n r => exact ⟨n, r, rfl⟩
        walk_at "dw"
        refine a_ixP rfl (atI_of (jj := 0) rfl rfl) ?_
        walk_at "dw"
        rw [cutD1]
        refine nx _ ⟨gs', n, by rw [List.length_cons] at lg; omega, rfl⟩
      · walk_at "dw"
        exact nx _ ⟨gs, x, lg, rfl⟩
    · walk_at "dw"
      exact nx _ ⟨gs, x, lg, rfl⟩
  clear lg x
  clear gs
  rintro e ⟨gs, x, lg, rfl⟩
  walk_at "dw"
  refine v_ite (fun hx => ?_) (fun hx => ?_)
  · walk_at "dw"
    refine a_I2 (by show (0 : Int) < m; omega) ?_
    walk_at "dw"
    refine a_I2 (by show m ≠ 0 ∧ m.natAbs < 1073741824; omega) ?_
    walk_at "dw"
    exact q _ _ (pool_mk lg ls) (Int.emod_nonneg _ (by omega)) (Int.emod_lt_of_pos _ (by omega))
  · walk_at "dw"
    refine a_cut (fun e => ∃ k : Int, e = [S.bo (.lst [oL (gs.map .int), oL (ss.map .int), .fr (.int x), .fr (.int (y + 1))]), S.ow (.fr (.int m)), .un, S.ow (.fr (.int k)), .un]) (fun NX nx => ?_) ?_
    · walk_at "dw"
      refine v_ite (fun hl => ?_) (fun hl => ?_)
      · walk_at "dw"
        have hlen : (0 : Int) < ((ss.map D.int).length : Nat) := hl
        refine a_I2 hlen ?_
        have hlt : ((y + 1) % ((ss.map D.int).length : Nat)).toNat < ss.length := by
          have e1 := Int.emod_nonneg (y + 1) (b := ((ss.map D.int).length : Nat)) (by omega)
          have e2 := Int.emod_lt_of_pos (y + 1) hlen
          rw [List.length_map] at e1 e2 ⊢
          omega
        walk_at "dw"
        refine a_ixP rfl (atI_of (jj := ((y + 1) % ((ss.map D.int).length : Nat)).toNat) (x := .int ss[((y + 1) % ((ss.map D.int).length : Nat)).toNat]) (by
          have e1 := Int.emod_nonneg (y + 1) (b := ((ss.map D.int).length : Nat)) (by omega)
          omega) ?_) ?_
        · rw [List.getElem?_map, List.getElem?_eq_getElem hlt]; rfl
        · walk_at "dw"
          exact nx _ ⟨_, rfl⟩
      · walk_at "dw"
        exact nx _ ⟨_, rfl⟩
    rintro e ⟨k, rfl⟩
    walk_at "dw"
    refine ⟨.inl (by decide), ?_⟩
    walk_at "dw"
    refine ⟨.inr (by decide), ?_⟩
    walk_at "dw"
    refine a_I2 (by decide) ?_
    walk_at "dw"
    generalize hz : (k + 7919 * (y + 1) + 1) * 48271 % 2147483647 = z
    have z0 := Int.emod_nonneg ((k + 7919 * (y + 1) + 1) * 48271) (b := 2147483647) (by decide)
    have z1 := Int.emod_lt_of_pos ((k + 7919 * (y + 1) + 1) * 48271) (b := 2147483647) (by decide)
    rw [hz] at z0 z1
    refine a_I2 ⟨by decide, by decide⟩ ?_
    walk_at "dw"
    refine ⟨.inl (by omega), ?_⟩
    walk_at "dw"
    refine a_I2 (by decide) ?_
    walk_at "dw"
    generalize hu : z * (z.fdiv 1009 + 69621) % 2147483647 = u
    have u0 := Int.emod_nonneg (z * (z.fdiv 1009 + 69621)) (b := 2147483647) (by decide)
    have u1 := Int.emod_lt_of_pos (z * (z.fdiv 1009 + 69621)) (b := 2147483647) (by decide)
    rw [hu] at u0 u1
    refine a_I2 ⟨by decide, by decide⟩ ?_
    walk_at "dw"
    refine ⟨.inl (by omega), ?_⟩
    walk_at "dw"
    refine a_I2 (by decide) ?_
    walk_at "dw"
    refine a_I2 ⟨by decide, by decide⟩ ?_
    walk_at "dw"
    refine a_I2 (by show (0 : Int) < m; omega) ?_
    walk_at "dw"
    exact q _ _ (pool_mk lg ls) (Int.emod_nonneg _ (by omega)) (Int.emod_lt_of_pos _ (by omega))
end

/-! ### what is judged, and what is raised -/
def isVw : D → Bool
  | .tup [x, y] => withinD 0 4 x && withinD 0 4 y
  | _ => false
def isPairD : D → Bool
  | .tup [_, _] => true
  | _ => false
def vw (v w : Nat) : D := .tup [.int v, .int w]
section
variable {c : Cl} {P : O → List O → Prop} {PE : DExc → List O → Prop} {hs ks : List Int} {p b : Int} {K : O → Prop} {d x y : D} {n : Nat} {lo hi : Int}
theorem isPair_inv (h : isPairD d = true) : ∃ x y, d = .tup [x, y] := by
  unfold isPairD at h
  split at h
  · exact ⟨_, _, rfl⟩
  · cases h
theorem isVw_inv (h : isVw d = true) : ∃ v w : Nat, d = vw v w ∧ v ≤ 4 ∧ w ≤ 4 := by
  unfold isVw at h
  split at h
  · rw [Bool.and_eq_true] at h
    obtain ⟨i, rfl, i0, i1⟩ := within_inv h.1
    obtain ⟨j, rfl, j0, j1⟩ := within_inv h.2
    refine ⟨i.toNat, j.toNat, ?_, by omega, by omega⟩
    unfold vw
    rw [show ((i.toNat : Nat) : Int) = i by omega, show ((j.toNat : Nat) : Int) = j by omega]
  · cases h
theorem isVw_no (h : isPairD d = false) : isVw d = false := by
  unfold isPairD at h
  unfold isVw
  split at h
  · cases h
  · rfl
theorem e_checkBlock (hp : PlainD [c.Tree] d) (yes : withinD 1 n d = true → P (.fr .non) []) (no : withinD 1 n d = false → PE ⟨.ref c.NoBlock, none⟩ []) : D_check_block c [.fr (.int n), .fr d] P PE := by
  refine D_check_block_in ?_
  unfold B_check_block
  walk_at "dw"
  refine e_within hp ?_
  cases h : withinD 1 n d with
  | true =>
    walk_at "dw"
    exact yes h
  | false =>
    walk_at "dw"
    exact no h
theorem e_checkPlace (hp : PlainD [c.Tree] d) (yes : withinD 0 n d = true → P (.fr .non) []) (no : withinD 0 n d = false → PE ⟨.ref c.NoPlace, none⟩ []) : D_check_place c [.fr (.int n), .fr d] P PE := by
  refine D_check_place_in ?_
  unfold B_check_place
  walk_at "dw"
  refine e_within hp ?_
  cases h : withinD 0 n d with
  | true =>
    walk_at "dw"
    exact yes h
  | false =>
    walk_at "dw"
    exact no h
theorem e_checkNumber (hp : PlainD [c.Tree] d) (yes : withinD lo hi d = true → P (.fr .non) []) (no : withinD lo hi d = false → PE ⟨.ref c.NoNumber, none⟩ []) : D_check_number c [.fr d, .fr (.int lo), .fr (.int hi)] P PE := by
  refine D_check_number_in ?_
  unfold B_check_number
  walk_at "dw"
  refine e_within hp ?_
  cases h : withinD lo hi d with
  | true =>
    walk_at "dw"
    exact yes h
  | false =>
    walk_at "dw"
    exact no h
theorem e_pair (pd : PlA [c.Tree] d) (q : P (.fr (.bl (isPairD d))) []) : D_is_pair c [.fr d] P PE := by
  refine D_is_pair_in ?_
  unfold B_is_pair
  walk_at "dw"
  refine e_isi pd.plain (.inr (.inr (.inl rfl))) ?_
  walk_at "dw"
  cases h : isKd d "tuple" with
  | false =>
    refine a_ifF rfl ?_
    have : isPairD d = false := by
      cases hp : isPairD d with
      | false => rfl
      | true =>
        obtain ⟨x, y, rfl⟩ := isPair_inv hp
        cases h
    rw [this] at q
    walk_at "dw"
    exact q
  | true =>
    obtain ⟨xs, rfl⟩ := isKd_tup.mp h
    refine a_ifT rfl ?_
    walk_at "dw"
    have : isPairD (.tup xs) = decide ((xs.length : Int) = 2) := by
      match xs with
      | [] => rfl
      | [_] => rfl
      | [_, _] => rfl
      | _ :: _ :: _ :: r => exact (decide_eq_false (by simp only [List.length_cons]; omega)).symm
    rw [this] at q
    exact q
theorem e_isView (pd : PlA [c.Tree] d) (q : P (.fr (.bl (isVw d))) []) : D_is_view c [.fr d] P PE := by
  refine D_is_view_in ?_
  unfold B_is_view
  walk_at "dw"
  refine e_pair pd ?_
  cases hp : isPairD d with
  | false =>
    rw [isVw_no hp] at q
    walk_at "dw"
    exact q
  | true =>
    obtain ⟨x, y, rfl⟩ := isPair_inv hp
    walk_at "dw"
    refine a_lcM (fun x => .bl (withinD 0 4 x)) (by show 2 < 1000; decide) (fun k z acc NX hx ha nx => ⟨by rfl, ?_⟩) ?_
    · walk_at "dw"
      refine e_within (pd.item (List.mem_of_getElem? hx)).plain ?_
      walk_at "dw"
      exact ⟨ha, nx⟩
    · walk_at "dw"
      refine a_allE (bs := [withinD 0 4 x, withinD 0 4 y]) rfl ?_
      rw [show [withinD 0 4 x, withinD 0 4 y].all id = isVw (.tup [x, y]) by show (withinD 0 4 x && (withinD 0 4 y && true)) = _; rw [Bool.and_true]; rfl]
      walk_at "dw"
      exact q
theorem e_checkView (pd : PlA [c.Tree] d) (yes : isVw d = true → P (.fr .non) []) (no : isVw d = false → PE ⟨.ref c.NoView, none⟩ []) : D_check_view c [.fr d] P PE := by
  refine D_check_view_in ?_
  unfold B_check_view
  walk_at "dw"
  refine e_isView pd ?_
  cases h : isVw d with
  | true =>
    walk_at "dw"
    exact yes h
  | false =>
    walk_at "dw"
    exact no h
/-! ### what is asked of a tree -/
theorem e_placeOf (tr : IsTree hs) (hp : PlainD [c.Tree] d) (yes : withinD 1 hs.length d = true → ∀ o, P o []) (no : withinD 1 hs.length d = false → PE ⟨.ref c.NoBlock, none⟩ []) : D_place_of c [.fr (treeD c hs), .fr d] P PE := by
  refine D_place_of_in ?_
  unfold B_place_of treeD
  walk_at "dw"
  rw [List.length_map]
  refine e_checkBlock hp (fun h => ?_) (fun h => ?_)
  · obtain ⟨i, rfl, i0, i1⟩ := within_inv h
    walk_at "dw"
    refine a_ixT (getD i0 i1) ?_
    walk_at "dw"
    exact yes h _
  · exact ⟨rfl, no h⟩
theorem e_parentsT (tr : IsTree hs) (hp : PlainD [c.Tree] d) (yes : withinD 1 hs.length d = true → ∀ o, P o []) (no : withinD 1 hs.length d = false → PE ⟨.ref c.NoBlock, none⟩ []) : D_parentsT c [.fr (treeD c hs), .fr d] P PE := by
  refine D_parentsT_in ?_
  unfold B_parentsT treeD
  walk_at "dw"
  rw [List.length_map]
  refine e_checkBlock hp (fun h => ?_) (fun h => ?_)
  · obtain ⟨i, rfl, i0, i1⟩ := within_inv h
    walk_at "dw"
    refine e_parents tr (by omega) i1 ?_
    walk_at "dw"
    exact yes h _
  · exact ⟨rfl, no h⟩
theorem e_under (tr : IsTree hs) (hp : PlainD [c.Tree] d) (yes : withinD 0 hs.length d = true → ∀ o, P o []) (no : withinD 0 hs.length d = false → PE ⟨.ref c.NoPlace, none⟩ []) : D_under c [.fr (treeD c hs), .fr d] P PE := by
  refine D_under_in ?_
  unfold B_under treeD
  walk_at "dw"
  rw [List.length_map]
  refine e_checkPlace hp (fun h => ?_) (fun h => ?_)
  · obtain ⟨i, rfl, i0, i1⟩ := within_inv h
    walk_at "dw"
    refine e_hanging tr ?_
    walk_at "dw"
    exact yes h _
  · exact ⟨rfl, no h⟩
theorem e_beneathT (tr : IsTree hs) (hp : PlainD [c.Tree] d) (yes : withinD 0 hs.length d = true → ∀ o, P o []) (no : withinD 0 hs.length d = false → PE ⟨.ref c.NoPlace, none⟩ []) : D_beneathT c [.fr (treeD c hs), .fr d] P PE := by
  refine D_beneathT_in ?_
  unfold B_beneathT treeD
  walk_at "dw"
  rw [List.length_map]
  refine e_checkPlace hp (fun h => ?_) (fun h => ?_)
  · obtain ⟨i, rfl, i0, i1⟩ := within_inv h
    walk_at "dw"
    refine e_beneath tr i0 i1 ?_
    walk_at "dw"
    exact yes h _
  · exact ⟨rfl, no h⟩
end

theorem toPy_ints (ns : List Int) : toPy (.lst (ns.map .int)) = some (.list (ns.map PyData.int)) := by
  show (match toPyL (ns.map D.int) with
    | some l => some (PyData.list l)
    | none => none) = _
  rw [toPyL_ints]
theorem shaped_lints (hs : List Int) : SeqAt.shaped (.list (hs.map PyData.int)) = true := by
  show (PyData.canLayAll0 (hs.map PyData.int) && decide (PyData.depthAll (hs.map PyData.int) + 1 ≤ 64)) = true
  rw [layAll_ints, depthAll_ints]
  rfl
section
variable {c : Cl} {P : O → List O → Prop} {PE : DExc → List O → Prop} {hs ks ns : List Int} {p b : Int} {K : O → Prop} {d x y : D} {n : Nat} {lo hi : Int}
theorem a_neInts {t u : List Int} (q : K (.fr (.bl (!decide (t = u))))) : dNe (.lst (t.map .int)) (.lst (u.map .int)) K := by
  show oth (toPy (.lst (t.map .int))) fun a => oth (toPy (.lst (u.map .int))) fun b => _
  rw [toPy_ints, toPy_ints]
  refine ⟨shaped_lints _, shaped_lints _, ?_⟩
  show K (.fr (.bl (!PyData.eqvAll (t.map PyData.int) (u.map PyData.int))))
  rw [eqvAll_ints]
  exact q
theorem a_eqInts {t u : List Int} (q : K (.fr (.bl (decide (t = u))))) : dEq (.lst (t.map .int)) (.lst (u.map .int)) K := by
  show oth (toPy (.lst (t.map .int))) fun a => oth (toPy (.lst (u.map .int))) fun b => _
  rw [toPy_ints, toPy_ints]
  refine ⟨shaped_lints _, shaped_lints _, ?_⟩
  show K (.fr (.bl (PyData.eqvAll (t.map PyData.int) (u.map PyData.int))))
  rw [eqvAll_ints]
  exact q
/-! ### a block hung elsewhere -/
theorem e_moved (tr : IsTree hs) (pd : PlainD [c.Tree] d) (px : PlainD [c.Tree] x) (nb : withinD 1 hs.length d = false → PE ⟨.ref c.NoBlock, none⟩ []) (np : withinD 1 hs.length d = true → withinD 0 hs.length x = false → PE ⟨.ref c.NoPlace, none⟩ [])
    (no : ∀ b p, d = .int b → x = .int p → 1 ≤ b → b ≤ hs.length → 0 ≤ p → p ≤ hs.length → (p = b ∨ b ∈ wy hs p) → PE ⟨.ref c.Beneath, none⟩ [])
    (yes : ∀ b p, d = .int b → x = .int p → 1 ≤ b → b ≤ hs.length → 0 ≤ p → p ≤ hs.length → ¬ (p = b ∨ b ∈ wy hs p) → ∀ o, P o []) : D_moved c [.fr (treeD c hs), .fr d, .fr x] P PE := by
  refine D_moved_in ?_
  unfold B_moved treeD
  have l40 := tr.2.1
  walk_at "dw"
  rw [List.length_map]
  refine e_checkBlock pd (fun h => ?_) (fun h => ⟨rfl, nb h⟩)
  obtain ⟨b, rfl, b0, b1⟩ := within_inv h
  walk_at "dw"
  rw [List.length_map]
  refine e_checkPlace px (fun h2 => ?_) (fun h2 => ⟨rfl, np h h2⟩)
  obtain ⟨p, rfl, p0, p1⟩ := within_inv h2
  walk_at "dw"
  by_cases e : p = b
  · rw [decide_eq_true e]
    walk_at "dw"
    exact no b p rfl rfl b0 b1 p0 p1 (.inl e)
  refine a_ifF (decide_eq_false e) ?_
  walk_at "dw"
  refine e_beneath tr (by omega) b1 ?_
  walk_at "dw"
  refine a_inRow ?_
  by_cases m : b ∈ wy hs p
  · have inb : p ∈ ben hs b := (ben_iff p0 p1).mpr m
    rw [decide_eq_true inb]
    walk_at "dw"
    exact no b p rfl rfl b0 b1 p0 p1 (.inr m)
  have nin : ¬ p ∈ ben hs b := fun z => m ((ben_iff p0 p1).mp z)
  rw [decide_eq_false nin]
  walk_at "dw"
  refine a_ifF rfl ?_
  walk_at "dw"
  refine e_with b0 b1 l40 ?_
  walk_at "dw"
  refine e_init (tr.move b0 b1 p0 p1 e m) ⟨rfl, a_one ?_⟩
  walk_at "dw"
  exact yes b p rfl rfl b0 b1 p0 p1 (fun z => z.elim e m) _
/-! ### blocks called anew -/
def IsOrd (n : Nat) (d : D) : Prop := ∃ ms : List Int, d = rowD ms ∧ Ord n ms
theorem rowD_inj {ms ks : List Int} (h : rowD ms = rowD ks) : ms = ks := by
  have h1 : ms.map D.int = ks.map D.int := by injection h
  exact (List.map_inj_right (fun a b e => by injection e)).mp h1
theorem all_ints : ∀ xs : List D, xs.all (withinD lo hi) = true → ∃ ns : List Int, xs = ns.map .int ∧ ∀ z ∈ ns, lo ≤ z ∧ z ≤ hi
  | [], _ => ⟨[], rfl, fun _ h => nomatch h⟩
  | x :: xs, h => by
    rw [List.all_cons, Bool.and_eq_true] at h
    obtain ⟨i, rfl, h1, h2⟩ := within_inv h.1
    obtain ⟨ns, rfl, h3⟩ := all_ints xs h.2
    exact ⟨i :: ns, rfl, fun z hz => (List.mem_cons.mp hz).elim (fun e => by rw [e]; exact ⟨h1, h2⟩) (h3 z)⟩
theorem numL_sorted (n : Nat) : (numL n).Pairwise (· ≤ ·) := by
  unfold numL
  refine List.Pairwise.map _ ?_ List.pairwise_lt_range
  intro a b hab
  show (1 : Int) + (a : Int) ≤ 1 + (b : Int)
  omega
theorem ord_sorted {ms : List Int} (pm : ms.Perm ns) (so : ms.Pairwise (· ≤ ·)) : ms = numL n ↔ Ord n ns := by
  constructor
  · rintro rfl
    exact ⟨by rw [← pm.length_eq, numL_len], pm.nodup_iff.mp (numL_nodup n), fun m hm => numL_in m (pm.mem_iff.mpr hm)⟩
  · intro o
    refine List.Perm.eq_of_pairwise (le := (· ≤ ·)) (fun a b _ _ h1 h2 => Int.le_antisymm h1 h2) so (numL_sorted n) (pm.trans (o.perm.trans ?_))
    refine (List.perm_ext_iff_of_nodup (o.perm.nodup_iff.mp o.nd) (numL_nodup n)).mpr fun z => ?_
    rw [blocks_mem]
    refine ⟨fun h => ?_, fun h => numL_in z h⟩
    unfold numL
    exact List.mem_map.mpr ⟨z.toNat - 1, List.mem_range.mpr (by omega), by omega⟩
theorem ord_no (h : isKd d "tuple" = false) : ¬ IsOrd n d := by
  rintro ⟨ms, rfl, _⟩
  cases h
theorem ord_no2 {xs : List D} (h : xs.all (withinD 1 n) = false) : ¬ IsOrd n (.tup xs) := by
  rintro ⟨ms, e, o⟩
  have e : xs = ms.map .int := by injection e
  subst e
  have : (ms.map D.int).all (withinD 1 n) = true := List.all_eq_true.mpr fun x hx => by
    obtain ⟨z, hz, rfl⟩ := List.mem_map.mp hx
    exact decide_eq_true (o.bl z hz)
  rw [this] at h
  cases h
theorem ord_no3 (h : ¬ Ord n ns) : ¬ IsOrd n (.tup (ns.map .int)) := by
  rintro ⟨ms, e, o⟩
  rw [rowD_inj e] at h
  exact h o
theorem name_at {z : Int} (z0 : 0 ≤ z) (z1 : z ≤ ns.length) : atI ((0 :: ns).map D.int) z = some (.int (stp ns z)) := by
  refine atI_of (jj := z.toNat) (by omega) ?_
  rw [List.getElem?_map]
  by_cases e : z = 0
  · rw [e, stp_zero]; rfl
  · rw [show z.toNat = (z.toNat - 1) + 1 by omega, List.getElem?_cons_succ, stp_get (by omega) z1]; rfl
theorem e_called (tr : IsTree hs) (pd : PlA [c.Tree] d) (hl : ∀ xs, d = .tup xs → xs.length ≤ 100) (yes : IsOrd hs.length d → ∀ o, P o []) (no : ¬ IsOrd hs.length d → PE ⟨.ref c.NoOrder, none⟩ []) : D_called c [.fr (treeD c hs), .fr d] P PE := by
  refine D_called_in ?_
  unfold B_called treeD
  have l40 := tr.2.1
  walk_at "dw"
  rw [List.length_map]
  walk_at "dw"
  refine e_isi pd.plain (.inr (.inr (.inl rfl))) ?_
  cases h : isKd d "tuple" with
  | false =>
    walk_at "dw"
    exact no (ord_no h)
  | true =>
  obtain ⟨xs, rfl⟩ := isKd_tup.mp h
  have lx := hl xs rfl
  walk_at "dw"
  refine a_lcM (fun x => .bl (withinD 1 hs.length x)) (by omega) (fun k z acc NX hx ha nx => ⟨by rfl, ?_⟩) ?_
  · walk_at "dw"
    refine e_within (pd.item (List.mem_of_getElem? hx)).plain ?_
    walk_at "dw"
    exact ⟨ha, nx⟩
  walk_at "dw"
  refine a_allE (bs := xs.map (withinD 1 hs.length)) (by rw [← asBls_map, List.map_map]; rfl) ?_
  rw [show (xs.map (withinD 1 hs.length)).all id = xs.all (withinD 1 hs.length) by rw [List.all_map]; rfl]
  cases hw : xs.all (withinD 1 hs.length) with
  | false =>
    walk_at "dw"
    exact no (ord_no2 hw)
  | true =>
  obtain ⟨ns, rfl, rg⟩ := all_ints xs hw
  walk_at "dw"
  refine a_sortT fun ms pm so => ?_
  walk_at "dw"
  refine ⟨⟨by omega, by omega⟩, ?_⟩
  dsimp only
  rw [show ((hs.length : Int) + 1 - 1).toNat = hs.length by omega, rgD_num, if_pos rfl]
  refine a_pkN ?_
  refine a_neInts ?_
  by_cases e : ms = numL hs.length
  case neg =>
    rw [decide_eq_false e]
    walk_at "dw"
    exact no (ord_no3 fun o => e ((ord_sorted pm so).mpr o))
  have o : Ord hs.length ns := (ord_sorted pm so).mp e
  rw [decide_eq_true e]
  walk_at "dw"
  refine a_addT (by rw [List.length_map, o.len]; show 1 + hs.length ≤ 1000; omega) ?_
  rw [show [D.int 0] ++ ns.map D.int = (0 :: ns).map D.int from rfl]
  walk_at "dw"
  refine a_mulL ⟨by omega, by omega, by decide⟩ ?_
  rw [rep_int, show ((hs.length : Int)).toNat = hs.length by omega]
  walk_at "dw"
  refine a_rgb2 (by omega) ?_
  refine a_forI (fun i e => e = [S.ow (.fr (.ins c.Tree [("hung", rowD hs)])), .un, .un, .ow (.fr (rowD (0 :: ns))), .ow (oL ((callF hs ns i).map .int)), .un, .un]) rfl ?_ ?_
  · rintro i d e NX hd rfl nx
    obtain ⟨hi, rfl⟩ := rgD_at hd
    have w := o.at (c := 1 + (i : Int)) (by omega) (by omega)
    have si := stp_in tr.2.2.1 (1 + (i : Int))
    walk_at "dw"
    refine a_ixT (getD (by omega) (by omega)) ?_
    walk_at "dw"
    refine a_ixT (name_at si.1 (by rw [o.len]; exact si.2)) ?_
    walk_at "dw"
    refine a_ixT (name_at (by omega) (by rw [o.len]; omega)) ?_
    walk_at "dw"
    refine a_subK (os := ((callF hs ns i).map D.int).map .fr) (jj := (stp ns (1 + (i : Int)) - 1).toNat) rfl (ixN_of (by omega) (by rw [List.length_map, List.length_map, callF_len]; omega)) ?_
    refine nx _ ?_
    have e1 : callF hs ns (i + 1) = (callF hs ns i).set ((stp ns (1 + (i : Int)) - 1).toNat) (stp ns (stp hs (1 + (i : Int)))) := by
      show (callF hs ns i).set ((stp ns ((i : Int) + 1)).toNat - 1) _ = _
      rw [Int.add_comm (i : Int) 1, show (stp ns (1 + (i : Int)) - 1).toNat = (stp ns (1 + (i : Int))).toNat - 1 by omega]
    rw [e1]
    unfold oL
    rw [List.map_set, List.map_set]
    rfl
  · rw [rgD_len, show ((hs.length : Int) + 1 - 1).toNat = hs.length by omega]
    rintro e rfl
    walk_at "dw"
    refine e_init (hs := callL hs ns) (tr.call o) ⟨rfl, a_one ?_⟩
    walk_at "dw"
    exact yes ⟨ns, rfl, o⟩ _
end

theorem shaped_tell (tl : List Int × List (Int × Int)) : SeqAt.shaped (tellD tl) = true := by
  show ((PyData.canLayAll0 (tl.1.map PyData.int) && (PyData.canLayAll0 (tl.2.map pairD) && true)) && decide (max (PyData.depthAll (tl.1.map PyData.int) + 1) (max (PyData.depthAll (tl.2.map pairD) + 1) 0) + 1 ≤ 64)) = true
  rw [layAll_ints, layAll_pairs, depthAll_ints]
  have := depthAll_pairs tl.2
  exact decide_eq_true (by omega)
theorem eqv_tell {tl tm : List Int × List (Int × Int)} : PyData.eqv (tellD tl) (tellD tm) = decide (tl = tm) := by
  show (PyData.eqvAll (tl.1.map PyData.int) (tm.1.map PyData.int) && (PyData.eqvAll (tl.2.map pairD) (tm.2.map pairD) && true)) = _
  rw [eqvAll_ints, eqvAll_pairs, Bool.and_true, Bool.eq_iff_iff, Bool.and_eq_true, decide_eq_true_eq, decide_eq_true_eq, decide_eq_true_eq]
  exact ⟨fun ⟨a, b⟩ => Prod.ext a b, fun e => by rw [e]; exact ⟨rfl, rfl⟩⟩
section
variable {c : Cl} {P : O → List O → Prop} {PE : DExc → List O → Prop} {hs ks : List Int} {p b : Int} {v w : Nat} {d : D}
theorem map_prD (l : List Int) (hs : List Int) : l.map (fun c => prD (c, stp hs c)) = (l.map fun c => (c, stp hs c)).map prD := by rw [List.map_map]; rfl
theorem ties_ofD {s : Nat} (t : IsTree hs) {qs : List (Int × Int)} (pm : qs.Perm ((found hs p s).map fun c => (c, stp hs c))) (so : (qs.map Prod.fst).Pairwise (· ≤ ·)) : qs = ties hs p s := by
  have e1 : qs.map Prod.fst = tie hs p s := by
    refine tie_of t ?_ so
    have := pm.map Prod.fst
    rw [List.map_map] at this
    have id : (Prod.fst ∘ fun c : Int => (c, stp hs c)) = id := rfl
    rw [id, List.map_id] at this
    exact this
  unfold ties
  rw [← e1, List.map_map]
  have e2 : qs.map ((fun c : Int => (c, stp hs c)) ∘ Prod.fst) = qs.map id := List.map_congr_left fun x hx => by
    obtain ⟨c, _, e⟩ := List.mem_map.mp (pm.mem_iff.mp hx)
    rw [← e]
    rfl
  rw [e2, List.map_id]
theorem e_ties {s : Nat} (tr : IsTree hs) (p0 : 0 ≤ p) (p1 : p ≤ hs.length) (s4 : s ≤ 4) (q : P (.fr (.tup ((ties hs p s).map prD))) []) : D_ties_down c [.fr (rowD hs), .fr (.int p), .fr (.int s)] P PE := by
  refine D_ties_down_in ?_
  unfold B_ties_down
  have l40 := tr.2.1
  have lay : ∀ k, (layer hs p k).length ≤ 41 := fun k => by
    have := List.Nodup.length_le_of_subset (layer_nodup (hs := hs) (p := p) k) (l₂ := p :: blocks hs.length) fun c hc => by
      cases k with
      | zero => rw [List.mem_singleton.mp hc]; exact List.mem_cons_self
      | succ k => exact List.mem_cons_of_mem _ (blocks_mem.mpr ((mem_layer tr k c).mp hc).1)
    rw [List.length_cons, blocks_len] at this
    omega
  have fnl : ∀ k, (found hs p k).length ≤ 40 := fun k => by
    have := List.Nodup.length_le_of_subset (found_nodup (hs := hs) (p := p) tr k) (l₂ := blocks hs.length) fun c hc => blocks_mem.mpr ((mem_found tr k c).mp hc).1
    rw [blocks_len] at this
    omega
  walk_at "dw"
  refine a_rgb (by omega) ?_
  refine a_forI (fun i e => e = [S.ow (.fr (rowD hs)), .un, .un, S.ow (oL ((found hs p i).map fun c => prD (c, stp hs c))), S.ow (oL ((layer hs p i).map .int)), .un, .un, .un, .un]) rfl ?_ ?_
  · rintro i d e NX hd rfl nx
    obtain ⟨hi, rfl⟩ := rgD_at hd
    have lyb : ∀ c ∈ layer hs p i, 0 ≤ c ∧ c ≤ hs.length := fun c hc => by
      cases i with
      | zero => rw [List.mem_singleton.mp hc]; exact ⟨p0, p1⟩
      | succ k =>
        have := ((mem_layer tr k c).mp hc).1
        omega
    have pre : ∀ j, (((layer hs p i).take j).flatMap (hang hs)).length ≤ 41 := fun j => by
      have e : layer hs p (i + 1) = ((layer hs p i).take j).flatMap (hang hs) ++ ((layer hs p i).drop j).flatMap (hang hs) := by
        rw [← List.flatMap_append, List.take_append_drop]
        rfl
      have := lay (i + 1)
      rw [e, List.length_append] at this
      omega
    walk_at "dw"
    refine a_forI (fun j e => e = [S.ow (.fr (rowD hs)), .un, .un, S.ow (oL ((found hs p i).map fun c => prD (c, stp hs c))), .un, .un, S.ow (oL ((((layer hs p i).take j).flatMap (hang hs)).map fun c => prD (c, stp hs c))), .un, .un]) rfl ?_ ?_
    · rintro j d e NX2 hd rfl nx2
      rw [List.getElem?_map] at hd
      cases ec : (layer hs p i)[j]? with
      | none => rw [ec] at hd; cases hd
      | some k =>
        rw [ec] at hd
        cases hd
        have hgl : (hang hs k).length ≤ 40 := Nat.le_trans (hangN_len _) l40
        walk_at "dw"
        refine e_hanging tr ?_
        walk_at "dw"
        refine a_lcM (fun d => .tup [d, .int k]) (by rw [List.length_map]; omega) (fun m d acc NX3 hm ha n3 => ⟨by rfl, ?_⟩) ?_
        · walk_at "dw"
          exact ⟨ha, n3⟩
        have tk : (layer hs p i).take (j + 1) = (layer hs p i).take j ++ [k] := take_snoc ec
        have e5 : ((((layer hs p i).take (j + 1)).flatMap (hang hs)).map fun c => prD (c, stp hs c)) = ((((layer hs p i).take j).flatMap (hang hs)).map fun c => prD (c, stp hs c)) ++ ((hang hs k).map D.int).map (fun d => D.tup [d, .int k]) := by
          rw [tk, List.flatMap_append, List.map_append, List.flatMap_cons, List.flatMap_nil, List.append_nil, List.map_map]
          refine congrArg _ (List.map_congr_left fun y hy => ?_)
          show prD (y, stp hs y) = D.tup [.int y, .int k]
          rw [(mem_hang.mp hy).2]
          rfl
        walk_at "dw"
        refine a_extL (ds := (((layer hs p i).take j).flatMap (hang hs)).map fun c => prD (c, stp hs c)) (es := ((hang hs k).map D.int).map (fun d => D.tup [d, .int k])) rfl (by
          rw [List.length_map, List.length_map, List.length_map]
          have := pre j
          omega) ?_
        rw [← e5]
        exact nx2 _ rfl
    · rw [List.length_map, List.take_length]
      rintro e rfl
      have b1 := lay (i + 1)
      have b2 := fnl i
      have b3 : ((layer hs p i).flatMap (hang hs)).length ≤ 41 := b1
      · walk_at "dw"
        refine a_extF (ds := (found hs p i).map fun c => prD (c, stp hs c)) (es := ((layer hs p i).flatMap (hang hs)).map fun c => prD (c, stp hs c)) rfl (by rw [List.length_map, List.length_map]; omega) ?_
        walk_at "dw"
        refine a_lcM (fun d => match d with
          | .tup [a, _] => a
          | d => d) (by rw [List.length_map]; omega) (fun m d acc NX3 hm ha n3 => ⟨by rfl, ?_⟩) ?_
        · rw [List.getElem?_map] at hm
          cases ec : ((layer hs p i).flatMap (hang hs))[m]? with
          | none => rw [ec] at hm; cases hm
          | some k =>
            rw [ec] at hm
            cases hm
            unfold prD
            walk_at "dw"
            exact ⟨ha, n3⟩
        · walk_at "dw"
          have e6 : (((layer hs p i).flatMap (hang hs)).map fun c => prD (c, stp hs c)).map (fun d => match d with
            | .tup [a, _] => a
            | d => d) = (layer hs p (i + 1)).map .int := by
            rw [List.map_map]
            rfl
          rw [e6, ← List.map_append]
          exact nx _ rfl
  · rw [rgD_len, show ((s : Int)).toNat = s by omega]
    rintro e rfl
    walk_at "dw"
    rw [map_prD]
    refine a_sortP fun qs pm so => ?_
    walk_at "dw"
    rw [ties_ofD tr pm (List.pairwise_map.mpr (so.imp fun {x y} h => by omega))]
    exact q
def tlD (t : List Int × List (Int × Int)) : D := .tup [rowD t.1, .tup (t.2.map prD)]
def tellsD (hs : List Int) (v w : Nat) (n : Nat) : List D := (List.range n).map fun (k : Nat) => tlD (tell hs v w (k : Nat))
theorem tellsD_at {hs : List Int} {v w n k : Nat} (h : k < n) : (tellsD hs v w n)[k]? = some (tlD (tell hs v w (k : Nat))) := by
  unfold tellsD
  rw [List.getElem?_map, List.getElem?_range h]
  rfl
theorem tellsD_len {hs : List Int} {v w n : Nat} : (tellsD hs v w n).length = n := by unfold tellsD; rw [List.length_map, List.length_range]
theorem e_raw (tr : IsTree hs) (p0 : 0 ≤ p) (p1 : p ≤ hs.length) (hv : v ≤ 4) (hw : w ≤ 4) (q : P (.fr (tlD (tell hs v w p))) []) : D_raw_telling c [.fr (rowD hs), .fr (vw v w), .fr (.int p)] P PE := by
  refine D_raw_telling_in ?_
  unfold B_raw_telling vw
  walk_at "dw"
  refine e_parents tr p0 p1 ?_
  walk_at "dw"
  refine a_ixT (d := .int v) (atI_of (jj := 0) rfl rfl) ?_
  walk_at "dw"
  rw [cutD_take]
  walk_at "dw"
  refine a_ixT (d := .int w) (atI_of (jj := 1) rfl rfl) ?_
  walk_at "dw"
  refine e_ties tr p0 p1 hw ?_
  walk_at "dw"
  exact q
theorem e_raws (tr : IsTree hs) (hv : v ≤ 4) (hw : w ≤ 4) (q : P (oL (tellsD hs v w (hs.length + 1))) []) : D_raw_tellings c [.fr (rowD hs), .fr (vw v w)] P PE := by
  refine D_raw_tellings_in ?_
  unfold B_raw_tellings
  have l40 := tr.2.1
  walk_at "dw"
  refine a_rgb (by rw [List.length_map]; omega) ?_
  refine a_lcM (fun d => match d with
    | .int p => tlD (tell hs v w p)
    | d => d) (by rw [rgD_len, List.length_map]; omega) (fun k d acc NX hk ha n1 => ⟨by rfl, ?_⟩) ?_
  · obtain ⟨hl, rfl⟩ := rgD_at hk
    rw [List.length_map] at hl
    walk_at "dw"
    refine e_raw tr (by omega) (by omega) hv hw ?_
    walk_at "dw"
    exact ⟨ha, n1⟩
  · have e : (rgD 0 ((((hs.map D.int).length : Nat) : Int) + 1).toNat).map (fun d => match d with
      | .int p => tlD (tell hs v w p)
      | d => d) = tellsD hs v w (hs.length + 1) := by
      rw [List.length_map, show (((hs.length : Nat) : Int) + 1).toNat = hs.length + 1 by omega]
      unfold rgD tellsD
      rw [List.map_map]
      refine List.map_congr_left fun k _ => ?_
      show tlD (tell hs v w (0 + (k : Int))) = _
      rw [Int.zero_add]
    rw [e]
    walk_at "dw"
    exact q
theorem toPyL_prs : ∀ ps : List (Int × Int), toPyL (ps.map prD) = some (ps.map pairD)
  | [] => rfl
  | (a, b) :: r => by
    show (match toPy (prD (a, b)) with
      | some p => (match toPyL (r.map prD) with
        | some l => some (p :: l)
        | none => none)
      | none => none) = _
    rw [toPyL_prs r]
    rfl
theorem toPy_tl (t : List Int × List (Int × Int)) : toPy (tlD t) = some (tellD t) := by
  have e1 := toPy_row t.1
  have e2 : toPy (.tup (t.2.map prD)) = some (.tuple (t.2.map pairD)) := by
    show (match toPyL (t.2.map prD) with
      | some l => some (PyData.tuple l)
      | none => none) = _
    rw [toPyL_prs]
  show (match (match toPy (rowD t.1) with
    | some p => (match (match toPy (.tup (t.2.map prD)) with
      | some p => (match toPyL [] with
        | some l => some (p :: l)
        | none => none)
      | none => none) with
      | some l => some (p :: l)
      | none => none)
    | none => none) with
    | some l => some (PyData.tuple l)
    | none => none) = _
  rw [e1, e2]
  rfl
theorem a_neTl {K : O → Prop} {t u : List Int × List (Int × Int)} (q : K (.fr (.bl (!decide (t = u))))) : dNe (tlD t) (tlD u) K := by
  show oth (toPy (tlD t)) fun a => oth (toPy (tlD u)) fun b => _
  rw [toPy_tl, toPy_tl]
  refine ⟨shaped_tell _, shaped_tell _, ?_⟩
  rw [eqv_tell]
  exact q
theorem filt_unl {n : Nat} : (rgD 0 n).filter (fun d => match d with
    | .int p => decide (tell hs v w p ≠ tell ks v w p)
    | _ => false) = (unlN hs ks v w n).map .int := by
  unfold rgD unlN places
  rw [List.filter_map, List.filter_map, List.map_map]
  have e : (List.range n).filter ((fun d => match d with
    | D.int p => decide (tell hs v w p ≠ tell ks v w p)
    | _ => false) ∘ fun (k : Nat) => D.int (0 + (k : Nat))) = (List.range n).filter ((fun p => decide (tell hs v w p ≠ tell ks v w p)) ∘ fun (k : Nat) => (k : Int)) := List.filter_congr fun k _ => by
      show decide (tell hs v w (0 + (k : Int)) ≠ tell ks v w (0 + (k : Int))) = _
      rw [Int.zero_add]
      rfl
  rw [e]
  refine List.map_congr_left fun k _ => ?_
  show D.int (0 + (k : Int)) = D.int (k : Int)
  rw [Int.zero_add]
def dst (v w : Nat) : Int := if w = 0 then (if v > 0 then 1 else 0) else (w : Int) + 1 + (if v > 0 then 1 else 0)
theorem e_rawDist (q : P (.fr (.int (dst v w))) []) : D_raw_distance c [.fr (vw v w)] P PE := by
  refine D_raw_distance_in ?_
  unfold B_raw_distance vw
  walk_at "dw"
  refine v_ite (fun h => ?_) (fun h => ?_) <;>
  · skip
    walk_at "dw"
    refine v_ite (fun h2 => ?_) (fun h2 => ?_) <;>
    · skip
      unfold dst at q
      walk_at "dw"
      first
      | rw [if_pos (by omega), if_pos (by omega)] at q; exact q
      | rw [if_pos (by omega), if_neg (by omega)] at q; exact q
      | rw [if_neg (by omega), if_pos (by omega)] at q; exact q
      | rw [if_neg (by omega), if_neg (by omega)] at q; exact q
theorem vw_is (hv : v ≤ 4) (hw : w ≤ 4) : isVw (vw v w) = true := by
  show (withinD 0 4 (.int v) && withinD 0 4 (.int w)) = true
  rw [show withinD 0 4 (.int (v : Int)) = true from decide_eq_true (by omega), show withinD 0 4 (.int (w : Int)) = true from decide_eq_true (by omega)]
  rfl
theorem vw_pl {Cs : List Addr} : PlA Cs (vw v w) := .cons .int (.cons .int .tup0)
theorem e_telling {x : D} (tr : IsTree hs) (pd : PlA [c.Tree] d) (px : PlainD [c.Tree] x) (nv : isVw d = false → PE ⟨.ref c.NoView, none⟩ []) (np : isVw d = true → withinD 0 hs.length x = false → PE ⟨.ref c.NoPlace, none⟩ [])
    (yes : isVw d = true → withinD 0 hs.length x = true → ∀ o, P o []) : D_telling c [.fr (treeD c hs), .fr d, .fr x] P PE := by
  refine D_telling_in ?_
  unfold B_telling treeD
  walk_at "dw"
  refine e_checkView pd (fun h => ?_) (fun h => ⟨rfl, nv h⟩)
  walk_at "dw"
  rw [List.length_map]
  refine e_checkPlace px (fun h2 => ?_) (fun h2 => ⟨rfl, np h h2⟩)
  obtain ⟨v, w, rfl, hv, hw⟩ := isVw_inv h
  obtain ⟨p, rfl, p0, p1⟩ := within_inv h2
  walk_at "dw"
  refine e_raw tr p0 p1 hv hw ?_
  walk_at "dw"
  exact yes h h2 _
theorem e_unlike (tr : IsTree hs) (ur : IsTree ks) (pd : PlA [c.Tree] d) (nl : hs.length ≠ ks.length → PE ⟨.ref c.OtherBlocks, none⟩ []) (nv : hs.length = ks.length → isVw d = false → PE ⟨.ref c.NoView, none⟩ [])
    (yes : hs.length = ks.length → isVw d = true → ∀ o, P o []) : D_unlike c [.fr (treeD c hs), .fr (treeD c ks), .fr d] P PE := by
  refine D_unlike_in ?_
  unfold B_unlike treeD
  have l40 := tr.2.1
  walk_at "dw"
  rw [List.length_map, List.length_map]
  by_cases hl : hs.length = ks.length
  case neg =>
    rw [decide_eq_false (fun z => hl (by omega))]
    walk_at "dw"
    exact nl hl
  rw [decide_eq_true (by omega)]
  walk_at "dw"
  refine e_checkView pd (fun h => ?_) (fun h => ⟨rfl, nv hl h⟩)
  obtain ⟨v, w, rfl, hv, hw⟩ := isVw_inv h
  walk_at "dw"
  refine e_raws tr hv hw ?_
  walk_at "dw"
  refine e_raws ur hv hw ?_
  walk_at "dw"
  rw [tellsD_len]
  refine a_rgb (by omega) ?_
  refine a_lcF (fun d => match d with
    | .int p => decide (tell hs v w p ≠ tell ks v w p)
    | _ => false) (by rw [rgD_len]; omega) (fun k d acc NX hk ha n1 n2 => ?_) ?_
  · obtain ⟨hk, rfl⟩ := rgD_at hk
    refine ⟨by rfl, ?_⟩
    walk_at "dw"
    refine a_ixP rfl (atI_of (jj := k) (by omega) (tellsD_at (by omega))) ?_
    walk_at "dw"
    refine a_ixP rfl (atI_of (jj := k) (by omega) (tellsD_at (by omega))) ?_
    walk_at "dw"
    refine a_neTl ?_
    walk_at "dw"
    refine v_iteN (fun e => ?_) (fun e => ?_)
    · walk_at "dw"
      exact ⟨ha, n1 (decide_eq_true (by rw [Int.zero_add]; exact e))⟩
    · exact n2 (decide_eq_false (by rw [Int.zero_add]; exact fun z => z e))
  · rw [show (((hs.length + 1 : Nat)) : Int).toNat = hs.length + 1 by omega, filt_unl]
    walk_at "dw"
    exact yes hl h _
theorem e_dist (pd : PlA [c.Tree] d) (nv : isVw d = false → PE ⟨.ref c.NoView, none⟩ []) (yes : isVw d = true → ∀ o, P o []) : D_distance c [.fr d] P PE := by
  refine D_distance_in ?_
  unfold B_distance
  walk_at "dw"
  refine e_checkView pd (fun h => ?_) (fun h => ⟨rfl, nv h⟩)
  obtain ⟨v, w, rfl, hv, hw⟩ := isVw_inv h
  walk_at "dw"
  refine e_rawDist ?_
  walk_at "dw"
  exact yes h _
variable {m : Nat}
theorem twB0 (k : Nat) : twB (k + 2) 0 = 0 :: 1 :: List.replicate k 0 := by
  unfold twB twA
  rw [if_pos rfl]
  rfl
theorem twBw (hw : w ≠ 0) : twB m w = ((List.range w).map fun (k : Nat) => (k : Int)) ++ [((w : Int) - 1), (w : Int) + 1] ++ List.replicate (m - w - 2) 0 := by
  unfold twB twA
  have l : ((List.range w).map fun (k : Nat) => (k : Int)).length = w := by rw [List.length_map, List.length_range]
  rw [if_neg hw, List.append_assoc, List.set_append_right _ _ (by rw [l]; omega), l, show ((w : Int) + 2).toNat - 1 - w = 1 by omega, List.append_assoc]
  rfl
theorem rgD_zero (n : Nat) : rgD 0 n = ((List.range n).map fun (k : Nat) => (k : Int)).map .int := by
  unfold rgD
  rw [List.map_map]
  refine List.map_congr_left fun k _ => ?_
  show D.int (0 + (k : Int)) = D.int (k : Int)
  rw [Int.zero_add]
theorem e_twins (hv : v ≤ 4) (hw : w ≤ 4) (m1 : 1 ≤ m) (hm : m ≤ 40) (q : ∀ o, P o []) : D_twins c [.fr (vw v w), .fr (.int m)] P PE := by
  refine D_twins_in ?_
  unfold B_twins
  walk_at "dw"
  refine e_checkView vw_pl (fun _ => ?_) (fun z => absurd z (by rw [vw_is hv hw]; decide))
  walk_at "dw"
  refine e_checkNumber .int (fun _ => ?_) (fun z => absurd z (by rw [show withinD 1 40 (.int (m : Int)) = true from decide_eq_true ⟨by omega, by omega⟩]; decide))
  unfold vw
  walk_at "dw"
  refine a_ixT (d := .int w) (atI_of (jj := 1) rfl rfl) ?_
  walk_at "dw"
  refine v_ite (fun h => ?_) (fun h => ?_)
  · walk_at "dw"
    exact q _
  have h' : w + 2 ≤ m := by omega
  have tA := twA_tree h' hm
  have tB := twB_tree h' hm
  walk_at "dw"
  have m0 : ∀ k : Int, k ≤ 40 → -40 ≤ k → ([D.int 0] ≠ [] ∧ -(2 ^ 62) ≤ k ∧ k ≤ 1000 ∧ [D.int 0].length ≤ 1000) := fun k h1 h2 => ⟨by simp, by omega, by omega, by decide⟩
  refine v_ite (fun hz => ?_) (fun hz => ?_)
  · have w0 : w = 0 := by omega
    subst w0
    obtain ⟨k, rfl⟩ : ∃ k, m = k + 2 := ⟨m - 2, by omega⟩
    have eA : (List.replicate ((k + 2 : Nat) : Int).toNat [D.int 0]).flatten = (twA (k + 2) 0).map .int := by
      rw [rep_int, show ((k + 2 : Nat) : Int).toNat = k + 2 by omega]
      rfl
    have eB : [D.int 0] ++ [D.int 1] ++ (List.replicate (((k + 2 : Nat) : Int) - 2).toNat [D.int 0]).flatten = (twB (k + 2) 0).map .int := by
      rw [rep_int, show (((k + 2 : Nat) : Int) - 2).toNat = k by omega, twB0]
      rfl
    walk_at "dw"
    refine a_mulT (m0 _ (by omega) (by omega)) ?_
    rw [eA]
    walk_at "dw"
    refine e_init tA ⟨rfl, a_one ?_⟩
    refine a_force1 ?_
    walk_at "dw"
    refine a_addT (by decide) ?_
    walk_at "dw"
    refine a_mulT (m0 _ (by omega) (by omega)) ?_
    walk_at "dw"
    refine a_addT (by rw [rep_int, List.length_map, List.length_replicate]; show 2 + _ ≤ 1000; omega) ?_
    rw [eB]
    walk_at "dw"
    refine e_init tB ⟨rfl, a_one ?_⟩
    refine a_force1 ?_
    walk_at "dw"
    exact q _
  · have w0 : w ≠ 0 := by omega
    have eA : ((List.range w).map fun (k : Nat) => (k : Int)).map D.int ++ [D.int ((w : Int) - 1), D.int (w : Int)] ++ (List.replicate ((m : Int) - w - 2).toNat [D.int 0]).flatten = (twA m w).map .int := by
      unfold twA
      rw [rep_int, show ((m : Int) - w - 2).toNat = m - w - 2 by omega, if_neg w0, List.map_append, List.map_append]
      rfl
    have eB : ((List.range w).map fun (k : Nat) => (k : Int)).map D.int ++ [D.int ((w : Int) - 1), D.int ((w : Int) + 1)] ++ (List.replicate ((m : Int) - w - 2).toNat [D.int 0]).flatten = (twB m w).map .int := by
      rw [twBw w0, rep_int, show ((m : Int) - w - 2).toNat = m - w - 2 by omega, List.map_append, List.map_append]
      rfl
    have lw : (((List.range w).map fun (k : Nat) => (k : Int)).map D.int).length = w := by rw [List.length_map, List.length_map, List.length_range]
    have lz : (List.replicate ((m : Int) - w - 2).toNat [D.int 0]).flatten.length = m - w - 2 := by rw [rep_int, List.length_map, List.length_replicate]; omega
    walk_at "dw"
    refine a_rgT rfl ⟨by omega, by omega⟩ ?_
    rw [show ((w : Int) - 0).toNat = w by omega, rgD_zero]
    generalize ((List.range w).map fun (k : Nat) => (k : Int)).map D.int = R at *
    walk_at "dw"
    refine a_mulT (m0 _ (by omega) (by omega)) ?_
    generalize (List.replicate ((m : Int) - w - 2).toNat [D.int 0]).flatten = Z at *
    walk_at "dw"
    refine a_addT (by rw [lw]; show _ + 2 ≤ 1000; omega) ?_
    walk_at "dw"
    refine a_addT (by rw [List.length_append, lw, lz]; show _ + 2 + _ ≤ 1000; omega) ?_
    rw [eA]
    walk_at "dw"
    refine e_init tA ⟨rfl, a_one ?_⟩
    refine a_force1 ?_
    walk_at "dw"
    refine a_addT (by rw [lw]; show _ + 2 ≤ 1000; omega) ?_
    walk_at "dw"
    refine a_addT (by rw [List.length_append, lw, lz]; show _ + 2 + _ ≤ 1000; omega) ?_
    rw [eB]
    walk_at "dw"
    refine e_init tB ⟨rfl, a_one ?_⟩
    refine a_force1 ?_
    walk_at "dw"
    exact q _
theorem e_twinsAll {x : D} (pd : PlA [c.Tree] d) (px : PlainD [c.Tree] x) (nv : isVw d = false → PE ⟨.ref c.NoView, none⟩ []) (nn : isVw d = true → withinD 1 40 x = false → PE ⟨.ref c.NoNumber, none⟩ [])
    (yes : isVw d = true → withinD 1 40 x = true → ∀ o, P o []) : D_twins c [.fr d, .fr x] P PE := by
  cases h : isVw d with
  | false =>
    refine D_twins_in ?_
    unfold B_twins
    walk_at "dw"
    refine e_checkView pd (fun z => by rw [h] at z; cases z) (fun h => ⟨rfl, nv h⟩)
  | true =>
  obtain ⟨v, w, rfl, hv, hw⟩ := isVw_inv h
  cases h2 : withinD 1 40 x with
  | false =>
    refine D_twins_in ?_
    unfold B_twins
    walk_at "dw"
    refine e_checkView pd (fun _ => ?_) (fun z => by rw [h] at z; cases z)
    walk_at "dw"
    refine e_checkNumber px (fun z => by rw [h2] at z; cases z) (fun z => ⟨rfl, nn h z⟩)
  | true =>
    obtain ⟨i, rfl, i0, i1⟩ := within_inv h2
    obtain ⟨m, rfl⟩ : ∃ m : Nat, i = m := ⟨i.toNat, by omega⟩
    exact e_twins hv hw (by omega) (by omega) (yes h h2)
end

section
variable {c : Cl} {P : O → List O → Prop} {PE : DExc → List O → Prop} {hs ks : List Int} {p b : Int} {v w : Nat} {d : D} {K : O → Prop}
theorem e_mixed {o : O} {n : Nat} (ho : PoolOk o) (h1 : n ≤ 1000) (q : ∀ (ms : List Int) o', PoolOk o' → ms.length = n → ms.Nodup → (∀ m ∈ ms, 1 ≤ m ∧ m ≤ n) → P (oL (ms.map .int)) [o']) : D_l_mixed c [o, .fr (.int n)] P PE := by
  refine D_l_mixed_in ?_
  unfold B_l_mixed
  walk_at "dw"
  refine ⟨⟨by omega, by omega⟩, ?_⟩
  dsimp only
  rw [show ((n : Int) + 1 - 1).toNat = n by omega, rgD_num]
  walk_at "dw"
  refine a_rgb (by omega) ?_
  refine a_lcI (fun i acc e => ∃ (o : O) (ms left : List Int), PoolOk o ∧ acc = (ms.map D.int).map .fr ∧ e = [S.bo o, .ow (.fr (.int n)), .ow (oL (left.map .int)), .un] ∧ ms.length = i ∧ left.length + i = n ∧ (ms ++ left).Perm (numL n))
    ⟨o, [], numL n, ho, rfl, rfl, rfl, by rw [numL_len]; rfl, List.Perm.refl _⟩ ?_ ?_
  · rintro k d acc e NX hd ⟨o, ms, left, ho, rfl, rfl, lm, ll, pm⟩ nx
    obtain ⟨hk, rfl⟩ := rgD_at hd
    refine ⟨by rfl, ?_⟩
    walk_at "dw"
    refine e_draw ho (by rw [List.length_map]; omega) (by rw [List.length_map]; omega) fun x o' ho' x0 x1 => ?_
    rw [List.length_map] at x1
    have hx : x.toNat < left.length := by omega
    walk_at "dw"
    refine a_popAt (ds := left.map .int) (j := x.toNat) (d := .int left[x.toNat]) rfl (by omega) (by rw [List.getElem?_map, List.getElem?_eq_getElem hx]; rfl) (by rw [List.length_map]; omega) ?_
    walk_at "dw"
    refine ⟨by rw [List.length_map, List.length_map, PySem.sizeLine_eq]; omega, nx _ _ ⟨o', ms ++ [left[x.toNat]], left.eraseIdx x.toNat, ho', by rw [List.map_append, List.map_append]; rfl, ?_, by rw [List.length_append, lm]; rfl, by rw [List.length_eraseIdx_of_lt hx]; omega, ?_⟩⟩
    · rw [map_erase']
      rfl
    · refine List.Perm.trans ?_ pm
      rw [List.append_assoc]
      exact List.Perm.append_left _ (perm_erase left x.toNat hx)
  · rw [rgD_len]
    rintro acc e ⟨o, ms, left, ho, rfl, rfl, lm, ll, pm⟩
    have e0 : left = [] := List.eq_nil_of_length_eq_zero (by omega)
    rw [e0, List.append_nil] at pm
    walk_at "dw"
    refine q ms o ho (by omega) (pm.nodup_iff.mpr (numL_nodup n)) fun m hm => numL_in m (pm.mem_iff.mp hm)
theorem e_hung {o : O} {n : Nat} (ho : PoolOk o) (h1 : 1 ≤ n) (h2 : n ≤ 40) (q : ∀ (hs : List Int) o', PoolOk o' → hs.length = n → IsTree hs → P (.fr (rowD hs)) [o']) : D_l_hung c [o, .fr (.int n)] P PE := by
  refine D_l_hung_in ?_
  unfold B_l_hung
  walk_at "dw"
  refine e_draw ho (by omega) (by omega) fun kd o1 ho1 k0 k1 => ?_
  walk_at "dw"
  refine e_mixed ho1 (by omega) fun ms o2 ho2 lm nd rg => ?_
  walk_at "dw"
  refine a_addL (by rw [List.length_map, lm]; show 1 + n ≤ 1000; omega) ?_
  have e1 : [D.int 0] ++ ms.map D.int = (0 :: ms).map D.int := rfl
  rw [e1]
  walk_at "dw"
  refine a_mulL ⟨by omega, by omega, by decide⟩ ?_
  rw [rep_int, show ((n : Int)).toNat = n by omega]
  have rg0 : ∀ (j : Nat) (x : Int), (0 :: ms)[j]? = some x → 0 ≤ x ∧ x ≤ n := fun j x hx => by
    rcases List.mem_cons.mp (List.mem_of_getElem? hx) with e | hm
    · rw [e]; omega
    · have := rg x hm; omega
  have nd0 : (0 :: ms).Nodup := List.nodup_cons.mpr ⟨fun h => absurd (rg 0 h).1 (by decide), nd⟩
  have l0 : (0 :: ms).length = n + 1 := by rw [List.length_cons, lm]
  generalize eM : (0 :: ms) = M at *
  walk_at "dw"
  refine a_rgb2 (by omega) ?_
  refine a_forI (fun i e => ∃ (o : O) (fs : List Int), PoolOk o ∧ e = [S.bo o, .un, .ow (.fr (.int kd)), .ow (oL (M.map .int)), .ow (oL (fs.map .int)), .un, .un] ∧ fs.length = n ∧ (∀ h ∈ fs, 0 ≤ h ∧ h ≤ n) ∧
      ∀ (j : Nat) (x : Int), 1 ≤ j → j ≤ i → M[j]? = some x → ∃ (a : Nat) (y : Int), a < j ∧ M[a]? = some y ∧ fs[(x - 1).toNat]? = some y)
    ⟨o2, List.replicate n 0, ho2, rfl, List.length_replicate, fun h hh => by rw [List.eq_of_mem_replicate hh]; omega, fun j x a b => absurd (Nat.le_trans a b) (by decide)⟩ ?_ ?_
  · rintro i d e NX hd ⟨o, fs, ho, rfl, lf, pl, inv⟩ nx
    obtain ⟨hi, rfl⟩ := rgD_at hd
    walk_at "dw"
    refine e_draw ho (by omega) (by omega) fun ab o1 ho1 a0 a1 => ?_
    walk_at "dw"
    refine a_cut (fun e => ∃ (o : O) (ab : Int), PoolOk o ∧ e = [S.bo o, .un, .ow (.fr (.int kd)), .ow (oL (M.map .int)), .ow (oL (fs.map .int)), .ow (.fr (.int (1 + (i : Int)))), .ow (.fr (.int ab))] ∧ 0 ≤ ab ∧ ab < 1 + (i : Int)) (fun NX nx => ?_) ?_
    · walk_at "dw"
      refine v_ite (fun c1 => ?_) (fun c1 => ?_)
      · walk_at "dw"
        exact nx _ ⟨o1, _, ho1, rfl, by omega, by omega⟩
      · walk_at "dw"
        refine v_ite (fun c2 => ?_) (fun c2 => ?_)
        · walk_at "dw"
          refine e_draw ho1 (by omega) (by omega) fun z o2 ho2 z0 z1 => ?_
          walk_at "dw"
          refine v_ite (fun c3 => ?_) (fun c3 => ?_)
          · walk_at "dw"
            exact nx _ ⟨o2, _, ho2, rfl, by omega, by omega⟩
          · walk_at "dw"
            exact nx _ ⟨o2, _, ho2, rfl, by omega, by omega⟩
        · walk_at "dw"
          exact nx _ ⟨o1, _, ho1, rfl, by omega, by omega⟩
    rintro e ⟨o2, ab, ho2, rfl, a0, a1⟩
    clear ho1 o1
    refine a_cut (fun e => ∃ (o : O) (ab : Int), PoolOk o ∧ e = [S.bo o, .un, .ow (.fr (.int kd)), .ow (oL (M.map .int)), .ow (oL (fs.map .int)), .ow (.fr (.int (1 + (i : Int)))), .ow (.fr (.int ab))] ∧ 0 ≤ ab ∧ ab < 1 + (i : Int)) (fun NX nx => ?_) ?_
    · walk_at "dw"
      refine v_ite (fun c1 => ?_) (fun c1 => ?_)
      · walk_at "dw"
        refine e_draw ho2 (by omega) (by omega) fun z o3 ho3 z0 z1 => ?_
        walk_at "dw"
        refine v_ite (fun c3 => ?_) (fun c3 => ?_)
        · walk_at "dw"
          exact nx _ ⟨o3, _, ho3, rfl, by omega, by omega⟩
        · walk_at "dw"
          exact nx _ ⟨o3, _, ho3, rfl, by omega, by omega⟩
      · walk_at "dw"
        exact nx _ ⟨o2, _, ho2, rfl, by omega, by omega⟩
    clear ho2 a0 a1
    rintro e ⟨o2, ab, ho2, rfl, a0, a1⟩
    have la : ab.toNat < M.length := by omega
    have li : i + 1 < M.length := by omega
    obtain ⟨y, hy⟩ : ∃ y, M[ab.toNat]? = some y := ⟨_, List.getElem?_eq_getElem la⟩
    obtain ⟨x, hx⟩ : ∃ x, M[i + 1]? = some x := ⟨_, List.getElem?_eq_getElem li⟩
    have hxp : 1 ≤ x ∧ x ≤ n := by
      rw [← eM, List.getElem?_cons_succ] at hx
      exact rg x (List.mem_of_getElem? hx)
    walk_at "dw"
    refine a_ixP rfl (atI_of (jj := ab.toNat) (by omega) (by rw [List.getElem?_map, hy]; rfl)) ?_
    walk_at "dw"
    refine a_ixP rfl (atI_of (jj := i + 1) (by omega) (by rw [List.getElem?_map, hx]; rfl)) ?_
    walk_at "dw"
    refine a_subK (os := (fs.map D.int).map .fr) (jj := (x - 1).toNat) rfl (ixN_of (by omega) (by rw [List.length_map, List.length_map]; omega)) ?_
    refine nx _ ⟨o2, fs.set (x - 1).toNat y, ho2, ?_, by rw [List.length_set]; exact lf, fun h hh => ?_, fun j x' j1 ji hx' => ?_⟩
    · unfold oL
      rw [List.map_set, List.map_set]
      rfl
    · rcases List.mem_or_eq_of_mem_set hh with hh | e
      · exact pl h hh
      · rw [e]
        exact rg0 _ _ hy
    · by_cases e : j = i + 1
      · rw [e, hx] at hx'
        have ex := Option.some.inj hx'
        refine ⟨ab.toNat, y, by omega, hy, ?_⟩
        rw [← ex, List.getElem?_set_self (by omega)]
      · obtain ⟨a, y', ha, hya, hf⟩ := inv j x' j1 (by omega) hx'
        refine ⟨a, y', ha, hya, ?_⟩
        have ne : x' ≠ x := fun z => by
          rw [z] at hx'
          exact e (nodup_at nd0 hx' hx)
        have xp : 1 ≤ x' := by
          obtain ⟨k, ek⟩ : ∃ k, j = k + 1 := ⟨j - 1, by omega⟩
          rw [ek, ← eM, List.getElem?_cons_succ] at hx'
          exact (rg x' (List.mem_of_getElem? hx')).1
        rw [List.getElem?_set_ne (by omega)]
        exact hf
  · rw [rgD_len]
    rintro e ⟨o, fs, ho, rfl, lf, pl, inv⟩
    walk_at "dw"
    refine q fs o ho lf ?_
    subst eM
    exact tree_of_order lm nd rg lf h1 h2 pl fun j x j1 jn hx => inv j x j1 (by omega) hx
theorem e_way (tr : IsTree hs) (p0 : 0 ≤ p) (p1 : p ≤ hs.length) (q : P (oL ((wy hs p).map .int)) []) : D_l_way c [.fr (rowD hs), .fr (.int p)] P PE := by
  refine D_l_way_in ?_
  unfold B_l_way
  have l40 := tr.2.1
  walk_at "dw"
  refine a_forI (fun i e => ∃ (acc : List Int) (z : Int), e = [S.ow (.fr (rowD hs)), .un, S.ow (oL (acc.map .int)), S.ow (.fr (.int z)), .un] ∧ acc ++ wy hs z = wy hs p ∧ 0 ≤ z ∧ z ≤ hs.length ∧ (wy hs z).length + i ≤ hs.length) ⟨[], p, rfl, rfl, p0, p1, way_len hs _ _⟩ ?_ ?_
  · rintro i d e NX hd ⟨acc, z, rfl, ea, z0, z1, le⟩ nx
    walk_at "dw"
    refine v_iteN (fun ne => ?_) (fun zz => ?_)
    · walk_at "dw"
      refine a_ixT (getD (by omega) z1) ?_
      walk_at "dw"
      have hl : acc.length ≤ hs.length := by
        have := congrArg List.length ea
        rw [List.length_append] at this
        have := way_len hs hs.length p
        unfold wy at *
        omega
      refine a_app (ds := acc.map .int) rfl (by rw [List.length_map]; omega) ?_
      have w := wy_cons tr (h := z) (by omega) z1
      have si := stp_in tr.2.2.1 z
      refine nx _ ⟨acc ++ [stp hs z], stp hs z, by rw [List.map_append]; rfl, ?_, si.1, si.2, ?_⟩
      · rw [List.append_assoc, ← ea, w]; rfl
      · rw [w, List.length_cons] at le
        omega
    · walk_at "dw"
      subst zz
      refine nx _ ⟨acc, 0, rfl, ea, by omega, by omega, ?_⟩
      rw [wy_zero]
      have := (List.getElem?_eq_some_iff.mp hd).1
      rw [List.length_map] at this
      show 0 + (i + 1) ≤ _
      omega
  · rintro e ⟨acc, z, rfl, ea, z0, z1, le⟩
    rw [List.length_map] at le
    walk_at "dw"
    have wz : wy hs z = [] := List.eq_nil_of_length_eq_zero (by omega)
    rw [wz, List.append_nil] at ea
    rw [ea]
    exact q
theorem e_lPick {o : O} {ds : List D} (ho : PoolOk o) (h0 : ds ≠ []) (h1 : ds.length ≤ 1000000) (q : ∀ (d : D) o', PoolOk o' → d ∈ ds → P (.fr d) [o']) : D_l_pick c [o, .fr (.lst ds)] P PE := by
  refine D_l_pick_in ?_
  unfold B_l_pick
  walk_at "dw"
  have l1 : 0 < ds.length := List.length_pos_iff.mpr h0
  refine e_draw ho (by omega) (by omega) fun a o1 g1 a0 a1 => ?_
  walk_at "dw"
  have l2 : a.toNat < ds.length := by omega
  refine a_ixL (d := ds[a.toNat]) (atI_of (jj := a.toNat) (by omega) (List.getElem?_eq_getElem l2)) ?_
  walk_at "dw"
  exact q _ _ g1 (List.getElem_mem l2)
theorem e_isi2 {Cs : List Addr} {d : D} {T U : String} {K : O → Prop} (hk : d.kind.isSome = true) (hT : okTy T) (hU : okTy U) (q : K (.fr (.bl (isKd d T || isKd d U)))) : dIsi Cs [d, .tup [.ty T, .ty U]] K := by
  show isiA Cs d (.tt T U) K
  unfold isiA
  rw [kind_cl hk]
  cases e : d.kind with
  | none => rw [e] at hk; cases hk
  | some s =>
    refine ⟨⟨hT, hU⟩, ?_⟩
    unfold isKd at q
    rw [e] at q
    exact q
theorem e_lIsI {n : Nat} {a b : Int} (q : P (.fr (.bl (decide (a = b)))) []) : D_l_is c (n + 1) [.fr (.int a), .fr (.int b)] P PE := by
  refine D_l_is_in ?_
  unfold BB_l_is
  walk_at "dw"
  refine e_isi2 rfl (.inr (.inr (.inl rfl))) (.inr (.inr (.inr (.inl rfl)))) ?_
  walk_at "dw"
  rw [show (isKd (D.int b) "tuple" || isKd (D.int b) "list") = false from rfl]
  walk_at "dw"
  refine e_isi .int (.inr (.inr (.inr (.inr (.inl rfl))))) ?_
  rw [show isKd (D.int b) "dict" = false from rfl]
  walk_at "dw"
  refine a_ifF rfl ?_
  walk_at "dw"
  refine e_isi .int (.inr (.inl rfl)) ?_
  walk_at "dw"
  refine e_isi .int (.inr (.inl rfl)) ?_
  rw [show isKd (D.int a) "bool" = false from rfl, show isKd (D.int b) "bool" = false from rfl]
  walk_at "dw"
  refine a_ifT rfl ?_
  walk_at "dw"
  refine a_ifT rfl ?_
  walk_at "dw"
  exact q
theorem e_lIsRow {n : Nat} {as bs : List Int} (hl : bs.length < 1000) (q : P (.fr (.bl (decide (as = bs)))) []) : D_l_is c (n + 2) [.fr (rowD as), .fr (rowD bs)] P PE := by
  refine D_l_is_in ?_
  unfold BB_l_is
  walk_at "dw"
  refine e_isi2 rfl (.inr (.inr (.inl rfl))) (.inr (.inr (.inr (.inl rfl)))) ?_
  rw [show (isKd (rowD bs) "tuple" || isKd (rowD bs) "list") = true from rfl]
  walk_at "dw"
  refine e_isi .tup (.inr (.inr (.inl rfl))) ?_
  walk_at "dw"
  refine e_isi .tup (.inr (.inr (.inl rfl))) ?_
  rw [show isKd (rowD as) "tuple" = true from rfl, show isKd (rowD bs) "tuple" = true from rfl]
  walk_at "dw"
  refine a_ifF rfl ?_
  walk_at "dw"
  refine e_isi .tup (.inr (.inr (.inr (.inl rfl)))) ?_
  walk_at "dw"
  refine e_isi .tup (.inr (.inr (.inr (.inl rfl)))) ?_
  rw [show isKd (rowD as) "list" = false from rfl, show isKd (rowD bs) "list" = false from rfl]
  walk_at "dw"
  refine a_ifF rfl ?_
  walk_at "dw"
  refine v_ite (fun h => ?_) (fun h => ?_)
  · have h' : as.length = bs.length := by
      rw [List.length_map, List.length_map] at h
      exact Int.ofNat.inj h
    walk_at "dw"
    refine a_rgb (by rw [List.length_map]; omega) ?_
    refine a_lcM (fun d => match d with
      | .int i => .bl (decide (as[i.toNat]? = bs[i.toNat]?))
      | _ => d) (by rw [rgD_len, List.length_map]; omega) (fun k d acc NX hk ha n1 => ?_) ?_
    · obtain ⟨hk0, rfl⟩ := rgD_at hk
      rw [List.length_map] at hk0
      refine ⟨by rfl, ?_⟩
      have k1 : k < as.length := by omega
      have k2 : k < bs.length := by omega
      walk_at "dw"
      refine a_ixT (d := .int as[k]) (atI_of (jj := k) (by omega) (by rw [List.getElem?_map, List.getElem?_eq_getElem k1]; rfl)) ?_
      walk_at "dw"
      refine a_ixT (d := .int bs[k]) (atI_of (jj := k) (by omega) (by rw [List.getElem?_map, List.getElem?_eq_getElem k2]; rfl)) ?_
      walk_at "dw"
      refine e_lIsI ?_
      walk_at "dw"
      refine ⟨ha, ?_⟩
      have e1 : (D.bl (decide (as[(0 + (k : Int)).toNat]? = bs[(0 + (k : Int)).toNat]?))) = .bl (decide (as[k] = bs[k])) := by
        rw [show (0 + (k : Int)).toNat = k by omega, List.getElem?_eq_getElem k1, List.getElem?_eq_getElem k2]
        congr 1
        rw [Bool.eq_iff_iff]
        simp
      rw [← e1]
      exact n1
    · walk_at "dw"
      refine a_allE (bs := (List.range bs.length).map fun i => decide (as[i]? = bs[i]?)) ?_ ?_
      · rw [List.length_map, show ((bs.length : Nat) : Int).toNat = bs.length by omega]
        rw [← asBls_map]
        unfold rgD
        rw [List.map_map, List.map_map]
        refine congrArg asBls (List.map_congr_left fun i _ => ?_)
        show D.bl (decide (as[(0 + (i : Int)).toNat]? = bs[(0 + (i : Int)).toNat]?)) = .bl (decide (as[i]? = bs[i]?))
        rw [show (0 + (i : Int)).toNat = i by omega]
      · have e2 : (((List.range bs.length).map fun i => decide (as[i]? = bs[i]?)).all id) = decide (as = bs) := by
          rw [Bool.eq_iff_iff, decide_eq_true_eq, List.all_eq_true]
          constructor
          · intro H
            refine List.ext_getElem? fun i => ?_
            by_cases hi : i < bs.length
            · exact of_decide_eq_true (H _ (List.mem_map.mpr ⟨i, List.mem_range.mpr hi, rfl⟩))
            · rw [List.getElem?_eq_none (by omega), List.getElem?_eq_none (by omega)]
          · rintro rfl b hb
            obtain ⟨i, _, rfl⟩ := List.mem_map.mp hb
            exact decide_eq_true rfl
        rw [e2]
        walk_at "dw"
        exact q
  · have h' : as ≠ bs := fun e => h (by rw [e])
    walk_at "dw"
    rw [decide_eq_false h'] at q
    exact q
section
variable {KR : R → Prop} {xs : List D} {z n : Int} {env : DEnv}
variable {PR : R → DEnv → Prop} {KD : D → DEnv → Prop} {tt : Bool} {X : DX}
theorem a_I1 {x : Int} {g : Int → D} (h : K (.fr (g x))) : dU g (.int x) K := h
theorem a_dct0 (h : PR (.o (.dct tt [])) env) : dDct0 tt env PR X := h
theorem a_forceDct (h : KD (.dct tt []) env) : force (.o (.dct tt [])) env KD := h
end
/-! ### odd things -/
structure Odd (c : Cl) (d : D) : Prop where
  pl : PlA [c.Tree] d
  sh : ∀ xs, d = .tup xs → xs.length ≤ 100
theorem Odd.oth {c : Cl} {d : D} (h : PlA [c.Tree] d) (nt : ∀ xs, d ≠ .tup xs) : Odd c d := ⟨h, fun xs e => absurd e (nt xs)⟩
theorem Odd.int {c : Cl} {i : Int} : Odd c (.int i) := .oth .int fun _ h => nomatch h
theorem Odd.tree {c : Cl} {hs : List Int} : Odd c (treeD c hs) := .oth (.ins List.mem_cons_self) fun _ h => nomatch h
theorem Odd.tup {c : Cl} {xs : List D} (h : ∀ x ∈ xs, PlA [c.Tree] x) (l : xs.length ≤ 100) : Odd c (.tup xs) := ⟨.tup h, fun ys e => by cases e; exact l⟩
theorem all_nil {Q : D → Prop} : ∀ x ∈ ([] : List D), Q x := fun _ h => nomatch h
theorem all_cons {Q : D → Prop} {x : D} {xs : List D} (h : Q x) (t : ∀ y ∈ xs, Q y) : ∀ y ∈ x :: xs, Q y := fun y m => (List.mem_cons.mp m).elim (fun e => by rw [e]; exact h) (t y)
theorem all_app {Q : D → Prop} {xs ys : List D} (h : ∀ x ∈ xs, Q x) (t : ∀ y ∈ ys, Q y) : ∀ z ∈ xs ++ ys, Q z := fun z m => (List.mem_append.mp m).elim (h z) (t z)
theorem e_number {lo hi : Int} (hp : PlainD [c.Tree] d) (q : P (.fr (.bl (withinD lo hi d))) []) : D_l_is_number c [.fr d, .fr (.int lo), .fr (.int hi)] P PE := by
  refine D_l_is_number_in ?_
  unfold B_l_is_number
  walk_at "dw"
  refine e_isi hp (.inl rfl) ?_
  cases e1 : isKd d "int" with
  | false =>
    have ew : withinD lo hi d = false := by cases d <;> first | rfl | cases e1
    rw [ew] at q
    walk_at "dw"
    exact q
  | true =>
    walk_at "dw"
    refine e_isi hp (.inr (.inl rfl)) ?_
    cases e2 : isKd d "bool" with
    | true =>
      have ew : withinD lo hi d = false := by cases d <;> first | rfl | cases e2 | cases e1
      rw [ew] at q
      walk_at "dw"
      exact q
    | false =>
      have ei := isKd_int (d := d)
      rw [e1, e2] at ei
      cases d with
      | int i =>
        rw [show withinD lo hi (.int i) = decide (lo ≤ i ∧ i ≤ hi) from rfl] at q
        walk_at "dw"
        by_cases h1 : lo ≤ i
        · rw [decide_eq_true h1]
          walk_at "dw"
          rw [show decide (lo ≤ i ∧ i ≤ hi) = decide (i ≤ hi) by rw [Bool.eq_iff_iff]; simp [h1]] at q
          exact q
        · rw [decide_eq_false h1]
          walk_at "dw"
          rw [decide_eq_false fun z => h1 z.1] at q
          exact q
      | _ => cases ei
theorem e_deep (q : ∀ x, PlA [c.Tree] x → P (oL [x]) []) : D_l_deep c [] P PE := by
  refine D_l_deep_in ?_
  unfold B_l_deep
  walk_at "dw"
  refine a_rgb (by decide) ?_
  refine a_forI (fun i e => ∃ s, ((i % 2 = 0 ∧ ∃ x, PlA [c.Tree] x ∧ s = S.ow (oL [x])) ∨ (i % 2 = 1 ∧ ∃ d, Odd c d ∧ s = .ow (.fr d))) ∧ e = [s, .un]) ⟨_, .inl ⟨rfl, _, .non, rfl⟩, rfl⟩ ?_ ?_
  · rintro i d e NX hd ⟨s, hs, rfl⟩ nx
    obtain ⟨hi, rfl⟩ := rgD_at hd
    rcases hs with ⟨par, x, px, rfl⟩ | ⟨par, x, px, rfl⟩
    · walk_at "dw"
      refine a_I2 (by decide) ?_
      walk_at "dw"
      refine v_ite (fun h => ?_) (fun h => absurd (by omega) h)
      walk_at "dw"
      exact nx _ ⟨_, .inr ⟨by omega, _, .tup (all_cons .lst all_nil) (by show 1 ≤ 100; decide), rfl⟩, rfl⟩
    · walk_at "dw"
      refine a_I2 (by decide) ?_
      walk_at "dw"
      refine v_ite (fun h => absurd h (by omega)) (fun h => ?_)
      walk_at "dw"
      exact nx _ ⟨_, .inl ⟨by omega, _, px.pl, rfl⟩, rfl⟩
  · rw [rgD_len]
    rintro e ⟨s, hs, rfl⟩
    rcases hs with ⟨par, x, px, rfl⟩ | ⟨par, x, px, rfl⟩
    · walk_at "dw"
      exact q x px
    · exact absurd par (by decide)
theorem e_odd {o : O} {n : Nat} (ho : PoolOk o) (hn : n ≤ 1000) (q : ∀ (x : D) o', PoolOk o' → Odd c x → P (.fr x) [o']) : D_l_odd c [o, .fr (.int n)] P PE := by
  refine D_l_odd_in ?_
  unfold B_l_odd
  walk_at "dw"
  refine a_I1 ?_
  walk_at "dw"
  refine a_dct0 (a_forceDct ?_)
  walk_at "dw"
  refine a_I2 (by unfold CPow; decide) ?_
  walk_at "dw"
  refine e_deep fun x px => ?_
  walk_at "dw"
  refine e_lPick ho (by simp) (by show 14 ≤ 1000000; decide) fun d o' ho' hd => ?_
  have a14 : ∀ y ∈ [D.int (-1), .int ((n : Int) + 1), .bl true, .bl false, .non, .str "1", .tup [.int 1], .lst [.int 1], .dct false [], .int (10 ^ (40 : Int).toNat), .lst [x], .int n, .int 0, .int 1], Odd c y :=
    all_cons .int (all_cons .int (all_cons (.oth .bl (fun _ h => nomatch h)) (all_cons (.oth .bl (fun _ h => nomatch h)) (all_cons (.oth .non (fun _ h => nomatch h)) (all_cons (.oth .str (fun _ h => nomatch h)) (all_cons (.tup (all_cons .int all_nil) (by show 1 ≤ 100; decide))
      (all_cons (.oth .lst (fun _ h => nomatch h)) (all_cons (.oth .dct (fun _ h => nomatch h)) (all_cons .int (all_cons (.oth .lst (fun _ h => nomatch h)) (all_cons .int (all_cons .int (all_cons .int all_nil)))))))))))))
  walk_at "dw"
  exact q d o' ho' (a14 d hd)
end

/-! ### words for errors; orders refused -/
section
variable {c : Cl} {P : O → List O → Prop} {PE : DExc → List O → Prop} {hs ks ns ms : List Int} {p b : Int} {K : O → Prop} {d x y : D} {n : Nat} {env : DEnv} {X : DX}
theorem a_lam {tab : List (Addr × Str)} {f : Fn} {dv : DTV} {P : R → DEnv → Prop} (h : dCall true f dv env (fun _ env1 => P (.o (.fr (.str "let"))) env1) (fun e env1 => e.fs = none ∧ ∃ (C : Addr) (w : Str), e.cls = .ref C ∧ (C, w) ∈ tab ∧ P (.o (.fr (.str w))) env1)) : dLam tab f dv env P X := h
theorem tab_block : (c.NoBlock, ("block" : Str)) ∈ tab5c c := List.mem_of_getElem? (i := 0) rfl
theorem tab_place : (c.NoPlace, ("place" : Str)) ∈ tab5c c := List.mem_of_getElem? (i := 1) rfl
theorem tab_beneath : (c.Beneath, ("beneath" : Str)) ∈ tab5c c := List.mem_of_getElem? (i := 2) rfl
theorem tab_order : (c.NoOrder, ("order" : Str)) ∈ tab5c c := List.mem_of_getElem? (i := 3) rfl
theorem tab_view : (c.NoView, ("view" : Str)) ∈ tab5c c := List.mem_of_getElem? (i := 4) rfl
theorem tab_blocks : (c.OtherBlocks, ("blocks" : Str)) ∈ tab5c c := List.mem_of_getElem? (i := 5) rfl
theorem tab_number : (c.NoNumber, ("number" : Str)) ∈ tab5c c := List.mem_of_getElem? (i := 6) rfl
abbrev shS (s : Str) : Prop := SeqAt.shaped (.str s) = true
theorem a_eqSame {s : Str} (h : shS s) (q : K (.fr (.bl true))) : dEq (.str s) (.str s) K := by
  refine ⟨h, h, ?_⟩
  rw [show PyData.eqv (.str s) (.str s) = (s == s) from rfl, beq_self_eq_true]
  exact q
theorem a_neSame {s : Str} (h : shS s) (q : K (.fr (.bl false))) : dNe (.str s) (.str s) K := by
  refine ⟨h, h, ?_⟩
  rw [show PyData.eqv (.str s) (.str s) = (s == s) from rfl, beq_self_eq_true]
  exact q
theorem a_neSame2 {s : Str} (h : SeqAt.shaped (.list [.str s, .str s]) = true) (q : K (.fr (.bl false))) : dNe (.lst [.str s, .str s]) (.lst [.str s, .str s]) K := by
  refine ⟨h, h, ?_⟩
  rw [show PyData.eqv (.list [.str s, .str s]) (.list [.str s, .str s]) = ((s == s) && ((s == s) && true)) from rfl, beq_self_eq_true]
  exact q
theorem cutD_mem {ds : List D} {lo hi : Option Int} {x : D} (h : x ∈ cutD ds lo hi) : x ∈ ds := List.mem_of_mem_drop (List.mem_of_mem_take h)
theorem cutD_le {ds : List D} {lo hi : Option Int} : (cutD ds lo hi).length ≤ ds.length := by
  unfold cutD
  rw [List.length_take, List.length_drop]
  omega
theorem pl_cut {xs : List D} (h : ∀ x ∈ xs, PlA [c.Tree] x) (lo hi : Option Int) : ∀ x ∈ cutD xs lo hi, PlA [c.Tree] x := fun x m => h x (cutD_mem m)
theorem pl_ints : ∀ x ∈ ns.map D.int, PlA [c.Tree] x := fun x m => by
  obtain ⟨z, _, rfl⟩ := List.mem_map.mp m
  exact .int
theorem e_lOrder {o : O} (ho : PoolOk o) (tr : IsTree hs) (q : ∀ o', PoolOk o' → P (.fr (.bl true)) [o']) : D_l_order_refused c [o, .fr (treeD c hs), .fr (.int hs.length)] P PE := by
  refine D_l_order_refused_in ?_
  unfold B_l_order_refused
  have l40 := tr.2.1
  have l1 := tr.1
  walk_at "dw"
  refine e_mixed ho (by omega) fun ms o1 ho1 lm _ _ => ?_
  walk_at "dw"
  refine e_draw ho1 (by omega) (by omega) fun a o2 ho2 a0 a1 => ?_
  obtain ⟨j, rfl⟩ : ∃ j : Nat, a = (j : Int) := ⟨a.toNat, by omega⟩
  have pm : ∀ x ∈ ms.map D.int, PlA [c.Tree] x := pl_ints
  have l1' : (ms.map D.int).length = hs.length := by rw [List.length_map, lm]
  walk_at "dw"
  refine e_odd ho2 (by omega) fun x o3 ho3 hx => ?_
  walk_at "dw"
  have c1 := cutD_le (ds := ms.map D.int) (lo := none) (hi := some (j : Int))
  have c2 := cutD_le (ds := ms.map D.int) (lo := some ((j : Int) + 1)) (hi := none)
  have c3 := cutD_le (ds := ms.map D.int) (lo := none) (hi := some 1)
  have c4 := pl_cut pm none (some (j : Int))
  have c5 := pl_cut pm (some ((j : Int) + 1)) none
  have c6 := pl_cut pm none (some 1)
  refine a_addT (by simp only [List.length_cons, List.length_nil]; omega) ?_
  walk_at "dw"
  refine a_addT (by simp only [List.length_append, List.length_cons, List.length_nil]; omega) ?_
  walk_at "dw"
  refine a_addT (by omega) ?_
  walk_at "dw"
  refine a_addT (by omega) ?_
  walk_at "dw"
  have p1 : ∀ y ∈ [D.tup (cutD (ms.map D.int) none (some (j : Int)) ++ [x] ++ cutD (ms.map D.int) (some ((j : Int) + 1)) none), .tup (cutD (ms.map D.int) none (some (j : Int)) ++ cutD (ms.map D.int) (some ((j : Int) + 1)) none), .tup (ms.map D.int ++ cutD (ms.map D.int) none (some 1))], Odd c y :=
    all_cons (.tup (all_app (all_app c4 (all_cons hx.pl all_nil)) c5) (by simp only [List.length_append, List.length_cons, List.length_nil]; omega))
      (all_cons (.tup (all_app c4 c5) (by rw [List.length_append]; omega)) (all_cons (.tup (all_app pm c6) (by rw [List.length_append]; omega)) all_nil))
  refine a_cut (fun e => ∃ (o' : O) (ds : List D), (PoolOk o' ∧ (∀ y ∈ ds, Odd c y) ∧ ds ≠ [] ∧ ds.length ≤ 100) ∧ e = [S.bo o', S.ow (.fr (treeD c hs)), S.ow (.fr (.int hs.length)), .un, .un, S.ow (oL ds), .un, .un, .un]) (fun NX nx => ?_) ?_
  · walk_at "dw"
    refine a_dct0 (a_forceDct ?_)
    walk_at "dw"
    refine e_deep fun z pz => ?_
    walk_at "dw"
    refine a_addT (by simp only [List.length_cons, List.length_nil]; omega) ?_
    walk_at "dw"
    refine a_addL (by simp only [List.length_cons, List.length_nil]; omega) ?_
    walk_at "dw"
    refine nx _ ⟨o3, _, ⟨ho3, all_app p1 (all_cons (.oth .lst (fun _ h => nomatch h)) (all_cons (.tup all_nil (by decide)) (all_cons (.oth .non (fun _ h => nomatch h)) (all_cons .int (all_cons (.oth .str (fun _ h => nomatch h)) (all_cons (.oth .dct (fun _ h => nomatch h))
      (all_cons (.oth .lst (fun _ h => nomatch h)) (all_cons .tree (all_cons (.tup pm (by omega)) (all_cons (.tup (all_app (all_cons .int all_nil) pm) (by rw [List.length_append]; show 1 + _ ≤ 100; omega)) all_nil)))))))))), List.cons_ne_nil _ _, by show 13 ≤ 100; decide⟩, rfl⟩
  rintro e ⟨o4, ds, ⟨ho4, hds, dn, ld⟩, rfl⟩
  walk_at "dw"
  refine e_lPick ho4 dn (by omega) fun d o5 ho5 hd => ?_
  have od := hds d hd
  walk_at "dw"
  refine a_cut (fun e => ∃ b : Bool, (b = true → ∃ ns : List Int, d = rowD ns) ∧ (b = false → ¬ IsOrd hs.length d) ∧ e = [S.bo o5, S.ow (.fr (treeD c hs)), S.ow (.fr (.int hs.length)), .un, .un, .un, S.ow (.fr d), .ow (.fr (.bl b)), .un]) (fun NX nx => ?_) ?_
  · walk_at "dw"
    refine e_isi od.pl.plain (.inr (.inr (.inl rfl))) ?_
    cases hT : isKd d "tuple" with
    | false =>
      walk_at "dw"
      exact nx _ ⟨false, (fun h => nomatch h), (fun _ => ord_no hT), rfl⟩
    | true =>
    obtain ⟨xs, rfl⟩ := isKd_tup.mp hT
    have lx := od.sh xs rfl
    walk_at "dw"
    by_cases el : xs.length = hs.length
    case neg =>
      rw [decide_eq_false (fun z => el (by omega))]
      walk_at "dw"
      exact nx _ ⟨false, (fun h => nomatch h), (fun _ => by rintro ⟨ns, e, o⟩; cases e; exact el (by rw [List.length_map]; exact o.len)), rfl⟩
    rw [decide_eq_true (by omega)]
    walk_at "dw"
    refine a_lcM (fun x => .bl (withinD 1 hs.length x)) (by omega) (fun k z acc NX hx ha nx => ⟨by rfl, ?_⟩) ?_
    · walk_at "dw"
      refine e_number (od.pl.item (List.mem_of_getElem? hx)).plain ?_
      walk_at "dw"
      exact ⟨ha, nx⟩
    walk_at "dw"
    refine a_allE (bs := xs.map (withinD 1 hs.length)) (by rw [← asBls_map, List.map_map]; rfl) ?_
    rw [show (xs.map (withinD 1 hs.length)).all id = xs.all (withinD 1 hs.length) by rw [List.all_map]; rfl]
    walk_at "dw"
    refine nx _ ⟨_, (fun h => ?_), (fun h => ord_no2 h), rfl⟩
    obtain ⟨ns, rfl, _⟩ := all_ints xs h
    exact ⟨ns, rfl⟩
  rintro e ⟨b, h1, h2, rfl⟩
  refine a_cut (fun e => ∃ b : Bool, (b = true → IsOrd hs.length d) ∧ (b = false → ¬ IsOrd hs.length d) ∧ e = [S.bo o5, S.ow (.fr (treeD c hs)), .un, .un, .un, .un, S.ow (.fr d), .ow (.fr (.bl b)), .un]) (fun NX nx => ?_) ?_
  · walk_at "dw"
    cases b with
    | false =>
      walk_at "dw"
      exact nx _ ⟨false, (fun h => nomatch h), h2, rfl⟩
    | true =>
    obtain ⟨ns, rfl⟩ := h1 rfl
    have ln := od.sh _ rfl
    rw [List.length_map] at ln
    walk_at "dw"
    refine a_sortT fun ms pm so => ?_
    walk_at "dw"
    refine ⟨⟨by omega, by omega⟩, ?_⟩
    dsimp only
    rw [show ((hs.length : Int) + 1 - 1).toNat = hs.length by omega, rgD_num, if_pos rfl]
    refine a_pkN ?_
    refine a_eqInts ?_
    walk_at "dw"
    refine nx _ ⟨_, (fun h => ⟨ns, rfl, (ord_sorted pm so).mp (of_decide_eq_true h)⟩), (fun h => ?_), rfl⟩
    exact ord_no3 fun o => of_decide_eq_false h ((ord_sorted pm so).mpr o)
  rintro e ⟨b, h1, h2, rfl⟩
  walk_at "dw"
  refine a_lam ?_
  walk_at "dw"
  cases b with
  | true =>
    refine e_called tr od.pl od.sh (fun _ o => ?_) (fun no => absurd (h1 rfl) no)
    walk_at "dw"
    refine a_eqSame (by decide +kernel) ?_
    walk_at "dw"
    exact q _ ho5
  | false =>
    refine e_called tr od.pl od.sh (fun yes => absurd yes (h2 rfl)) (fun _ => ⟨rfl, rfl, _, _, rfl, tab_order, ?_⟩)
    walk_at "dw"
    refine a_eqSame (by decide +kernel) ?_
    walk_at "dw"
    exact q _ ho5
end

/-! ### views, other trees, numbers refused -/
section
variable {c : Cl} {P : O → List O → Prop} {PE : DExc → List O → Prop} {hs ks ns ms : List Int} {p b : Int} {K : O → Prop} {d x y : D} {n : Nat} {env : DEnv} {X : DX}
theorem a_opF {dr : D → D → (O → Prop) → Prop} {da db : DTE} {env : DEnv} {PR : R → DEnv → Prop} {X : DX} (h : da env (fun r1 env1 => force r1 env1 fun d1 env2 => db env2 (fun r2 env3 => force r2 env3 fun d2 env4 => dr d1 d2 fun o => PR (.o o) env4) X) X) : dOpF dr da db env PR X := h
theorem stp_grow (p0 : 0 ≤ p) (p1 : p ≤ hs.length) : stp (hs ++ [0]) p = stp hs p := by
  unfold stp
  by_cases e : p = 0
  · rw [if_pos e, if_pos e]
  · rw [if_neg e, if_neg e, List.getD_eq_getElem?_getD, List.getD_eq_getElem?_getD, List.getElem?_append_left (by omega)]
theorem up_grow (pl : Pls hs) : ∀ (k : Nat) (p : Int), 0 ≤ p → p ≤ hs.length → up (hs ++ [0]) k p = up hs k p
  | 0, _, _, _ => rfl
  | k + 1, p, p0, p1 => by
    show up (hs ++ [0]) k (stp (hs ++ [0]) p) = up hs k (stp hs p)
    rw [stp_grow p0 p1]
    have w := stp_in pl p
    exact up_grow pl k _ w.1 w.2
theorem IsTree.grow (t : IsTree hs) (l : hs.length < 40) : IsTree (hs ++ [0]) := by
  obtain ⟨h1, h2, pl, ns, ld⟩ := t
  have ln : (hs ++ [0]).length = hs.length + 1 := by rw [List.length_append]; rfl
  refine ⟨by omega, by omega, fun h m => ?_, fun k h e => ?_, fun b hb => ?_⟩
  · rw [ln]
    rcases List.mem_append.mp m with m | m
    · have := pl h m; omega
    · obtain rfl := List.mem_singleton.mp m
      omega
  · by_cases hk : k < hs.length
    · rw [List.getElem?_append_left hk] at e
      exact ns k h e
    · rw [List.getElem?_append_right (by omega)] at e
      by_cases hk2 : k - hs.length = 0
      · rw [hk2] at e
        cases e
        omega
      · rw [List.getElem?_eq_none (by show 1 ≤ _; omega)] at e
        cases e
  · by_cases hk : b < hs.length
    · have := ld b hk
      unfold leads at this
      obtain ⟨k, hk2, e⟩ := List.any_eq_true.mp this
      have e := of_decide_eq_true e
      exact leads_true (k := k) (by have := List.mem_range.mp hk2; omega) (by rw [up_grow pl k _ (by omega) (by omega)]; exact e)
    · refine leads_true (k := 1) (by omega) ?_
      show stp (hs ++ [0]) ((b : Int) + 1) = 0
      unfold stp
      rw [if_neg (by omega), List.getD_eq_getElem?_getD, List.getElem?_append_right (by omega), show ((b : Int) + 1).toNat - 1 - hs.length = 0 by omega]
      rfl
theorem e_treeEqB (q : P (.fr (.bl (decide (hs = ks)))) []) : D_Tree_eq c [.fr (treeD c hs), .fr (treeD c ks)] P PE := by
  refine D_Tree_eq_in ?_
  unfold B_Tree_eq treeD
  walk_at "dw"
  refine e_isiC (.inr ⟨c.Tree, List.mem_cons_self, rfl⟩) (List.mem_cons_self) ?_
  rw [show decide (D.cl (D.ins c.Tree [("hung", rowD ks)]) = some c.Tree) = true from decide_eq_true rfl]
  walk_at "dw"
  refine a_eqRow ?_
  walk_at "dw"
  exact q
theorem a_neTree (q : K (.fr (.bl (!decide (hs = ks))))) : dNeC c.Tree (D_Tree_eq c) (treeD c hs) (treeD c ks) K := ⟨rfl, rfl, e_treeEqB (by exact q)⟩
/-! the words that are due -/
def wTell (v p : Bool) : Str := if v then (if p then "let" else "place") else "view"
def wUnl (o v : Bool) : Str := if o then "blocks" else if v then "let" else "view"
def wDist (v : Bool) : Str := if v then "let" else "view"
def wTwin (v n : Bool) : Str := if v then (if n then "let" else "number") else "view"
theorem sh_tell (v p : Bool) : shS (wTell v p) := by cases v <;> cases p <;> decide +kernel
theorem sh_dist (v : Bool) : shS (wDist v) := by cases v <;> decide +kernel
theorem sh_twin (v p : Bool) : shS (wTwin v p) := by cases v <;> cases p <;> decide +kernel
theorem sh_unl (v p : Bool) : SeqAt.shaped (.list [.str (wUnl v p), .str (wUnl v p)]) = true := by cases v <;> cases p <;> decide +kernel
theorem a_lam2 {tab : List (Addr × Str)} {f : Fn} {dv : DTV} {P : R → DEnv → Prop} {w : Str} (ds : List D) (hv : ∀ (PD : List D → DEnv → Prop) (X : DX), PD ds env → dv env PD X)
    (hf : ∀ R : Str → Prop, R w → f (ds.map .fr) (fun _ _ => R "let") (fun e _ => true = true ∧ e.fs = none ∧ ∃ (C : Addr) (w : Str), e.cls = .ref C ∧ (C, w) ∈ tab ∧ R w)) (q : P (.o (.fr (.str w))) env) : dLam tab f dv env P X :=
  hv _ _ (hf (fun w => P (.o (.fr (.str w))) env) q)
theorem w_telling {R : Str → Prop} (tr : IsTree hs) (pd : PlA [c.Tree] d) (px : PlainD [c.Tree] x) (q : R (wTell (isVw d) (withinD 0 hs.length x))) :
    D_telling c [.fr (treeD c hs), .fr d, .fr x] (fun _ _ => R "let") (fun e _ => true = true ∧ e.fs = none ∧ ∃ (C : Addr) (w : Str), e.cls = .ref C ∧ (C, w) ∈ tab5c c ∧ R w) := by
  refine e_telling tr pd px (fun h => ⟨rfl, rfl, _, _, rfl, tab_view, ?_⟩) (fun h h2 => ⟨rfl, rfl, _, _, rfl, tab_place, ?_⟩) (fun h h2 o => ?_)
  · rw [h] at q; exact q
  · rw [h, h2] at q; exact q
  · rw [h, h2] at q; exact q
theorem w_unlike {R : Str → Prop} (tr : IsTree hs) (ur : IsTree ks) (pd : PlA [c.Tree] d) (q : R (wUnl (!decide (hs.length = ks.length)) (isVw d))) :
    D_unlike c [.fr (treeD c hs), .fr (treeD c ks), .fr d] (fun _ _ => R "let") (fun e _ => true = true ∧ e.fs = none ∧ ∃ (C : Addr) (w : Str), e.cls = .ref C ∧ (C, w) ∈ tab5c c ∧ R w) := by
  refine e_unlike tr ur pd (fun h => ⟨rfl, rfl, _, _, rfl, tab_blocks, ?_⟩) (fun h h2 => ⟨rfl, rfl, _, _, rfl, tab_view, ?_⟩) (fun h h2 o => ?_)
  · rw [decide_eq_false h] at q; exact q
  · rw [decide_eq_true h, h2] at q; exact q
  · rw [decide_eq_true h, h2] at q; exact q
theorem w_dist {R : Str → Prop} (pd : PlA [c.Tree] d) (q : R (wDist (isVw d))) :
    D_distance c [.fr d] (fun _ _ => R "let") (fun e _ => true = true ∧ e.fs = none ∧ ∃ (C : Addr) (w : Str), e.cls = .ref C ∧ (C, w) ∈ tab5c c ∧ R w) := by
  refine e_dist pd (fun h => ⟨rfl, rfl, _, _, rfl, tab_view, ?_⟩) (fun h o => ?_)
  · rw [h] at q; exact q
  · rw [h] at q; exact q
theorem w_twins {R : Str → Prop} (pd : PlA [c.Tree] d) (px : PlainD [c.Tree] x) (q : R (wTwin (isVw d) (withinD 1 40 x))) :
    D_twins c [.fr d, .fr x] (fun _ _ => R "let") (fun e _ => true = true ∧ e.fs = none ∧ ∃ (C : Addr) (w : Str), e.cls = .ref C ∧ (C, w) ∈ tab5c c ∧ R w) := by
  refine e_twinsAll pd px (fun h => ⟨rfl, rfl, _, _, rfl, tab_view, ?_⟩) (fun h h2 => ⟨rfl, rfl, _, _, rfl, tab_number, ?_⟩) (fun h h2 o => ?_)
  · rw [h] at q; exact q
  · rw [h, h2] at q; exact q
  · rw [h, h2] at q; exact q
theorem vw_of {xs : List D} (h : xs.length = 2) : xs.all (withinD 0 4) = isVw (.tup xs) := by
  match xs, h with
  | [a, b], _ => show (withinD 0 4 a && (withinD 0 4 b && true)) = _; rw [Bool.and_true]; rfl
theorem vw_no {xs : List D} (h : xs.length ≠ 2) : isVw (.tup xs) = false := by
  unfold isVw
  split
  · rename_i heq; cases heq; exact absurd rfl h
  · rfl
theorem vw_no2 (h : isKd d "tuple" = false) : isVw d = false := by
  cases d <;> first | rfl | cases h
theorem e_lViews {o : O} (ho : PoolOk o) (tr : IsTree hs) (l8 : hs.length < 40) (px : PlainD [c.Tree] x) (q : ∀ o', PoolOk o' → P (.fr (.bl true)) [o']) : D_l_views_refused c [o, .fr (treeD c hs), .fr x, .fr (.bl (withinD 0 hs.length x))] P PE := by
  refine D_l_views_refused_in ?_
  unfold B_l_views_refused
  walk_at "dw"
  refine e_odd ho (by decide) fun y o1 ho1 hy => ?_
  walk_at "dw"
  refine a_cut (fun e => ∃ (o' : O) (ds : List D), (PoolOk o' ∧ (∀ y ∈ ds, Odd c y) ∧ ds ≠ [] ∧ ds.length ≤ 100) ∧ e = [S.bo o', S.ow (.fr (treeD c hs)), S.ow (.fr x), S.ow (.fr (.bl (withinD 0 hs.length x))), .un, S.ow (oL ds), .un, .un, .un, .un, .un, .un, .un]) (fun NX nx => ?_) ?_
  · walk_at "dw"
    refine a_dct0 (a_forceDct ?_)
    walk_at "dw"
    refine e_deep fun z pz => ?_
    walk_at "dw"
    refine nx _ ⟨o1, _, ⟨ho1, all_cons (.tup (all_cons hy.pl (all_cons .int all_nil)) (by show 2 ≤ 100; decide)) (all_cons (.tup (all_cons .int (all_cons hy.pl all_nil)) (by show 2 ≤ 100; decide)) (all_cons (.tup (all_cons .int all_nil) (by decide)) (all_cons (.tup (all_cons .int (all_cons .int (all_cons .int all_nil))) (by decide))
      (all_cons (.oth .lst (fun _ h => nomatch h)) (all_cons (.oth .non (fun _ h => nomatch h)) (all_cons .int (all_cons (.oth .str (fun _ h => nomatch h)) (all_cons (.oth .dct (fun _ h => nomatch h)) (all_cons (.oth .lst (fun _ h => nomatch h)) (all_cons .tree
      (all_cons (.tup (all_cons .int (all_cons .int all_nil)) (by decide)) (all_cons (.tup (all_cons .int (all_cons .int all_nil)) (by decide)) all_nil)))))))))))), List.cons_ne_nil _ _, by show 13 ≤ 100; decide⟩, rfl⟩
  rintro e ⟨o2, ds, ⟨ho2, hds, dn, ld⟩, rfl⟩
  walk_at "dw"
  refine e_lPick ho2 dn (by omega) fun d o3 ho3 hd => ?_
  have od := hds d hd
  walk_at "dw"
  refine a_cut (fun e => e = [S.bo o3, S.ow (.fr (treeD c hs)), S.ow (.fr x), S.ow (.fr (.bl (withinD 0 hs.length x))), .un, .un, S.ow (.fr d), S.ow (.fr (.bl (isVw d))), .un, .un, .un, .un, .un]) (fun NX nx => ?_) ?_
  · walk_at "dw"
    refine e_isi od.pl.plain (.inr (.inr (.inl rfl))) ?_
    cases hT : isKd d "tuple" with
    | false =>
      walk_at "dw"
      exact nx _ (by rw [vw_no2 hT]; rfl)
    | true =>
    obtain ⟨xs, rfl⟩ := isKd_tup.mp hT
    have lx := od.sh xs rfl
    walk_at "dw"
    by_cases el : xs.length = 2
    case neg =>
      rw [decide_eq_false (fun z => el (by omega))]
      walk_at "dw"
      exact nx _ (by rw [vw_no el]; rfl)
    rw [decide_eq_true (by omega)]
    walk_at "dw"
    refine a_lcM (fun x => .bl (withinD 0 4 x)) (by omega) (fun k z acc NX hx ha nx => ⟨by rfl, ?_⟩) ?_
    · walk_at "dw"
      refine e_number (od.pl.item (List.mem_of_getElem? hx)).plain ?_
      walk_at "dw"
      exact ⟨ha, nx⟩
    walk_at "dw"
    refine a_allE (bs := xs.map (withinD 0 4)) (by rw [← asBls_map, List.map_map]; rfl) ?_
    rw [show (xs.map (withinD 0 4)).all id = xs.all (withinD 0 4) by rw [List.all_map]; rfl, vw_of el]
    walk_at "dw"
    exact nx _ rfl
  rintro e rfl
  refine a_cut (fun e => e = [S.bo o3, S.ow (.fr (treeD c hs)), S.ow (.fr x), .un, .un, .un, S.ow (.fr d), S.ow (.fr (.bl (isVw d))), S.ow (.fr (.str (wTell (isVw d) (withinD 0 hs.length x)))), .un, .un, .un, .un]) (fun NX nx => ?_) ?_
  · walk_at "dw"
    cases h1 : isVw d with
    | false => walk_at "dw"; exact nx _ (by rw [h1]; rfl)
    | true =>
    walk_at "dw"
    cases h2 : withinD 0 hs.length x with
    | false => walk_at "dw"; exact nx _ (by rw [h1, h2]; rfl)
    | true => walk_at "dw"; exact nx _ (by rw [h1, h2]; rfl)
  rintro e rfl
  walk_at "dw"
  refine a_lam2 [treeD c hs, d, x] (fun PD X h => by walk_at "dw"; exact h) (fun R r => w_telling tr od.pl px r) ?_
  walk_at "dw"
  refine a_neSame (sh_tell _ _) ?_
  walk_at "dw"
  refine a_cut (fun e => ∃ (o' : O) (ks : List Int) (s9 : O), (PoolOk o' ∧ IsTree ks ∧ (hs.length = ks.length → ks = hs) ∧ (s9 = .fr (treeD c ks) ∨ s9 = .ins c.Tree [("hung", .fr (rowD ks))])) ∧ e = [S.bo o', S.ow (.fr (treeD c hs)), .un, .un, .un, .un, S.ow (.fr d), S.ow (.fr (.bl (isVw d))), .un, S.ow s9, .un, .un, .un]) (fun NX nx => ?_) ?_
  · walk_at "dw"
    refine e_draw ho3 (by decide) (by decide) fun a o4 ho4 _ _ => ?_
    walk_at "dw"
    refine v_ite (fun h => ?_) (fun h => ?_)
    · unfold treeD
      walk_at "dw"
      refine a_addT (by rw [List.length_map]; show hs.length + 1 ≤ 1000; omega) ?_
      rw [show hs.map D.int ++ [D.int 0] = (hs ++ [0]).map D.int by rw [List.map_append]; rfl]
      walk_at "dw"
      refine e_init (tr.grow l8) ⟨rfl, a_one ?_⟩
      walk_at "dw"
      exact nx _ ⟨o4, hs ++ [0], _, ⟨ho4, tr.grow l8, (fun e => by rw [List.length_append] at e; exact absurd e (by show ¬ hs.length = hs.length + 1; omega)), .inr rfl⟩, rfl⟩
    · walk_at "dw"
      exact nx _ ⟨o4, hs, _, ⟨ho4, tr, (fun _ => rfl), .inl rfl⟩, rfl⟩
  rintro e ⟨o4, ks, s9, ⟨ho4, ur, hk, h9⟩, rfl⟩
  have en : (!decide (ks = hs)) = (!decide (hs.length = ks.length)) := by
    by_cases e : hs.length = ks.length
    · rw [decide_eq_true e, decide_eq_true (hk e)]
    · rw [decide_eq_false e, decide_eq_false (fun z => e (by rw [z]))]
  refine a_cut (fun e => e = [S.bo o4, S.ow (.fr (treeD c hs)), .un, .un, .un, .un, S.ow (.fr d), S.ow (.fr (.bl (isVw d))), S.ow (.fr (.str (wUnl (!decide (hs.length = ks.length)) (isVw d)))), S.ow (.fr (treeD c ks)), .un, .un, .un]) (fun NX nx => ?_) ?_
  · walk_at "dw"
    refine a_opF ?_
    rcases h9 with rfl | rfl
    · walk_at "dw"
      refine a_neTree ?_
      rw [en]
      walk_at "dw"
      cases h1 : (!decide (hs.length = ks.length)) with
      | true => walk_at "dw"; exact nx _ (by rw [h1]; rfl)
      | false =>
      walk_at "dw"
      cases h2 : isVw d with
      | false => walk_at "dw"; exact nx _ (by rw [h1, h2]; rfl)
      | true => walk_at "dw"; exact nx _ (by rw [h1, h2]; rfl)
    · walk_at "dw"
      refine a_forceI rfl ?_
      walk_at "dw"
      refine a_neTree ?_
      rw [en]
      walk_at "dw"
      cases h1 : (!decide (hs.length = ks.length)) with
      | true => walk_at "dw"; exact nx _ (by rw [h1]; rfl)
      | false =>
      walk_at "dw"
      cases h2 : isVw d with
      | false => walk_at "dw"; exact nx _ (by rw [h1, h2]; rfl)
      | true => walk_at "dw"; exact nx _ (by rw [h1, h2]; rfl)
  rintro e rfl
  walk_at "dw"
  refine a_lam2 [treeD c hs, treeD c ks, d] (fun PD X h => by walk_at "dw"; exact h) (fun R r => w_unlike tr ur od.pl r) ?_
  walk_at "dw"
  refine a_cut (fun e => e = [S.bo o4, .un, .un, .un, .un, .un, S.ow (.fr d), S.ow (.fr (.bl (isVw d))), S.ow (.fr (.str (wUnl (!decide (hs.length = ks.length)) (isVw d)))), .un, S.ow (oL [.str (wUnl (!decide (hs.length = ks.length)) (isVw d)), .str (wUnl (!decide (hs.length = ks.length)) (isVw d))]), .un, .un]) (fun NX nx => ?_) ?_
  · walk_at "dw"
    refine a_lam2 [treeD c ks, treeD c hs, d] (fun PD X h => by walk_at "dw"; exact h) (fun R r => w_unlike ur tr od.pl r) ?_
    walk_at "dw"
    refine a_app rfl (by show 1 < 1000; decide) ?_
    walk_at "dw"
    exact nx _ (by rw [show decide (ks.length = hs.length) = decide (hs.length = ks.length) from decide_eq_decide.mpr ⟨Eq.symm, Eq.symm⟩]; rfl)
  rintro e rfl
  walk_at "dw"
  refine a_neSame2 (sh_unl _ _) ?_
  walk_at "dw"
  refine a_cut (fun e => e = [S.bo o4, .un, .un, .un, .un, .un, S.ow (.fr d), S.ow (.fr (.bl (isVw d))), .un, .un, .un, .un, .un]) (fun NX nx => ?_) ?_
  · walk_at "dw"
    refine a_lam2 [d] (fun PD X h => by walk_at "dw"; exact h) (fun R r => w_dist od.pl r) ?_
    walk_at "dw"
    have se := sh_dist (isVw d)
    cases h1 : isVw d with
    | true =>
      rw [h1] at se
      walk_at "dw"
      refine a_neSame se ?_
      walk_at "dw"
      exact nx _ (by rw [h1]; rfl)
    | false =>
      rw [h1] at se
      walk_at "dw"
      refine a_neSame se ?_
      walk_at "dw"
      exact nx _ (by rw [h1]; rfl)
  rintro e rfl
  refine a_cut (fun e => ∃ (o' : O) (z : D), (PoolOk o' ∧ PlainD [c.Tree] z) ∧ e = [S.bo o', .un, .un, .un, .un, .un, S.ow (.fr d), S.ow (.fr (.bl (isVw d))), .un, .un, .un, S.ow (.fr z), .un]) (fun NX nx => ?_) ?_
  · walk_at "dw"
    refine e_odd ho4 (by decide) fun z o5 ho5 hz => ?_
    walk_at "dw"
    refine e_lPick ho5 (List.cons_ne_nil _ _) (by show 5 ≤ 1000000; decide) fun d5 o6 ho6 hd5 => ?_
    have p5 : ∀ y ∈ [z, D.int 0, .int 1, .int 40, .int 41], PlainD [c.Tree] y := all_cons hz.pl.plain (all_cons .int (all_cons .int (all_cons .int (all_cons .int all_nil))))
    walk_at "dw"
    exact nx _ ⟨o6, d5, ⟨ho6, p5 d5 hd5⟩, rfl⟩
  rintro e ⟨o5, z, ⟨ho5, pz⟩, rfl⟩
  refine a_cut (fun e => e = [S.bo o5, .un, .un, .un, .un, .un, S.ow (.fr d), .un, S.ow (.fr (.str (wTwin (isVw d) (withinD 1 40 z)))), .un, .un, S.ow (.fr z), .un]) (fun NX nx => ?_) ?_
  · walk_at "dw"
    cases h1 : isVw d with
    | false => walk_at "dw"; exact nx _ (by rw [h1]; rfl)
    | true =>
    walk_at "dw"
    refine e_number pz ?_
    cases h2 : withinD 1 40 z with
    | false => walk_at "dw"; exact nx _ (by rw [h1, h2]; rfl)
    | true => walk_at "dw"; exact nx _ (by rw [h1, h2]; rfl)
  rintro e rfl
  walk_at "dw"
  refine a_lam2 [d, z] (fun PD X h => by walk_at "dw"; exact h) (fun R r => w_twins od.pl pz r) ?_
  walk_at "dw"
  refine a_eqSame (sh_twin _ _) ?_
  walk_at "dw"
  exact q _ ho5
end

/-! ### the law -/
section
variable {c : Cl} {P : O → List O → Prop} {PE : DExc → List O → Prop} {hs ks ns ms : List Int} {p b : Int} {K : O → Prop} {d x y : D} {n : Nat} {env : DEnv} {X : DX}
def wBlk (b : Bool) : Str := if b then "let" else "block"
def wPlc (b : Bool) : Str := if b then "let" else "place"
def wBP (b p : Bool) : Str := if b then (if p then "let" else "place") else "block"
theorem sh_blk (v : Bool) : SeqAt.shaped (.list [.str (wBlk v), .str (wBlk v)]) = true := by cases v <;> decide +kernel
theorem sh_plc (v : Bool) : SeqAt.shaped (.list [.str (wPlc v), .str (wPlc v)]) = true := by cases v <;> decide +kernel
theorem a_eqLet {s : Str} (h : shS s) (q : K (.fr (.bl (decide (s = "let"))))) : dEq (.str s) (.str "let") K := by
  refine ⟨h, by decide +kernel, ?_⟩
  rw [show PyData.eqv (.str s) (.str "let") = (s == ("let" : Str)) from rfl]
  exact q
section
variable {R : Str → Prop}
abbrev lamR (c : Cl) (R : Str → Prop) : DExc → List O → Prop := fun e _ => true = true ∧ e.fs = none ∧ ∃ (C : Addr) (w : Str), e.cls = .ref C ∧ (C, w) ∈ tab5c c ∧ R w
theorem w_placeOf (tr : IsTree hs) (pd : PlainD [c.Tree] d) (q : R (wBlk (withinD 1 hs.length d))) : D_place_of c [.fr (treeD c hs), .fr d] (fun _ _ => R "let") (lamR c R) := by
  refine e_placeOf tr pd (fun h o => ?_) (fun h => ⟨rfl, rfl, _, _, rfl, tab_block, ?_⟩)
  · rw [h] at q; exact q
  · rw [h] at q; exact q
theorem w_parents (tr : IsTree hs) (pd : PlainD [c.Tree] d) (q : R (wBlk (withinD 1 hs.length d))) : D_parentsT c [.fr (treeD c hs), .fr d] (fun _ _ => R "let") (lamR c R) := by
  refine e_parentsT tr pd (fun h o => ?_) (fun h => ⟨rfl, rfl, _, _, rfl, tab_block, ?_⟩)
  · rw [h] at q; exact q
  · rw [h] at q; exact q
theorem w_under (tr : IsTree hs) (pd : PlainD [c.Tree] d) (q : R (wPlc (withinD 0 hs.length d))) : D_under c [.fr (treeD c hs), .fr d] (fun _ _ => R "let") (lamR c R) := by
  refine e_under tr pd (fun h o => ?_) (fun h => ⟨rfl, rfl, _, _, rfl, tab_place, ?_⟩)
  · rw [h] at q; exact q
  · rw [h] at q; exact q
theorem w_beneath (tr : IsTree hs) (pd : PlainD [c.Tree] d) (q : R (wPlc (withinD 0 hs.length d))) : D_beneathT c [.fr (treeD c hs), .fr d] (fun _ _ => R "let") (lamR c R) := by
  refine e_beneathT tr pd (fun h o => ?_) (fun h => ⟨rfl, rfl, _, _, rfl, tab_place, ?_⟩)
  · rw [h] at q; exact q
  · rw [h] at q; exact q
/-- the word due of a move -/
def wMov (hs : List Int) (d x : D) : Str := if withinD 1 hs.length d then (if withinD 0 hs.length x then (match d, x with
  | .int b, .int p => if p = b ∨ b ∈ wy hs p then "beneath" else "let"
  | _, _ => "let") else "place") else "block"
theorem sh_mov : shS (wMov hs d x) := by
  have h1 : shS "beneath" := by decide +kernel
  have h2 : shS "let" := by decide +kernel
  have h3 : shS "place" := by decide +kernel
  have h4 : shS "block" := by decide +kernel
  unfold wMov
  split
  · split
    · split
      · split <;> assumption
      · exact h2
    · exact h3
  · exact h4
theorem w_moved (tr : IsTree hs) (pd : PlainD [c.Tree] d) (px : PlainD [c.Tree] x) (q : R (wMov hs d x)) : D_moved c [.fr (treeD c hs), .fr d, .fr x] (fun _ _ => R "let") (lamR c R) := by
  unfold wMov at q
  refine e_moved tr pd px (fun h => ⟨rfl, rfl, _, _, rfl, tab_block, ?_⟩) (fun h h2 => ⟨rfl, rfl, _, _, rfl, tab_place, ?_⟩) (fun b p e1 e2 b0 b1 p0 p1 h => ⟨rfl, rfl, _, _, rfl, tab_beneath, ?_⟩) (fun b p e1 e2 b0 b1 p0 p1 h o => ?_)
  · rw [h] at q; exact q
  · rw [h, h2] at q; exact q
  · subst e1 e2
    rw [show withinD 1 hs.length (.int b) = true from decide_eq_true ⟨b0, b1⟩, show withinD 0 hs.length (.int p) = true from decide_eq_true ⟨p0, p1⟩, if_pos rfl, if_pos rfl] at q
    dsimp only at q
    rw [if_pos h] at q
    exact q
  · subst e1 e2
    rw [show withinD 1 hs.length (.int b) = true from decide_eq_true ⟨b0, b1⟩, show withinD 0 hs.length (.int p) = true from decide_eq_true ⟨p0, p1⟩, if_pos rfl, if_pos rfl] at q
    dsimp only at q
    rw [if_neg h] at q
    exact q
end
def lawE (PE : DExc → DEnv → Prop) : DEnds := ⟨fun _ => False, fun r _ => r = .fr (.bl true), fun _ => False, fun _ => False, PE⟩
theorem a_inL {neg : Bool} {z : Int} {ns : List Int} {K : O → Prop} (q : K (.fr (.bl (if neg then !decide (z ∈ ns) else decide (z ∈ ns))))) : dIn neg (.int z) (.lst (ns.map .int)) K := by
  show oth (some (V.int z)) fun x => oth (flVs (ns.map D.int)) fun xs => K (.fr (.bl (if neg = true then !inV x xs else inV x xs)))
  rw [flVs_ints]
  show K (.fr (.bl (if neg = true then !inV (.int z) (ns.map V.int) else inV (.int z) (ns.map V.int))))
  rw [inV_ints']
  exact q
theorem a_lam3 {tab : List (Addr × Str)} {f : Fn} {dv : DTV} {P : R → DEnv → Prop} {w : Str} (ds : List D) (env1 : DEnv) (hv : ∀ (PD : List D → DEnv → Prop) (X : DX), PD ds env1 → dv env PD X)
    (hf : ∀ R : Str → Prop, R w → f (ds.map .fr) (fun _ _ => R "let") (fun e _ => true = true ∧ e.fs = none ∧ ∃ (C : Addr) (w : Str), e.cls = .ref C ∧ (C, w) ∈ tab ∧ R w)) (q : P (.o (.fr (.str w))) env1) : dLam tab f dv env P X :=
  hv _ _ (hf (fun w => P (.o (.fr (.str w))) env1) q)
theorem bl_let (b p : Bool) : decide (wBP b p = "let") = (b && p) := by cases b <;> cases p <;> decide +kernel
theorem sh_bp (b p : Bool) : shS (wBP b p) := by cases b <;> cases p <;> decide +kernel
theorem wMov_eq {b p : Int} (b0 : 1 ≤ b) (b1 : b ≤ hs.length) (p0 : 0 ≤ p) (p1 : p ≤ hs.length) : wMov hs (.int b) (.int p) = if p = b ∨ b ∈ wy hs p then ("beneath" : Str) else ("let" : Str) := by
  unfold wMov
  rw [show withinD 1 hs.length (.int b) = true from decide_eq_true ⟨b0, b1⟩, show withinD 0 hs.length (.int p) = true from decide_eq_true ⟨p0, p1⟩, if_pos rfl, if_pos rfl]
theorem wMov_no {b p : Bool} (hb : withinD 1 hs.length d = b) (hp : withinD 0 hs.length x = p) (h : (b && p) = false) : wMov hs d x = wBP b p := by
  unfold wMov wBP
  rw [hb, hp]
  cases b <;> cases p <;> first | rfl | cases h
theorem e_law {o : O} {PE : DExc → DEnv → Prop} (ho : PoolOk o) : D_law c (lawE PE) (.un :: .ow o :: List.replicate 10 .un) := by
  unfold D_law lawE
  walk_at "dw"
  refine a_rgb (by decide) ?_
  refine a_forI (fun i e => ∃ o', PoolOk o' ∧ e = .un :: .ow o' :: List.replicate 10 .un) ⟨o, ho, rfl⟩ ?_ ?_
  · rintro i d e NX hd ⟨o', ho', rfl⟩ nx
    dsimp only [List.replicate]
    walk_at "dw"
    refine e_draw ho' (by decide) (by decide) fun a o1 ho1 a0 a1 => ?_
    walk_at "dw"
    obtain ⟨n, en⟩ : ∃ n : Nat, 1 + a = (n : Int) := ⟨(1 + a).toNat, by omega⟩
    rw [en]
    refine e_hung ho1 (by omega) (by omega) fun hs o2 ho2 ln tr => ?_
    have l8 : hs.length ≤ 8 := by omega
    subst ln
    walk_at "dw"
    refine e_init tr ⟨rfl, a_one ?_⟩
    walk_at "dw"
    refine a_cut (fun e => ∃ (o' : O) (x y : D), (PoolOk o' ∧ Odd c x ∧ Odd c y) ∧ e = [.un, .ow o', .un, S.ow (.fr (.int hs.length)), .ow (.fr (rowD hs)), .ow (.ins c.Tree [("hung", .fr (rowD hs))]), .ow (.fr x), .ow (.fr y), .un, .un, .un, .un]) (fun NX nx => ?_) ?_
    · walk_at "dw"
      refine e_odd ho2 (by omega) fun x o3 ho3 hx => ?_
      walk_at "dw"
      refine e_odd ho3 (by omega) fun y o4 ho4 hy => ?_
      walk_at "dw"
      exact nx _ ⟨o4, x, y, ⟨ho4, hx, hy⟩, rfl⟩
    rintro e ⟨o4, x, y, ⟨ho4, hx, hy⟩, rfl⟩
    refine a_cut (fun e => e = [.un, .ow o4, .un, S.ow (.fr (.int hs.length)), .ow (.fr (rowD hs)), .ow (.ins c.Tree [("hung", .fr (rowD hs))]), .ow (.fr x), .ow (.fr y), .ow (.fr (.bl (withinD 1 hs.length x))), .ow (.fr (.bl (withinD 0 hs.length y))), .un, .un]) (fun NX nx => ?_) ?_
    · walk_at "dw"
      refine e_number hx.pl.plain ?_
      walk_at "dw"
      refine e_number hy.pl.plain ?_
      walk_at "dw"
      exact nx _ rfl
    rintro e rfl
    refine a_cut (fun e => e = [.un, .ow o4, .un, S.ow (.fr (.int hs.length)), .ow (.fr (rowD hs)), .ow (.ins c.Tree [("hung", .fr (rowD hs))]), .ow (.fr x), .ow (.fr y), .ow (.fr (.bl (withinD 1 hs.length x))), .ow (.fr (.bl (withinD 0 hs.length y))), .ow (.fr (.str (wBlk (withinD 1 hs.length x)))), .un]) (fun NX nx => ?_) ?_
    · walk_at "dw"
      cases h1 : withinD 1 hs.length x with
      | true => walk_at "dw"; exact nx _ (by rw [h1]; rfl)
      | false => walk_at "dw"; exact nx _ (by rw [h1]; rfl)
    rintro e rfl
    walk_at "dw"
    refine a_lam3 [treeD c hs, x] [.un, .ow o4, .un, S.ow (.fr (.int hs.length)), .ow (.fr (rowD hs)), .ow (.fr (treeD c hs)), .ow (.fr x), .ow (.fr y), .ow (.fr (.bl (withinD 1 hs.length x))), .ow (.fr (.bl (withinD 0 hs.length y))), .ow (.fr (.str (wBlk (withinD 1 hs.length x)))), .un]
      (fun PD X h => by walk_at "dw"; refine a_forceI rfl ?_; walk_at "dw"; exact h) (fun R r => w_placeOf tr hx.pl.plain r) ?_
    walk_at "dw"
    refine a_cut (fun e => e = [.un, .ow o4, .un, S.ow (.fr (.int hs.length)), .ow (.fr (rowD hs)), .ow (.fr (treeD c hs)), .ow (.fr x), .ow (.fr y), .ow (.fr (.bl (withinD 1 hs.length x))), .ow (.fr (.bl (withinD 0 hs.length y))), .ow (.fr (.str (wBlk (withinD 1 hs.length x)))), .ow (oL [.str (wBlk (withinD 1 hs.length x)), .str (wBlk (withinD 1 hs.length x))])]) (fun NX nx => ?_) ?_
    · walk_at "dw"
      refine a_lam2 [treeD c hs, x] (fun PD X h => by walk_at "dw"; exact h) (fun R r => w_parents tr hx.pl.plain r) ?_
      walk_at "dw"
      refine a_app rfl (by show 1 < 1000; decide) ?_
      walk_at "dw"
      exact nx _ rfl
    rintro e rfl
    walk_at "dw"
    refine a_neSame2 (sh_blk _) ?_
    walk_at "dw"
    refine a_cut (fun e => e = [.un, .ow o4, .un, S.ow (.fr (.int hs.length)), .ow (.fr (rowD hs)), .ow (.fr (treeD c hs)), .ow (.fr x), .ow (.fr y), .ow (.fr (.bl (withinD 1 hs.length x))), .ow (.fr (.bl (withinD 0 hs.length y))), .ow (.fr (.str (wPlc (withinD 0 hs.length y)))), .un]) (fun NX nx => ?_) ?_
    · walk_at "dw"
      cases h1 : withinD 0 hs.length y with
      | true => walk_at "dw"; exact nx _ (by rw [h1]; rfl)
      | false => walk_at "dw"; exact nx _ (by rw [h1]; rfl)
    rintro e rfl
    walk_at "dw"
    refine a_lam2 [treeD c hs, y] (fun PD X h => by walk_at "dw"; exact h) (fun R r => w_under tr hy.pl.plain r) ?_
    walk_at "dw"
    refine a_cut (fun e => e = [.un, .ow o4, .un, S.ow (.fr (.int hs.length)), .ow (.fr (rowD hs)), .ow (.fr (treeD c hs)), .ow (.fr x), .ow (.fr y), .ow (.fr (.bl (withinD 1 hs.length x))), .ow (.fr (.bl (withinD 0 hs.length y))), .ow (.fr (.str (wPlc (withinD 0 hs.length y)))), .ow (oL [.str (wPlc (withinD 0 hs.length y)), .str (wPlc (withinD 0 hs.length y))])]) (fun NX nx => ?_) ?_
    · walk_at "dw"
      refine a_lam2 [treeD c hs, y] (fun PD X h => by walk_at "dw"; exact h) (fun R r => w_beneath tr hy.pl.plain r) ?_
      walk_at "dw"
      refine a_app rfl (by show 1 < 1000; decide) ?_
      walk_at "dw"
      exact nx _ rfl
    rintro e rfl
    walk_at "dw"
    refine a_neSame2 (sh_plc _) ?_
    walk_at "dw"
    refine a_cut (fun e => e = [.un, .ow o4, .un, S.ow (.fr (.int hs.length)), .ow (.fr (rowD hs)), .ow (.fr (treeD c hs)), .ow (.fr x), .ow (.fr y), .un, .ow (.fr (.bl (withinD 0 hs.length y))), .ow (.fr (.str (wBP (withinD 1 hs.length x) (withinD 0 hs.length y)))), .un]) (fun NX nx => ?_) ?_
    · walk_at "dw"
      cases h1 : withinD 1 hs.length x with
      | false => walk_at "dw"; exact nx _ (by rw [h1]; rfl)
      | true =>
      walk_at "dw"
      cases h2 : withinD 0 hs.length y with
      | false => walk_at "dw"; exact nx _ (by rw [h1, h2]; rfl)
      | true => walk_at "dw"; exact nx _ (by rw [h1, h2]; rfl)
    rintro e rfl
    refine a_cut (fun e => e = [.un, .ow o4, .un, S.ow (.fr (.int hs.length)), .ow (.fr (rowD hs)), .ow (.fr (treeD c hs)), .ow (.fr x), .ow (.fr y), .un, .ow (.fr (.bl (withinD 0 hs.length y))), .ow (.fr (.str (wMov hs x y))), .un]) (fun NX nx => ?_) ?_
    · walk_at "dw"
      refine a_eqLet (sh_bp _ _) ?_
      rw [bl_let]
      cases h1 : (withinD 1 hs.length x && withinD 0 hs.length y) with
      | false =>
        walk_at "dw"
        exact nx _ (by rw [wMov_no rfl rfl h1])
      | true =>
      rw [Bool.and_eq_true] at h1
      obtain ⟨b, rfl, b0, b1⟩ := within_inv h1.1
      obtain ⟨p, rfl, p0, p1⟩ := within_inv h1.2
      have em := wMov_eq (hs := hs) b0 b1 p0 p1
      have ebp : wBP (withinD 1 hs.length (.int b)) (withinD 0 hs.length (.int p)) = "let" := by rw [h1.1, h1.2]; rfl
      walk_at "dw"
      by_cases e : p = b
      · rw [decide_eq_true e]
        walk_at "dw"
        exact nx _ (by rw [em, if_pos (.inl e)]; rfl)
      rw [decide_eq_false e]
      walk_at "dw"
      refine e_way tr p0 p1 ?_
      walk_at "dw"
      refine a_inL ?_
      by_cases m : b ∈ wy hs p
      · rw [decide_eq_true m]
        walk_at "dw"
        exact nx _ (by rw [em, if_pos (.inr m)]; rfl)
      · rw [decide_eq_false m]
        walk_at "dw"
        exact nx _ (by rw [em, if_neg (fun z => z.elim e m), ebp])
    rintro e rfl
    walk_at "dw"
    refine a_lam2 [treeD c hs, x, y] (fun PD X h => by walk_at "dw"; exact h) (fun R r => w_moved tr hx.pl.plain hy.pl.plain r) ?_
    walk_at "dw"
    refine a_neSame sh_mov ?_
    walk_at "dw"
    refine e_lOrder ho4 tr fun o5 ho5 => ?_
    walk_at "dw"
    refine e_lViews ho5 tr (by omega) hy.pl.plain fun o6 ho6 => ?_
    walk_at "dw"
    unfold treeD
    walk_at "dw"
    refine e_lIsRow (n := 0) (by omega) ?_
    rw [decide_eq_true rfl]
    walk_at "dw"
    exact nx _ ⟨o6, ho6, rfl⟩
  · rintro e ⟨o', ho', rfl⟩
    walk_at "dw"
end

theorem pure_law {K : PySem.W.Frag} {c : Cl} {vs : List V} {H : Hp} {Q : VK} {E : XK} (fa : Fa K c) (h : spLaw K vs H Q E) : u_law K c { nx := fun _ H' => Q .non H', rt := Q } (L2.start ["_law_script", "_law_pool_here", "_law_turn", "_law_many", "_law_hung_here", "_law_tree", "_law_block", "_law_place", "_law_is_block", "_law_is_place", "_law_due", "_law_words"] vs) H :=
  law_ok (WO := fun _ _ _ _ => False) (n := 10) (N := ["_law_script", "_law_pool_here", "_law_turn", "_law_many", "_law_hung_here", "_law_tree", "_law_block", "_law_place", "_law_is_block", "_law_is_place", "_law_due", "_law_words"]) rfl (sim_law fa) (fun o ho => e_law ho) h

def topS (i : Nat) : Stmt := PySem.Challenge.pw_foldervotes_k05_trees_and_views_refused.main.body.getD i (.Pass ⟨0, 0, 0, 0⟩)
abbrev s_is_integer : Stmt := (topS 13)
abbrev N_is_integer : List Str := ["thing"]
theorem sc_is_integer : FnScope N_is_integer ["thing"] (defScope s_is_integer) := ⟨rfl, rfl, rfl, by decide +kernel, rfl, by decide +kernel, by decide +kernel⟩
abbrev s_is_within : Stmt := (topS 14)
abbrev N_is_within : List Str := ["thing", "least", "most"]
theorem sc_is_within : FnScope N_is_within ["thing", "least", "most"] (defScope s_is_within) := ⟨rfl, rfl, rfl, by decide +kernel, rfl, by decide +kernel, by decide +kernel⟩
abbrev s_is_pair : Stmt := (topS 15)
abbrev N_is_pair : List Str := ["thing"]
theorem sc_is_pair : FnScope N_is_pair ["thing"] (defScope s_is_pair) := ⟨rfl, rfl, rfl, by decide +kernel, rfl, by decide +kernel, by decide +kernel⟩
abbrev s_is_view : Stmt := (topS 16)
abbrev N_is_view : List Str := ["thing", "item"]
theorem sc_is_view : FnScope N_is_view ["thing"] (defScope s_is_view) := ⟨rfl, rfl, rfl, by decide +kernel, rfl, by decide +kernel, by decide +kernel⟩
abbrev s_check_block : Stmt := (topS 18)
abbrev N_check_block : List Str := ["blocks", "thing"]
theorem sc_check_block : FnScope N_check_block ["blocks", "thing"] (defScope s_check_block) := ⟨rfl, rfl, rfl, by decide +kernel, rfl, by decide +kernel, by decide +kernel⟩
abbrev s_check_place : Stmt := (topS 19)
abbrev N_check_place : List Str := ["blocks", "thing"]
theorem sc_check_place : FnScope N_check_place ["blocks", "thing"] (defScope s_check_place) := ⟨rfl, rfl, rfl, by decide +kernel, rfl, by decide +kernel, by decide +kernel⟩
abbrev s_check_view : Stmt := (topS 17)
abbrev N_check_view : List Str := ["view"]
theorem sc_check_view : FnScope N_check_view ["view"] (defScope s_check_view) := ⟨rfl, rfl, rfl, by decide +kernel, rfl, by decide +kernel, by decide +kernel⟩
abbrev s_check_number : Stmt := (topS 20)
abbrev N_check_number : List Str := ["thing", "least", "most"]
theorem sc_check_number : FnScope N_check_number ["thing", "least", "most"] (defScope s_check_number) := ⟨rfl, rfl, rfl, by decide +kernel, rfl, by decide +kernel, by decide +kernel⟩
abbrev s_leads_home : Stmt := (topS 23)
abbrev N_leads_home : List Str := ["hung", "block", "here", "turn"]
theorem sc_leads_home : FnScope N_leads_home ["hung", "block"] (defScope s_leads_home) := ⟨rfl, rfl, rfl, by decide +kernel, rfl, by decide +kernel, by decide +kernel⟩
abbrev s_Tree_init : Stmt := (inClass (topS 24) 0)
abbrev N_Tree_init : List Str := ["self", "hung", "block"]
theorem sc_Tree_init : FnScope N_Tree_init ["self", "hung"] (defScope s_Tree_init) := ⟨rfl, rfl, rfl, by decide +kernel, rfl, by decide +kernel, by decide +kernel⟩
abbrev s_Tree_eq : Stmt := (inClass (topS 24) 1)
abbrev N_Tree_eq : List Str := ["self", "other"]
theorem sc_Tree_eq : FnScope N_Tree_eq ["self", "other"] (defScope s_Tree_eq) := ⟨rfl, rfl, rfl, by decide +kernel, rfl, by decide +kernel, by decide +kernel⟩
abbrev s_place_of : Stmt := (topS 25)
abbrev N_place_of : List Str := ["tree", "block"]
theorem sc_place_of : FnScope N_place_of ["tree", "block"] (defScope s_place_of) := ⟨rfl, rfl, rfl, by decide +kernel, rfl, by decide +kernel, by decide +kernel⟩
abbrev s_parents_in : Stmt := (topS 26)
abbrev N_parents_in : List Str := ["hung", "place", "found", "here"]
theorem sc_parents_in : FnScope N_parents_in ["hung", "place"] (defScope s_parents_in) := ⟨rfl, rfl, rfl, by decide +kernel, rfl, by decide +kernel, by decide +kernel⟩
abbrev s_parentsT : Stmt := (topS 27)
abbrev N_parentsT : List Str := ["tree", "block"]
theorem sc_parentsT : FnScope N_parentsT ["tree", "block"] (defScope s_parentsT) := ⟨rfl, rfl, rfl, by decide +kernel, rfl, by decide +kernel, by decide +kernel⟩
abbrev s_hanging : Stmt := (topS 28)
abbrev N_hanging : List Str := ["hung", "place", "block"]
theorem sc_hanging : FnScope N_hanging ["hung", "place"] (defScope s_hanging) := ⟨rfl, rfl, rfl, by decide +kernel, rfl, by decide +kernel, by decide +kernel⟩
abbrev s_under : Stmt := (topS 29)
abbrev N_under : List Str := ["tree", "place"]
theorem sc_under : FnScope N_under ["tree", "place"] (defScope s_under) := ⟨rfl, rfl, rfl, by decide +kernel, rfl, by decide +kernel, by decide +kernel⟩
abbrev s_beneath_in : Stmt := (topS 30)
abbrev N_beneath_in : List Str := ["hung", "place", "found", "waiting", "more"]
theorem sc_beneath_in : FnScope N_beneath_in ["hung", "place"] (defScope s_beneath_in) := ⟨rfl, rfl, rfl, by decide +kernel, rfl, by decide +kernel, by decide +kernel⟩
abbrev s_beneathT : Stmt := (topS 31)
abbrev N_beneathT : List Str := ["tree", "place"]
theorem sc_beneathT : FnScope N_beneathT ["tree", "place"] (defScope s_beneathT) := ⟨rfl, rfl, rfl, by decide +kernel, rfl, by decide +kernel, by decide +kernel⟩
abbrev s_with_place : Stmt := (topS 32)
abbrev N_with_place : List Str := ["hung", "block", "place"]
theorem sc_with_place : FnScope N_with_place ["hung", "block", "place"] (defScope s_with_place) := ⟨rfl, rfl, rfl, by decide +kernel, rfl, by decide +kernel, by decide +kernel⟩
abbrev s_moved : Stmt := (topS 33)
abbrev N_moved : List Str := ["tree", "block", "place"]
theorem sc_moved : FnScope N_moved ["tree", "block", "place"] (defScope s_moved) := ⟨rfl, rfl, rfl, by decide +kernel, rfl, by decide +kernel, by decide +kernel⟩
abbrev s_called : Stmt := (topS 34)
abbrev N_called : List Str := ["tree", "order", "many", "names", "found", "block", "item"]
theorem sc_called : FnScope N_called ["tree", "order"] (defScope s_called) := ⟨rfl, rfl, rfl, by decide +kernel, rfl, by decide +kernel, by decide +kernel⟩
abbrev s_ties_down : Stmt := (topS 36)
abbrev N_ties_down : List Str := ["hung", "place", "steps", "found", "layer", "step", "later", "here", "block"]
theorem sc_ties_down : FnScope N_ties_down ["hung", "place", "steps"] (defScope s_ties_down) := ⟨rfl, rfl, rfl, by decide +kernel, rfl, by decide +kernel, by decide +kernel⟩
abbrev s_raw_telling : Stmt := (topS 37)
abbrev N_raw_telling : List Str := ["hung", "view", "place"]
theorem sc_raw_telling : FnScope N_raw_telling ["hung", "view", "place"] (defScope s_raw_telling) := ⟨rfl, rfl, rfl, by decide +kernel, rfl, by decide +kernel, by decide +kernel⟩
abbrev s_telling : Stmt := (topS 38)
abbrev N_telling : List Str := ["tree", "view", "place"]
theorem sc_telling : FnScope N_telling ["tree", "view", "place"] (defScope s_telling) := ⟨rfl, rfl, rfl, by decide +kernel, rfl, by decide +kernel, by decide +kernel⟩
abbrev s_raw_tellings : Stmt := (topS 39)
abbrev N_raw_tellings : List Str := ["hung", "view", "place"]
theorem sc_raw_tellings : FnScope N_raw_tellings ["hung", "view"] (defScope s_raw_tellings) := ⟨rfl, rfl, rfl, by decide +kernel, rfl, by decide +kernel, by decide +kernel⟩
abbrev s_unlike : Stmt := (topS 40)
abbrev N_unlike : List Str := ["tree", "other", "view", "first", "second", "place"]
theorem sc_unlike : FnScope N_unlike ["tree", "other", "view"] (defScope s_unlike) := ⟨rfl, rfl, rfl, by decide +kernel, rfl, by decide +kernel, by decide +kernel⟩
abbrev s_raw_distance : Stmt := (topS 41)
abbrev N_raw_distance : List Str := ["view", "up", "down", "more"]
theorem sc_raw_distance : FnScope N_raw_distance ["view"] (defScope s_raw_distance) := ⟨rfl, rfl, rfl, by decide +kernel, rfl, by decide +kernel, by decide +kernel⟩
abbrev s_distance : Stmt := (topS 42)
abbrev N_distance : List Str := ["view"]
theorem sc_distance : FnScope N_distance ["view"] (defScope s_distance) := ⟨rfl, rfl, rfl, by decide +kernel, rfl, by decide +kernel, by decide +kernel⟩
abbrev s_twins : Stmt := (topS 43)
abbrev N_twins : List Str := ["view", "blocks", "down", "row", "rest"]
theorem sc_twins : FnScope N_twins ["view", "blocks"] (defScope s_twins) := ⟨rfl, rfl, rfl, by decide +kernel, rfl, by decide +kernel, by decide +kernel⟩
abbrev s_l_pool : Stmt := (topS 45)
abbrev N_l_pool : List Str := ["_law_script", "_law_great", "_law_small", "_law_cell"]
theorem sc_l_pool : FnScope N_l_pool ["_law_script"] (defScope s_l_pool) := ⟨rfl, rfl, rfl, by decide +kernel, rfl, by decide +kernel, by decide +kernel⟩
abbrev s_l_draw : Stmt := (topS 46)
abbrev N_l_draw : List Str := ["_law_pool_here", "_law_many", "_law_digit", "_law_cell", "_law_number"]
theorem sc_l_draw : FnScope N_l_draw ["_law_pool_here", "_law_many"] (defScope s_l_draw) := ⟨rfl, rfl, rfl, by decide +kernel, rfl, by decide +kernel, by decide +kernel⟩
abbrev s_l_pick : Stmt := (topS 47)
abbrev N_l_pick : List Str := ["_law_pool_here", "_law_things"]
theorem sc_l_pick : FnScope N_l_pick ["_law_pool_here", "_law_things"] (defScope s_l_pick) := ⟨rfl, rfl, rfl, by decide +kernel, rfl, by decide +kernel, by decide +kernel⟩
abbrev s_l_is : Stmt := (topS 48)
abbrev N_l_is : List Str := ["_law_told", "_law_due", "_law_at", "_law_key"]
theorem sc_l_is : FnScope N_l_is ["_law_told", "_law_due"] (defScope s_l_is) := ⟨rfl, rfl, rfl, by decide +kernel, rfl, by decide +kernel, by decide +kernel⟩
abbrev s_l_deep : Stmt := (topS 49)
abbrev N_l_deep : List Str := ["_law_thing", "_law_turn"]
theorem sc_l_deep : FnScope N_l_deep [] (defScope s_l_deep) := ⟨rfl, rfl, rfl, by decide +kernel, rfl, by decide +kernel, by decide +kernel⟩
abbrev s_l_is_number : Stmt := (topS 50)
abbrev N_l_is_number : List Str := ["_law_thing", "_law_least", "_law_most"]
theorem sc_l_is_number : FnScope N_l_is_number ["_law_thing", "_law_least", "_law_most"] (defScope s_l_is_number) := ⟨rfl, rfl, rfl, by decide +kernel, rfl, by decide +kernel, by decide +kernel⟩
abbrev s_l_mixed : Stmt := (topS 51)
abbrev N_l_mixed : List Str := ["_law_pool_here", "_law_many", "_law_left", "_law_turn"]
theorem sc_l_mixed : FnScope N_l_mixed ["_law_pool_here", "_law_many"] (defScope s_l_mixed) := ⟨rfl, rfl, rfl, by decide +kernel, rfl, by decide +kernel, by decide +kernel⟩
abbrev s_l_hung : Stmt := (topS 52)
abbrev N_l_hung : List Str := ["_law_pool_here", "_law_many", "_law_kind", "_law_order", "_law_found", "_law_at", "_law_above"]
theorem sc_l_hung : FnScope N_l_hung ["_law_pool_here", "_law_many"] (defScope s_l_hung) := ⟨rfl, rfl, rfl, by decide +kernel, rfl, by decide +kernel, by decide +kernel⟩
abbrev s_l_way : Stmt := (topS 53)
abbrev N_l_way : List Str := ["_law_hung_here", "_law_place", "_law_found", "_law_here", "_law_turn"]
theorem sc_l_way : FnScope N_l_way ["_law_hung_here", "_law_place"] (defScope s_l_way) := ⟨rfl, rfl, rfl, by decide +kernel, rfl, by decide +kernel, by decide +kernel⟩
abbrev s_l_odd : Stmt := (topS 54)
abbrev N_l_odd : List Str := ["_law_pool_here", "_law_most"]
theorem sc_l_odd : FnScope N_l_odd ["_law_pool_here", "_law_most"] (defScope s_l_odd) := ⟨rfl, rfl, rfl, by decide +kernel, rfl, by decide +kernel, by decide +kernel⟩
abbrev s_l_word : Stmt := (topS 55)
abbrev N_l_word : List Str := ["_law_call", "_law_word_here", "e", "_law_flags", "_law_flag"]
theorem sc_l_word : FnScope N_l_word ["_law_call"] (defScope s_l_word) := ⟨rfl, rfl, rfl, by decide +kernel, rfl, by decide +kernel, by decide +kernel⟩
abbrev s_l_order_refused : Stmt := (topS 56)
abbrev N_l_order_refused : List Str := ["_law_pool_here", "_law_tree", "_law_many", "_law_order", "_law_at", "_law_things", "_law_thing", "_law_right", "_law_item"]
theorem sc_l_order_refused : FnScope N_l_order_refused ["_law_pool_here", "_law_tree", "_law_many"] (defScope s_l_order_refused) := ⟨rfl, rfl, rfl, by decide +kernel, rfl, by decide +kernel, by decide +kernel⟩
abbrev s_l_views_refused : Stmt := (topS 57)
abbrev N_l_views_refused : List Str := ["_law_pool_here", "_law_tree", "_law_place", "_law_is_place", "_law_item", "_law_things", "_law_view", "_law_right", "_law_due", "_law_other", "_law_words", "_law_number", "_law_one"]
theorem sc_l_views_refused : FnScope N_l_views_refused ["_law_pool_here", "_law_tree", "_law_place", "_law_is_place"] (defScope s_l_views_refused) := ⟨rfl, rfl, rfl, by decide +kernel, rfl, by decide +kernel, by decide +kernel⟩
abbrev s_law : Stmt := (topS 58)
abbrev N_law : List Str := ["_law_script", "_law_pool_here", "_law_turn", "_law_many", "_law_hung_here", "_law_tree", "_law_block", "_law_place", "_law_is_block", "_law_is_place", "_law_due", "_law_words"]
theorem sc_law : FnScope N_law ["_law_script"] (defScope s_law) := ⟨rfl, rfl, rfl, by decide +kernel, rfl, by decide +kernel, by decide +kernel⟩
structure Txt (K : PySem.W.Frag) (mg : Str → Option Value) where
  z_ValueError : mg "ValueError" = none
  z_abs : mg "abs" = none
  z_all : mg "all" = none
  z_bool : mg "bool" = none
  z_dict : mg "dict" = none
  z_int : mg "int" = none
  z_isinstance : mg "isinstance" = none
  z_len : mg "len" = none
  z_list : mg "list" = none
  z_range : mg "range" = none
  z_sorted : mg "sorted" = none
  z_tuple : mg "tuple" = none
  k_HEAD : Tok
  c_HEAD : mg "HEAD" = some (.int 0 k_HEAD)
  k_MOST_BLOCKS : Tok
  c_MOST_BLOCKS : mg "MOST_BLOCKS" = some (.int 40 k_MOST_BLOCKS)
  k_MOST_STEPS : Tok
  c_MOST_STEPS : mg "MOST_STEPS" = some (.int 4 k_MOST_STEPS)
  C_Tree : Addr
  g_Tree : mg "Tree" = some (.ref C_Tree)
  C_NoBlock : Addr
  g_NoBlock : mg "NoBlock" = some (.ref C_NoBlock)
  C_NoPlace : Addr
  g_NoPlace : mg "NoPlace" = some (.ref C_NoPlace)
  C_Beneath : Addr
  g_Beneath : mg "Beneath" = some (.ref C_Beneath)
  C_NoOrder : Addr
  g_NoOrder : mg "NoOrder" = some (.ref C_NoOrder)
  C_NoView : Addr
  g_NoView : mg "NoView" = some (.ref C_NoView)
  C_OtherBlocks : Addr
  g_OtherBlocks : mg "OtherBlocks" = some (.ref C_OtherBlocks)
  C_NoNumber : Addr
  g_NoNumber : mg "NoNumber" = some (.ref C_NoNumber)
  C_VoteError : Addr
  g_VoteError : mg "VoteError" = some (.ref C_VoteError)
  f_is_integer : Addr
  fd_is_integer : FuncData
  F_is_integer : Fun K "is_integer" "is_integer" s_is_integer f_is_integer fd_is_integer
  b_is_integer : Binds K fd_is_integer ["thing"] []
  g_is_integer : mg "is_integer" = some (.ref f_is_integer)
  f_is_within : Addr
  fd_is_within : FuncData
  F_is_within : Fun K "is_within" "is_within" s_is_within f_is_within fd_is_within
  b_is_within : Binds K fd_is_within ["thing", "least", "most"] []
  g_is_within : mg "is_within" = some (.ref f_is_within)
  f_is_pair : Addr
  fd_is_pair : FuncData
  F_is_pair : Fun K "is_pair" "is_pair" s_is_pair f_is_pair fd_is_pair
  b_is_pair : Binds K fd_is_pair ["thing"] []
  g_is_pair : mg "is_pair" = some (.ref f_is_pair)
  f_is_view : Addr
  fd_is_view : FuncData
  F_is_view : Fun K "is_view" "is_view" s_is_view f_is_view fd_is_view
  b_is_view : Binds K fd_is_view ["thing"] []
  g_is_view : mg "is_view" = some (.ref f_is_view)
  f_check_block : Addr
  fd_check_block : FuncData
  F_check_block : Fun K "check_block" "check_block" s_check_block f_check_block fd_check_block
  b_check_block : Binds K fd_check_block ["blocks", "thing"] []
  g_check_block : mg "check_block" = some (.ref f_check_block)
  f_check_place : Addr
  fd_check_place : FuncData
  F_check_place : Fun K "check_place" "check_place" s_check_place f_check_place fd_check_place
  b_check_place : Binds K fd_check_place ["blocks", "thing"] []
  g_check_place : mg "check_place" = some (.ref f_check_place)
  f_check_view : Addr
  fd_check_view : FuncData
  F_check_view : Fun K "check_view" "check_view" s_check_view f_check_view fd_check_view
  b_check_view : Binds K fd_check_view ["view"] []
  g_check_view : mg "check_view" = some (.ref f_check_view)
  f_check_number : Addr
  fd_check_number : FuncData
  F_check_number : Fun K "check_number" "check_number" s_check_number f_check_number fd_check_number
  b_check_number : Binds K fd_check_number ["thing", "least", "most"] []
  g_check_number : mg "check_number" = some (.ref f_check_number)
  f_leads_home : Addr
  fd_leads_home : FuncData
  F_leads_home : Fun K "leads_home" "leads_home" s_leads_home f_leads_home fd_leads_home
  b_leads_home : Binds K fd_leads_home ["hung", "block"] []
  g_leads_home : mg "leads_home" = some (.ref f_leads_home)
  f_Tree_init : Addr
  fd_Tree_init : FuncData
  F_Tree_init : Fun K "__init__" "Tree.__init__" s_Tree_init f_Tree_init fd_Tree_init
  b_Tree_init : Binds K fd_Tree_init ["self", "hung"] []
  f_Tree_eq : Addr
  fd_Tree_eq : FuncData
  F_Tree_eq : Fun K "__eq__" "Tree.__eq__" s_Tree_eq f_Tree_eq fd_Tree_eq
  b_Tree_eq : Binds K fd_Tree_eq ["self", "other"] []
  f_place_of : Addr
  fd_place_of : FuncData
  F_place_of : Fun K "place_of" "place_of" s_place_of f_place_of fd_place_of
  b_place_of : Binds K fd_place_of ["tree", "block"] []
  g_place_of : mg "place_of" = some (.ref f_place_of)
  f_parents_in : Addr
  fd_parents_in : FuncData
  F_parents_in : Fun K "parents_in" "parents_in" s_parents_in f_parents_in fd_parents_in
  b_parents_in : Binds K fd_parents_in ["hung", "place"] []
  g_parents_in : mg "parents_in" = some (.ref f_parents_in)
  f_parentsT : Addr
  fd_parentsT : FuncData
  F_parentsT : Fun K "parents" "parents" s_parentsT f_parentsT fd_parentsT
  b_parentsT : Binds K fd_parentsT ["tree", "block"] []
  g_parentsT : mg "parents" = some (.ref f_parentsT)
  f_hanging : Addr
  fd_hanging : FuncData
  F_hanging : Fun K "hanging" "hanging" s_hanging f_hanging fd_hanging
  b_hanging : Binds K fd_hanging ["hung", "place"] []
  g_hanging : mg "hanging" = some (.ref f_hanging)
  f_under : Addr
  fd_under : FuncData
  F_under : Fun K "under" "under" s_under f_under fd_under
  b_under : Binds K fd_under ["tree", "place"] []
  g_under : mg "under" = some (.ref f_under)
  f_beneath_in : Addr
  fd_beneath_in : FuncData
  F_beneath_in : Fun K "beneath_in" "beneath_in" s_beneath_in f_beneath_in fd_beneath_in
  b_beneath_in : Binds K fd_beneath_in ["hung", "place"] []
  g_beneath_in : mg "beneath_in" = some (.ref f_beneath_in)
  f_beneathT : Addr
  fd_beneathT : FuncData
  F_beneathT : Fun K "beneath" "beneath" s_beneathT f_beneathT fd_beneathT
  b_beneathT : Binds K fd_beneathT ["tree", "place"] []
  g_beneathT : mg "beneath" = some (.ref f_beneathT)
  f_with_place : Addr
  fd_with_place : FuncData
  F_with_place : Fun K "with_place" "with_place" s_with_place f_with_place fd_with_place
  b_with_place : Binds K fd_with_place ["hung", "block", "place"] []
  g_with_place : mg "with_place" = some (.ref f_with_place)
  f_moved : Addr
  fd_moved : FuncData
  F_moved : Fun K "moved" "moved" s_moved f_moved fd_moved
  b_moved : Binds K fd_moved ["tree", "block", "place"] []
  g_moved : mg "moved" = some (.ref f_moved)
  f_called : Addr
  fd_called : FuncData
  F_called : Fun K "called" "called" s_called f_called fd_called
  b_called : Binds K fd_called ["tree", "order"] []
  g_called : mg "called" = some (.ref f_called)
  f_ties_down : Addr
  fd_ties_down : FuncData
  F_ties_down : Fun K "ties_down" "ties_down" s_ties_down f_ties_down fd_ties_down
  b_ties_down : Binds K fd_ties_down ["hung", "place", "steps"] []
  g_ties_down : mg "ties_down" = some (.ref f_ties_down)
  f_raw_telling : Addr
  fd_raw_telling : FuncData
  F_raw_telling : Fun K "raw_telling" "raw_telling" s_raw_telling f_raw_telling fd_raw_telling
  b_raw_telling : Binds K fd_raw_telling ["hung", "view", "place"] []
  g_raw_telling : mg "raw_telling" = some (.ref f_raw_telling)
  f_telling : Addr
  fd_telling : FuncData
  F_telling : Fun K "telling" "telling" s_telling f_telling fd_telling
  b_telling : Binds K fd_telling ["tree", "view", "place"] []
  g_telling : mg "telling" = some (.ref f_telling)
  f_raw_tellings : Addr
  fd_raw_tellings : FuncData
  F_raw_tellings : Fun K "raw_tellings" "raw_tellings" s_raw_tellings f_raw_tellings fd_raw_tellings
  b_raw_tellings : Binds K fd_raw_tellings ["hung", "view"] []
  g_raw_tellings : mg "raw_tellings" = some (.ref f_raw_tellings)
  f_unlike : Addr
  fd_unlike : FuncData
  F_unlike : Fun K "unlike" "unlike" s_unlike f_unlike fd_unlike
  b_unlike : Binds K fd_unlike ["tree", "other", "view"] []
  g_unlike : mg "unlike" = some (.ref f_unlike)
  f_raw_distance : Addr
  fd_raw_distance : FuncData
  F_raw_distance : Fun K "raw_distance" "raw_distance" s_raw_distance f_raw_distance fd_raw_distance
  b_raw_distance : Binds K fd_raw_distance ["view"] []
  g_raw_distance : mg "raw_distance" = some (.ref f_raw_distance)
  f_distance : Addr
  fd_distance : FuncData
  F_distance : Fun K "distance" "distance" s_distance f_distance fd_distance
  b_distance : Binds K fd_distance ["view"] []
  g_distance : mg "distance" = some (.ref f_distance)
  f_twins : Addr
  fd_twins : FuncData
  F_twins : Fun K "twins" "twins" s_twins f_twins fd_twins
  b_twins : Binds K fd_twins ["view", "blocks"] []
  g_twins : mg "twins" = some (.ref f_twins)
  f_l_pool : Addr
  fd_l_pool : FuncData
  F_l_pool : Fun K "_law_pool" "_law_pool" s_l_pool f_l_pool fd_l_pool
  b_l_pool : Binds K fd_l_pool ["_law_script"] []
  g_l_pool : mg "_law_pool" = some (.ref f_l_pool)
  f_l_draw : Addr
  fd_l_draw : FuncData
  F_l_draw : Fun K "_law_draw" "_law_draw" s_l_draw f_l_draw fd_l_draw
  b_l_draw : Binds K fd_l_draw ["_law_pool_here", "_law_many"] []
  g_l_draw : mg "_law_draw" = some (.ref f_l_draw)
  f_l_pick : Addr
  fd_l_pick : FuncData
  F_l_pick : Fun K "_law_pick" "_law_pick" s_l_pick f_l_pick fd_l_pick
  b_l_pick : Binds K fd_l_pick ["_law_pool_here", "_law_things"] []
  g_l_pick : mg "_law_pick" = some (.ref f_l_pick)
  f_l_is : Addr
  fd_l_is : FuncData
  F_l_is : Fun K "_law_is" "_law_is" s_l_is f_l_is fd_l_is
  b_l_is : Binds K fd_l_is ["_law_told", "_law_due"] []
  g_l_is : mg "_law_is" = some (.ref f_l_is)
  f_l_deep : Addr
  fd_l_deep : FuncData
  F_l_deep : Fun K "_law_deep" "_law_deep" s_l_deep f_l_deep fd_l_deep
  b_l_deep : Binds K fd_l_deep [] []
  g_l_deep : mg "_law_deep" = some (.ref f_l_deep)
  f_l_is_number : Addr
  fd_l_is_number : FuncData
  F_l_is_number : Fun K "_law_is_number" "_law_is_number" s_l_is_number f_l_is_number fd_l_is_number
  b_l_is_number : Binds K fd_l_is_number ["_law_thing", "_law_least", "_law_most"] []
  g_l_is_number : mg "_law_is_number" = some (.ref f_l_is_number)
  f_l_mixed : Addr
  fd_l_mixed : FuncData
  F_l_mixed : Fun K "_law_mixed" "_law_mixed" s_l_mixed f_l_mixed fd_l_mixed
  b_l_mixed : Binds K fd_l_mixed ["_law_pool_here", "_law_many"] []
  g_l_mixed : mg "_law_mixed" = some (.ref f_l_mixed)
  f_l_hung : Addr
  fd_l_hung : FuncData
  F_l_hung : Fun K "_law_hung" "_law_hung" s_l_hung f_l_hung fd_l_hung
  b_l_hung : Binds K fd_l_hung ["_law_pool_here", "_law_many"] []
  g_l_hung : mg "_law_hung" = some (.ref f_l_hung)
  f_l_way : Addr
  fd_l_way : FuncData
  F_l_way : Fun K "_law_way" "_law_way" s_l_way f_l_way fd_l_way
  b_l_way : Binds K fd_l_way ["_law_hung_here", "_law_place"] []
  g_l_way : mg "_law_way" = some (.ref f_l_way)
  f_l_odd : Addr
  fd_l_odd : FuncData
  F_l_odd : Fun K "_law_odd" "_law_odd" s_l_odd f_l_odd fd_l_odd
  b_l_odd : Binds K fd_l_odd ["_law_pool_here", "_law_most"] []
  g_l_odd : mg "_law_odd" = some (.ref f_l_odd)
  f_l_word : Addr
  fd_l_word : FuncData
  F_l_word : Fun K "_law_word" "_law_word" s_l_word f_l_word fd_l_word
  b_l_word : Binds K fd_l_word ["_law_call"] []
  g_l_word : mg "_law_word" = some (.ref f_l_word)
  f_l_order_refused : Addr
  fd_l_order_refused : FuncData
  F_l_order_refused : Fun K "_law_order_refused" "_law_order_refused" s_l_order_refused f_l_order_refused fd_l_order_refused
  cc_l_order_refused : Addr
  P_l_order_refused : Addr
  FC_l_order_refused : FunC K "_law_order_refused" "_law_order_refused" s_l_order_refused f_l_order_refused fd_l_order_refused cc_l_order_refused
  tm_l_order_refused : (P_l_order_refused, ((("_law_order_refused" : Str) ++ ".<locals>.") ++ "<lambda>")) ∈ tabT
  tu_l_order_refused : ∀ p ∈ tabT, p.1 = P_l_order_refused → p.2 = ((("_law_order_refused" : Str) ++ ".<locals>.") ++ "<lambda>")
  b_l_order_refused : Binds K fd_l_order_refused ["_law_pool_here", "_law_tree", "_law_many"] []
  g_l_order_refused : mg "_law_order_refused" = some (.ref f_l_order_refused)
  f_l_views_refused : Addr
  fd_l_views_refused : FuncData
  F_l_views_refused : Fun K "_law_views_refused" "_law_views_refused" s_l_views_refused f_l_views_refused fd_l_views_refused
  cc_l_views_refused : Addr
  P_l_views_refused : Addr
  FC_l_views_refused : FunC K "_law_views_refused" "_law_views_refused" s_l_views_refused f_l_views_refused fd_l_views_refused cc_l_views_refused
  tm_l_views_refused : (P_l_views_refused, ((("_law_views_refused" : Str) ++ ".<locals>.") ++ "<lambda>")) ∈ tabT
  tu_l_views_refused : ∀ p ∈ tabT, p.1 = P_l_views_refused → p.2 = ((("_law_views_refused" : Str) ++ ".<locals>.") ++ "<lambda>")
  b_l_views_refused : Binds K fd_l_views_refused ["_law_pool_here", "_law_tree", "_law_place", "_law_is_place"] []
  g_l_views_refused : mg "_law_views_refused" = some (.ref f_l_views_refused)
  f_law : Addr
  fd_law : FuncData
  F_law : Fun K "law" "law" s_law f_law fd_law
  cc_law : Addr
  P_law : Addr
  FC_law : FunC K "law" "law" s_law f_law fd_law cc_law
  tm_law : (P_law, ((("law" : Str) ++ ".<locals>.") ++ "<lambda>")) ∈ tabT
  tu_law : ∀ p ∈ tabT, p.1 = P_law → p.2 = ((("law" : Str) ++ ".<locals>.") ++ "<lambda>")
  b_law : Binds K fd_law ["_law_script"] []
  g_law : mg "law" = some (.ref f_law)
  M_Tree : Mk K C_Tree f_Tree_init
  o_Tree : OwnC K C_Tree
  nf_Tree_hung : NoAttr K C_Tree "hung"
  kf_Tree : ∀ T, okTy T → PySem.W.kitOne K (.ref C_Tree) (.type T) = some false
  e_Tree : PySem.W.findIn K (.ref C_Tree) "__eq__" = some (some (.ref f_Tree_eq))
  ef_Tree : PySem.W.isFn K (.ref f_Tree_eq) = true
  ne_Tree : NeC K C_Tree f_Tree_eq
  xc_NoBlock : XCls K C_NoBlock
  te_NoBlock : PySem.W.exmOne K (.ref C_NoBlock) (.ref C_NoBlock) = some true
  X_NoBlock : OexC K C_NoBlock
  x0_NoBlock : PySem.W.excIn K C_NoBlock [.type "ValueError", .type "Exception", .type "BaseException", .type "object"] "ValueError.__new__" = true
  xc_NoPlace : XCls K C_NoPlace
  te_NoPlace : PySem.W.exmOne K (.ref C_NoPlace) (.ref C_NoPlace) = some true
  X_NoPlace : OexC K C_NoPlace
  x0_NoPlace : PySem.W.excIn K C_NoPlace [.type "ValueError", .type "Exception", .type "BaseException", .type "object"] "ValueError.__new__" = true
  xc_Beneath : XCls K C_Beneath
  te_Beneath : PySem.W.exmOne K (.ref C_Beneath) (.ref C_Beneath) = some true
  X_Beneath : OexC K C_Beneath
  x0_Beneath : PySem.W.excIn K C_Beneath [.type "ValueError", .type "Exception", .type "BaseException", .type "object"] "ValueError.__new__" = true
  xc_NoOrder : XCls K C_NoOrder
  te_NoOrder : PySem.W.exmOne K (.ref C_NoOrder) (.ref C_NoOrder) = some true
  X_NoOrder : OexC K C_NoOrder
  x0_NoOrder : PySem.W.excIn K C_NoOrder [.type "ValueError", .type "Exception", .type "BaseException", .type "object"] "ValueError.__new__" = true
  xc_NoView : XCls K C_NoView
  te_NoView : PySem.W.exmOne K (.ref C_NoView) (.ref C_NoView) = some true
  X_NoView : OexC K C_NoView
  x0_NoView : PySem.W.excIn K C_NoView [.type "ValueError", .type "Exception", .type "BaseException", .type "object"] "ValueError.__new__" = true
  xc_OtherBlocks : XCls K C_OtherBlocks
  te_OtherBlocks : PySem.W.exmOne K (.ref C_OtherBlocks) (.ref C_OtherBlocks) = some true
  X_OtherBlocks : OexC K C_OtherBlocks
  x0_OtherBlocks : PySem.W.excIn K C_OtherBlocks [.type "ValueError", .type "Exception", .type "BaseException", .type "object"] "ValueError.__new__" = true
  xc_NoNumber : XCls K C_NoNumber
  te_NoNumber : PySem.W.exmOne K (.ref C_NoNumber) (.ref C_NoNumber) = some true
  X_NoNumber : OexC K C_NoNumber
  x0_NoNumber : PySem.W.excIn K C_NoNumber [.type "ValueError", .type "Exception", .type "BaseException", .type "object"] "ValueError.__new__" = true
  xc_VoteError : XCls K C_VoteError
  te_VoteError : PySem.W.exmOne K (.ref C_VoteError) (.ref C_VoteError) = some true
  X_VoteError : OexC K C_VoteError
  te_NoBlock_VoteError : PySem.W.exmOne K (.ref C_NoBlock) (.ref C_VoteError) = some true
  kv_NoBlock_ValueError : PySem.W.kitOne K (.ref C_NoBlock) (.type "ValueError") = some true
  kx_NoBlock_NoBlock : PySem.W.kitOne K (.ref C_NoBlock) (.ref C_NoBlock) = some true
  kx_NoBlock_NoPlace : PySem.W.kitOne K (.ref C_NoBlock) (.ref C_NoPlace) = some false
  kx_NoBlock_Beneath : PySem.W.kitOne K (.ref C_NoBlock) (.ref C_Beneath) = some false
  kx_NoBlock_NoOrder : PySem.W.kitOne K (.ref C_NoBlock) (.ref C_NoOrder) = some false
  kx_NoBlock_NoView : PySem.W.kitOne K (.ref C_NoBlock) (.ref C_NoView) = some false
  kx_NoBlock_OtherBlocks : PySem.W.kitOne K (.ref C_NoBlock) (.ref C_OtherBlocks) = some false
  kx_NoBlock_NoNumber : PySem.W.kitOne K (.ref C_NoBlock) (.ref C_NoNumber) = some false
  te_NoPlace_VoteError : PySem.W.exmOne K (.ref C_NoPlace) (.ref C_VoteError) = some true
  kv_NoPlace_ValueError : PySem.W.kitOne K (.ref C_NoPlace) (.type "ValueError") = some true
  kx_NoPlace_NoBlock : PySem.W.kitOne K (.ref C_NoPlace) (.ref C_NoBlock) = some false
  kx_NoPlace_NoPlace : PySem.W.kitOne K (.ref C_NoPlace) (.ref C_NoPlace) = some true
  kx_NoPlace_Beneath : PySem.W.kitOne K (.ref C_NoPlace) (.ref C_Beneath) = some false
  kx_NoPlace_NoOrder : PySem.W.kitOne K (.ref C_NoPlace) (.ref C_NoOrder) = some false
  kx_NoPlace_NoView : PySem.W.kitOne K (.ref C_NoPlace) (.ref C_NoView) = some false
  kx_NoPlace_OtherBlocks : PySem.W.kitOne K (.ref C_NoPlace) (.ref C_OtherBlocks) = some false
  kx_NoPlace_NoNumber : PySem.W.kitOne K (.ref C_NoPlace) (.ref C_NoNumber) = some false
  te_Beneath_VoteError : PySem.W.exmOne K (.ref C_Beneath) (.ref C_VoteError) = some true
  kv_Beneath_ValueError : PySem.W.kitOne K (.ref C_Beneath) (.type "ValueError") = some true
  kx_Beneath_NoBlock : PySem.W.kitOne K (.ref C_Beneath) (.ref C_NoBlock) = some false
  kx_Beneath_NoPlace : PySem.W.kitOne K (.ref C_Beneath) (.ref C_NoPlace) = some false
  kx_Beneath_Beneath : PySem.W.kitOne K (.ref C_Beneath) (.ref C_Beneath) = some true
  kx_Beneath_NoOrder : PySem.W.kitOne K (.ref C_Beneath) (.ref C_NoOrder) = some false
  kx_Beneath_NoView : PySem.W.kitOne K (.ref C_Beneath) (.ref C_NoView) = some false
  kx_Beneath_OtherBlocks : PySem.W.kitOne K (.ref C_Beneath) (.ref C_OtherBlocks) = some false
  kx_Beneath_NoNumber : PySem.W.kitOne K (.ref C_Beneath) (.ref C_NoNumber) = some false
  te_NoOrder_VoteError : PySem.W.exmOne K (.ref C_NoOrder) (.ref C_VoteError) = some true
  kv_NoOrder_ValueError : PySem.W.kitOne K (.ref C_NoOrder) (.type "ValueError") = some true
  kx_NoOrder_NoBlock : PySem.W.kitOne K (.ref C_NoOrder) (.ref C_NoBlock) = some false
  kx_NoOrder_NoPlace : PySem.W.kitOne K (.ref C_NoOrder) (.ref C_NoPlace) = some false
  kx_NoOrder_Beneath : PySem.W.kitOne K (.ref C_NoOrder) (.ref C_Beneath) = some false
  kx_NoOrder_NoOrder : PySem.W.kitOne K (.ref C_NoOrder) (.ref C_NoOrder) = some true
  kx_NoOrder_NoView : PySem.W.kitOne K (.ref C_NoOrder) (.ref C_NoView) = some false
  kx_NoOrder_OtherBlocks : PySem.W.kitOne K (.ref C_NoOrder) (.ref C_OtherBlocks) = some false
  kx_NoOrder_NoNumber : PySem.W.kitOne K (.ref C_NoOrder) (.ref C_NoNumber) = some false
  te_NoView_VoteError : PySem.W.exmOne K (.ref C_NoView) (.ref C_VoteError) = some true
  kv_NoView_ValueError : PySem.W.kitOne K (.ref C_NoView) (.type "ValueError") = some true
  kx_NoView_NoBlock : PySem.W.kitOne K (.ref C_NoView) (.ref C_NoBlock) = some false
  kx_NoView_NoPlace : PySem.W.kitOne K (.ref C_NoView) (.ref C_NoPlace) = some false
  kx_NoView_Beneath : PySem.W.kitOne K (.ref C_NoView) (.ref C_Beneath) = some false
  kx_NoView_NoOrder : PySem.W.kitOne K (.ref C_NoView) (.ref C_NoOrder) = some false
  kx_NoView_NoView : PySem.W.kitOne K (.ref C_NoView) (.ref C_NoView) = some true
  kx_NoView_OtherBlocks : PySem.W.kitOne K (.ref C_NoView) (.ref C_OtherBlocks) = some false
  kx_NoView_NoNumber : PySem.W.kitOne K (.ref C_NoView) (.ref C_NoNumber) = some false
  te_OtherBlocks_VoteError : PySem.W.exmOne K (.ref C_OtherBlocks) (.ref C_VoteError) = some true
  kv_OtherBlocks_ValueError : PySem.W.kitOne K (.ref C_OtherBlocks) (.type "ValueError") = some true
  kx_OtherBlocks_NoBlock : PySem.W.kitOne K (.ref C_OtherBlocks) (.ref C_NoBlock) = some false
  kx_OtherBlocks_NoPlace : PySem.W.kitOne K (.ref C_OtherBlocks) (.ref C_NoPlace) = some false
  kx_OtherBlocks_Beneath : PySem.W.kitOne K (.ref C_OtherBlocks) (.ref C_Beneath) = some false
  kx_OtherBlocks_NoOrder : PySem.W.kitOne K (.ref C_OtherBlocks) (.ref C_NoOrder) = some false
  kx_OtherBlocks_NoView : PySem.W.kitOne K (.ref C_OtherBlocks) (.ref C_NoView) = some false
  kx_OtherBlocks_OtherBlocks : PySem.W.kitOne K (.ref C_OtherBlocks) (.ref C_OtherBlocks) = some true
  kx_OtherBlocks_NoNumber : PySem.W.kitOne K (.ref C_OtherBlocks) (.ref C_NoNumber) = some false
  te_NoNumber_VoteError : PySem.W.exmOne K (.ref C_NoNumber) (.ref C_VoteError) = some true
  kv_NoNumber_ValueError : PySem.W.kitOne K (.ref C_NoNumber) (.type "ValueError") = some true
  kx_NoNumber_NoBlock : PySem.W.kitOne K (.ref C_NoNumber) (.ref C_NoBlock) = some false
  kx_NoNumber_NoPlace : PySem.W.kitOne K (.ref C_NoNumber) (.ref C_NoPlace) = some false
  kx_NoNumber_Beneath : PySem.W.kitOne K (.ref C_NoNumber) (.ref C_Beneath) = some false
  kx_NoNumber_NoOrder : PySem.W.kitOne K (.ref C_NoNumber) (.ref C_NoOrder) = some false
  kx_NoNumber_NoView : PySem.W.kitOne K (.ref C_NoNumber) (.ref C_NoView) = some false
  kx_NoNumber_OtherBlocks : PySem.W.kitOne K (.ref C_NoNumber) (.ref C_OtherBlocks) = some false
  kx_NoNumber_NoNumber : PySem.W.kitOne K (.ref C_NoNumber) (.ref C_NoNumber) = some true
section
variable {P : Program} {w : World} {K : PySem.W.Frag} {mg : Str → Option Value} {base : Heap}
abbrev Txt.cl {K : PySem.W.Frag} {mg : Str → Option Value} (T : Txt K mg) : Cl := ⟨T.C_Tree, T.C_NoBlock, T.C_NoPlace, T.C_Beneath, T.C_NoOrder, T.C_NoView, T.C_OtherBlocks, T.C_NoNumber, T.C_VoteError⟩
theorem ok_is_integer (T : Txt K mg) (fa : Fa K T.cl)  : FnOk P w K mg base CX0 1 T.f_is_integer T.fd_is_integer ["thing"] (spD (vals 1) (D_is_integer T.cl)) := by
  refine T.F_is_integer.ok sc_is_integer (fun vs H Q E h => spD_len h) (fun cdv A outer s H vs Q E hr h => ?_)
  have nd := sc_is_integer.nd
  exact ⟨u_is_integer K T.cl, (pss_one (ps_ret (pe_and (pe_callB call_isiG (by rfl) T.z_isinstance (by decide +kernel) (pa_cons (pv 0) (pa_cons (pe_bltn (v := .ty "int") (by rfl) T.z_int (by decide +kernel) rfl) pa_nil))) (pe_one (pe_not (pe_callB call_isiG (by rfl) T.z_isinstance (by decide +kernel) (pa_cons (pv 0) (pa_cons (pe_bltn (v := .ty "bool") (by rfl) T.z_bool (by decide +kernel) rfl) pa_nil)))))))), fn_ok (N := N_is_integer) (t := fun E => u_is_integer K T.cl) rfl (fun E => sim_is_integer fa E) h⟩
theorem ok_is_within (T : Txt K mg) (fa : Fa K T.cl) (G_is_integer : FnOk P w K mg base CX0 1 T.f_is_integer T.fd_is_integer ["thing"] (spD (vals 1) (D_is_integer T.cl))) : FnOk P w K mg base CX0 2 T.f_is_within T.fd_is_within ["thing", "least", "most"] (spD (vals 3) (D_is_within T.cl)) := by
  refine T.F_is_within.ok sc_is_within (fun vs H Q E h => spD_len h) (fun cdv A outer s H vs Q E hr h => ?_)
  have nd := sc_is_within.nd
  exact ⟨u_is_within K T.cl, (pss_one (ps_ret (pe_and (pe_call G_is_integer (hr.mono (by decide)) (by rfl) T.g_is_integer T.F_is_integer.kp T.b_is_integer .nil pass0 (pa_cons (pv 0) pa_nil)) (pe_one (pe_chain op_le op_le (pv 1) (pv 0) (pv 2)))))), fn_ok (N := N_is_within) (t := fun E => u_is_within K T.cl) rfl (fun E => sim_is_within fa E) h⟩
theorem ok_is_pair (T : Txt K mg) (fa : Fa K T.cl)  : FnOk P w K mg base CX0 1 T.f_is_pair T.fd_is_pair ["thing"] (spD (vals 1) (D_is_pair T.cl)) := by
  refine T.F_is_pair.ok sc_is_pair (fun vs H Q E h => spD_len h) (fun cdv A outer s H vs Q E hr h => ?_)
  have nd := sc_is_pair.nd
  exact ⟨u_is_pair K T.cl, (pss_one (ps_ret (pe_and (pe_callB call_isiG (by rfl) T.z_isinstance (by decide +kernel) (pa_cons (pv 0) (pa_cons (pe_bltn (v := .ty "tuple") (by rfl) T.z_tuple (by decide +kernel) rfl) pa_nil))) (pe_one (pe_cmpR (op_eqD hr.units) (pe_callB call_lenG (by rfl) T.z_len PySem.boot_len (pa_cons (pv 0) pa_nil)) pe_int (nomark _)))))), fn_ok (N := N_is_pair) (t := fun E => u_is_pair K T.cl) rfl (fun E => sim_is_pair fa E) h⟩
theorem ok_is_view (T : Txt K mg) (fa : Fa K T.cl) (G_is_pair : FnOk P w K mg base CX0 1 T.f_is_pair T.fd_is_pair ["thing"] (spD (vals 1) (D_is_pair T.cl))) (G_is_within : FnOk P w K mg base CX0 2 T.f_is_within T.fd_is_within ["thing", "least", "most"] (spD (vals 3) (D_is_within T.cl))) : FnOk P w K mg base CX0 3 T.f_is_view T.fd_is_view ["thing"] (spD (vals 1) (D_is_view T.cl)) := by
  refine T.F_is_view.ok sc_is_view (fun vs H Q E h => spD_len h) (fun cdv A outer s H vs Q E hr h => ?_)
  have nd := sc_is_view.nd
  exact ⟨u_is_view K T.cl, (pss_one (ps_ret (pe_and (pe_call G_is_pair (hr.mono (by decide)) (by rfl) T.g_is_pair T.F_is_pair.kp T.b_is_pair .nil pass0 (pa_cons (pv 0) pa_nil)) (pe_one (pe_callB (cr_all rfl) (by rfl) T.z_all (by decide +kernel) (pa_cons (pe_lc (own := [("item", 1)]) (by rfl) nd (pi_seq (pv 0)) (blkOk_by (N := N_is_view) (sc := defScope s_is_view) (by decide +kernel)) (fun _ _ _ _ _ => (pg_name (i := 1) nd rfl (Or.inl rfl))) (fun _ _ _ _ _ => pts_nil) (fun _ _ _ _ _ => (pe_call G_is_within (hr.mono (by decide)) (by rfl) T.g_is_within T.F_is_within.kp T.b_is_within .nil pass0 (pa_cons (pv 1) (pa_cons pe_int (pa_cons (pe_glob (by rfl) T.c_MOST_STEPS ⟨_, rfl⟩) pa_nil)))))) pa_nil)))))), fn_ok (N := N_is_view) (t := fun E => u_is_view K T.cl) rfl (fun E => sim_is_view fa E) h⟩
theorem ok_check_block (T : Txt K mg) (fa : Fa K T.cl) (G_is_within : FnOk P w K mg base CX0 2 T.f_is_within T.fd_is_within ["thing", "least", "most"] (spD (vals 3) (D_is_within T.cl))) : FnOk P w K mg base (L2N.CX P w) 3 T.f_check_block T.fd_check_block ["blocks", "thing"] (spD (vals 2) (D_check_block T.cl)) := by
  refine okN T.F_check_block sc_check_block (fun vs H Q E h => spD_len h) (fun cdv A outer s H vs Q E hr h => ?_)
  have nd := sc_check_block.nd
  exact ⟨u_check_block K T.cl E, (pss_one (ps_if (pt_not (pt_val (pe_call G_is_within (hr.mono (by decide)) (by rfl) T.g_is_within T.F_is_within.kp T.b_is_within .nil pass0 (pa_cons (pv 1) (pa_cons pe_int (pa_cons (pv 0) pa_nil)))))) (pss_one (L2N.ps_raise rfl (L2N.takes_of rfl rfl rfl rfl) (pmk_own0N PySem.F.excBase_ValueError T.x0_NoBlock T.g_NoBlock T.X_NoBlock.kC (raises_own T.X_NoBlock.exC T.X_NoBlock.tyC) (by rfl)))) pss_nil)), fn_ok (N := N_check_block) (t := fun E => u_check_block K T.cl E) rfl (fun E => sim_check_block fa E) h⟩
theorem ok_check_place (T : Txt K mg) (fa : Fa K T.cl) (G_is_within : FnOk P w K mg base CX0 2 T.f_is_within T.fd_is_within ["thing", "least", "most"] (spD (vals 3) (D_is_within T.cl))) : FnOk P w K mg base (L2N.CX P w) 3 T.f_check_place T.fd_check_place ["blocks", "thing"] (spD (vals 2) (D_check_place T.cl)) := by
  refine okN T.F_check_place sc_check_place (fun vs H Q E h => spD_len h) (fun cdv A outer s H vs Q E hr h => ?_)
  have nd := sc_check_place.nd
  exact ⟨u_check_place K T.cl E, (pss_one (ps_if (pt_not (pt_val (pe_call G_is_within (hr.mono (by decide)) (by rfl) T.g_is_within T.F_is_within.kp T.b_is_within .nil pass0 (pa_cons (pv 1) (pa_cons pe_int (pa_cons (pv 0) pa_nil)))))) (pss_one (L2N.ps_raise rfl (L2N.takes_of rfl rfl rfl rfl) (pmk_own0N PySem.F.excBase_ValueError T.x0_NoPlace T.g_NoPlace T.X_NoPlace.kC (raises_own T.X_NoPlace.exC T.X_NoPlace.tyC) (by rfl)))) pss_nil)), fn_ok (N := N_check_place) (t := fun E => u_check_place K T.cl E) rfl (fun E => sim_check_place fa E) h⟩
theorem ok_check_view (T : Txt K mg) (fa : Fa K T.cl) (G_is_view : FnOk P w K mg base CX0 3 T.f_is_view T.fd_is_view ["thing"] (spD (vals 1) (D_is_view T.cl))) : FnOk P w K mg base (L2N.CX P w) 4 T.f_check_view T.fd_check_view ["view"] (spD (vals 1) (D_check_view T.cl)) := by
  refine okN T.F_check_view sc_check_view (fun vs H Q E h => spD_len h) (fun cdv A outer s H vs Q E hr h => ?_)
  have nd := sc_check_view.nd
  exact ⟨u_check_view K T.cl E, (pss_one (ps_if (pt_not (pt_val (pe_call G_is_view (hr.mono (by decide)) (by rfl) T.g_is_view T.F_is_view.kp T.b_is_view .nil pass0 (pa_cons (pv 0) pa_nil)))) (pss_one (L2N.ps_raise rfl (L2N.takes_of rfl rfl rfl rfl) (pmk_own0N PySem.F.excBase_ValueError T.x0_NoView T.g_NoView T.X_NoView.kC (raises_own T.X_NoView.exC T.X_NoView.tyC) (by rfl)))) pss_nil)), fn_ok (N := N_check_view) (t := fun E => u_check_view K T.cl E) rfl (fun E => sim_check_view fa E) h⟩
theorem ok_check_number (T : Txt K mg) (fa : Fa K T.cl) (G_is_within : FnOk P w K mg base CX0 2 T.f_is_within T.fd_is_within ["thing", "least", "most"] (spD (vals 3) (D_is_within T.cl))) : FnOk P w K mg base (L2N.CX P w) 3 T.f_check_number T.fd_check_number ["thing", "least", "most"] (spD (vals 3) (D_check_number T.cl)) := by
  refine okN T.F_check_number sc_check_number (fun vs H Q E h => spD_len h) (fun cdv A outer s H vs Q E hr h => ?_)
  have nd := sc_check_number.nd
  exact ⟨u_check_number K T.cl E, (pss_one (ps_if (pt_not (pt_val (pe_call G_is_within (hr.mono (by decide)) (by rfl) T.g_is_within T.F_is_within.kp T.b_is_within .nil pass0 (pa_cons (pv 0) (pa_cons (pv 1) (pa_cons (pv 2) pa_nil)))))) (pss_one (L2N.ps_raise rfl (L2N.takes_of rfl rfl rfl rfl) (pmk_own0N PySem.F.excBase_ValueError T.x0_NoNumber T.g_NoNumber T.X_NoNumber.kC (raises_own T.X_NoNumber.exC T.X_NoNumber.tyC) (by rfl)))) pss_nil)), fn_ok (N := N_check_number) (t := fun E => u_check_number K T.cl E) rfl (fun E => sim_check_number fa E) h⟩
theorem ok_leads_home (T : Txt K mg) (fa : Fa K T.cl)  : FnOk P w K mg base CX0 1 T.f_leads_home T.fd_leads_home ["hung", "block"] (spD (vals 2) (D_leads_home T.cl)) := by
  refine T.F_leads_home.ok sc_leads_home (fun vs H Q E h => spD_len h) (fun cdv A outer s H vs Q E hr h => ?_)
  have nd := sc_leads_home.nd
  exact ⟨u_leads_home K T.cl, (pss_cons (ps_set (i := 2) nd rfl (Or.inl rfl) (pv 1)) (pss_cons (ps_for PassesOwn.never rfl (pi_range1 (by rfl) T.z_range (pa_cons (pe_op op_addG (pe_callB call_lenG (by rfl) T.z_len PySem.boot_len (pa_cons (pv 0) pa_nil)) pe_int) pa_nil)) (pg_name (i := 3) nd rfl (Or.inl rfl)) (pss_cons (ps_if (pt_cmpR (op_eqD hr.units) (pv 2) (pe_glob (by rfl) T.c_HEAD ⟨_, rfl⟩) (nomark _)) (pss_one (ps_ret pe_bl)) pss_nil) (pss_one (ps_set (i := 2) nd rfl (Or.inl rfl) (pe_ix ix_seq (pv 0) (pe_op op_sub (pv 2) pe_int) (fun _ _ => rfl)))))) (pss_one (ps_ret pe_bl)))), fn_ok (N := N_leads_home) (t := fun E => u_leads_home K T.cl) rfl (fun E => sim_leads_home fa E) h⟩
theorem ok_Tree_init (T : Txt K mg) (fa : Fa K T.cl) (G_is_within : FnOk P w K mg base CX0 2 T.f_is_within T.fd_is_within ["thing", "least", "most"] (spD (vals 3) (D_is_within T.cl))) (G_leads_home : FnOk P w K mg base CX0 1 T.f_leads_home T.fd_leads_home ["hung", "block"] (spD (vals 2) (D_leads_home T.cl))) : FnOk P w K mg base CX0 3 T.f_Tree_init T.fd_Tree_init ["self", "hung"] (spD (true :: vals 1) (D_Tree_init T.cl)) := by
  refine T.F_Tree_init.ok sc_Tree_init (fun vs H Q E h => spD_len h) (fun cdv A outer s H vs Q E hr h => ?_)
  have nd := sc_Tree_init.nd
  exact ⟨u_Tree_init K T.cl, (pss_cons (ps_if (PW.pt (pw_or (pt_not (pt_val (pe_callB call_isiG (by rfl) T.z_isinstance (by decide +kernel) (pa_cons (pv 1) (pa_cons (pe_bltn (v := .ty "tuple") (by rfl) T.z_tuple (by decide +kernel) rfl) pa_nil))))) (pw_or1 (pt_not (pt_chain op_le op_le pe_int (pe_callB call_lenG (by rfl) T.z_len PySem.boot_len (pa_cons (pv 1) pa_nil)) (pe_glob (by rfl) T.c_MOST_BLOCKS ⟨_, rfl⟩)))))) pss_never pss_nil) (pss_cons (ps_for PassesOwn.never rfl (pi_range2 (by rfl) T.z_range (pa_cons pe_int (pa_cons (pe_op op_addG (pe_callB call_lenG (by rfl) T.z_len PySem.boot_len (pa_cons (pv 1) pa_nil)) pe_int) pa_nil))) (pg_name (i := 2) nd rfl (Or.inl rfl)) (pss_one (ps_if (PW.pt (pw_or (pt_not (pt_val (pe_call G_is_within (hr.mono (by decide)) (by rfl) T.g_is_within T.F_is_within.kp T.b_is_within .nil pass0 (pa_cons (pe_ix ix_seq (pv 1) (pe_op op_sub (pv 2) pe_int) (fun _ _ => rfl)) (pa_cons pe_int (pa_cons (pe_callB call_lenG (by rfl) T.z_len PySem.boot_len (pa_cons (pv 1) pa_nil)) pa_nil)))))) (pw_or1 (pt_cmpR (op_eqD hr.units) (pe_ix ix_seq (pv 1) (pe_op op_sub (pv 2) pe_int) (fun _ _ => rfl)) (pv 2) (nomark _))))) pss_never pss_nil))) (pss_cons (ps_for PassesOwn.never rfl (pi_range2 (by rfl) T.z_range (pa_cons pe_int (pa_cons (pe_op op_addG (pe_callB call_lenG (by rfl) T.z_len PySem.boot_len (pa_cons (pv 1) pa_nil)) pe_int) pa_nil))) (pg_name (i := 2) nd rfl (Or.inl rfl)) (pss_one (ps_if (pt_not (pt_val (pe_call G_leads_home (hr.mono (by decide)) (by rfl) T.g_leads_home T.F_leads_home.kp T.b_leads_home .nil pass0 (pa_cons (pv 1) (pa_cons (pv 2) pa_nil))))) pss_never pss_nil))) (pss_one (ps_fld (pv 0) (pv 1) rfl))))), fn_ok (N := N_Tree_init) (t := fun E => u_Tree_init K T.cl) rfl (fun E => sim_Tree_init fa E) h⟩
theorem ok_Tree_eq (T : Txt K mg) (fa : Fa K T.cl)  : FnOk P w K mg base CX0 1 T.f_Tree_eq T.fd_Tree_eq ["self", "other"] (spD (vals 2) (D_Tree_eq T.cl)) := by
  refine T.F_Tree_eq.ok sc_Tree_eq (fun vs H Q E h => spD_len h) (fun cdv A outer s H vs Q E hr h => ?_)
  have nd := sc_Tree_eq.nd
  exact ⟨u_Tree_eq K T.cl, (pss_one (ps_ret (pe_and (pe_callB call_isiG (by rfl) T.z_isinstance (by decide +kernel) (pa_cons (pv 1) (pa_cons (pe_glob (v := .ref T.C_Tree) (by rfl) T.g_Tree rfl) pa_nil))) (pe_one (pe_cmpR (op_eqD hr.units) (pe_fld (pv 0) rfl) (pe_fld (pv 1) rfl) (nomark _)))))), fn_ok (N := N_Tree_eq) (t := fun E => u_Tree_eq K T.cl) rfl (fun E => sim_Tree_eq fa E) h⟩
theorem ok_place_of (T : Txt K mg) (fa : Fa K T.cl) (G_check_block : FnOk P w K mg base (L2N.CX P w) 3 T.f_check_block T.fd_check_block ["blocks", "thing"] (spD (vals 2) (D_check_block T.cl))) : FnOk P w K mg base (L2N.CX P w) 4 T.f_place_of T.fd_place_of ["tree", "block"] (spD (vals 2) (D_place_of T.cl)) := by
  refine okN T.F_place_of sc_place_of (fun vs H Q E h => spD_len h) (fun cdv A outer s H vs Q E hr h => ?_)
  have nd := sc_place_of.nd
  exact ⟨u_place_of K T.cl E, (pss_cons (ps_expr (pe_call G_check_block (hr.mono (by decide)) (by rfl) T.g_check_block T.F_check_block.kp T.b_check_block .nil (L2N.passes_call (L2N.takes_of rfl rfl rfl rfl) (fun _ _ _ _ h => h)) (pa_cons (pe_callB call_lenG (by rfl) T.z_len PySem.boot_len (pa_cons (pe_fld (pv 0) rfl) pa_nil)) (pa_cons (pv 1) pa_nil)))) (pss_one (ps_ret (pe_ix ix_seq (pe_fld (pv 0) rfl) (pe_op op_sub (pv 1) pe_int) (fun _ _ => rfl))))), fn_ok (N := N_place_of) (t := fun E => u_place_of K T.cl E) rfl (fun E => sim_place_of fa E) h⟩
theorem ok_parents_in (T : Txt K mg) (fa : Fa K T.cl)  : FnOk P w K mg base CX0 1 T.f_parents_in T.fd_parents_in ["hung", "place"] (spD (vals 2) (D_parents_in T.cl)) := by
  refine T.F_parents_in.ok sc_parents_in (fun vs H Q E h => spD_len h) (fun cdv A outer s H vs Q E hr h => ?_)
  have nd := sc_parents_in.nd
  exact ⟨u_parents_in K T.cl, (pss_cons (ps_set (i := 2) nd rfl (Or.inl rfl) (pe_lst pa_nil)) (pss_cons (ps_set (i := 3) nd rfl (Or.inl rfl) (pv 1)) (pss_cons (ps_while PassesOwn.never (pt_cmpR (op_neD hr.units) (pv 3) (pe_glob (by rfl) T.c_HEAD ⟨_, rfl⟩) (nomark _)) (pss_cons (ps_set (i := 3) nd rfl (Or.inl rfl) (pe_ix ix_seq (pv 0) (pe_op op_sub (pv 3) pe_int) (fun _ _ => rfl))) (pss_one (ps_expr (pe_bm PySem.F.plainAttrs_list PySem.F.slot_list_append PySem.F.type_list_append mt_append (pv 2) (pa_cons (pv 3) pa_nil)))))) (pss_one (ps_ret (pv 2)))))), fn_ok (N := N_parents_in) (t := fun E => u_parents_in K T.cl) rfl (fun E => sim_parents_in fa E) h⟩
theorem ok_parentsT (T : Txt K mg) (fa : Fa K T.cl) (G_check_block : FnOk P w K mg base (L2N.CX P w) 3 T.f_check_block T.fd_check_block ["blocks", "thing"] (spD (vals 2) (D_check_block T.cl))) (G_parents_in : FnOk P w K mg base CX0 1 T.f_parents_in T.fd_parents_in ["hung", "place"] (spD (vals 2) (D_parents_in T.cl))) : FnOk P w K mg base (L2N.CX P w) 4 T.f_parentsT T.fd_parentsT ["tree", "block"] (spD (vals 2) (D_parentsT T.cl)) := by
  refine okN T.F_parentsT sc_parentsT (fun vs H Q E h => spD_len h) (fun cdv A outer s H vs Q E hr h => ?_)
  have nd := sc_parentsT.nd
  exact ⟨u_parentsT K T.cl E, (pss_cons (ps_expr (pe_call G_check_block (hr.mono (by decide)) (by rfl) T.g_check_block T.F_check_block.kp T.b_check_block .nil (L2N.passes_call (L2N.takes_of rfl rfl rfl rfl) (fun _ _ _ _ h => h)) (pa_cons (pe_callB call_lenG (by rfl) T.z_len PySem.boot_len (pa_cons (pe_fld (pv 0) rfl) pa_nil)) (pa_cons (pv 1) pa_nil)))) (pss_one (ps_ret (pe_callTy call_tuple_of (by rfl) T.z_tuple (by decide +kernel) (pa_cons (pe_call G_parents_in (hr.mono (by decide)) (by rfl) T.g_parents_in T.F_parents_in.kp T.b_parents_in .nil pass0 (pa_cons (pe_fld (pv 0) rfl) (pa_cons (pv 1) pa_nil))) pa_nil))))), fn_ok (N := N_parentsT) (t := fun E => u_parentsT K T.cl E) rfl (fun E => sim_parentsT fa E) h⟩
theorem ok_hanging (T : Txt K mg) (fa : Fa K T.cl)  : FnOk P w K mg base CX0 1 T.f_hanging T.fd_hanging ["hung", "place"] (spD (vals 2) (D_hanging T.cl)) := by
  refine T.F_hanging.ok sc_hanging (fun vs H Q E h => spD_len h) (fun cdv A outer s H vs Q E hr h => ?_)
  have nd := sc_hanging.nd
  exact ⟨u_hanging K T.cl, (pss_one (ps_ret (pe_lc (own := [("block", 2)]) (by rfl) nd (pi_range2 (by rfl) T.z_range (pa_cons pe_int (pa_cons (pe_op op_addG (pe_callB call_lenG (by rfl) T.z_len PySem.boot_len (pa_cons (pv 0) pa_nil)) pe_int) pa_nil))) (blkOk_by (N := N_hanging) (sc := defScope s_hanging) (by decide +kernel)) (fun _ _ _ _ _ => (pg_name (i := 2) nd rfl (Or.inl rfl))) (fun _ _ _ _ _ => (pts_one (pt_cmpR (op_eqD hr.units) (pe_ix ix_seq (pv 0) (pe_op op_sub (pv 2) pe_int) (fun _ _ => rfl)) (pv 1) (nomark _)))) (fun _ _ _ _ _ => (pv 2))))), fn_ok (N := N_hanging) (t := fun E => u_hanging K T.cl) rfl (fun E => sim_hanging fa E) h⟩
theorem ok_under (T : Txt K mg) (fa : Fa K T.cl) (G_check_place : FnOk P w K mg base (L2N.CX P w) 3 T.f_check_place T.fd_check_place ["blocks", "thing"] (spD (vals 2) (D_check_place T.cl))) (G_hanging : FnOk P w K mg base CX0 1 T.f_hanging T.fd_hanging ["hung", "place"] (spD (vals 2) (D_hanging T.cl))) : FnOk P w K mg base (L2N.CX P w) 4 T.f_under T.fd_under ["tree", "place"] (spD (vals 2) (D_under T.cl)) := by
  refine okN T.F_under sc_under (fun vs H Q E h => spD_len h) (fun cdv A outer s H vs Q E hr h => ?_)
  have nd := sc_under.nd
  exact ⟨u_under K T.cl E, (pss_cons (ps_expr (pe_call G_check_place (hr.mono (by decide)) (by rfl) T.g_check_place T.F_check_place.kp T.b_check_place .nil (L2N.passes_call (L2N.takes_of rfl rfl rfl rfl) (fun _ _ _ _ h => h)) (pa_cons (pe_callB call_lenG (by rfl) T.z_len PySem.boot_len (pa_cons (pe_fld (pv 0) rfl) pa_nil)) (pa_cons (pv 1) pa_nil)))) (pss_one (ps_ret (pe_callTy call_tuple_of (by rfl) T.z_tuple (by decide +kernel) (pa_cons (pe_call G_hanging (hr.mono (by decide)) (by rfl) T.g_hanging T.F_hanging.kp T.b_hanging .nil pass0 (pa_cons (pe_fld (pv 0) rfl) (pa_cons (pv 1) pa_nil))) pa_nil))))), fn_ok (N := N_under) (t := fun E => u_under K T.cl E) rfl (fun E => sim_under fa E) h⟩
theorem ok_beneath_in (T : Txt K mg) (fa : Fa K T.cl) (G_hanging : FnOk P w K mg base CX0 1 T.f_hanging T.fd_hanging ["hung", "place"] (spD (vals 2) (D_hanging T.cl))) : FnOk P w K mg base CX0 2 T.f_beneath_in T.fd_beneath_in ["hung", "place"] (spD (vals 2) (D_beneath_in T.cl)) := by
  refine T.F_beneath_in.ok sc_beneath_in (fun vs H Q E h => spD_len h) (fun cdv A outer s H vs Q E hr h => ?_)
  have nd := sc_beneath_in.nd
  exact ⟨u_beneath_in K T.cl, (pss_cons (ps_set (i := 2) nd rfl (Or.inl rfl) (pe_lst pa_nil)) (pss_cons (ps_set (i := 3) nd rfl (Or.inl rfl) (pe_lst (pa_cons (pv 1) pa_nil))) (pss_cons (ps_while PassesOwn.never (pt_cmpR op_gt (pe_callB call_lenG (by rfl) T.z_len PySem.boot_len (pa_cons (pv 3) pa_nil)) pe_int (nomark _)) (pss_cons (ps_set (i := 4) nd rfl (Or.inl rfl) (pe_call G_hanging (hr.mono (by decide)) (by rfl) T.g_hanging T.F_hanging.kp T.b_hanging .nil pass0 (pa_cons (pv 0) (pa_cons (pe_bm0 PySem.F.plainAttrs_list PySem.F.slot_list_pop PySem.F.type_list_pop mt_pop (pv 3)) pa_nil)))) (pss_cons (ps_expr (pe_bm PySem.F.plainAttrs_list PySem.F.slot_list_extend PySem.F.type_list_extend mt_extend (pv 2) (pa_cons (pv 4) pa_nil))) (pss_one (ps_expr (pe_bm PySem.F.plainAttrs_list PySem.F.slot_list_extend PySem.F.type_list_extend mt_extend (pv 3) (pa_cons (pv 4) pa_nil))))))) (pss_one (ps_ret (pe_callTy call_tuple_of (by rfl) T.z_tuple (by decide +kernel) (pa_cons (pe_callB call_sortG (by rfl) T.z_sorted (by decide +kernel) (pa_cons (pv 2) pa_nil)) pa_nil))))))), fn_ok (N := N_beneath_in) (t := fun E => u_beneath_in K T.cl) rfl (fun E => sim_beneath_in fa E) h⟩
theorem ok_beneathT (T : Txt K mg) (fa : Fa K T.cl) (G_beneath_in : FnOk P w K mg base CX0 2 T.f_beneath_in T.fd_beneath_in ["hung", "place"] (spD (vals 2) (D_beneath_in T.cl))) (G_check_place : FnOk P w K mg base (L2N.CX P w) 3 T.f_check_place T.fd_check_place ["blocks", "thing"] (spD (vals 2) (D_check_place T.cl))) : FnOk P w K mg base (L2N.CX P w) 4 T.f_beneathT T.fd_beneathT ["tree", "place"] (spD (vals 2) (D_beneathT T.cl)) := by
  refine okN T.F_beneathT sc_beneathT (fun vs H Q E h => spD_len h) (fun cdv A outer s H vs Q E hr h => ?_)
  have nd := sc_beneathT.nd
  exact ⟨u_beneathT K T.cl E, (pss_cons (ps_expr (pe_call G_check_place (hr.mono (by decide)) (by rfl) T.g_check_place T.F_check_place.kp T.b_check_place .nil (L2N.passes_call (L2N.takes_of rfl rfl rfl rfl) (fun _ _ _ _ h => h)) (pa_cons (pe_callB call_lenG (by rfl) T.z_len PySem.boot_len (pa_cons (pe_fld (pv 0) rfl) pa_nil)) (pa_cons (pv 1) pa_nil)))) (pss_one (ps_ret (pe_call G_beneath_in (hr.mono (by decide)) (by rfl) T.g_beneath_in T.F_beneath_in.kp T.b_beneath_in .nil pass0 (pa_cons (pe_fld (pv 0) rfl) (pa_cons (pv 1) pa_nil)))))), fn_ok (N := N_beneathT) (t := fun E => u_beneathT K T.cl E) rfl (fun E => sim_beneathT fa E) h⟩
theorem ok_with_place (T : Txt K mg) (fa : Fa K T.cl)  : FnOk P w K mg base CX0 1 T.f_with_place T.fd_with_place ["hung", "block", "place"] (spD (vals 3) (D_with_place T.cl)) := by
  refine T.F_with_place.ok sc_with_place (fun vs H Q E h => spD_len h) (fun cdv A outer s H vs Q E hr h => ?_)
  have nd := sc_with_place.nd
  exact ⟨u_with_place K T.cl, (pss_one (ps_ret (pe_op op_addG (pe_op op_addG (pe_slice sl_G (pv 0) po_none (po_some (pe_op op_sub (pv 1) pe_int))) (pe_tup (pa_cons (pv 2) pa_nil))) (pe_slice sl_G (pv 0) (po_some (pv 1)) po_none)))), fn_ok (N := N_with_place) (t := fun E => u_with_place K T.cl) rfl (fun E => sim_with_place fa E) h⟩
theorem ok_moved (T : Txt K mg) (fa : Fa K T.cl) (G_Tree_init : FnOk P w K mg base CX0 3 T.f_Tree_init T.fd_Tree_init ["self", "hung"] (spD (true :: vals 1) (D_Tree_init T.cl))) (G_beneath_in : FnOk P w K mg base CX0 2 T.f_beneath_in T.fd_beneath_in ["hung", "place"] (spD (vals 2) (D_beneath_in T.cl))) (G_check_block : FnOk P w K mg base (L2N.CX P w) 3 T.f_check_block T.fd_check_block ["blocks", "thing"] (spD (vals 2) (D_check_block T.cl))) (G_check_place : FnOk P w K mg base (L2N.CX P w) 3 T.f_check_place T.fd_check_place ["blocks", "thing"] (spD (vals 2) (D_check_place T.cl))) (G_with_place : FnOk P w K mg base CX0 1 T.f_with_place T.fd_with_place ["hung", "block", "place"] (spD (vals 3) (D_with_place T.cl))) : FnOk P w K mg base (L2N.CX P w) 5 T.f_moved T.fd_moved ["tree", "block", "place"] (spD (vals 3) (D_moved T.cl)) := by
  refine okN T.F_moved sc_moved (fun vs H Q E h => spD_len h) (fun cdv A outer s H vs Q E hr h => ?_)
  have nd := sc_moved.nd
  exact ⟨u_moved K T.cl E, (pss_cons (ps_expr (pe_call G_check_block (hr.mono (by decide)) (by rfl) T.g_check_block T.F_check_block.kp T.b_check_block .nil (L2N.passes_call (L2N.takes_of rfl rfl rfl rfl) (fun _ _ _ _ h => h)) (pa_cons (pe_callB call_lenG (by rfl) T.z_len PySem.boot_len (pa_cons (pe_fld (pv 0) rfl) pa_nil)) (pa_cons (pv 1) pa_nil)))) (pss_cons (ps_expr (pe_call G_check_place (hr.mono (by decide)) (by rfl) T.g_check_place T.F_check_place.kp T.b_check_place .nil (L2N.passes_call (L2N.takes_of rfl rfl rfl rfl) (fun _ _ _ _ h => h)) (pa_cons (pe_callB call_lenG (by rfl) T.z_len PySem.boot_len (pa_cons (pe_fld (pv 0) rfl) pa_nil)) (pa_cons (pv 2) pa_nil)))) (pss_cons (ps_if (PW.pt (pw_or (pt_cmpR (op_eqD hr.units) (pv 2) (pv 1) (nomark _)) (pw_or1 (pt_cmpR op_in_seq (pv 2) (pe_call G_beneath_in (hr.mono (by decide)) (by rfl) T.g_beneath_in T.F_beneath_in.kp T.b_beneath_in .nil pass0 (pa_cons (pe_fld (pv 0) rfl) (pa_cons (pv 1) pa_nil))) (by rfl))))) (pss_one (L2N.ps_raise rfl (L2N.takes_of rfl rfl rfl rfl) (pmk_own0N PySem.F.excBase_ValueError T.x0_Beneath T.g_Beneath T.X_Beneath.kC (raises_own T.X_Beneath.exC T.X_Beneath.tyC) (by rfl)))) pss_nil) (pss_one (ps_ret (pe_make T.M_Tree G_Tree_init (hr.mono (by decide)) (by rfl) T.g_Tree T.b_Tree_init .nil pass0 (pa_cons (pe_call G_with_place (hr.mono (by decide)) (by rfl) T.g_with_place T.F_with_place.kp T.b_with_place .nil pass0 (pa_cons (pe_fld (pv 0) rfl) (pa_cons (pv 1) (pa_cons (pv 2) pa_nil)))) pa_nil))))))), fn_ok (N := N_moved) (t := fun E => u_moved K T.cl E) rfl (fun E => sim_moved fa E) h⟩
theorem ok_called (T : Txt K mg) (fa : Fa K T.cl) (G_Tree_init : FnOk P w K mg base CX0 3 T.f_Tree_init T.fd_Tree_init ["self", "hung"] (spD (true :: vals 1) (D_Tree_init T.cl))) (G_is_within : FnOk P w K mg base CX0 2 T.f_is_within T.fd_is_within ["thing", "least", "most"] (spD (vals 3) (D_is_within T.cl))) : FnOk P w K mg base (L2N.CX P w) 5 T.f_called T.fd_called ["tree", "order"] (spD (vals 2) (D_called T.cl)) := by
  refine okN T.F_called sc_called (fun vs H Q E h => spD_len h) (fun cdv A outer s H vs Q E hr h => ?_)
  have nd := sc_called.nd
  exact ⟨u_called K T.cl E, (pss_cons (ps_set (i := 2) nd rfl (Or.inr rfl) (pe_callB call_lenG (by rfl) T.z_len PySem.boot_len (pa_cons (pe_fld (pv 0) rfl) pa_nil))) (pss_cons (ps_if (PW.pt (pw_or (pt_not (pt_val (pe_callB call_isiG (by rfl) T.z_isinstance (by decide +kernel) (pa_cons (pv 1) (pa_cons (pe_bltn (v := .ty "tuple") (by rfl) T.z_tuple (by decide +kernel) rfl) pa_nil))))) (pw_or1 (pt_not (pt_val (pe_callB (cr_all rfl) (by rfl) T.z_all (by decide +kernel) (pa_cons (pe_lc (own := [("item", 6)]) (by rfl) nd (pi_seq (pv 1)) (blkOk_by (N := N_called) (sc := defScope s_called) (by decide +kernel)) (fun _ _ _ _ _ => (pg_name (i := 6) nd rfl (Or.inl rfl))) (fun _ _ _ _ _ => pts_nil) (fun _ _ _ _ _ => (pe_call G_is_within (hr.mono (by decide)) (by rfl) T.g_is_within T.F_is_within.kp T.b_is_within .nil pass0 (pa_cons (pv 6) (pa_cons pe_int (pa_cons (pv 2) pa_nil)))))) pa_nil))))))) (pss_one (L2N.ps_raise rfl (L2N.takes_of rfl rfl rfl rfl) (pmk_own0N PySem.F.excBase_ValueError T.x0_NoOrder T.g_NoOrder T.X_NoOrder.kC (raises_own T.X_NoOrder.exC T.X_NoOrder.tyC) (by rfl)))) pss_nil) (pss_cons (ps_if (pt_cmpR (op_neD hr.units) (pe_callB call_sortG (by rfl) T.z_sorted (by decide +kernel) (pa_cons (pv 1) pa_nil)) (pe_listRg rfl (by rfl) T.z_list (prg_2 (by rfl) T.z_range pe_int (pe_op op_addG (pv 2) pe_int))) (nomark _)) (pss_one (L2N.ps_raise rfl (L2N.takes_of rfl rfl rfl rfl) (pmk_own0N PySem.F.excBase_ValueError T.x0_NoOrder T.g_NoOrder T.X_NoOrder.kC (raises_own T.X_NoOrder.exC T.X_NoOrder.tyC) (by rfl)))) pss_nil) (pss_cons (ps_set (i := 3) nd rfl (Or.inl rfl) (pe_op op_addG (pe_tup (pa_cons (pe_glob (by rfl) T.c_HEAD ⟨_, rfl⟩) pa_nil)) (pv 1))) (pss_cons (ps_set (i := 4) nd rfl (Or.inl rfl) (pe_op op_mulG (pe_lst (pa_cons (pe_glob (by rfl) T.c_HEAD ⟨_, rfl⟩) pa_nil)) (pv 2))) (pss_cons (ps_for (passes_of rfl) rfl (pi_range2 (by rfl) T.z_range (pa_cons pe_int (pa_cons (pe_op op_addG (pv 2) pe_int) pa_nil))) (pg_name (i := 5) nd rfl (Or.inl rfl)) (pss_one (ps_asg (pe_ix ix_seq (pv 3) (pe_ix ix_seq (pe_fld (pv 0) rfl) (pe_op op_sub (pv 5) pe_int) (fun _ _ => rfl)) (fun _ _ => rfl)) (pg_sub (pv 4) (pe_op op_sub (pe_ix ix_seq (pv 3) (pv 5) (fun _ _ => rfl)) pe_int) set_list)))) (pss_one (ps_ret (pe_make T.M_Tree G_Tree_init (hr.mono (by decide)) (by rfl) T.g_Tree T.b_Tree_init .nil pass0 (pa_cons (pe_callTy call_tuple_of (by rfl) T.z_tuple (by decide +kernel) (pa_cons (pv 4) pa_nil)) pa_nil)))))))))), fn_ok (N := N_called) (t := fun E => u_called K T.cl E) rfl (fun E => sim_called fa E) h⟩
theorem ok_ties_down (T : Txt K mg) (fa : Fa K T.cl) (G_hanging : FnOk P w K mg base CX0 1 T.f_hanging T.fd_hanging ["hung", "place"] (spD (vals 2) (D_hanging T.cl))) : FnOk P w K mg base CX0 2 T.f_ties_down T.fd_ties_down ["hung", "place", "steps"] (spD (vals 3) (D_ties_down T.cl)) := by
  refine T.F_ties_down.ok sc_ties_down (fun vs H Q E h => spD_len h) (fun cdv A outer s H vs Q E hr h => ?_)
  have nd := sc_ties_down.nd
  exact ⟨u_ties_down K T.cl, (pss_cons (ps_set (i := 3) nd rfl (Or.inl rfl) (pe_lst pa_nil)) (pss_cons (ps_set (i := 4) nd rfl (Or.inl rfl) (pe_lst (pa_cons (pv 1) pa_nil))) (pss_cons (ps_for PassesOwn.never rfl (pi_range1 (by rfl) T.z_range (pa_cons (pv 2) pa_nil)) (pg_name (i := 5) nd rfl (Or.inl rfl)) (pss_cons (ps_set (i := 6) nd rfl (Or.inl rfl) (pe_lst pa_nil)) (pss_cons (ps_for PassesOwn.never rfl (pi_seq (pv 4)) (pg_name (i := 7) nd rfl (Or.inr rfl)) (pss_one (ps_expr (pe_bm PySem.F.plainAttrs_list PySem.F.slot_list_extend PySem.F.type_list_extend mt_extend (pv 6) (pa_cons (pe_lc (own := [("block", 8)]) (by rfl) nd (pi_seq (pe_call G_hanging (hr.mono (by decide)) (by rfl) T.g_hanging T.F_hanging.kp T.b_hanging .nil pass0 (pa_cons (pv 0) (pa_cons (pv 7) pa_nil)))) (blkOk_by (N := N_ties_down) (sc := defScope s_ties_down) (by decide +kernel)) (fun _ _ _ _ _ => (pg_name (i := 8) nd rfl (Or.inl rfl))) (fun _ _ _ _ _ => pts_nil) (fun _ _ _ _ _ => (pe_tup (pa_cons (pv 8) (pa_cons (pv 7) pa_nil))))) pa_nil))))) (pss_cons (ps_expr (pe_bm PySem.F.plainAttrs_list PySem.F.slot_list_extend PySem.F.type_list_extend mt_extend (pv 3) (pa_cons (pv 6) pa_nil))) (pss_one (ps_setLc (i := 4) (own := [("block", 8), ("here", 7)]) (by rfl) nd rfl rfl (sw_true rfl rfl rfl (by decide +kernel)) (pi_seq (pv 6)) (blkOk_by (N := N_ties_down) (sc := defScope s_ties_down) (by decide +kernel)) (fun _ _ _ _ _ => (pg_tup rfl (pgs_cons (pg_name (i := 8) nd rfl (Or.inl rfl)) (pgs_cons (pg_name (i := 7) nd rfl (Or.inl rfl)) pgs_nil)))) (fun _ _ _ _ _ => pts_nil) (fun _ _ _ _ _ => (pv 8)))))))) (pss_one (ps_ret (pe_callTy call_tuple_of (by rfl) T.z_tuple (by decide +kernel) (pa_cons (pe_callB call_sortG (by rfl) T.z_sorted (by decide +kernel) (pa_cons (pv 3) pa_nil)) pa_nil))))))), fn_ok (N := N_ties_down) (t := fun E => u_ties_down K T.cl) rfl (fun E => sim_ties_down fa E) h⟩
theorem ok_raw_telling (T : Txt K mg) (fa : Fa K T.cl) (G_parents_in : FnOk P w K mg base CX0 1 T.f_parents_in T.fd_parents_in ["hung", "place"] (spD (vals 2) (D_parents_in T.cl))) (G_ties_down : FnOk P w K mg base CX0 2 T.f_ties_down T.fd_ties_down ["hung", "place", "steps"] (spD (vals 3) (D_ties_down T.cl))) : FnOk P w K mg base CX0 3 T.f_raw_telling T.fd_raw_telling ["hung", "view", "place"] (spD (vals 3) (D_raw_telling T.cl)) := by
  refine T.F_raw_telling.ok sc_raw_telling (fun vs H Q E h => spD_len h) (fun cdv A outer s H vs Q E hr h => ?_)
  have nd := sc_raw_telling.nd
  exact ⟨u_raw_telling K T.cl, (pss_one (ps_ret (pe_tup (pa_cons (pe_callTy call_tuple_of (by rfl) T.z_tuple (by decide +kernel) (pa_cons (pe_slice sl_G (pe_call G_parents_in (hr.mono (by decide)) (by rfl) T.g_parents_in T.F_parents_in.kp T.b_parents_in .nil pass0 (pa_cons (pv 0) (pa_cons (pv 2) pa_nil))) po_none (po_some (pe_ix ix_seq (pv 1) pe_int (fun _ _ => rfl)))) pa_nil)) (pa_cons (pe_call G_ties_down (hr.mono (by decide)) (by rfl) T.g_ties_down T.F_ties_down.kp T.b_ties_down .nil pass0 (pa_cons (pv 0) (pa_cons (pv 2) (pa_cons (pe_ix ix_seq (pv 1) pe_int (fun _ _ => rfl)) pa_nil)))) pa_nil))))), fn_ok (N := N_raw_telling) (t := fun E => u_raw_telling K T.cl) rfl (fun E => sim_raw_telling fa E) h⟩
theorem ok_telling (T : Txt K mg) (fa : Fa K T.cl) (G_check_place : FnOk P w K mg base (L2N.CX P w) 3 T.f_check_place T.fd_check_place ["blocks", "thing"] (spD (vals 2) (D_check_place T.cl))) (G_check_view : FnOk P w K mg base (L2N.CX P w) 4 T.f_check_view T.fd_check_view ["view"] (spD (vals 1) (D_check_view T.cl))) (G_raw_telling : FnOk P w K mg base CX0 3 T.f_raw_telling T.fd_raw_telling ["hung", "view", "place"] (spD (vals 3) (D_raw_telling T.cl))) : FnOk P w K mg base (L2N.CX P w) 5 T.f_telling T.fd_telling ["tree", "view", "place"] (spD (vals 3) (D_telling T.cl)) := by
  refine okN T.F_telling sc_telling (fun vs H Q E h => spD_len h) (fun cdv A outer s H vs Q E hr h => ?_)
  have nd := sc_telling.nd
  exact ⟨u_telling K T.cl E, (pss_cons (ps_expr (pe_call G_check_view (hr.mono (by decide)) (by rfl) T.g_check_view T.F_check_view.kp T.b_check_view .nil (L2N.passes_call (L2N.takes_of rfl rfl rfl rfl) (fun _ _ _ _ h => h)) (pa_cons (pv 1) pa_nil))) (pss_cons (ps_expr (pe_call G_check_place (hr.mono (by decide)) (by rfl) T.g_check_place T.F_check_place.kp T.b_check_place .nil (L2N.passes_call (L2N.takes_of rfl rfl rfl rfl) (fun _ _ _ _ h => h)) (pa_cons (pe_callB call_lenG (by rfl) T.z_len PySem.boot_len (pa_cons (pe_fld (pv 0) rfl) pa_nil)) (pa_cons (pv 2) pa_nil)))) (pss_one (ps_ret (pe_call G_raw_telling (hr.mono (by decide)) (by rfl) T.g_raw_telling T.F_raw_telling.kp T.b_raw_telling .nil pass0 (pa_cons (pe_fld (pv 0) rfl) (pa_cons (pv 1) (pa_cons (pv 2) pa_nil)))))))), fn_ok (N := N_telling) (t := fun E => u_telling K T.cl E) rfl (fun E => sim_telling fa E) h⟩
theorem ok_raw_tellings (T : Txt K mg) (fa : Fa K T.cl) (G_raw_telling : FnOk P w K mg base CX0 3 T.f_raw_telling T.fd_raw_telling ["hung", "view", "place"] (spD (vals 3) (D_raw_telling T.cl))) : FnOk P w K mg base CX0 4 T.f_raw_tellings T.fd_raw_tellings ["hung", "view"] (spD (vals 2) (D_raw_tellings T.cl)) := by
  refine T.F_raw_tellings.ok sc_raw_tellings (fun vs H Q E h => spD_len h) (fun cdv A outer s H vs Q E hr h => ?_)
  have nd := sc_raw_tellings.nd
  exact ⟨u_raw_tellings K T.cl, (pss_one (ps_ret (pe_lc (own := [("place", 2)]) (by rfl) nd (pi_range1 (by rfl) T.z_range (pa_cons (pe_op op_addG (pe_callB call_lenG (by rfl) T.z_len PySem.boot_len (pa_cons (pv 0) pa_nil)) pe_int) pa_nil)) (blkOk_by (N := N_raw_tellings) (sc := defScope s_raw_tellings) (by decide +kernel)) (fun _ _ _ _ _ => (pg_name (i := 2) nd rfl (Or.inl rfl))) (fun _ _ _ _ _ => pts_nil) (fun _ _ _ _ _ => (pe_call G_raw_telling (hr.mono (by decide)) (by rfl) T.g_raw_telling T.F_raw_telling.kp T.b_raw_telling .nil pass0 (pa_cons (pv 0) (pa_cons (pv 1) (pa_cons (pv 2) pa_nil)))))))), fn_ok (N := N_raw_tellings) (t := fun E => u_raw_tellings K T.cl) rfl (fun E => sim_raw_tellings fa E) h⟩
theorem ok_unlike (T : Txt K mg) (fa : Fa K T.cl) (G_check_view : FnOk P w K mg base (L2N.CX P w) 4 T.f_check_view T.fd_check_view ["view"] (spD (vals 1) (D_check_view T.cl))) (G_raw_tellings : FnOk P w K mg base CX0 4 T.f_raw_tellings T.fd_raw_tellings ["hung", "view"] (spD (vals 2) (D_raw_tellings T.cl))) : FnOk P w K mg base (L2N.CX P w) 5 T.f_unlike T.fd_unlike ["tree", "other", "view"] (spD (vals 3) (D_unlike T.cl)) := by
  refine okN T.F_unlike sc_unlike (fun vs H Q E h => spD_len h) (fun cdv A outer s H vs Q E hr h => ?_)
  have nd := sc_unlike.nd
  exact ⟨u_unlike K T.cl E, (pss_cons (ps_if (pt_cmpR (op_neD hr.units) (pe_callB call_lenG (by rfl) T.z_len PySem.boot_len (pa_cons (pe_fld (pv 0) rfl) pa_nil)) (pe_callB call_lenG (by rfl) T.z_len PySem.boot_len (pa_cons (pe_fld (pv 1) rfl) pa_nil)) (nomark _)) (pss_one (L2N.ps_raise rfl (L2N.takes_of rfl rfl rfl rfl) (pmk_own0N PySem.F.excBase_ValueError T.x0_OtherBlocks T.g_OtherBlocks T.X_OtherBlocks.kC (raises_own T.X_OtherBlocks.exC T.X_OtherBlocks.tyC) (by rfl)))) pss_nil) (pss_cons (ps_expr (pe_call G_check_view (hr.mono (by decide)) (by rfl) T.g_check_view T.F_check_view.kp T.b_check_view .nil (L2N.passes_call (L2N.takes_of rfl rfl rfl rfl) (fun _ _ _ _ h => h)) (pa_cons (pv 2) pa_nil))) (pss_cons (ps_set (i := 3) nd rfl (Or.inr rfl) (pe_call G_raw_tellings (hr.mono (by decide)) (by rfl) T.g_raw_tellings T.F_raw_tellings.kp T.b_raw_tellings .nil pass0 (pa_cons (pe_fld (pv 0) rfl) (pa_cons (pv 2) pa_nil)))) (pss_cons (ps_set (i := 4) nd rfl (Or.inr rfl) (pe_call G_raw_tellings (hr.mono (by decide)) (by rfl) T.g_raw_tellings T.F_raw_tellings.kp T.b_raw_tellings .nil pass0 (pa_cons (pe_fld (pv 1) rfl) (pa_cons (pv 2) pa_nil)))) (pss_one (ps_ret (pe_callTy call_tuple_of (by rfl) T.z_tuple (by decide +kernel) (pa_cons (pe_lc (own := [("place", 5)]) (by rfl) nd (pi_range1 (by rfl) T.z_range (pa_cons (pe_callB call_lenG (by rfl) T.z_len PySem.boot_len (pa_cons (pv 3) pa_nil)) pa_nil)) (blkOk_by (N := N_unlike) (sc := defScope s_unlike) (by decide +kernel)) (fun _ _ _ _ _ => (pg_name (i := 5) nd rfl (Or.inl rfl))) (fun _ _ _ _ _ => (pts_one (pt_cmpR (op_neD hr.units) (pe_ix ix_seq (pv 3) (pv 5) (fun _ _ => rfl)) (pe_ix ix_seq (pv 4) (pv 5) (fun _ _ => rfl)) (nomark _)))) (fun _ _ _ _ _ => (pv 5))) pa_nil)))))))), fn_ok (N := N_unlike) (t := fun E => u_unlike K T.cl E) rfl (fun E => sim_unlike fa E) h⟩
theorem ok_raw_distance (T : Txt K mg) (fa : Fa K T.cl)  : FnOk P w K mg base CX0 1 T.f_raw_distance T.fd_raw_distance ["view"] (spD (vals 1) (D_raw_distance T.cl)) := by
  refine T.F_raw_distance.ok sc_raw_distance (fun vs H Q E h => spD_len h) (fun cdv A outer s H vs Q E hr h => ?_)
  have nd := sc_raw_distance.nd
  exact ⟨u_raw_distance K T.cl, (pss_cons (ps_asg (pv 0) (pg_tup rfl (pgs_cons (pg_name (i := 1) nd rfl (Or.inl rfl)) (pgs_cons (pg_name (i := 2) nd rfl (Or.inl rfl)) pgs_nil)))) (pss_cons (ps_set (i := 3) nd rfl (Or.inl rfl) (pe_ifExp (pt_cmpR op_gt (pv 1) pe_int (nomark _)) pe_int pe_int)) (pss_one (ps_ret (pe_ifExp (pt_cmpR op_gt (pv 2) pe_int (nomark _)) (pe_op op_addG (pe_op op_addG (pv 2) pe_int) (pv 3)) (pv 3)))))), fn_ok (N := N_raw_distance) (t := fun E => u_raw_distance K T.cl) rfl (fun E => sim_raw_distance fa E) h⟩
theorem ok_distance (T : Txt K mg) (fa : Fa K T.cl) (G_check_view : FnOk P w K mg base (L2N.CX P w) 4 T.f_check_view T.fd_check_view ["view"] (spD (vals 1) (D_check_view T.cl))) (G_raw_distance : FnOk P w K mg base CX0 1 T.f_raw_distance T.fd_raw_distance ["view"] (spD (vals 1) (D_raw_distance T.cl))) : FnOk P w K mg base (L2N.CX P w) 5 T.f_distance T.fd_distance ["view"] (spD (vals 1) (D_distance T.cl)) := by
  refine okN T.F_distance sc_distance (fun vs H Q E h => spD_len h) (fun cdv A outer s H vs Q E hr h => ?_)
  have nd := sc_distance.nd
  exact ⟨u_distance K T.cl E, (pss_cons (ps_expr (pe_call G_check_view (hr.mono (by decide)) (by rfl) T.g_check_view T.F_check_view.kp T.b_check_view .nil (L2N.passes_call (L2N.takes_of rfl rfl rfl rfl) (fun _ _ _ _ h => h)) (pa_cons (pv 0) pa_nil))) (pss_one (ps_ret (pe_call G_raw_distance (hr.mono (by decide)) (by rfl) T.g_raw_distance T.F_raw_distance.kp T.b_raw_distance .nil pass0 (pa_cons (pv 0) pa_nil))))), fn_ok (N := N_distance) (t := fun E => u_distance K T.cl E) rfl (fun E => sim_distance fa E) h⟩
theorem ok_twins (T : Txt K mg) (fa : Fa K T.cl) (G_Tree_init : FnOk P w K mg base CX0 3 T.f_Tree_init T.fd_Tree_init ["self", "hung"] (spD (true :: vals 1) (D_Tree_init T.cl))) (G_check_number : FnOk P w K mg base (L2N.CX P w) 3 T.f_check_number T.fd_check_number ["thing", "least", "most"] (spD (vals 3) (D_check_number T.cl))) (G_check_view : FnOk P w K mg base (L2N.CX P w) 4 T.f_check_view T.fd_check_view ["view"] (spD (vals 1) (D_check_view T.cl))) : FnOk P w K mg base (L2N.CX P w) 5 T.f_twins T.fd_twins ["view", "blocks"] (spD (vals 2) (D_twins T.cl)) := by
  refine okN T.F_twins sc_twins (fun vs H Q E h => spD_len h) (fun cdv A outer s H vs Q E hr h => ?_)
  have nd := sc_twins.nd
  exact ⟨u_twins K T.cl E, (pss_cons (ps_expr (pe_call G_check_view (hr.mono (by decide)) (by rfl) T.g_check_view T.F_check_view.kp T.b_check_view .nil (L2N.passes_call (L2N.takes_of rfl rfl rfl rfl) (fun _ _ _ _ h => h)) (pa_cons (pv 0) pa_nil))) (pss_cons (ps_expr (pe_call G_check_number (hr.mono (by decide)) (by rfl) T.g_check_number T.F_check_number.kp T.b_check_number .nil (L2N.passes_call (L2N.takes_of rfl rfl rfl rfl) (fun _ _ _ _ h => h)) (pa_cons (pv 1) (pa_cons pe_int (pa_cons (pe_glob (by rfl) T.c_MOST_BLOCKS ⟨_, rfl⟩) pa_nil))))) (pss_cons (ps_set (i := 2) nd rfl (Or.inl rfl) (pe_ix ix_seq (pv 0) pe_int (fun _ _ => rfl))) (pss_cons (ps_if (pt_cmpR (OpR.or op_lt (op_ltT hr.units0)) (pv 1) (pe_op op_addG (pv 2) pe_int) (nomark _)) (pss_one (ps_ret pe_non)) pss_nil) (pss_cons (ps_if (pt_cmpR (op_eqD hr.units) (pv 2) pe_int (nomark _)) (pss_one (ps_ret (pe_tup (pa_cons (pe_make T.M_Tree G_Tree_init (hr.mono (by decide)) (by rfl) T.g_Tree T.b_Tree_init .nil pass0 (pa_cons (pe_op op_mulG (pe_tup (pa_cons (pe_glob (by rfl) T.c_HEAD ⟨_, rfl⟩) pa_nil)) (pv 1)) pa_nil)) (pa_cons (pe_make T.M_Tree G_Tree_init (hr.mono (by decide)) (by rfl) T.g_Tree T.b_Tree_init .nil pass0 (pa_cons (pe_op op_addG (pe_op op_addG (pe_tup (pa_cons (pe_glob (by rfl) T.c_HEAD ⟨_, rfl⟩) pa_nil)) (pe_tup (pa_cons pe_int pa_nil))) (pe_op op_mulG (pe_tup (pa_cons (pe_glob (by rfl) T.c_HEAD ⟨_, rfl⟩) pa_nil)) (pe_op op_sub (pv 1) pe_int))) pa_nil)) pa_nil))))) pss_nil) (pss_cons (ps_set (i := 3) nd rfl (Or.inl rfl) (pe_tupRg rfl (by rfl) T.z_tuple (prg_1 (by rfl) T.z_range (pv 2)))) (pss_cons (ps_set (i := 4) nd rfl (Or.inl rfl) (pe_op op_mulG (pe_tup (pa_cons (pe_glob (by rfl) T.c_HEAD ⟨_, rfl⟩) pa_nil)) (pe_op op_sub (pe_op op_sub (pv 1) (pv 2)) pe_int))) (pss_one (ps_ret (pe_tup (pa_cons (pe_make T.M_Tree G_Tree_init (hr.mono (by decide)) (by rfl) T.g_Tree T.b_Tree_init .nil pass0 (pa_cons (pe_op op_addG (pe_op op_addG (pv 3) (pe_tup (pa_cons (pe_op op_sub (pv 2) pe_int) (pa_cons (pv 2) pa_nil)))) (pv 4)) pa_nil)) (pa_cons (pe_make T.M_Tree G_Tree_init (hr.mono (by decide)) (by rfl) T.g_Tree T.b_Tree_init .nil pass0 (pa_cons (pe_op op_addG (pe_op op_addG (pv 3) (pe_tup (pa_cons (pe_op op_sub (pv 2) pe_int) (pa_cons (pe_op op_addG (pv 2) pe_int) pa_nil)))) (pv 4)) pa_nil)) pa_nil)))))))))))), fn_ok (N := N_twins) (t := fun E => u_twins K T.cl E) rfl (fun E => sim_twins fa E) h⟩
theorem ok_l_pool (T : Txt K mg)  : FnOk P w K mg base CX0 1 T.f_l_pool T.fd_l_pool ["_law_script"] (spHead K PoolOk) := by
  refine T.F_l_pool.ok sc_l_pool (fun vs H Q E h => spHead_len h) (fun cdv A outer s H vs Q E hr h => ?_)
  have nd := sc_l_pool.nd
  exact ⟨_, (pss_cons (ps_setLc (i := 1) (own := [("_law_cell", 3)]) (by rfl) nd rfl rfl (sw_true rfl rfl rfl (by decide +kernel)) (pi_list (pe_slice sl_list (pv 0) po_none (po_some pe_int))) (blkOk_by (N := N_l_pool) (sc := defScope s_l_pool) (by decide +kernel)) (fun _ _ _ _ _ => (pg_name (i := 3) nd rfl (Or.inl rfl))) (fun _ _ _ _ _ => (pts_one (pt_cmpR op_ge (pe_callB call_abs (by rfl) T.z_abs (by decide +kernel) (pa_cons (pv 3) pa_nil)) (pe_op op_pow pe_int pe_int) (nomark _)))) (fun _ _ _ _ _ => (pe_callB call_abs (by rfl) T.z_abs (by decide +kernel) (pa_cons (pv 3) pa_nil)))) (pss_cons (ps_setLc (i := 2) (own := [("_law_cell", 3)]) (by rfl) nd rfl rfl (sw_true rfl rfl rfl (by decide +kernel)) (pi_list (pe_slice sl_list (pv 0) po_none (po_some pe_int))) (blkOk_by (N := N_l_pool) (sc := defScope s_l_pool) (by decide +kernel)) (fun _ _ _ _ _ => (pg_name (i := 3) nd rfl (Or.inl rfl))) (fun _ _ _ _ _ => (pts_one (pt_cmpR op_lt (pe_callB call_abs (by rfl) T.z_abs (by decide +kernel) (pa_cons (pv 3) pa_nil)) (pe_op op_pow pe_int pe_int) (nomark _)))) (fun _ _ _ _ _ => (pe_op op_mod (pe_callTy call_int1 (by rfl) T.z_int (by decide +kernel) (pa_cons (pv 3) pa_nil)) pe_int))) (pss_one (ps_ret (pe_lst (pa_cons (pv 1) (pa_cons (pv 2) (pa_cons pe_int (pa_cons pe_int pa_nil))))))))), pure_l_pool2 h⟩
theorem ok_l_draw (T : Txt K mg) (fa : Fa K T.cl)  : FnOk P w K mg base CX0 1 T.f_l_draw T.fd_l_draw ["_law_pool_here", "_law_many"] (spD (true :: vals 1) (D_l_draw T.cl)) := by
  refine T.F_l_draw.ok sc_l_draw (fun vs H Q E h => spD_len h) (fun cdv A outer s H vs Q E hr h => ?_)
  have nd := sc_l_draw.nd
  exact ⟨u_l_draw K T.cl, (pss_cons (ps_if (PW.pt (pw_and (pt_cmpR op_le (pe_ix ix_seq (pv 0) pe_int (fun _ _ => rfl)) pe_int (nomark _)) (pw_and1 (pt_cmpR op_gt (pe_callB call_lenG (by rfl) T.z_len PySem.boot_len (pa_cons (pe_ix ix_seq (pv 0) pe_int (fun _ _ => rfl)) pa_nil)) pe_int (nomark _))))) (pss_cons (ps_asg (pe_ix ix_seq (pe_ix ix_seq (pv 0) pe_int (fun _ _ => rfl)) pe_int (fun _ _ => rfl)) (pg_sub (pv 0) pe_int set_list)) (pss_one (ps_asg (pe_slice sl_G (pe_ix ix_seq (pv 0) pe_int (fun _ _ => rfl)) (po_some pe_int) po_none) (pg_sub (pv 0) pe_int set_list)))) pss_nil) (pss_cons (ps_if (pt_cmpR op_gt (pe_ix ix_seq (pv 0) pe_int (fun _ _ => rfl)) pe_int (nomark _)) (pss_cons (ps_set (i := 2) nd rfl (Or.inl rfl) (pe_op op_mod (pe_callTy call_int1 (by rfl) T.z_int (by decide +kernel) (pa_cons (pe_ix ix_seq (pv 0) pe_int (fun _ _ => rfl)) pa_nil)) (pv 1))) (pss_cons (ps_asg (pe_op op_fdivN (pe_ix ix_seq (pv 0) pe_int (fun _ _ => rfl)) (pv 1)) (pg_sub (pv 0) pe_int set_list)) (pss_one (ps_ret (pv 2))))) pss_nil) (pss_cons (ps_asg (pe_op op_addG (pe_ix ix_seq (pv 0) pe_int (fun _ _ => rfl)) pe_int) (pg_sub (pv 0) pe_int set_list)) (pss_cons (ps_set (i := 3) nd rfl (Or.inl rfl) pe_int) (pss_cons (ps_if (pt_cmpR op_gt (pe_callB call_lenG (by rfl) T.z_len PySem.boot_len (pa_cons (pe_ix ix_seq (pv 0) pe_int (fun _ _ => rfl)) pa_nil)) pe_int (nomark _)) (pss_one (ps_set (i := 3) nd rfl (Or.inl rfl) (pe_ix ix_seq (pe_ix ix_seq (pv 0) pe_int (fun _ _ => rfl)) (pe_op op_mod (pe_callTy call_int1 (by rfl) T.z_int (by decide +kernel) (pa_cons (pe_ix ix_seq (pv 0) pe_int (fun _ _ => rfl)) pa_nil)) (pe_callB call_lenG (by rfl) T.z_len PySem.boot_len (pa_cons (pe_ix ix_seq (pv 0) pe_int (fun _ _ => rfl)) pa_nil))) (fun _ _ => rfl)))) pss_nil) (pss_cons (ps_set (i := 4) nd rfl (Or.inl rfl) (pe_op op_mod (pe_callTy call_int1 (by rfl) T.z_int (by decide +kernel) (pa_cons (pe_op op_mulG (pe_op op_addG (pe_op op_addG (pv 3) (pe_op op_mulG pe_int (pe_ix ix_seq (pv 0) pe_int (fun _ _ => rfl)))) pe_int) pe_int) pa_nil)) pe_int)) (pss_cons (ps_set (i := 4) nd rfl (Or.inl rfl) (pe_op op_mod (pe_callTy call_int1 (by rfl) T.z_int (by decide +kernel) (pa_cons (pe_op op_mulG (pv 4) (pe_op op_addG (pe_op op_fdivN (pv 4) pe_int) pe_int)) pa_nil)) pe_int)) (pss_cons (ps_set (i := 4) nd rfl (Or.inl rfl) (pe_op op_mod (pe_callTy call_int1 (by rfl) T.z_int (by decide +kernel) (pa_cons (pe_op op_mulG (pv 4) (pe_op op_addG (pe_op op_fdivN (pv 4) pe_int) pe_int)) pa_nil)) pe_int)) (pss_one (ps_ret (pe_op op_mod (pe_callTy call_int1 (by rfl) T.z_int (by decide +kernel) (pa_cons (pe_op op_fdivN (pv 4) pe_int) pa_nil)) (pv 1)))))))))))), fn_ok (N := N_l_draw) (t := fun E => u_l_draw K T.cl) rfl (fun E => sim_l_draw fa E) h⟩
theorem ok_l_pick (T : Txt K mg) (fa : Fa K T.cl) (G_l_draw : FnOk P w K mg base CX0 1 T.f_l_draw T.fd_l_draw ["_law_pool_here", "_law_many"] (spD (true :: vals 1) (D_l_draw T.cl))) : FnOk P w K mg base CX0 2 T.f_l_pick T.fd_l_pick ["_law_pool_here", "_law_things"] (spD (true :: vals 1) (D_l_pick T.cl)) := by
  refine T.F_l_pick.ok sc_l_pick (fun vs H Q E h => spD_len h) (fun cdv A outer s H vs Q E hr h => ?_)
  have nd := sc_l_pick.nd
  exact ⟨u_l_pick K T.cl, (pss_one (ps_ret (pe_ix ix_seq (pv 1) (pe_call G_l_draw (hr.mono (by decide)) (by rfl) T.g_l_draw T.F_l_draw.kp T.b_l_draw .nil pass0 (pa_cons (pv 0) (pa_cons (pe_callB call_lenG (by rfl) T.z_len PySem.boot_len (pa_cons (pv 1) pa_nil)) pa_nil))) (fun _ _ => rfl)))), fn_ok (N := N_l_pick) (t := fun E => u_l_pick K T.cl) rfl (fun E => sim_l_pick fa E) h⟩
theorem ok_l_is (T : Txt K mg) (fa : Fa K T.cl)  : ∀ k : Nat, FnOk P w K mg base CX0 k T.f_l_is T.fd_l_is ["_law_told", "_law_due"] (spD (vals 2) (D_l_is T.cl k))
  | 0 => ⟨fun vs H Q E h => spD_len h, fun A outer s H args us vs Q E _ _ _ _ h => by obtain ⟨F, os, B, P', PE, h1, h2, h3, h4, h5, h6, h7⟩ := h; first | exact h6.elim | exact h7.1.elim⟩
  | k + 1 => by
    have G_l_is := ok_l_is T fa  k
    refine T.F_l_is.ok sc_l_is (fun vs H Q E h => spD_len h) (fun cdv A outer s H vs Q E hr h => ?_)
    have nd := sc_l_is.nd
    exact ⟨u_l_is K T.cl k, (pss_cons (ps_if (pt_val (pe_callB call_isiG (by rfl) T.z_isinstance (by decide +kernel) (pa_cons (pv 1) (pa_cons (pe_tup (pa_cons (pe_bltn (v := .ty "tuple") (by rfl) T.z_tuple (by decide +kernel) rfl) (pa_cons (pe_bltn (v := .ty "list") (by rfl) T.z_list (by decide +kernel) rfl) pa_nil))) pa_nil)))) (pss_cons (ps_if (PW.pt (pw_or (pt_cmpR (op_neD hr.units) (pe_callB call_isiG (by rfl) T.z_isinstance (by decide +kernel) (pa_cons (pv 0) (pa_cons (pe_bltn (v := .ty "tuple") (by rfl) T.z_tuple (by decide +kernel) rfl) pa_nil))) (pe_callB call_isiG (by rfl) T.z_isinstance (by decide +kernel) (pa_cons (pv 1) (pa_cons (pe_bltn (v := .ty "tuple") (by rfl) T.z_tuple (by decide +kernel) rfl) pa_nil))) (nomark _)) (pw_or1 (pt_cmpR (op_neD hr.units) (pe_callB call_isiG (by rfl) T.z_isinstance (by decide +kernel) (pa_cons (pv 0) (pa_cons (pe_bltn (v := .ty "list") (by rfl) T.z_list (by decide +kernel) rfl) pa_nil))) (pe_callB call_isiG (by rfl) T.z_isinstance (by decide +kernel) (pa_cons (pv 1) (pa_cons (pe_bltn (v := .ty "list") (by rfl) T.z_list (by decide +kernel) rfl) pa_nil))) (nomark _))))) (pss_one (ps_ret pe_bl)) pss_nil) (pss_one (ps_ret (pe_and (pe_cmpR (op_eqD hr.units) (pe_callB call_lenG (by rfl) T.z_len PySem.boot_len (pa_cons (pv 0) pa_nil)) (pe_callB call_lenG (by rfl) T.z_len PySem.boot_len (pa_cons (pv 1) pa_nil)) (nomark _)) (pe_one (pe_callB (cr_all rfl) (by rfl) T.z_all (by decide +kernel) (pa_cons (pe_lc (own := [("_law_at", 2)]) (by rfl) nd (pi_range1 (by rfl) T.z_range (pa_cons (pe_callB call_lenG (by rfl) T.z_len PySem.boot_len (pa_cons (pv 1) pa_nil)) pa_nil)) (blkOk_by (N := N_l_is) (sc := defScope s_l_is) (by decide +kernel)) (fun _ _ _ _ _ => (pg_name (i := 2) nd rfl (Or.inl rfl))) (fun _ _ _ _ _ => pts_nil) (fun _ _ _ _ _ => (pe_call G_l_is hr (by rfl) T.g_l_is T.F_l_is.kp T.b_l_is .nil pass0 (pa_cons (pe_ix ix_seq (pv 0) (pv 2) (fun _ _ => rfl)) (pa_cons (pe_ix ix_seq (pv 1) (pv 2) (fun _ _ => rfl)) pa_nil))))) pa_nil))))))) pss_nil) (pss_cons (ps_if (pt_val (pe_callB call_isiG (by rfl) T.z_isinstance (by decide +kernel) (pa_cons (pv 1) (pa_cons (pe_bltn (v := .ty "dict") (by rfl) T.z_dict (by decide +kernel) rfl) pa_nil)))) pss_never pss_nil) (pss_cons (ps_if (pt_cmpR op_isG (pv 1) pe_non (nomark _)) (pss_one (ps_ret (pe_cmpR op_isG (pv 0) pe_non (nomark _)))) pss_nil) (pss_one (ps_ret (pe_and (pe_cmpR (op_eqD hr.units) (pe_callB call_isiG (by rfl) T.z_isinstance (by decide +kernel) (pa_cons (pv 0) (pa_cons (pe_bltn (v := .ty "bool") (by rfl) T.z_bool (by decide +kernel) rfl) pa_nil))) (pe_callB call_isiG (by rfl) T.z_isinstance (by decide +kernel) (pa_cons (pv 1) (pa_cons (pe_bltn (v := .ty "bool") (by rfl) T.z_bool (by decide +kernel) rfl) pa_nil))) (nomark _)) (pe_and (pe_cmpR op_notG (pv 0) pe_non (nomark _)) (pe_one (pe_cmpR (op_eqD hr.units) (pv 0) (pv 1) (nomark _)))))))))), fn_ok (N := N_l_is) (t := fun E => u_l_is K T.cl k) rfl (fun E => sim_l_is fa k E) h⟩
theorem ok_l_deep (T : Txt K mg) (fa : Fa K T.cl)  : FnOk P w K mg base CX0 1 T.f_l_deep T.fd_l_deep [] (spD (vals 0) (D_l_deep T.cl)) := by
  refine T.F_l_deep.ok sc_l_deep (fun vs H Q E h => spD_len h) (fun cdv A outer s H vs Q E hr h => ?_)
  have nd := sc_l_deep.nd
  exact ⟨u_l_deep K T.cl, (pss_cons (ps_set (i := 0) nd rfl (Or.inl rfl) (pe_lst (pa_cons pe_non pa_nil))) (pss_cons (ps_for PassesOwn.never rfl (pi_range1 (by rfl) T.z_range (pa_cons pe_int pa_nil)) (pg_name (i := 1) nd rfl (Or.inl rfl)) (pss_one (ps_set (i := 0) nd rfl (Or.inl rfl) (pe_ifExp (pt_cmpR (op_eqD hr.units) (pe_op op_mod (pe_callTy call_int1 (by rfl) T.z_int (by decide +kernel) (pa_cons (pv 1) pa_nil)) pe_int) pe_int (nomark _)) (pe_tup (pa_cons (pv 0) pa_nil)) (pe_lst (pa_cons (pv 0) pa_nil)))))) (pss_one (ps_ret (pv 0))))), fn_ok (N := N_l_deep) (t := fun E => u_l_deep K T.cl) rfl (fun E => sim_l_deep fa E) h⟩
theorem ok_l_is_number (T : Txt K mg) (fa : Fa K T.cl)  : FnOk P w K mg base CX0 1 T.f_l_is_number T.fd_l_is_number ["_law_thing", "_law_least", "_law_most"] (spD (vals 3) (D_l_is_number T.cl)) := by
  refine T.F_l_is_number.ok sc_l_is_number (fun vs H Q E h => spD_len h) (fun cdv A outer s H vs Q E hr h => ?_)
  have nd := sc_l_is_number.nd
  exact ⟨u_l_is_number K T.cl, (pss_one (ps_ret (pe_and (pe_callB call_isiG (by rfl) T.z_isinstance (by decide +kernel) (pa_cons (pv 0) (pa_cons (pe_bltn (v := .ty "int") (by rfl) T.z_int (by decide +kernel) rfl) pa_nil))) (pe_and (pe_not (pe_callB call_isiG (by rfl) T.z_isinstance (by decide +kernel) (pa_cons (pv 0) (pa_cons (pe_bltn (v := .ty "bool") (by rfl) T.z_bool (by decide +kernel) rfl) pa_nil)))) (pe_one (pe_chain op_le op_le (pv 1) (pv 0) (pv 2))))))), fn_ok (N := N_l_is_number) (t := fun E => u_l_is_number K T.cl) rfl (fun E => sim_l_is_number fa E) h⟩
theorem ok_l_mixed (T : Txt K mg) (fa : Fa K T.cl) (G_l_draw : FnOk P w K mg base CX0 1 T.f_l_draw T.fd_l_draw ["_law_pool_here", "_law_many"] (spD (true :: vals 1) (D_l_draw T.cl))) : FnOk P w K mg base CX0 2 T.f_l_mixed T.fd_l_mixed ["_law_pool_here", "_law_many"] (spD (true :: vals 1) (D_l_mixed T.cl)) := by
  refine T.F_l_mixed.ok sc_l_mixed (fun vs H Q E h => spD_len h) (fun cdv A outer s H vs Q E hr h => ?_)
  have nd := sc_l_mixed.nd
  exact ⟨u_l_mixed K T.cl, (pss_cons (ps_set (i := 2) nd rfl (Or.inr rfl) (pe_listRg rfl (by rfl) T.z_list (prg_2 (by rfl) T.z_range pe_int (pe_op op_addG (pv 1) pe_int)))) (pss_one (ps_ret (pe_lc (own := [("_law_turn", 3)]) (by rfl) nd (pi_range1 (by rfl) T.z_range (pa_cons (pv 1) pa_nil)) (blkOk_by (N := N_l_mixed) (sc := defScope s_l_mixed) (by decide +kernel)) (fun _ _ _ _ _ => (pg_name (i := 3) nd rfl (Or.inl rfl))) (fun _ _ _ _ _ => pts_nil) (fun _ _ _ _ _ => (pe_bm PySem.F.plainAttrs_list PySem.F.slot_list_pop PySem.F.type_list_pop mt_popAt (pv 2) (pa_cons (pe_call G_l_draw (hr.mono (by decide)) (by rfl) T.g_l_draw T.F_l_draw.kp T.b_l_draw .nil pass0 (pa_cons (pv 0) (pa_cons (pe_callB call_lenG (by rfl) T.z_len PySem.boot_len (pa_cons (pv 2) pa_nil)) pa_nil))) pa_nil))))))), fn_ok (N := N_l_mixed) (t := fun E => u_l_mixed K T.cl) rfl (fun E => sim_l_mixed fa E) h⟩
theorem ok_l_hung (T : Txt K mg) (fa : Fa K T.cl) (G_l_draw : FnOk P w K mg base CX0 1 T.f_l_draw T.fd_l_draw ["_law_pool_here", "_law_many"] (spD (true :: vals 1) (D_l_draw T.cl))) (G_l_mixed : FnOk P w K mg base CX0 2 T.f_l_mixed T.fd_l_mixed ["_law_pool_here", "_law_many"] (spD (true :: vals 1) (D_l_mixed T.cl))) : FnOk P w K mg base CX0 3 T.f_l_hung T.fd_l_hung ["_law_pool_here", "_law_many"] (spD (true :: vals 1) (D_l_hung T.cl)) := by
  refine T.F_l_hung.ok sc_l_hung (fun vs H Q E h => spD_len h) (fun cdv A outer s H vs Q E hr h => ?_)
  have nd := sc_l_hung.nd
  exact ⟨u_l_hung K T.cl, (pss_cons (ps_set (i := 2) nd rfl (Or.inl rfl) (pe_call G_l_draw (hr.mono (by decide)) (by rfl) T.g_l_draw T.F_l_draw.kp T.b_l_draw .nil pass0 (pa_cons (pv 0) (pa_cons pe_int pa_nil)))) (pss_cons (ps_set (i := 3) nd rfl (Or.inl rfl) (pe_op op_addG (pe_lst (pa_cons pe_int pa_nil)) (pe_call G_l_mixed (hr.mono (by decide)) (by rfl) T.g_l_mixed T.F_l_mixed.kp T.b_l_mixed .nil pass0 (pa_cons (pv 0) (pa_cons (pv 1) pa_nil))))) (pss_cons (ps_set (i := 4) nd rfl (Or.inl rfl) (pe_op op_mulG (pe_lst (pa_cons pe_int pa_nil)) (pv 1))) (pss_cons (ps_for PassesOwn.never rfl (pi_range2 (by rfl) T.z_range (pa_cons pe_int (pa_cons (pe_op op_addG (pv 1) pe_int) pa_nil))) (pg_name (i := 5) nd rfl (Or.inl rfl)) (pss_cons (ps_set (i := 6) nd rfl (Or.inl rfl) (pe_call G_l_draw (hr.mono (by decide)) (by rfl) T.g_l_draw T.F_l_draw.kp T.b_l_draw .nil pass0 (pa_cons (pv 0) (pa_cons (pv 5) pa_nil)))) (pss_cons (ps_if (PW.pt (pw_or (pt_cmpR (op_eqD hr.units) (pv 2) pe_int (nomark _)) (pw_or1 (PW.pt (pw_and (pt_cmpR (op_eqD hr.units) (pv 2) pe_int (nomark _)) (pw_and1 (pt_cmpR op_gt (pe_call G_l_draw (hr.mono (by decide)) (by rfl) T.g_l_draw T.F_l_draw.kp T.b_l_draw .nil pass0 (pa_cons (pv 0) (pa_cons pe_int pa_nil))) pe_int (nomark _)))))))) (pss_one (ps_set (i := 6) nd rfl (Or.inl rfl) (pe_op op_sub (pv 5) pe_int))) pss_nil) (pss_cons (ps_if (PW.pt (pw_and (pt_cmpR (op_eqD hr.units) (pv 2) pe_int (nomark _)) (pw_and1 (pt_cmpR (op_eqD hr.units) (pe_call G_l_draw (hr.mono (by decide)) (by rfl) T.g_l_draw T.F_l_draw.kp T.b_l_draw .nil pass0 (pa_cons (pv 0) (pa_cons pe_int pa_nil))) pe_int (nomark _))))) (pss_one (ps_set (i := 6) nd rfl (Or.inl rfl) pe_int)) pss_nil) (pss_one (ps_asg (pe_ix ix_seq (pv 3) (pv 6) (fun _ _ => rfl)) (pg_sub (pv 4) (pe_op op_sub (pe_ix ix_seq (pv 3) (pv 5) (fun _ _ => rfl)) pe_int) set_list))))))) (pss_one (ps_ret (pe_callTy call_tuple_of (by rfl) T.z_tuple (by decide +kernel) (pa_cons (pv 4) pa_nil)))))))), fn_ok (N := N_l_hung) (t := fun E => u_l_hung K T.cl) rfl (fun E => sim_l_hung fa E) h⟩
theorem ok_l_way (T : Txt K mg) (fa : Fa K T.cl)  : FnOk P w K mg base CX0 1 T.f_l_way T.fd_l_way ["_law_hung_here", "_law_place"] (spD (vals 2) (D_l_way T.cl)) := by
  refine T.F_l_way.ok sc_l_way (fun vs H Q E h => spD_len h) (fun cdv A outer s H vs Q E hr h => ?_)
  have nd := sc_l_way.nd
  exact ⟨u_l_way K T.cl, (pss_cons (ps_set (i := 2) nd rfl (Or.inl rfl) (pe_lst pa_nil)) (pss_cons (ps_set (i := 3) nd rfl (Or.inl rfl) (pv 1)) (pss_cons (ps_for PassesOwn.never rfl (pi_seq (pv 0)) (pg_name (i := 4) nd rfl (Or.inl rfl)) (pss_one (ps_if (pt_cmpR (op_neD hr.units) (pv 3) pe_int (nomark _)) (pss_cons (ps_set (i := 3) nd rfl (Or.inl rfl) (pe_ix ix_seq (pv 0) (pe_op op_sub (pv 3) pe_int) (fun _ _ => rfl))) (pss_one (ps_expr (pe_bm PySem.F.plainAttrs_list PySem.F.slot_list_append PySem.F.type_list_append mt_append (pv 2) (pa_cons (pv 3) pa_nil))))) pss_nil))) (pss_one (ps_ret (pv 2)))))), fn_ok (N := N_l_way) (t := fun E => u_l_way K T.cl) rfl (fun E => sim_l_way fa E) h⟩
theorem ok_l_odd (T : Txt K mg) (fa : Fa K T.cl) (G_l_deep : FnOk P w K mg base CX0 1 T.f_l_deep T.fd_l_deep [] (spD (vals 0) (D_l_deep T.cl))) (G_l_pick : FnOk P w K mg base CX0 2 T.f_l_pick T.fd_l_pick ["_law_pool_here", "_law_things"] (spD (true :: vals 1) (D_l_pick T.cl))) : FnOk P w K mg base CX0 3 T.f_l_odd T.fd_l_odd ["_law_pool_here", "_law_most"] (spD (true :: vals 1) (D_l_odd T.cl)) := by
  refine T.F_l_odd.ok sc_l_odd (fun vs H Q E h => spD_len h) (fun cdv A outer s H vs Q E hr h => ?_)
  have nd := sc_l_odd.nd
  exact ⟨u_l_odd K T.cl, (pss_one (ps_ret (pe_call G_l_pick (hr.mono (by decide)) (by rfl) T.g_l_pick T.F_l_pick.kp T.b_l_pick .nil pass0 (pa_cons (pv 0) (pa_cons (pe_lst (pa_cons (pe_un un_neg pe_int) (pa_cons (pe_op op_addG (pv 1) pe_int) (pa_cons pe_bl (pa_cons pe_bl (pa_cons pe_non (pa_cons pe_str (pa_cons (pe_tup (pa_cons pe_int pa_nil)) (pa_cons (pe_lst (pa_cons pe_int pa_nil)) (pa_cons pe_dnewK (pa_cons (pe_op op_pow pe_int pe_int) (pa_cons (pe_call0 G_l_deep (hr.mono (by decide)) (by rfl) T.g_l_deep T.F_l_deep.kp T.b_l_deep .nil pass0) (pa_cons (pv 1) (pa_cons pe_int (pa_cons pe_int pa_nil))))))))))))))) pa_nil))))), fn_ok (N := N_l_odd) (t := fun E => u_l_odd K T.cl) rfl (fun E => sim_l_odd fa E) h⟩
theorem word_gives {X : Cx} (T : Txt X.K X.mg) (fa : Fa X.K T.cl) {cdv : Value} {q : Str} : GivesN X N_l_word "_law_word" (defScope s_l_word) T.f_l_word cdv (defBody s_l_word) "_law_call" q (TTw (tab5c T.cl)) := by
  intro f c' s H Q tl act hc h
  have nd := sc_l_word.nd
  have hw := word_out (q := q) (f := f) (QN := fun _ H' => Q .non H') fa.w5 hc h
  refine ⟨_, (pss_cons (ps_set (i := 1) nd rfl (Or.inl rfl) pe_str) (pss_cons (L2N.ps_try_as (i := 2) (Wout := fun _ _ _ _ => False)
      (tb := tb5 f c' q tl)
      (ts := t_w5 X.K T.C_NoBlock T.C_NoPlace T.C_Beneath T.C_NoOrder T.C_NoView T.C_OtherBlocks T.C_NoNumber) rfl rfl nd rfl rfl ⟨rfl, by decide, Or.inl T.g_VoteError⟩ takes0N (fun W pn xe tk po => ?_) (fun a oe cls d pn hz0 hf => have hz := hz0.zc; (pss_cons (ps_set (i := 3) nd rfl (Or.inl rfl) (pe_lst (pa_cons (pe_callB (call_isN hz hf) (by rfl) T.z_isinstance (by decide +kernel) (pa_cons (pv 2) (pa_cons (pe_glob (v := .ref T.C_NoBlock) (by rfl) T.g_NoBlock rfl) pa_nil))) (pa_cons (pe_callB (call_isN hz hf) (by rfl) T.z_isinstance (by decide +kernel) (pa_cons (pv 2) (pa_cons (pe_glob (v := .ref T.C_NoPlace) (by rfl) T.g_NoPlace rfl) pa_nil))) (pa_cons (pe_callB (call_isN hz hf) (by rfl) T.z_isinstance (by decide +kernel) (pa_cons (pv 2) (pa_cons (pe_glob (v := .ref T.C_Beneath) (by rfl) T.g_Beneath rfl) pa_nil))) (pa_cons (pe_callB (call_isN hz hf) (by rfl) T.z_isinstance (by decide +kernel) (pa_cons (pv 2) (pa_cons (pe_glob (v := .ref T.C_NoOrder) (by rfl) T.g_NoOrder rfl) pa_nil))) pa_nil)))))) (pss_cons (ps_set (i := 3) nd rfl (Or.inl rfl) (pe_op op_cat (pv 3) (pe_lst (pa_cons (pe_callB (call_isN hz hf) (by rfl) T.z_isinstance (by decide +kernel) (pa_cons (pv 2) (pa_cons (pe_glob (v := .ref T.C_NoView) (by rfl) T.g_NoView rfl) pa_nil))) (pa_cons (pe_callB (call_isN hz hf) (by rfl) T.z_isinstance (by decide +kernel) (pa_cons (pv 2) (pa_cons (pe_glob (v := .ref T.C_OtherBlocks) (by rfl) T.g_OtherBlocks rfl) pa_nil))) (pa_cons (pe_callB (call_isN hz hf) (by rfl) T.z_isinstance (by decide +kernel) (pa_cons (pv 2) (pa_cons (pe_glob (v := .ref T.C_NoNumber) (by rfl) T.g_NoNumber rfl) pa_nil))) pa_nil)))))) (pss_cons (ps_set (i := 1) nd rfl (Or.inl rfl) pe_str) (pss_one (ps_if (PW.pt (pw_and (pt_cmpR op_eq (pe_callB call_len_seq (by rfl) T.z_len PySem.boot_len (pa_cons (pe_lcHot (own := [("_law_flag", 4)]) (hot_suite hz0 hf) nd (pv 3) (blkOk_by (N := N_l_word) (sc := defScope s_l_word) (by decide +kernel)) (fun _ _ _ _ _ => (pg_name (i := 4) nd rfl (Or.inl rfl))) (fun _ _ _ _ _ => (pts_one (pt_val (pv 4)))) (fun _ _ _ _ _ => (pv 4))) pa_nil)) pe_int (nomark _)) (pw_and1 (pt_val (pe_callB (call_isN hz hf) (by rfl) T.z_isinstance (by decide +kernel) (pa_cons (pv 2) (pa_cons (pe_bltn (v := .ty "ValueError") (by rfl) T.z_ValueError (by decide +kernel) rfl) pa_nil))))))) (pss_one (ps_set (i := 1) nd rfl (Or.inl rfl) (pe_ix ix_seq (pe_lst (pa_cons pe_str (pa_cons pe_str (pa_cons pe_str (pa_cons pe_str (pa_cons pe_str (pa_cons pe_str (pa_cons pe_str pa_nil)))))))) (pe_bm PySem.F.plainAttrs_list PySem.F.slot_list_index PySem.F.type_list_index mt_index (pv 3) (pa_cons pe_bl pa_nil)) (fun _ _ => rfl)))) pss_nil))))))) (pss_one (ps_ret (pv 1))))), hw⟩
  refine ⟨fun pins s' σ H' D I h' => ?_⟩
  obtain ⟨Ech, hW, h1, h2, h3, h4⟩ := h'
  have hp := fun p1 p2 => act (fun c d σ H => σ.length = 5 → W c d σ H) pn xe Ech p1 p2 (takes_lenN tk) (fun cls d σ' H' e l => hW cls d σ' H' e l)
  exact (pss_one (ps_expr (hp _ _))).run pins s' σ H' D I ⟨h1, h2, h4⟩
theorem ok_l_order_refused (T : Txt K mg) (fa : Fa K T.cl) (G_l_deep : FnOk P w K mg base CX0 1 T.f_l_deep T.fd_l_deep [] (spD (vals 0) (D_l_deep T.cl))) (G_l_draw : FnOk P w K mg base CX0 1 T.f_l_draw T.fd_l_draw ["_law_pool_here", "_law_many"] (spD (true :: vals 1) (D_l_draw T.cl))) (G_l_is_number : FnOk P w K mg base CX0 1 T.f_l_is_number T.fd_l_is_number ["_law_thing", "_law_least", "_law_most"] (spD (vals 3) (D_l_is_number T.cl))) (G_l_mixed : FnOk P w K mg base CX0 2 T.f_l_mixed T.fd_l_mixed ["_law_pool_here", "_law_many"] (spD (true :: vals 1) (D_l_mixed T.cl))) (G_l_odd : FnOk P w K mg base CX0 3 T.f_l_odd T.fd_l_odd ["_law_pool_here", "_law_most"] (spD (true :: vals 1) (D_l_odd T.cl))) (G_l_pick : FnOk P w K mg base CX0 2 T.f_l_pick T.fd_l_pick ["_law_pool_here", "_law_things"] (spD (true :: vals 1) (D_l_pick T.cl))) (G_called : FnOk P w K mg base (L2N.CX P w) 5 T.f_called T.fd_called ["tree", "order"] (spD (vals 2) (D_called T.cl))) (tb_l_order_refused : LamX.TabB base mg T.cc_l_order_refused T.P_l_order_refused) : FnOk P w K mg base CX0 8 T.f_l_order_refused T.fd_l_order_refused ["_law_pool_here", "_law_tree", "_law_many"] (spD (true :: vals 2) (D_l_order_refused T.cl)) := by
  refine T.FC_l_order_refused.ok sc_l_order_refused (fun vs H Q E h => spD_len h) (fun A outer s H vs Q E hr h => ?_)
  have nd := sc_l_order_refused.nd
  exact ⟨u_l_order_refused K T.cl, (pss_cons (ps_set (i := 3) nd rfl (Or.inl rfl) (pe_callTy call_tuple_of (by rfl) T.z_tuple (by decide +kernel) (pa_cons (pe_call G_l_mixed (hr.mono (by decide)) (by rfl) T.g_l_mixed T.F_l_mixed.kp T.b_l_mixed .nil pass0 (pa_cons (pv 0) (pa_cons (pv 2) pa_nil))) pa_nil))) (pss_cons (ps_set (i := 4) nd rfl (Or.inl rfl) (pe_call G_l_draw (hr.mono (by decide)) (by rfl) T.g_l_draw T.F_l_draw.kp T.b_l_draw .nil pass0 (pa_cons (pv 0) (pa_cons (pv 2) pa_nil)))) (pss_cons (ps_set (i := 5) nd rfl (Or.inl rfl) (pe_lst (pa_cons (pe_op op_addG (pe_op op_addG (pe_slice sl_G (pv 3) po_none (po_some (pv 4))) (pe_tup (pa_cons (pe_call G_l_odd (hr.mono (by decide)) (by rfl) T.g_l_odd T.F_l_odd.kp T.b_l_odd .nil pass0 (pa_cons (pv 0) (pa_cons (pv 2) pa_nil))) pa_nil))) (pe_slice sl_G (pv 3) (po_some (pe_op op_addG (pv 4) pe_int)) po_none)) (pa_cons (pe_op op_addG (pe_slice sl_G (pv 3) po_none (po_some (pv 4))) (pe_slice sl_G (pv 3) (po_some (pe_op op_addG (pv 4) pe_int)) po_none)) (pa_cons (pe_op op_addG (pv 3) (pe_slice sl_G (pv 3) po_none (po_some pe_int))) pa_nil))))) (pss_cons (ps_set (i := 5) nd rfl (Or.inl rfl) (pe_op op_addG (pv 5) (pe_lst (pa_cons (pe_callTy call_list_of (by rfl) T.z_list (by decide +kernel) (pa_cons (pv 3) pa_nil)) (pa_cons (pe_tup pa_nil) (pa_cons pe_non (pa_cons pe_int (pa_cons pe_str (pa_cons pe_dnewK (pa_cons (pe_call0 G_l_deep (hr.mono (by decide)) (by rfl) T.g_l_deep T.F_l_deep.kp T.b_l_deep .nil pass0) (pa_cons (pv 1) (pa_cons (pv 3) (pa_cons (pe_op op_addG (pe_tup (pa_cons pe_int pa_nil)) (pv 3)) pa_nil))))))))))))) (pss_cons (ps_set (i := 6) nd rfl (Or.inr rfl) (pe_call G_l_pick (hr.mono (by decide)) (by rfl) T.g_l_pick T.F_l_pick.kp T.b_l_pick .nil pass0 (pa_cons (pv 0) (pa_cons (pv 5) pa_nil)))) (pss_cons (ps_set (i := 7) nd rfl (Or.inl rfl) (pe_and (pe_callB call_isiG (by rfl) T.z_isinstance (by decide +kernel) (pa_cons (pv 6) (pa_cons (pe_bltn (v := .ty "tuple") (by rfl) T.z_tuple (by decide +kernel) rfl) pa_nil))) (pe_and (pe_cmpR (op_eqD hr.units) (pe_callB call_lenG (by rfl) T.z_len PySem.boot_len (pa_cons (pv 6) pa_nil)) (pv 2) (nomark _)) (pe_one (pe_callB (cr_all rfl) (by rfl) T.z_all (by decide +kernel) (pa_cons (pe_lc (own := [("_law_item", 8)]) (by rfl) nd (pi_seq (pv 6)) (blkOk_by (N := N_l_order_refused) (sc := defScope s_l_order_refused) (by decide +kernel)) (fun _ _ _ _ _ => (pg_name (i := 8) nd rfl (Or.inl rfl))) (fun _ _ _ _ _ => pts_nil) (fun _ _ _ _ _ => (pe_call G_l_is_number (hr.mono (by decide)) (by rfl) T.g_l_is_number T.F_l_is_number.kp T.b_l_is_number .nil pass0 (pa_cons (pv 8) (pa_cons pe_int (pa_cons (pv 2) pa_nil)))))) pa_nil)))))) (pss_cons (ps_if (pt_val (pv 7)) (pss_one (ps_set (i := 7) nd rfl (Or.inl rfl) (pe_cmpR (op_eqD hr.units) (pe_callB call_sortG (by rfl) T.z_sorted (by decide +kernel) (pa_cons (pv 6) pa_nil)) (pe_listRg rfl (by rfl) T.z_list (prg_2 (by rfl) T.z_range pe_int (pe_op op_addG (pv 2) pe_int))) (nomark _)))) pss_nil) (pss_one (ps_ret (pe_cmpR (op_eqD hr.units) (pe_lamF (k := 5) (TT := TTw (tab5c T.cl)) (t := fun E => tCall (spD (vals 2) (D_called T.cl)) [] E (tCons (tVar 1) (tCons (tVar 6) tNil))) (by rfl) T.g_l_word T.F_l_word T.b_l_word sc_l_word (by rfl) (by first | exact Or.inl rfl | exact Or.inr (Or.inl rfl)) (fun cdv => word_gives (X := (cxOf CX0 P w K mg base N_l_order_refused "_law_order_refused" (defScope s_l_order_refused) T.f_l_order_refused (.ref T.cc_l_order_refused) A outer s H E).nox) T fa) tb_l_order_refused rfl T.tm_l_order_refused T.tu_l_order_refused (hr.mono (by decide)) (LamX.lamS_by (by first | kernel_rfl | rfl)) (by rfl) (fun _ _ _ _ _ => rfl) (fun A outer s H E f d hr => (pe_call G_called hr (by rfl) T.g_called T.F_called.kp T.b_called .nil (L2N.passes_call (L2N.takes_of rfl rfl rfl rfl) (fun _ _ _ _ h => h)) (pa_cons (pv 1) (pa_cons (pv 6) pa_nil))))) (pe_ifExp (pt_val (pv 7)) pe_str pe_str) (nomark _))))))))))), fn_ok (N := N_l_order_refused) (t := fun E => u_l_order_refused K T.cl) rfl (fun E => sim_l_order_refused fa E) h⟩
theorem ok_l_views_refused (T : Txt K mg) (fa : Fa K T.cl) (G_Tree_eq : FnOk P w K mg base CX0 1 T.f_Tree_eq T.fd_Tree_eq ["self", "other"] (spD (vals 2) (D_Tree_eq T.cl))) (G_Tree_init : FnOk P w K mg base CX0 3 T.f_Tree_init T.fd_Tree_init ["self", "hung"] (spD (true :: vals 1) (D_Tree_init T.cl))) (G_l_deep : FnOk P w K mg base CX0 1 T.f_l_deep T.fd_l_deep [] (spD (vals 0) (D_l_deep T.cl))) (G_l_draw : FnOk P w K mg base CX0 1 T.f_l_draw T.fd_l_draw ["_law_pool_here", "_law_many"] (spD (true :: vals 1) (D_l_draw T.cl))) (G_l_is_number : FnOk P w K mg base CX0 1 T.f_l_is_number T.fd_l_is_number ["_law_thing", "_law_least", "_law_most"] (spD (vals 3) (D_l_is_number T.cl))) (G_l_odd : FnOk P w K mg base CX0 3 T.f_l_odd T.fd_l_odd ["_law_pool_here", "_law_most"] (spD (true :: vals 1) (D_l_odd T.cl))) (G_l_pick : FnOk P w K mg base CX0 2 T.f_l_pick T.fd_l_pick ["_law_pool_here", "_law_things"] (spD (true :: vals 1) (D_l_pick T.cl))) (G_distance : FnOk P w K mg base (L2N.CX P w) 5 T.f_distance T.fd_distance ["view"] (spD (vals 1) (D_distance T.cl))) (G_telling : FnOk P w K mg base (L2N.CX P w) 5 T.f_telling T.fd_telling ["tree", "view", "place"] (spD (vals 3) (D_telling T.cl))) (G_twins : FnOk P w K mg base (L2N.CX P w) 5 T.f_twins T.fd_twins ["view", "blocks"] (spD (vals 2) (D_twins T.cl))) (G_unlike : FnOk P w K mg base (L2N.CX P w) 5 T.f_unlike T.fd_unlike ["tree", "other", "view"] (spD (vals 3) (D_unlike T.cl))) (tb_l_views_refused : LamX.TabB base mg T.cc_l_views_refused T.P_l_views_refused) : FnOk P w K mg base CX0 8 T.f_l_views_refused T.fd_l_views_refused ["_law_pool_here", "_law_tree", "_law_place", "_law_is_place"] (spD (true :: vals 3) (D_l_views_refused T.cl)) := by
  refine T.FC_l_views_refused.ok sc_l_views_refused (fun vs H Q E h => spD_len h) (fun A outer s H vs Q E hr h => ?_)
  have nd := sc_l_views_refused.nd
  exact ⟨u_l_views_refused K T.cl, (pss_cons (ps_set (i := 4) nd rfl (Or.inl rfl) (pe_call G_l_odd (hr.mono (by decide)) (by rfl) T.g_l_odd T.F_l_odd.kp T.b_l_odd .nil pass0 (pa_cons (pv 0) (pa_cons pe_int pa_nil)))) (pss_cons (ps_set (i := 5) nd rfl (Or.inl rfl) (pe_lst (pa_cons (pe_tup (pa_cons (pv 4) (pa_cons pe_int pa_nil))) (pa_cons (pe_tup (pa_cons pe_int (pa_cons (pv 4) pa_nil))) (pa_cons (pe_tup (pa_cons pe_int pa_nil)) (pa_cons (pe_tup (pa_cons pe_int (pa_cons pe_int (pa_cons pe_int pa_nil)))) (pa_cons (pe_lst (pa_cons pe_int (pa_cons pe_int pa_nil))) (pa_cons pe_non (pa_cons pe_int (pa_cons pe_str (pa_cons pe_dnewK (pa_cons (pe_call0 G_l_deep (hr.mono (by decide)) (by rfl) T.g_l_deep T.F_l_deep.kp T.b_l_deep .nil pass0) (pa_cons (pv 1) (pa_cons (pe_tup (pa_cons pe_int (pa_cons pe_int pa_nil))) (pa_cons (pe_tup (pa_cons pe_int (pa_cons pe_int pa_nil))) pa_nil))))))))))))))) (pss_cons (ps_set (i := 6) nd rfl (Or.inr rfl) (pe_call G_l_pick (hr.mono (by decide)) (by rfl) T.g_l_pick T.F_l_pick.kp T.b_l_pick .nil pass0 (pa_cons (pv 0) (pa_cons (pv 5) pa_nil)))) (pss_cons (ps_set (i := 7) nd rfl (Or.inl rfl) (pe_and (pe_callB call_isiG (by rfl) T.z_isinstance (by decide +kernel) (pa_cons (pv 6) (pa_cons (pe_bltn (v := .ty "tuple") (by rfl) T.z_tuple (by decide +kernel) rfl) pa_nil))) (pe_and (pe_cmpR (op_eqD hr.units) (pe_callB call_lenG (by rfl) T.z_len PySem.boot_len (pa_cons (pv 6) pa_nil)) pe_int (nomark _)) (pe_one (pe_callB (cr_all rfl) (by rfl) T.z_all (by decide +kernel) (pa_cons (pe_lc (own := [("_law_one", 12)]) (by rfl) nd (pi_seq (pv 6)) (blkOk_by (N := N_l_views_refused) (sc := defScope s_l_views_refused) (by decide +kernel)) (fun _ _ _ _ _ => (pg_name (i := 12) nd rfl (Or.inl rfl))) (fun _ _ _ _ _ => pts_nil) (fun _ _ _ _ _ => (pe_call G_l_is_number (hr.mono (by decide)) (by rfl) T.g_l_is_number T.F_l_is_number.kp T.b_l_is_number .nil pass0 (pa_cons (pv 12) (pa_cons pe_int (pa_cons pe_int pa_nil)))))) pa_nil)))))) (pss_cons (ps_set (i := 8) nd rfl (Or.inl rfl) (pe_ifExp (pt_not (pt_val (pv 7))) pe_str (pe_ifExp (pt_val (pv 3)) pe_str pe_str))) (pss_cons (ps_if (pt_cmpR (op_neD hr.units) (pe_lamF (k := 5) (TT := TTw (tab5c T.cl)) (t := fun E => tCall (spD (vals 3) (D_telling T.cl)) [] E (tCons (tVar 1) (tCons (tVar 6) (tCons (tVar 2) tNil)))) (by rfl) T.g_l_word T.F_l_word T.b_l_word sc_l_word (by rfl) (by first | exact Or.inl rfl | exact Or.inr (Or.inl rfl)) (fun cdv => word_gives (X := (cxOf CX0 P w K mg base N_l_views_refused "_law_views_refused" (defScope s_l_views_refused) T.f_l_views_refused (.ref T.cc_l_views_refused) A outer s H E).nox) T fa) tb_l_views_refused rfl T.tm_l_views_refused T.tu_l_views_refused (hr.mono (by decide)) (LamX.lamS_by (by first | kernel_rfl | rfl)) (by rfl) (fun _ _ _ _ _ => rfl) (fun A outer s H E f d hr => (pe_call G_telling hr (by rfl) T.g_telling T.F_telling.kp T.b_telling .nil (L2N.passes_call (L2N.takes_of rfl rfl rfl rfl) (fun _ _ _ _ h => h)) (pa_cons (pv 1) (pa_cons (pv 6) (pa_cons (pv 2) pa_nil)))))) (pv 8) (nomark _)) (pss_one (ps_ret pe_bl)) pss_nil) (pss_cons (ps_set (i := 9) nd rfl (Or.inr rfl) (pe_ifExp (pt_cmpR (op_eqD hr.units) (pe_call G_l_draw (hr.mono (by decide)) (by rfl) T.g_l_draw T.F_l_draw.kp T.b_l_draw .nil pass0 (pa_cons (pv 0) (pa_cons pe_int pa_nil))) pe_int (nomark _)) (pe_make T.M_Tree G_Tree_init (hr.mono (by decide)) (by rfl) T.g_Tree T.b_Tree_init .nil pass0 (pa_cons (pe_op op_addG (pe_fld (pv 1) rfl) (pe_tup (pa_cons pe_int pa_nil))) pa_nil)) (pv 1))) (pss_cons (ps_set (i := 8) nd rfl (Or.inl rfl) (pe_ifExp (pt_cmpR (op_neOwn G_Tree_eq (hr.mono (by decide)) T.ne_Tree T.b_Tree_eq pass0) (pv 9) (pv 1) (nomark _)) pe_str (pe_ifExp (pt_val (pv 7)) pe_str pe_str))) (pss_cons (ps_set (i := 10) nd rfl (Or.inl rfl) (pe_lst (pa_cons (pe_lamF (k := 5) (TT := TTw (tab5c T.cl)) (t := fun E => tCall (spD (vals 3) (D_unlike T.cl)) [] E (tCons (tVar 1) (tCons (tVar 9) (tCons (tVar 6) tNil)))) (by rfl) T.g_l_word T.F_l_word T.b_l_word sc_l_word (by rfl) (by first | exact Or.inl rfl | exact Or.inr (Or.inl rfl)) (fun cdv => word_gives (X := (cxOf CX0 P w K mg base N_l_views_refused "_law_views_refused" (defScope s_l_views_refused) T.f_l_views_refused (.ref T.cc_l_views_refused) A outer s H E).nox) T fa) tb_l_views_refused rfl T.tm_l_views_refused T.tu_l_views_refused (hr.mono (by decide)) (LamX.lamS_by (by first | kernel_rfl | rfl)) (by rfl) (fun _ _ _ _ _ => rfl) (fun A outer s H E f d hr => (pe_call G_unlike hr (by rfl) T.g_unlike T.F_unlike.kp T.b_unlike .nil (L2N.passes_call (L2N.takes_of rfl rfl rfl rfl) (fun _ _ _ _ h => h)) (pa_cons (pv 1) (pa_cons (pv 9) (pa_cons (pv 6) pa_nil)))))) pa_nil))) (pss_cons (ps_expr (pe_bm PySem.F.plainAttrs_list PySem.F.slot_list_append PySem.F.type_list_append mt_append (pv 10) (pa_cons (pe_lamF (k := 5) (TT := TTw (tab5c T.cl)) (t := fun E => tCall (spD (vals 3) (D_unlike T.cl)) [] E (tCons (tVar 9) (tCons (tVar 1) (tCons (tVar 6) tNil)))) (by rfl) T.g_l_word T.F_l_word T.b_l_word sc_l_word (by rfl) (by first | exact Or.inl rfl | exact Or.inr (Or.inl rfl)) (fun cdv => word_gives (X := (cxOf CX0 P w K mg base N_l_views_refused "_law_views_refused" (defScope s_l_views_refused) T.f_l_views_refused (.ref T.cc_l_views_refused) A outer s H E).nox) T fa) tb_l_views_refused rfl T.tm_l_views_refused T.tu_l_views_refused (hr.mono (by decide)) (LamX.lamS_by (by first | kernel_rfl | rfl)) (by rfl) (fun _ _ _ _ _ => rfl) (fun A outer s H E f d hr => (pe_call G_unlike hr (by rfl) T.g_unlike T.F_unlike.kp T.b_unlike .nil (L2N.passes_call (L2N.takes_of rfl rfl rfl rfl) (fun _ _ _ _ h => h)) (pa_cons (pv 9) (pa_cons (pv 1) (pa_cons (pv 6) pa_nil)))))) pa_nil))) (pss_cons (ps_if (pt_cmpR (op_neD hr.units) (pv 10) (pe_lst (pa_cons (pv 8) (pa_cons (pv 8) pa_nil))) (nomark _)) (pss_one (ps_ret pe_bl)) pss_nil) (pss_cons (ps_if (pt_cmpR (op_neD hr.units) (pe_lamF (k := 5) (TT := TTw (tab5c T.cl)) (t := fun E => tCall (spD (vals 1) (D_distance T.cl)) [] E (tCons (tVar 6) tNil)) (by rfl) T.g_l_word T.F_l_word T.b_l_word sc_l_word (by rfl) (by first | exact Or.inl rfl | exact Or.inr (Or.inl rfl)) (fun cdv => word_gives (X := (cxOf CX0 P w K mg base N_l_views_refused "_law_views_refused" (defScope s_l_views_refused) T.f_l_views_refused (.ref T.cc_l_views_refused) A outer s H E).nox) T fa) tb_l_views_refused rfl T.tm_l_views_refused T.tu_l_views_refused (hr.mono (by decide)) (LamX.lamS_by (by first | kernel_rfl | rfl)) (by rfl) (fun _ _ _ _ _ => rfl) (fun A outer s H E f d hr => (pe_call G_distance hr (by rfl) T.g_distance T.F_distance.kp T.b_distance .nil (L2N.passes_call (L2N.takes_of rfl rfl rfl rfl) (fun _ _ _ _ h => h)) (pa_cons (pv 6) pa_nil)))) (pe_ifExp (pt_val (pv 7)) pe_str pe_str) (nomark _)) (pss_one (ps_ret pe_bl)) pss_nil) (pss_cons (ps_set (i := 11) nd rfl (Or.inr rfl) (pe_call G_l_pick (hr.mono (by decide)) (by rfl) T.g_l_pick T.F_l_pick.kp T.b_l_pick .nil pass0 (pa_cons (pv 0) (pa_cons (pe_lst (pa_cons (pe_call G_l_odd (hr.mono (by decide)) (by rfl) T.g_l_odd T.F_l_odd.kp T.b_l_odd .nil pass0 (pa_cons (pv 0) (pa_cons pe_int pa_nil))) (pa_cons pe_int (pa_cons pe_int (pa_cons pe_int (pa_cons pe_int pa_nil)))))) pa_nil)))) (pss_cons (ps_set (i := 8) nd rfl (Or.inl rfl) (pe_ifExp (pt_not (pt_val (pv 7))) pe_str (pe_ifExp (pt_val (pe_call G_l_is_number (hr.mono (by decide)) (by rfl) T.g_l_is_number T.F_l_is_number.kp T.b_l_is_number .nil pass0 (pa_cons (pv 11) (pa_cons pe_int (pa_cons pe_int pa_nil))))) pe_str pe_str))) (pss_one (ps_ret (pe_cmpR (op_eqD hr.units) (pe_lamF (k := 5) (TT := TTw (tab5c T.cl)) (t := fun E => tCall (spD (vals 2) (D_twins T.cl)) [] E (tCons (tVar 6) (tCons (tVar 11) tNil))) (by rfl) T.g_l_word T.F_l_word T.b_l_word sc_l_word (by rfl) (by first | exact Or.inl rfl | exact Or.inr (Or.inl rfl)) (fun cdv => word_gives (X := (cxOf CX0 P w K mg base N_l_views_refused "_law_views_refused" (defScope s_l_views_refused) T.f_l_views_refused (.ref T.cc_l_views_refused) A outer s H E).nox) T fa) tb_l_views_refused rfl T.tm_l_views_refused T.tu_l_views_refused (hr.mono (by decide)) (LamX.lamS_by (by first | kernel_rfl | rfl)) (by rfl) (fun _ _ _ _ _ => rfl) (fun A outer s H E f d hr => (pe_call G_twins hr (by rfl) T.g_twins T.F_twins.kp T.b_twins .nil (L2N.passes_call (L2N.takes_of rfl rfl rfl rfl) (fun _ _ _ _ h => h)) (pa_cons (pv 6) (pa_cons (pv 11) pa_nil))))) (pv 8) (nomark _)))))))))))))))))), fn_ok (N := N_l_views_refused) (t := fun E => u_l_views_refused K T.cl) rfl (fun E => sim_l_views_refused fa E) h⟩
theorem ok_law (T : Txt K mg) (fa : Fa K T.cl) (G_Tree_init : FnOk P w K mg base CX0 3 T.f_Tree_init T.fd_Tree_init ["self", "hung"] (spD (true :: vals 1) (D_Tree_init T.cl))) (G_l_draw : FnOk P w K mg base CX0 1 T.f_l_draw T.fd_l_draw ["_law_pool_here", "_law_many"] (spD (true :: vals 1) (D_l_draw T.cl))) (G_l_hung : FnOk P w K mg base CX0 3 T.f_l_hung T.fd_l_hung ["_law_pool_here", "_law_many"] (spD (true :: vals 1) (D_l_hung T.cl))) (G_l_is : FnOk P w K mg base CX0 2 T.f_l_is T.fd_l_is ["_law_told", "_law_due"] (spD (vals 2) (D_l_is T.cl 2))) (G_l_is_number : FnOk P w K mg base CX0 1 T.f_l_is_number T.fd_l_is_number ["_law_thing", "_law_least", "_law_most"] (spD (vals 3) (D_l_is_number T.cl))) (G_l_odd : FnOk P w K mg base CX0 3 T.f_l_odd T.fd_l_odd ["_law_pool_here", "_law_most"] (spD (true :: vals 1) (D_l_odd T.cl))) (G_l_order_refused : FnOk P w K mg base CX0 8 T.f_l_order_refused T.fd_l_order_refused ["_law_pool_here", "_law_tree", "_law_many"] (spD (true :: vals 2) (D_l_order_refused T.cl))) (G_l_pool : FnOk P w K mg base CX0 1 T.f_l_pool T.fd_l_pool ["_law_script"] (spHead K PoolOk)) (G_l_views_refused : FnOk P w K mg base CX0 8 T.f_l_views_refused T.fd_l_views_refused ["_law_pool_here", "_law_tree", "_law_place", "_law_is_place"] (spD (true :: vals 3) (D_l_views_refused T.cl))) (G_l_way : FnOk P w K mg base CX0 1 T.f_l_way T.fd_l_way ["_law_hung_here", "_law_place"] (spD (vals 2) (D_l_way T.cl))) (G_beneathT : FnOk P w K mg base (L2N.CX P w) 4 T.f_beneathT T.fd_beneathT ["tree", "place"] (spD (vals 2) (D_beneathT T.cl))) (G_moved : FnOk P w K mg base (L2N.CX P w) 5 T.f_moved T.fd_moved ["tree", "block", "place"] (spD (vals 3) (D_moved T.cl))) (G_parentsT : FnOk P w K mg base (L2N.CX P w) 4 T.f_parentsT T.fd_parentsT ["tree", "block"] (spD (vals 2) (D_parentsT T.cl))) (G_place_of : FnOk P w K mg base (L2N.CX P w) 4 T.f_place_of T.fd_place_of ["tree", "block"] (spD (vals 2) (D_place_of T.cl))) (G_under : FnOk P w K mg base (L2N.CX P w) 4 T.f_under T.fd_under ["tree", "place"] (spD (vals 2) (D_under T.cl))) (tb_law : LamX.TabB base mg T.cc_law T.P_law) : FnOk P w K mg base CX0 9 T.f_law T.fd_law ["_law_script"] (spLaw K) := by
  refine T.FC_law.ok sc_law (fun vs H Q E h => len_law h) (fun A outer s H vs Q E hr h => ?_)
  have nd := sc_law.nd
  exact ⟨u_law K T.cl, (pss_cons (ps_set (i := 1) nd rfl (Or.inl rfl) (pe_call G_l_pool (hr.mono (by decide)) (by rfl) T.g_l_pool T.F_l_pool.kp T.b_l_pool .nil pass0 (pa_cons (pv 0) pa_nil))) (pss_cons (ps_for PassesOwn.never rfl (pi_range1 (by rfl) T.z_range (pa_cons pe_int pa_nil)) (pg_name (i := 2) nd rfl (Or.inl rfl)) (pss_cons (ps_set (i := 3) nd rfl (Or.inl rfl) (pe_op op_addG pe_int (pe_call G_l_draw (hr.mono (by decide)) (by rfl) T.g_l_draw T.F_l_draw.kp T.b_l_draw .nil pass0 (pa_cons (pv 1) (pa_cons pe_int pa_nil))))) (pss_cons (ps_set (i := 4) nd rfl (Or.inl rfl) (pe_call G_l_hung (hr.mono (by decide)) (by rfl) T.g_l_hung T.F_l_hung.kp T.b_l_hung .nil pass0 (pa_cons (pv 1) (pa_cons (pv 3) pa_nil)))) (pss_cons (ps_set (i := 5) nd rfl (Or.inr rfl) (pe_make T.M_Tree G_Tree_init (hr.mono (by decide)) (by rfl) T.g_Tree T.b_Tree_init .nil pass0 (pa_cons (pv 4) pa_nil))) (pss_cons (ps_asg (pe_tup (pa_cons (pe_call G_l_odd (hr.mono (by decide)) (by rfl) T.g_l_odd T.F_l_odd.kp T.b_l_odd .nil pass0 (pa_cons (pv 1) (pa_cons (pv 3) pa_nil))) (pa_cons (pe_call G_l_odd (hr.mono (by decide)) (by rfl) T.g_l_odd T.F_l_odd.kp T.b_l_odd .nil pass0 (pa_cons (pv 1) (pa_cons (pv 3) pa_nil))) pa_nil))) (pg_tup rfl (pgs_cons (pg_name (i := 6) nd rfl (Or.inr rfl)) (pgs_cons (pg_name (i := 7) nd rfl (Or.inr rfl)) pgs_nil)))) (pss_cons (ps_par (by rfl) nd rfl rfl (by decide) rfl rfl (pa_cons (pe_call G_l_is_number (hr.mono (by decide)) (by rfl) T.g_l_is_number T.F_l_is_number.kp T.b_l_is_number .nil pass0 (pa_cons (pv 6) (pa_cons pe_int (pa_cons (pv 3) pa_nil)))) (pa_cons (pe_call G_l_is_number (hr.mono (by decide)) (by rfl) T.g_l_is_number T.F_l_is_number.kp T.b_l_is_number .nil pass0 (pa_cons (pv 7) (pa_cons pe_int (pa_cons (pv 3) pa_nil)))) pa_nil)) (by rfl)) (pss_cons (ps_set (i := 10) nd rfl (Or.inl rfl) (pe_ifExp (pt_val (pv 8)) pe_str pe_str)) (pss_cons (ps_set (i := 11) nd rfl (Or.inl rfl) (pe_lst (pa_cons (pe_lamF (k := 4) (TT := TTw (tab5c T.cl)) (t := fun E => tCall (spD (vals 2) (D_place_of T.cl)) [] E (tCons (tVar 5) (tCons (tVar 6) tNil))) (by rfl) T.g_l_word T.F_l_word T.b_l_word sc_l_word (by rfl) (by first | exact Or.inl rfl | exact Or.inr (Or.inl rfl)) (fun cdv => word_gives (X := (cxOf CX0 P w K mg base N_law "law" (defScope s_law) T.f_law (.ref T.cc_law) A outer s H E).nox) T fa) tb_law rfl T.tm_law T.tu_law (hr.mono (by decide)) (LamX.lamS_by (by first | kernel_rfl | rfl)) (by rfl) (fun _ _ _ _ _ => rfl) (fun A outer s H E f d hr => (pe_call G_place_of hr (by rfl) T.g_place_of T.F_place_of.kp T.b_place_of .nil (L2N.passes_call (L2N.takes_of rfl rfl rfl rfl) (fun _ _ _ _ h => h)) (pa_cons (pv 5) (pa_cons (pv 6) pa_nil))))) pa_nil))) (pss_cons (ps_expr (pe_bm PySem.F.plainAttrs_list PySem.F.slot_list_append PySem.F.type_list_append mt_append (pv 11) (pa_cons (pe_lamF (k := 4) (TT := TTw (tab5c T.cl)) (t := fun E => tCall (spD (vals 2) (D_parentsT T.cl)) [] E (tCons (tVar 5) (tCons (tVar 6) tNil))) (by rfl) T.g_l_word T.F_l_word T.b_l_word sc_l_word (by rfl) (by first | exact Or.inl rfl | exact Or.inr (Or.inl rfl)) (fun cdv => word_gives (X := (cxOf CX0 P w K mg base N_law "law" (defScope s_law) T.f_law (.ref T.cc_law) A outer s H E).nox) T fa) tb_law rfl T.tm_law T.tu_law (hr.mono (by decide)) (LamX.lamS_by (by first | kernel_rfl | rfl)) (by rfl) (fun _ _ _ _ _ => rfl) (fun A outer s H E f d hr => (pe_call G_parentsT hr (by rfl) T.g_parentsT T.F_parentsT.kp T.b_parentsT .nil (L2N.passes_call (L2N.takes_of rfl rfl rfl rfl) (fun _ _ _ _ h => h)) (pa_cons (pv 5) (pa_cons (pv 6) pa_nil))))) pa_nil))) (pss_cons (ps_if (pt_cmpR (op_neD hr.units) (pv 11) (pe_lst (pa_cons (pv 10) (pa_cons (pv 10) pa_nil))) (nomark _)) (pss_one (ps_ret pe_bl)) pss_nil) (pss_cons (ps_set (i := 10) nd rfl (Or.inl rfl) (pe_ifExp (pt_val (pv 9)) pe_str pe_str)) (pss_cons (ps_set (i := 11) nd rfl (Or.inl rfl) (pe_lst (pa_cons (pe_lamF (k := 4) (TT := TTw (tab5c T.cl)) (t := fun E => tCall (spD (vals 2) (D_under T.cl)) [] E (tCons (tVar 5) (tCons (tVar 7) tNil))) (by rfl) T.g_l_word T.F_l_word T.b_l_word sc_l_word (by rfl) (by first | exact Or.inl rfl | exact Or.inr (Or.inl rfl)) (fun cdv => word_gives (X := (cxOf CX0 P w K mg base N_law "law" (defScope s_law) T.f_law (.ref T.cc_law) A outer s H E).nox) T fa) tb_law rfl T.tm_law T.tu_law (hr.mono (by decide)) (LamX.lamS_by (by first | kernel_rfl | rfl)) (by rfl) (fun _ _ _ _ _ => rfl) (fun A outer s H E f d hr => (pe_call G_under hr (by rfl) T.g_under T.F_under.kp T.b_under .nil (L2N.passes_call (L2N.takes_of rfl rfl rfl rfl) (fun _ _ _ _ h => h)) (pa_cons (pv 5) (pa_cons (pv 7) pa_nil))))) pa_nil))) (pss_cons (ps_expr (pe_bm PySem.F.plainAttrs_list PySem.F.slot_list_append PySem.F.type_list_append mt_append (pv 11) (pa_cons (pe_lamF (k := 4) (TT := TTw (tab5c T.cl)) (t := fun E => tCall (spD (vals 2) (D_beneathT T.cl)) [] E (tCons (tVar 5) (tCons (tVar 7) tNil))) (by rfl) T.g_l_word T.F_l_word T.b_l_word sc_l_word (by rfl) (by first | exact Or.inl rfl | exact Or.inr (Or.inl rfl)) (fun cdv => word_gives (X := (cxOf CX0 P w K mg base N_law "law" (defScope s_law) T.f_law (.ref T.cc_law) A outer s H E).nox) T fa) tb_law rfl T.tm_law T.tu_law (hr.mono (by decide)) (LamX.lamS_by (by first | kernel_rfl | rfl)) (by rfl) (fun _ _ _ _ _ => rfl) (fun A outer s H E f d hr => (pe_call G_beneathT hr (by rfl) T.g_beneathT T.F_beneathT.kp T.b_beneathT .nil (L2N.passes_call (L2N.takes_of rfl rfl rfl rfl) (fun _ _ _ _ h => h)) (pa_cons (pv 5) (pa_cons (pv 7) pa_nil))))) pa_nil))) (pss_cons (ps_if (pt_cmpR (op_neD hr.units) (pv 11) (pe_lst (pa_cons (pv 10) (pa_cons (pv 10) pa_nil))) (nomark _)) (pss_one (ps_ret pe_bl)) pss_nil) (pss_cons (ps_set (i := 10) nd rfl (Or.inl rfl) (pe_ifExp (pt_not (pt_val (pv 8))) pe_str (pe_ifExp (pt_val (pv 9)) pe_str pe_str))) (pss_cons (ps_if (PW.pt (pw_and (pt_cmpR (op_eqD hr.units) (pv 10) pe_str (nomark _)) (pw_and1 (PW.pt (pw_or (pt_cmpR (op_eqD hr.units) (pv 7) (pv 6) (nomark _)) (pw_or1 (pt_cmpR op_in_seq (pv 6) (pe_call G_l_way (hr.mono (by decide)) (by rfl) T.g_l_way T.F_l_way.kp T.b_l_way .nil pass0 (pa_cons (pv 4) (pa_cons (pv 7) pa_nil))) (by rfl)))))))) (pss_one (ps_set (i := 10) nd rfl (Or.inl rfl) pe_str)) pss_nil) (pss_cons (ps_if (pt_cmpR (op_neD hr.units) (pe_lamF (k := 5) (TT := TTw (tab5c T.cl)) (t := fun E => tCall (spD (vals 3) (D_moved T.cl)) [] E (tCons (tVar 5) (tCons (tVar 6) (tCons (tVar 7) tNil)))) (by rfl) T.g_l_word T.F_l_word T.b_l_word sc_l_word (by rfl) (by first | exact Or.inl rfl | exact Or.inr (Or.inl rfl)) (fun cdv => word_gives (X := (cxOf CX0 P w K mg base N_law "law" (defScope s_law) T.f_law (.ref T.cc_law) A outer s H E).nox) T fa) tb_law rfl T.tm_law T.tu_law (hr.mono (by decide)) (LamX.lamS_by (by first | kernel_rfl | rfl)) (by rfl) (fun _ _ _ _ _ => rfl) (fun A outer s H E f d hr => (pe_call G_moved hr (by rfl) T.g_moved T.F_moved.kp T.b_moved .nil (L2N.passes_call (L2N.takes_of rfl rfl rfl rfl) (fun _ _ _ _ h => h)) (pa_cons (pv 5) (pa_cons (pv 6) (pa_cons (pv 7) pa_nil)))))) (pv 10) (nomark _)) (pss_one (ps_ret pe_bl)) pss_nil) (pss_cons (ps_if (PW.pt (pw_or (pt_not (pt_val (pe_call G_l_order_refused (hr.mono (by decide)) (by rfl) T.g_l_order_refused T.F_l_order_refused.kp T.b_l_order_refused .nil pass0 (pa_cons (pv 1) (pa_cons (pv 5) (pa_cons (pv 3) pa_nil)))))) (pw_or1 (pt_not (pt_val (pe_call G_l_views_refused (hr.mono (by decide)) (by rfl) T.g_l_views_refused T.F_l_views_refused.kp T.b_l_views_refused .nil pass0 (pa_cons (pv 1) (pa_cons (pv 5) (pa_cons (pv 7) (pa_cons (pv 9) pa_nil)))))))))) (pss_one (ps_ret pe_bl)) pss_nil) (pss_one (ps_if (pt_not (pt_val (pe_call G_l_is (hr.mono (by decide)) (by rfl) T.g_l_is T.F_l_is.kp T.b_l_is .nil pass0 (pa_cons (pe_fld (pv 5) rfl) (pa_cons (pv 4) pa_nil))))) (pss_one (ps_ret pe_bl)) pss_nil)))))))))))))))))))) (pss_one (ps_ret pe_bl)))), pure_law fa h⟩
end
def allStr (es : Array DictEntry) : Bool := es.toList.all fun e => match e.key with | .str _ _ => true | _ => false
theorem ns_ok {K : PySem.W.Frag} {N : Addr} {c : Value} {d : Option Addr} {es : Array DictEntry} {n : Nat} {sl : Array (Option Value)} (h : K.lookup N = some ⟨c, d, .dict es n, sl⟩) (q : allStr es = true) : PySem.W.nsOkIn K N = true := by
  unfold PySem.W.nsOkIn
  rw [h]
  unfold allStr at q
  rw [Array.all_toList] at q
  exact q
theorem all_mk {l : PySem.W.OpenLaw} {w : World} {K : PySem.W.Frag} {h : Heap} {mg : Str → Option Value} {fa : Addr} (X : K.In h) (G : h.Ns mainGlobals mg) (hfa : mg "law" = some (.ref fa))
    {k_HEAD : Tok}
    {k_MOST_BLOCKS : Tok}
    {k_MOST_STEPS : Tok}
    {C_Tree : Addr}
    {C_NoBlock : Addr}
    {C_NoPlace : Addr}
    {C_Beneath : Addr}
    {C_NoOrder : Addr}
    {C_NoView : Addr}
    {C_OtherBlocks : Addr}
    {C_NoNumber : Addr}
    {C_VoteError : Addr}
    {f_is_integer : Addr} {od_is_integer an_is_integer : Option Addr} {sl_is_integer : Array (Option Value)} {oc_is_integer kV_is_integer dc_is_integer pm_is_integer cd_is_integer ct_is_integer : Value}
    {f_is_within : Addr} {od_is_within an_is_within : Option Addr} {sl_is_within : Array (Option Value)} {oc_is_within kV_is_within dc_is_within pm_is_within cd_is_within ct_is_within : Value}
    {f_is_pair : Addr} {od_is_pair an_is_pair : Option Addr} {sl_is_pair : Array (Option Value)} {oc_is_pair kV_is_pair dc_is_pair pm_is_pair cd_is_pair ct_is_pair : Value}
    {f_is_view : Addr} {od_is_view an_is_view : Option Addr} {sl_is_view : Array (Option Value)} {oc_is_view kV_is_view dc_is_view pm_is_view cd_is_view ct_is_view : Value}
    {f_check_block : Addr} {od_check_block an_check_block : Option Addr} {sl_check_block : Array (Option Value)} {oc_check_block kV_check_block dc_check_block pm_check_block cd_check_block ct_check_block : Value}
    {f_check_place : Addr} {od_check_place an_check_place : Option Addr} {sl_check_place : Array (Option Value)} {oc_check_place kV_check_place dc_check_place pm_check_place cd_check_place ct_check_place : Value}
    {f_check_view : Addr} {od_check_view an_check_view : Option Addr} {sl_check_view : Array (Option Value)} {oc_check_view kV_check_view dc_check_view pm_check_view cd_check_view ct_check_view : Value}
    {f_check_number : Addr} {od_check_number an_check_number : Option Addr} {sl_check_number : Array (Option Value)} {oc_check_number kV_check_number dc_check_number pm_check_number cd_check_number ct_check_number : Value}
    {f_leads_home : Addr} {od_leads_home an_leads_home : Option Addr} {sl_leads_home : Array (Option Value)} {oc_leads_home kV_leads_home dc_leads_home pm_leads_home cd_leads_home ct_leads_home : Value}
    {f_Tree_init : Addr} {od_Tree_init an_Tree_init : Option Addr} {sl_Tree_init : Array (Option Value)} {oc_Tree_init kV_Tree_init dc_Tree_init pm_Tree_init cd_Tree_init ct_Tree_init : Value}
    {f_Tree_eq : Addr} {od_Tree_eq an_Tree_eq : Option Addr} {sl_Tree_eq : Array (Option Value)} { kV_Tree_eq dc_Tree_eq pm_Tree_eq cd_Tree_eq ct_Tree_eq : Value}
    {f_place_of : Addr} {od_place_of an_place_of : Option Addr} {sl_place_of : Array (Option Value)} {oc_place_of kV_place_of dc_place_of pm_place_of cd_place_of ct_place_of : Value}
    {f_parents_in : Addr} {od_parents_in an_parents_in : Option Addr} {sl_parents_in : Array (Option Value)} {oc_parents_in kV_parents_in dc_parents_in pm_parents_in cd_parents_in ct_parents_in : Value}
    {f_parentsT : Addr} {od_parentsT an_parentsT : Option Addr} {sl_parentsT : Array (Option Value)} {oc_parentsT kV_parentsT dc_parentsT pm_parentsT cd_parentsT ct_parentsT : Value}
    {f_hanging : Addr} {od_hanging an_hanging : Option Addr} {sl_hanging : Array (Option Value)} {oc_hanging kV_hanging dc_hanging pm_hanging cd_hanging ct_hanging : Value}
    {f_under : Addr} {od_under an_under : Option Addr} {sl_under : Array (Option Value)} {oc_under kV_under dc_under pm_under cd_under ct_under : Value}
    {f_beneath_in : Addr} {od_beneath_in an_beneath_in : Option Addr} {sl_beneath_in : Array (Option Value)} {oc_beneath_in kV_beneath_in dc_beneath_in pm_beneath_in cd_beneath_in ct_beneath_in : Value}
    {f_beneathT : Addr} {od_beneathT an_beneathT : Option Addr} {sl_beneathT : Array (Option Value)} {oc_beneathT kV_beneathT dc_beneathT pm_beneathT cd_beneathT ct_beneathT : Value}
    {f_with_place : Addr} {od_with_place an_with_place : Option Addr} {sl_with_place : Array (Option Value)} {oc_with_place kV_with_place dc_with_place pm_with_place cd_with_place ct_with_place : Value}
    {f_moved : Addr} {od_moved an_moved : Option Addr} {sl_moved : Array (Option Value)} {oc_moved kV_moved dc_moved pm_moved cd_moved ct_moved : Value}
    {f_called : Addr} {od_called an_called : Option Addr} {sl_called : Array (Option Value)} {oc_called kV_called dc_called pm_called cd_called ct_called : Value}
    {f_ties_down : Addr} {od_ties_down an_ties_down : Option Addr} {sl_ties_down : Array (Option Value)} {oc_ties_down kV_ties_down dc_ties_down pm_ties_down cd_ties_down ct_ties_down : Value}
    {f_raw_telling : Addr} {od_raw_telling an_raw_telling : Option Addr} {sl_raw_telling : Array (Option Value)} {oc_raw_telling kV_raw_telling dc_raw_telling pm_raw_telling cd_raw_telling ct_raw_telling : Value}
    {f_telling : Addr} {od_telling an_telling : Option Addr} {sl_telling : Array (Option Value)} {oc_telling kV_telling dc_telling pm_telling cd_telling ct_telling : Value}
    {f_raw_tellings : Addr} {od_raw_tellings an_raw_tellings : Option Addr} {sl_raw_tellings : Array (Option Value)} {oc_raw_tellings kV_raw_tellings dc_raw_tellings pm_raw_tellings cd_raw_tellings ct_raw_tellings : Value}
    {f_unlike : Addr} {od_unlike an_unlike : Option Addr} {sl_unlike : Array (Option Value)} {oc_unlike kV_unlike dc_unlike pm_unlike cd_unlike ct_unlike : Value}
    {f_raw_distance : Addr} {od_raw_distance an_raw_distance : Option Addr} {sl_raw_distance : Array (Option Value)} {oc_raw_distance kV_raw_distance dc_raw_distance pm_raw_distance cd_raw_distance ct_raw_distance : Value}
    {f_distance : Addr} {od_distance an_distance : Option Addr} {sl_distance : Array (Option Value)} {oc_distance kV_distance dc_distance pm_distance cd_distance ct_distance : Value}
    {f_twins : Addr} {od_twins an_twins : Option Addr} {sl_twins : Array (Option Value)} {oc_twins kV_twins dc_twins pm_twins cd_twins ct_twins : Value}
    {f_l_pool : Addr} {od_l_pool an_l_pool : Option Addr} {sl_l_pool : Array (Option Value)} {oc_l_pool kV_l_pool dc_l_pool pm_l_pool cd_l_pool ct_l_pool : Value}
    {f_l_draw : Addr} {od_l_draw an_l_draw : Option Addr} {sl_l_draw : Array (Option Value)} {oc_l_draw kV_l_draw dc_l_draw pm_l_draw cd_l_draw ct_l_draw : Value}
    {f_l_pick : Addr} {od_l_pick an_l_pick : Option Addr} {sl_l_pick : Array (Option Value)} {oc_l_pick kV_l_pick dc_l_pick pm_l_pick cd_l_pick ct_l_pick : Value}
    {f_l_is : Addr} {od_l_is an_l_is : Option Addr} {sl_l_is : Array (Option Value)} {oc_l_is kV_l_is dc_l_is pm_l_is cd_l_is ct_l_is : Value}
    {f_l_deep : Addr} {od_l_deep an_l_deep : Option Addr} {sl_l_deep : Array (Option Value)} {oc_l_deep kV_l_deep dc_l_deep pm_l_deep cd_l_deep ct_l_deep : Value}
    {f_l_is_number : Addr} {od_l_is_number an_l_is_number : Option Addr} {sl_l_is_number : Array (Option Value)} {oc_l_is_number kV_l_is_number dc_l_is_number pm_l_is_number cd_l_is_number ct_l_is_number : Value}
    {f_l_mixed : Addr} {od_l_mixed an_l_mixed : Option Addr} {sl_l_mixed : Array (Option Value)} {oc_l_mixed kV_l_mixed dc_l_mixed pm_l_mixed cd_l_mixed ct_l_mixed : Value}
    {f_l_hung : Addr} {od_l_hung an_l_hung : Option Addr} {sl_l_hung : Array (Option Value)} {oc_l_hung kV_l_hung dc_l_hung pm_l_hung cd_l_hung ct_l_hung : Value}
    {f_l_way : Addr} {od_l_way an_l_way : Option Addr} {sl_l_way : Array (Option Value)} {oc_l_way kV_l_way dc_l_way pm_l_way cd_l_way ct_l_way : Value}
    {f_l_odd : Addr} {od_l_odd an_l_odd : Option Addr} {sl_l_odd : Array (Option Value)} {oc_l_odd kV_l_odd dc_l_odd pm_l_odd cd_l_odd ct_l_odd : Value}
    {f_l_word : Addr} {od_l_word an_l_word : Option Addr} {sl_l_word : Array (Option Value)} {oc_l_word kV_l_word dc_l_word pm_l_word cd_l_word ct_l_word : Value}
    {f_l_order_refused : Addr} {od_l_order_refused an_l_order_refused : Option Addr} {sl_l_order_refused : Array (Option Value)} {oc_l_order_refused kV_l_order_refused dc_l_order_refused pm_l_order_refused  ct_l_order_refused : Value}
    {cc_l_order_refused P_l_order_refused : Addr} {cod_l_order_refused : Option Addr} {cvs_l_order_refused : Array Value} {csl_l_order_refused : Array (Option Value)}
    {f_l_views_refused : Addr} {od_l_views_refused an_l_views_refused : Option Addr} {sl_l_views_refused : Array (Option Value)} {oc_l_views_refused kV_l_views_refused dc_l_views_refused pm_l_views_refused  ct_l_views_refused : Value}
    {cc_l_views_refused P_l_views_refused : Addr} {cod_l_views_refused : Option Addr} {cvs_l_views_refused : Array Value} {csl_l_views_refused : Array (Option Value)}
    {f_law : Addr} {od_law an_law : Option Addr} {sl_law : Array (Option Value)} {oc_law kV_law dc_law pm_law  ct_law : Value}
    {cc_law P_law : Addr} {cod_law : Option Addr} {cvs_law : Array Value} {csl_law : Array (Option Value)}
    {nm_Tree qn_Tree : Str} {N_Tree : Addr} {bs_Tree sub_Tree : List Value} {sn_Tree : List Str} {ab_Tree hd0_Tree : Bool} {col_Tree : Option Bool} {dd_Tree : Option Addr} {m0_Tree m1_Tree m2_Tree m3_Tree m5_Tree : Option Value} {new_Tree : String}
    {nc_Tree : Value} {nd_Tree : Option Addr} {es_Tree : Array DictEntry} {en_Tree : Nat} {ns_Tree : Array (Option Value)}
    {nm_NoBlock qn_NoBlock : Str} {N_NoBlock : Addr} {bs_NoBlock sub_NoBlock : List Value} {sn_NoBlock : List Str} {ab_NoBlock : Bool} {col_NoBlock : Option Bool} {dd_NoBlock : Option Addr} {m0_NoBlock m1_NoBlock m2_NoBlock m3_NoBlock m5_NoBlock : Option Value}
    {nm_NoPlace qn_NoPlace : Str} {N_NoPlace : Addr} {bs_NoPlace sub_NoPlace : List Value} {sn_NoPlace : List Str} {ab_NoPlace : Bool} {col_NoPlace : Option Bool} {dd_NoPlace : Option Addr} {m0_NoPlace m1_NoPlace m2_NoPlace m3_NoPlace m5_NoPlace : Option Value}
    {nm_Beneath qn_Beneath : Str} {N_Beneath : Addr} {bs_Beneath sub_Beneath : List Value} {sn_Beneath : List Str} {ab_Beneath : Bool} {col_Beneath : Option Bool} {dd_Beneath : Option Addr} {m0_Beneath m1_Beneath m2_Beneath m3_Beneath m5_Beneath : Option Value}
    {nm_NoOrder qn_NoOrder : Str} {N_NoOrder : Addr} {bs_NoOrder sub_NoOrder : List Value} {sn_NoOrder : List Str} {ab_NoOrder : Bool} {col_NoOrder : Option Bool} {dd_NoOrder : Option Addr} {m0_NoOrder m1_NoOrder m2_NoOrder m3_NoOrder m5_NoOrder : Option Value}
    {nm_NoView qn_NoView : Str} {N_NoView : Addr} {bs_NoView sub_NoView : List Value} {sn_NoView : List Str} {ab_NoView : Bool} {col_NoView : Option Bool} {dd_NoView : Option Addr} {m0_NoView m1_NoView m2_NoView m3_NoView m5_NoView : Option Value}
    {nm_OtherBlocks qn_OtherBlocks : Str} {N_OtherBlocks : Addr} {bs_OtherBlocks sub_OtherBlocks : List Value} {sn_OtherBlocks : List Str} {ab_OtherBlocks : Bool} {col_OtherBlocks : Option Bool} {dd_OtherBlocks : Option Addr} {m0_OtherBlocks m1_OtherBlocks m2_OtherBlocks m3_OtherBlocks m5_OtherBlocks : Option Value}
    {nm_NoNumber qn_NoNumber : Str} {N_NoNumber : Addr} {bs_NoNumber sub_NoNumber : List Value} {sn_NoNumber : List Str} {ab_NoNumber : Bool} {col_NoNumber : Option Bool} {dd_NoNumber : Option Addr} {m0_NoNumber m1_NoNumber m2_NoNumber m3_NoNumber m5_NoNumber : Option Value}
    {nm_VoteError qn_VoteError : Str} {N_VoteError : Addr} {bs_VoteError sub_VoteError : List Value} {sn_VoteError : List Str} {ab_VoteError : Bool} {col_VoteError : Option Bool} {dd_VoteError : Option Addr} {m0_VoteError m1_VoteError m2_VoteError m3_VoteError m5_VoteError : Option Value}
    (z_ValueError : PySem.W.nsIn K mainGlobals "ValueError" = some none)
    (z_abs : PySem.W.nsIn K mainGlobals "abs" = some none)
    (z_all : PySem.W.nsIn K mainGlobals "all" = some none)
    (z_bool : PySem.W.nsIn K mainGlobals "bool" = some none)
    (z_dict : PySem.W.nsIn K mainGlobals "dict" = some none)
    (z_int : PySem.W.nsIn K mainGlobals "int" = some none)
    (z_isinstance : PySem.W.nsIn K mainGlobals "isinstance" = some none)
    (z_len : PySem.W.nsIn K mainGlobals "len" = some none)
    (z_list : PySem.W.nsIn K mainGlobals "list" = some none)
    (z_range : PySem.W.nsIn K mainGlobals "range" = some none)
    (z_sorted : PySem.W.nsIn K mainGlobals "sorted" = some none)
    (z_tuple : PySem.W.nsIn K mainGlobals "tuple" = some none)
    (c_HEAD : PySem.W.nsIn K mainGlobals "HEAD" = some (some (.int 0 k_HEAD)))
    (c_MOST_BLOCKS : PySem.W.nsIn K mainGlobals "MOST_BLOCKS" = some (some (.int 40 k_MOST_BLOCKS)))
    (c_MOST_STEPS : PySem.W.nsIn K mainGlobals "MOST_STEPS" = some (some (.int 4 k_MOST_STEPS)))
    (a_Tree : PySem.W.nsIn K mainGlobals "Tree" = some (some (.ref C_Tree)))
    (a_NoBlock : PySem.W.nsIn K mainGlobals "NoBlock" = some (some (.ref C_NoBlock)))
    (a_NoPlace : PySem.W.nsIn K mainGlobals "NoPlace" = some (some (.ref C_NoPlace)))
    (a_Beneath : PySem.W.nsIn K mainGlobals "Beneath" = some (some (.ref C_Beneath)))
    (a_NoOrder : PySem.W.nsIn K mainGlobals "NoOrder" = some (some (.ref C_NoOrder)))
    (a_NoView : PySem.W.nsIn K mainGlobals "NoView" = some (some (.ref C_NoView)))
    (a_OtherBlocks : PySem.W.nsIn K mainGlobals "OtherBlocks" = some (some (.ref C_OtherBlocks)))
    (a_NoNumber : PySem.W.nsIn K mainGlobals "NoNumber" = some (some (.ref C_NoNumber)))
    (a_VoteError : PySem.W.nsIn K mainGlobals "VoteError" = some (some (.ref C_VoteError)))
    (a_is_integer : PySem.W.nsIn K mainGlobals "is_integer" = some (some (.ref f_is_integer)))
    (l_is_integer : K.lookup f_is_integer = some ⟨oc_is_integer, od_is_integer, .func (PySem.W.fnOf "is_integer" "is_integer" (defArgs s_is_integer) (defBody s_is_integer) (defScope s_is_integer) .none kV_is_integer dc_is_integer pm_is_integer an_is_integer cd_is_integer ct_is_integer), sl_is_integer⟩)
    (d_is_integer : PySem.W.codeIn K cd_is_integer "is_integer" = true)
    (p_is_integer : PySem.W.keepIn K (.ref f_is_integer) = true)
    (a_is_within : PySem.W.nsIn K mainGlobals "is_within" = some (some (.ref f_is_within)))
    (l_is_within : K.lookup f_is_within = some ⟨oc_is_within, od_is_within, .func (PySem.W.fnOf "is_within" "is_within" (defArgs s_is_within) (defBody s_is_within) (defScope s_is_within) .none kV_is_within dc_is_within pm_is_within an_is_within cd_is_within ct_is_within), sl_is_within⟩)
    (d_is_within : PySem.W.codeIn K cd_is_within "is_within" = true)
    (p_is_within : PySem.W.keepIn K (.ref f_is_within) = true)
    (a_is_pair : PySem.W.nsIn K mainGlobals "is_pair" = some (some (.ref f_is_pair)))
    (l_is_pair : K.lookup f_is_pair = some ⟨oc_is_pair, od_is_pair, .func (PySem.W.fnOf "is_pair" "is_pair" (defArgs s_is_pair) (defBody s_is_pair) (defScope s_is_pair) .none kV_is_pair dc_is_pair pm_is_pair an_is_pair cd_is_pair ct_is_pair), sl_is_pair⟩)
    (d_is_pair : PySem.W.codeIn K cd_is_pair "is_pair" = true)
    (p_is_pair : PySem.W.keepIn K (.ref f_is_pair) = true)
    (a_is_view : PySem.W.nsIn K mainGlobals "is_view" = some (some (.ref f_is_view)))
    (l_is_view : K.lookup f_is_view = some ⟨oc_is_view, od_is_view, .func (PySem.W.fnOf "is_view" "is_view" (defArgs s_is_view) (defBody s_is_view) (defScope s_is_view) .none kV_is_view dc_is_view pm_is_view an_is_view cd_is_view ct_is_view), sl_is_view⟩)
    (d_is_view : PySem.W.codeIn K cd_is_view "is_view" = true)
    (p_is_view : PySem.W.keepIn K (.ref f_is_view) = true)
    (a_check_block : PySem.W.nsIn K mainGlobals "check_block" = some (some (.ref f_check_block)))
    (l_check_block : K.lookup f_check_block = some ⟨oc_check_block, od_check_block, .func (PySem.W.fnOf "check_block" "check_block" (defArgs s_check_block) (defBody s_check_block) (defScope s_check_block) .none kV_check_block dc_check_block pm_check_block an_check_block cd_check_block ct_check_block), sl_check_block⟩)
    (d_check_block : PySem.W.codeIn K cd_check_block "check_block" = true)
    (p_check_block : PySem.W.keepIn K (.ref f_check_block) = true)
    (a_check_place : PySem.W.nsIn K mainGlobals "check_place" = some (some (.ref f_check_place)))
    (l_check_place : K.lookup f_check_place = some ⟨oc_check_place, od_check_place, .func (PySem.W.fnOf "check_place" "check_place" (defArgs s_check_place) (defBody s_check_place) (defScope s_check_place) .none kV_check_place dc_check_place pm_check_place an_check_place cd_check_place ct_check_place), sl_check_place⟩)
    (d_check_place : PySem.W.codeIn K cd_check_place "check_place" = true)
    (p_check_place : PySem.W.keepIn K (.ref f_check_place) = true)
    (a_check_view : PySem.W.nsIn K mainGlobals "check_view" = some (some (.ref f_check_view)))
    (l_check_view : K.lookup f_check_view = some ⟨oc_check_view, od_check_view, .func (PySem.W.fnOf "check_view" "check_view" (defArgs s_check_view) (defBody s_check_view) (defScope s_check_view) .none kV_check_view dc_check_view pm_check_view an_check_view cd_check_view ct_check_view), sl_check_view⟩)
    (d_check_view : PySem.W.codeIn K cd_check_view "check_view" = true)
    (p_check_view : PySem.W.keepIn K (.ref f_check_view) = true)
    (a_check_number : PySem.W.nsIn K mainGlobals "check_number" = some (some (.ref f_check_number)))
    (l_check_number : K.lookup f_check_number = some ⟨oc_check_number, od_check_number, .func (PySem.W.fnOf "check_number" "check_number" (defArgs s_check_number) (defBody s_check_number) (defScope s_check_number) .none kV_check_number dc_check_number pm_check_number an_check_number cd_check_number ct_check_number), sl_check_number⟩)
    (d_check_number : PySem.W.codeIn K cd_check_number "check_number" = true)
    (p_check_number : PySem.W.keepIn K (.ref f_check_number) = true)
    (a_leads_home : PySem.W.nsIn K mainGlobals "leads_home" = some (some (.ref f_leads_home)))
    (l_leads_home : K.lookup f_leads_home = some ⟨oc_leads_home, od_leads_home, .func (PySem.W.fnOf "leads_home" "leads_home" (defArgs s_leads_home) (defBody s_leads_home) (defScope s_leads_home) .none kV_leads_home dc_leads_home pm_leads_home an_leads_home cd_leads_home ct_leads_home), sl_leads_home⟩)
    (d_leads_home : PySem.W.codeIn K cd_leads_home "leads_home" = true)
    (p_leads_home : PySem.W.keepIn K (.ref f_leads_home) = true)
    (a_Tree_init : PySem.W.findIn K (.ref C_Tree) "__init__" = some (some (.ref f_Tree_init)))
    (l_Tree_init : K.lookup f_Tree_init = some ⟨oc_Tree_init, od_Tree_init, .func (PySem.W.fnOf "__init__" "Tree.__init__" (defArgs s_Tree_init) (defBody s_Tree_init) (defScope s_Tree_init) .none kV_Tree_init dc_Tree_init pm_Tree_init an_Tree_init cd_Tree_init ct_Tree_init), sl_Tree_init⟩)
    (d_Tree_init : PySem.W.codeIn K cd_Tree_init "Tree.__init__" = true)
    (p_Tree_init : PySem.W.keepIn K (.ref f_Tree_init) = true)
    (a_Tree_eq : PySem.W.findIn K (.ref C_Tree) "__eq__" = some (some (.ref f_Tree_eq)))
    (l_Tree_eq : K.lookup f_Tree_eq = some ⟨.type "function", od_Tree_eq, .func (PySem.W.fnOf "__eq__" "Tree.__eq__" (defArgs s_Tree_eq) (defBody s_Tree_eq) (defScope s_Tree_eq) .none kV_Tree_eq dc_Tree_eq pm_Tree_eq an_Tree_eq cd_Tree_eq ct_Tree_eq), sl_Tree_eq⟩)
    (d_Tree_eq : PySem.W.codeIn K cd_Tree_eq "Tree.__eq__" = true)
    (p_Tree_eq : PySem.W.keepIn K (.ref f_Tree_eq) = true)
    (a_place_of : PySem.W.nsIn K mainGlobals "place_of" = some (some (.ref f_place_of)))
    (l_place_of : K.lookup f_place_of = some ⟨oc_place_of, od_place_of, .func (PySem.W.fnOf "place_of" "place_of" (defArgs s_place_of) (defBody s_place_of) (defScope s_place_of) .none kV_place_of dc_place_of pm_place_of an_place_of cd_place_of ct_place_of), sl_place_of⟩)
    (d_place_of : PySem.W.codeIn K cd_place_of "place_of" = true)
    (p_place_of : PySem.W.keepIn K (.ref f_place_of) = true)
    (a_parents_in : PySem.W.nsIn K mainGlobals "parents_in" = some (some (.ref f_parents_in)))
    (l_parents_in : K.lookup f_parents_in = some ⟨oc_parents_in, od_parents_in, .func (PySem.W.fnOf "parents_in" "parents_in" (defArgs s_parents_in) (defBody s_parents_in) (defScope s_parents_in) .none kV_parents_in dc_parents_in pm_parents_in an_parents_in cd_parents_in ct_parents_in), sl_parents_in⟩)
    (d_parents_in : PySem.W.codeIn K cd_parents_in "parents_in" = true)
    (p_parents_in : PySem.W.keepIn K (.ref f_parents_in) = true)
    (a_parentsT : PySem.W.nsIn K mainGlobals "parents" = some (some (.ref f_parentsT)))
    (l_parentsT : K.lookup f_parentsT = some ⟨oc_parentsT, od_parentsT, .func (PySem.W.fnOf "parents" "parents" (defArgs s_parentsT) (defBody s_parentsT) (defScope s_parentsT) .none kV_parentsT dc_parentsT pm_parentsT an_parentsT cd_parentsT ct_parentsT), sl_parentsT⟩)
    (d_parentsT : PySem.W.codeIn K cd_parentsT "parents" = true)
    (p_parentsT : PySem.W.keepIn K (.ref f_parentsT) = true)
    (a_hanging : PySem.W.nsIn K mainGlobals "hanging" = some (some (.ref f_hanging)))
    (l_hanging : K.lookup f_hanging = some ⟨oc_hanging, od_hanging, .func (PySem.W.fnOf "hanging" "hanging" (defArgs s_hanging) (defBody s_hanging) (defScope s_hanging) .none kV_hanging dc_hanging pm_hanging an_hanging cd_hanging ct_hanging), sl_hanging⟩)
    (d_hanging : PySem.W.codeIn K cd_hanging "hanging" = true)
    (p_hanging : PySem.W.keepIn K (.ref f_hanging) = true)
    (a_under : PySem.W.nsIn K mainGlobals "under" = some (some (.ref f_under)))
    (l_under : K.lookup f_under = some ⟨oc_under, od_under, .func (PySem.W.fnOf "under" "under" (defArgs s_under) (defBody s_under) (defScope s_under) .none kV_under dc_under pm_under an_under cd_under ct_under), sl_under⟩)
    (d_under : PySem.W.codeIn K cd_under "under" = true)
    (p_under : PySem.W.keepIn K (.ref f_under) = true)
    (a_beneath_in : PySem.W.nsIn K mainGlobals "beneath_in" = some (some (.ref f_beneath_in)))
    (l_beneath_in : K.lookup f_beneath_in = some ⟨oc_beneath_in, od_beneath_in, .func (PySem.W.fnOf "beneath_in" "beneath_in" (defArgs s_beneath_in) (defBody s_beneath_in) (defScope s_beneath_in) .none kV_beneath_in dc_beneath_in pm_beneath_in an_beneath_in cd_beneath_in ct_beneath_in), sl_beneath_in⟩)
    (d_beneath_in : PySem.W.codeIn K cd_beneath_in "beneath_in" = true)
    (p_beneath_in : PySem.W.keepIn K (.ref f_beneath_in) = true)
    (a_beneathT : PySem.W.nsIn K mainGlobals "beneath" = some (some (.ref f_beneathT)))
    (l_beneathT : K.lookup f_beneathT = some ⟨oc_beneathT, od_beneathT, .func (PySem.W.fnOf "beneath" "beneath" (defArgs s_beneathT) (defBody s_beneathT) (defScope s_beneathT) .none kV_beneathT dc_beneathT pm_beneathT an_beneathT cd_beneathT ct_beneathT), sl_beneathT⟩)
    (d_beneathT : PySem.W.codeIn K cd_beneathT "beneath" = true)
    (p_beneathT : PySem.W.keepIn K (.ref f_beneathT) = true)
    (a_with_place : PySem.W.nsIn K mainGlobals "with_place" = some (some (.ref f_with_place)))
    (l_with_place : K.lookup f_with_place = some ⟨oc_with_place, od_with_place, .func (PySem.W.fnOf "with_place" "with_place" (defArgs s_with_place) (defBody s_with_place) (defScope s_with_place) .none kV_with_place dc_with_place pm_with_place an_with_place cd_with_place ct_with_place), sl_with_place⟩)
    (d_with_place : PySem.W.codeIn K cd_with_place "with_place" = true)
    (p_with_place : PySem.W.keepIn K (.ref f_with_place) = true)
    (a_moved : PySem.W.nsIn K mainGlobals "moved" = some (some (.ref f_moved)))
    (l_moved : K.lookup f_moved = some ⟨oc_moved, od_moved, .func (PySem.W.fnOf "moved" "moved" (defArgs s_moved) (defBody s_moved) (defScope s_moved) .none kV_moved dc_moved pm_moved an_moved cd_moved ct_moved), sl_moved⟩)
    (d_moved : PySem.W.codeIn K cd_moved "moved" = true)
    (p_moved : PySem.W.keepIn K (.ref f_moved) = true)
    (a_called : PySem.W.nsIn K mainGlobals "called" = some (some (.ref f_called)))
    (l_called : K.lookup f_called = some ⟨oc_called, od_called, .func (PySem.W.fnOf "called" "called" (defArgs s_called) (defBody s_called) (defScope s_called) .none kV_called dc_called pm_called an_called cd_called ct_called), sl_called⟩)
    (d_called : PySem.W.codeIn K cd_called "called" = true)
    (p_called : PySem.W.keepIn K (.ref f_called) = true)
    (a_ties_down : PySem.W.nsIn K mainGlobals "ties_down" = some (some (.ref f_ties_down)))
    (l_ties_down : K.lookup f_ties_down = some ⟨oc_ties_down, od_ties_down, .func (PySem.W.fnOf "ties_down" "ties_down" (defArgs s_ties_down) (defBody s_ties_down) (defScope s_ties_down) .none kV_ties_down dc_ties_down pm_ties_down an_ties_down cd_ties_down ct_ties_down), sl_ties_down⟩)
    (d_ties_down : PySem.W.codeIn K cd_ties_down "ties_down" = true)
    (p_ties_down : PySem.W.keepIn K (.ref f_ties_down) = true)
    (a_raw_telling : PySem.W.nsIn K mainGlobals "raw_telling" = some (some (.ref f_raw_telling)))
    (l_raw_telling : K.lookup f_raw_telling = some ⟨oc_raw_telling, od_raw_telling, .func (PySem.W.fnOf "raw_telling" "raw_telling" (defArgs s_raw_telling) (defBody s_raw_telling) (defScope s_raw_telling) .none kV_raw_telling dc_raw_telling pm_raw_telling an_raw_telling cd_raw_telling ct_raw_telling), sl_raw_telling⟩)
    (d_raw_telling : PySem.W.codeIn K cd_raw_telling "raw_telling" = true)
    (p_raw_telling : PySem.W.keepIn K (.ref f_raw_telling) = true)
    (a_telling : PySem.W.nsIn K mainGlobals "telling" = some (some (.ref f_telling)))
    (l_telling : K.lookup f_telling = some ⟨oc_telling, od_telling, .func (PySem.W.fnOf "telling" "telling" (defArgs s_telling) (defBody s_telling) (defScope s_telling) .none kV_telling dc_telling pm_telling an_telling cd_telling ct_telling), sl_telling⟩)
    (d_telling : PySem.W.codeIn K cd_telling "telling" = true)
    (p_telling : PySem.W.keepIn K (.ref f_telling) = true)
    (a_raw_tellings : PySem.W.nsIn K mainGlobals "raw_tellings" = some (some (.ref f_raw_tellings)))
    (l_raw_tellings : K.lookup f_raw_tellings = some ⟨oc_raw_tellings, od_raw_tellings, .func (PySem.W.fnOf "raw_tellings" "raw_tellings" (defArgs s_raw_tellings) (defBody s_raw_tellings) (defScope s_raw_tellings) .none kV_raw_tellings dc_raw_tellings pm_raw_tellings an_raw_tellings cd_raw_tellings ct_raw_tellings), sl_raw_tellings⟩)
    (d_raw_tellings : PySem.W.codeIn K cd_raw_tellings "raw_tellings" = true)
    (p_raw_tellings : PySem.W.keepIn K (.ref f_raw_tellings) = true)
    (a_unlike : PySem.W.nsIn K mainGlobals "unlike" = some (some (.ref f_unlike)))
    (l_unlike : K.lookup f_unlike = some ⟨oc_unlike, od_unlike, .func (PySem.W.fnOf "unlike" "unlike" (defArgs s_unlike) (defBody s_unlike) (defScope s_unlike) .none kV_unlike dc_unlike pm_unlike an_unlike cd_unlike ct_unlike), sl_unlike⟩)
    (d_unlike : PySem.W.codeIn K cd_unlike "unlike" = true)
    (p_unlike : PySem.W.keepIn K (.ref f_unlike) = true)
    (a_raw_distance : PySem.W.nsIn K mainGlobals "raw_distance" = some (some (.ref f_raw_distance)))
    (l_raw_distance : K.lookup f_raw_distance = some ⟨oc_raw_distance, od_raw_distance, .func (PySem.W.fnOf "raw_distance" "raw_distance" (defArgs s_raw_distance) (defBody s_raw_distance) (defScope s_raw_distance) .none kV_raw_distance dc_raw_distance pm_raw_distance an_raw_distance cd_raw_distance ct_raw_distance), sl_raw_distance⟩)
    (d_raw_distance : PySem.W.codeIn K cd_raw_distance "raw_distance" = true)
    (p_raw_distance : PySem.W.keepIn K (.ref f_raw_distance) = true)
    (a_distance : PySem.W.nsIn K mainGlobals "distance" = some (some (.ref f_distance)))
    (l_distance : K.lookup f_distance = some ⟨oc_distance, od_distance, .func (PySem.W.fnOf "distance" "distance" (defArgs s_distance) (defBody s_distance) (defScope s_distance) .none kV_distance dc_distance pm_distance an_distance cd_distance ct_distance), sl_distance⟩)
    (d_distance : PySem.W.codeIn K cd_distance "distance" = true)
    (p_distance : PySem.W.keepIn K (.ref f_distance) = true)
    (a_twins : PySem.W.nsIn K mainGlobals "twins" = some (some (.ref f_twins)))
    (l_twins : K.lookup f_twins = some ⟨oc_twins, od_twins, .func (PySem.W.fnOf "twins" "twins" (defArgs s_twins) (defBody s_twins) (defScope s_twins) .none kV_twins dc_twins pm_twins an_twins cd_twins ct_twins), sl_twins⟩)
    (d_twins : PySem.W.codeIn K cd_twins "twins" = true)
    (p_twins : PySem.W.keepIn K (.ref f_twins) = true)
    (a_l_pool : PySem.W.nsIn K mainGlobals "_law_pool" = some (some (.ref f_l_pool)))
    (l_l_pool : K.lookup f_l_pool = some ⟨oc_l_pool, od_l_pool, .func (PySem.W.fnOf "_law_pool" "_law_pool" (defArgs s_l_pool) (defBody s_l_pool) (defScope s_l_pool) .none kV_l_pool dc_l_pool pm_l_pool an_l_pool cd_l_pool ct_l_pool), sl_l_pool⟩)
    (d_l_pool : PySem.W.codeIn K cd_l_pool "_law_pool" = true)
    (p_l_pool : PySem.W.keepIn K (.ref f_l_pool) = true)
    (a_l_draw : PySem.W.nsIn K mainGlobals "_law_draw" = some (some (.ref f_l_draw)))
    (l_l_draw : K.lookup f_l_draw = some ⟨oc_l_draw, od_l_draw, .func (PySem.W.fnOf "_law_draw" "_law_draw" (defArgs s_l_draw) (defBody s_l_draw) (defScope s_l_draw) .none kV_l_draw dc_l_draw pm_l_draw an_l_draw cd_l_draw ct_l_draw), sl_l_draw⟩)
    (d_l_draw : PySem.W.codeIn K cd_l_draw "_law_draw" = true)
    (p_l_draw : PySem.W.keepIn K (.ref f_l_draw) = true)
    (a_l_pick : PySem.W.nsIn K mainGlobals "_law_pick" = some (some (.ref f_l_pick)))
    (l_l_pick : K.lookup f_l_pick = some ⟨oc_l_pick, od_l_pick, .func (PySem.W.fnOf "_law_pick" "_law_pick" (defArgs s_l_pick) (defBody s_l_pick) (defScope s_l_pick) .none kV_l_pick dc_l_pick pm_l_pick an_l_pick cd_l_pick ct_l_pick), sl_l_pick⟩)
    (d_l_pick : PySem.W.codeIn K cd_l_pick "_law_pick" = true)
    (p_l_pick : PySem.W.keepIn K (.ref f_l_pick) = true)
    (a_l_is : PySem.W.nsIn K mainGlobals "_law_is" = some (some (.ref f_l_is)))
    (l_l_is : K.lookup f_l_is = some ⟨oc_l_is, od_l_is, .func (PySem.W.fnOf "_law_is" "_law_is" (defArgs s_l_is) (defBody s_l_is) (defScope s_l_is) .none kV_l_is dc_l_is pm_l_is an_l_is cd_l_is ct_l_is), sl_l_is⟩)
    (d_l_is : PySem.W.codeIn K cd_l_is "_law_is" = true)
    (p_l_is : PySem.W.keepIn K (.ref f_l_is) = true)
    (a_l_deep : PySem.W.nsIn K mainGlobals "_law_deep" = some (some (.ref f_l_deep)))
    (l_l_deep : K.lookup f_l_deep = some ⟨oc_l_deep, od_l_deep, .func (PySem.W.fnOf "_law_deep" "_law_deep" (defArgs s_l_deep) (defBody s_l_deep) (defScope s_l_deep) .none kV_l_deep dc_l_deep pm_l_deep an_l_deep cd_l_deep ct_l_deep), sl_l_deep⟩)
    (d_l_deep : PySem.W.codeIn K cd_l_deep "_law_deep" = true)
    (p_l_deep : PySem.W.keepIn K (.ref f_l_deep) = true)
    (a_l_is_number : PySem.W.nsIn K mainGlobals "_law_is_number" = some (some (.ref f_l_is_number)))
    (l_l_is_number : K.lookup f_l_is_number = some ⟨oc_l_is_number, od_l_is_number, .func (PySem.W.fnOf "_law_is_number" "_law_is_number" (defArgs s_l_is_number) (defBody s_l_is_number) (defScope s_l_is_number) .none kV_l_is_number dc_l_is_number pm_l_is_number an_l_is_number cd_l_is_number ct_l_is_number), sl_l_is_number⟩)
    (d_l_is_number : PySem.W.codeIn K cd_l_is_number "_law_is_number" = true)
    (p_l_is_number : PySem.W.keepIn K (.ref f_l_is_number) = true)
    (a_l_mixed : PySem.W.nsIn K mainGlobals "_law_mixed" = some (some (.ref f_l_mixed)))
    (l_l_mixed : K.lookup f_l_mixed = some ⟨oc_l_mixed, od_l_mixed, .func (PySem.W.fnOf "_law_mixed" "_law_mixed" (defArgs s_l_mixed) (defBody s_l_mixed) (defScope s_l_mixed) .none kV_l_mixed dc_l_mixed pm_l_mixed an_l_mixed cd_l_mixed ct_l_mixed), sl_l_mixed⟩)
    (d_l_mixed : PySem.W.codeIn K cd_l_mixed "_law_mixed" = true)
    (p_l_mixed : PySem.W.keepIn K (.ref f_l_mixed) = true)
    (a_l_hung : PySem.W.nsIn K mainGlobals "_law_hung" = some (some (.ref f_l_hung)))
    (l_l_hung : K.lookup f_l_hung = some ⟨oc_l_hung, od_l_hung, .func (PySem.W.fnOf "_law_hung" "_law_hung" (defArgs s_l_hung) (defBody s_l_hung) (defScope s_l_hung) .none kV_l_hung dc_l_hung pm_l_hung an_l_hung cd_l_hung ct_l_hung), sl_l_hung⟩)
    (d_l_hung : PySem.W.codeIn K cd_l_hung "_law_hung" = true)
    (p_l_hung : PySem.W.keepIn K (.ref f_l_hung) = true)
    (a_l_way : PySem.W.nsIn K mainGlobals "_law_way" = some (some (.ref f_l_way)))
    (l_l_way : K.lookup f_l_way = some ⟨oc_l_way, od_l_way, .func (PySem.W.fnOf "_law_way" "_law_way" (defArgs s_l_way) (defBody s_l_way) (defScope s_l_way) .none kV_l_way dc_l_way pm_l_way an_l_way cd_l_way ct_l_way), sl_l_way⟩)
    (d_l_way : PySem.W.codeIn K cd_l_way "_law_way" = true)
    (p_l_way : PySem.W.keepIn K (.ref f_l_way) = true)
    (a_l_odd : PySem.W.nsIn K mainGlobals "_law_odd" = some (some (.ref f_l_odd)))
    (l_l_odd : K.lookup f_l_odd = some ⟨oc_l_odd, od_l_odd, .func (PySem.W.fnOf "_law_odd" "_law_odd" (defArgs s_l_odd) (defBody s_l_odd) (defScope s_l_odd) .none kV_l_odd dc_l_odd pm_l_odd an_l_odd cd_l_odd ct_l_odd), sl_l_odd⟩)
    (d_l_odd : PySem.W.codeIn K cd_l_odd "_law_odd" = true)
    (p_l_odd : PySem.W.keepIn K (.ref f_l_odd) = true)
    (a_l_word : PySem.W.nsIn K mainGlobals "_law_word" = some (some (.ref f_l_word)))
    (l_l_word : K.lookup f_l_word = some ⟨oc_l_word, od_l_word, .func (PySem.W.fnOf "_law_word" "_law_word" (defArgs s_l_word) (defBody s_l_word) (defScope s_l_word) .none kV_l_word dc_l_word pm_l_word an_l_word cd_l_word ct_l_word), sl_l_word⟩)
    (d_l_word : PySem.W.codeIn K cd_l_word "_law_word" = true)
    (p_l_word : PySem.W.keepIn K (.ref f_l_word) = true)
    (a_l_order_refused : PySem.W.nsIn K mainGlobals "_law_order_refused" = some (some (.ref f_l_order_refused)))
    (l_l_order_refused : K.lookup f_l_order_refused = some ⟨oc_l_order_refused, od_l_order_refused, .func (PySem.W.fnOf "_law_order_refused" "_law_order_refused" (defArgs s_l_order_refused) (defBody s_l_order_refused) (defScope s_l_order_refused) .none kV_l_order_refused dc_l_order_refused pm_l_order_refused an_l_order_refused (.ref cc_l_order_refused) ct_l_order_refused), sl_l_order_refused⟩)
    (d_l_order_refused : PySem.W.codeIn K (.ref cc_l_order_refused) "_law_order_refused" = true)
    (cl_l_order_refused : K.lookup cc_l_order_refused = some ⟨.type "code", cod_l_order_refused, .fields cvs_l_order_refused, csl_l_order_refused⟩)
    (cv_l_order_refused : cvs_l_order_refused[11]? = some (.ref P_l_order_refused))
    (ch_l_order_refused : PySem.W.codeHdIn [(cc_l_order_refused, ⟨.type "code", cod_l_order_refused, .fields cvs_l_order_refused, csl_l_order_refused⟩)] cc_l_order_refused P_l_order_refused = true)
    (cn_l_order_refused : K.lookup P_l_order_refused = none)
    (tt_l_order_refused : h.get? P_l_order_refused = some { cls := .none, data := .fields #[] })
    (tm_l_order_refused : (P_l_order_refused, ((("_law_order_refused" : Str) ++ ".<locals>.") ++ "<lambda>")) ∈ tabT)
    (tu_l_order_refused : ∀ p ∈ tabT, p.1 = P_l_order_refused → p.2 = ((("_law_order_refused" : Str) ++ ".<locals>.") ++ "<lambda>"))
    (p_l_order_refused : PySem.W.keepIn K (.ref f_l_order_refused) = true)
    (a_l_views_refused : PySem.W.nsIn K mainGlobals "_law_views_refused" = some (some (.ref f_l_views_refused)))
    (l_l_views_refused : K.lookup f_l_views_refused = some ⟨oc_l_views_refused, od_l_views_refused, .func (PySem.W.fnOf "_law_views_refused" "_law_views_refused" (defArgs s_l_views_refused) (defBody s_l_views_refused) (defScope s_l_views_refused) .none kV_l_views_refused dc_l_views_refused pm_l_views_refused an_l_views_refused (.ref cc_l_views_refused) ct_l_views_refused), sl_l_views_refused⟩)
    (d_l_views_refused : PySem.W.codeIn K (.ref cc_l_views_refused) "_law_views_refused" = true)
    (cl_l_views_refused : K.lookup cc_l_views_refused = some ⟨.type "code", cod_l_views_refused, .fields cvs_l_views_refused, csl_l_views_refused⟩)
    (cv_l_views_refused : cvs_l_views_refused[11]? = some (.ref P_l_views_refused))
    (ch_l_views_refused : PySem.W.codeHdIn [(cc_l_views_refused, ⟨.type "code", cod_l_views_refused, .fields cvs_l_views_refused, csl_l_views_refused⟩)] cc_l_views_refused P_l_views_refused = true)
    (cn_l_views_refused : K.lookup P_l_views_refused = none)
    (tt_l_views_refused : h.get? P_l_views_refused = some { cls := .none, data := .fields #[] })
    (tm_l_views_refused : (P_l_views_refused, ((("_law_views_refused" : Str) ++ ".<locals>.") ++ "<lambda>")) ∈ tabT)
    (tu_l_views_refused : ∀ p ∈ tabT, p.1 = P_l_views_refused → p.2 = ((("_law_views_refused" : Str) ++ ".<locals>.") ++ "<lambda>"))
    (p_l_views_refused : PySem.W.keepIn K (.ref f_l_views_refused) = true)
    (a_law : PySem.W.nsIn K mainGlobals "law" = some (some (.ref f_law)))
    (l_law : K.lookup f_law = some ⟨oc_law, od_law, .func (PySem.W.fnOf "law" "law" (defArgs s_law) (defBody s_law) (defScope s_law) .none kV_law dc_law pm_law an_law (.ref cc_law) ct_law), sl_law⟩)
    (d_law : PySem.W.codeIn K (.ref cc_law) "law" = true)
    (cl_law : K.lookup cc_law = some ⟨.type "code", cod_law, .fields cvs_law, csl_law⟩)
    (cv_law : cvs_law[11]? = some (.ref P_law))
    (ch_law : PySem.W.codeHdIn [(cc_law, ⟨.type "code", cod_law, .fields cvs_law, csl_law⟩)] cc_law P_law = true)
    (cn_law : K.lookup P_law = none)
    (tt_law : h.get? P_law = some { cls := .none, data := .fields #[] })
    (tm_law : (P_law, ((("law" : Str) ++ ".<locals>.") ++ "<lambda>")) ∈ tabT)
    (tu_law : ∀ p ∈ tabT, p.1 = P_law → p.2 = ((("law" : Str) ++ ".<locals>.") ++ "<lambda>"))
    (p_law : PySem.W.keepIn K (.ref f_law) = true)
    (pg_Tree : PySem.W.plainGet K C_Tree Str.empty = true)
    (hd_Tree : PySem.W.hasDictIn K C_Tree = true)
    (po_Tree : PySem.W.plainOver K C_Tree = true)
    (sa_Tree : PySem.W.findIn K (.ref C_Tree) "__setattr__" = some (some (.builtin "object.__setattr__")))
    (mk_Tree : PySem.W.makesIn K C_Tree = true)
    (kc_Tree : PySem.W.keepIn K (.ref C_Tree) = true)
    (ha_Tree : PySem.W.findIn K (.ref C_Tree) "__class__" = some (some (.builtin "object.__class__")))
    (hn_Tree : PySem.W.specialIn K (.builtin "object.__class__") "__get__" = some (some (.builtin "getset_descriptor.__get__")))
    (ht_Tree : PySem.W.takesIn K (.builtin "object.__class__") = some true)
    (hm_Tree : PySem.W.mroIn K C_Tree (.type "object") = some true)
    (me_Tree : PySem.W.kitOne K (.ref C_Tree) (.ref C_Tree) = some true)
    (ktNoneType_Tree : PySem.W.kitOne K (.type "NoneType") (.ref C_Tree) = some false)
    (ntNoneType_Tree : PySem.W.notFirst K C_Tree (.type "NoneType") = true)
    (ktbool_Tree : PySem.W.kitOne K (.type "bool") (.ref C_Tree) = some false)
    (ntbool_Tree : PySem.W.notFirst K C_Tree (.type "bool") = true)
    (ktint_Tree : PySem.W.kitOne K (.type "int") (.ref C_Tree) = some false)
    (ntint_Tree : PySem.W.notFirst K C_Tree (.type "int") = true)
    (ktstr_Tree : PySem.W.kitOne K (.type "str") (.ref C_Tree) = some false)
    (ntstr_Tree : PySem.W.notFirst K C_Tree (.type "str") = true)
    (ktlist_Tree : PySem.W.kitOne K (.type "list") (.ref C_Tree) = some false)
    (ntlist_Tree : PySem.W.notFirst K C_Tree (.type "list") = true)
    (kttuple_Tree : PySem.W.kitOne K (.type "tuple") (.ref C_Tree) = some false)
    (nttuple_Tree : PySem.W.notFirst K C_Tree (.type "tuple") = true)
    (ktdict_Tree : PySem.W.kitOne K (.type "dict") (.ref C_Tree) = some false)
    (ntdict_Tree : PySem.W.notFirst K C_Tree (.type "dict") = true)
    (if_Tree : PySem.W.isFn K (.ref f_Tree_init) = true)
    (nf_Tree_hung : PySem.W.findIn K (.ref C_Tree) "hung" = some none)
    (kiint_Tree : PySem.W.kitOne K (.ref C_Tree) (.type "int") = some false)
    (kibool_Tree : PySem.W.kitOne K (.ref C_Tree) (.type "bool") = some false)
    (kituple_Tree : PySem.W.kitOne K (.ref C_Tree) (.type "tuple") = some false)
    (kilist_Tree : PySem.W.kitOne K (.ref C_Tree) (.type "list") = some false)
    (kidict_Tree : PySem.W.kitOne K (.ref C_Tree) (.type "dict") = some false)
    (kistr_Tree : PySem.W.kitOne K (.ref C_Tree) (.type "str") = some false)
    (ef_Tree : PySem.W.isFn K (.ref f_Tree_eq) = true)
    (xL_Tree : K.lookup C_Tree = some (excClassObj nm_Tree qn_Tree C_Tree N_Tree bs_Tree [.type "object"] hd0_Tree sn_Tree sub_Tree ab_Tree col_Tree dd_Tree m0_Tree m1_Tree m2_Tree m3_Tree m5_Tree new_Tree))
    (nL_Tree : K.lookup N_Tree = some ⟨nc_Tree, nd_Tree, .dict es_Tree en_Tree, ns_Tree⟩)
    (no_Tree : allStr es_Tree = true)
    (ne0_Tree : PySem.W.nsIn K N_Tree "__eq__" = some (some (.ref f_Tree_eq)))
    (ne1_Tree : PySem.W.nsIn K N_Tree "__ne__" = some none)
    (sa_NoBlock : PySem.W.findIn K (.ref C_NoBlock) "__setattr__" = some (some (.builtin "object.__setattr__")))
    (be_NoBlock : PySem.W.subIn K (.ref C_NoBlock) (.type "BaseException") = some true)
    (ty_NoBlock : PySem.W.typeIn K (.ref C_NoBlock) = some (.type "type"))
    (kc_NoBlock : PySem.W.keepIn K (.ref C_NoBlock) = true)
    (ic_NoBlock : PySem.W.isClsIn K C_NoBlock = true)
    (ss_NoBlock : PySem.W.subIn K (.ref C_NoBlock) (.ref C_NoBlock) = some true)
    (ga_NoBlock : PySem.W.findIn K (.ref C_NoBlock) "__getattribute__" = some (some (.builtin "BaseException.__getattribute__")))
    (gt_NoBlock : PySem.W.findIn K (.ref C_NoBlock) "__getattr__" = some none)
    (hd_NoBlock : PySem.W.hasDictIn K C_NoBlock = true)
    (ha_NoBlock : PySem.W.findIn K (.ref C_NoBlock) "__class__" = some (some (.builtin "object.__class__")))
    (hn_NoBlock : PySem.W.specialIn K (.builtin "object.__class__") "__get__" = some (some (.builtin "getset_descriptor.__get__")))
    (ht_NoBlock : PySem.W.takesIn K (.builtin "object.__class__") = some true)
    (hm_NoBlock : PySem.W.mroIn K C_NoBlock (.type "object") = some true)
    (xL_NoBlock : K.lookup C_NoBlock = some (excClassObj nm_NoBlock qn_NoBlock C_NoBlock N_NoBlock bs_NoBlock [.ref C_VoteError, .type "ValueError", .type "Exception", .type "BaseException", .type "object"] true sn_NoBlock sub_NoBlock ab_NoBlock col_NoBlock dd_NoBlock m0_NoBlock m1_NoBlock m2_NoBlock m3_NoBlock m5_NoBlock "ValueError.__new__"))
    (x0_NoBlock : PySem.W.excIn K C_NoBlock [.type "ValueError", .type "Exception", .type "BaseException", .type "object"] "ValueError.__new__" = true)
    (sa_NoPlace : PySem.W.findIn K (.ref C_NoPlace) "__setattr__" = some (some (.builtin "object.__setattr__")))
    (be_NoPlace : PySem.W.subIn K (.ref C_NoPlace) (.type "BaseException") = some true)
    (ty_NoPlace : PySem.W.typeIn K (.ref C_NoPlace) = some (.type "type"))
    (kc_NoPlace : PySem.W.keepIn K (.ref C_NoPlace) = true)
    (ic_NoPlace : PySem.W.isClsIn K C_NoPlace = true)
    (ss_NoPlace : PySem.W.subIn K (.ref C_NoPlace) (.ref C_NoPlace) = some true)
    (ga_NoPlace : PySem.W.findIn K (.ref C_NoPlace) "__getattribute__" = some (some (.builtin "BaseException.__getattribute__")))
    (gt_NoPlace : PySem.W.findIn K (.ref C_NoPlace) "__getattr__" = some none)
    (hd_NoPlace : PySem.W.hasDictIn K C_NoPlace = true)
    (ha_NoPlace : PySem.W.findIn K (.ref C_NoPlace) "__class__" = some (some (.builtin "object.__class__")))
    (hn_NoPlace : PySem.W.specialIn K (.builtin "object.__class__") "__get__" = some (some (.builtin "getset_descriptor.__get__")))
    (ht_NoPlace : PySem.W.takesIn K (.builtin "object.__class__") = some true)
    (hm_NoPlace : PySem.W.mroIn K C_NoPlace (.type "object") = some true)
    (xL_NoPlace : K.lookup C_NoPlace = some (excClassObj nm_NoPlace qn_NoPlace C_NoPlace N_NoPlace bs_NoPlace [.ref C_VoteError, .type "ValueError", .type "Exception", .type "BaseException", .type "object"] true sn_NoPlace sub_NoPlace ab_NoPlace col_NoPlace dd_NoPlace m0_NoPlace m1_NoPlace m2_NoPlace m3_NoPlace m5_NoPlace "ValueError.__new__"))
    (x0_NoPlace : PySem.W.excIn K C_NoPlace [.type "ValueError", .type "Exception", .type "BaseException", .type "object"] "ValueError.__new__" = true)
    (sa_Beneath : PySem.W.findIn K (.ref C_Beneath) "__setattr__" = some (some (.builtin "object.__setattr__")))
    (be_Beneath : PySem.W.subIn K (.ref C_Beneath) (.type "BaseException") = some true)
    (ty_Beneath : PySem.W.typeIn K (.ref C_Beneath) = some (.type "type"))
    (kc_Beneath : PySem.W.keepIn K (.ref C_Beneath) = true)
    (ic_Beneath : PySem.W.isClsIn K C_Beneath = true)
    (ss_Beneath : PySem.W.subIn K (.ref C_Beneath) (.ref C_Beneath) = some true)
    (ga_Beneath : PySem.W.findIn K (.ref C_Beneath) "__getattribute__" = some (some (.builtin "BaseException.__getattribute__")))
    (gt_Beneath : PySem.W.findIn K (.ref C_Beneath) "__getattr__" = some none)
    (hd_Beneath : PySem.W.hasDictIn K C_Beneath = true)
    (ha_Beneath : PySem.W.findIn K (.ref C_Beneath) "__class__" = some (some (.builtin "object.__class__")))
    (hn_Beneath : PySem.W.specialIn K (.builtin "object.__class__") "__get__" = some (some (.builtin "getset_descriptor.__get__")))
    (ht_Beneath : PySem.W.takesIn K (.builtin "object.__class__") = some true)
    (hm_Beneath : PySem.W.mroIn K C_Beneath (.type "object") = some true)
    (xL_Beneath : K.lookup C_Beneath = some (excClassObj nm_Beneath qn_Beneath C_Beneath N_Beneath bs_Beneath [.ref C_VoteError, .type "ValueError", .type "Exception", .type "BaseException", .type "object"] true sn_Beneath sub_Beneath ab_Beneath col_Beneath dd_Beneath m0_Beneath m1_Beneath m2_Beneath m3_Beneath m5_Beneath "ValueError.__new__"))
    (x0_Beneath : PySem.W.excIn K C_Beneath [.type "ValueError", .type "Exception", .type "BaseException", .type "object"] "ValueError.__new__" = true)
    (sa_NoOrder : PySem.W.findIn K (.ref C_NoOrder) "__setattr__" = some (some (.builtin "object.__setattr__")))
    (be_NoOrder : PySem.W.subIn K (.ref C_NoOrder) (.type "BaseException") = some true)
    (ty_NoOrder : PySem.W.typeIn K (.ref C_NoOrder) = some (.type "type"))
    (kc_NoOrder : PySem.W.keepIn K (.ref C_NoOrder) = true)
    (ic_NoOrder : PySem.W.isClsIn K C_NoOrder = true)
    (ss_NoOrder : PySem.W.subIn K (.ref C_NoOrder) (.ref C_NoOrder) = some true)
    (ga_NoOrder : PySem.W.findIn K (.ref C_NoOrder) "__getattribute__" = some (some (.builtin "BaseException.__getattribute__")))
    (gt_NoOrder : PySem.W.findIn K (.ref C_NoOrder) "__getattr__" = some none)
    (hd_NoOrder : PySem.W.hasDictIn K C_NoOrder = true)
    (ha_NoOrder : PySem.W.findIn K (.ref C_NoOrder) "__class__" = some (some (.builtin "object.__class__")))
    (hn_NoOrder : PySem.W.specialIn K (.builtin "object.__class__") "__get__" = some (some (.builtin "getset_descriptor.__get__")))
    (ht_NoOrder : PySem.W.takesIn K (.builtin "object.__class__") = some true)
    (hm_NoOrder : PySem.W.mroIn K C_NoOrder (.type "object") = some true)
    (xL_NoOrder : K.lookup C_NoOrder = some (excClassObj nm_NoOrder qn_NoOrder C_NoOrder N_NoOrder bs_NoOrder [.ref C_VoteError, .type "ValueError", .type "Exception", .type "BaseException", .type "object"] true sn_NoOrder sub_NoOrder ab_NoOrder col_NoOrder dd_NoOrder m0_NoOrder m1_NoOrder m2_NoOrder m3_NoOrder m5_NoOrder "ValueError.__new__"))
    (x0_NoOrder : PySem.W.excIn K C_NoOrder [.type "ValueError", .type "Exception", .type "BaseException", .type "object"] "ValueError.__new__" = true)
    (sa_NoView : PySem.W.findIn K (.ref C_NoView) "__setattr__" = some (some (.builtin "object.__setattr__")))
    (be_NoView : PySem.W.subIn K (.ref C_NoView) (.type "BaseException") = some true)
    (ty_NoView : PySem.W.typeIn K (.ref C_NoView) = some (.type "type"))
    (kc_NoView : PySem.W.keepIn K (.ref C_NoView) = true)
    (ic_NoView : PySem.W.isClsIn K C_NoView = true)
    (ss_NoView : PySem.W.subIn K (.ref C_NoView) (.ref C_NoView) = some true)
    (ga_NoView : PySem.W.findIn K (.ref C_NoView) "__getattribute__" = some (some (.builtin "BaseException.__getattribute__")))
    (gt_NoView : PySem.W.findIn K (.ref C_NoView) "__getattr__" = some none)
    (hd_NoView : PySem.W.hasDictIn K C_NoView = true)
    (ha_NoView : PySem.W.findIn K (.ref C_NoView) "__class__" = some (some (.builtin "object.__class__")))
    (hn_NoView : PySem.W.specialIn K (.builtin "object.__class__") "__get__" = some (some (.builtin "getset_descriptor.__get__")))
    (ht_NoView : PySem.W.takesIn K (.builtin "object.__class__") = some true)
    (hm_NoView : PySem.W.mroIn K C_NoView (.type "object") = some true)
    (xL_NoView : K.lookup C_NoView = some (excClassObj nm_NoView qn_NoView C_NoView N_NoView bs_NoView [.ref C_VoteError, .type "ValueError", .type "Exception", .type "BaseException", .type "object"] true sn_NoView sub_NoView ab_NoView col_NoView dd_NoView m0_NoView m1_NoView m2_NoView m3_NoView m5_NoView "ValueError.__new__"))
    (x0_NoView : PySem.W.excIn K C_NoView [.type "ValueError", .type "Exception", .type "BaseException", .type "object"] "ValueError.__new__" = true)
    (sa_OtherBlocks : PySem.W.findIn K (.ref C_OtherBlocks) "__setattr__" = some (some (.builtin "object.__setattr__")))
    (be_OtherBlocks : PySem.W.subIn K (.ref C_OtherBlocks) (.type "BaseException") = some true)
    (ty_OtherBlocks : PySem.W.typeIn K (.ref C_OtherBlocks) = some (.type "type"))
    (kc_OtherBlocks : PySem.W.keepIn K (.ref C_OtherBlocks) = true)
    (ic_OtherBlocks : PySem.W.isClsIn K C_OtherBlocks = true)
    (ss_OtherBlocks : PySem.W.subIn K (.ref C_OtherBlocks) (.ref C_OtherBlocks) = some true)
    (ga_OtherBlocks : PySem.W.findIn K (.ref C_OtherBlocks) "__getattribute__" = some (some (.builtin "BaseException.__getattribute__")))
    (gt_OtherBlocks : PySem.W.findIn K (.ref C_OtherBlocks) "__getattr__" = some none)
    (hd_OtherBlocks : PySem.W.hasDictIn K C_OtherBlocks = true)
    (ha_OtherBlocks : PySem.W.findIn K (.ref C_OtherBlocks) "__class__" = some (some (.builtin "object.__class__")))
    (hn_OtherBlocks : PySem.W.specialIn K (.builtin "object.__class__") "__get__" = some (some (.builtin "getset_descriptor.__get__")))
    (ht_OtherBlocks : PySem.W.takesIn K (.builtin "object.__class__") = some true)
    (hm_OtherBlocks : PySem.W.mroIn K C_OtherBlocks (.type "object") = some true)
    (xL_OtherBlocks : K.lookup C_OtherBlocks = some (excClassObj nm_OtherBlocks qn_OtherBlocks C_OtherBlocks N_OtherBlocks bs_OtherBlocks [.ref C_VoteError, .type "ValueError", .type "Exception", .type "BaseException", .type "object"] true sn_OtherBlocks sub_OtherBlocks ab_OtherBlocks col_OtherBlocks dd_OtherBlocks m0_OtherBlocks m1_OtherBlocks m2_OtherBlocks m3_OtherBlocks m5_OtherBlocks "ValueError.__new__"))
    (x0_OtherBlocks : PySem.W.excIn K C_OtherBlocks [.type "ValueError", .type "Exception", .type "BaseException", .type "object"] "ValueError.__new__" = true)
    (sa_NoNumber : PySem.W.findIn K (.ref C_NoNumber) "__setattr__" = some (some (.builtin "object.__setattr__")))
    (be_NoNumber : PySem.W.subIn K (.ref C_NoNumber) (.type "BaseException") = some true)
    (ty_NoNumber : PySem.W.typeIn K (.ref C_NoNumber) = some (.type "type"))
    (kc_NoNumber : PySem.W.keepIn K (.ref C_NoNumber) = true)
    (ic_NoNumber : PySem.W.isClsIn K C_NoNumber = true)
    (ss_NoNumber : PySem.W.subIn K (.ref C_NoNumber) (.ref C_NoNumber) = some true)
    (ga_NoNumber : PySem.W.findIn K (.ref C_NoNumber) "__getattribute__" = some (some (.builtin "BaseException.__getattribute__")))
    (gt_NoNumber : PySem.W.findIn K (.ref C_NoNumber) "__getattr__" = some none)
    (hd_NoNumber : PySem.W.hasDictIn K C_NoNumber = true)
    (ha_NoNumber : PySem.W.findIn K (.ref C_NoNumber) "__class__" = some (some (.builtin "object.__class__")))
    (hn_NoNumber : PySem.W.specialIn K (.builtin "object.__class__") "__get__" = some (some (.builtin "getset_descriptor.__get__")))
    (ht_NoNumber : PySem.W.takesIn K (.builtin "object.__class__") = some true)
    (hm_NoNumber : PySem.W.mroIn K C_NoNumber (.type "object") = some true)
    (xL_NoNumber : K.lookup C_NoNumber = some (excClassObj nm_NoNumber qn_NoNumber C_NoNumber N_NoNumber bs_NoNumber [.ref C_VoteError, .type "ValueError", .type "Exception", .type "BaseException", .type "object"] true sn_NoNumber sub_NoNumber ab_NoNumber col_NoNumber dd_NoNumber m0_NoNumber m1_NoNumber m2_NoNumber m3_NoNumber m5_NoNumber "ValueError.__new__"))
    (x0_NoNumber : PySem.W.excIn K C_NoNumber [.type "ValueError", .type "Exception", .type "BaseException", .type "object"] "ValueError.__new__" = true)
    (sa_VoteError : PySem.W.findIn K (.ref C_VoteError) "__setattr__" = some (some (.builtin "object.__setattr__")))
    (be_VoteError : PySem.W.subIn K (.ref C_VoteError) (.type "BaseException") = some true)
    (ty_VoteError : PySem.W.typeIn K (.ref C_VoteError) = some (.type "type"))
    (kc_VoteError : PySem.W.keepIn K (.ref C_VoteError) = true)
    (ic_VoteError : PySem.W.isClsIn K C_VoteError = true)
    (ss_VoteError : PySem.W.subIn K (.ref C_VoteError) (.ref C_VoteError) = some true)
    (ga_VoteError : PySem.W.findIn K (.ref C_VoteError) "__getattribute__" = some (some (.builtin "BaseException.__getattribute__")))
    (gt_VoteError : PySem.W.findIn K (.ref C_VoteError) "__getattr__" = some none)
    (hd_VoteError : PySem.W.hasDictIn K C_VoteError = true)
    (ha_VoteError : PySem.W.findIn K (.ref C_VoteError) "__class__" = some (some (.builtin "object.__class__")))
    (hn_VoteError : PySem.W.specialIn K (.builtin "object.__class__") "__get__" = some (some (.builtin "getset_descriptor.__get__")))
    (ht_VoteError : PySem.W.takesIn K (.builtin "object.__class__") = some true)
    (hm_VoteError : PySem.W.mroIn K C_VoteError (.type "object") = some true)
    (xL_VoteError : K.lookup C_VoteError = some (excClassObj nm_VoteError qn_VoteError C_VoteError N_VoteError bs_VoteError [.type "ValueError", .type "Exception", .type "BaseException", .type "object"] true sn_VoteError sub_VoteError ab_VoteError col_VoteError dd_VoteError m0_VoteError m1_VoteError m2_VoteError m3_VoteError m5_VoteError "ValueError.__new__"))
    (ss_NoBlock_VoteError : PySem.W.subIn K (.ref C_NoBlock) (.ref C_VoteError) = some true)
    (kv_NoBlock_ValueError : PySem.W.kitOne K (.ref C_NoBlock) (.type "ValueError") = some true)
    (kx_NoBlock_NoBlock : PySem.W.kitOne K (.ref C_NoBlock) (.ref C_NoBlock) = some true)
    (kx_NoBlock_NoPlace : PySem.W.kitOne K (.ref C_NoBlock) (.ref C_NoPlace) = some false)
    (kx_NoBlock_Beneath : PySem.W.kitOne K (.ref C_NoBlock) (.ref C_Beneath) = some false)
    (kx_NoBlock_NoOrder : PySem.W.kitOne K (.ref C_NoBlock) (.ref C_NoOrder) = some false)
    (kx_NoBlock_NoView : PySem.W.kitOne K (.ref C_NoBlock) (.ref C_NoView) = some false)
    (kx_NoBlock_OtherBlocks : PySem.W.kitOne K (.ref C_NoBlock) (.ref C_OtherBlocks) = some false)
    (kx_NoBlock_NoNumber : PySem.W.kitOne K (.ref C_NoBlock) (.ref C_NoNumber) = some false)
    (ss_NoPlace_VoteError : PySem.W.subIn K (.ref C_NoPlace) (.ref C_VoteError) = some true)
    (kv_NoPlace_ValueError : PySem.W.kitOne K (.ref C_NoPlace) (.type "ValueError") = some true)
    (kx_NoPlace_NoBlock : PySem.W.kitOne K (.ref C_NoPlace) (.ref C_NoBlock) = some false)
    (kx_NoPlace_NoPlace : PySem.W.kitOne K (.ref C_NoPlace) (.ref C_NoPlace) = some true)
    (kx_NoPlace_Beneath : PySem.W.kitOne K (.ref C_NoPlace) (.ref C_Beneath) = some false)
    (kx_NoPlace_NoOrder : PySem.W.kitOne K (.ref C_NoPlace) (.ref C_NoOrder) = some false)
    (kx_NoPlace_NoView : PySem.W.kitOne K (.ref C_NoPlace) (.ref C_NoView) = some false)
    (kx_NoPlace_OtherBlocks : PySem.W.kitOne K (.ref C_NoPlace) (.ref C_OtherBlocks) = some false)
    (kx_NoPlace_NoNumber : PySem.W.kitOne K (.ref C_NoPlace) (.ref C_NoNumber) = some false)
    (ss_Beneath_VoteError : PySem.W.subIn K (.ref C_Beneath) (.ref C_VoteError) = some true)
    (kv_Beneath_ValueError : PySem.W.kitOne K (.ref C_Beneath) (.type "ValueError") = some true)
    (kx_Beneath_NoBlock : PySem.W.kitOne K (.ref C_Beneath) (.ref C_NoBlock) = some false)
    (kx_Beneath_NoPlace : PySem.W.kitOne K (.ref C_Beneath) (.ref C_NoPlace) = some false)
    (kx_Beneath_Beneath : PySem.W.kitOne K (.ref C_Beneath) (.ref C_Beneath) = some true)
    (kx_Beneath_NoOrder : PySem.W.kitOne K (.ref C_Beneath) (.ref C_NoOrder) = some false)
    (kx_Beneath_NoView : PySem.W.kitOne K (.ref C_Beneath) (.ref C_NoView) = some false)
    (kx_Beneath_OtherBlocks : PySem.W.kitOne K (.ref C_Beneath) (.ref C_OtherBlocks) = some false)
    (kx_Beneath_NoNumber : PySem.W.kitOne K (.ref C_Beneath) (.ref C_NoNumber) = some false)
    (ss_NoOrder_VoteError : PySem.W.subIn K (.ref C_NoOrder) (.ref C_VoteError) = some true)
    (kv_NoOrder_ValueError : PySem.W.kitOne K (.ref C_NoOrder) (.type "ValueError") = some true)
    (kx_NoOrder_NoBlock : PySem.W.kitOne K (.ref C_NoOrder) (.ref C_NoBlock) = some false)
    (kx_NoOrder_NoPlace : PySem.W.kitOne K (.ref C_NoOrder) (.ref C_NoPlace) = some false)
    (kx_NoOrder_Beneath : PySem.W.kitOne K (.ref C_NoOrder) (.ref C_Beneath) = some false)
    (kx_NoOrder_NoOrder : PySem.W.kitOne K (.ref C_NoOrder) (.ref C_NoOrder) = some true)
    (kx_NoOrder_NoView : PySem.W.kitOne K (.ref C_NoOrder) (.ref C_NoView) = some false)
    (kx_NoOrder_OtherBlocks : PySem.W.kitOne K (.ref C_NoOrder) (.ref C_OtherBlocks) = some false)
    (kx_NoOrder_NoNumber : PySem.W.kitOne K (.ref C_NoOrder) (.ref C_NoNumber) = some false)
    (ss_NoView_VoteError : PySem.W.subIn K (.ref C_NoView) (.ref C_VoteError) = some true)
    (kv_NoView_ValueError : PySem.W.kitOne K (.ref C_NoView) (.type "ValueError") = some true)
    (kx_NoView_NoBlock : PySem.W.kitOne K (.ref C_NoView) (.ref C_NoBlock) = some false)
    (kx_NoView_NoPlace : PySem.W.kitOne K (.ref C_NoView) (.ref C_NoPlace) = some false)
    (kx_NoView_Beneath : PySem.W.kitOne K (.ref C_NoView) (.ref C_Beneath) = some false)
    (kx_NoView_NoOrder : PySem.W.kitOne K (.ref C_NoView) (.ref C_NoOrder) = some false)
    (kx_NoView_NoView : PySem.W.kitOne K (.ref C_NoView) (.ref C_NoView) = some true)
    (kx_NoView_OtherBlocks : PySem.W.kitOne K (.ref C_NoView) (.ref C_OtherBlocks) = some false)
    (kx_NoView_NoNumber : PySem.W.kitOne K (.ref C_NoView) (.ref C_NoNumber) = some false)
    (ss_OtherBlocks_VoteError : PySem.W.subIn K (.ref C_OtherBlocks) (.ref C_VoteError) = some true)
    (kv_OtherBlocks_ValueError : PySem.W.kitOne K (.ref C_OtherBlocks) (.type "ValueError") = some true)
    (kx_OtherBlocks_NoBlock : PySem.W.kitOne K (.ref C_OtherBlocks) (.ref C_NoBlock) = some false)
    (kx_OtherBlocks_NoPlace : PySem.W.kitOne K (.ref C_OtherBlocks) (.ref C_NoPlace) = some false)
    (kx_OtherBlocks_Beneath : PySem.W.kitOne K (.ref C_OtherBlocks) (.ref C_Beneath) = some false)
    (kx_OtherBlocks_NoOrder : PySem.W.kitOne K (.ref C_OtherBlocks) (.ref C_NoOrder) = some false)
    (kx_OtherBlocks_NoView : PySem.W.kitOne K (.ref C_OtherBlocks) (.ref C_NoView) = some false)
    (kx_OtherBlocks_OtherBlocks : PySem.W.kitOne K (.ref C_OtherBlocks) (.ref C_OtherBlocks) = some true)
    (kx_OtherBlocks_NoNumber : PySem.W.kitOne K (.ref C_OtherBlocks) (.ref C_NoNumber) = some false)
    (ss_NoNumber_VoteError : PySem.W.subIn K (.ref C_NoNumber) (.ref C_VoteError) = some true)
    (kv_NoNumber_ValueError : PySem.W.kitOne K (.ref C_NoNumber) (.type "ValueError") = some true)
    (kx_NoNumber_NoBlock : PySem.W.kitOne K (.ref C_NoNumber) (.ref C_NoBlock) = some false)
    (kx_NoNumber_NoPlace : PySem.W.kitOne K (.ref C_NoNumber) (.ref C_NoPlace) = some false)
    (kx_NoNumber_Beneath : PySem.W.kitOne K (.ref C_NoNumber) (.ref C_Beneath) = some false)
    (kx_NoNumber_NoOrder : PySem.W.kitOne K (.ref C_NoNumber) (.ref C_NoOrder) = some false)
    (kx_NoNumber_NoView : PySem.W.kitOne K (.ref C_NoNumber) (.ref C_NoView) = some false)
    (kx_NoNumber_OtherBlocks : PySem.W.kitOne K (.ref C_NoNumber) (.ref C_OtherBlocks) = some false)
    (kx_NoNumber_NoNumber : PySem.W.kitOne K (.ref C_NoNumber) (.ref C_NoNumber) = some true)
    (tall : ∀ p ∈ tabT, p.1 = P_l_order_refused ∨ p.1 = P_l_views_refused ∨ p.1 = P_law)
    : LamX.LawAtS l w K CX0 9 63 "_law_script" mg fa h := by
  have e := hfa.symm.trans (PySem.W.mg_of X G a_law)
  cases e
  have F_is_integer := fun_mk (st := s_is_integer) l_is_integer d_is_integer p_is_integer
  have b_is_integer := F_is_integer.binds (ps := ["thing"]) fun _ _ _ _ _ _ us hl => match us, hl with | [_], _ => rfl
  have F_is_within := fun_mk (st := s_is_within) l_is_within d_is_within p_is_within
  have b_is_within := F_is_within.binds (ps := ["thing", "least", "most"]) fun _ _ _ _ _ _ us hl => match us, hl with | [_, _, _], _ => rfl
  have F_is_pair := fun_mk (st := s_is_pair) l_is_pair d_is_pair p_is_pair
  have b_is_pair := F_is_pair.binds (ps := ["thing"]) fun _ _ _ _ _ _ us hl => match us, hl with | [_], _ => rfl
  have F_is_view := fun_mk (st := s_is_view) l_is_view d_is_view p_is_view
  have b_is_view := F_is_view.binds (ps := ["thing"]) fun _ _ _ _ _ _ us hl => match us, hl with | [_], _ => rfl
  have F_check_block := fun_mk (st := s_check_block) l_check_block d_check_block p_check_block
  have b_check_block := F_check_block.binds (ps := ["blocks", "thing"]) fun _ _ _ _ _ _ us hl => match us, hl with | [_, _], _ => rfl
  have F_check_place := fun_mk (st := s_check_place) l_check_place d_check_place p_check_place
  have b_check_place := F_check_place.binds (ps := ["blocks", "thing"]) fun _ _ _ _ _ _ us hl => match us, hl with | [_, _], _ => rfl
  have F_check_view := fun_mk (st := s_check_view) l_check_view d_check_view p_check_view
  have b_check_view := F_check_view.binds (ps := ["view"]) fun _ _ _ _ _ _ us hl => match us, hl with | [_], _ => rfl
  have F_check_number := fun_mk (st := s_check_number) l_check_number d_check_number p_check_number
  have b_check_number := F_check_number.binds (ps := ["thing", "least", "most"]) fun _ _ _ _ _ _ us hl => match us, hl with | [_, _, _], _ => rfl
  have F_leads_home := fun_mk (st := s_leads_home) l_leads_home d_leads_home p_leads_home
  have b_leads_home := F_leads_home.binds (ps := ["hung", "block"]) fun _ _ _ _ _ _ us hl => match us, hl with | [_, _], _ => rfl
  have F_Tree_init := fun_mk (st := s_Tree_init) l_Tree_init d_Tree_init p_Tree_init
  have b_Tree_init := F_Tree_init.binds (ps := ["self", "hung"]) fun _ _ _ _ _ _ us hl => match us, hl with | [_, _], _ => rfl
  have F_Tree_eq := fun_mk (st := s_Tree_eq) l_Tree_eq d_Tree_eq p_Tree_eq
  have b_Tree_eq := F_Tree_eq.binds (ps := ["self", "other"]) fun _ _ _ _ _ _ us hl => match us, hl with | [_, _], _ => rfl
  have F_place_of := fun_mk (st := s_place_of) l_place_of d_place_of p_place_of
  have b_place_of := F_place_of.binds (ps := ["tree", "block"]) fun _ _ _ _ _ _ us hl => match us, hl with | [_, _], _ => rfl
  have F_parents_in := fun_mk (st := s_parents_in) l_parents_in d_parents_in p_parents_in
  have b_parents_in := F_parents_in.binds (ps := ["hung", "place"]) fun _ _ _ _ _ _ us hl => match us, hl with | [_, _], _ => rfl
  have F_parentsT := fun_mk (st := s_parentsT) l_parentsT d_parentsT p_parentsT
  have b_parentsT := F_parentsT.binds (ps := ["tree", "block"]) fun _ _ _ _ _ _ us hl => match us, hl with | [_, _], _ => rfl
  have F_hanging := fun_mk (st := s_hanging) l_hanging d_hanging p_hanging
  have b_hanging := F_hanging.binds (ps := ["hung", "place"]) fun _ _ _ _ _ _ us hl => match us, hl with | [_, _], _ => rfl
  have F_under := fun_mk (st := s_under) l_under d_under p_under
  have b_under := F_under.binds (ps := ["tree", "place"]) fun _ _ _ _ _ _ us hl => match us, hl with | [_, _], _ => rfl
  have F_beneath_in := fun_mk (st := s_beneath_in) l_beneath_in d_beneath_in p_beneath_in
  have b_beneath_in := F_beneath_in.binds (ps := ["hung", "place"]) fun _ _ _ _ _ _ us hl => match us, hl with | [_, _], _ => rfl
  have F_beneathT := fun_mk (st := s_beneathT) l_beneathT d_beneathT p_beneathT
  have b_beneathT := F_beneathT.binds (ps := ["tree", "place"]) fun _ _ _ _ _ _ us hl => match us, hl with | [_, _], _ => rfl
  have F_with_place := fun_mk (st := s_with_place) l_with_place d_with_place p_with_place
  have b_with_place := F_with_place.binds (ps := ["hung", "block", "place"]) fun _ _ _ _ _ _ us hl => match us, hl with | [_, _, _], _ => rfl
  have F_moved := fun_mk (st := s_moved) l_moved d_moved p_moved
  have b_moved := F_moved.binds (ps := ["tree", "block", "place"]) fun _ _ _ _ _ _ us hl => match us, hl with | [_, _, _], _ => rfl
  have F_called := fun_mk (st := s_called) l_called d_called p_called
  have b_called := F_called.binds (ps := ["tree", "order"]) fun _ _ _ _ _ _ us hl => match us, hl with | [_, _], _ => rfl
  have F_ties_down := fun_mk (st := s_ties_down) l_ties_down d_ties_down p_ties_down
  have b_ties_down := F_ties_down.binds (ps := ["hung", "place", "steps"]) fun _ _ _ _ _ _ us hl => match us, hl with | [_, _, _], _ => rfl
  have F_raw_telling := fun_mk (st := s_raw_telling) l_raw_telling d_raw_telling p_raw_telling
  have b_raw_telling := F_raw_telling.binds (ps := ["hung", "view", "place"]) fun _ _ _ _ _ _ us hl => match us, hl with | [_, _, _], _ => rfl
  have F_telling := fun_mk (st := s_telling) l_telling d_telling p_telling
  have b_telling := F_telling.binds (ps := ["tree", "view", "place"]) fun _ _ _ _ _ _ us hl => match us, hl with | [_, _, _], _ => rfl
  have F_raw_tellings := fun_mk (st := s_raw_tellings) l_raw_tellings d_raw_tellings p_raw_tellings
  have b_raw_tellings := F_raw_tellings.binds (ps := ["hung", "view"]) fun _ _ _ _ _ _ us hl => match us, hl with | [_, _], _ => rfl
  have F_unlike := fun_mk (st := s_unlike) l_unlike d_unlike p_unlike
  have b_unlike := F_unlike.binds (ps := ["tree", "other", "view"]) fun _ _ _ _ _ _ us hl => match us, hl with | [_, _, _], _ => rfl
  have F_raw_distance := fun_mk (st := s_raw_distance) l_raw_distance d_raw_distance p_raw_distance
  have b_raw_distance := F_raw_distance.binds (ps := ["view"]) fun _ _ _ _ _ _ us hl => match us, hl with | [_], _ => rfl
  have F_distance := fun_mk (st := s_distance) l_distance d_distance p_distance
  have b_distance := F_distance.binds (ps := ["view"]) fun _ _ _ _ _ _ us hl => match us, hl with | [_], _ => rfl
  have F_twins := fun_mk (st := s_twins) l_twins d_twins p_twins
  have b_twins := F_twins.binds (ps := ["view", "blocks"]) fun _ _ _ _ _ _ us hl => match us, hl with | [_, _], _ => rfl
  have F_l_pool := fun_mk (st := s_l_pool) l_l_pool d_l_pool p_l_pool
  have b_l_pool := F_l_pool.binds (ps := ["_law_script"]) fun _ _ _ _ _ _ us hl => match us, hl with | [_], _ => rfl
  have F_l_draw := fun_mk (st := s_l_draw) l_l_draw d_l_draw p_l_draw
  have b_l_draw := F_l_draw.binds (ps := ["_law_pool_here", "_law_many"]) fun _ _ _ _ _ _ us hl => match us, hl with | [_, _], _ => rfl
  have F_l_pick := fun_mk (st := s_l_pick) l_l_pick d_l_pick p_l_pick
  have b_l_pick := F_l_pick.binds (ps := ["_law_pool_here", "_law_things"]) fun _ _ _ _ _ _ us hl => match us, hl with | [_, _], _ => rfl
  have F_l_is := fun_mk (st := s_l_is) l_l_is d_l_is p_l_is
  have b_l_is := F_l_is.binds (ps := ["_law_told", "_law_due"]) fun _ _ _ _ _ _ us hl => match us, hl with | [_, _], _ => rfl
  have F_l_deep := fun_mk (st := s_l_deep) l_l_deep d_l_deep p_l_deep
  have b_l_deep := F_l_deep.binds (ps := []) fun _ _ _ _ _ _ us hl => match us, hl with | [], _ => rfl
  have F_l_is_number := fun_mk (st := s_l_is_number) l_l_is_number d_l_is_number p_l_is_number
  have b_l_is_number := F_l_is_number.binds (ps := ["_law_thing", "_law_least", "_law_most"]) fun _ _ _ _ _ _ us hl => match us, hl with | [_, _, _], _ => rfl
  have F_l_mixed := fun_mk (st := s_l_mixed) l_l_mixed d_l_mixed p_l_mixed
  have b_l_mixed := F_l_mixed.binds (ps := ["_law_pool_here", "_law_many"]) fun _ _ _ _ _ _ us hl => match us, hl with | [_, _], _ => rfl
  have F_l_hung := fun_mk (st := s_l_hung) l_l_hung d_l_hung p_l_hung
  have b_l_hung := F_l_hung.binds (ps := ["_law_pool_here", "_law_many"]) fun _ _ _ _ _ _ us hl => match us, hl with | [_, _], _ => rfl
  have F_l_way := fun_mk (st := s_l_way) l_l_way d_l_way p_l_way
  have b_l_way := F_l_way.binds (ps := ["_law_hung_here", "_law_place"]) fun _ _ _ _ _ _ us hl => match us, hl with | [_, _], _ => rfl
  have F_l_odd := fun_mk (st := s_l_odd) l_l_odd d_l_odd p_l_odd
  have b_l_odd := F_l_odd.binds (ps := ["_law_pool_here", "_law_most"]) fun _ _ _ _ _ _ us hl => match us, hl with | [_, _], _ => rfl
  have F_l_word := fun_mk (st := s_l_word) l_l_word d_l_word p_l_word
  have b_l_word := F_l_word.binds (ps := ["_law_call"]) fun _ _ _ _ _ _ us hl => match us, hl with | [_], _ => rfl
  have F_l_order_refused := fun_mk (st := s_l_order_refused) l_l_order_refused d_l_order_refused p_l_order_refused
  have b_l_order_refused := F_l_order_refused.binds (ps := ["_law_pool_here", "_law_tree", "_law_many"]) fun _ _ _ _ _ _ us hl => match us, hl with | [_, _, _], _ => rfl
  have F_l_views_refused := fun_mk (st := s_l_views_refused) l_l_views_refused d_l_views_refused p_l_views_refused
  have b_l_views_refused := F_l_views_refused.binds (ps := ["_law_pool_here", "_law_tree", "_law_place", "_law_is_place"]) fun _ _ _ _ _ _ us hl => match us, hl with | [_, _, _, _], _ => rfl
  have F_law := fun_mk (st := s_law) l_law d_law p_law
  have b_law := F_law.binds (ps := ["_law_script"]) fun _ _ _ _ _ _ us hl => match us, hl with | [_], _ => rfl
  have o_Tree : OwnC K C_Tree := ⟨⟨⟨pg_Tree, hd_Tree, po_Tree, sa_Tree⟩, ha_Tree, hn_Tree, ht_Tree, hm_Tree, me_Tree⟩, fun s hs => by
    rcases hs with rfl | rfl | rfl | rfl | rfl | rfl | rfl
    · exact ⟨ktNoneType_Tree, ntNoneType_Tree⟩
    · exact ⟨ktbool_Tree, ntbool_Tree⟩
    · exact ⟨ktint_Tree, ntint_Tree⟩
    · exact ⟨ktstr_Tree, ntstr_Tree⟩
    · exact ⟨ktlist_Tree, ntlist_Tree⟩
    · exact ⟨kttuple_Tree, nttuple_Tree⟩
    · exact ⟨ktdict_Tree, ntdict_Tree⟩⟩
  have kf_Tree : ∀ T, okTy T → PySem.W.kitOne K (.ref C_Tree) (.type T) = some false := fun T hT => by
    rcases hT with rfl | rfl | rfl | rfl | rfl | rfl
    · exact kiint_Tree
    · exact kibool_Tree
    · exact kituple_Tree
    · exact kilist_Tree
    · exact kidict_Tree
    · exact kistr_Tree
  let T : Txt K mg := {
    z_ValueError := PySem.W.mg_none_of X G z_ValueError
    z_abs := PySem.W.mg_none_of X G z_abs
    z_all := PySem.W.mg_none_of X G z_all
    z_bool := PySem.W.mg_none_of X G z_bool
    z_dict := PySem.W.mg_none_of X G z_dict
    z_int := PySem.W.mg_none_of X G z_int
    z_isinstance := PySem.W.mg_none_of X G z_isinstance
    z_len := PySem.W.mg_none_of X G z_len
    z_list := PySem.W.mg_none_of X G z_list
    z_range := PySem.W.mg_none_of X G z_range
    z_sorted := PySem.W.mg_none_of X G z_sorted
    z_tuple := PySem.W.mg_none_of X G z_tuple
    k_HEAD := k_HEAD
    c_HEAD := PySem.W.mg_of X G c_HEAD
    k_MOST_BLOCKS := k_MOST_BLOCKS
    c_MOST_BLOCKS := PySem.W.mg_of X G c_MOST_BLOCKS
    k_MOST_STEPS := k_MOST_STEPS
    c_MOST_STEPS := PySem.W.mg_of X G c_MOST_STEPS
    C_Tree := C_Tree
    g_Tree := PySem.W.mg_of X G a_Tree
    C_NoBlock := C_NoBlock
    g_NoBlock := PySem.W.mg_of X G a_NoBlock
    C_NoPlace := C_NoPlace
    g_NoPlace := PySem.W.mg_of X G a_NoPlace
    C_Beneath := C_Beneath
    g_Beneath := PySem.W.mg_of X G a_Beneath
    C_NoOrder := C_NoOrder
    g_NoOrder := PySem.W.mg_of X G a_NoOrder
    C_NoView := C_NoView
    g_NoView := PySem.W.mg_of X G a_NoView
    C_OtherBlocks := C_OtherBlocks
    g_OtherBlocks := PySem.W.mg_of X G a_OtherBlocks
    C_NoNumber := C_NoNumber
    g_NoNumber := PySem.W.mg_of X G a_NoNumber
    C_VoteError := C_VoteError
    g_VoteError := PySem.W.mg_of X G a_VoteError
    f_is_integer := f_is_integer
    fd_is_integer := PySem.W.fnOf "is_integer" "is_integer" (defArgs s_is_integer) (defBody s_is_integer) (defScope s_is_integer) .none kV_is_integer dc_is_integer pm_is_integer an_is_integer cd_is_integer ct_is_integer
    F_is_integer := F_is_integer
    b_is_integer := b_is_integer
    g_is_integer := PySem.W.mg_of X G a_is_integer
    f_is_within := f_is_within
    fd_is_within := PySem.W.fnOf "is_within" "is_within" (defArgs s_is_within) (defBody s_is_within) (defScope s_is_within) .none kV_is_within dc_is_within pm_is_within an_is_within cd_is_within ct_is_within
    F_is_within := F_is_within
    b_is_within := b_is_within
    g_is_within := PySem.W.mg_of X G a_is_within
    f_is_pair := f_is_pair
    fd_is_pair := PySem.W.fnOf "is_pair" "is_pair" (defArgs s_is_pair) (defBody s_is_pair) (defScope s_is_pair) .none kV_is_pair dc_is_pair pm_is_pair an_is_pair cd_is_pair ct_is_pair
    F_is_pair := F_is_pair
    b_is_pair := b_is_pair
    g_is_pair := PySem.W.mg_of X G a_is_pair
    f_is_view := f_is_view
    fd_is_view := PySem.W.fnOf "is_view" "is_view" (defArgs s_is_view) (defBody s_is_view) (defScope s_is_view) .none kV_is_view dc_is_view pm_is_view an_is_view cd_is_view ct_is_view
    F_is_view := F_is_view
    b_is_view := b_is_view
    g_is_view := PySem.W.mg_of X G a_is_view
    f_check_block := f_check_block
    fd_check_block := PySem.W.fnOf "check_block" "check_block" (defArgs s_check_block) (defBody s_check_block) (defScope s_check_block) .none kV_check_block dc_check_block pm_check_block an_check_block cd_check_block ct_check_block
    F_check_block := F_check_block
    b_check_block := b_check_block
    g_check_block := PySem.W.mg_of X G a_check_block
    f_check_place := f_check_place
    fd_check_place := PySem.W.fnOf "check_place" "check_place" (defArgs s_check_place) (defBody s_check_place) (defScope s_check_place) .none kV_check_place dc_check_place pm_check_place an_check_place cd_check_place ct_check_place
    F_check_place := F_check_place
    b_check_place := b_check_place
    g_check_place := PySem.W.mg_of X G a_check_place
    f_check_view := f_check_view
    fd_check_view := PySem.W.fnOf "check_view" "check_view" (defArgs s_check_view) (defBody s_check_view) (defScope s_check_view) .none kV_check_view dc_check_view pm_check_view an_check_view cd_check_view ct_check_view
    F_check_view := F_check_view
    b_check_view := b_check_view
    g_check_view := PySem.W.mg_of X G a_check_view
    f_check_number := f_check_number
    fd_check_number := PySem.W.fnOf "check_number" "check_number" (defArgs s_check_number) (defBody s_check_number) (defScope s_check_number) .none kV_check_number dc_check_number pm_check_number an_check_number cd_check_number ct_check_number
    F_check_number := F_check_number
    b_check_number := b_check_number
    g_check_number := PySem.W.mg_of X G a_check_number
    f_leads_home := f_leads_home
    fd_leads_home := PySem.W.fnOf "leads_home" "leads_home" (defArgs s_leads_home) (defBody s_leads_home) (defScope s_leads_home) .none kV_leads_home dc_leads_home pm_leads_home an_leads_home cd_leads_home ct_leads_home
    F_leads_home := F_leads_home
    b_leads_home := b_leads_home
    g_leads_home := PySem.W.mg_of X G a_leads_home
    f_Tree_init := f_Tree_init
    fd_Tree_init := PySem.W.fnOf "__init__" "Tree.__init__" (defArgs s_Tree_init) (defBody s_Tree_init) (defScope s_Tree_init) .none kV_Tree_init dc_Tree_init pm_Tree_init an_Tree_init cd_Tree_init ct_Tree_init
    F_Tree_init := F_Tree_init
    b_Tree_init := b_Tree_init
    f_Tree_eq := f_Tree_eq
    fd_Tree_eq := PySem.W.fnOf "__eq__" "Tree.__eq__" (defArgs s_Tree_eq) (defBody s_Tree_eq) (defScope s_Tree_eq) .none kV_Tree_eq dc_Tree_eq pm_Tree_eq an_Tree_eq cd_Tree_eq ct_Tree_eq
    F_Tree_eq := F_Tree_eq
    b_Tree_eq := b_Tree_eq
    f_place_of := f_place_of
    fd_place_of := PySem.W.fnOf "place_of" "place_of" (defArgs s_place_of) (defBody s_place_of) (defScope s_place_of) .none kV_place_of dc_place_of pm_place_of an_place_of cd_place_of ct_place_of
    F_place_of := F_place_of
    b_place_of := b_place_of
    g_place_of := PySem.W.mg_of X G a_place_of
    f_parents_in := f_parents_in
    fd_parents_in := PySem.W.fnOf "parents_in" "parents_in" (defArgs s_parents_in) (defBody s_parents_in) (defScope s_parents_in) .none kV_parents_in dc_parents_in pm_parents_in an_parents_in cd_parents_in ct_parents_in
    F_parents_in := F_parents_in
    b_parents_in := b_parents_in
    g_parents_in := PySem.W.mg_of X G a_parents_in
    f_parentsT := f_parentsT
    fd_parentsT := PySem.W.fnOf "parents" "parents" (defArgs s_parentsT) (defBody s_parentsT) (defScope s_parentsT) .none kV_parentsT dc_parentsT pm_parentsT an_parentsT cd_parentsT ct_parentsT
    F_parentsT := F_parentsT
    b_parentsT := b_parentsT
    g_parentsT := PySem.W.mg_of X G a_parentsT
    f_hanging := f_hanging
    fd_hanging := PySem.W.fnOf "hanging" "hanging" (defArgs s_hanging) (defBody s_hanging) (defScope s_hanging) .none kV_hanging dc_hanging pm_hanging an_hanging cd_hanging ct_hanging
    F_hanging := F_hanging
    b_hanging := b_hanging
    g_hanging := PySem.W.mg_of X G a_hanging
    f_under := f_under
    fd_under := PySem.W.fnOf "under" "under" (defArgs s_under) (defBody s_under) (defScope s_under) .none kV_under dc_under pm_under an_under cd_under ct_under
    F_under := F_under
    b_under := b_under
    g_under := PySem.W.mg_of X G a_under
    f_beneath_in := f_beneath_in
    fd_beneath_in := PySem.W.fnOf "beneath_in" "beneath_in" (defArgs s_beneath_in) (defBody s_beneath_in) (defScope s_beneath_in) .none kV_beneath_in dc_beneath_in pm_beneath_in an_beneath_in cd_beneath_in ct_beneath_in
    F_beneath_in := F_beneath_in
    b_beneath_in := b_beneath_in
    g_beneath_in := PySem.W.mg_of X G a_beneath_in
    f_beneathT := f_beneathT
    fd_beneathT := PySem.W.fnOf "beneath" "beneath" (defArgs s_beneathT) (defBody s_beneathT) (defScope s_beneathT) .none kV_beneathT dc_beneathT pm_beneathT an_beneathT cd_beneathT ct_beneathT
    F_beneathT := F_beneathT
    b_beneathT := b_beneathT
    g_beneathT := PySem.W.mg_of X G a_beneathT
    f_with_place := f_with_place
    fd_with_place := PySem.W.fnOf "with_place" "with_place" (defArgs s_with_place) (defBody s_with_place) (defScope s_with_place) .none kV_with_place dc_with_place pm_with_place an_with_place cd_with_place ct_with_place
    F_with_place := F_with_place
    b_with_place := b_with_place
    g_with_place := PySem.W.mg_of X G a_with_place
    f_moved := f_moved
    fd_moved := PySem.W.fnOf "moved" "moved" (defArgs s_moved) (defBody s_moved) (defScope s_moved) .none kV_moved dc_moved pm_moved an_moved cd_moved ct_moved
    F_moved := F_moved
    b_moved := b_moved
    g_moved := PySem.W.mg_of X G a_moved
    f_called := f_called
    fd_called := PySem.W.fnOf "called" "called" (defArgs s_called) (defBody s_called) (defScope s_called) .none kV_called dc_called pm_called an_called cd_called ct_called
    F_called := F_called
    b_called := b_called
    g_called := PySem.W.mg_of X G a_called
    f_ties_down := f_ties_down
    fd_ties_down := PySem.W.fnOf "ties_down" "ties_down" (defArgs s_ties_down) (defBody s_ties_down) (defScope s_ties_down) .none kV_ties_down dc_ties_down pm_ties_down an_ties_down cd_ties_down ct_ties_down
    F_ties_down := F_ties_down
    b_ties_down := b_ties_down
    g_ties_down := PySem.W.mg_of X G a_ties_down
    f_raw_telling := f_raw_telling
    fd_raw_telling := PySem.W.fnOf "raw_telling" "raw_telling" (defArgs s_raw_telling) (defBody s_raw_telling) (defScope s_raw_telling) .none kV_raw_telling dc_raw_telling pm_raw_telling an_raw_telling cd_raw_telling ct_raw_telling
    F_raw_telling := F_raw_telling
    b_raw_telling := b_raw_telling
    g_raw_telling := PySem.W.mg_of X G a_raw_telling
    f_telling := f_telling
    fd_telling := PySem.W.fnOf "telling" "telling" (defArgs s_telling) (defBody s_telling) (defScope s_telling) .none kV_telling dc_telling pm_telling an_telling cd_telling ct_telling
    F_telling := F_telling
    b_telling := b_telling
    g_telling := PySem.W.mg_of X G a_telling
    f_raw_tellings := f_raw_tellings
    fd_raw_tellings := PySem.W.fnOf "raw_tellings" "raw_tellings" (defArgs s_raw_tellings) (defBody s_raw_tellings) (defScope s_raw_tellings) .none kV_raw_tellings dc_raw_tellings pm_raw_tellings an_raw_tellings cd_raw_tellings ct_raw_tellings
    F_raw_tellings := F_raw_tellings
    b_raw_tellings := b_raw_tellings
    g_raw_tellings := PySem.W.mg_of X G a_raw_tellings
    f_unlike := f_unlike
    fd_unlike := PySem.W.fnOf "unlike" "unlike" (defArgs s_unlike) (defBody s_unlike) (defScope s_unlike) .none kV_unlike dc_unlike pm_unlike an_unlike cd_unlike ct_unlike
    F_unlike := F_unlike
    b_unlike := b_unlike
    g_unlike := PySem.W.mg_of X G a_unlike
    f_raw_distance := f_raw_distance
    fd_raw_distance := PySem.W.fnOf "raw_distance" "raw_distance" (defArgs s_raw_distance) (defBody s_raw_distance) (defScope s_raw_distance) .none kV_raw_distance dc_raw_distance pm_raw_distance an_raw_distance cd_raw_distance ct_raw_distance
    F_raw_distance := F_raw_distance
    b_raw_distance := b_raw_distance
    g_raw_distance := PySem.W.mg_of X G a_raw_distance
    f_distance := f_distance
    fd_distance := PySem.W.fnOf "distance" "distance" (defArgs s_distance) (defBody s_distance) (defScope s_distance) .none kV_distance dc_distance pm_distance an_distance cd_distance ct_distance
    F_distance := F_distance
    b_distance := b_distance
    g_distance := PySem.W.mg_of X G a_distance
    f_twins := f_twins
    fd_twins := PySem.W.fnOf "twins" "twins" (defArgs s_twins) (defBody s_twins) (defScope s_twins) .none kV_twins dc_twins pm_twins an_twins cd_twins ct_twins
    F_twins := F_twins
    b_twins := b_twins
    g_twins := PySem.W.mg_of X G a_twins
    f_l_pool := f_l_pool
    fd_l_pool := PySem.W.fnOf "_law_pool" "_law_pool" (defArgs s_l_pool) (defBody s_l_pool) (defScope s_l_pool) .none kV_l_pool dc_l_pool pm_l_pool an_l_pool cd_l_pool ct_l_pool
    F_l_pool := F_l_pool
    b_l_pool := b_l_pool
    g_l_pool := PySem.W.mg_of X G a_l_pool
    f_l_draw := f_l_draw
    fd_l_draw := PySem.W.fnOf "_law_draw" "_law_draw" (defArgs s_l_draw) (defBody s_l_draw) (defScope s_l_draw) .none kV_l_draw dc_l_draw pm_l_draw an_l_draw cd_l_draw ct_l_draw
    F_l_draw := F_l_draw
    b_l_draw := b_l_draw
    g_l_draw := PySem.W.mg_of X G a_l_draw
    f_l_pick := f_l_pick
    fd_l_pick := PySem.W.fnOf "_law_pick" "_law_pick" (defArgs s_l_pick) (defBody s_l_pick) (defScope s_l_pick) .none kV_l_pick dc_l_pick pm_l_pick an_l_pick cd_l_pick ct_l_pick
    F_l_pick := F_l_pick
    b_l_pick := b_l_pick
    g_l_pick := PySem.W.mg_of X G a_l_pick
    f_l_is := f_l_is
    fd_l_is := PySem.W.fnOf "_law_is" "_law_is" (defArgs s_l_is) (defBody s_l_is) (defScope s_l_is) .none kV_l_is dc_l_is pm_l_is an_l_is cd_l_is ct_l_is
    F_l_is := F_l_is
    b_l_is := b_l_is
    g_l_is := PySem.W.mg_of X G a_l_is
    f_l_deep := f_l_deep
    fd_l_deep := PySem.W.fnOf "_law_deep" "_law_deep" (defArgs s_l_deep) (defBody s_l_deep) (defScope s_l_deep) .none kV_l_deep dc_l_deep pm_l_deep an_l_deep cd_l_deep ct_l_deep
    F_l_deep := F_l_deep
    b_l_deep := b_l_deep
    g_l_deep := PySem.W.mg_of X G a_l_deep
    f_l_is_number := f_l_is_number
    fd_l_is_number := PySem.W.fnOf "_law_is_number" "_law_is_number" (defArgs s_l_is_number) (defBody s_l_is_number) (defScope s_l_is_number) .none kV_l_is_number dc_l_is_number pm_l_is_number an_l_is_number cd_l_is_number ct_l_is_number
    F_l_is_number := F_l_is_number
    b_l_is_number := b_l_is_number
    g_l_is_number := PySem.W.mg_of X G a_l_is_number
    f_l_mixed := f_l_mixed
    fd_l_mixed := PySem.W.fnOf "_law_mixed" "_law_mixed" (defArgs s_l_mixed) (defBody s_l_mixed) (defScope s_l_mixed) .none kV_l_mixed dc_l_mixed pm_l_mixed an_l_mixed cd_l_mixed ct_l_mixed
    F_l_mixed := F_l_mixed
    b_l_mixed := b_l_mixed
    g_l_mixed := PySem.W.mg_of X G a_l_mixed
    f_l_hung := f_l_hung
    fd_l_hung := PySem.W.fnOf "_law_hung" "_law_hung" (defArgs s_l_hung) (defBody s_l_hung) (defScope s_l_hung) .none kV_l_hung dc_l_hung pm_l_hung an_l_hung cd_l_hung ct_l_hung
    F_l_hung := F_l_hung
    b_l_hung := b_l_hung
    g_l_hung := PySem.W.mg_of X G a_l_hung
    f_l_way := f_l_way
    fd_l_way := PySem.W.fnOf "_law_way" "_law_way" (defArgs s_l_way) (defBody s_l_way) (defScope s_l_way) .none kV_l_way dc_l_way pm_l_way an_l_way cd_l_way ct_l_way
    F_l_way := F_l_way
    b_l_way := b_l_way
    g_l_way := PySem.W.mg_of X G a_l_way
    f_l_odd := f_l_odd
    fd_l_odd := PySem.W.fnOf "_law_odd" "_law_odd" (defArgs s_l_odd) (defBody s_l_odd) (defScope s_l_odd) .none kV_l_odd dc_l_odd pm_l_odd an_l_odd cd_l_odd ct_l_odd
    F_l_odd := F_l_odd
    b_l_odd := b_l_odd
    g_l_odd := PySem.W.mg_of X G a_l_odd
    f_l_word := f_l_word
    fd_l_word := PySem.W.fnOf "_law_word" "_law_word" (defArgs s_l_word) (defBody s_l_word) (defScope s_l_word) .none kV_l_word dc_l_word pm_l_word an_l_word cd_l_word ct_l_word
    F_l_word := F_l_word
    b_l_word := b_l_word
    g_l_word := PySem.W.mg_of X G a_l_word
    f_l_order_refused := f_l_order_refused
    fd_l_order_refused := PySem.W.fnOf "_law_order_refused" "_law_order_refused" (defArgs s_l_order_refused) (defBody s_l_order_refused) (defScope s_l_order_refused) .none kV_l_order_refused dc_l_order_refused pm_l_order_refused an_l_order_refused (.ref cc_l_order_refused) ct_l_order_refused
    F_l_order_refused := F_l_order_refused
    cc_l_order_refused := cc_l_order_refused
    P_l_order_refused := P_l_order_refused
    FC_l_order_refused := ⟨_, _, _, _, _, _, _, _, rfl, l_l_order_refused, d_l_order_refused⟩
    tm_l_order_refused := tm_l_order_refused
    tu_l_order_refused := tu_l_order_refused
    b_l_order_refused := b_l_order_refused
    g_l_order_refused := PySem.W.mg_of X G a_l_order_refused
    f_l_views_refused := f_l_views_refused
    fd_l_views_refused := PySem.W.fnOf "_law_views_refused" "_law_views_refused" (defArgs s_l_views_refused) (defBody s_l_views_refused) (defScope s_l_views_refused) .none kV_l_views_refused dc_l_views_refused pm_l_views_refused an_l_views_refused (.ref cc_l_views_refused) ct_l_views_refused
    F_l_views_refused := F_l_views_refused
    cc_l_views_refused := cc_l_views_refused
    P_l_views_refused := P_l_views_refused
    FC_l_views_refused := ⟨_, _, _, _, _, _, _, _, rfl, l_l_views_refused, d_l_views_refused⟩
    tm_l_views_refused := tm_l_views_refused
    tu_l_views_refused := tu_l_views_refused
    b_l_views_refused := b_l_views_refused
    g_l_views_refused := PySem.W.mg_of X G a_l_views_refused
    f_law := fa
    fd_law := PySem.W.fnOf "law" "law" (defArgs s_law) (defBody s_law) (defScope s_law) .none kV_law dc_law pm_law an_law (.ref cc_law) ct_law
    F_law := F_law
    cc_law := cc_law
    P_law := P_law
    FC_law := ⟨_, _, _, _, _, _, _, _, rfl, l_law, d_law⟩
    tm_law := tm_law
    tu_law := tu_law
    b_law := b_law
    g_law := PySem.W.mg_of X G a_law
    M_Tree := ⟨mk_Tree, a_Tree_init, if_Tree, kc_Tree⟩
    o_Tree := o_Tree
    nf_Tree_hung := nf_Tree_hung
    kf_Tree := kf_Tree
    e_Tree := a_Tree_eq
    ef_Tree := ef_Tree
    ne_Tree := ⟨⟨_, _, _, _, _, _, _, _, _, _, _, _, _, _, _, _, xL_Tree, ns_ok nL_Tree no_Tree, ne0_Tree, ne1_Tree⟩, ⟨_, l_Tree_eq, rfl⟩⟩
    xc_NoBlock := ⟨ic_NoBlock, ga_NoBlock, gt_NoBlock, be_NoBlock, hd_NoBlock, ha_NoBlock, hn_NoBlock, ht_NoBlock, hm_NoBlock⟩
    te_NoBlock := PySem.W.exm_ref be_NoBlock hd_NoBlock ty_NoBlock ss_NoBlock
    X_NoBlock := ⟨⟨_, _, _, _, _, _, _, _, _, _, _, _, _, _, _, xL_NoBlock, by rfl⟩, sa_NoBlock, be_NoBlock, ty_NoBlock, kc_NoBlock⟩
    x0_NoBlock := x0_NoBlock
    xc_NoPlace := ⟨ic_NoPlace, ga_NoPlace, gt_NoPlace, be_NoPlace, hd_NoPlace, ha_NoPlace, hn_NoPlace, ht_NoPlace, hm_NoPlace⟩
    te_NoPlace := PySem.W.exm_ref be_NoPlace hd_NoPlace ty_NoPlace ss_NoPlace
    X_NoPlace := ⟨⟨_, _, _, _, _, _, _, _, _, _, _, _, _, _, _, xL_NoPlace, by rfl⟩, sa_NoPlace, be_NoPlace, ty_NoPlace, kc_NoPlace⟩
    x0_NoPlace := x0_NoPlace
    xc_Beneath := ⟨ic_Beneath, ga_Beneath, gt_Beneath, be_Beneath, hd_Beneath, ha_Beneath, hn_Beneath, ht_Beneath, hm_Beneath⟩
    te_Beneath := PySem.W.exm_ref be_Beneath hd_Beneath ty_Beneath ss_Beneath
    X_Beneath := ⟨⟨_, _, _, _, _, _, _, _, _, _, _, _, _, _, _, xL_Beneath, by rfl⟩, sa_Beneath, be_Beneath, ty_Beneath, kc_Beneath⟩
    x0_Beneath := x0_Beneath
    xc_NoOrder := ⟨ic_NoOrder, ga_NoOrder, gt_NoOrder, be_NoOrder, hd_NoOrder, ha_NoOrder, hn_NoOrder, ht_NoOrder, hm_NoOrder⟩
    te_NoOrder := PySem.W.exm_ref be_NoOrder hd_NoOrder ty_NoOrder ss_NoOrder
    X_NoOrder := ⟨⟨_, _, _, _, _, _, _, _, _, _, _, _, _, _, _, xL_NoOrder, by rfl⟩, sa_NoOrder, be_NoOrder, ty_NoOrder, kc_NoOrder⟩
    x0_NoOrder := x0_NoOrder
    xc_NoView := ⟨ic_NoView, ga_NoView, gt_NoView, be_NoView, hd_NoView, ha_NoView, hn_NoView, ht_NoView, hm_NoView⟩
    te_NoView := PySem.W.exm_ref be_NoView hd_NoView ty_NoView ss_NoView
    X_NoView := ⟨⟨_, _, _, _, _, _, _, _, _, _, _, _, _, _, _, xL_NoView, by rfl⟩, sa_NoView, be_NoView, ty_NoView, kc_NoView⟩
    x0_NoView := x0_NoView
    xc_OtherBlocks := ⟨ic_OtherBlocks, ga_OtherBlocks, gt_OtherBlocks, be_OtherBlocks, hd_OtherBlocks, ha_OtherBlocks, hn_OtherBlocks, ht_OtherBlocks, hm_OtherBlocks⟩
    te_OtherBlocks := PySem.W.exm_ref be_OtherBlocks hd_OtherBlocks ty_OtherBlocks ss_OtherBlocks
    X_OtherBlocks := ⟨⟨_, _, _, _, _, _, _, _, _, _, _, _, _, _, _, xL_OtherBlocks, by rfl⟩, sa_OtherBlocks, be_OtherBlocks, ty_OtherBlocks, kc_OtherBlocks⟩
    x0_OtherBlocks := x0_OtherBlocks
    xc_NoNumber := ⟨ic_NoNumber, ga_NoNumber, gt_NoNumber, be_NoNumber, hd_NoNumber, ha_NoNumber, hn_NoNumber, ht_NoNumber, hm_NoNumber⟩
    te_NoNumber := PySem.W.exm_ref be_NoNumber hd_NoNumber ty_NoNumber ss_NoNumber
    X_NoNumber := ⟨⟨_, _, _, _, _, _, _, _, _, _, _, _, _, _, _, xL_NoNumber, by rfl⟩, sa_NoNumber, be_NoNumber, ty_NoNumber, kc_NoNumber⟩
    x0_NoNumber := x0_NoNumber
    xc_VoteError := ⟨ic_VoteError, ga_VoteError, gt_VoteError, be_VoteError, hd_VoteError, ha_VoteError, hn_VoteError, ht_VoteError, hm_VoteError⟩
    te_VoteError := PySem.W.exm_ref be_VoteError hd_VoteError ty_VoteError ss_VoteError
    X_VoteError := ⟨⟨_, _, _, _, _, _, _, _, _, _, _, _, _, _, _, xL_VoteError, by rfl⟩, sa_VoteError, be_VoteError, ty_VoteError, kc_VoteError⟩
    te_NoBlock_VoteError := PySem.W.exm_ref be_VoteError hd_VoteError ty_VoteError ss_NoBlock_VoteError
    kv_NoBlock_ValueError := kv_NoBlock_ValueError
    kx_NoBlock_NoBlock := kx_NoBlock_NoBlock
    kx_NoBlock_NoPlace := kx_NoBlock_NoPlace
    kx_NoBlock_Beneath := kx_NoBlock_Beneath
    kx_NoBlock_NoOrder := kx_NoBlock_NoOrder
    kx_NoBlock_NoView := kx_NoBlock_NoView
    kx_NoBlock_OtherBlocks := kx_NoBlock_OtherBlocks
    kx_NoBlock_NoNumber := kx_NoBlock_NoNumber
    te_NoPlace_VoteError := PySem.W.exm_ref be_VoteError hd_VoteError ty_VoteError ss_NoPlace_VoteError
    kv_NoPlace_ValueError := kv_NoPlace_ValueError
    kx_NoPlace_NoBlock := kx_NoPlace_NoBlock
    kx_NoPlace_NoPlace := kx_NoPlace_NoPlace
    kx_NoPlace_Beneath := kx_NoPlace_Beneath
    kx_NoPlace_NoOrder := kx_NoPlace_NoOrder
    kx_NoPlace_NoView := kx_NoPlace_NoView
    kx_NoPlace_OtherBlocks := kx_NoPlace_OtherBlocks
    kx_NoPlace_NoNumber := kx_NoPlace_NoNumber
    te_Beneath_VoteError := PySem.W.exm_ref be_VoteError hd_VoteError ty_VoteError ss_Beneath_VoteError
    kv_Beneath_ValueError := kv_Beneath_ValueError
    kx_Beneath_NoBlock := kx_Beneath_NoBlock
    kx_Beneath_NoPlace := kx_Beneath_NoPlace
    kx_Beneath_Beneath := kx_Beneath_Beneath
    kx_Beneath_NoOrder := kx_Beneath_NoOrder
    kx_Beneath_NoView := kx_Beneath_NoView
    kx_Beneath_OtherBlocks := kx_Beneath_OtherBlocks
    kx_Beneath_NoNumber := kx_Beneath_NoNumber
    te_NoOrder_VoteError := PySem.W.exm_ref be_VoteError hd_VoteError ty_VoteError ss_NoOrder_VoteError
    kv_NoOrder_ValueError := kv_NoOrder_ValueError
    kx_NoOrder_NoBlock := kx_NoOrder_NoBlock
    kx_NoOrder_NoPlace := kx_NoOrder_NoPlace
    kx_NoOrder_Beneath := kx_NoOrder_Beneath
    kx_NoOrder_NoOrder := kx_NoOrder_NoOrder
    kx_NoOrder_NoView := kx_NoOrder_NoView
    kx_NoOrder_OtherBlocks := kx_NoOrder_OtherBlocks
    kx_NoOrder_NoNumber := kx_NoOrder_NoNumber
    te_NoView_VoteError := PySem.W.exm_ref be_VoteError hd_VoteError ty_VoteError ss_NoView_VoteError
    kv_NoView_ValueError := kv_NoView_ValueError
    kx_NoView_NoBlock := kx_NoView_NoBlock
    kx_NoView_NoPlace := kx_NoView_NoPlace
    kx_NoView_Beneath := kx_NoView_Beneath
    kx_NoView_NoOrder := kx_NoView_NoOrder
    kx_NoView_NoView := kx_NoView_NoView
    kx_NoView_OtherBlocks := kx_NoView_OtherBlocks
    kx_NoView_NoNumber := kx_NoView_NoNumber
    te_OtherBlocks_VoteError := PySem.W.exm_ref be_VoteError hd_VoteError ty_VoteError ss_OtherBlocks_VoteError
    kv_OtherBlocks_ValueError := kv_OtherBlocks_ValueError
    kx_OtherBlocks_NoBlock := kx_OtherBlocks_NoBlock
    kx_OtherBlocks_NoPlace := kx_OtherBlocks_NoPlace
    kx_OtherBlocks_Beneath := kx_OtherBlocks_Beneath
    kx_OtherBlocks_NoOrder := kx_OtherBlocks_NoOrder
    kx_OtherBlocks_NoView := kx_OtherBlocks_NoView
    kx_OtherBlocks_OtherBlocks := kx_OtherBlocks_OtherBlocks
    kx_OtherBlocks_NoNumber := kx_OtherBlocks_NoNumber
    te_NoNumber_VoteError := PySem.W.exm_ref be_VoteError hd_VoteError ty_VoteError ss_NoNumber_VoteError
    kv_NoNumber_ValueError := kv_NoNumber_ValueError
    kx_NoNumber_NoBlock := kx_NoNumber_NoBlock
    kx_NoNumber_NoPlace := kx_NoNumber_NoPlace
    kx_NoNumber_Beneath := kx_NoNumber_Beneath
    kx_NoNumber_NoOrder := kx_NoNumber_NoOrder
    kx_NoNumber_NoView := kx_NoNumber_NoView
    kx_NoNumber_OtherBlocks := kx_NoNumber_OtherBlocks
    kx_NoNumber_NoNumber := kx_NoNumber_NoNumber
  }
  refine ⟨PySem.W.fnOf "law" "law" (defArgs s_law) (defBody s_law) (defScope s_law) .none kV_law dc_law pm_law an_law (.ref cc_law) ct_law, [(cc_l_order_refused, P_l_order_refused), (cc_l_views_refused, P_l_views_refused), (cc_law, P_law)], spLaw K, fun p hp => ?_, fun p hp => ?_, fun p hp => ?_, fun s v => .of_eq rfl, fun H a ns hl _ hH hS => ⟨a, ns, rfl, hS, hl, fun p hp => ?_, fun _ => rfl⟩, fun base _ _ tb => ?_⟩
  · simp only [List.mem_cons, List.not_mem_nil, or_false] at hp
    rcases hp with rfl | rfl | rfl
    · exact tt_l_order_refused
    · exact tt_l_views_refused
    · exact tt_law
  · simp only [List.mem_cons, List.not_mem_nil, or_false] at hp
    rcases hp with rfl | rfl | rfl
    · exact cn_l_order_refused
    · exact cn_l_views_refused
    · exact cn_law
  · simp only [List.mem_cons, List.not_mem_nil, or_false] at hp
    rcases hp with rfl | rfl | rfl
    · exact PySem.W.codeHd_of_K X (hd_of cl_l_order_refused ch_l_order_refused)
    · exact PySem.W.codeHd_of_K X (hd_of cl_l_views_refused ch_l_views_refused)
    · exact PySem.W.codeHd_of_K X (hd_of cl_law ch_law)
  · rcases tall p hp with e | e | e
    · rw [e]; exact hH (cc_l_order_refused, P_l_order_refused) (by simp)
    · rw [e]; exact hH (cc_l_views_refused, P_l_views_refused) (by simp)
    · rw [e]; exact hH (cc_law, P_law) (by simp)
  have tb_l_order_refused : LamX.TabB base mg cc_l_order_refused P_l_order_refused := tb (cc_l_order_refused, P_l_order_refused) (by simp)
  have tb_l_views_refused : LamX.TabB base mg cc_l_views_refused P_l_views_refused := tb (cc_l_views_refused, P_l_views_refused) (by simp)
  have tb_law : LamX.TabB base mg cc_law P_law := tb (cc_law, P_law) (by simp)
  have fa : Fa K T.cl := ⟨⟨fun C hC => by simp only [List.mem_cons, List.not_mem_nil, or_false] at hC; exact (by (subst hC; exact T.o_Tree)), fun C hC U hU => by simp only [List.mem_cons, List.not_mem_nil, or_false] at hC; exact (by (subst hC; exact T.kf_Tree U hU)), fun C hC C' hC' ne => by simp only [List.mem_cons, List.not_mem_nil, or_false] at hC hC'; subst hC; subst hC'; exact absurd rfl ne⟩, fun C hC => by simp only [List.mem_cons, List.not_mem_nil, or_false] at hC; exact (by (subst hC; exact ⟨T.o_Tree.ic.cl, T.nf_Tree_hung⟩)), ⟨rfl,
    fun C hC => by
      simp only [List.mem_cons, List.not_mem_nil, or_false] at hC; rcases hC with rfl | rfl | rfl | rfl | rfl | rfl | rfl
      · exact T.xc_NoBlock
      · exact T.xc_NoPlace
      · exact T.xc_Beneath
      · exact T.xc_NoOrder
      · exact T.xc_NoView
      · exact T.xc_OtherBlocks
      · exact T.xc_NoNumber,
    fun C hC => by
      simp only [List.mem_cons, List.not_mem_nil, or_false] at hC; rcases hC with rfl | rfl | rfl | rfl | rfl | rfl | rfl
      · exact T.kv_NoBlock_ValueError
      · exact T.kv_NoPlace_ValueError
      · exact T.kv_Beneath_ValueError
      · exact T.kv_NoOrder_ValueError
      · exact T.kv_NoView_ValueError
      · exact T.kv_OtherBlocks_ValueError
      · exact T.kv_NoNumber_ValueError,
    fun C hC => by
      simp only [List.mem_cons, List.not_mem_nil, or_false] at hC; rcases hC with rfl | rfl | rfl | rfl | rfl | rfl | rfl
      · exact T.te_NoBlock_VoteError
      · exact T.te_NoPlace_VoteError
      · exact T.te_Beneath_VoteError
      · exact T.te_NoOrder_VoteError
      · exact T.te_NoView_VoteError
      · exact T.te_OtherBlocks_VoteError
      · exact T.te_NoNumber_VoteError,
    fun i j C C' hi hj => by
      have e1 : i < 7 := (List.getElem?_eq_some_iff.mp hi).1
      have e2 : j < 7 := (List.getElem?_eq_some_iff.mp hj).1
      have f1 : i = 0 ∨ i = 1 ∨ i = 2 ∨ i = 3 ∨ i = 4 ∨ i = 5 ∨ i = 6 := by omega
      have f2 : j = 0 ∨ j = 1 ∨ j = 2 ∨ j = 3 ∨ j = 4 ∨ j = 5 ∨ j = 6 := by omega
      rcases f1 with rfl | rfl | rfl | rfl | rfl | rfl | rfl
      · obtain rfl := Option.some.inj hi
        rcases f2 with rfl | rfl | rfl | rfl | rfl | rfl | rfl
        · obtain rfl := Option.some.inj hj; exact T.kx_NoBlock_NoBlock
        · obtain rfl := Option.some.inj hj; exact T.kx_NoBlock_NoPlace
        · obtain rfl := Option.some.inj hj; exact T.kx_NoBlock_Beneath
        · obtain rfl := Option.some.inj hj; exact T.kx_NoBlock_NoOrder
        · obtain rfl := Option.some.inj hj; exact T.kx_NoBlock_NoView
        · obtain rfl := Option.some.inj hj; exact T.kx_NoBlock_OtherBlocks
        · obtain rfl := Option.some.inj hj; exact T.kx_NoBlock_NoNumber
      · obtain rfl := Option.some.inj hi
        rcases f2 with rfl | rfl | rfl | rfl | rfl | rfl | rfl
        · obtain rfl := Option.some.inj hj; exact T.kx_NoPlace_NoBlock
        · obtain rfl := Option.some.inj hj; exact T.kx_NoPlace_NoPlace
        · obtain rfl := Option.some.inj hj; exact T.kx_NoPlace_Beneath
        · obtain rfl := Option.some.inj hj; exact T.kx_NoPlace_NoOrder
        · obtain rfl := Option.some.inj hj; exact T.kx_NoPlace_NoView
        · obtain rfl := Option.some.inj hj; exact T.kx_NoPlace_OtherBlocks
        · obtain rfl := Option.some.inj hj; exact T.kx_NoPlace_NoNumber
      · obtain rfl := Option.some.inj hi
        rcases f2 with rfl | rfl | rfl | rfl | rfl | rfl | rfl
        · obtain rfl := Option.some.inj hj; exact T.kx_Beneath_NoBlock
        · obtain rfl := Option.some.inj hj; exact T.kx_Beneath_NoPlace
        · obtain rfl := Option.some.inj hj; exact T.kx_Beneath_Beneath
        · obtain rfl := Option.some.inj hj; exact T.kx_Beneath_NoOrder
        · obtain rfl := Option.some.inj hj; exact T.kx_Beneath_NoView
        · obtain rfl := Option.some.inj hj; exact T.kx_Beneath_OtherBlocks
        · obtain rfl := Option.some.inj hj; exact T.kx_Beneath_NoNumber
      · obtain rfl := Option.some.inj hi
        rcases f2 with rfl | rfl | rfl | rfl | rfl | rfl | rfl
        · obtain rfl := Option.some.inj hj; exact T.kx_NoOrder_NoBlock
        · obtain rfl := Option.some.inj hj; exact T.kx_NoOrder_NoPlace
        · obtain rfl := Option.some.inj hj; exact T.kx_NoOrder_Beneath
        · obtain rfl := Option.some.inj hj; exact T.kx_NoOrder_NoOrder
        · obtain rfl := Option.some.inj hj; exact T.kx_NoOrder_NoView
        · obtain rfl := Option.some.inj hj; exact T.kx_NoOrder_OtherBlocks
        · obtain rfl := Option.some.inj hj; exact T.kx_NoOrder_NoNumber
      · obtain rfl := Option.some.inj hi
        rcases f2 with rfl | rfl | rfl | rfl | rfl | rfl | rfl
        · obtain rfl := Option.some.inj hj; exact T.kx_NoView_NoBlock
        · obtain rfl := Option.some.inj hj; exact T.kx_NoView_NoPlace
        · obtain rfl := Option.some.inj hj; exact T.kx_NoView_Beneath
        · obtain rfl := Option.some.inj hj; exact T.kx_NoView_NoOrder
        · obtain rfl := Option.some.inj hj; exact T.kx_NoView_NoView
        · obtain rfl := Option.some.inj hj; exact T.kx_NoView_OtherBlocks
        · obtain rfl := Option.some.inj hj; exact T.kx_NoView_NoNumber
      · obtain rfl := Option.some.inj hi
        rcases f2 with rfl | rfl | rfl | rfl | rfl | rfl | rfl
        · obtain rfl := Option.some.inj hj; exact T.kx_OtherBlocks_NoBlock
        · obtain rfl := Option.some.inj hj; exact T.kx_OtherBlocks_NoPlace
        · obtain rfl := Option.some.inj hj; exact T.kx_OtherBlocks_Beneath
        · obtain rfl := Option.some.inj hj; exact T.kx_OtherBlocks_NoOrder
        · obtain rfl := Option.some.inj hj; exact T.kx_OtherBlocks_NoView
        · obtain rfl := Option.some.inj hj; exact T.kx_OtherBlocks_OtherBlocks
        · obtain rfl := Option.some.inj hj; exact T.kx_OtherBlocks_NoNumber
      · obtain rfl := Option.some.inj hi
        rcases f2 with rfl | rfl | rfl | rfl | rfl | rfl | rfl
        · obtain rfl := Option.some.inj hj; exact T.kx_NoNumber_NoBlock
        · obtain rfl := Option.some.inj hj; exact T.kx_NoNumber_NoPlace
        · obtain rfl := Option.some.inj hj; exact T.kx_NoNumber_Beneath
        · obtain rfl := Option.some.inj hj; exact T.kx_NoNumber_NoOrder
        · obtain rfl := Option.some.inj hj; exact T.kx_NoNumber_NoView
        · obtain rfl := Option.some.inj hj; exact T.kx_NoNumber_OtherBlocks
        · obtain rfl := Option.some.inj hj; exact T.kx_NoNumber_NoNumber⟩⟩
  have G_is_integer := ok_is_integer (P := l.prog) (w := w) (base := base) T fa 
  have G_is_within := ok_is_within (P := l.prog) (w := w) (base := base) T fa G_is_integer
  have G_is_pair := ok_is_pair (P := l.prog) (w := w) (base := base) T fa 
  have G_is_view := ok_is_view (P := l.prog) (w := w) (base := base) T fa G_is_pair G_is_within
  have G_check_block := ok_check_block (P := l.prog) (w := w) (base := base) T fa G_is_within
  have G_check_place := ok_check_place (P := l.prog) (w := w) (base := base) T fa G_is_within
  have G_check_view := ok_check_view (P := l.prog) (w := w) (base := base) T fa G_is_view
  have G_check_number := ok_check_number (P := l.prog) (w := w) (base := base) T fa G_is_within
  have G_leads_home := ok_leads_home (P := l.prog) (w := w) (base := base) T fa 
  have G_Tree_init := ok_Tree_init (P := l.prog) (w := w) (base := base) T fa G_is_within G_leads_home
  have G_Tree_eq := ok_Tree_eq (P := l.prog) (w := w) (base := base) T fa 
  have G_place_of := ok_place_of (P := l.prog) (w := w) (base := base) T fa G_check_block
  have G_parents_in := ok_parents_in (P := l.prog) (w := w) (base := base) T fa 
  have G_parentsT := ok_parentsT (P := l.prog) (w := w) (base := base) T fa G_check_block G_parents_in
  have G_hanging := ok_hanging (P := l.prog) (w := w) (base := base) T fa 
  have G_under := ok_under (P := l.prog) (w := w) (base := base) T fa G_check_place G_hanging
  have G_beneath_in := ok_beneath_in (P := l.prog) (w := w) (base := base) T fa G_hanging
  have G_beneathT := ok_beneathT (P := l.prog) (w := w) (base := base) T fa G_beneath_in G_check_place
  have G_with_place := ok_with_place (P := l.prog) (w := w) (base := base) T fa 
  have G_moved := ok_moved (P := l.prog) (w := w) (base := base) T fa G_Tree_init G_beneath_in G_check_block G_check_place G_with_place
  have G_called := ok_called (P := l.prog) (w := w) (base := base) T fa G_Tree_init G_is_within
  have G_ties_down := ok_ties_down (P := l.prog) (w := w) (base := base) T fa G_hanging
  have G_raw_telling := ok_raw_telling (P := l.prog) (w := w) (base := base) T fa G_parents_in G_ties_down
  have G_telling := ok_telling (P := l.prog) (w := w) (base := base) T fa G_check_place G_check_view G_raw_telling
  have G_raw_tellings := ok_raw_tellings (P := l.prog) (w := w) (base := base) T fa G_raw_telling
  have G_unlike := ok_unlike (P := l.prog) (w := w) (base := base) T fa G_check_view G_raw_tellings
  have G_raw_distance := ok_raw_distance (P := l.prog) (w := w) (base := base) T fa 
  have G_distance := ok_distance (P := l.prog) (w := w) (base := base) T fa G_check_view G_raw_distance
  have G_twins := ok_twins (P := l.prog) (w := w) (base := base) T fa G_Tree_init G_check_number G_check_view
  have G_l_pool := ok_l_pool (P := l.prog) (w := w) (base := base) T 
  have G_l_draw := ok_l_draw (P := l.prog) (w := w) (base := base) T fa 
  have G_l_pick := ok_l_pick (P := l.prog) (w := w) (base := base) T fa G_l_draw
  have G_l_is := ok_l_is (P := l.prog) (w := w) (base := base) T fa  2
  have G_l_deep := ok_l_deep (P := l.prog) (w := w) (base := base) T fa 
  have G_l_is_number := ok_l_is_number (P := l.prog) (w := w) (base := base) T fa 
  have G_l_mixed := ok_l_mixed (P := l.prog) (w := w) (base := base) T fa G_l_draw
  have G_l_hung := ok_l_hung (P := l.prog) (w := w) (base := base) T fa G_l_draw G_l_mixed
  have G_l_way := ok_l_way (P := l.prog) (w := w) (base := base) T fa 
  have G_l_odd := ok_l_odd (P := l.prog) (w := w) (base := base) T fa G_l_deep G_l_pick
  have G_l_order_refused := ok_l_order_refused (P := l.prog) (w := w) (base := base) T fa G_l_deep G_l_draw G_l_is_number G_l_mixed G_l_odd G_l_pick G_called tb_l_order_refused
  have G_l_views_refused := ok_l_views_refused (P := l.prog) (w := w) (base := base) T fa G_Tree_eq G_Tree_init G_l_deep G_l_draw G_l_is_number G_l_odd G_l_pick G_distance G_telling G_twins G_unlike tb_l_views_refused
  exact ok_law (P := l.prog) (w := w) (base := base) T fa G_Tree_init G_l_draw G_l_hung G_l_is G_l_is_number G_l_odd G_l_order_refused G_l_pool G_l_views_refused G_l_way G_beneathT G_moved G_parentsT G_place_of G_under tb_law
end Fv
open PySem PySem.W PyProof.Rows
set_option maxHeartbeats 0 in
theorem PySem.Challenge.cw_foldervotes_k05_trees_and_views_refused_holds : PySem.Challenge.rw_foldervotes_k05_trees_and_views_refused.Holds := by
  w_on; o_law; k_head; (case hw => w_witness2)
  k_fill
  refine LamX.walk_ofTs (l := PySem.Challenge.rw_foldervotes_k05_trees_and_views_refused) (n := 63) (k := 9) (x := "_law_script") (CX := fun _ => L2.CX0) rfl (by decide) rfl ⟨rfl, by decide, by decide⟩ (fun w h Y => PySem.W.km_in_of Y) ?F (fun _ _ _ _ _ h => h)
  case F =>
    intro w mg fa h Y KX G hmg
    refine' Fv.all_mk KX G hmg ?z_ValueError ?z_abs ?z_all ?z_bool ?z_dict ?z_int ?z_isinstance ?z_len ?z_list ?z_range ?z_sorted ?z_tuple ?c_HEAD ?c_MOST_BLOCKS ?c_MOST_STEPS ?a_Tree ?a_NoBlock ?a_NoPlace ?a_Beneath ?a_NoOrder ?a_NoView ?a_OtherBlocks ?a_NoNumber ?a_VoteError ?a_is_integer ?l_is_integer ?d_is_integer ?p_is_integer ?a_is_within ?l_is_within ?d_is_within ?p_is_within ?a_is_pair ?l_is_pair ?d_is_pair ?p_is_pair ?a_is_view ?l_is_view ?d_is_view ?p_is_view ?a_check_block ?l_check_block ?d_check_block ?p_check_block ?a_check_place ?l_check_place ?d_check_place ?p_check_place ?a_check_view ?l_check_view ?d_check_view ?p_check_view ?a_check_number ?l_check_number ?d_check_number ?p_check_number ?a_leads_home ?l_leads_home ?d_leads_home ?p_leads_home ?a_Tree_init ?l_Tree_init ?d_Tree_init ?p_Tree_init ?a_Tree_eq ?l_Tree_eq ?d_Tree_eq ?p_Tree_eq ?a_place_of ?l_place_of ?d_place_of ?p_place_of ?a_parents_in ?l_parents_in ?d_parents_in ?p_parents_in ?a_parentsT ?l_parentsT ?d_parentsT ?p_parentsT ?a_hanging ?l_hanging ?d_hanging ?p_hanging ?a_under ?l_under ?d_under ?p_under ?a_beneath_in ?l_beneath_in ?d_beneath_in ?p_beneath_in ?a_beneathT ?l_beneathT ?d_beneathT ?p_beneathT ?a_with_place ?l_with_place ?d_with_place ?p_with_place ?a_moved ?l_moved ?d_moved ?p_moved ?a_called ?l_called ?d_called ?p_called ?a_ties_down ?l_ties_down ?d_ties_down ?p_ties_down ?a_raw_telling ?l_raw_telling ?d_raw_telling ?p_raw_telling ?a_telling ?l_telling ?d_telling ?p_telling ?a_raw_tellings ?l_raw_tellings ?d_raw_tellings ?p_raw_tellings ?a_unlike ?l_unlike ?d_unlike ?p_unlike ?a_raw_distance ?l_raw_distance ?d_raw_distance ?p_raw_distance ?a_distance ?l_distance ?d_distance ?p_distance ?a_twins ?l_twins ?d_twins ?p_twins ?a_l_pool ?l_l_pool ?d_l_pool ?p_l_pool ?a_l_draw ?l_l_draw ?d_l_draw ?p_l_draw ?a_l_pick ?l_l_pick ?d_l_pick ?p_l_pick ?a_l_is ?l_l_is ?d_l_is ?p_l_is ?a_l_deep ?l_l_deep ?d_l_deep ?p_l_deep ?a_l_is_number ?l_l_is_number ?d_l_is_number ?p_l_is_number ?a_l_mixed ?l_l_mixed ?d_l_mixed ?p_l_mixed ?a_l_hung ?l_l_hung ?d_l_hung ?p_l_hung ?a_l_way ?l_l_way ?d_l_way ?p_l_way ?a_l_odd ?l_l_odd ?d_l_odd ?p_l_odd ?a_l_word ?l_l_word ?d_l_word ?p_l_word ?a_l_order_refused ?l_l_order_refused ?d_l_order_refused ?cl_l_order_refused ?cv_l_order_refused ?ch_l_order_refused ?cn_l_order_refused ?tt_l_order_refused ?tm_l_order_refused ?tu_l_order_refused ?p_l_order_refused ?a_l_views_refused ?l_l_views_refused ?d_l_views_refused ?cl_l_views_refused ?cv_l_views_refused ?ch_l_views_refused ?cn_l_views_refused ?tt_l_views_refused ?tm_l_views_refused ?tu_l_views_refused ?p_l_views_refused ?a_law ?l_law ?d_law ?cl_law ?cv_law ?ch_law ?cn_law ?tt_law ?tm_law ?tu_law ?p_law ?pg_Tree ?hd_Tree ?po_Tree ?sa_Tree ?mk_Tree ?kc_Tree ?ha_Tree ?hn_Tree ?ht_Tree ?hm_Tree ?me_Tree ?ktNoneType_Tree ?ntNoneType_Tree ?ktbool_Tree ?ntbool_Tree ?ktint_Tree ?ntint_Tree ?ktstr_Tree ?ntstr_Tree ?ktlist_Tree ?ntlist_Tree ?kttuple_Tree ?nttuple_Tree ?ktdict_Tree ?ntdict_Tree ?if_Tree ?nf_Tree_hung ?kiint_Tree ?kibool_Tree ?kituple_Tree ?kilist_Tree ?kidict_Tree ?kistr_Tree ?ef_Tree ?xL_Tree ?nL_Tree ?no_Tree ?ne0_Tree ?ne1_Tree ?sa_NoBlock ?be_NoBlock ?ty_NoBlock ?kc_NoBlock ?ic_NoBlock ?ss_NoBlock ?ga_NoBlock ?gt_NoBlock ?hd_NoBlock ?ha_NoBlock ?hn_NoBlock ?ht_NoBlock ?hm_NoBlock ?xL_NoBlock ?x0_NoBlock ?sa_NoPlace ?be_NoPlace ?ty_NoPlace ?kc_NoPlace ?ic_NoPlace ?ss_NoPlace ?ga_NoPlace ?gt_NoPlace ?hd_NoPlace ?ha_NoPlace ?hn_NoPlace ?ht_NoPlace ?hm_NoPlace ?xL_NoPlace ?x0_NoPlace ?sa_Beneath ?be_Beneath ?ty_Beneath ?kc_Beneath ?ic_Beneath ?ss_Beneath ?ga_Beneath ?gt_Beneath ?hd_Beneath ?ha_Beneath ?hn_Beneath ?ht_Beneath ?hm_Beneath ?xL_Beneath ?x0_Beneath ?sa_NoOrder ?be_NoOrder ?ty_NoOrder ?kc_NoOrder ?ic_NoOrder ?ss_NoOrder ?ga_NoOrder ?gt_NoOrder ?hd_NoOrder ?ha_NoOrder ?hn_NoOrder ?ht_NoOrder ?hm_NoOrder ?xL_NoOrder ?x0_NoOrder ?sa_NoView ?be_NoView ?ty_NoView ?kc_NoView ?ic_NoView ?ss_NoView ?ga_NoView ?gt_NoView ?hd_NoView ?ha_NoView ?hn_NoView ?ht_NoView ?hm_NoView ?xL_NoView ?x0_NoView ?sa_OtherBlocks ?be_OtherBlocks ?ty_OtherBlocks ?kc_OtherBlocks ?ic_OtherBlocks ?ss_OtherBlocks ?ga_OtherBlocks ?gt_OtherBlocks ?hd_OtherBlocks ?ha_OtherBlocks ?hn_OtherBlocks ?ht_OtherBlocks ?hm_OtherBlocks ?xL_OtherBlocks ?x0_OtherBlocks ?sa_NoNumber ?be_NoNumber ?ty_NoNumber ?kc_NoNumber ?ic_NoNumber ?ss_NoNumber ?ga_NoNumber ?gt_NoNumber ?hd_NoNumber ?ha_NoNumber ?hn_NoNumber ?ht_NoNumber ?hm_NoNumber ?xL_NoNumber ?x0_NoNumber ?sa_VoteError ?be_VoteError ?ty_VoteError ?kc_VoteError ?ic_VoteError ?ss_VoteError ?ga_VoteError ?gt_VoteError ?hd_VoteError ?ha_VoteError ?hn_VoteError ?ht_VoteError ?hm_VoteError ?xL_VoteError ?ss_NoBlock_VoteError ?kv_NoBlock_ValueError ?kx_NoBlock_NoBlock ?kx_NoBlock_NoPlace ?kx_NoBlock_Beneath ?kx_NoBlock_NoOrder ?kx_NoBlock_NoView ?kx_NoBlock_OtherBlocks ?kx_NoBlock_NoNumber ?ss_NoPlace_VoteError ?kv_NoPlace_ValueError ?kx_NoPlace_NoBlock ?kx_NoPlace_NoPlace ?kx_NoPlace_Beneath ?kx_NoPlace_NoOrder ?kx_NoPlace_NoView ?kx_NoPlace_OtherBlocks ?kx_NoPlace_NoNumber ?ss_Beneath_VoteError ?kv_Beneath_ValueError ?kx_Beneath_NoBlock ?kx_Beneath_NoPlace ?kx_Beneath_Beneath ?kx_Beneath_NoOrder ?kx_Beneath_NoView ?kx_Beneath_OtherBlocks ?kx_Beneath_NoNumber ?ss_NoOrder_VoteError ?kv_NoOrder_ValueError ?kx_NoOrder_NoBlock ?kx_NoOrder_NoPlace ?kx_NoOrder_Beneath ?kx_NoOrder_NoOrder ?kx_NoOrder_NoView ?kx_NoOrder_OtherBlocks ?kx_NoOrder_NoNumber ?ss_NoView_VoteError ?kv_NoView_ValueError ?kx_NoView_NoBlock ?kx_NoView_NoPlace ?kx_NoView_Beneath ?kx_NoView_NoOrder ?kx_NoView_NoView ?kx_NoView_OtherBlocks ?kx_NoView_NoNumber ?ss_OtherBlocks_VoteError ?kv_OtherBlocks_ValueError ?kx_OtherBlocks_NoBlock ?kx_OtherBlocks_NoPlace ?kx_OtherBlocks_Beneath ?kx_OtherBlocks_NoOrder ?kx_OtherBlocks_NoView ?kx_OtherBlocks_OtherBlocks ?kx_OtherBlocks_NoNumber ?ss_NoNumber_VoteError ?kv_NoNumber_ValueError ?kx_NoNumber_NoBlock ?kx_NoNumber_NoPlace ?kx_NoNumber_Beneath ?kx_NoNumber_NoOrder ?kx_NoNumber_NoView ?kx_NoNumber_OtherBlocks ?kx_NoNumber_NoNumber ?tall
    (case z_ValueError => k_is)
    (case z_abs => k_is)
    (case z_all => k_is)
    (case z_bool => k_is)
    (case z_dict => k_is)
    (case z_int => k_is)
    (case z_isinstance => k_is)
    (case z_len => k_is)
    (case z_list => k_is)
    (case z_range => k_is)
    (case z_sorted => k_is)
    (case z_tuple => k_is)
    (case c_HEAD => k_is)
    (case c_MOST_BLOCKS => k_is)
    (case c_MOST_STEPS => k_is)
    (case a_Tree => k_is)
    (case a_NoBlock => k_is)
    (case a_NoPlace => k_is)
    (case a_Beneath => k_is)
    (case a_NoOrder => k_is)
    (case a_NoView => k_is)
    (case a_OtherBlocks => k_is)
    (case a_NoNumber => k_is)
    (case a_VoteError => k_is)
    (case a_is_integer => k_is)
    (case l_is_integer => k_is)
    (case d_is_integer => k_is)
    (case p_is_integer => k_is)
    (case a_is_within => k_is)
    (case l_is_within => k_is)
    (case d_is_within => k_is)
    (case p_is_within => k_is)
    (case a_is_pair => k_is)
    (case l_is_pair => k_is)
    (case d_is_pair => k_is)
    (case p_is_pair => k_is)
    (case a_is_view => k_is)
    (case l_is_view => k_is)
    (case d_is_view => k_is)
    (case p_is_view => k_is)
    (case a_check_block => k_is)
    (case l_check_block => k_is)
    (case d_check_block => k_is)
    (case p_check_block => k_is)
    (case a_check_place => k_is)
    (case l_check_place => k_is)
    (case d_check_place => k_is)
    (case p_check_place => k_is)
    (case a_check_view => k_is)
    (case l_check_view => k_is)
    (case d_check_view => k_is)
    (case p_check_view => k_is)
    (case a_check_number => k_is)
    (case l_check_number => k_is)
    (case d_check_number => k_is)
    (case p_check_number => k_is)
    (case a_leads_home => k_is)
    (case l_leads_home => k_is)
    (case d_leads_home => k_is)
    (case p_leads_home => k_is)
    (case a_Tree_init => k_is)
    (case l_Tree_init => k_is)
    (case d_Tree_init => k_is)
    (case p_Tree_init => k_is)
    (case a_Tree_eq => k_is)
    (case l_Tree_eq => k_is)
    (case d_Tree_eq => k_is)
    (case p_Tree_eq => k_is)
    (case a_place_of => k_is)
    (case l_place_of => k_is)
    (case d_place_of => k_is)
    (case p_place_of => k_is)
    (case a_parents_in => k_is)
    (case l_parents_in => k_is)
    (case d_parents_in => k_is)
    (case p_parents_in => k_is)
    (case a_parentsT => k_is)
    (case l_parentsT => k_is)
    (case d_parentsT => k_is)
    (case p_parentsT => k_is)
    (case a_hanging => k_is)
    (case l_hanging => k_is)
    (case d_hanging => k_is)
    (case p_hanging => k_is)
    (case a_under => k_is)
    (case l_under => k_is)
    (case d_under => k_is)
    (case p_under => k_is)
    (case a_beneath_in => k_is)
    (case l_beneath_in => k_is)
    (case d_beneath_in => k_is)
    (case p_beneath_in => k_is)
    (case a_beneathT => k_is)
    (case l_beneathT => k_is)
    (case d_beneathT => k_is)
    (case p_beneathT => k_is)
    (case a_with_place => k_is)
    (case l_with_place => k_is)
    (case d_with_place => k_is)
    (case p_with_place => k_is)
    (case a_moved => k_is)
    (case l_moved => k_is)
    (case d_moved => k_is)
    (case p_moved => k_is)
    (case a_called => k_is)
    (case l_called => k_is)
    (case d_called => k_is)
    (case p_called => k_is)
    (case a_ties_down => k_is)
    (case l_ties_down => k_is)
    (case d_ties_down => k_is)
    (case p_ties_down => k_is)
    (case a_raw_telling => k_is)
    (case l_raw_telling => k_is)
    (case d_raw_telling => k_is)
    (case p_raw_telling => k_is)
    (case a_telling => k_is)
    (case l_telling => k_is)
    (case d_telling => k_is)
    (case p_telling => k_is)
    (case a_raw_tellings => k_is)
    (case l_raw_tellings => k_is)
    (case d_raw_tellings => k_is)
    (case p_raw_tellings => k_is)
    (case a_unlike => k_is)
    (case l_unlike => k_is)
    (case d_unlike => k_is)
    (case p_unlike => k_is)
    (case a_raw_distance => k_is)
    (case l_raw_distance => k_is)
    (case d_raw_distance => k_is)
    (case p_raw_distance => k_is)
    (case a_distance => k_is)
    (case l_distance => k_is)
    (case d_distance => k_is)
    (case p_distance => k_is)
    (case a_twins => k_is)
    (case l_twins => k_is)
    (case d_twins => k_is)
    (case p_twins => k_is)
    (case a_l_pool => k_is)
    (case l_l_pool => k_is)
    (case d_l_pool => k_is)
    (case p_l_pool => k_is)
    (case a_l_draw => k_is)
    (case l_l_draw => k_is)
    (case d_l_draw => k_is)
    (case p_l_draw => k_is)
    (case a_l_pick => k_is)
    (case l_l_pick => k_is)
    (case d_l_pick => k_is)
    (case p_l_pick => k_is)
    (case a_l_is => k_is)
    (case l_l_is => k_is)
    (case d_l_is => k_is)
    (case p_l_is => k_is)
    (case a_l_deep => k_is)
    (case l_l_deep => k_is)
    (case d_l_deep => k_is)
    (case p_l_deep => k_is)
    (case a_l_is_number => k_is)
    (case l_l_is_number => k_is)
    (case d_l_is_number => k_is)
    (case p_l_is_number => k_is)
    (case a_l_mixed => k_is)
    (case l_l_mixed => k_is)
    (case d_l_mixed => k_is)
    (case p_l_mixed => k_is)
    (case a_l_hung => k_is)
    (case l_l_hung => k_is)
    (case d_l_hung => k_is)
    (case p_l_hung => k_is)
    (case a_l_way => k_is)
    (case l_l_way => k_is)
    (case d_l_way => k_is)
    (case p_l_way => k_is)
    (case a_l_odd => k_is)
    (case l_l_odd => k_is)
    (case d_l_odd => k_is)
    (case p_l_odd => k_is)
    (case a_l_word => k_is)
    (case l_l_word => k_is)
    (case d_l_word => k_is)
    (case p_l_word => k_is)
    (case a_l_order_refused => k_is)
    (case l_l_order_refused => k_is)
    (case d_l_order_refused => k_is)
    (case cl_l_order_refused => k_is)
    (case cv_l_order_refused => rfl)
    (case ch_l_order_refused => first | rfl | decide +kernel)
    (case cn_l_order_refused => first | rfl | k_is)
    (case tt_l_order_refused => exact PySem.W.km_tabs_of Y _ (by decide))
    (case tm_l_order_refused => decide)
    (case tu_l_order_refused => decide)
    (case p_l_order_refused => k_is)
    (case a_l_views_refused => k_is)
    (case l_l_views_refused => k_is)
    (case d_l_views_refused => k_is)
    (case cl_l_views_refused => k_is)
    (case cv_l_views_refused => rfl)
    (case ch_l_views_refused => first | rfl | decide +kernel)
    (case cn_l_views_refused => first | rfl | k_is)
    (case tt_l_views_refused => exact PySem.W.km_tabs_of Y _ (by decide))
    (case tm_l_views_refused => decide)
    (case tu_l_views_refused => decide)
    (case p_l_views_refused => k_is)
    (case a_law => k_is)
    (case l_law => k_is)
    (case d_law => k_is)
    (case cl_law => k_is)
    (case cv_law => rfl)
    (case ch_law => first | rfl | decide +kernel)
    (case cn_law => first | rfl | k_is)
    (case tt_law => exact PySem.W.km_tabs_of Y _ (by decide))
    (case tm_law => decide)
    (case tu_law => decide)
    (case p_law => k_is)
    (case pg_Tree => k_is)
    (case hd_Tree => k_is)
    (case po_Tree => k_is)
    (case sa_Tree => k_is)
    (case mk_Tree => k_is)
    (case kc_Tree => k_is)
    (case ha_Tree => k_is)
    (case hn_Tree => k_is)
    (case ht_Tree => k_is)
    (case hm_Tree => k_is)
    (case me_Tree => kit_is)
    (case ktNoneType_Tree => kit_is)
    (case ntNoneType_Tree => k_is)
    (case ktbool_Tree => kit_is)
    (case ntbool_Tree => k_is)
    (case ktint_Tree => kit_is)
    (case ntint_Tree => k_is)
    (case ktstr_Tree => kit_is)
    (case ntstr_Tree => k_is)
    (case ktlist_Tree => kit_is)
    (case ntlist_Tree => k_is)
    (case kttuple_Tree => kit_is)
    (case nttuple_Tree => k_is)
    (case ktdict_Tree => kit_is)
    (case ntdict_Tree => k_is)
    (case if_Tree => k_is)
    (case nf_Tree_hung => k_is)
    (case kiint_Tree => kit_is)
    (case kibool_Tree => kit_is)
    (case kituple_Tree => kit_is)
    (case kilist_Tree => kit_is)
    (case kidict_Tree => kit_is)
    (case kistr_Tree => kit_is)
    (case ef_Tree => k_is)
    (case xL_Tree => k_is)
    (case nL_Tree => k_is)
    (case no_Tree => rfl)
    (case ne0_Tree => k_is)
    (case ne1_Tree => k_is)
    (case sa_NoBlock => k_is)
    (case be_NoBlock => k_is)
    (case ty_NoBlock => k_is)
    (case kc_NoBlock => k_is)
    (case ic_NoBlock => k_is)
    (case ss_NoBlock => first | rfl | k_is)
    (case ga_NoBlock => k_is)
    (case gt_NoBlock => k_is)
    (case hd_NoBlock => k_is)
    (case ha_NoBlock => k_is)
    (case hn_NoBlock => k_is)
    (case ht_NoBlock => k_is)
    (case hm_NoBlock => k_is)
    (case xL_NoBlock => k_is)
    (case x0_NoBlock => k_exc)
    (case sa_NoPlace => k_is)
    (case be_NoPlace => k_is)
    (case ty_NoPlace => k_is)
    (case kc_NoPlace => k_is)
    (case ic_NoPlace => k_is)
    (case ss_NoPlace => first | rfl | k_is)
    (case ga_NoPlace => k_is)
    (case gt_NoPlace => k_is)
    (case hd_NoPlace => k_is)
    (case ha_NoPlace => k_is)
    (case hn_NoPlace => k_is)
    (case ht_NoPlace => k_is)
    (case hm_NoPlace => k_is)
    (case xL_NoPlace => k_is)
    (case x0_NoPlace => k_exc)
    (case sa_Beneath => k_is)
    (case be_Beneath => k_is)
    (case ty_Beneath => k_is)
    (case kc_Beneath => k_is)
    (case ic_Beneath => k_is)
    (case ss_Beneath => first | rfl | k_is)
    (case ga_Beneath => k_is)
    (case gt_Beneath => k_is)
    (case hd_Beneath => k_is)
    (case ha_Beneath => k_is)
    (case hn_Beneath => k_is)
    (case ht_Beneath => k_is)
    (case hm_Beneath => k_is)
    (case xL_Beneath => k_is)
    (case x0_Beneath => k_exc)
    (case sa_NoOrder => k_is)
    (case be_NoOrder => k_is)
    (case ty_NoOrder => k_is)
    (case kc_NoOrder => k_is)
    (case ic_NoOrder => k_is)
    (case ss_NoOrder => first | rfl | k_is)
    (case ga_NoOrder => k_is)
    (case gt_NoOrder => k_is)
    (case hd_NoOrder => k_is)
    (case ha_NoOrder => k_is)
    (case hn_NoOrder => k_is)
    (case ht_NoOrder => k_is)
    (case hm_NoOrder => k_is)
    (case xL_NoOrder => k_is)
    (case x0_NoOrder => k_exc)
    (case sa_NoView => k_is)
    (case be_NoView => k_is)
    (case ty_NoView => k_is)
    (case kc_NoView => k_is)
    (case ic_NoView => k_is)
    (case ss_NoView => first | rfl | k_is)
    (case ga_NoView => k_is)
    (case gt_NoView => k_is)
    (case hd_NoView => k_is)
    (case ha_NoView => k_is)
    (case hn_NoView => k_is)
    (case ht_NoView => k_is)
    (case hm_NoView => k_is)
    (case xL_NoView => k_is)
    (case x0_NoView => k_exc)
    (case sa_OtherBlocks => k_is)
    (case be_OtherBlocks => k_is)
    (case ty_OtherBlocks => k_is)
    (case kc_OtherBlocks => k_is)
    (case ic_OtherBlocks => k_is)
    (case ss_OtherBlocks => first | rfl | k_is)
    (case ga_OtherBlocks => k_is)
    (case gt_OtherBlocks => k_is)
    (case hd_OtherBlocks => k_is)
    (case ha_OtherBlocks => k_is)
    (case hn_OtherBlocks => k_is)
    (case ht_OtherBlocks => k_is)
    (case hm_OtherBlocks => k_is)
    (case xL_OtherBlocks => k_is)
    (case x0_OtherBlocks => k_exc)
    (case sa_NoNumber => k_is)
    (case be_NoNumber => k_is)
    (case ty_NoNumber => k_is)
    (case kc_NoNumber => k_is)
    (case ic_NoNumber => k_is)
    (case ss_NoNumber => first | rfl | k_is)
    (case ga_NoNumber => k_is)
    (case gt_NoNumber => k_is)
    (case hd_NoNumber => k_is)
    (case ha_NoNumber => k_is)
    (case hn_NoNumber => k_is)
    (case ht_NoNumber => k_is)
    (case hm_NoNumber => k_is)
    (case xL_NoNumber => k_is)
    (case x0_NoNumber => k_exc)
    (case sa_VoteError => k_is)
    (case be_VoteError => k_is)
    (case ty_VoteError => k_is)
    (case kc_VoteError => k_is)
    (case ic_VoteError => k_is)
    (case ss_VoteError => first | rfl | k_is)
    (case ga_VoteError => k_is)
    (case gt_VoteError => k_is)
    (case hd_VoteError => k_is)
    (case ha_VoteError => k_is)
    (case hn_VoteError => k_is)
    (case ht_VoteError => k_is)
    (case hm_VoteError => k_is)
    (case xL_VoteError => k_is)
    (case ss_NoBlock_VoteError => first | rfl | k_is)
    (case kv_NoBlock_ValueError => kit_is)
    (case kx_NoBlock_NoBlock => kit_is)
    (case kx_NoBlock_NoPlace => kit_is)
    (case kx_NoBlock_Beneath => kit_is)
    (case kx_NoBlock_NoOrder => kit_is)
    (case kx_NoBlock_NoView => kit_is)
    (case kx_NoBlock_OtherBlocks => kit_is)
    (case kx_NoBlock_NoNumber => kit_is)
    (case ss_NoPlace_VoteError => first | rfl | k_is)
    (case kv_NoPlace_ValueError => kit_is)
    (case kx_NoPlace_NoBlock => kit_is)
    (case kx_NoPlace_NoPlace => kit_is)
    (case kx_NoPlace_Beneath => kit_is)
    (case kx_NoPlace_NoOrder => kit_is)
    (case kx_NoPlace_NoView => kit_is)
    (case kx_NoPlace_OtherBlocks => kit_is)
    (case kx_NoPlace_NoNumber => kit_is)
    (case ss_Beneath_VoteError => first | rfl | k_is)
    (case kv_Beneath_ValueError => kit_is)
    (case kx_Beneath_NoBlock => kit_is)
    (case kx_Beneath_NoPlace => kit_is)
    (case kx_Beneath_Beneath => kit_is)
    (case kx_Beneath_NoOrder => kit_is)
    (case kx_Beneath_NoView => kit_is)
    (case kx_Beneath_OtherBlocks => kit_is)
    (case kx_Beneath_NoNumber => kit_is)
    (case ss_NoOrder_VoteError => first | rfl | k_is)
    (case kv_NoOrder_ValueError => kit_is)
    (case kx_NoOrder_NoBlock => kit_is)
    (case kx_NoOrder_NoPlace => kit_is)
    (case kx_NoOrder_Beneath => kit_is)
    (case kx_NoOrder_NoOrder => kit_is)
    (case kx_NoOrder_NoView => kit_is)
    (case kx_NoOrder_OtherBlocks => kit_is)
    (case kx_NoOrder_NoNumber => kit_is)
    (case ss_NoView_VoteError => first | rfl | k_is)
    (case kv_NoView_ValueError => kit_is)
    (case kx_NoView_NoBlock => kit_is)
    (case kx_NoView_NoPlace => kit_is)
    (case kx_NoView_Beneath => kit_is)
    (case kx_NoView_NoOrder => kit_is)
    (case kx_NoView_NoView => kit_is)
    (case kx_NoView_OtherBlocks => kit_is)
    (case kx_NoView_NoNumber => kit_is)
    (case ss_OtherBlocks_VoteError => first | rfl | k_is)
    (case kv_OtherBlocks_ValueError => kit_is)
    (case kx_OtherBlocks_NoBlock => kit_is)
    (case kx_OtherBlocks_NoPlace => kit_is)
    (case kx_OtherBlocks_Beneath => kit_is)
    (case kx_OtherBlocks_NoOrder => kit_is)
    (case kx_OtherBlocks_NoView => kit_is)
    (case kx_OtherBlocks_OtherBlocks => kit_is)
    (case kx_OtherBlocks_NoNumber => kit_is)
    (case ss_NoNumber_VoteError => first | rfl | k_is)
    (case kv_NoNumber_ValueError => kit_is)
    (case kx_NoNumber_NoBlock => kit_is)
    (case kx_NoNumber_NoPlace => kit_is)
    (case kx_NoNumber_Beneath => kit_is)
    (case kx_NoNumber_NoOrder => kit_is)
    (case kx_NoNumber_NoView => kit_is)
    (case kx_NoNumber_OtherBlocks => kit_is)
    (case kx_NoNumber_NoNumber => kit_is)
    (case tall => decide)

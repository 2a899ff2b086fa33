import PyProof.Rows.All
import Wide.All
import OpenK.AllK
import Wide.FinOn
import HandS.ForMost
import HandS.ForExc
import HandS.ExcInit
import HandS.ExcField
import HandS.ExcIs
import HandS.IsInst
import HandS.Conv
import HandS.TupAny
import HandS.TupMul
import HandS.SortInts
import HandS.OwnEq
import HandS.Codes
import KE.KExcIs
import HandS.ExcValue
import HandS.Strs
import HandS.SortInts
import PyProof.InstNe
import PyProof.TupleOfSeq
import HandS.SortRule
import HandS.Iter
import HandS.Zip
import HandS.TryOnly
import HandS.TupLen
import PyProof.EnumMake
import PyProof.TupleIter
import KE.GoesMore
import KE.RegKIsAll
import PySem.Challenge.RW_foldervotes_k34_histories_judged
set_option Elab.async false
set_option linter.all false
set_option maxRecDepth 100000
set_option maxHeartbeats 4000000
namespace Fv
open PySem PySem.Spec PyProof.Rows L2


/-! ### readings in short -/
abbrev xAdd : R2 := rI0 fun i j => .int (i + j)
abbrev xSub : R2 := rI0 fun i j => .int (i - j)
abbrev xMul : R2 := rI CMul fun i j => .int (i * j)
abbrev xDiv : R2 := rI CDivN fun i j => .int (i.fdiv j)
abbrev xMod : R2 := rI (fun _ j => 0 < j) fun i j => .int (i % j)
abbrev xPow : R2 := rI CPow fun i j => .int (i ^ j.toNat)
abbrev xLt : R2 := rI0 fun i j => .bl (decide (i < j))
abbrev xLe : R2 := rI0 fun i j => .bl (decide (i ≤ j))
abbrev xGt : R2 := rI0 fun i j => .bl (decide (j < i))
abbrev xGe : R2 := rI0 fun i j => .bl (decide (j ≤ i))
abbrev xNeg : V → Hp → VK → Prop := rU fun i => .int (-i)
def xIsN : R2 := fun x y H Q => y = .non ∧ Q (.bl (decide (x = .non))) H
def xNotN : R2 := fun x y H Q => y = .non ∧ Q (.bl (!decide (x = .non))) H
def xAddStr : R2 := fun x y H Q => ∃ i j, x = .str i ∧ y = .str j ∧ i.length + j.length ≤ sizeLine ∧ Q (.str (i ++ j)) H
def xAbs : List V → Hp → VK → Prop := fun xs H Q => ∃ i, xs = [.int i] ∧ Q (.int (if i < 0 then -i else i)) H
def xInt : List V → Hp → VK → Prop := fun xs H Q => (∃ i, xs = [.int i] ∧ Q (.int i) H) ∨ ∃ k, xs = [.bl k] ∧ Q (.int (if k then 1 else 0)) H
def xLen (K : PySem.W.Frag) : List V → Hp → VK → Prop := fun xs H Q => ∃ p ys, xs = [.ref p] ∧ (SqL K H p ys ∨ SqT K H p ys) ∧ Q (.int ys.length) H
def xLenD : List V → Hp → VK → Prop := fun xs H Q => ∃ a kvs, xs = [V.ref a] ∧ H a = some (.dK kvs) ∧ Q (.int kvs.length) H
def xLenS : List V → Hp → VK → Prop := fun xs H Q => ∃ z, xs = [.str z] ∧ z.length ≤ sizeLine ∧ Q (.int z.length) H
def xListOf (K : PySem.W.Frag) : List V → Hp → VK → Prop := fun xs H Q => ∃ p ys, xs = [.ref p] ∧ (SqL K H p ys ∨ SqT K H p ys) ∧ ∀ l, H l = none → Q (.ref l) (upd H l (.lst ys))
def xTupleOf (K : PySem.W.Frag) : List V → Hp → VK → Prop := fun xs H Q => ∃ p ys, xs = [.ref p] ∧ ((SqL K H p ys ∧ ∀ l, H l = none → Q (.ref l) (upd H l (.tup ys))) ∨ (SqT K H p ys ∧ Q (.ref p) H))

/-! ### steps -/
section
variable {K : PySem.W.Frag} {σ : L2.St} {H : Hp} {Q : VK} {D : Ends} {ta tb te tc : TE} {t u : TS} {tt tu : TT} {r r' : R2} {i j : Int} {x y v : V} {a : Addr} {xs : List V}
theorem v_seq (h : t { D with nx := u D } σ H) : tSeq t u D σ H := h
theorem v_cut (Mid : L2.St → Hp → Prop) (h : t { D with nx := Mid } σ H) (k : ∀ σ' H', Mid σ' H' → u D σ' H') : C8.tCut t u D σ H := ⟨Mid, h, k⟩
theorem v_next (h : D.nx σ H) : tNext D σ H := h
theorem v_ret (h : te σ H D.rt) : tRet te D σ H := h
theorem v_retN (h : D.rt .non H) : tRetN D σ H := h
theorem v_drop (h : te σ H fun _ H1 => D.nx σ H1) : tDrop te D σ H := h
theorem v_asg {g : TG} (h : te σ H fun x H1 => g x σ H1 D.nx) : tAsg te g D σ H := h
theorem v_ifs (h : tt σ H fun b H1 => if b = true then t D σ H1 else u D σ H1) : tIfS tt t u D σ H := h
theorem v_name {k : Nat} {R : L2.St → Hp → Prop} (h : R (σ.set k (some v)) H) : gName k v σ H R := h
theorem v_sub {to ti : TE} {s : V → V → V → Hp → (Hp → Prop) → Prop} {R : L2.St → Hp → Prop} (h : to σ H fun o H1 => ti σ H1 fun i H2 => s o i v H2 fun H3 => R σ H3) : gSub to ti s v σ H R := h
theorem v_setL {k : Int} {j : Nat} {R : Hp → Prop} (h : H a = some (.lst xs)) (hj : ixN xs.length k = some j) (q : R (upd H a (.lst (xs.set j v)))) : rSetL (.ref a) (.int k) v H R := ⟨a, xs, k, j, rfl, rfl, h, hj, q⟩
theorem v_var {k : Nat} (h : σ[k]? = some (some v)) (q : Q v H) : tVar k σ H Q := ⟨v, h, q⟩
theorem v_c (q : Q v H) : tC v σ H Q := q
theorem v_op (h : ta σ H fun x H1 => tb σ H1 fun y H2 => r x y H2 Q) : tOp r ta tb σ H Q := h
theorem v_un {f : V → Hp → VK → Prop} (h : ta σ H fun x H1 => f x H1 Q) : tUn f ta σ H Q := h
theorem v_I0 {g : Int → Int → V} (q : Q (g i j) H) : rI0 g (.int i) (.int j) H Q := ⟨i, j, rfl, rfl, q⟩
theorem v_I {C : Int → Int → Prop} {g : Int → Int → V} (c : C i j) (q : Q (g i j) H) : rI C g (.int i) (.int j) H Q := ⟨i, j, rfl, rfl, c, q⟩
theorem v_U {g : Int → V} (q : Q (g i) H) : rU g (.int i) H Q := ⟨i, rfl, q⟩
theorem v_eqI (q : Q (.bl (decide (i = j))) H) : rEq (.int i) (.int j) H Q := ⟨rfl, by
  have e : decide (V.int i = V.int j) = decide (i = j) := by rw [Bool.eq_iff_iff]; simp
  rw [e]; exact q⟩
theorem v_neI (q : Q (.bl (!decide (i = j))) H) : rNe (.int i) (.int j) H Q := ⟨rfl, by
  have e : decide (V.int i = V.int j) = decide (i = j) := by rw [Bool.eq_iff_iff]; simp
  rw [e]; exact q⟩
theorem v_eqB {b c : Bool} (q : Q (.bl (decide (b = c))) H) : rEq (.bl b) (.bl c) H Q := ⟨rfl, by
  have e : decide (V.bl b = V.bl c) = decide (b = c) := by rw [Bool.eq_iff_iff]; simp
  rw [e]; exact q⟩
theorem v_neB {b c : Bool} (q : Q (.bl (!decide (b = c))) H) : rNe (.bl b) (.bl c) H Q := ⟨rfl, by
  have e : decide (V.bl b = V.bl c) = decide (b = c) := by rw [Bool.eq_iff_iff]; simp
  rw [e]; exact q⟩
theorem v_isN (q : Q (.bl (decide (x = .non))) H) : xIsN x .non H Q := ⟨rfl, q⟩
theorem v_notN (q : Q (.bl (!decide (x = .non))) H) : xNotN x .non H Q := ⟨rfl, q⟩
theorem v_ixL {n : Int} (h : SqL K H a xs) (ha : atI xs n = some v) (q : Q v H) : rIxL K (.ref a) (.int n) H Q := ⟨a, xs, n, v, rfl, rfl, h, ha, q⟩
theorem v_ixT {n : Int} (h : SqT K H a xs) (ha : atI xs n = some v) (q : Q v H) : rIxT K (.ref a) (.int n) H Q := ⟨a, xs, n, v, rfl, rfl, h, ha, q⟩
theorem v_cb {f : List V → Hp → VK → Prop} {tx : TA} (h : tx σ H fun vs H1 => f vs H1 Q) : tCB f tx σ H Q := h
theorem v_call {sp : Sp} {dvs : List V} {E : XK} {tx : TA} (h : tx σ H fun vs H1 => sp (vs ++ dvs) H1 Q E) : tCall sp dvs E tx σ H Q := h
theorem v_nil {R : List V → Hp → Prop} (h : R [] H) : tNil σ H R := h
theorem v_cons {tr : TA} {R : List V → Hp → Prop} (h : ta σ H fun x H1 => tr σ H1 fun xs H2 => R (x :: xs) H2) : tCons ta tr σ H R := h
theorem v_abs (q : Q (.int (if i < 0 then -i else i)) H) : xAbs [.int i] H Q := ⟨i, rfl, q⟩
theorem v_int (q : Q (.int i) H) : xInt [.int i] H Q := .inl ⟨i, rfl, q⟩
theorem v_lenL (h : SqL K H a xs) (q : Q (.int xs.length) H) : xLen K [.ref a] H Q := ⟨a, xs, rfl, .inl h, q⟩
theorem v_lenT (h : SqT K H a xs) (q : Q (.int xs.length) H) : xLen K [.ref a] H Q := ⟨a, xs, rfl, .inr h, q⟩
theorem v_lst {tx : TA} (h : tx σ H fun xs H1 => xs.length ≤ sizeLine ∧ ∀ p, H1 p = none → Q (.ref p) (upd H1 p (.lst xs))) : tLst tx σ H Q := h
theorem v_tup {tx : TA} (h : tx σ H fun xs H1 => xs.length ≤ sizeLine ∧ ∀ p, H1 p = none → Q (.ref p) (upd H1 p (.tup xs))) : tTup tx σ H Q := h
theorem v_bound {n : Nat} {A : Prop} (h : n ≤ 1000) (q : A) : n ≤ sizeLine ∧ A := ⟨Nat.le_of_lt (small1000 h), q⟩
theorem v_sl {f : V → Option Int → Option Int → Hp → VK → Prop} {tl th : TO} (h : te σ H fun x H1 => tl σ H1 fun l H2 => th σ H2 fun u H3 => f x l u H3 Q) : tSl f te tl th σ H Q := h
theorem v_nopart {R : Option Int → Hp → Prop} (h : R none H) : tNoPart σ H R := h
theorem v_part {R : Option Int → Hp → Prop} (h : te σ H fun x H1 => ∃ i, x = .int i ∧ R (some i) H1) : tPart te σ H R := h
theorem v_partI {R : Int → Prop} (q : R i) : ∃ k, V.int i = .int k ∧ R k := ⟨i, rfl, q⟩
theorem v_slL {lo hi : Option Int} (h : SqL K H a xs) (q : ∀ p, H p = none → Q (.ref p) (upd H p (.lst (cutV xs lo hi)))) : rSlL K (.ref a) lo hi H Q := ⟨a, xs, rfl, h, q⟩
theorem v_cat {b : Addr} {ys : List V} (h : H a = some (.lst xs)) (h' : H b = some (.lst ys)) (l : xs.length + ys.length ≤ 1000) (q : ∀ p, H p = none → Q (.ref p) (upd H p (.lst (xs ++ ys)))) : rCat (.ref a) (.ref b) H Q :=
  ⟨a, b, xs, ys, rfl, rfl, h, h', Nat.le_of_lt (small1000 l), q⟩
theorem v_if (h : tt σ H fun c H1 => if c = true then ta σ H1 Q else tb σ H1 Q) : tIf tt ta tb σ H Q := h
theorem v_chain (h : ta σ H fun x H1 => tb σ H1 fun y H2 => r x y H2 fun z H3 => ∃ k, z = .bl k ∧ (if k = true then tc σ H3 fun w' H4 => r' y w' H4 Q else Q (.bl false) H3)) : tChain r r' ta tb tc σ H Q := h
theorem v_andV (h : ta σ H fun x H1 => ∃ c, x = .bl c ∧ if c = true then tb σ H1 Q else Q (.bl false) H1) : tAndV ta tb σ H Q := h
theorem v_orV (h : ta σ H fun x H1 => ∃ c, x = .bl c ∧ if c = true then Q (.bl true) H1 else tb σ H1 Q) : tOrV ta tb σ H Q := h
theorem v_notV (h : ta σ H fun x H1 => ∃ c, x = .bl c ∧ Q (.bl (!c)) H1) : tNotV ta σ H Q := h
theorem v_bl {b : Bool} {A : Bool → Prop} (q : A b) : ∃ c, V.bl b = .bl c ∧ A c := ⟨b, rfl, q⟩
theorem v_and {R : Bool → Hp → Prop} (h : tt σ H fun c H1 => if c = true then tu σ H1 R else R false H1) : tAnd tt tu σ H R := h
theorem v_or {R : Bool → Hp → Prop} (h : tt σ H fun c H1 => if c = true then R true H1 else tu σ H1 R) : tOr tt tu σ H R := h
theorem v_not {R : Bool → Hp → Prop} (h : tt σ H fun c H1 => R (!c) H1) : tNot tt σ H R := h
theorem v_test {R : Bool → Hp → Prop} (h : ta σ H fun x H1 => ∃ k, x = .bl k ∧ R k H1) : tTest ta σ H R := h
theorem v_B {R : Bool → Hp → Prop} (h : ta σ H fun x H1 => ∃ k, x = .bl k ∧ R k H1) : tB ta σ H R := h
theorem v_yes {R : Bool → Hp → Prop} (h : R true H) : tYes σ H R := h
theorem v_dnew (q : ∀ p, H p = none → Q (.ref p) (upd H p (.dK []))) : tDNewK σ H Q := q
end
section
variable {A B : Prop}
theorem v_iteT (h : A) : if true = true then A else B := by rw [if_pos rfl]; exact h
theorem v_iteF (h : B) : if false = true then A else B := by rw [if_neg Bool.false_ne_true]; exact h
theorem v_iteNT (h : B) : if (!true) = true then A else B := v_iteF h
theorem v_iteNF (h : A) : if (!false) = true then A else B := v_iteT h
theorem v_ite {P : Prop} {dP : Decidable P} (h1 : P → A) (h2 : ¬ P → B) : if decide P = true then A else B := by
  by_cases h : P
  · rw [if_pos (decide_eq_true h)]; exact h1 h
  · rw [if_neg (by rw [decide_eq_false h]; decide)]; exact h2 h
theorem v_iteN {P : Prop} {dP : Decidable P} (h1 : ¬ P → A) (h2 : P → B) : if (!decide P) = true then A else B := by
  by_cases h : P
  · rw [if_neg (by rw [decide_eq_true h]; decide)]; exact h2 h
  · rw [if_pos (by rw [decide_eq_false h]; decide)]; exact h1 h
theorem v_iteB {b : Bool} (h1 : b = true → A) (h2 : b = false → B) : if b = true then A else B := by
  cases b with
  | true => rw [if_pos rfl]; exact h1 rfl
  | false => rw [if_neg Bool.false_ne_true]; exact h2 rfl
end


/-! ### loops -/
def LoopG (J : It) (g : TG) (tb : TS) (D : Ends) (σ : L2.St) (H : Hp) : Prop := ∃ W : Nat → Nat → L2.St → Hp → Prop, (∃ m, W 0 m σ H) ∧ ∀ i m σ H, W i m σ H →
  (J.stop i H ∧ D.nx σ H) ∨ (J.go i H ∧ ∃ N : L2.St → Hp → Prop, (∀ σ' H', N σ' H' → ∃ m', m' < m ∧ W (i + 1) m' σ' H') ∧ ∀ x H', J.yld i H x H' → g x σ H' fun σ2 H2 => tb { D with nx := N, ct := N, bk := D.nx } σ2 H2)
def LcG (J : It) (g : TG) (tt : TT) (te : TE) (vs : List Nat) (σ : L2.St) (H1 : Hp) (Q : VK) : Prop := ∀ D, H1 D = none → ∃ W : Nat → Nat → Hp → Prop, (∃ m, W 0 m (upd H1 D (.lst []))) ∧ ∀ i m H, W i m H →
  (J.stop i H ∧ Q (.ref D) H) ∨ (J.go i H ∧ ∃ Nx : Hp → Prop, (∀ H', Nx H' → ∃ m', m' < m ∧ W (i + 1) m' H') ∧ ∀ x H', J.yld i H x H' → g x (wipe σ vs) H' fun σ2 H2 => wipe σ2 vs = wipe σ vs ∧ tt σ2 H2 fun b H3 =>
    if b = true then te σ2 H3 fun y H4 => ∃ acc, H4 D = some (.lst acc) ∧ acc.length < sizeLine ∧ Nx (upd H4 D (.lst (acc ++ [y]))) else Nx H3)
def Rg1K (vs : List V) (R : It → Hp → Prop) (H : Hp) : Prop := ∃ j : Int, vs = [.int j] ∧ -(2 ^ 62) ≤ j ∧ j < 2 ^ 62 ∧ R (Itr 0 j.toNat) H
def Rg2K (vs : List V) (R : It → Hp → Prop) (H : Hp) : Prop := ∃ i j : Int, vs = [.int i, .int j] ∧ (-(2 ^ 62) ≤ i ∧ i < 2 ^ 62 ∧ -(2 ^ 62) ≤ j ∧ j < 2 ^ 62) ∧ R (Itr i (j - i).toNat) H
def ItLK (K : PySem.W.Frag) (x : V) (R : It → Hp → Prop) (H : Hp) : Prop := ∃ a, x = .ref a ∧ (∃ xs, SqL K H a xs) ∧ R (Itl K a) H
def ItTK (K : PySem.W.Frag) (x : V) (R : It → Hp → Prop) (H : Hp) : Prop := ∃ a, x = .ref a ∧ (∃ xs, SqT K H a xs) ∧ R (Itt K a) H
section
variable {K : PySem.W.Frag} {σ : L2.St} {H : Hp} {D : Ends} {ta : TA} {te : TE} {tt : TT} {tb : TS} {g : TG} {wi : TI} {R : It → Hp → Prop} {Q : VK} {a : Addr} {xs : List V} {vs : List Nat}
theorem v_for (h : wi σ H fun J H1 => LoopG J g tb D σ H1) : tFor wi g tb D σ H := h
theorem v_lc (h : wi σ H fun J H1 => LcG J g tt te vs σ H1 Q) : tLc wi g tt te vs σ H Q := h
theorem v_iR1 (h : ta σ H fun vs H1 => Rg1K vs R H1) : iRng1 ta σ H R := h
theorem v_iR2 (h : ta σ H fun vs H1 => Rg2K vs R H1) : iRng2 ta σ H R := h
theorem v_iL (h : te σ H fun x H1 => ItLK K x R H1) : iList K te σ H R := h
theorem v_iT (h : te σ H fun x H1 => ItTK K x R H1) : iTup K te σ H R := h
theorem v_rg1 {e : Int} (b : -1000000 ≤ e ∧ e ≤ 1000000) (q : R (Itr 0 e.toNat) H) : Rg1K [.int e] R H := ⟨e, rfl, by omega, by omega, q⟩
theorem v_rg2 {lo e : Int} (b : -1000000 ≤ lo ∧ lo ≤ 1000000 ∧ -1000000 ≤ e ∧ e ≤ 1000000) (q : R (Itr lo (e - lo).toNat) H) : Rg2K [.int lo, .int e] R H := ⟨lo, e, rfl, ⟨by omega, by omega, by omega, by omega⟩, q⟩
theorem v_itL (h : SqL K H a xs) (q : R (Itl K a) H) : ItLK K (.ref a) R H := ⟨a, rfl, ⟨xs, h⟩, q⟩
theorem v_itT (h : SqT K H a xs) (q : R (Itt K a) H) : ItTK K (.ref a) R H := ⟨a, rfl, ⟨xs, h⟩, q⟩
/-- for i in range(e): W says what holds ahead of turn i -/
theorem v_loop0 {e : Int} (W : Nat → L2.St → Hp → Prop) (h0 : W 0 σ H) (hs : ∀ (i : Nat) σ' H', (i : Int) < e → W i σ' H' → g (.int i) σ' H' fun σ2 H2 => tb { D with nx := W (i + 1), ct := W (i + 1), bk := D.nx } σ2 H2)
    (hd : ∀ σ' H', W e.toNat σ' H' → D.nx σ' H') : LoopG (Itr 0 e.toNat) g tb D σ H := for_range (lo := 0) (n := e.toNat) W h0 (fun i σ' H' hi w => by
      have z : (0 : Int) + (i : Int) = (i : Int) := Int.zero_add _
      rw [z]
      exact hs i σ' H' (by omega) w) hd
theorem v_loop2 {lo e : Int} (W : Nat → L2.St → Hp → Prop) (h0 : W 0 σ H) (hs : ∀ (i : Nat) σ' H', lo + (i : Int) < e → W i σ' H' → g (.int (lo + i)) σ' H' fun σ2 H2 => tb { D with nx := W (i + 1), ct := W (i + 1), bk := D.nx } σ2 H2)
    (hd : ∀ σ' H', W (e - lo).toNat σ' H' → D.nx σ' H') : LoopG (Itr lo (e - lo).toNat) g tb D σ H := for_range (lo := lo) (n := (e - lo).toNat) W h0 (fun i σ' H' hi w => hs i σ' H' (by omega) w) hd
theorem v_loopL (W : Nat → L2.St → Hp → Prop) (h0 : W 0 σ H) (hl : ∀ i σ H, i ≤ xs.length → W i σ H → SqL K H a xs)
    (hs : ∀ i x σ' H', xs[i]? = some x → W i σ' H' → g x σ' H' fun σ2 H2 => tb { D with nx := W (i + 1), ct := W (i + 1), bk := D.nx } σ2 H2) (hd : ∀ σ' H', W xs.length σ' H' → D.nx σ' H') : LoopG (Itl K a) g tb D σ H := for_list W h0 hl hs hd
theorem v_loopT (W : Nat → L2.St → Hp → Prop) (h0 : W 0 σ H) (hl : ∀ i σ H, i ≤ xs.length → W i σ H → SqT K H a xs)
    (hs : ∀ i x σ' H', xs[i]? = some x → W i σ' H' → g x σ' H' fun σ2 H2 => tb { D with nx := W (i + 1), ct := W (i + 1), bk := D.nx } σ2 H2) (hd : ∀ σ' H', W xs.length σ' H' → D.nx σ' H') : LoopG (Itt K a) g tb D σ H := for_tup W h0 hl hs hd
/-- a comprehension's turn: what is made so far stands at A -/
def LcT (g : TG) (tt : TT) (te : TE) (vs : List Nat) (σ : L2.St) (A : Addr) (x : V) (H : Hp) (N : Hp → Prop) : Prop := g x (wipe σ vs) H fun σ2 H2 => wipe σ2 vs = wipe σ vs ∧ tt σ2 H2 fun b H3 =>
  if b = true then te σ2 H3 fun y H4 => ∃ acc, H4 A = some (.lst acc) ∧ acc.length < sizeLine ∧ N (upd H4 A (.lst (acc ++ [y]))) else N H3
theorem v_lc0 {e : Int} (W : Addr → Nat → Hp → Prop) (h0 : ∀ A, H A = none → W A 0 (upd H A (.lst []))) (hs : ∀ A (i : Nat) H', H A = none → (i : Int) < e → W A i H' → LcT g tt te vs σ A (.int i) H' (W A (i + 1)))
    (hd : ∀ A H', H A = none → W A e.toNat H' → Q (.ref A) H') : LcG (Itr 0 e.toNat) g tt te vs σ H Q := fun A nA => lc_range (lo := 0) (n := e.toNat) (W A) (h0 A nA) (fun i H' hi w => by
      have z : (0 : Int) + (i : Int) = (i : Int) := Int.zero_add _
      rw [z]
      exact hs A i H' nA (by omega) w) fun H' w => hd A H' nA w
theorem v_lc2 {lo e : Int} (W : Addr → Nat → Hp → Prop) (h0 : ∀ A, H A = none → W A 0 (upd H A (.lst []))) (hs : ∀ A (i : Nat) H', H A = none → lo + (i : Int) < e → W A i H' → LcT g tt te vs σ A (.int (lo + i)) H' (W A (i + 1)))
    (hd : ∀ A H', H A = none → W A (e - lo).toNat H' → Q (.ref A) H') : LcG (Itr lo (e - lo).toNat) g tt te vs σ H Q := fun A nA => lc_range (lo := lo) (n := (e - lo).toNat) (W A) (h0 A nA) (fun i H' hi w => hs A i H' nA (by omega) w) fun H' w => hd A H' nA w
theorem v_lcL (W : Addr → Nat → Hp → Prop) (h0 : ∀ A, H A = none → W A 0 (upd H A (.lst []))) (hl : ∀ A i H', H A = none → i ≤ xs.length → W A i H' → SqL K H' a xs)
    (hs : ∀ A i x H', H A = none → xs[i]? = some x → W A i H' → LcT g tt te vs σ A x H' (W A (i + 1))) (hd : ∀ A H', H A = none → W A xs.length H' → Q (.ref A) H') : LcG (Itl K a) g tt te vs σ H Q := fun A nA =>
  lc_list (xs := xs) (W A) (h0 A nA) (fun i H' hi w => hl A i H' nA hi w) (fun i x H' hx w => hs A i x H' nA hx w) fun H' w => hd A H' nA w
theorem v_lcT (W : Addr → Nat → Hp → Prop) (h0 : ∀ A, H A = none → W A 0 (upd H A (.lst []))) (hl : ∀ A i H', H A = none → i ≤ xs.length → W A i H' → SqT K H' a xs)
    (hs : ∀ A i x H', H A = none → xs[i]? = some x → W A i H' → LcT g tt te vs σ A x H' (W A (i + 1))) (hd : ∀ A H', H A = none → W A xs.length H' → Q (.ref A) H') : LcG (Itt K a) g tt te vs σ H Q := fun A nA =>
  lc_tup (xs := xs) (W A) (h0 A nA) (fun i H' hi w => hl A i H' nA hi w) (fun i x H' hx w => hs A i x H' nA hx w) fun H' w => hd A H' nA w
/-- a turn of a comprehension with one name in slot i -/
theorem v_turn {i : Nat} {A : Addr} {x : V} {N : Hp → Prop} (e : wipe ((wipe σ vs).set i (some x)) vs = wipe σ vs) (h : tt ((wipe σ vs).set i (some x)) H fun b H3 =>
    if b = true then te ((wipe σ vs).set i (some x)) H3 fun y H4 => ∃ acc, H4 A = some (.lst acc) ∧ acc.length < sizeLine ∧ N (upd H4 A (.lst (acc ++ [y]))) else N H3) : LcT (gName i) tt te vs σ A x H N := ⟨e, h⟩
end

/-! ### methods, ranges as lists, products -/
def BmK (K : PySem.W.Frag) (T : String) (r : V → List V → Hp → VK → Prop) (t : TA) (σ : L2.St) (x : V) (H : Hp) (Q : VK) : Prop := tyV K T x H ∧ t σ H fun xs H2 => r x xs H2 Q
def Bm0K (K : PySem.W.Frag) (T : String) (r : V → List V → Hp → VK → Prop) (x : V) (H : Hp) (Q : VK) : Prop := tyV K T x H ∧ r x [] H Q
def Rg2E (x y : V) (R : Int → Int → Hp → Prop) (H : Hp) : Prop := ∃ i j, x = .int i ∧ y = .int j ∧ R i j H
def Rg1E (x : V) (R : Int → Int → Hp → Prop) (H : Hp) : Prop := ∃ j, x = .int j ∧ R 0 j H
def LRgK (i j : Int) (H : Hp) (Q : VK) : Prop := RgOk i j ∧ ∀ q, H q = none → Q (.ref q) (upd H q (.lst (rgV i j)))
def TRgK (i j : Int) (H : Hp) (Q : VK) : Prop := RgOk i j ∧ ∀ q, H q = none → Q (.ref q) (upd H q (.tup (rgV i j)))
section
variable {K : PySem.W.Frag} {σ : L2.St} {H : Hp} {Q : VK} {to ta tb : TE} {t : TA} {T : String} {r : V → List V → Hp → VK → Prop} {a : Addr} {xs ys : List V} {x y v : V} {i j : Int} {R : Int → Int → Hp → Prop} {te : L2.St → Hp → (Int → Int → Hp → Prop) → Prop}
theorem v_bm (h : to σ H fun x H1 => BmK K T r t σ x H1 Q) : tBM K T r to t σ H Q := h
theorem v_bm0 (h : to σ H fun x H1 => Bm0K K T r x H1 Q) : tBM0 K T r to σ H Q := h
theorem v_bmL (h : H a = some (.lst xs)) (q : t σ H fun vs H2 => r (.ref a) vs H2 Q) : BmK K "list" r t σ (.ref a) H Q := ⟨.inl ⟨rfl, xs, SqL.of h⟩, q⟩
theorem v_bm0L (h : H a = some (.lst xs)) (q : r (.ref a) [] H Q) : Bm0K K "list" r (.ref a) H Q := ⟨.inl ⟨rfl, xs, SqL.of h⟩, q⟩
theorem v_append (h : H a = some (.lst xs)) (l : xs.length ≤ 1000) (q : Q .non (upd H a (.lst (xs ++ [y])))) : rAppend (.ref a) [y] H Q := ⟨a, xs, y, rfl, rfl, h, small1000 l, q⟩
theorem v_popAt (h : H a = some (.lst xs)) (h0 : 0 ≤ i) (h1 : i < xs.length) (l : xs.length ≤ 1000) (hy : xs[i.toNat]? = some y) (q : Q y (upd H a (.lst (xs.eraseIdx i.toNat)))) : rPopAt (.ref a) [.int i] H Q := by
  refine ⟨a, xs, i, i.toNat, y, rfl, rfl, h, by omega, by omega, ?_, hy, q⟩
  have e : (if i < 0 then i + (xs.length : Int) else i) = i := if_neg (by omega)
  show (if (decide (0 ≤ (if i < 0 then i + (xs.length : Int) else i)) && decide ((if i < 0 then i + (xs.length : Int) else i) < (xs.length : Int))) = true then some (if i < 0 then i + (xs.length : Int) else i).toNat else none) = some i.toNat
  rw [e, decide_eq_true h0, decide_eq_true h1]
  rfl
theorem v_pop {y : V} (h : H a = some (.lst xs)) (hy : xs[xs.length - 1]? = some y) (q : Q y (upd H a (.lst xs.dropLast))) : rPop (.ref a) [] H Q := ⟨a, xs, y, rfl, rfl, h, hy, q⟩
theorem v_extend {b : Addr} (h : H a = some (.lst xs)) (h' : H b = some (.lst ys)) (l : xs.length + ys.length ≤ 1000) (q : Q .non (upd H a (.lst (xs ++ ys)))) : rExtend (.ref a) [.ref b] H Q := ⟨a, b, xs, ys, rfl, rfl, h, h', Nat.le_of_lt (small1000 l), q⟩
theorem v_tRg2 (h : ta σ H fun x H1 => tb σ H1 fun y H2 => Rg2E x y R H2) : tRg2 ta tb σ H R := h
theorem v_tRg1 (h : ta σ H fun x H1 => Rg1E x R H1) : tRg1 ta σ H R := h
theorem v_rg2e (q : R i j H) : Rg2E (.int i) (.int j) R H := ⟨i, j, rfl, rfl, q⟩
theorem v_rg1e (q : R 0 j H) : Rg1E (.int j) R H := ⟨j, rfl, q⟩
theorem v_lstRg (h : te σ H fun i j H1 => LRgK i j H1 Q) : tLstRg te σ H Q := h
theorem v_tupRg (h : te σ H fun i j H1 => TRgK i j H1 Q) : tTupRg te σ H Q := h
theorem v_lrg (b : 0 ≤ i ∧ i ≤ 10000 ∧ 0 ≤ j ∧ j ≤ 10000) (q : ∀ p, H p = none → Q (.ref p) (upd H p (.lst (rgV i j)))) : LRgK i j H Q := ⟨RgOk.of_le b.1 (by omega) (by omega) b.2.2.1, q⟩
theorem v_rep {n : Int} (h : H a = some (.lst xs)) (h0 : 0 ≤ n ∧ n ≤ 1000) (l : xs.length ≤ 1000) (q : ∀ p, H p = none → Q (.ref p) (upd H p (.lst (List.replicate n.toNat xs).flatten))) : rRep (.ref a) (.int n) H Q := by
  refine ⟨a, n, xs, rfl, rfl, h, by omega, by omega, ?_, q⟩
  have e : xs.length * n.toNat ≤ 1000 * 1000 := Nat.mul_le_mul l (by omega)
  exact Nat.le_trans e (by decide)
theorem v_tupOfL (h : H a = some (.lst xs)) (q : ∀ p, H p = none → Q (.ref p) (upd H p (.tup xs))) : xTupleOf K [.ref a] H Q := ⟨a, xs, rfl, .inl ⟨SqL.of h, q⟩⟩
theorem v_tupOfT (h : H a = some (.tup xs)) (q : Q (.ref a) H) : xTupleOf K [.ref a] H Q := ⟨a, xs, rfl, .inr ⟨SqT.of h, q⟩⟩
theorem v_lstOfL (h : H a = some (.lst xs)) (q : ∀ p, H p = none → Q (.ref p) (upd H p (.lst xs))) : xListOf K [.ref a] H Q := ⟨a, xs, rfl, .inl (SqL.of h), q⟩
theorem v_lstOfT (h : H a = some (.tup xs)) (q : ∀ p, H p = none → Q (.ref p) (upd H p (.lst xs))) : xListOf K [.ref a] H Q := ⟨a, xs, rfl, .inr (SqT.of h), q⟩
theorem v_catA {b : Addr} (h : H a = some (.tup xs)) (h' : H b = some (.tup ys)) (l : xs.length + ys.length ≤ 1000) (n1 : xs ≠ []) (n2 : ys ≠ []) (q : ∀ p, H p = none → Q (.ref p) (upd H p (.tup (xs ++ ys)))) : rCatA K (.ref a) (.ref b) H Q :=
  ⟨a, b, xs, ys, rfl, rfl, SqT.of h, SqT.of h', Nat.le_of_lt (small1000 l), fun e => absurd e n1, fun _ e => absurd e n2, fun _ _ => q⟩
theorem v_repT {n : Int} (h : H a = some (.tup xs)) (h0 : 2 ≤ n ∧ n ≤ 1000) (l : xs.length ≤ 1000) (n1 : xs ≠ []) (q : ∀ p, H p = none → Q (.ref p) (upd H p (.tup (List.replicate n.toNat xs).flatten))) : rRepT K (.ref a) (.int n) H Q :=
  ⟨a, n, xs, rfl, rfl, SqT.of h, n1, h0.1, h0.2, l, q⟩
end
theorem flat_one {α : Type} (n : Nat) (x : α) : (List.replicate n [x]).flatten = List.replicate n x := by
  induction n with
  | zero => rfl
  | succ n ih =>
    rw [List.replicate_succ, List.replicate_succ, List.flatten_cons, ih]
    rfl
theorem rgV_map (i j : Int) : rgV i j = ((List.range (j - i).toNat).map fun k => i + ((k : Nat) : Int)).map V.int := by
  unfold rgV
  rw [List.map_map]
  rfl
theorem ixN_of {n j : Nat} {z : Int} (e : z = (j : Int)) (h : j < n) : ixN n z = some j := by
  unfold ixN
  rw [if_pos (by omega), if_pos (by omega), e]
  rfl
theorem upd_get {H : Hp} {a q : Addr} {o u : HO} (n : H q = none) (h : H a = some o) : upd H q u a = some o := by
  rw [upd_ne (ne_of_none h n)]
  exact h
theorem upd_at {H : Hp} {a q : Addr} {o u : HO} (n : a ≠ q) (h : H a = some o) : upd H q u a = some o := by
  rw [upd_ne n]
  exact h
theorem v_ixL' {K : PySem.W.Frag} {H : Hp} {Q : VK} {a : Addr} {xs : List V} {n : Int} {v : V} (h : H a = some (.lst xs)) (ha : atI xs n = some v) (q : Q v H) : rIxL K (.ref a) (.int n) H Q := v_ixL (SqL.of h) ha q
theorem v_ixT' {K : PySem.W.Frag} {H : Hp} {Q : VK} {a : Addr} {xs : List V} {n : Int} {v : V} (h : H a = some (.tup xs)) (ha : atI xs n = some v) (q : Q v H) : rIxT K (.ref a) (.int n) H Q := v_ixT (SqT.of h) ha q
theorem v_lenL' {K : PySem.W.Frag} {H : Hp} {Q : VK} {a : Addr} {xs : List V} (h : H a = some (.lst xs)) (q : Q (.int xs.length) H) : xLen K [.ref a] H Q := v_lenL (SqL.of h) q
theorem v_lenT' {K : PySem.W.Frag} {H : Hp} {Q : VK} {a : Addr} {xs : List V} (h : H a = some (.tup xs)) (q : Q (.int xs.length) H) : xLen K [.ref a] H Q := v_lenT (SqT.of h) q

/-! ### the walk over readings -/

/-! ### what the pool owns; what stays -/
def Owned (H : Hp) (p a : Addr) : Prop := a = p ∨ ∃ xs, H p = some (.lst xs) ∧ V.ref a ∈ xs
def Af (H : Hp) (p a : Addr) (o : HO) : Prop := H a = some o ∧ ¬ Owned H p a
/-- what is not the pool's stays; what is there stays there -/
structure Mo (p : Addr) (H H' : Hp) : Prop where
  at_ : ∀ a o, Af H p a o → Af H' p a o
  free : ∀ a, H' a = none → H a = none
instance {p : Addr} {H H' : Hp} : CoeFun (Mo p H H') (fun _ => ∀ a o, Af H p a o → Af H' p a o) := ⟨Mo.at_⟩
theorem upd_none {H : Hp} {q a : Addr} {o : HO} (h : upd H q o a = none) : a ≠ q ∧ H a = none := by
  have n : a ≠ q := fun z => by rw [z, upd_same] at h; cases h
  rw [upd_ne n] at h
  exact ⟨n, h⟩
def Pool (H : Hp) (p : Addr) : Prop := ∃ (g s : Addr) (gs ss : List Int) (x y : Int), H p = some (.lst [.ref g, .ref s, .int x, .int y]) ∧ H g = some (.lst (gs.map V.int)) ∧ H s = some (.lst (ss.map V.int)) ∧
  g ≠ p ∧ s ≠ p ∧ gs.length ≤ 63 ∧ ss.length ≤ 63
theorem Mo.refl (p : Addr) (H : Hp) : Mo p H H := ⟨fun _ _ h => h, fun _ h => h⟩
theorem Mo.trans {p : Addr} {H H1 H2 : Hp} (a : Mo p H H1) (b : Mo p H1 H2) : Mo p H H2 := ⟨fun x o h => b.at_ x o (a.at_ x o h), fun x h => a.free x (b.free x h)⟩
theorem owned_pool {H : Hp} {p g s a : Addr} {x y : Int} (h : H p = some (.lst [.ref g, .ref s, .int x, .int y])) : Owned H p a ↔ a = p ∨ a = g ∨ a = s := by
  constructor
  · rintro (e | ⟨xs, e, hm⟩)
    · exact .inl e
    · rw [h] at e
      cases e
      simp at hm
      exact .inr hm
  · rintro (e | e | e)
    · exact .inl e
    · exact .inr ⟨_, h, by simp [e]⟩
    · exact .inr ⟨_, h, by simp [e]⟩
theorem same_upd {H : Hp} {q : Addr} {o : HO} (h : H q = none) : Same H (upd H q o) := fun b x e => by
  rw [upd_ne (ne_of_none e h)]
  exact e
theorem Pool.same {H H' : Hp} {p : Addr} (h : Pool H p) (e : Same H H') : Pool H' p := by
  obtain ⟨g, s, gs, ss, x, y, h1, h2, h3, r⟩ := h
  exact ⟨g, s, gs, ss, x, y, e _ _ h1, e _ _ h2, e _ _ h3, r⟩
theorem Pool.upd {H : Hp} {p q : Addr} {o : HO} (h : Pool H p) (n : H q = none) : Pool (upd H q o) p := h.same (same_upd n)
theorem Mo.same {H H' : Hp} {p : Addr} (h : Pool H p) (e : Same H H') : Mo p H H' := by
  refine ⟨fun a o ⟨h1, h2⟩ => ?_, fun a z => e.free z⟩
  obtain ⟨g, s, gs, ss, x, y, q1, _⟩ := h
  refine ⟨e _ _ h1, ?_⟩
  rw [owned_pool (e _ _ q1)]
  rw [owned_pool q1] at h2
  exact h2
theorem Mo.upd {H : Hp} {p q : Addr} {o : HO} (h : Pool H p) (n : H q = none) : Mo p H (upd H q o) := .same h (same_upd n)
/-- a new object is not the pool's -/
theorem Af.new {H H' : Hp} {p q : Addr} {o : HO} (h : Pool H p) (n : H q = none) (e : Same H H') (hq : H' q = some o) : Af H' p q o := by
  obtain ⟨g, s, gs, ss, x, y, q1, q2, q3, _⟩ := h
  refine ⟨hq, ?_⟩
  rw [owned_pool (e _ _ q1)]
  rintro (z | z | z)
  · rw [z, q1] at n; cases n
  · rw [z, q2] at n; cases n
  · rw [z, q3] at n; cases n
theorem Af.upd {H : Hp} {p q : Addr} {o : HO} (h : Pool H p) (n : H q = none) : Af (L2.upd H q o) p q o := .new h n (same_upd n) upd_same
/-- an object of the caller's is changed -/
theorem Pool.mut {H : Hp} {p a : Addr} {o o' : HO} (h : Pool H p) (f : Af H p a o) : Pool (L2.upd H a o') p := by
  obtain ⟨g, s, gs, ss, x, y, q1, q2, q3, r⟩ := h
  have hn := f.2
  rw [owned_pool q1] at hn
  refine ⟨g, s, gs, ss, x, y, ?_, ?_, ?_, r⟩
  · rw [upd_ne (fun z => hn (.inl z.symm))]; exact q1
  · rw [upd_ne (fun z => hn (.inr (.inl z.symm)))]; exact q2
  · rw [upd_ne (fun z => hn (.inr (.inr z.symm)))]; exact q3
theorem Af.mut {H : Hp} {p a b : Addr} {o o' u : HO} (h : Pool H p) (f : Af H p a o) (hb : Af H p b u) (ne : b ≠ a) : Af (L2.upd H a o') p b u := by
  obtain ⟨g, s, gs, ss, x, y, q1, q2, q3, r⟩ := h
  have hn := f.2
  have hbn := hb.2
  rw [owned_pool q1] at hn hbn
  refine ⟨by rw [upd_ne ne]; exact hb.1, ?_⟩
  rw [owned_pool (g := g) (s := s) (x := x) (y := y) (by rw [upd_ne (fun z => hn (.inl z.symm))]; exact q1)]
  exact hbn
theorem Af.self {H : Hp} {p a : Addr} {o o' : HO} (h : Pool H p) (f : Af H p a o) : Af (L2.upd H a o') p a o' := by
  obtain ⟨g, s, gs, ss, x, y, q1, q2, q3, r⟩ := h
  have hn := f.2
  rw [owned_pool q1] at hn
  refine ⟨upd_same, ?_⟩
  rw [owned_pool (g := g) (s := s) (x := x) (y := y) (by rw [upd_ne (fun z => hn (.inl z.symm))]; exact q1)]
  exact hn
/-- an object that was new at H, changed at H' -/
theorem Mo.mut {H H' : Hp} {p a : Addr} {o o' : HO} (m : Mo p H H') (h : Pool H' p) (n : H a = none) (f : Af H' p a o) : Mo p H (L2.upd H' a o') :=
  ⟨fun b u hb => Af.mut h f (m.at_ b u hb) (ne_of_none hb.1 n), fun b e => m.free b (upd_none e).2⟩

/-! ### promises of the draws -/
/-- a number below m -/
def spDraw : Sp := fun vs H Q _ => ∃ (p : Addr) (m : Int), vs = [.ref p, .int m] ∧ Pool H p ∧ 1 ≤ m ∧ m ≤ 1000000 ∧ ∀ d H', 0 ≤ d → d < m → Pool H' p → Mo p H H' → Q (.int d) H'
def spPool (K : PySem.W.Frag) : Sp := fun vs H Q _ => ∃ (a : Addr) (ns : List Int), vs = [.ref a] ∧ SqL K H a (ns.map V.int) ∧ ns.length ≤ 63 ∧ ∀ p H', Pool H' p → Q (.ref p) H'
theorem len_l_draw {vs : List V} {H : Hp} {Q : VK} {E : XK} (h : spDraw vs H Q E) : vs.length = 2 := by
  obtain ⟨p, m, rfl, _⟩ := h
  rfl
theorem len_l_pool {K : PySem.W.Frag} {vs : List V} {H : Hp} {Q : VK} {E : XK} (h : spPool K vs H Q E) : vs.length = 1 := by
  obtain ⟨p, m, rfl, _⟩ := h
  rfl
def t_l_pool (K : PySem.W.Frag) : TS :=
  (tSeq (tAsg (tLc (iList K (tSl (rSlL K) (tVar 0) tNoPart (tPart (tC (.int 63))))) (gName 3) (tTest (tOp xGe (tCB xAbs (tCons (tVar 3) tNil)) (tOp xPow (tC (.int 10)) (tC (.int 18))))) (tCB xAbs (tCons (tVar 3) tNil)) [3]) (gName 1)) (tSeq (tAsg (tLc (iList K (tSl (rSlL K) (tVar 0) tNoPart (tPart (tC (.int 63))))) (gName 3) (tTest (tOp xLt (tCB xAbs (tCons (tVar 3) tNil)) (tOp xPow (tC (.int 10)) (tC (.int 18))))) (tOp xMod (tCB xInt (tCons (tVar 3) tNil)) (tC (.int 1000003))) [3]) (gName 2)) (tRet (tLst (tCons (tVar 1) (tCons (tVar 2) (tCons (tC (.int 0)) (tCons (tC (.int 0)) tNil))))))))
def t_l_draw (K : PySem.W.Frag) : TS :=
  (C8.tCut (tIfS (tAnd (tTest (tOp xLe (tOp (rIxL K) (tVar 0) (tC (.int 2))) (tC (.int 1)))) (tTest (tOp xGt (tCB (xLen K) (tCons (tOp (rIxL K) (tVar 0) (tC (.int 0))) tNil)) (tC (.int 0))))) (tSeq (tAsg (tOp (rIxL K) (tOp (rIxL K) (tVar 0) (tC (.int 0))) (tC (.int 0))) (gSub (tVar 0) (tC (.int 2)) rSetL)) (tAsg (tSl (rSlL K) (tOp (rIxL K) (tVar 0) (tC (.int 0))) (tPart (tC (.int 1))) tNoPart) (gSub (tVar 0) (tC (.int 0)) rSetL))) tNext) (tSeq (tIfS (tTest (tOp xGt (tOp (rIxL K) (tVar 0) (tC (.int 2))) (tC (.int 1)))) (tSeq (tAsg (tOp xMod (tCB xInt (tCons (tOp (rIxL K) (tVar 0) (tC (.int 2))) tNil)) (tVar 1)) (gName 2)) (tSeq (tAsg (tOp xDiv (tOp (rIxL K) (tVar 0) (tC (.int 2))) (tVar 1)) (gSub (tVar 0) (tC (.int 2)) rSetL)) (tRet (tVar 2)))) tNext) (tSeq (tAsg (tOp xAdd (tOp (rIxL K) (tVar 0) (tC (.int 3))) (tC (.int 1))) (gSub (tVar 0) (tC (.int 3)) rSetL)) (tSeq (tAsg (tC (.int 0)) (gName 3)) (C8.tCut (tIfS (tTest (tOp xGt (tCB (xLen K) (tCons (tOp (rIxL K) (tVar 0) (tC (.int 1))) tNil)) (tC (.int 0)))) (tAsg (tOp (rIxL K) (tOp (rIxL K) (tVar 0) (tC (.int 1))) (tOp xMod (tCB xInt (tCons (tOp (rIxL K) (tVar 0) (tC (.int 3))) tNil)) (tCB (xLen K) (tCons (tOp (rIxL K) (tVar 0) (tC (.int 1))) tNil)))) (gName 3)) tNext) (tSeq (tAsg (tOp xMod (tCB xInt (tCons (tOp xMul (tOp xAdd (tOp xAdd (tVar 3) (tOp xMul (tC (.int 7919)) (tOp (rIxL K) (tVar 0) (tC (.int 3))))) (tC (.int 1))) (tC (.int 48271))) tNil)) (tC (.int 2147483647))) (gName 4)) (tSeq (tAsg (tOp xMod (tCB xInt (tCons (tOp xMul (tVar 4) (tOp xAdd (tOp xDiv (tVar 4) (tC (.int 1009))) (tC (.int 69621)))) tNil)) (tC (.int 2147483647))) (gName 4)) (tSeq (tAsg (tOp xMod (tCB xInt (tCons (tOp xMul (tVar 4) (tOp xAdd (tOp xDiv (tVar 4) (tC (.int 2003))) (tC (.int 40692)))) tNil)) (tC (.int 2147483399))) (gName 4)) (tRet (tOp xMod (tCB xInt (tCons (tOp xDiv (tVar 4) (tC (.int 16))) tNil)) (tVar 1)))))))))))


theorem Af.keep {H : Hp} {p q a : Addr} {o u : HO} (h : Pool H p) (n : H q = none) (f : Af H p a o) : Af (L2.upd H q u) p a o := Mo.upd h n a o f
theorem Af.mo {H H' : Hp} {p a : Addr} {o : HO} (m : Mo p H H') (f : Af H p a o) : Af H' p a o := m a o f
/-! ### a == b by an own __eq__ that tells a bool -/
def rEqOwn (K : PySem.W.Frag) (C : Addr) (sp : Sp) (E : XK) : R2 := fun x y H Q => ∃ (a dx : Addr) (fs : List (Str × V)) (t : Value), x = .ref a ∧ H a = some (.ins C dx fs) ∧ TyX K H y t ∧ PySem.W.notFirst K C t = true ∧
  sp [x, y] H (fun v H' => ∃ k, v = .bl k ∧ Q v H') E
section
variable {X : Cx} {CX : CXT} {C f : Addr} {fd : FuncData} {ps : List Str} {sp : Sp} {E : XK} {n : Nat}
theorem op_eqOwn (F : FnOk X.prog X.w X.K X.mg X.base CX n f fd ps sp) (hr : Room n X.A)
    (hs : PySem.W.findIn X.K (.ref C) "__eq__" = some (some (.ref f))) (hf : PySem.W.isFn X.K (.ref f) = true) (hb : Binds X.K fd ps []) (hx : Passes CX X E) : OpR X (compareOp .Eq) (rEqOwn X.K C sp E) := by
  intro pins s σ H x y u v Q I rx ry d
  obtain ⟨a, dx, fs, t, rfl, ha, ty, hn, hsp⟩ := d
  cases rx
  obtain ⟨mA, J, _⟩ := ins_get I.hok ha
  obtain ⟨od, J, _⟩ := J.look
  obtain ⟨P, Z, p, _⟩ := kit_of I ry ty
  obtain ⟨m, hF⟩ := I.fr
  show wpAny (model X.prog X.w) X.A (richCompare .Eq (.ref a) v) (EP X pins σ Q) X.xe s
  refine PySem.W.cmp_K (op := .Eq) (tb := t) hr.units0 hF I.ok.mod.kin J (Z.ty _ _ I.kIn p) hn hs hf ?_
  have e0 : Env0 X.prog X.w X.K X.mg X.base X.A X.stack s H := I.env0
  have hl := F.len _ _ _ _ hsp
  have r2 : Vals [V.ref a, y] [Value.ref a, v] := .cons rfl (.cons ry .nil)
  refine wpAny_call (codeAny_mono (F.run X.A X.stack s H ⟨[.ref a, v], []⟩ [.ref a, v] [.ref a, y] _ E hr e0 (by
    have := hb s [.ref a, v] I.kIn (by simpa using hl)
    simpa using this) r2 hsp) fun r s' hq => ?_)
  cases r with
  | error e => exact hx pins σ H s e s' I hq
  | ok fl =>
    cases fl with
    | ret w =>
      obtain ⟨z, H', I', rz, k, ez, q⟩ := I.after hq
      subst ez
      cases rz
      exact ⟨.bl k, H', I', rfl, q⟩
    | next => exact False.elim hq
    | brk => exact False.elim hq
    | cont => exact False.elim hq
end
/-! ### exceptions with fields -/
/-- what an exception's class must say, so that isinstance asks its instances rightly -/
structure XCls (K : PySem.W.Frag) (D : Addr) : Prop where
  cl : (PySem.W.clsIn K D).isSome = true
  ga : PySem.W.findIn K (.ref D) "__getattribute__" = some (some (.builtin "BaseException.__getattribute__"))
  gt : PySem.W.findIn K (.ref D) "__getattr__" = some none
  be : PySem.W.subIn K (.ref D) (.type "BaseException") = some true
  hd : PySem.W.hasDictIn K D = true
  ha : PySem.W.findIn K (.ref D) "__class__" = some (some (.builtin "object.__class__"))
  hn : PySem.W.specialIn K (.builtin "object.__class__") "__get__" = some (some (.builtin "getset_descriptor.__get__"))
  ht : PySem.W.takesIn K (.builtin "object.__class__") = some true
  hm : PySem.W.mroIn K D (.type "object") = some true
theorem XCls.xf {K : PySem.W.Frag} {D : Addr} (h : XCls K D) : XfC K D := ⟨h.ga, h.gt, h.be, h.hd⟩
/-- isinstance(e, c) within the suite that holds e -/
def rIsX (K : PySem.W.Frag) (cls : Value) (d : Option Addr) (a : Addr) : List V → Hp → VK → Prop := fun xs H Q => ∃ (c : V) (cv : Value) (b : Bool) (D dd : Addr) (fs : List (Str × V)),
  xs = [.ref a, c] ∧ cls = .ref D ∧ d = some dd ∧ H dd = some (.xd fs) ∧ XCls K D ∧ ClsV c cv ∧ PySem.W.kitOne K (.ref D) cv = some b ∧ Q (.bl b) H
theorem call_isX {X : Cx} {a : Addr} {oe : Obj} {cls : Value} {d : Option Addr} {pn : List (Addr × Obj)} (hz : Zc cls d oe) (hf : ∃ vs, oe.data = .fields vs) : CallR (X.suite a ((a, oe) :: pn)) (.builtin "isinstance") (rIsX X.K cls d a) := by
  intro pins s σ H xs us Q I r h
  obtain ⟨c, cv, b, D, dd, fs, rfl, rfl, rfl, ed, T, hc, e, q⟩ := h
  obtain ⟨u1, u2, rfl, r1, r2⟩ := vals2 r
  obtain rfl : u1 = Value.ref a := r1
  have e2 := hc.eq r2
  subst e2
  obtain ⟨hget, _⟩ := I.pin (a, oe) (List.mem_append.mpr (.inl List.mem_cons_self))
  obtain ⟨vs, hv⟩ := hf
  obtain ⟨mA, hns, _⟩ := (show ObjOk X.prog X.w H s.heap dd (.xd fs) from I.hok dd _ ed)
  obtain ⟨od, ho, _⟩ := lookIn_ns hns
  have J : PySem.W.InstAt s.heap a oe D (some od) := ⟨hget, hz.1, by unfold PySem.W.notCls; rw [hv] <;> rfl, by rw [hz.2]; exact ho⟩
  exact PySem.W.kia_one (PySem.W.kitx_exc T.cl T.ga T.gt T.be T.ha T.hn T.ht T.hm) I.kIn J e (fun z => nomatch z) fun tk => ⟨.bl b, H, I.kept (t' := tk) fun _ _ z => z, rfl, q⟩
/-- C(e, ..) where what __init__ raises is wished for at the caller's slots -/
def tMakeS (C : Addr) (sp : Sp) (E : L2.St → XK) (t : TA) : TE := fun σ H Q => t σ H fun vs H1 => ∀ x dx, H1 x = none → H1 dx = none → dx ≠ x →
  sp (.ref x :: vs) (upd (upd H1 dx (.own x)) x (.ins C dx [])) (fun v H2 => v = .non ∧ Q (.ref x) H2) (E σ)
section
variable {X : Cx} {CX : CXT} {k : Nat} {f C : Addr} {fd : FuncData} {ps : List Str} {sp : Sp} {E : L2.St → XK} {x : Str} {p pos : Pos} {e : Expr} {es : List Expr} {t : TA}
theorem pe_makeS (M : Mk X.K C f) (F : FnOk X.prog X.w X.K X.mg X.base CX k f fd ps sp) (hr : Room (k + 1) X.A) (hg : Gl X x) (hm : X.mg x = some (.ref C)) (hb : Binds X.K fd ps []) (hx : ∀ σ, PassesAt CX X σ (E σ)) (ha : PA X (e :: es) t)
    (hdb : (x == ("__debug__" : Str)) = false := by decide) (he : starEach (e :: es) X.env = (false, eval e X.env) :: starEach es X.env := by rfl) (hpl : (backTo pos (starEach es X.env)).any (·.1) = false := by rfl) :
    PE X (.Call (.Name x p) (e :: es) [] pos) (tMakeS C sp E t) := by
  refine ⟨fun pins s σ H Q I h => ?_⟩
  refine wpAny_Call_Name_kw (ld_glob I hg hm ?_ hdb)
  refine PySem.W.callWith_K (h₀ := X.base) I.ok.mod.kin M.kp (thn (ha.run pos pins s σ H _ I h) fun us s1 ⟨vs, H1, I1, r, q⟩ => ⟨I1.kIn, ?_⟩) he hpl
  have hq := q (s1.heap.objs.size + 1) s1.heap.objs.size (I1.hok.fresh (Nat.le_succ _)) (I1.hok.fresh (Nat.le_refl _)) (Nat.ne_of_lt (Nat.lt_succ_self _))
  have I2 := Inv.made (C := C) I1
  have r2 : Vals (V.ref (s1.heap.objs.size + 1) :: vs) (Value.ref (s1.heap.objs.size + 1) :: us) := .cons rfl r
  have hl : (Value.ref (s1.heap.objs.size + 1) :: us).length = ps.length := r2.length.symm.trans (F.len _ _ _ _ hq)
  have hbd := hb _ (Value.ref (s1.heap.objs.size + 1) :: us) I2.kIn (by simpa using hl)
  rw [List.append_nil] at hbd
  refine wpAny_call (make_map (f := f) I1.kIn M.makes M.init (beq_iff_eq.mp M.fn) (codeAny_mono (F.run _ X.stack _ _ ⟨_, []⟩ _ _ _ (E σ) (hr.make C us []) (I2.env0.make C us []) hbd r2 hq) fun r s' hq' => ?_))
  cases r with
  | error e => exact hx σ pins _ _ e s' I2 hq'
  | ok fl =>
    cases fl with
    | ret u =>
      obtain ⟨v, H', I3, rv, ev, q3⟩ := I2.after hq'
      subst ev
      exact ⟨rv, ⟨V.ref (s1.heap.objs.size + 1), H', I3, rfl, q3⟩⟩
    | next => exact False.elim hq'
    | brk => exact False.elim hq'
    | cont => exact False.elim hq'
end
theorem v_makeS {C : Addr} {sp : Sp} {E : L2.St → XK} {t : TA} {σ : L2.St} {H : Hp} {Q : VK} (h : t σ H fun vs H1 => ∀ x dx, H1 x = none → H1 dx = none → dx ≠ x →
  sp (.ref x :: vs) (upd (upd H1 dx (.own x)) x (.ins C dx [])) (fun v H2 => v = .non ∧ Q (.ref x) H2) (E σ)) : tMakeS C sp E t σ H Q := h
theorem v_make {C : Addr} {sp : Sp} {E : XK} {t : TA} {dvs : List V} {σ : L2.St} {H : Hp} {Q : VK} (h : t σ H fun vs H1 => ∀ x dx, H1 x = none → H1 dx = none → dx ≠ x →
  sp (.ref x :: (vs ++ dvs)) (upd (upd H1 dx (.own x)) x (.ins C dx [])) (fun v H2 => v = .non ∧ Q (.ref x) H2) E) : tMake C sp dvs E t σ H Q := h
theorem v_xf {a : Addr} {cls : Value} {d : Option Addr} {C : Addr} {f : Str} {te : TE} {σ : L2.St} {H : Hp} {Q : VK} (h : te σ H fun x H1 => x = .ref a ∧ cls = .ref C ∧ ∃ (dd : Addr) (fs : List (Str × V)) (v : V), d = some dd ∧ H1 dd = some (.xd fs) ∧ fs.lookup f = some v ∧ Q v H1) : tXf a cls d C f te σ H Q := h
/-- __init__ of an error that keeps one thing as f -/
def spX1 (C : Addr) (f : Str) : Sp := fun vs H Q _ => ∃ (a : Addr) (y : V), vs = [.ref a, y] ∧ H a = some (exo a C none) ∧ ∀ dx, H dx = none → dx ≠ a → Q .non (upd (upd H dx (exd dx [(f, y)])) a (exo a C (some dx)))
theorem len_x1 {C : Addr} {f : Str} {vs : List V} {H : Hp} {Q : VK} {E : XK} (h : spX1 C f vs H Q E) : vs.length = 2 := by
  obtain ⟨a, y, rfl, _⟩ := h
  rfl
def wE (E : XK) : WX := fun cls d _ H => E cls d H
/-- raise C(e, ..) -/
def tRaiseO (C : Addr) (sp : Sp) (ta : TA) (W : WX) : TS := fun _ σ H => tMkO C sp [] ta σ H fun cls d H' => W cls d σ H'
section
variable {K : PySem.W.Frag} {σ : L2.St} {H : Hp} {te : TE} {C : Addr} {f : Str} {W : WX} {D : Ends}
def RaiseK (C : Addr) (sp : Sp) (vs : List V) (W : WX) (σ : L2.St) (H : Hp) : Prop := vs.length ≤ 1000 ∧ ∀ a, H a = none → sp (.ref a :: (vs ++ [])) (upd H a (exo a C none))
  (fun v H2 => v = .non ∧ ∃ (d : Addr) (fs : List (Str × V)), H2 a = some (exo a C (some d)) ∧ H2 d = some (exd d fs) ∧ H d = none ∧ W (.ref C) (some d) σ (upd (del H2 a) d (.xd fs))) (fun _ _ _ => False)
theorem v_raiseO {sp : Sp} {ta : TA} (h : ta σ H fun vs H1 => RaiseK C sp vs W σ H1) : tRaiseO C sp ta W D σ H := h
theorem v_raise1 {y : V} (h : ∀ d, H d = none → W (.ref C) (some d) σ (upd H d (.xd [(f, y)]))) : RaiseK C (spX1 C f) [y] W σ H := by
  refine ⟨by show 1 ≤ 1000; decide, fun a na => ?_⟩
  refine ⟨a, y, rfl, upd_same, fun dx nd ne => ⟨rfl, dx, _, upd_same, by rw [upd_ne ne, upd_same], by rw [upd_ne ne] at nd; exact nd, ?_⟩⟩
  have nd1 : H dx = none := by rw [upd_ne ne] at nd; exact nd
  have e : upd (del (upd (upd (upd H a (exo a C none)) dx (exd dx [(f, y)])) a (exo a C (some dx))) a) dx (.xd [(f, y)]) = upd H dx (.xd [(f, y)]) := by
    funext b
    by_cases h1 : b = dx
    · rw [h1, upd_same, upd_same]
    · rw [upd_ne h1, upd_ne h1]
      by_cases h2 : b = a
      · rw [h2, del_same, na]
      · rw [del_ne h2, upd_ne h2, upd_ne h1, upd_ne h2]
  rw [e]
  exact h dx nd1
theorem pure_x1 (T : OexC K C) (hn : PySem.W.findIn K (.ref C) f = some none) {vs : List V} {H : Hp} {Q : VK} {E : XK} {N : List Str} (h : spX1 C f vs H Q E) (hN : N.length = 2) : tOst K f (tVar 0) (tVar 1) { nx := fun _ H' => Q .non H', rt := Q } (start N vs) H := by
  obtain ⟨a, y, rfl, e, q⟩ := h
  have es : start N [.ref a, y] = [some (.ref a), some y] := by
    unfold L2.start
    rw [hN]
    rfl
  rw [es]
  exact ⟨y, rfl, .ref a, rfl, a, C, rfl, T, hn, .inl ⟨e, q⟩⟩
end
/-- raise C(), C without fields -/
def tRaise0 (cls : Value) (W : WX) : TS := fun _ σ H => W cls none σ H
/-! ### kinds of things -/
/-- what a thing is: the name of its built-in class -/
inductive Kind (H : Hp) : V → String → Prop where
  | non : Kind H .non "NoneType"
  | bl (b : Bool) : Kind H (.bl b) "bool"
  | int (i : Int) : Kind H (.int i) "int"
  | str (s : Str) : Kind H (.str s) "str"
  | lst {a : Addr} {xs : List V} (h : H a = some (.lst xs)) : Kind H (.ref a) "list"
  | tup {a : Addr} {xs : List V} (h : H a = some (.tup xs)) : Kind H (.ref a) "tuple"
  | dK {a : Addr} {kvs : List (Key × V)} (h : H a = some (.dK kvs)) : Kind H (.ref a) "dict"
  | dF {a : Addr} {o : Obj} {kvs : List (Key × V)} (h : H a = some (.frz o (.dK kvs))) : Kind H (.ref a) "dict"
theorem Kind.tyx {K : PySem.W.Frag} {H : Hp} {x : V} {s : String} (h : Kind H x s) : TyX K H x (.type s) := by
  cases h with
  | non => exact .base .non
  | bl b => exact .base (.bl b)
  | int i => exact .base (.int i)
  | str z => exact .base (.str z)
  | lst h => exact .base (.lst h)
  | tup h => exact .base (.tup h)
  | dK h => exact .base (.dK h)
  | dF h => exact .fDict h
theorem Kind.same {H H' : Hp} {x : V} {s : String} (h : Kind H x s) (e : Same H H') : Kind H' x s := by
  cases h with
  | non => exact .non
  | bl b => exact .bl b
  | int i => exact .int i
  | str z => exact .str z
  | lst h => exact .lst (e _ _ h)
  | tup h => exact .tup (e _ _ h)
  | dK h => exact .dK (e _ _ h)
  | dF h => exact .dF (e _ _ h)
/-- isinstance's answers for these -/
def isA (s T : String) : Bool := (s == T) || (s == "bool" && T == "int")
theorem kit_kind {K : PySem.W.Frag} {H : Hp} {x : V} {s T : String} (h : Kind H x s) (hT : T = "int" ∨ T = "bool" ∨ T = "tuple" ∨ T = "list" ∨ T = "dict" ∨ T = "str") : PySem.W.kitOne K (.type s) (.type T) = some (isA s T) := by
  cases h <;> (rcases hT with rfl | rfl | rfl | rfl | rfl | rfl <;> exact kit_ty (by decide +kernel))
section
variable {K : PySem.W.Frag} {H : Hp} {Q : VK} {x : V} {s T : String} {tp : Addr}
theorem v_isi (h : Kind H x s) (hT : T = "int" ∨ T = "bool" ∨ T = "tuple" ∨ T = "list" ∨ T = "dict" ∨ T = "str") (q : Q (.bl (isA s T)) H) : rIsi K [x, .ty T] H Q :=
  ⟨x, .ty T, .type s, .type T, _, rfl, .ty T, h.tyx, kit_kind h hT, q⟩
theorem v_isiT {S T : String} (h : Kind H x s) (ht : H tp = some (.tup [.ty S, .ty T])) (hS : S = "int" ∨ S = "bool" ∨ S = "tuple" ∨ S = "list" ∨ S = "dict" ∨ S = "str") (hT : T = "int" ∨ T = "bool" ∨ T = "tuple" ∨ T = "list" ∨ T = "dict" ∨ T = "str")
    (q : Q (.bl (isA s S || isA s T)) H) : rIsiT K [x, .ref tp] H Q := by
  refine ⟨x, tp, [.ty S, .ty T], .type s, [.type S, .type T], _, rfl, ht, .cons (.ty S) (.cons (.ty T) .nil), h.tyx, ?_, q⟩
  refine kitAny_cons (kit_kind h hS) (fun e => kitAny_cons (kit_kind h hT) (fun e' => ?_) fun e' => ?_) fun e => ?_
  · rw [e, e']; exact kitAny_nil
  · rw [e, e']; rfl
  · rw [e]; rfl
end
/-! ### classes of the program -/
/-- what is known of an own class, so that isinstance tells -/
structure OwnC (K : PySem.W.Frag) (C : Addr) : Prop where
  ic : C8.InsC K C
  kt : ∀ s : String, s = "NoneType" ∨ s = "bool" ∨ s = "int" ∨ s = "str" ∨ s = "list" ∨ s = "tuple" ∨ s = "dict" → PySem.W.kitOne K (.type s) (.ref C) = some false ∧ PySem.W.notFirst K C (.type s) = true
theorem Kind.name {H : Hp} {x : V} {s : String} (h : Kind H x s) : s = "NoneType" ∨ s = "bool" ∨ s = "int" ∨ s = "str" ∨ s = "list" ∨ s = "tuple" ∨ s = "dict" := by cases h <;> simp
theorem OwnC.tyx {K : PySem.W.Frag} {C : Addr} (h : OwnC K C) {H : Hp} {a dx : Addr} {fs : List (Str × V)} (e : H a = some (.ins C dx fs)) : TyX K H (.ref a) (.ref C) := .base (.ins e h.ic.cl h.ic.ha h.ic.hn h.ic.htk h.ic.hm)
section
variable {K : PySem.W.Frag} {H : Hp} {Q : VK} {x : V} {s : String} {a dx C : Addr} {fs : List (Str × V)} {f : Str} {v : V}
/-- isinstance(x, C), x of a built-in kind -/
theorem v_isiK (o : OwnC K C) (h : Kind H x s) (q : Q (.bl false) H) : rIsi K [x, .ref C] H Q := ⟨x, .ref C, .type s, .ref C, false, rfl, .own C, h.tyx, (o.kt s h.name).1, q⟩
/-- .. x an instance of it -/
theorem v_isiO (o : OwnC K C) (h : H a = some (.ins C dx fs)) (q : Q (.bl true) H) : rIsi K [.ref a, .ref C] H Q := ⟨.ref a, .ref C, .ref C, .ref C, true, rfl, .own C, o.tyx h, o.ic.me, q⟩
def FldK (K : PySem.W.Frag) (f : Str) (x : V) (H : Hp) (Q : VK) : Prop := ∃ a C dx fs v, x = .ref a ∧ H a = some (.ins C dx fs) ∧ Cls K C ∧ NoAttr K C f ∧ fs.lookup f = some v ∧ Q v H
theorem v_fld {ta : TE} {σ : L2.St} (h : ta σ H fun x H1 => FldK K f x H1 Q) : tFld K ta f σ H Q := h
theorem v_fldK (o : OwnC K C) (nf : NoAttr K C f) (h : H a = some (.ins C dx fs)) (l : fs.lookup f = some v) (q : Q v H) : FldK K f (.ref a) H Q := ⟨a, C, dx, fs, v, rfl, h, o.ic.cl, nf, l, q⟩
def StK (K : PySem.W.Frag) (f : Str) (x y : V) (H : Hp) (R : Hp → Prop) : Prop := ∃ a C dx fs, x = .ref a ∧ H a = some (.ins C dx fs) ∧ Cls K C ∧ NoAttr K C f ∧ fs.length < 1000 ∧ R (upd H a (.ins C dx (putF f y fs)))
theorem v_stf {ta tv : TE} {σ : L2.St} {D : Ends} (h : tv σ H fun y H1 => ta σ H1 fun x H2 => StK K f x y H2 fun H3 => D.nx σ H3) : sFld K ta tv f D σ H := h
theorem v_stK {y : V} {R : Hp → Prop} (o : OwnC K C) (nf : NoAttr K C f) (h : H a = some (.ins C dx fs)) (l : fs.length < 1000) (q : R (upd H a (.ins C dx (putF f y fs)))) : StK K f (.ref a) y H R := ⟨a, C, dx, fs, rfl, h, o.ic.cl, nf, l, q⟩
end
/-! ### things in a heap with a pool -/
/-- a thing whose kind stays whatever is drawn -/
def AK (H : Hp) (p : Addr) : V → Prop
  | .non => True
  | .bl _ => True
  | .int _ => True
  | .str _ => True
  | .ref a => (∃ xs, Af H p a (.lst xs)) ∨ (∃ xs, Af H p a (.tup xs)) ∨ ∃ kvs, Af H p a (.dK kvs)
  | _ => False
theorem AK.mo {H H' : Hp} {p : Addr} {x : V} (h : AK H p x) (m : Mo p H H') : AK H' p x := by
  cases x with
  | ref a =>
    rcases h with ⟨xs, h⟩ | ⟨xs, h⟩ | ⟨xs, h⟩
    · exact .inl ⟨xs, m _ _ h⟩
    · exact .inr (.inl ⟨xs, m _ _ h⟩)
    · exact .inr (.inr ⟨xs, m _ _ h⟩)
  | byt b => exact h.elim
  | flt b => exact h.elim
  | ty b => exact h.elim
  | _ => trivial
theorem AK.kind {H : Hp} {p : Addr} {x : V} (h : AK H p x) : ∃ s, Kind H x s := by
  cases x with
  | non => exact ⟨_, .non⟩
  | bl b => exact ⟨_, .bl b⟩
  | int i => exact ⟨_, .int i⟩
  | str z => exact ⟨_, .str z⟩
  | ref a =>
    rcases h with ⟨xs, h⟩ | ⟨xs, h⟩ | ⟨xs, h⟩
    · exact ⟨_, .lst h.1⟩
    · exact ⟨_, .tup h.1⟩
    · exact ⟨_, .dK h.1⟩
  | byt b => exact h.elim
  | flt b => exact h.elim
  | ty b => exact h.elim
local macro_rules | `(tactic| walk_at "pl") => `(tactic| first
  | assumption
  | ((with_reducible refine' Pool.upd ?k1 ?k2); (case k2 => assumption); (case k1 => walk_at "pl")))
local macro_rules | `(tactic| walk_at "af") => `(tactic| first
  | assumption
  | ((with_reducible refine' Af.upd ?k1 ?k2); (case k2 => assumption); (case k1 => walk_at "pl"))
  | ((with_reducible refine' Af.keep ?k1 ?k2 ?k3); (case k2 => assumption); (case k1 => walk_at "pl"); (case k3 => walk_at "af"))
  | ((with_reducible refine' Af.mo (by assumption) ?_); walk_at "af"))
local macro_rules | `(tactic| walk_at "ne") => `(tactic| first | assumption | (refine Ne.symm ?_; assumption))
local macro_rules | `(tactic| walk_at "hp") => `(tactic| first
  | assumption
  | exact upd_same
  | ((with_reducible refine' upd_get (by assumption) ?_); walk_at "hp")
  | ((with_reducible refine' upd_at ?k1 ?_); (case k1 => walk_at "ne"); walk_at "hp"))
local macro_rules | `(tactic| walk_at "vc1") => `(tactic| first
  | (with_reducible refine' v_seq ?_)
  | (with_reducible refine' v_asg ?_)
  | ((with_reducible refine' v_var ?k1 ?_); (case k1 => exact rfl))
  | (with_reducible refine' v_c ?_)
  | (with_reducible refine' v_op ?_)
  | (with_reducible refine' v_I0 ?_)
  | (with_reducible refine' v_name ?_)
  | (with_reducible refine' v_cons ?_)
  | (with_reducible refine' v_nil ?_)
  | (with_reducible refine' v_cb ?_)
  | (with_reducible refine' v_int ?_)
  | (with_reducible refine' v_abs ?_)
  | (with_reducible refine' v_ifs ?_)
  | (with_reducible refine' v_test ?_)
  | (with_reducible refine' v_B ?_)
  | (with_reducible refine' v_bl ?_)
  | (with_reducible refine' v_and ?_)
  | (with_reducible refine' v_or ?_)
  | (with_reducible refine' v_not ?_)
  | (with_reducible refine' v_eqI ?_)
  | (with_reducible refine' v_neI ?_)
  | (with_reducible refine' v_ret ?_)
  | (with_reducible refine' v_retN ?_)
  | (with_reducible refine' v_next ?_)
  | (with_reducible refine' v_drop ?_)
  | (with_reducible refine' v_call ?_)
  | (with_reducible refine' v_sub ?_)
  | (with_reducible refine' v_lst ?_)
  | (with_reducible refine' v_tup ?_)
  | (with_reducible refine' v_sl ?_)
  | (with_reducible refine' v_nopart ?_)
  | (with_reducible refine' v_part ?_)
  | (with_reducible refine' v_partI ?_)
  | (with_reducible refine' v_if ?_)
  | (with_reducible refine' v_chain ?_)
  | (with_reducible refine' v_andV ?_)
  | (with_reducible refine' v_orV ?_)
  | (with_reducible refine' v_notV ?_)
  | (with_reducible refine' v_un ?_)
  | (with_reducible refine' v_U ?_)
  | (with_reducible refine' v_isN ?_)
  | (with_reducible refine' v_notN ?_)
  | (with_reducible refine' v_eqB ?_)
  | (with_reducible refine' v_neB ?_)
  | (with_reducible refine' v_yes ?_)
  | (with_reducible refine' v_dnew ?_)
  | (with_reducible refine' v_iteT ?_)
  | (with_reducible refine' v_iteF ?_)
  | (with_reducible refine' v_iteNT ?_)
  | (with_reducible refine' v_iteNF ?_)
  | (with_reducible refine' v_for ?_)
  | (with_reducible refine' v_lc ?_)
  | (with_reducible refine' v_iR1 ?_)
  | (with_reducible refine' v_iR2 ?_)
  | (with_reducible refine' v_iL ?_)
  | (with_reducible refine' v_iT ?_)
  | (with_reducible refine' v_bm ?_)
  | (with_reducible refine' v_bm0 ?_)
  | (with_reducible refine' v_tRg2 ?_)
  | (with_reducible refine' v_tRg1 ?_)
  | (with_reducible refine' v_rg2e ?_)
  | (with_reducible refine' v_rg1e ?_)
  | (with_reducible refine' v_lstRg ?_)
  | (with_reducible refine' v_tupRg ?_)
  | ((with_reducible refine' v_bmL ?k1 ?_); (case k1 => walk_at "hp"))
  | ((with_reducible refine' v_bm0L ?k1 ?_); (case k1 => walk_at "hp"))
  | (with_reducible refine' v_fld ?_)
  | (with_reducible refine' v_makeS ?_)
  | (with_reducible refine' v_make ?_)
  | (with_reducible refine' v_xf ?_)
  | (with_reducible refine' v_stf ?_)
  | (with_reducible refine' v_raiseO ?_)
  | (with_reducible refine' v_raise0 ?_)
  | (with_reducible refine' v_callS ?_)
  | (with_reducible refine' v_par ?_)
  | (with_reducible refine' v_parK ?_)
  | ((with_reducible refine' v_ixL' ?k1 ?k2 ?_); (case k1 => walk_at "hp"); (case k2 => exact rfl))
  | ((with_reducible refine' v_ixT' ?k1 ?k2 ?_); (case k1 => walk_at "hp"); (case k2 => exact rfl))
  | ((with_reducible refine' v_setL ?k1 ?k2 ?_); (case k1 => walk_at "hp"); (case k2 => exact rfl))
  | ((with_reducible refine' v_lenL' ?k1 ?_); (case k1 => walk_at "hp"))
  | ((with_reducible refine' v_lenT' ?k1 ?_); (case k1 => walk_at "hp"))
  | ((with_reducible refine' v_bound ?k1 ?_); (case k1 => (first | decide | omega | (simp only [List.length_cons, List.length_nil]; omega)))))
local macro_rules | `(tactic| walk_at "vc") => `(tactic| repeat (walk_at "vc1"))
/-! ### the draw -/
section
variable {K : PySem.W.Frag}
theorem v_slL' {H : Hp} {Q : VK} {a : Addr} {xs : List V} {lo hi : Option Int} (h : H a = some (.lst xs)) (q : ∀ p, H p = none → Q (.ref p) (upd H p (.lst (cutV xs lo hi)))) : rSlL K (.ref a) lo hi H Q := v_slL (SqL.of h) q
theorem cut1 (xs : List V) : cutV xs (some 1) none = xs.drop 1 := by
  unfold cutV
  rw [show HT.sIx xs.length 0 (some 1) = min 1 xs.length from HT.sIx_nat xs.length 0 1, HT.sIx_none]
  cases xs with
  | nil => rfl
  | cons x r =>
    rw [show min 1 (x :: r).length = 1 by
      rw [List.length_cons]
      omega]
    show (List.take ((x :: r).length - 1) r) = r
    rw [List.length_cons, Nat.add_sub_cancel]
    exact List.take_length
theorem pure_l_draw {vs : List V} {H : Hp} {Q : VK} {E : XK} (h : spDraw vs H Q E) : t_l_draw K { nx := fun _ H' => Q .non H', rt := Q } (start ["_law_pool_here", "_law_many_here", "_law_digit", "_law_cell", "_law_number"] vs) H := by
  obtain ⟨p, m, rfl, hp, h1, h2, q⟩ := h
  unfold t_l_draw
  refine v_cut (fun σ' H' => σ' = [some (.ref p), some (.int m), none, none, none] ∧ Pool H' p ∧ Mo p H H') ?_ ?_
  · obtain ⟨g, s, gs, ss, x, y, hP, hG, hS, ng, ns, lg, ls⟩ := hp
    have hp : Pool H p := ⟨g, s, gs, ss, x, y, hP, hG, hS, ng, ns, lg, ls⟩
    walk_at "vc"
    refine v_ite (fun hx => ?_) (fun hx => ?_)
    · walk_at "vc"
      refine v_ite (fun hl => ?_) (fun hl => ?_)
      · obtain ⟨n, gs', rfl⟩ : ∃ n gs', gs = n :: gs' := by
          cases gs with
          | nil => exact absurd hl (by simp)
          | cons n r => exact ⟨n, r, rfl⟩
        walk_at "vc"
        refine v_ixL' hG (atI_nat (j := 0) rfl) ?_
        walk_at "vc"
        refine v_slL' (by walk_at "hp") fun g' ng' => ?_
        walk_at "vc"
        have npp : g' ≠ p := fun z => by rw [z, upd_same] at ng'; cases ng'
        have npg : g' ≠ g := fun z => by rw [z, upd_ne ng, hG] at ng'; cases ng'
        have nps : g' ≠ s := fun z => by rw [z, upd_ne ns, hS] at ng'; cases ng'
        have hP' : (upd (upd (upd H p (.lst [.ref g, .ref s, .int n, .int y])) g' (.lst (cutV (List.map V.int (n :: gs')) (some 1) none))) p (.lst [.ref g', .ref s, .int n, .int y])) p = some (.lst [.ref g', .ref s, .int n, .int y]) := upd_same
        refine ⟨rfl, ⟨g', s, gs', ss, n, y, hP', ?_, ?_, npp, ns, ?_, ls⟩, ⟨fun b o hb => ?_, fun b e => (upd_none (upd_none (upd_none e).2).2).2⟩⟩
        · rw [upd_ne npp, upd_same, cut1]; rfl
        · rw [upd_ne ns, upd_ne nps.symm, upd_ne ns]; exact hS
        · rw [List.length_cons] at lg; omega
        · have hn := hb.2
          rw [owned_pool hP] at hn
          have nb : b ≠ g' := fun z => by
            have e := hb.1
            have ng'' := ng'
            rw [upd_ne npp, ← z, e] at ng''
            cases ng''
          refine ⟨?_, ?_⟩
          · rw [upd_ne (fun z => hn (.inl z)), upd_ne nb, upd_ne (fun z => hn (.inl z))]; exact hb.1
          · refine fun ow => ?_
            rcases (owned_pool hP').mp ow with z | z | z
            · exact hn (.inl z)
            · exact nb z
            · exact hn (.inr (.inr z))
      · walk_at "vc"
        exact ⟨rfl, hp, .refl _ _⟩
    · walk_at "vc"
      exact ⟨rfl, hp, .refl _ _⟩
  · rintro σ' H1 ⟨rfl, hp1, m1⟩
    obtain ⟨g, s, gs, ss, x, y, hP, hG, hS, ng, ns, lg, ls⟩ := hp1
    have hp1 : Pool H1 p := ⟨g, s, gs, ss, x, y, hP, hG, hS, ng, ns, lg, ls⟩
    have ch : ∀ x' y' : Int, Pool (upd H1 p (.lst [.ref g, .ref s, .int x', .int y'])) p ∧ Mo p H (upd H1 p (.lst [.ref g, .ref s, .int x', .int y'])) := fun x' y' => by
      refine ⟨⟨g, s, gs, ss, x', y', upd_same, by rw [upd_ne ng]; exact hG, by rw [upd_ne ns]; exact hS, ng, ns, lg, ls⟩, m1.trans ⟨fun b o hb => ?_, fun b e => (upd_none e).2⟩⟩
      have hn := hb.2
      rw [owned_pool hP] at hn
      refine ⟨by rw [upd_ne (fun z => hn (.inl z))]; exact hb.1, ?_⟩
      rw [owned_pool upd_same]
      exact hn
    walk_at "vc"
    refine v_ite (fun hx => ?_) (fun hx => ?_)
    · walk_at "vc"
      refine v_I (by show (0 : Int) < m; omega) ?_
      walk_at "vc"
      refine v_I (by show m ≠ 0 ∧ m.natAbs < 1073741824; omega) ?_
      walk_at "vc"
      exact q _ _ (Int.emod_nonneg _ (by omega)) (Int.emod_lt_of_pos _ (by omega)) (ch _ _).1 (ch _ _).2
    · walk_at "vc"
      refine v_cut (fun σ' H' => ∃ c : Int, σ' = [some (.ref p), some (.int m), none, some (.int c), none] ∧ H' = upd H1 p (.lst [.ref g, .ref s, .int x, .int (y + 1)])) ?_ ?_
      · walk_at "vc"
        refine v_ite (fun hl => ?_) (fun hl => ?_)
        · walk_at "vc"
          have hlen : (0 : Int) < ((ss.map V.int).length : Nat) := hl
          refine v_I hlen ?_
          have hlt : ((y + 1) % ((ss.map V.int).length : Nat)).toNat < ss.length := by
            have e1 := Int.emod_nonneg (y + 1) (b := ((ss.map V.int).length : Nat)) (by omega)
            have e2 := Int.emod_lt_of_pos (y + 1) hlen
            rw [List.length_map] at e1 e2 ⊢
            omega
          refine v_ixL' (v := .int ss[((y + 1) % ((ss.map V.int).length : Nat)).toNat]) (by walk_at "hp") (at_of (j := ((y + 1) % ((ss.map V.int).length : Nat)).toNat) (by
            have e1 := Int.emod_nonneg (y + 1) (b := ((ss.map V.int).length : Nat)) (by omega)
            omega) ?_) ?_
          · rw [List.getElem?_map, List.getElem?_eq_getElem hlt]; rfl
          · walk_at "vc"
            exact ⟨_, rfl, rfl⟩
        · walk_at "vc"
          exact ⟨_, rfl, rfl⟩
      · rintro σ' H2 ⟨c, rfl, rfl⟩
        walk_at "vc"
        refine v_I (.inl (by decide)) ?_
        walk_at "vc"
        refine v_I (.inr (by decide)) ?_
        walk_at "vc"
        refine v_I (by first | exact ⟨by decide, by decide⟩ | decide) ?_
        walk_at "vc"
        generalize hz : (c + 7919 * (y + 1) + 1) * 48271 % 2147483647 = z
        have z0 := Int.emod_nonneg ((c + 7919 * (y + 1) + 1) * 48271) (b := 2147483647) (by decide)
        have z1 := Int.emod_lt_of_pos ((c + 7919 * (y + 1) + 1) * 48271) (b := 2147483647) (by decide)
        rw [hz] at z0 z1
        refine v_I (by first | exact ⟨by decide, by decide⟩ | decide) ?_
        walk_at "vc"
        refine v_I (.inl (by omega)) ?_
        walk_at "vc"
        refine v_I (by first | exact ⟨by decide, by decide⟩ | decide) ?_
        walk_at "vc"
        generalize hu : z * (z.fdiv 1009 + 69621) % 2147483647 = u
        have u0 := Int.emod_nonneg (z * (z.fdiv 1009 + 69621)) (b := 2147483647) (by decide)
        have u1 := Int.emod_lt_of_pos (z * (z.fdiv 1009 + 69621)) (b := 2147483647) (by decide)
        rw [hu] at u0 u1
        refine v_I (by first | exact ⟨by decide, by decide⟩ | decide) ?_
        walk_at "vc"
        refine v_I (.inl (by omega)) ?_
        walk_at "vc"
        refine v_I (by first | exact ⟨by decide, by decide⟩ | decide) ?_
        walk_at "vc"
        refine v_I (by first | exact ⟨by decide, by decide⟩ | decide) ?_
        walk_at "vc"
        refine v_I (by show (0 : Int) < m; omega) ?_
        walk_at "vc"
        exact q _ _ (Int.emod_nonneg _ (by omega)) (Int.emod_lt_of_pos _ (by omega)) (ch _ _).1 (ch _ _).2
/-! ### the pool's making -/
theorem take_snoc {α : Type} : ∀ {l : List α} {i : Nat} {x : α}, l[i]? = some x → l.take (i + 1) = l.take i ++ [x]
  | [], i, x, h => by simp at h
  | a :: l, 0, x, h => by
    have e : a = x := Option.some.inj h
    subst e
    rfl
  | a :: l, i + 1, x, h => by
    have ih := take_snoc (l := l) (i := i) (x := x) h
    show a :: l.take (i + 1) = a :: l.take i ++ [x]
    rw [ih]
    rfl
theorem cut_map (ns : List Int) (lo hi : Option Int) : ∃ ms : List Int, cutV (ns.map V.int) lo hi = ms.map V.int ∧ ms.length ≤ ns.length := by
  unfold cutV
  refine ⟨(ns.drop (HT.sIx (ns.map V.int).length 0 lo)).take (HT.sIx (ns.map V.int).length (ns.map V.int).length hi - HT.sIx (ns.map V.int).length 0 lo), ?_, ?_⟩
  · rw [List.map_take, List.map_drop]
  · rw [List.length_take, List.length_drop]
    omega
theorem map_get {ns : List Int} {i : Nat} {x : V} (h : (ns.map V.int)[i]? = some x) : ∃ n : Int, x = .int n := by
  rw [List.getElem?_map] at h
  cases e : ns[i]? with
  | none => rw [e] at h; cases h
  | some z => rw [e] at h; exact ⟨z, (Option.some.inj h).symm⟩
theorem pure_l_pool {vs : List V} {H : Hp} {Q : VK} {E : XK} (h : spPool K vs H Q E) : t_l_pool K { nx := fun _ H' => Q .non H', rt := Q } (start ["_law_script", "_law_great", "_law_small", "_law_cell"] vs) H := by
  obtain ⟨a, ns, rfl, hS, hl, q⟩ := h
  unfold t_l_pool
  walk_at "vc"
  obtain ⟨ms, em, hml⟩ := cut_map ns none (some 63)


  walk_at "vc"
  refine v_slL hS fun l nl => ?_
  refine ⟨l, rfl, ⟨_, SqL.of upd_same⟩, fun D nD => ?_⟩
  have s1 : Same H (upd H l (.lst (cutV (ns.map V.int) none (some 63)))) := same_upd nl
  have hl1 : (upd H l (.lst (cutV (ns.map V.int) none (some 63)))) l = some (.lst (cutV (ns.map V.int) none (some 63))) := upd_same
  generalize upd H l (.lst (cutV (ns.map V.int) none (some 63))) = H1 at *
  rw [em] at hl1
  refine lc_list (xs := ms.map V.int) (fun i H' => ∃ acc : List Int, H' D = some (.lst (acc.map V.int)) ∧ acc.length ≤ i ∧ Same H1 H') ⟨[], upd_same, Nat.le_refl _, same_upd nD⟩ (fun i H' _ ⟨_, _, _, s⟩ => SqL.of (s _ _ hl1)) ?_ ?_
  · rintro i x H2 hx ⟨acc, hacc, hal, s2⟩
    obtain ⟨n, rfl⟩ := map_get hx
    have hi : i < ms.length := by
      have := (List.getElem?_eq_some_iff.mp hx).1
      rw [List.length_map] at this
      exact this
    walk_at "vc"
    refine ⟨rfl, ?_⟩
    walk_at "vc"
    refine v_I ⟨by decide, by decide, by decide⟩ ?_
    walk_at "vc"
    refine v_ite (fun c => ?_) (fun c => ?_)
    · walk_at "vc"
      refine ⟨_, hacc, by rw [List.length_map]; exact small1000 (by omega), acc ++ [if n < 0 then -n else n], by rw [upd_same, List.map_append]; rfl, by rw [List.length_append]; show acc.length + 1 ≤ i + 1; omega, fun b o e => ?_⟩
      rw [upd_ne (ne_of_none e nD)]
      exact s2 _ _ e
    · exact ⟨acc, hacc, by omega, s2⟩
  · rintro H2 ⟨gs, hgs, hgl, s2⟩
    rw [List.length_map] at hgl
    walk_at "vc"


    walk_at "vc"
    refine v_slL ((s1.trans s2).seq hS) fun l2 nl2 => ?_
    refine ⟨l2, rfl, ⟨_, SqL.of upd_same⟩, fun D2 nD2 => ?_⟩
    have hg3 : (upd H2 l2 (.lst (cutV (ns.map V.int) none (some 63)))) D = some (.lst (gs.map V.int)) := by walk_at "hp"
    have hl3 : (upd H2 l2 (.lst (cutV (ns.map V.int) none (some 63)))) l2 = some (.lst (cutV (ns.map V.int) none (some 63))) := upd_same
    generalize upd H2 l2 (.lst (cutV (ns.map V.int) none (some 63))) = H3 at *
    rw [em] at hl3
    refine lc_list (xs := ms.map V.int) (fun i H' => ∃ acc : List Int, H' D2 = some (.lst (acc.map V.int)) ∧ acc.length ≤ i ∧ Same H3 H') ⟨[], upd_same, Nat.le_refl _, same_upd nD2⟩ (fun i H' _ ⟨_, _, _, s⟩ => SqL.of (s _ _ hl3)) ?_ ?_
    · rintro i x H4 hx ⟨acc, hacc, hal, s4⟩
      obtain ⟨n, rfl⟩ := map_get hx
      have hi : i < ms.length := by
        have := (List.getElem?_eq_some_iff.mp hx).1
        rw [List.length_map] at this
        exact this
      walk_at "vc"
      refine ⟨rfl, ?_⟩
      walk_at "vc"
      refine v_I ⟨by decide, by decide, by decide⟩ ?_
      walk_at "vc"
      refine v_ite (fun c => ?_) (fun c => ?_)
      · walk_at "vc"
        refine v_I (by decide) ?_
        refine ⟨_, hacc, by rw [List.length_map]; exact small1000 (by omega), acc ++ [n % 1000003], by rw [upd_same, List.map_append]; rfl, by rw [List.length_append]; show acc.length + 1 ≤ i + 1; omega, fun b o e => ?_⟩
        rw [upd_ne (ne_of_none e nD2)]
        exact s4 _ _ e
      · exact ⟨acc, hacc, by omega, s4⟩
    · rintro H4 ⟨ss, hss, hsl, s4⟩
      rw [List.length_map] at hsl
      walk_at "vc"
      intro p np
      have hg4 := s4 _ _ hg3
      refine q p _ ⟨D, D2, gs, ss, 0, 0, upd_same, by walk_at "hp", by walk_at "hp", fun z => ?_, fun z => ?_, by omega, by omega⟩
      · rw [z, np] at hg4; cases hg4
      · rw [z, np] at hss; cases hss
end

/-! ### trees: the mathematics -/
theorem pigeon : ∀ (n : Nat) (f : Nat → Nat), (∀ k, k ≤ n → f k < n) → ∃ i j, i < j ∧ j ≤ n ∧ f i = f j
  | 0, f, h => absurd (h 0 (Nat.le_refl _)) (by omega)
  | n + 1, f, h => by
    by_cases e : ∃ i, i ≤ n ∧ f i = f (n + 1)
    · obtain ⟨i, hi, e⟩ := e
      exact ⟨i, n + 1, by omega, Nat.le_refl _, e⟩
    · have ne : ∀ i, i ≤ n → f i ≠ f (n + 1) := fun i hi z => e ⟨i, hi, z⟩
      have hl := h (n + 1) (Nat.le_refl _)
      obtain ⟨i, j, hij, hj, g⟩ := pigeon n (fun k => if f k = n then f (n + 1) else f k) fun k hk => by
        have h1 := h k (by omega)
        have h2 := ne k hk
        by_cases q : f k = n
        · simp only [q, if_true]; omega
        · simp only [q, if_false]; omega
      refine ⟨i, j, hij, by omega, ?_⟩
      have h1 := ne i (by omega)
      have h2 := ne j hj
      by_cases q1 : f i = n
      · by_cases q2 : f j = n
        · rw [q1, q2]
        · simp only [q1, q2, if_true, if_false] at g
          exact absurd g.symm h2
      · by_cases q2 : f j = n
        · simp only [q1, q2, if_true, if_false] at g
          exact absurd g h1
        · simp only [q1, q2, if_false] at g
          exact g
/-- one step up; many -/
def stp (hs : List Int) (h : Int) : Int := if h = 0 then 0 else hs.getD (h.toNat - 1) 0
def up (hs : List Int) : Nat → Int → Int
  | 0, h => h
  | k + 1, h => up hs k (stp hs h)
theorem up_add (hs : List Int) : ∀ (a b : Nat) (h : Int), up hs (a + b) h = up hs b (up hs a h)
  | 0, b, h => by rw [Nat.zero_add]; rfl
  | a + 1, b, h => by
    rw [show a + 1 + b = (a + b) + 1 by omega]
    exact up_add hs a b (stp hs h)
theorem up_succ (hs : List Int) (k : Nat) (h : Int) : up hs (k + 1) h = stp hs (up hs k h) := up_add hs k 1 h
theorem up_zero (hs : List Int) : ∀ k : Nat, up hs k 0 = 0
  | 0 => rfl
  | k + 1 => up_zero hs k
theorem up_past {hs : List Int} {i j : Nat} {h : Int} (e : up hs i h = 0) (l : i ≤ j) : up hs j h = 0 := by
  rw [show j = i + (j - i) by omega, up_add, e, up_zero]
/-- all are places -/
def Pls (hs : List Int) : Prop := ∀ h ∈ hs, 0 ≤ h ∧ h ≤ hs.length
theorem Pls.at {hs : List Int} (p : Pls hs) (i : Nat) : 0 ≤ hs.getD i 0 ∧ hs.getD i 0 ≤ hs.length := by
  by_cases hi : i < hs.length
  · rw [List.getD_eq_getElem?_getD, List.getElem?_eq_getElem hi]
    exact p _ (List.getElem_mem hi)
  · rw [List.getD_eq_getElem?_getD, List.getElem?_eq_none (by omega)]
    exact ⟨Int.le_refl _, Int.natCast_nonneg _⟩
theorem up_in {hs : List Int} (p : Pls hs) : ∀ (k : Nat) (h : Int), 0 ≤ h → h ≤ hs.length → 0 ≤ up hs k h ∧ up hs k h ≤ hs.length
  | 0, h, a, b => ⟨a, b⟩
  | k + 1, h, a, b => by
    refine up_in p k (stp hs h) ?_ ?_
    · unfold stp
      split
      · exact Int.le_refl _
      · exact (p.at _).1
    · unfold stp
      split
      · exact Int.natCast_nonneg _
      · exact (p.at _).2
def leads (hs : List Int) (b : Int) : Bool := (List.range (hs.length + 1)).any fun k => decide (up hs k b = 0)
theorem leads_true {hs : List Int} {b : Int} {k : Nat} (hk : k ≤ hs.length) (e : up hs k b = 0) : leads hs b = true :=
  List.any_eq_true.mpr ⟨k, List.mem_range.mpr (by omega), decide_eq_true e⟩
theorem leads_false {hs : List Int} {b : Int} (h : ∀ k, k ≤ hs.length → up hs k b ≠ 0) : leads hs b = false := by
  cases e : leads hs b with
  | false => rfl
  | true =>
    obtain ⟨k, hk, q⟩ := List.any_eq_true.mp e
    exact absurd (of_decide_eq_true q) (h k (by have := List.mem_range.mp hk; omega))
theorem of_leads {hs : List Int} {b : Int} (h : leads hs b = true) : ∃ k, k ≤ hs.length ∧ up hs k b = 0 := by
  obtain ⟨k, hk, q⟩ := List.any_eq_true.mp h
  exact ⟨k, by have := List.mem_range.mp hk; omega, of_decide_eq_true q⟩
/-- one turn more tells nothing new -/
theorem leads_iff {hs : List Int} (p : Pls hs) {b : Int} (h0 : 0 ≤ b) (h1 : b ≤ hs.length) : leads hs b = decide (up hs (hs.length + 1) b = 0) := by
  by_cases e : up hs (hs.length + 1) b = 0
  · rw [decide_eq_true e]
    by_cases q : ∃ k, k ≤ hs.length ∧ up hs k b = 0
    · obtain ⟨k, hk, q⟩ := q
      exact leads_true hk q
    · exfalso
      have nz : ∀ k, k ≤ hs.length → up hs k b ≠ 0 := fun k hk z => q ⟨k, hk, z⟩
      obtain ⟨i, j, hij, hj, g⟩ := pigeon hs.length (fun k => (up hs k b).toNat - 1) fun k hk => by
        have := up_in p k b h0 h1
        have := nz k hk
        omega
      have e1 : up hs i b = up hs j b := by
        have := up_in p i b h0 h1
        have := up_in p j b h0 h1
        have := nz i (by omega)
        have := nz j hj
        have g' : (up hs i b).toNat - 1 = (up hs j b).toNat - 1 := g
        omega
      refine nz (i + (hs.length + 1 - j)) (by omega) ?_
      rw [up_add, e1, ← up_add, show j + (hs.length + 1 - j) = hs.length + 1 by omega]
      exact e
  · rw [decide_eq_false e]
    exact leads_false fun k hk z => e (up_past z (by omega))

/-! ### what is due for a thing -/
inductive Part where
  | hung
  | blk (k : Nat)
  | ring (k : Nat)
def badAt (xs : List V) (k : Nat) : Bool := match xs[k]? with
  | some (.int i) => !(decide (0 ≤ i ∧ i ≤ xs.length)) || decide (i = k + 1)
  | _ => true
def nums (xs : List V) : List Int := xs.map fun x => match x with
  | .int i => i
  | _ => 0
theorem nums_map (ns : List Int) : nums (ns.map V.int) = ns := by
  unfold nums
  rw [List.map_map]
  exact List.map_id' ns
def partT (xs : List V) : Option Part := if xs.length = 0 ∨ 40 < xs.length then some .hung else match (List.range xs.length).find? (badAt xs) with
  | some k => some (.blk (k + 1))
  | none => match (List.range xs.length).find? (fun (k : Nat) => !leads (nums xs) ((k : Int) + 1)) with
    | some k => some (.ring (k + 1))
    | none => none
theorem find_first {n k : Nat} {f : Nat → Bool} (hk : k < n) (h : f k = true) (l : ∀ j, j < k → f j = false) : (List.range n).find? f = some k := by
  rw [List.find?_range_eq_some]
  exact ⟨h, List.mem_range.mpr hk, fun j hj => by rw [l j hj]; rfl⟩
theorem find_no {n : Nat} {f : Nat → Bool} (l : ∀ j, j < n → f j = false) : (List.range n).find? f = none := by
  rw [List.find?_eq_none]
  intro j hj
  rw [l j (List.mem_range.mp hj)]
  exact Bool.false_ne_true
theorem partT_hung {xs : List V} (h : xs.length = 0 ∨ 40 < xs.length) : partT xs = some .hung := if_pos h
theorem partT_blk {xs : List V} {k : Nat} (h : ¬ (xs.length = 0 ∨ 40 < xs.length)) (hk : k < xs.length) (b : badAt xs k = true) (l : ∀ j, j < k → badAt xs j = false) : partT xs = some (.blk (k + 1)) := by
  unfold partT
  rw [if_neg h, find_first hk b l]
theorem partT_ring {xs : List V} {k : Nat} (h : ¬ (xs.length = 0 ∨ 40 < xs.length)) (g : ∀ j, j < xs.length → badAt xs j = false) (hk : k < xs.length) (b : leads (nums xs) (k + 1) = false) (l : ∀ j : Nat, j < k → leads (nums xs) (j + 1) = true) : partT xs = some (.ring (k + 1)) := by
  unfold partT
  rw [if_neg h, find_no g, find_first hk (by rw [b]; rfl) fun j hj => by rw [l j hj]; rfl]
theorem partT_none {xs : List V} (h : ¬ (xs.length = 0 ∨ 40 < xs.length)) (g : ∀ j, j < xs.length → badAt xs j = false) (l : ∀ j : Nat, j < xs.length → leads (nums xs) (j + 1) = true) : partT xs = none := by
  unfold partT
  rw [if_neg h, find_no g, find_no fun j hj => by rw [l j hj]; rfl]
/-- items of which none is bad are places -/
theorem good_nums {xs : List V} (g : ∀ j, j < xs.length → badAt xs j = false) : xs = (nums xs).map V.int ∧ Pls (nums xs) ∧ (nums xs).length = xs.length := by
  have hl : (nums xs).length = xs.length := List.length_map _
  have at_ : ∀ (j : Nat) (x : V), xs[j]? = some x → ∃ i : Int, x = .int i ∧ 0 ≤ i ∧ i ≤ xs.length ∧ i ≠ j + 1 := fun j x e => by
    have q := g j (List.getElem?_eq_some_iff.mp e).1
    unfold badAt at q
    rw [e] at q
    cases x with
    | int i =>
      simp only [Bool.or_eq_false_iff, Bool.not_eq_false', decide_eq_true_eq, decide_eq_false_iff_not] at q
      exact ⟨i, rfl, q.1.1, q.1.2, q.2⟩
    | _ => exact absurd q (by simp)
  refine ⟨?_, ?_, hl⟩
  · refine List.ext_getElem? fun j => ?_
    unfold nums
    rw [List.map_map, List.getElem?_map]
    cases e : xs[j]? with
    | none => rfl
    | some x =>
      obtain ⟨i, rfl, _⟩ := at_ j x e
      rfl
  · intro h hm
    rw [hl]
    unfold nums at hm
    obtain ⟨x, hx, e⟩ := List.mem_map.mp hm
    obtain ⟨j, hj⟩ := List.mem_iff_getElem?.mp hx
    obtain ⟨i, rfl, h0, h1, _⟩ := at_ j x hj
    have e' : i = h := e
    exact ⟨by omega, by omega⟩
/-- a tree's row: places, none the block's own, each leads home -/
def IsTree (hs : List Int) : Prop := 1 ≤ hs.length ∧ hs.length ≤ 40 ∧ Pls hs ∧ (∀ (k : Nat) (h : Int), hs[k]? = some h → h ≠ k + 1) ∧ ∀ b : Nat, b < hs.length → leads hs (b + 1) = true
theorem IsTree.part {hs : List Int} (t : IsTree hs) : partT (hs.map V.int) = none := by
  obtain ⟨h1, h2, p, ns, l⟩ := t
  have hl : (hs.map V.int).length = hs.length := List.length_map _
  refine partT_none (by rw [hl]; omega) (fun j hj => ?_) fun j hj => ?_
  · rw [hl] at hj
    unfold badAt
    rw [List.getElem?_map, List.getElem?_eq_getElem hj, hl]
    have q := p _ (List.getElem_mem hj)
    have n := ns j _ (List.getElem?_eq_getElem hj)
    show (!decide (0 ≤ hs[j] ∧ hs[j] ≤ (hs.length : Int)) || decide (hs[j] = (j : Int) + 1)) = false
    rw [decide_eq_true q, decide_eq_false n]
    rfl
  · rw [hl] at hj
    rw [nums_map]
    exact l j hj

theorem partT_inv {xs : List V} (h : partT xs = none) : ∃ hs : List Int, xs = hs.map V.int ∧ IsTree hs := by
  unfold partT at h
  split at h
  · cases h
  · rename_i hl
    split at h
    · cases h
    · rename_i hf
      split at h
      · cases h
      · rename_i hg
        have g : ∀ j, j < xs.length → badAt xs j = false := fun j hj => by
          have := List.find?_eq_none.mp hf j (List.mem_range.mpr hj)
          simpa using this
        obtain ⟨en, pl, ln⟩ := good_nums g
        refine ⟨nums xs, en, by omega, by omega, pl, fun k z hk => ?_, fun b hb => ?_⟩
        · have hk' : k < xs.length := by rw [← ln]; exact (List.getElem?_eq_some_iff.mp hk).1
          have q := g k hk'
          unfold badAt at q
          rw [en, List.getElem?_map, hk] at q
          have q' : (!decide (0 ≤ z ∧ z ≤ ((((nums xs).map V.int).length : Nat) : Int)) || decide (z = (k : Int) + 1)) = false := q
          simp only [Bool.or_eq_false_iff, decide_eq_false_iff_not] at q'
          exact q'.2
        · have := List.find?_eq_none.mp hg b (List.mem_range.mpr (by omega))
          simpa using this
/-! ### things and parts in a heap -/
def Thing (H : Hp) (x : V) (r : Option Part) : Prop := (∃ s, Kind H x s ∧ s ≠ "tuple" ∧ r = some .hung) ∨ ∃ (a : Addr) (xs : List V), x = .ref a ∧ H a = some (.tup xs) ∧ (∀ y ∈ xs, ∃ s, Kind H y s) ∧ r = partT xs
def Enc (H : Hp) (x : V) : Option Part → Prop
  | none => x = .non
  | some .hung => x = .str "hung"
  | some (.blk k) => x = .int k
  | some (.ring k) => ∃ t, x = .ref t ∧ H t = some (.tup [.str "ring", .int k])
theorem Thing.same {H H' : Hp} {x : V} {r : Option Part} (h : Thing H x r) (e : Same H H') : Thing H' x r := by
  rcases h with ⟨s, k, n, q⟩ | ⟨a, xs, q, ha, k, z⟩
  · exact .inl ⟨s, k.same e, n, q⟩
  · exact .inr ⟨a, xs, q, e _ _ ha, fun y hy => let ⟨s, h⟩ := k y hy; ⟨s, h.same e⟩, z⟩
theorem Enc.same {H H' : Hp} {x : V} {r : Option Part} (h : Enc H x r) (e : Same H H') : Enc H' x r := by
  cases r with
  | none => exact h
  | some p =>
    cases p with
    | hung => exact h
    | blk k => exact h
    | ring k =>
      obtain ⟨t, q, ht⟩ := h
      exact ⟨t, q, e _ _ ht⟩

/-! ### X(), X an own exception class without own __init__ -/
section
variable {X : Cx}
theorem pmk_own0 {C : Addr} {bmB : List Value} {B newId initId : String} {x : Str} {p pos : Pos} (F : ExcBaseFacts B newId initId bmB) (q : PySem.W.excIn X.K C bmB newId = true) (gC : X.mg x = some (.ref C)) (kC : PySem.W.keepIn X.K (.ref C) = true) (r : Raises X (.ref C)) (hg : Gl X x)
    (hdb : (x == ("__debug__" : Str)) = false := by decide) : PMk X (.Call (.Name x p) [] [] pos) (fun _ H Q => Q (.ref C) none H) := by
  intro pins s σ H Q I h
  refine wpAny_Call_Name_kw (ld_glob I hg gC ?_ hdb)
  refine PySem.W.callWith_K0 I.kIn kC ?_
  show wpAny _ _ (call (.ref C) []) _ _ _
  obtain ⟨bm, N, nm, qn, bs, hdct, sn, sub, ab, col, dd, k0, k1, k2, k3, k5, mN, hC, hN, hni, T⟩ := exc_obj I.kIn q
  obtain ⟨hp1, g1, d1, tk1, os1⟩ := s
  refine wpAny_call_exc_subT F T hC hN hni (fun h' e hm => ?_) (Nat.zero_le _)
  exact mk_of I hm r h (I.hok.gone hm.new)
end
/-! ### a != b by an own __eq__ -/
theorem ns_some {K : PySem.W.Frag} {h : Heap} {N : Addr} {mg : Str → Option Value} {n : Str} {v : Value} (X : K.In h) (G : h.Ns N mg) (q : PySem.W.nsIn K N n = some (some v)) : mg n = some v := by
  obtain ⟨ob, ents, ep, hob, hdat, _, hfind⟩ := G
  unfold PySem.W.nsIn at q
  split at q
  · rename_i hl
    have e1 := X _ _ hl
    rw [hob] at e1
    cases e1
    cases hdat
    split at q
    · rename_i hx
      cases q
      rw [← hfind]
      unfold nsFind findBy
      rw [← Array.find?_toList, hx]
      rfl
    · split at q <;> cases q
  · cases q
structure NeC (K : PySem.W.Frag) (C f : Addr) : Prop where
  cls : ∃ nm q N bs sn sub ab col dd k0 k1 k2 k3 k5 hdct newId, K.lookup C = some (excClassObj nm q C N bs [.type "object"] hdct sn sub ab col dd k0 k1 k2 k3 k5 newId) ∧ PySem.W.nsOkIn K N = true ∧ PySem.W.nsIn K N "__eq__" = some (some (.ref f)) ∧ PySem.W.nsIn K N "__ne__" = some none
  fn : ∃ of, K.lookup f = some of ∧ of.cls = .type "function"
def rNeOwn (K : PySem.W.Frag) (C : Addr) (sp : Sp) (E : XK) : R2 := fun x y H Q => ∃ (a b dx dy : Addr) (fs gs : List (Str × V)), x = .ref a ∧ y = .ref b ∧ H a = some (.ins C dx fs) ∧ H b = some (.ins C dy gs) ∧
  sp [x, y] H (fun v H' => ∃ k, v = .bl k ∧ Q (.bl (!k)) H') E
section
variable {X : Cx} {CX : CXT} {C f : Addr} {fd : FuncData} {ps : List Str} {sp : Sp} {E : XK} {n : Nat}
theorem op_neOwn (F : FnOk X.prog X.w X.K X.mg X.base CX n f fd ps sp) (hr : Room (n + 1) X.A) (N : NeC X.K C f) (hb : Binds X.K fd ps []) (hx : Passes CX X E) : OpR X (compareOp .NotEq) (rNeOwn X.K C sp E) := by
  intro pins s σ H x y u v Q I rx ry d
  obtain ⟨a, b, dx, dy, fs, gs, rfl, rfl, ha, hb', hsp⟩ := d
  cases rx
  cases ry
  obtain ⟨⟨nm, q, Nn, bs, sn, sub, ab, col, dd, k0, k1, k2, k3, k5, hdct, newId, hC, hN, he, hne⟩, ⟨of, hof, hofc⟩⟩ := N
  obtain ⟨mA, J, _⟩ := ins_get I.hok ha
  obtain ⟨oda, Ja, _⟩ := J.look
  obtain ⟨mB, J2, _⟩ := ins_get I.hok hb'
  obtain ⟨odb, Jb, _⟩ := J2.look
  have hu := hr.units
  have e0 : Env0 X.prog X.w X.K X.mg X.base X.A.in1 X.stack s H := I.env0.in1
  have hl := F.len _ _ _ _ hsp
  have r2 : Vals [V.ref a, V.ref b] [Value.ref a, Value.ref b] := .cons rfl (.cons rfl .nil)
  have hcall : wpAny (model X.prog X.w) X.A.in1 (call (.ref f) [.ref a, .ref b]) (fun v s' => ∃ b, v = .bool b ∧ EP X pins σ Q (.bool (!b)) s') X.xe s :=
    wpAny_call (codeAny_mono (F.run X.A.in1 X.stack s H ⟨[.ref a, .ref b], []⟩ [.ref a, .ref b] [.ref a, .ref b] _ E hr.in1 e0 (by
      have := hb s [.ref a, .ref b] I.kIn (by simpa using hl)
      simpa using this) r2 hsp) fun r s' hq => by
    cases r with
    | error e => exact hx pins σ H s e s' I hq
    | ok fl =>
      cases fl with
      | ret w =>
        obtain ⟨z, H', I', rz, k, ez, q⟩ := I.after hq
        subst ez
        cases rz
        exact ⟨k, rfl, .bl (!k), H', I', rfl, q⟩
      | next => exact False.elim hq
      | brk => exact False.elim hq
      | cont => exact False.elim hq)
  obtain ⟨hp1, g1, d1, tk1, os1⟩ := s
  have X1 : hp1.OwnEqNoNe a C f "object" [.type "object"] := by
    refine ⟨_, of, nm, q, Nn, bs, hdct, sn, sub, ab, col, dd, k0, k1, k2, k3, k5, newId, hp1.nsMap Nn, _, Ja.1, Ja.cls, I.kIn _ _ hC, .of_isNs (PySem.W.isNs_of_in I.kIn hN), ns_some I.kIn (.of_isNs (PySem.W.isNs_of_in I.kIn hN)) he, I.kIn _ _ hof, hofc, PySem.F.cmp_object.mro, PySem.F.cmp_object.eq.lookup, PySem.W.nsMap_none_of_in I.kIn hN hne⟩
  exact compareOp_ne_ownEq PySem.F.cmp_object X1 Jb.1 Jb.cls (by omega) hcall
end
/-! ### tuple.index of whole numbers -/
def rTIndexI (K : PySem.W.Frag) : V → List V → Hp → VK → Prop := fun x xs H Q => ∃ (p : Addr) (ys : List Int) (z : Int) (j : Nat), x = .ref p ∧ xs = [.int z] ∧ SqT K H p (ys.map V.int) ∧ ys[j]? = some z ∧ (∀ m, m < j → ys[m]? ≠ some z) ∧ Q (.int (j : Nat)) H
theorem flat_ints (ys : List Int) : (ys.map V.int).all flatV = true := by
  rw [List.all_map]
  exact List.all_eq_true.mpr fun _ _ => rfl
section
variable {X : Cx}
theorem mt_tup_indexI : MtR X "tuple.index" (rTIndexI X.K) := by
  intro pins s σ H x xs v us Q I rx rs h
  obtain ⟨p, ys, z, j, rfl, rfl, hq, hy, hno, q⟩ := h
  cases rx
  obtain ⟨u, rfl, t, rfl⟩ := vals1 rs
  obtain ⟨its, r, pl, hz⟩ := I.tuple hq
  obtain ⟨⟨cls, dd, dt, sl⟩, ho, hc, n, hd⟩ := pl
  simp only at hc hd
  subst hc
  subst hd
  have hl : its.toArray.size = ys.length := by rw [List.size_toArray, ← r.length, List.length_map]
  have hj : j < its.toArray.size := by rw [hl]; exact (List.getElem?_eq_some_iff.mp hy).1
  have at' : ∀ (m : Nat) (hm : m < its.toArray.size), ∃ y t', ys[m]? = some y ∧ its.toArray[m] = Value.int y t' := fun m hm => by
    have hm' : m < ys.length := by rw [← hl]; exact hm
    obtain ⟨w, hw, t', hw'⟩ := r.get (i := m) (x := .int ys[m]) (by simp [hm'])
    refine ⟨ys[m], t', List.getElem?_eq_getElem hm', ?_⟩
    have e := (List.getElem?_eq_some_iff.mp hw).2
    rw [← hw', ← e]
    simp
  refine call_meets PySem.F.slot_tuple_index ⟨_, ho, rfl⟩ PySem.F.entry_tuple_index (PySem.F.args_tuple_index_2 _ _) (TI.tuple_indexAt p its.toArray n dd sl (.int z t) (eqU (.int z)) j hj ?_ ?_)
    ⟨ho, fun w hw => mem_eqAt (x := .int z) ⟨t, rfl⟩ rfl r (flat_ints ys) w (by simpa using hw), ⟨.int (j : Nat), H, I.tok _, ⟨_, rfl⟩, q⟩⟩
  · obtain ⟨y, t', h1, h2⟩ := at' j hj
    rw [hy] at h1
    cases h1
    rw [h2]
    show (z == z) = true
    exact beq_self_eq_true z
  · intro m hm hmj
    obtain ⟨y, t', h1, h2⟩ := at' m hm
    rw [h2]
    show (y == z) = false
    have e := hno m hmj
    rw [h1] at e
    have ne : y ≠ z := fun z' => e (by rw [z'])
    simpa using ne
end
/-! ### sorted(t), t a tuple of whole numbers -/
section
open PySem.W PyProof.Rows SrtO
variable {prog : Program} {w : World} {A : Around} {E : Value → Shared → Prop} {s : Shared}
theorem sorted_ordT {l : Addr} {vs : List Value} {ltv : Value → Value → Bool} {o : Obj} {n : Nat} {Q : Value → Shared → Prop} (O : Swo ltv) (ho : s.heap.get? l = some o) (hc : o.cls = .type "tuple") (hd : o.data = .seq vs.toArray n) (hz : vs.length ≤ sizeLine)
    (hS : 2 ≤ vs.length → ∀ (h₁ : Heap) (a : Addr), h₁.get? a = some (seqObj "list" vs.toArray 0) → SortableO prog w A.in1.in1 { s with heap := h₁ } a vs ltv)
    (h : ∀ (out : List Value) (h2 : Heap) (a : Addr) (e : Nat), Srtd ltv out → Stb ltv out vs → s.heap.get? a = none → (∀ b o', s.heap.get? b = some o' → h2.get? b = some o') → h2.get? a = some (seqObj "list" out.toArray e) → Q (.ref a) { s with heap := h2 }) :
    wpAny (model prog w) A (call (.builtin "sorted") [.ref l]) Q E s := by
  refine Calls.call_function_entry kind_sorted plain_sorted entry_sorted (args_sorted1 _) ?_
  unfold Builtin.«sorted»
  refine wpAny_bind (m := checkCount "sorted" 1 1 _) (wpAny_pure ?_)
  refine wpAny_bind (wpAny_collect_seq l (.inr rfl) ho hc hd (fun h1 k1 => ?_) (by rw [List.size_toArray]; exact hz))
  refine wpAny_bind (wpAny_newList ?_ hz)
  have hoL : (h1.push (seqObj "list" vs.toArray 0)).get? h1.objs.size = some (seqObj "list" vs.toArray 0) := Heap.get?_push_size _ rfl
  have nw : ∀ b o', s.heap.get? b = some o' → b ≠ h1.objs.size ∧ b < (h1.push (seqObj "list" vs.toArray 0)).objs.size ∧ (h1.push (seqObj "list" vs.toArray 0)).get? b = some o' := fun b o' q => by
    have hlt : b < h1.objs.size := Heap.lt_size (k1 b o' q)
    exact ⟨Nat.ne_of_lt hlt, by rw [size_push']; exact Nat.lt_succ_of_lt hlt, Heap.get?_push_of_some _ (k1 b o' q)⟩
  have fr : s.heap.get? h1.objs.size = none := by
    cases q : s.heap.get? h1.objs.size with
    | none => rfl
    | some o' => exact absurd rfl (nw _ _ q).1
  show wpAny _ _ _ _ _ { s with heap := h1.push (seqObj "list" vs.toArray 0) }
  refine wpAny_bind (wpAny_holding (wpAny_call_entry slot_list_sort ⟨_, hoL, rfl⟩ entry_list_sort (list_sort_ord O hoL hz (fun h2 => hS h2 _ _ hoL) fun out hs hb => ⟨_, rfl, ?_⟩) (args_list_sort _)))
  obtain ⟨e, he⟩ := sortedHeap_at (vs := vs) (out := out.toArray) hoL
  exact wpAny_pure ⟨_, rfl, h out _ _ e hs hb fr (fun b o' q => by rw [sortedHeap_old (nw b o' q).1 (nw b o' q).2.1]; exact (nw b o' q).2.2) he⟩
end
def rSortedT (K : PySem.W.Frag) : List V → Hp → VK → Prop := fun vs H Q => ∃ (a : Addr) (ns : List Int), vs = [V.ref a] ∧ SqT K H a (ns.map V.int) ∧
  ∀ (ns' : List Int) (p : Addr), ns'.Perm ns → ns'.Pairwise (· ≤ ·) → H p = none → Q (.ref p) (upd H p (.lst (ns'.map V.int)))
section
variable {X : Cx}
theorem cr_sortedT : CallR X (.builtin "sorted") (rSortedT X.K) := by
  intro pins s σ H vs us Q I r h
  obtain ⟨a, ns, rfl, hs, q⟩ := h
  obtain ⟨its, rv, ⟨o, ho, hc, n, hd⟩, hz⟩ := I.tuple hs
  rw [Vals.ref1 r]
  have hi := rv.ints
  refine sorted_ordT SrtO.swo_int ho hc hd (by rw [← rv.length]; exact hz) (fun h2 h₁ a' _ => SrtO.ints_sortable hi h2) fun out h2 p e h3 h4 fr k he' => ?_
  obtain ⟨k1, k2, k3⟩ := SrtO.ints_out hi h3 h4
  have hlen : ((out.map SrtO.iv).map V.int).length ≤ sizeLine := by
    rw [List.length_map, k2.length_eq]
    rw [List.length_map] at hz
    exact hz
  have hn : H p = none := I.hok.gone fr
  exact ⟨.ref _, upd H p (.lst ((out.map SrtO.iv).map V.int)), I.laidN (t' := s.toks) k fr hn ⟨hlen, out, e, vals_of_ints k1, he'⟩, rfl, q _ _ k2 k3 hn⟩
end

/-! ### ways up, blocks beneath -/
def way (hs : List Int) : Nat → Int → List Int
  | 0, _ => []
  | k + 1, h => if h = 0 then [] else stp hs h :: way hs k (stp hs h)
def wy (hs : List Int) (h : Int) : List Int := way hs hs.length h
theorem way_zero (hs : List Int) : ∀ k, way hs k 0 = []
  | 0 => rfl
  | k + 1 => if_pos rfl
theorem way_more {hs : List Int} : ∀ {k : Nat} {h : Int}, up hs k h = 0 → way hs (k + 1) h = way hs k h
  | 0, h, e => by
    have e' : h = 0 := e
    subst e'
    exact if_pos rfl
  | k + 1, h, e => by
    by_cases z : h = 0
    · subst z
      rw [way_zero, way_zero]
    · show (if h = 0 then [] else stp hs h :: way hs (k + 1) (stp hs h)) = (if h = 0 then [] else stp hs h :: way hs k (stp hs h))
      rw [if_neg z, if_neg z, way_more (k := k) e]
section
variable {hs : List Int} {c p h : Int}
theorem IsTree.up0 (t : IsTree hs) (h0 : 0 ≤ h) (h1 : h ≤ hs.length) : up hs hs.length h = 0 := by
  by_cases z : h = 0
  · rw [z, up_zero]
  · obtain ⟨k, hk, e⟩ := of_leads (t.2.2.2.2 (h.toNat - 1) (by omega))
    rw [show (((h.toNat - 1 : Nat) : Int) + 1) = h by omega] at e
    exact up_past e hk
theorem wy_zero : wy hs 0 = [] := way_zero ..
theorem wy_cons (t : IsTree hs) (h0 : 1 ≤ h) (h1 : h ≤ hs.length) : wy hs h = stp hs h :: wy hs (stp hs h) := by
  unfold wy
  rw [← way_more (t.up0 (by omega) h1)]
  show (if h = 0 then [] else _) = _
  rw [if_neg (by omega)]
theorem stp_in (p : Pls hs) (h : Int) : 0 ≤ stp hs h ∧ stp hs h ≤ hs.length := by
  unfold stp
  split
  · exact ⟨Int.le_refl _, Int.natCast_nonneg _⟩
  · exact p.at _
theorem stp_at {k : Nat} {z : Int} (h : hs[k]? = some z) : stp hs ((k : Int) + 1) = z := by
  unfold stp
  rw [if_neg (by omega), show (((k : Int) + 1).toNat - 1) = k by omega, List.getD_eq_getElem?_getD, h]
  rfl
theorem stp_get (h0 : 1 ≤ h) (h1 : h ≤ hs.length) : hs[h.toNat - 1]? = some (stp hs h) := by
  have hk : h.toNat - 1 < hs.length := by omega
  have := stp_at (List.getElem?_eq_getElem hk)
  rw [show (((h.toNat - 1 : Nat) : Int) + 1) = h by omega] at this
  rw [this, List.getElem?_eq_getElem hk]
theorem dep_stp (t : IsTree hs) (h0 : 1 ≤ h) (h1 : h ≤ hs.length) : (wy hs h).length = (wy hs (stp hs h)).length + 1 := by
  rw [wy_cons t h0 h1, List.length_cons]
/-- along the way up it is ever less deep -/
theorem dep_mem (t : IsTree hs) : ∀ (d : Nat) (c : Int), (wy hs c).length = d → 0 ≤ c → c ≤ hs.length → ∀ p, p ∈ wy hs c → (wy hs p).length < d ∧ 0 ≤ p ∧ p ≤ hs.length
  | 0, c, e, _, _, p, m => by rw [List.length_eq_zero_iff.mp e] at m; cases m
  | d + 1, c, e, h0, h1, p, m => by
    have nz : c ≠ 0 := fun z => by rw [z, wy_zero] at m; cases m
    have ds := dep_stp t (h := c) (by omega) h1
    have si := stp_in t.2.2.1 c
    rw [wy_cons t (by omega) h1] at m
    rcases List.mem_cons.mp m with z | m
    · rw [z]
      exact ⟨by omega, si⟩
    · have q := dep_mem t d (stp hs c) (by omega) si.1 si.2 p m
      exact ⟨by omega, q.2⟩
def blocks (n : Nat) : List Int := (List.range n).map fun (k : Nat) => (k : Int) + 1
theorem blocks_len (n : Nat) : (blocks n).length = n := by
  unfold blocks
  rw [List.length_map, List.length_range]
theorem blocks_succ (i : Nat) : blocks (i + 1) = blocks i ++ [(i : Int) + 1] := by
  unfold blocks
  rw [List.range_succ, List.map_append]
  rfl
theorem blocks_mem {n : Nat} : c ∈ blocks n ↔ 1 ≤ c ∧ c ≤ n := by
  unfold blocks
  rw [List.mem_map]
  constructor
  · rintro ⟨k, hk, rfl⟩
    have := List.mem_range.mp hk
    omega
  · rintro ⟨a, b⟩
    exact ⟨c.toNat - 1, List.mem_range.mpr (by omega), by omega⟩
theorem blocks_nodup (n : Nat) : (blocks n).Nodup := by
  unfold blocks
  refine List.Pairwise.map _ (fun a b h => ?_) List.nodup_range
  intro e
  exact h (by omega)
theorem blocks_sorted (n : Nat) : (blocks n).Pairwise (· < ·) := by
  unfold blocks
  refine List.Pairwise.map _ (fun a b h => ?_) List.pairwise_lt_range
  omega
/-- the first i blocks that hang at p -/
def hangN (hs : List Int) (p : Int) (i : Nat) : List Int := (blocks i).filter fun c => decide (stp hs c = p)
def hang (hs : List Int) (p : Int) : List Int := hangN hs p hs.length
/-- the first i blocks beneath p -/
def benN (hs : List Int) (p : Int) (i : Nat) : List Int := (blocks i).filter fun c => decide (p ∈ wy hs c)
def ben (hs : List Int) (p : Int) : List Int := benN hs p hs.length
theorem hangN_succ (i : Nat) : hangN hs p (i + 1) = hangN hs p i ++ if stp hs ((i : Int) + 1) = p then [(i : Int) + 1] else [] := by
  unfold hangN
  rw [blocks_succ, List.filter_append]
  congr 1
  show List.filter _ [(i : Int) + 1] = _
  by_cases e : stp hs ((i : Int) + 1) = p
  · rw [if_pos e]; simp [e]
  · rw [if_neg e]; simp [e]
theorem benN_succ (i : Nat) : benN hs p (i + 1) = benN hs p i ++ if p ∈ wy hs ((i : Int) + 1) then [(i : Int) + 1] else [] := by
  unfold benN
  rw [blocks_succ, List.filter_append]
  congr 1
  show List.filter _ [(i : Int) + 1] = _
  by_cases e : p ∈ wy hs ((i : Int) + 1)
  · rw [if_pos e]; simp [e]
  · rw [if_neg e]; simp [e]
theorem mem_hang : c ∈ hang hs p ↔ (1 ≤ c ∧ c ≤ hs.length) ∧ stp hs c = p := by
  unfold hang hangN
  rw [List.mem_filter, blocks_mem, decide_eq_true_eq]
theorem mem_ben : c ∈ ben hs p ↔ (1 ≤ c ∧ c ≤ hs.length) ∧ p ∈ wy hs c := by
  unfold ben benN
  rw [List.mem_filter, blocks_mem, decide_eq_true_eq]
theorem hang_nodup : (hang hs p).Nodup := (blocks_nodup _).filter _
theorem ben_nodup : (ben hs p).Nodup := (blocks_nodup _).filter _
theorem ben_sorted : (ben hs p).Pairwise (· < ·) := (blocks_sorted _).filter _
theorem hangN_len (i : Nat) : (hangN hs p i).length ≤ i := by
  refine Nat.le_trans (List.length_filter_le _ _) ?_
  rw [blocks_len]
  exact Nat.le_refl _
theorem benN_len (i : Nat) : (benN hs p i).length ≤ i := by
  refine Nat.le_trans (List.length_filter_le _ _) ?_
  rw [blocks_len]
  exact Nat.le_refl _
/-- the search for what is beneath p: F found, W waiting -/
structure Dfs (hs : List Int) (p : Int) (F W : List Int) : Prop where
  fn : F.Nodup
  fb : ∀ c ∈ F, (1 ≤ c ∧ c ≤ hs.length) ∧ p ∈ wy hs c
  wn : W.Nodup
  wf : ∀ w ∈ W, w = p ∨ w ∈ F
  np : ∀ c ∈ F, stp hs c ∉ W
  pf : ∀ c ∈ F, stp hs c = p ∨ stp hs c ∈ F
  cl : ∀ c : Int, 1 ≤ c → c ≤ hs.length → (stp hs c = p ∨ stp hs c ∈ F) → stp hs c ∉ W → c ∈ F
theorem Dfs.start : Dfs hs p [] [p] where
  fn := List.nodup_nil
  fb := fun _ h => nomatch h
  wn := List.nodup_cons.mpr ⟨List.not_mem_nil, List.nodup_nil⟩
  wf := fun w h => .inl (List.mem_singleton.mp h)
  np := fun _ h => nomatch h
  pf := fun _ h => nomatch h
  cl := fun c _ _ h n => by
    rcases h with h | h
    · exact absurd (List.mem_singleton.mpr h) n
    · exact nomatch h
theorem Dfs.step (t : IsTree hs) (p0 : 0 ≤ p) (p1 : p ≤ hs.length) {F W : List Int} {w : Int} (d : Dfs hs p F (W ++ [w])) : Dfs hs p (F ++ hang hs w) (W ++ hang hs w) := by
  have hw : w = p ∨ w ∈ F := d.wf w (List.mem_append_right _ (List.mem_singleton.mpr rfl))
  have hA : ∀ c, c ∈ hang hs w → c ∉ F := fun c hc hf => d.np c hf (by rw [(mem_hang.mp hc).2]; exact List.mem_append_right _ (List.mem_singleton.mpr rfl))
  have hdep : (wy hs p).length ≤ (wy hs w).length := by
    rcases hw with z | z
    · rw [z]; exact Nat.le_refl _
    · have b := d.fb w z
      exact Nat.le_of_lt (dep_mem t _ w rfl (by omega) b.1.2 p b.2).1
  have hB : ∀ c, c ∈ hang hs w → c ≠ p := fun c hc z => by
    have m := mem_hang.mp hc
    have := dep_stp t m.1.1 m.1.2
    rw [m.2, z] at this
    omega
  have hC : w ∉ hang hs w := fun hc => by
    have m := mem_hang.mp hc
    have := dep_stp t m.1.1 m.1.2
    rw [m.2] at this
    omega
  have wn := List.nodup_append.mp d.wn
  have wW : w ∉ W := fun z => wn.2.2 w z w (List.mem_singleton.mpr rfl) rfl
  refine ⟨?_, ?_, ?_, ?_, ?_, ?_, ?_⟩
  · exact List.nodup_append.mpr ⟨d.fn, hang_nodup, fun a ha b hb z => hA b hb (z ▸ ha)⟩
  · intro c hc
    rcases List.mem_append.mp hc with hc | hc
    · exact d.fb c hc
    · have m := mem_hang.mp hc
      refine ⟨m.1, ?_⟩
      rw [wy_cons t m.1.1 m.1.2, m.2]
      rcases hw with z | z
      · rw [z]; exact List.mem_cons_self
      · exact List.mem_cons_of_mem _ (d.fb w z).2
  · refine List.nodup_append.mpr ⟨wn.1, hang_nodup, fun a ha b hb z => ?_⟩
    subst z
    rcases d.wf a (List.mem_append_left _ ha) with z | z
    · exact hB a hb z
    · exact hA a hb z
  · intro x hx
    rcases List.mem_append.mp hx with hx | hx
    · rcases d.wf x (List.mem_append_left _ hx) with z | z
      · exact .inl z
      · exact .inr (List.mem_append_left _ z)
    · exact .inr (List.mem_append_right _ hx)
  · intro c hc hx
    rcases List.mem_append.mp hc with hc | hc
    · rcases List.mem_append.mp hx with hx | hx
      · exact d.np c hc (List.mem_append_left _ hx)
      · rcases d.pf c hc with z | z
        · exact hB _ hx z
        · exact hA _ hx z
    · rw [(mem_hang.mp hc).2] at hx
      rcases List.mem_append.mp hx with hx | hx
      · exact wW hx
      · exact hC hx
  · intro c hc
    rcases List.mem_append.mp hc with hc | hc
    · rcases d.pf c hc with z | z
      · exact .inl z
      · exact .inr (List.mem_append_left _ z)
    · rw [(mem_hang.mp hc).2]
      rcases hw with z | z
      · exact .inl z
      · exact .inr (List.mem_append_left _ z)
  · intro c c0 c1 hs' hn
    by_cases e : stp hs c = w
    · exact List.mem_append_right _ (mem_hang.mpr ⟨⟨c0, c1⟩, e⟩)
    · refine List.mem_append_left _ (d.cl c c0 c1 ?_ fun z => ?_)
      · rcases hs' with z | z
        · exact .inl z
        · rcases List.mem_append.mp z with z | z
          · exact .inr z
          · exact absurd (List.mem_append_right _ z) hn
      · rcases List.mem_append.mp z with z | z
        · exact hn (List.mem_append_left _ z)
        · exact e (List.mem_singleton.mp z)
theorem Dfs.len {F W : List Int} (d : Dfs hs p F W) : F.length ≤ hs.length := by
  have := List.Nodup.length_le_of_subset d.fn (l₂ := blocks hs.length) fun c hc => blocks_mem.mpr (d.fb c hc).1
  rwa [blocks_len] at this
theorem Dfs.wlen {F W : List Int} (d : Dfs hs p F W) : W.length ≤ hs.length + 1 := by
  have := List.Nodup.length_le_of_subset d.wn (l₂ := p :: F) fun c hc => by
    rcases d.wf c hc with z | z
    · rw [z]; exact List.mem_cons_self
    · exact List.mem_cons_of_mem _ z
  have q := d.len
  rw [List.length_cons] at this
  omega
theorem Dfs.all (t : IsTree hs) {F : List Int} (d : Dfs hs p F []) : ∀ (k : Nat) (c : Int), (wy hs c).length = k → c ∈ ben hs p → c ∈ F
  | 0, c, e, h => by
    have m := mem_ben.mp h
    rw [List.length_eq_zero_iff.mp e] at m
    cases m.2
  | k + 1, c, e, h => by
    have m := mem_ben.mp h
    have ds := dep_stp t m.1.1 m.1.2
    have q := m.2
    rw [wy_cons t m.1.1 m.1.2] at q
    rcases List.mem_cons.mp q with z | z
    · exact d.cl c m.1.1 m.1.2 (.inl z.symm) List.not_mem_nil
    · have nz : stp hs c ≠ 0 := fun y => by rw [y, wy_zero] at z; cases z
      have si := stp_in t.2.2.1 c
      exact d.cl c m.1.1 m.1.2 (.inr (d.all t k (stp hs c) (by omega) (mem_ben.mpr ⟨⟨by omega, si.2⟩, z⟩))) List.not_mem_nil
theorem Dfs.done (t : IsTree hs) {F S : List Int} (d : Dfs hs p F []) (pm : S.Perm F) (so : S.Pairwise (· ≤ ·)) : S = ben hs p := by
  refine List.Perm.eq_of_pairwise (le := (· ≤ ·)) (fun a b _ _ h1 h2 => Int.le_antisymm h1 h2) so (ben_sorted.imp fun h => Int.le_of_lt h) ?_
  refine pm.trans ((List.perm_ext_iff_of_nodup d.fn ben_nodup).mpr fun c => ⟨fun h => ?_, fun h => d.all t _ c rfl h⟩)
  exact mem_ben.mpr (d.fb c h)
end

/-! ### blocks hung elsewhere -/
theorem lead_any {hs : List Int} (p : Pls hs) {b : Int} (h0 : 0 ≤ b) (h1 : b ≤ hs.length) : ∀ (m k : Nat), k ≤ m → up hs k b = 0 → leads hs b = true
  | m, k, hm, e => by
    by_cases hk : k ≤ hs.length
    · exact leads_true hk e
    · by_cases q : ∃ j, j ≤ hs.length ∧ up hs j b = 0
      · obtain ⟨j, hj, q⟩ := q
        exact leads_true hj q
      · have nz : ∀ j, j ≤ hs.length → up hs j b ≠ 0 := fun j hj z => q ⟨j, hj, z⟩
        obtain ⟨i, j, hij, hj, g⟩ := pigeon hs.length (fun k => (up hs k b).toNat - 1) fun k hk => by
          have := up_in p k b h0 h1
          have := nz k hk
          omega
        have e1 : up hs i b = up hs j b := by
          have := up_in p i b h0 h1
          have := up_in p j b h0 h1
          have := nz i (by omega)
          have := nz j hj
          have g' : (up hs i b).toNat - 1 = (up hs j b).toNat - 1 := g
          omega
        cases m with
        | zero => omega
        | succ m =>
          refine lead_any p h0 h1 m (i + (k - j)) (by omega) ?_
          rw [up_add, e1, ← up_add, show j + (k - j) = k by omega]
          exact e
section
variable {hs ms : List Int} {b c p h : Int}
theorem set_len (k : Nat) : (hs.set k p).length = hs.length := List.length_set
theorem stp_set (b0 : 1 ≤ b) (b1 : b ≤ hs.length) (c0 : 0 ≤ c) : stp (hs.set (b.toNat - 1) p) c = if c = b then p else stp hs c := by
  unfold stp
  by_cases z : c = 0
  · rw [if_pos z, if_pos z, if_neg (by omega)]
  · rw [if_neg z, if_neg z, List.getD_eq_getElem?_getD, List.getD_eq_getElem?_getD]
    by_cases e : c = b
    · subst e
      rw [List.getElem?_set_self (by omega), if_pos rfl]
      rfl
    · rw [List.getElem?_set_ne (by omega), if_neg e]
theorem IsTree.ne (t : IsTree hs) (h0 : 1 ≤ h) (h1 : h ≤ hs.length) : stp hs h ≠ h := fun e => by
  have := t.2.2.2.1 (h.toNat - 1) _ (stp_get h0 h1)
  omega
/-- what a tree's row must be, by steps up -/
theorem tree_of (l1 : 1 ≤ hs.length) (l2 : hs.length ≤ 40) (pl : ∀ c, 1 ≤ c → c ≤ (hs.length : Int) → 0 ≤ stp hs c ∧ stp hs c ≤ hs.length) (ne : ∀ c, 1 ≤ c → c ≤ (hs.length : Int) → stp hs c ≠ c)
    (ld : ∀ c, 1 ≤ c → c ≤ (hs.length : Int) → ∃ k, up hs k c = 0) : IsTree hs := by
  have P : Pls hs := fun x hx => by
    obtain ⟨k, hk⟩ := List.mem_iff_getElem?.mp hx
    have hl := (List.getElem?_eq_some_iff.mp hk).1
    have := pl ((k : Int) + 1) (by omega) (by omega)
    rw [stp_at hk] at this
    exact this
  refine ⟨l1, l2, P, fun k x hk e => ?_, fun k hk => ?_⟩
  · have hl := (List.getElem?_eq_some_iff.mp hk).1
    have := ne ((k : Int) + 1) (by omega) (by omega)
    rw [stp_at hk] at this
    exact this e
  · obtain ⟨m, e⟩ := ld ((k : Int) + 1) (by omega) (by omega)
    exact lead_any P (by omega) (by omega) m m (Nat.le_refl _) e
theorem up_same (b0 : 1 ≤ b) (b1 : b ≤ hs.length) (t : IsTree hs) : ∀ (k : Nat) (c : Int), 0 ≤ c → c ≤ hs.length → c ≠ b → b ∉ wy hs c → up (hs.set (b.toNat - 1) p) k c = up hs k c
  | 0, c, _, _, _, _ => rfl
  | k + 1, c, c0, c1, cb, nm => by
    show up _ k (stp _ c) = up hs k (stp hs c)
    rw [stp_set b0 b1 c0, if_neg cb]
    by_cases z : c = 0
    · subst z
      have e : stp hs 0 = 0 := if_pos rfl
      rw [e, up_zero, up_zero]
    · have w := wy_cons t (h := c) (by omega) c1
      rw [w] at nm
      have si := stp_in t.2.2.1 c
      exact up_same b0 b1 t k (stp hs c) si.1 si.2 (fun e => nm (by rw [e]; exact List.mem_cons_self)) fun m => nm (List.mem_cons_of_mem _ m)
theorem IsTree.move (t : IsTree hs) (b0 : 1 ≤ b) (b1 : b ≤ hs.length) (p0 : 0 ≤ p) (p1 : p ≤ hs.length) (nb : p ≠ b) (nm : b ∉ wy hs p) : IsTree (hs.set (b.toNat - 1) p) := by
  refine tree_of (by rw [set_len]; exact t.1) (by rw [set_len]; exact t.2.1) (fun c c0 c1 => ?_) (fun c c0 c1 => ?_) ?_
  · rw [set_len] at c1 ⊢
    rw [stp_set b0 b1 (by omega)]
    split
    · exact ⟨p0, p1⟩
    · exact stp_in t.2.2.1 c
  · rw [set_len] at c1
    rw [stp_set b0 b1 (by omega)]
    split
    · rename_i e
      rw [e]; exact nb
    · exact t.ne c0 c1
  · rw [set_len]
    have key : ∀ (d : Nat) (c : Int), (wy hs c).length = d → 0 ≤ c → c ≤ hs.length → ∃ k, up (hs.set (b.toNat - 1) p) k c = 0 := fun d => by
      induction d with
      | zero =>
        intro c e c0 c1
        by_cases z : c = 0
        · exact ⟨0, z⟩
        · rw [wy_cons t (by omega) c1] at e
          cases e
      | succ d ih =>
        intro c e c0 c1
        by_cases z : c = 0
        · exact ⟨0, z⟩
        · have ds := dep_stp t (h := c) (by omega) c1
          have si := stp_in t.2.2.1 c
          by_cases cb : c = b
          · refine ⟨hs.length + 1, ?_⟩
            show up _ hs.length (stp _ c) = 0
            rw [stp_set b0 b1 c0, if_pos cb, up_same b0 b1 t _ _ p0 p1 nb nm]
            exact t.up0 p0 p1
          · obtain ⟨k, hk⟩ := ih (stp hs c) (by omega) si.1 si.2
            refine ⟨k + 1, ?_⟩
            show up _ k (stp _ c) = 0
            rw [stp_set b0 b1 c0, if_neg cb]
            exact hk
    exact fun c c0 c1 => key _ c rfl (by omega) c1
theorem ben_iff (p0 : 0 ≤ p) (p1 : p ≤ hs.length) : p ∈ ben hs b ↔ b ∈ wy hs p := by
  rw [mem_ben]
  constructor
  · exact fun h => h.2
  · intro h
    have : p ≠ 0 := fun z => by rw [z, wy_zero] at h; cases h
    exact ⟨⟨by omega, p1⟩, h⟩
/-! ### blocks called anew -/
/-- an order of n blocks -/
structure Ord (n : Nat) (ms : List Int) : Prop where
  len : ms.length = n
  nd : ms.Nodup
  bl : ∀ m ∈ ms, 1 ≤ m ∧ m ≤ n
theorem Ord.at {n : Nat} (o : Ord n ms) (c0 : 1 ≤ c) (c1 : c ≤ n) : ms[c.toNat - 1]? = some (stp ms c) ∧ 1 ≤ stp ms c ∧ stp ms c ≤ n := by
  have e := stp_get (hs := ms) c0 (by rw [o.len]; exact c1)
  exact ⟨e, o.bl _ (List.mem_of_getElem? e)⟩
theorem stp_zero : stp ms 0 = 0 := if_pos rfl
theorem Ord.inj {n : Nat} (o : Ord n ms) {c d : Int} (c0 : 0 ≤ c) (c1 : c ≤ n) (d0 : 0 ≤ d) (d1 : d ≤ n) (e : stp ms c = stp ms d) : c = d := by
  by_cases z : c = 0
  · by_cases y : d = 0
    · rw [z, y]
    · have := (o.at (c := d) (by omega) d1).2
      rw [z, stp_zero] at e
      omega
  · by_cases y : d = 0
    · have := (o.at (c := c) (by omega) c1).2
      rw [y, stp_zero] at e
      omega
    · have hc := (o.at (c := c) (by omega) c1).1
      have hd := (o.at (c := d) (by omega) d1).1
      rw [e, ← hd] at hc
      have := (List.getElem?_inj (by rw [o.len]; omega) o.nd).mp hc
      omega
theorem Ord.perm {n : Nat} (o : Ord n ms) : ms.Perm (blocks n) := by
  refine (List.perm_ext_iff_of_nodup o.nd (blocks_nodup n)).mpr fun c => ⟨fun h => blocks_mem.mpr (o.bl c h), fun h => ?_⟩
  refine Classical.byContradiction fun nh => ?_
  have q := List.Nodup.length_le_of_subset (l₁ := c :: ms) (l₂ := blocks n) (List.nodup_cons.mpr ⟨nh, o.nd⟩) fun x hx => by
    rcases List.mem_cons.mp hx with z | z
    · rw [z]; exact h
    · exact blocks_mem.mpr (o.bl x z)
  rw [List.length_cons, o.len, blocks_len] at q
  omega
theorem Ord.sur {n : Nat} (o : Ord n ms) (c0 : 1 ≤ c) (c1 : c ≤ n) : ∃ d, 1 ≤ d ∧ d ≤ (n : Int) ∧ stp ms d = c := by
  obtain ⟨k, hk⟩ := List.mem_iff_getElem?.mp (o.perm.mem_iff.mpr (blocks_mem.mpr ⟨c0, c1⟩))
  have hl := (List.getElem?_eq_some_iff.mp hk).1
  rw [o.len] at hl
  exact ⟨(k : Int) + 1, by omega, by omega, stp_at hk⟩
/-- a row by its steps up -/
theorem row_ext {L M : List Int} (hl : L.length = M.length) (h : ∀ c, 1 ≤ c → c ≤ (L.length : Int) → stp L c = stp M c) : L = M := by
  refine List.ext_getElem? fun k => ?_
  by_cases hk : k < L.length
  · have a := stp_get (hs := L) (h := (k : Int) + 1) (by omega) (by omega)
    have b := stp_get (hs := M) (h := (k : Int) + 1) (by omega) (by omega)
    rw [show (((k : Int) + 1).toNat - 1) = k by omega] at a b
    rw [a, b, h _ (by omega) (by omega)]
  · rw [List.getElem?_eq_none (by omega), List.getElem?_eq_none (by omega)]
/-- the row of what is called anew, block by block -/
def callF (hs ms : List Int) : Nat → List Int
  | 0 => List.replicate hs.length 0
  | i + 1 => (callF hs ms i).set ((stp ms ((i : Int) + 1)).toNat - 1) (stp ms (stp hs ((i : Int) + 1)))
def callL (hs ms : List Int) : List Int := callF hs ms hs.length
theorem callF_len : ∀ i, (callF hs ms i).length = hs.length
  | 0 => List.length_replicate
  | i + 1 => by
    show ((callF hs ms i).set _ _).length = _
    rw [List.length_set, callF_len i]
theorem callF_at (o : Ord hs.length ms) : ∀ (i : Nat), i ≤ hs.length → ∀ c, 1 ≤ c → c ≤ (i : Int) → stp (callF hs ms i) (stp ms c) = stp ms (stp hs c)
  | 0, _, c, c0, c1 => by omega
  | i + 1, hi, c, c0, c1 => by
    have w := o.at (c := (i : Int) + 1) (by omega) (by omega)
    have wc := o.at (c := c) c0 (by omega)
    show stp ((callF hs ms i).set _ _) _ = _
    rw [stp_set w.2.1 (by rw [callF_len]; exact w.2.2) (by omega)]
    by_cases e : c = (i : Int) + 1
    · rw [if_pos (by rw [e]), e]
    · rw [if_neg (fun z => e (o.inj (by omega) (by omega) (by omega) (by omega) z))]
      exact callF_at o i (by omega) c c0 (by omega)
theorem callL_len : (callL hs ms).length = hs.length := callF_len _
theorem callL_at (o : Ord hs.length ms) (c0 : 0 ≤ c) (c1 : c ≤ hs.length) : stp (callL hs ms) (stp ms c) = stp ms (stp hs c) := by
  by_cases z : c = 0
  · rw [z, stp_zero, stp_zero, stp_zero, stp_zero]
  · exact callF_at o _ (Nat.le_refl _) c (by omega) c1
theorem up_call (t : IsTree hs) (o : Ord hs.length ms) : ∀ (k : Nat) (c : Int), 0 ≤ c → c ≤ hs.length → up (callL hs ms) k (stp ms c) = stp ms (up hs k c)
  | 0, c, _, _ => rfl
  | k + 1, c, c0, c1 => by
    show up _ k (stp _ _) = stp ms (up hs k (stp hs c))
    rw [callL_at o c0 c1]
    have si := stp_in t.2.2.1 c
    exact up_call t o k _ si.1 si.2
theorem way_call (t : IsTree hs) (o : Ord hs.length ms) : ∀ (k : Nat) (c : Int), 0 ≤ c → c ≤ hs.length → way (callL hs ms) k (stp ms c) = (way hs k c).map (stp ms)
  | 0, c, _, _ => rfl
  | k + 1, c, c0, c1 => by
    show (if stp ms c = 0 then [] else stp _ _ :: way _ k (stp _ _)) = (if c = 0 then [] else stp hs c :: way hs k (stp hs c)).map (stp ms)
    by_cases z : c = 0
    · rw [z, if_pos stp_zero, if_pos rfl]; rfl
    · have := (o.at (c := c) (by omega) c1).2
      rw [if_neg (by omega), if_neg z, callL_at o c0 c1, List.map_cons]
      have si := stp_in t.2.2.1 c
      rw [way_call t o k _ si.1 si.2]
theorem IsTree.call (t : IsTree hs) (o : Ord hs.length ms) : IsTree (callL hs ms) := by
  refine tree_of (by rw [callL_len]; exact t.1) (by rw [callL_len]; exact t.2.1) (fun c c0 c1 => ?_) (fun c c0 c1 => ?_) (fun c c0 c1 => ?_)
  all_goals
    rw [callL_len] at c1
    obtain ⟨d, d0, d1, rfl⟩ := o.sur c0 c1
    have si := stp_in t.2.2.1 d
  · rw [callL_at o (by omega) d1, callL_len]
    by_cases z : stp hs d = 0
    · rw [z, stp_zero]; omega
    · have := (o.at (c := stp hs d) (by omega) si.2).2
      omega
  · rw [callL_at o (by omega) d1]
    intro e
    exact t.ne d0 d1 (o.inj si.1 si.2 (by omega) d1 e)
  · refine ⟨hs.length, ?_⟩
    rw [up_call t o _ _ (by omega) d1, t.up0 (by omega) d1, stp_zero]
theorem call_move (o : Ord hs.length ms) (t : IsTree hs) (b0 : 1 ≤ b) (b1 : b ≤ hs.length) (p0 : 0 ≤ p) (p1 : p ≤ hs.length) : callL (hs.set (b.toNat - 1) p) ms = (callL hs ms).set ((stp ms b).toNat - 1) (stp ms p) := by
  have wb := o.at b0 b1
  refine row_ext (by rw [callL_len, List.length_set, List.length_set, callL_len]) fun c c0 c1 => ?_
  rw [callL_len, List.length_set] at c1
  obtain ⟨d, d0, d1, rfl⟩ := o.sur c0 c1
  rw [callL_at (by rw [List.length_set]; exact o) (by omega) (by rw [List.length_set]; exact d1), stp_set b0 b1 (by omega), stp_set wb.2.1 (by rw [callL_len]; exact wb.2.2) (by omega)]
  by_cases e : d = b
  · rw [if_pos e, if_pos (by rw [e])]
  · rw [if_neg e, if_neg (fun z => e (o.inj (by omega) d1 (by omega) b1 z)), callL_at o (by omega) d1]
theorem call_bars (o : Ord hs.length ms) (t : IsTree hs) (b0 : 1 ≤ b) (b1 : b ≤ hs.length) (p0 : 0 ≤ p) (p1 : p ≤ hs.length) (nb : p ≠ b) (nm : b ∉ wy hs p) : stp ms p ≠ stp ms b ∧ stp ms b ∉ wy (callL hs ms) (stp ms p) := by
  refine ⟨fun z => nb (o.inj p0 p1 (by omega) b1 z), fun z => ?_⟩
  unfold wy at z
  rw [callL_len, way_call t o _ _ p0 p1] at z
  obtain ⟨x, hx, e⟩ := List.mem_map.mp z
  have := (dep_mem t _ p rfl p0 p1 x hx).2
  rw [o.inj this.1 this.2 (by omega) b1 e] at hx
  exact nm hx
/-- the order back -/
def backL (ms : List Int) : List Int := (List.range ms.length).map fun (k : Nat) => ((ms.idxOf ((k : Int) + 1) : Nat) : Int) + 1
theorem backL_at {n : Nat} (o : Ord n ms) (c0 : 0 ≤ c) (c1 : c ≤ n) : stp (backL ms) (stp ms c) = c := by
  by_cases z : c = 0
  · rw [z, stp_zero, stp_zero]
  · have w := o.at (c := c) (by omega) c1
    have hk : (stp ms c).toNat - 1 < ms.length := by rw [o.len]; omega
    have e : (backL ms)[(stp ms c).toNat - 1]? = some (((ms.idxOf (stp ms c) : Nat) : Int) + 1) := by
      unfold backL
      rw [List.getElem?_map, List.getElem?_range hk]
      show some (((ms.idxOf _ : Nat) : Int) + 1) = _
      rw [show ((((stp ms c).toNat - 1 : Nat) : Int) + 1) = stp ms c by omega]
    have q := stp_at e
    rw [show ((((stp ms c).toNat - 1 : Nat) : Int) + 1) = stp ms c by omega] at q
    rw [q]
    have hi : ms.idxOf (stp ms c) = c.toNat - 1 := by
      have g := List.getElem?_eq_some_iff.mp w.1
      have := List.Nodup.idxOf_getElem o.nd (c.toNat - 1) g.1
      rw [g.2] at this
      exact this
    omega
theorem backL_ord {n : Nat} (o : Ord n ms) : Ord n (backL ms) := by
  have hl : (backL ms).length = n := by
    unfold backL
    rw [List.length_map, List.length_range, o.len]
  refine ⟨hl, ?_, fun m hm => ?_⟩
  · unfold backL
    refine List.pairwise_map.mpr (List.Pairwise.imp_of_mem (fun {a b} ha hb h e => h ?_) List.nodup_range)
    have ha' := List.mem_range.mp ha
    have hb' := List.mem_range.mp hb
    have la : ms.idxOf ((a : Int) + 1) < ms.length := List.idxOf_lt_length_iff.mpr (o.perm.mem_iff.mpr (blocks_mem.mpr ⟨by omega, by rw [← o.len]; omega⟩))
    have lb : ms.idxOf ((b : Int) + 1) < ms.length := List.idxOf_lt_length_iff.mpr (o.perm.mem_iff.mpr (blocks_mem.mpr ⟨by omega, by rw [← o.len]; omega⟩))
    have ga := List.getElem_idxOf la
    have gb := List.getElem_idxOf lb
    have e' : ms.idxOf ((a : Int) + 1) = ms.idxOf ((b : Int) + 1) := by omega
    have gg : (a : Int) + 1 = (b : Int) + 1 := by
      rw [← ga, ← gb]
      simp only [e']
    omega
  · unfold backL at hm
    obtain ⟨k, hk, rfl⟩ := List.mem_map.mp hm
    have hk' := List.mem_range.mp hk
    have : ms.idxOf ((k : Int) + 1) < ms.length := List.idxOf_lt_length_iff.mpr (o.perm.mem_iff.mpr (blocks_mem.mpr ⟨by omega, by rw [← o.len]; omega⟩))
    rw [o.len] at this
    omega
theorem call_back (o : Ord hs.length ms) (t : IsTree hs) : callL (callL hs ms) (backL ms) = hs := by
  have o2 : Ord (callL hs ms).length (backL ms) := by rw [callL_len]; exact backL_ord o
  refine row_ext (by rw [callL_len, callL_len]) fun c c0 c1 => ?_
  rw [callL_len, callL_len] at c1
  have w := o.at c0 c1
  have si := stp_in t.2.2.1 c
  have q := callL_at o2 (c := stp ms c) (by omega) (by rw [callL_len]; exact w.2.2)
  rw [backL_at o (by omega) c1, callL_at o (by omega) c1, backL_at o si.1 si.2] at q
  exact q
end

/-! ### tellings -/
section
variable {hs ks ms : List Int} {c p h : Int}
theorem wy_nodup (t : IsTree hs) : ∀ (d : Nat) (c : Int), (wy hs c).length = d → 0 ≤ c → c ≤ hs.length → (wy hs c).Nodup
  | 0, c, e, _, _ => by rw [List.length_eq_zero_iff.mp e]; exact List.nodup_nil
  | d + 1, c, e, c0, c1 => by
    have nz : c ≠ 0 := fun z => by rw [z, wy_zero] at e; cases e
    have ds := dep_stp t (h := c) (by omega) c1
    have si := stp_in t.2.2.1 c
    rw [wy_cons t (by omega) c1]
    refine List.nodup_cons.mpr ⟨fun m => ?_, wy_nodup t d _ (by omega) si.1 si.2⟩
    have := (dep_mem t _ _ rfl si.1 si.2 _ m).1
    omega
/-- layer by layer beneath a place -/
def layer (hs : List Int) (p : Int) : Nat → List Int
  | 0 => [p]
  | k + 1 => (layer hs p k).flatMap (hang hs)
theorem mem_layer (t : IsTree hs) : ∀ (k : Nat) (c : Int), c ∈ layer hs p (k + 1) ↔ (1 ≤ c ∧ c ≤ hs.length) ∧ (wy hs c)[k]? = some p
  | 0, c => by
    show c ∈ [p].flatMap (hang hs) ↔ _
    rw [List.flatMap_cons, List.flatMap_nil, List.append_nil, mem_hang]
    refine and_congr_right fun b => ?_
    rw [wy_cons t b.1 b.2]
    show _ ↔ some (stp hs c) = some p
    rw [Option.some_inj]
  | k + 1, c => by
    show c ∈ (layer hs p (k + 1)).flatMap (hang hs) ↔ _
    rw [List.mem_flatMap]
    constructor
    · rintro ⟨x, hx, hc⟩
      have m := mem_hang.mp hc
      refine ⟨m.1, ?_⟩
      rw [wy_cons t m.1.1 m.1.2, m.2]
      exact ((mem_layer t k x).mp hx).2
    · rintro ⟨b, e⟩
      rw [wy_cons t b.1 b.2] at e
      have e' : (wy hs (stp hs c))[k]? = some p := e
      have si := stp_in t.2.2.1 c
      have nz : stp hs c ≠ 0 := fun z => by rw [z, wy_zero] at e'; cases e'
      exact ⟨stp hs c, (mem_layer t k _).mpr ⟨⟨by omega, si.2⟩, e'⟩, mem_hang.mpr ⟨b, rfl⟩⟩
theorem layer_nodup : ∀ k, (layer hs p k).Nodup
  | 0 => List.nodup_cons.mpr ⟨List.not_mem_nil, List.nodup_nil⟩
  | k + 1 => by
    show ((layer hs p k).flatMap (hang hs)).Nodup
    refine List.pairwise_flatMap.mpr ⟨fun x _ => hang_nodup, (layer_nodup k).imp fun {a b} ne => ?_⟩
    intro x hx y hy e
    subst e
    exact ne ((mem_hang.mp hx).2.symm.trans (mem_hang.mp hy).2)
/-- what is found in s steps -/
def found (hs : List Int) (p : Int) : Nat → List Int
  | 0 => []
  | s + 1 => found hs p s ++ layer hs p (s + 1)
theorem mem_found (t : IsTree hs) : ∀ (s : Nat) (c : Int), c ∈ found hs p s ↔ (1 ≤ c ∧ c ≤ hs.length) ∧ p ∈ (wy hs c).take s
  | 0, c => by
    rw [List.take_zero]
    constructor
    · intro h
      cases h
    · rintro ⟨_, h⟩
      cases h
  | s + 1, c => by
    show c ∈ found hs p s ++ layer hs p (s + 1) ↔ _
    rw [List.mem_append, mem_found t s, mem_layer t s, List.take_succ, List.mem_append]
    constructor
    · rintro (⟨b, m⟩ | ⟨b, m⟩)
      · exact ⟨b, .inl m⟩
      · exact ⟨b, .inr (by rw [m]; exact List.mem_cons_self)⟩
    · rintro ⟨b, m | m⟩
      · exact .inl ⟨b, m⟩
      · refine .inr ⟨b, ?_⟩
        cases e : (wy hs c)[s]? with
        | none => rw [e] at m; cases m
        | some x =>
          rw [e] at m
          rw [List.mem_singleton.mp m]
theorem found_nodup (t : IsTree hs) : ∀ s, (found hs p s).Nodup
  | 0 => List.nodup_nil
  | s + 1 => by
    refine List.nodup_append.mpr ⟨found_nodup t s, layer_nodup _, fun a ha b hb e => ?_⟩
    subst e
    have m1 := (mem_found t s a).mp ha
    have m2 := (mem_layer t s a).mp hb
    obtain ⟨i, hi⟩ := List.mem_iff_getElem?.mp m1.2
    have hl : i < s := by
      have := (List.getElem?_eq_some_iff.mp hi).1
      rw [List.length_take] at this
      omega
    rw [List.getElem?_take_of_lt hl] at hi
    have nd := wy_nodup t _ a rfl (by omega) m2.1.2
    have := (List.getElem?_inj (List.getElem?_eq_some_iff.mp hi).1 nd).mp (hi.trans m2.2.symm)
    omega
/-- the blocks within s steps beneath p, ascending -/
def tieN (hs : List Int) (p : Int) (s : Nat) (i : Nat) : List Int := (blocks i).filter fun c => decide (p ∈ (wy hs c).take s)
def tie (hs : List Int) (p : Int) (s : Nat) : List Int := tieN hs p s hs.length
theorem mem_tie {s : Nat} : c ∈ tie hs p s ↔ (1 ≤ c ∧ c ≤ hs.length) ∧ p ∈ (wy hs c).take s := by
  unfold tie tieN
  rw [List.mem_filter, blocks_mem, decide_eq_true_eq]
theorem tie_nodup {s : Nat} : (tie hs p s).Nodup := (blocks_nodup _).filter _
theorem tie_sorted {s : Nat} : (tie hs p s).Pairwise (· < ·) := (blocks_sorted _).filter _
theorem found_tie (t : IsTree hs) (s : Nat) : (found hs p s).Perm (tie hs p s) :=
  (List.perm_ext_iff_of_nodup (found_nodup t s) tie_nodup).mpr fun c => by rw [mem_found t, mem_tie]
theorem tie_of (t : IsTree hs) {s : Nat} {S : List Int} (pm : S.Perm (found hs p s)) (so : S.Pairwise (· ≤ ·)) : S = tie hs p s :=
  List.Perm.eq_of_pairwise (le := (· ≤ ·)) (fun a b _ _ h1 h2 => Int.le_antisymm h1 h2) so (tie_sorted.imp fun h => Int.le_of_lt h) (pm.trans (found_tie t s))
theorem tieN_succ {s : Nat} (i : Nat) : tieN hs p s (i + 1) = tieN hs p s i ++ if p ∈ (wy hs ((i : Int) + 1)).take s then [(i : Int) + 1] else [] := by
  unfold tieN
  rw [blocks_succ, List.filter_append]
  congr 1
  show List.filter _ [(i : Int) + 1] = _
  by_cases e : p ∈ (wy hs ((i : Int) + 1)).take s
  · rw [if_pos e]; simp [e]
  · rw [if_neg e]; simp [e]
/-- ties: blocks with their places -/
def ties (hs : List Int) (p : Int) (s : Nat) : List (Int × Int) := (tie hs p s).map fun c => (c, stp hs c)
theorem mem_ties {s : Nat} {x : Int × Int} : x ∈ ties hs p s ↔ x.1 ∈ tie hs p s ∧ x.2 = stp hs x.1 := by
  unfold ties
  rw [List.mem_map]
  constructor
  · rintro ⟨c, hc, rfl⟩
    exact ⟨hc, rfl⟩
  · rintro ⟨h1, h2⟩
    exact ⟨x.1, h1, by rw [← h2]⟩
/-- what a place tells -/
def tell (hs : List Int) (v w : Nat) (p : Int) : List Int × List (Int × Int) := ((wy hs p).take v, ties hs p w)
/-- equal ties of more steps: equal ties of fewer -/
theorem ties_mono (t : IsTree hs) (u : IsTree ks) (hl : hs.length = ks.length) {w : Nat} (e : ties hs p w = ties ks p w) : ∀ (k : Nat) (c : Int), k < w → (1 ≤ c ∧ c ≤ hs.length) → (wy hs c)[k]? = some p → (wy ks c)[k]? = some p
  | 0, c, hk, b, m => by
    have hm : (c, stp hs c) ∈ ties hs p w := mem_ties.mpr ⟨mem_tie.mpr ⟨b, List.mem_of_getElem? (i := 0) (by rw [List.getElem?_take_of_lt hk]; exact m)⟩, rfl⟩
    rw [e] at hm
    have es := (mem_ties.mp hm).2
    have es' : stp hs c = stp ks c := es
    rw [wy_cons t b.1 b.2] at m
    rw [wy_cons u b.1 (by omega), ← es']
    exact m
  | k + 1, c, hk, b, m => by
    have hm : (c, stp hs c) ∈ ties hs p w := mem_ties.mpr ⟨mem_tie.mpr ⟨b, List.mem_of_getElem? (i := k + 1) (by rw [List.getElem?_take_of_lt hk]; exact m)⟩, rfl⟩
    rw [e] at hm
    have es : stp hs c = stp ks c := (mem_ties.mp hm).2
    rw [wy_cons t b.1 b.2] at m
    rw [wy_cons u b.1 (by omega), ← es]
    have m' : (wy hs (stp hs c))[k]? = some p := m
    have si := stp_in t.2.2.1 c
    have nz : stp hs c ≠ 0 := fun z => by rw [z, wy_zero] at m'; cases m'
    exact ties_mono t u hl e k (stp hs c) (by omega) ⟨by omega, si.2⟩ m'
theorem mem_take_iff {l : List Int} {s : Nat} : p ∈ l.take s ↔ ∃ k, k < s ∧ l[k]? = some p := by
  constructor
  · intro h
    obtain ⟨k, hk⟩ := List.mem_iff_getElem?.mp h
    have hl : k < s := by
      have := (List.getElem?_eq_some_iff.mp hk).1
      rw [List.length_take] at this
      omega
    exact ⟨k, hl, by rw [List.getElem?_take_of_lt hl] at hk; exact hk⟩
  · rintro ⟨k, hk, e⟩
    exact List.mem_of_getElem? (i := k) (by rw [List.getElem?_take_of_lt hk]; exact e)
theorem ties_less (t : IsTree hs) (u : IsTree ks) (hl : hs.length = ks.length) {w v : Nat} (hv : v ≤ w) (e : ties hs p w = ties ks p w) : ties hs p v = ties ks p v := by
  have et : tie hs p v = tie ks p v := by
    unfold tie tieN
    rw [← hl]
    refine List.filter_congr fun c hc => ?_
    have b := blocks_mem.mp hc
    rw [Bool.eq_iff_iff, decide_eq_true_eq, decide_eq_true_eq, mem_take_iff, mem_take_iff]
    exact ⟨fun ⟨k, hk, m⟩ => ⟨k, hk, ties_mono t u hl e k c (by omega) b m⟩, fun ⟨k, hk, m⟩ => ⟨k, hk, ties_mono u t hl.symm e.symm k c (by omega) (by rw [← hl]; exact b) m⟩⟩
  unfold ties
  rw [et]
  refine List.map_congr_left fun c hc => ?_
  have m := mem_tie.mp hc
  obtain ⟨k, hk, mk⟩ := mem_take_iff.mp m.2
  have mk' := ties_mono u t hl.symm e.symm k c (by omega) m.1 mk
  have hm : (c, stp hs c) ∈ ties hs p w := mem_ties.mpr ⟨mem_tie.mpr ⟨by rw [hl]; exact m.1, mem_take_iff.mpr ⟨k, by omega, mk'⟩⟩, rfl⟩
  rw [e] at hm
  have es : stp hs c = stp ks c := (mem_ties.mp hm).2
  rw [es]
theorem tell_less (t : IsTree hs) (u : IsTree ks) (hl : hs.length = ks.length) {v w v' w' : Nat} (hv : v ≤ v') (hw : w ≤ w') (e : tell hs v' w' p = tell ks v' w' p) : tell hs v w p = tell ks v w p := by
  have e1 := congrArg Prod.fst e
  have e2 := congrArg Prod.snd e
  unfold tell
  refine Prod.ext ?_ (ties_less t u hl hw e2)
  have := congrArg (List.take v) (show (wy hs p).take v' = (wy ks p).take v' from e1)
  rw [List.take_take, List.take_take, Nat.min_eq_left hv] at this
  exact this
end

section
variable {hs ks ms : List Int} {b c p h : Int}
/-! ### places that tell otherwise -/
def places (n : Nat) : List Int := (List.range n).map fun (k : Nat) => (k : Int)
theorem mem_places {n : Nat} : c ∈ places n ↔ 0 ≤ c ∧ c < n := by
  unfold places
  rw [List.mem_map]
  constructor
  · rintro ⟨k, hk, rfl⟩
    have := List.mem_range.mp hk
    omega
  · rintro ⟨a, b⟩
    exact ⟨c.toNat, List.mem_range.mpr (by omega), by omega⟩
theorem places_sorted (n : Nat) : (places n).Pairwise (· < ·) := by
  unfold places
  refine List.Pairwise.map _ (fun a b h => ?_) List.pairwise_lt_range
  omega
theorem places_succ (i : Nat) : places (i + 1) = places i ++ [(i : Int)] := by
  unfold places
  rw [List.range_succ, List.map_append]
  rfl
def unlN (hs ks : List Int) (v w : Nat) (i : Nat) : List Int := (places i).filter fun p => decide (tell hs v w p ≠ tell ks v w p)
def unl (hs ks : List Int) (v w : Nat) : List Int := unlN hs ks v w (hs.length + 1)
theorem mem_unl {v w : Nat} : p ∈ unl hs ks v w ↔ (0 ≤ p ∧ p ≤ hs.length) ∧ tell hs v w p ≠ tell ks v w p := by
  unfold unl unlN
  rw [List.mem_filter, mem_places, decide_eq_true_eq]
  refine and_congr_left fun _ => ?_
  omega
theorem unl_sorted {v w : Nat} : (unl hs ks v w).Pairwise (· < ·) := (places_sorted _).filter _
theorem unlN_succ {v w : Nat} (i : Nat) : unlN hs ks v w (i + 1) = unlN hs ks v w i ++ if tell hs v w i ≠ tell ks v w i then [(i : Int)] else [] := by
  unfold unlN
  rw [places_succ, List.filter_append]
  congr 1
  show List.filter _ [(i : Int)] = _
  by_cases e : tell hs v w i = tell ks v w i
  · rw [if_neg (fun z => z e)]; simp [e]
  · rw [if_pos e]; simp [e]
theorem unl_len {v w : Nat} : (unl hs ks v w).length ≤ hs.length + 1 := by
  refine Nat.le_trans (List.length_filter_le _ _) ?_
  unfold places
  rw [List.length_map, List.length_range]
  exact Nat.le_refl _
theorem unl_self {v w : Nat} : unl hs hs v w = [] := by
  refine List.eq_nil_iff_forall_not_mem.mpr fun x hx => ?_
  exact (mem_unl.mp hx).2 rfl
theorem unl_symm {v w : Nat} (hl : hs.length = ks.length) : unl hs ks v w = unl ks hs v w := by
  unfold unl unlN
  rw [hl]
  refine List.filter_congr fun x _ => ?_
  rw [Bool.eq_iff_iff, decide_eq_true_eq, decide_eq_true_eq]
  exact ⟨fun h e => h e.symm, fun h e => h e.symm⟩
theorem unl_less (t : IsTree hs) (u : IsTree ks) (hl : hs.length = ks.length) {v w v' w' : Nat} (hv : v ≤ v') (hw : w ≤ w') (m : p ∈ unl hs ks v w) : p ∈ unl hs ks v' w' := by
  have q := mem_unl.mp m
  exact mem_unl.mpr ⟨q.1, fun e => q.2 (tell_less t u hl hv hw e)⟩
/-! ### a block hung elsewhere is seen -/
theorem stp_mov (b0 : 1 ≤ b) (b1 : b ≤ hs.length) : stp (hs.set (b.toNat - 1) p) b = p := by
  rw [stp_set b0 b1 (by omega), if_pos rfl]
theorem seen_b (t : IsTree hs) (u : IsTree (hs.set (b.toNat - 1) p)) (b0 : 1 ≤ b) (b1 : b ≤ hs.length) (ne : stp hs b ≠ p) {v w : Nat} (hv : 0 < v) : b ∈ unl hs (hs.set (b.toNat - 1) p) v w := by
  refine mem_unl.mpr ⟨⟨by omega, b1⟩, fun e => ne ?_⟩
  have e1 : (wy hs b).take v = (wy (hs.set (b.toNat - 1) p) b).take v := congrArg Prod.fst e
  rw [wy_cons t b0 b1, wy_cons u b0 (by rw [set_len]; exact b1), stp_mov b0 b1] at e1
  cases v with
  | zero => omega
  | succ v =>
    rw [List.take_succ_cons, List.take_succ_cons] at e1
    exact (List.cons.inj e1).1
theorem tie_up (t : IsTree hs) (b0 : 1 ≤ b) (b1 : b ≤ hs.length) {w : Nat} (hw : 0 < w) : (b, stp hs b) ∈ ties hs (stp hs b) w :=
  mem_ties.mpr ⟨mem_tie.mpr ⟨⟨b0, b1⟩, mem_take_iff.mpr ⟨0, hw, by rw [wy_cons t b0 b1]; rfl⟩⟩, rfl⟩
theorem seen_e (t : IsTree hs) (b0 : 1 ≤ b) (b1 : b ≤ hs.length) (ne : stp hs b ≠ p) {v w : Nat} (hw : 0 < w) : stp hs b ∈ unl hs (hs.set (b.toNat - 1) p) v w := by
  have si := stp_in t.2.2.1 b
  refine mem_unl.mpr ⟨si, fun e => ne ?_⟩
  have e2 : ties hs (stp hs b) w = ties (hs.set (b.toNat - 1) p) (stp hs b) w := congrArg Prod.snd e
  have m := tie_up t b0 b1 hw
  rw [e2] at m
  have q : stp hs b = stp (hs.set (b.toNat - 1) p) b := (mem_ties.mp m).2
  rw [stp_mov b0 b1] at q
  exact q
theorem seen_p (t : IsTree hs) (u : IsTree (hs.set (b.toNat - 1) p)) (b0 : 1 ≤ b) (b1 : b ≤ hs.length) (p0 : 0 ≤ p) (p1 : p ≤ hs.length) (ne : stp hs b ≠ p) {v w : Nat} (hw : 0 < w) : p ∈ unl hs (hs.set (b.toNat - 1) p) v w := by
  refine mem_unl.mpr ⟨⟨p0, p1⟩, fun e => ne ?_⟩
  have e2 : ties hs p w = ties (hs.set (b.toNat - 1) p) p w := congrArg Prod.snd e
  have m := tie_up u b0 (by rw [set_len]; exact b1) hw
  rw [stp_mov b0 b1, ← e2] at m
  exact (mem_ties.mp m).2.symm
/-! ### blocks called anew tell the same by their names -/
theorem ties_ext (hl : hs.length = ks.length) {w : Nat} (e : ∀ x : Int × Int, x ∈ ties hs p w ↔ x ∈ ties ks p w) : ties hs p w = ties ks p w := by
  have et : tie hs p w = tie ks p w := by
    have mh : ∀ c, c ∈ tie hs p w ↔ c ∈ tie ks p w := fun c => by
      constructor
      · intro m
        exact (mem_ties.mp ((e (c, stp hs c)).mp (mem_ties.mpr ⟨m, rfl⟩))).1
      · intro m
        exact (mem_ties.mp ((e (c, stp ks c)).mpr (mem_ties.mpr ⟨m, rfl⟩))).1
    exact List.Perm.eq_of_pairwise (le := (· < ·)) (fun a b _ _ h1 h2 => absurd h1 (by omega)) tie_sorted tie_sorted ((List.perm_ext_iff_of_nodup tie_nodup tie_nodup).mpr mh)
  unfold ties
  rw [et]
  refine List.map_congr_left fun c hc => ?_
  have m : (c, stp hs c) ∈ ties hs p w := mem_ties.mpr ⟨by rw [et]; exact hc, rfl⟩
  have q : stp hs c = stp ks c := (mem_ties.mp ((e _).mp m)).2
  rw [q]
theorem nm_in {n : Nat} (o : Ord n ms) (c0 : 0 ≤ c) (c1 : c ≤ n) : 0 ≤ stp ms c ∧ stp ms c ≤ n := by
  by_cases z : c = 0
  · rw [z, stp_zero]; omega
  · have := (o.at (c := c) (by omega) c1).2
    omega
theorem nm_sur {n : Nat} (o : Ord n ms) (c0 : 0 ≤ c) (c1 : c ≤ n) : ∃ d, 0 ≤ d ∧ d ≤ (n : Int) ∧ stp ms d = c := by
  by_cases z : c = 0
  · exact ⟨0, by omega, by omega, by rw [z, stp_zero]⟩
  · obtain ⟨d, d0, d1, e⟩ := o.sur (c := c) (by omega) c1
    exact ⟨d, by omega, d1, e⟩
theorem wy_call (t : IsTree hs) (o : Ord hs.length ms) (c0 : 0 ≤ c) (c1 : c ≤ hs.length) : wy (callL hs ms) (stp ms c) = (wy hs c).map (stp ms) := by
  unfold wy
  rw [callL_len]
  exact way_call t o _ c c0 c1
theorem map_inj {n : Nat} (o : Ord n ms) : ∀ {l m : List Int}, (∀ x ∈ l, 0 ≤ x ∧ x ≤ n) → (∀ x ∈ m, 0 ≤ x ∧ x ≤ n) → l.map (stp ms) = m.map (stp ms) → l = m
  | [], [], _, _, _ => rfl
  | [], _ :: _, _, _, e => by cases e
  | _ :: _, [], _, _, e => by cases e
  | x :: l, y :: m, hl, hm, e => by
    rw [List.map_cons, List.map_cons] at e
    have e' := List.cons.inj e
    have hx := hl x List.mem_cons_self
    have hy := hm y List.mem_cons_self
    rw [o.inj hx.1 hx.2 hy.1 hy.2 e'.1, map_inj o (fun z hz => hl z (List.mem_cons_of_mem _ hz)) (fun z hz => hm z (List.mem_cons_of_mem _ hz)) e'.2]
theorem wy_in (t : IsTree hs) (c0 : 0 ≤ c) (c1 : c ≤ hs.length) : ∀ x ∈ wy hs c, 0 ≤ x ∧ x ≤ hs.length := fun x hx => (dep_mem t _ c rfl c0 c1 x hx).2
theorem ties_call (t : IsTree hs) (o : Ord hs.length ms) (p0 : 0 ≤ p) (p1 : p ≤ hs.length) {w : Nat} {c q : Int} (c0 : 1 ≤ c) (c1 : c ≤ hs.length) (q0 : 0 ≤ q) (q1 : q ≤ hs.length) :
    (stp ms c, stp ms q) ∈ ties (callL hs ms) (stp ms p) w ↔ (c, q) ∈ ties hs p w := by
  rw [mem_ties, mem_ties, mem_tie, mem_tie]
  have wc := o.at c0 c1
  show (((1 ≤ stp ms c ∧ _) ∧ _) ∧ stp ms q = stp (callL hs ms) (stp ms c)) ↔ (((1 ≤ c ∧ _) ∧ _) ∧ q = stp hs c)
  rw [callL_len, wy_call t o (by omega) c1, callL_at o (by omega) c1, ← List.map_take, List.mem_map]
  have si := stp_in t.2.2.1 c
  constructor
  · rintro ⟨⟨_, x, hx, e⟩, e2⟩
    have xi := wy_in t (by omega) c1 x (List.mem_of_mem_take hx)
    rw [o.inj xi.1 xi.2 p0 p1 e] at hx
    exact ⟨⟨⟨c0, c1⟩, hx⟩, o.inj q0 q1 si.1 si.2 e2⟩
  · rintro ⟨⟨_, m⟩, e⟩
    exact ⟨⟨wc.2, p, m, rfl⟩, by rw [e]⟩
theorem ties_in (t : IsTree hs) {w : Nat} {x : Int × Int} (m : x ∈ ties hs p w) : (1 ≤ x.1 ∧ x.1 ≤ hs.length) ∧ 0 ≤ x.2 ∧ x.2 ≤ hs.length := by
  have q := mem_ties.mp m
  exact ⟨(mem_tie.mp q.1).1, by rw [q.2]; exact stp_in t.2.2.1 _⟩
theorem tell_call (t : IsTree hs) (u : IsTree ks) (hl : hs.length = ks.length) (o : Ord hs.length ms) (p0 : 0 ≤ p) (p1 : p ≤ hs.length) {v w : Nat} :
    tell (callL hs ms) v w (stp ms p) = tell (callL ks ms) v w (stp ms p) ↔ tell hs v w p = tell ks v w p := by
  have o' : Ord ks.length ms := hl ▸ o
  have key : ∀ {A B : List Int} {C D : List (Int × Int)}, ((A, C) = (B, D)) ↔ A = B ∧ C = D := by
    intro A B C D
    exact ⟨fun e => ⟨congrArg Prod.fst e, congrArg Prod.snd e⟩, fun ⟨a, b⟩ => by rw [a, b]⟩
  unfold tell
  rw [key, key, wy_call t o p0 p1, wy_call u o' p0 (by omega), ← List.map_take, ← List.map_take]
  have w1 : ∀ x ∈ (wy hs p).take v, 0 ≤ x ∧ x ≤ (hs.length : Int) := fun x hx => wy_in t p0 p1 x (List.mem_of_mem_take hx)
  have w2 : ∀ x ∈ (wy ks p).take v, 0 ≤ x ∧ x ≤ (hs.length : Int) := fun x hx => by rw [hl]; exact wy_in u p0 (by omega) x (List.mem_of_mem_take hx)
  refine and_congr ⟨map_inj o w1 w2, fun e => by rw [e]⟩ ⟨fun e => ties_ext hl fun x => ?_, fun e => ties_ext (by rw [callL_len, callL_len, hl]) fun x => ?_⟩
  · have go : ∀ x : Int × Int, ((1 ≤ x.1 ∧ x.1 ≤ hs.length) ∧ 0 ≤ x.2 ∧ x.2 ≤ hs.length) → (x ∈ ties hs p w ↔ x ∈ ties ks p w) := fun x b => by
      rw [← ties_call (c := x.1) (q := x.2) t o p0 p1 b.1.1 b.1.2 b.2.1 b.2.2, e, ties_call (c := x.1) (q := x.2) u o' p0 (by omega) b.1.1 (by omega) b.2.1 (by omega)]
    constructor
    · intro m
      exact (go x (ties_in t m)).mp m
    · intro m
      have b := ties_in u m
      exact (go x ⟨⟨b.1.1, by omega⟩, b.2.1, by omega⟩).mpr m
  · have tL := t.call o
    have uL := u.call o'
    have go : ∀ x : Int × Int, ((1 ≤ x.1 ∧ x.1 ≤ hs.length) ∧ 0 ≤ x.2 ∧ x.2 ≤ hs.length) → (x ∈ ties (callL hs ms) (stp ms p) w ↔ x ∈ ties (callL ks ms) (stp ms p) w) := fun x b => by
      obtain ⟨c, c0, c1, ec⟩ := o.sur b.1.1 b.1.2
      obtain ⟨q, q0, q1, eq⟩ := nm_sur o b.2.1 b.2.2
      have ex : x = (stp ms c, stp ms q) := by rw [ec, eq]
      rw [ex, ties_call t o p0 p1 c0 c1 q0 q1, ties_call u o' p0 (by omega) c0 (by omega) q0 (by omega), e]
    constructor
    · intro m
      have b := ties_in tL m
      rw [callL_len] at b
      exact (go x b).mp m
    · intro m
      have b := ties_in uL m
      rw [callL_len] at b
      exact (go x ⟨⟨b.1.1, by omega⟩, b.2.1, by omega⟩).mpr m
theorem unl_call (t : IsTree hs) (u : IsTree ks) (hl : hs.length = ks.length) (o : Ord hs.length ms) {v w : Nat} {S : List Int} (pm : S.Perm ((unl hs ks v w).map (stp ms))) (so : S.Pairwise (· ≤ ·)) : S = unl (callL hs ms) (callL ks ms) v w := by
  refine List.Perm.eq_of_pairwise (le := (· ≤ ·)) (fun a b _ _ h1 h2 => Int.le_antisymm h1 h2) so (unl_sorted.imp fun h => Int.le_of_lt h) (pm.trans ?_)
  refine (List.perm_ext_iff_of_nodup ?_ (unl_sorted.imp fun h => by omega)).mpr fun x => ?_
  · refine List.pairwise_map.mpr (List.Pairwise.imp_of_mem (fun {a b} ha hb h e => ?_) (unl_sorted.imp fun {a b} (h : a < b) => (show a ≠ b by omega)))
    have ma := (mem_unl.mp ha).1
    have mb := (mem_unl.mp hb).1
    exact h (o.inj ma.1 ma.2 mb.1 mb.2 e)
  · rw [List.mem_map, mem_unl, callL_len]
    constructor
    · rintro ⟨p, hp, rfl⟩
      have m := mem_unl.mp hp
      exact ⟨nm_in o m.1.1 m.1.2, fun e => m.2 ((tell_call t u hl o m.1.1 m.1.2).mp e)⟩
    · rintro ⟨b, ne⟩
      obtain ⟨p, p0, p1, rfl⟩ := nm_sur o b.1 b.2
      exact ⟨p, mem_unl.mpr ⟨⟨p0, p1⟩, fun e => ne ((tell_call t u hl o p0 p1).mpr e)⟩, rfl⟩
end

/-! ### pairs in a heap -/
inductive Prs (H : Hp) : List V → List (Int × Int) → Prop where
  | nil : Prs H [] []
  | cons {t : Addr} {a b : Int} {xs : List V} {ps : List (Int × Int)} (h : H t = some (.tup [.int a, .int b])) (r : Prs H xs ps) : Prs H (.ref t :: xs) ((a, b) :: ps)
theorem Prs.same {H H' : Hp} {xs : List V} {ps : List (Int × Int)} (h : Prs H xs ps) (s : Same H H') : Prs H' xs ps := by
  induction h with
  | nil => exact .nil
  | cons h _ ih => exact .cons (s _ _ h) ih
theorem Prs.app {H : Hp} {xs ys : List V} {ps qs : List (Int × Int)} (h : Prs H xs ps) (k : Prs H ys qs) : Prs H (xs ++ ys) (ps ++ qs) := by
  induction h with
  | nil => exact k
  | cons h _ ih => exact .cons h ih
theorem Prs.len {H : Hp} {xs : List V} {ps : List (Int × Int)} (h : Prs H xs ps) : xs.length = ps.length := by
  induction h with
  | nil => rfl
  | cons _ _ ih => rw [List.length_cons, List.length_cons, ih]
theorem Prs.get {H : Hp} {xs : List V} {ps : List (Int × Int)} (h : Prs H xs ps) : ∀ {i : Nat} {x : V}, xs[i]? = some x → ∃ t a b, x = .ref t ∧ H t = some (.tup [.int a, .int b]) ∧ ps[i]? = some (a, b) := by
  induction h with
  | nil => intro i x e; cases e
  | cons h _ ih =>
    intro i x e
    cases i with
    | zero => cases e; exact ⟨_, _, _, rfl, h, rfl⟩
    | succ i => exact ih e
def pairOf (H : Hp) (x : V) : Int × Int := match x with
  | .ref t => (match H t with
    | some (.tup [.int a, .int b]) => (a, b)
    | _ => (0, 0))
  | _ => (0, 0)
theorem pairOf_ref {H : Hp} {t : Addr} {a b : Int} (h : H t = some (.tup [.int a, .int b])) : pairOf H (.ref t) = (a, b) := by
  show (match H t with
    | some (.tup [.int a, .int b]) => (a, b)
    | _ => (0, 0)) = _
  rw [h]
theorem Prs.map {H : Hp} {xs : List V} {ps : List (Int × Int)} (h : Prs H xs ps) : xs.map (pairOf H) = ps := by
  induction h with
  | nil => rfl
  | cons h _ ih => rw [List.map_cons, pairOf_ref h, ih]
theorem Prs.mem {H : Hp} {xs : List V} {ps : List (Int × Int)} (h : Prs H xs ps) : ∀ x ∈ xs, ∃ t, x = .ref t ∧ H t = some (.tup [.int (pairOf H x).1, .int (pairOf H x).2]) := by
  induction h with
  | nil => intro x hx; cases hx
  | cons h _ ih =>
    intro x hx
    rcases List.mem_cons.mp hx with e | hx
    · rw [e, pairOf_ref h]
      exact ⟨_, rfl, h⟩
    · exact ih x hx
theorem prs_of {H : Hp} : ∀ {xs : List V}, (∀ x ∈ xs, ∃ t, x = .ref t ∧ H t = some (.tup [.int (pairOf H x).1, .int (pairOf H x).2])) → Prs H xs (xs.map (pairOf H))
  | [], _ => .nil
  | x :: r, h => by
    obtain ⟨t, e, ht⟩ := h x List.mem_cons_self
    have ih := prs_of fun y hy => h y (List.mem_cons_of_mem _ hy)
    rw [List.map_cons]
    generalize pairOf H x = q at *
    obtain ⟨a, b⟩ := q
    subst e
    exact .cons ht ih
theorem v_sortP {K : PySem.W.Frag} {H : Hp} {Q : VK} {a : Addr} {xs : List V} {ps : List (Int × Int)} (h : H a = some (.lst xs)) (r : Prs H xs ps)
    (q : ∀ ys qs p, qs.Perm ps → (qs.map Prod.fst).Pairwise (· ≤ ·) → H p = none → Prs H ys qs → Q (.ref p) (upd H p (.lst ys))) : rSortedPO K [.ref a] H Q := by
  refine ⟨a, xs, pairOf H, rfl, SqL.of h, r.mem, fun ys p so st np => ?_⟩
  have hm : ∀ x ∈ ys, ∃ t, x = .ref t ∧ H t = some (.tup [.int (pairOf H x).1, .int (pairOf H x).2]) := fun x hx => r.mem x (st.perm.mem_iff.mp hx)
  refine q ys (ys.map (pairOf H)) p ?_ ?_ np (prs_of hm)
  · have := st.perm.map (pairOf H)
    rw [r.map] at this
    exact this
  · rw [List.map_map]
    refine List.pairwise_map.mpr (so.imp fun {x y} h => ?_)
    have := SrtO.lexB_no.mp h
    show (pairOf H x).1 ≤ (pairOf H y).1
    omega
theorem ties_of {hs : List Int} {p : Int} (t : IsTree hs) {s : Nat} {qs : List (Int × Int)} (pm : qs.Perm ((found hs p s).map fun c => (c, stp hs c))) (so : (qs.map Prod.fst).Pairwise (· ≤ ·)) : qs = ties hs p s := by
  have e1 : qs.map Prod.fst = tie hs p s := by
    refine tie_of t ?_ so
    have := pm.map Prod.fst
    rw [List.map_map] at this
    have id : (Prod.fst ∘ fun c : Int => (c, stp hs c)) = id := rfl
    rw [id, List.map_id] at this
    exact this
  unfold ties
  rw [← e1, List.map_map]
  have e2 : qs.map ((fun c : Int => (c, stp hs c)) ∘ Prod.fst) = qs.map id := List.map_congr_left fun x hx => by
    obtain ⟨c, _, e⟩ := List.mem_map.mp (pm.mem_iff.mp hx)
    rw [← e]
    rfl
  rw [e2, List.map_id]
/-! ### tellings in a heap -/
def TellAt (H : Hp) (x : V) (tl : List Int × List (Int × Int)) : Prop := ∃ (t a b : Addr) (xs : List V), x = .ref t ∧ H t = some (.tup [.ref a, .ref b]) ∧ H a = some (.tup (tl.1.map V.int)) ∧ H b = some (.tup xs) ∧ Prs H xs tl.2 ∧ tl.1.length ≤ 1000 ∧ tl.2.length ≤ 1000
theorem TellAt.same {H H' : Hp} {x : V} {tl : List Int × List (Int × Int)} (h : TellAt H x tl) (s : Same H H') : TellAt H' x tl := by
  obtain ⟨t, a, b, xs, e, h1, h2, h3, h4, h5⟩ := h
  exact ⟨t, a, b, xs, e, s _ _ h1, s _ _ h2, s _ _ h3, h4.same s, h5⟩
def pairD (p : Int × Int) : PyData := .tuple [.int p.1, .int p.2]
def tellD (tl : List Int × List (Int × Int)) : PyData := .tuple [.tuple (tl.1.map PyData.int), .tuple (tl.2.map pairD)]
theorem Prs.dp {K : PySem.W.Frag} {H : Hp} {xs : List V} {ps : List (Int × Int)} (h : Prs H xs ps) : DpAll K H xs (ps.map pairD) := by
  induction h with
  | nil => exact .nil
  | cons h _ ih => exact .cons (.tup (SqT.of h) (.cons (.int _) (.cons (.int _) .nil))) ih
theorem TellAt.dp {K : PySem.W.Frag} {H : Hp} {x : V} {tl : List Int × List (Int × Int)} (dpi : ∀ hs : List Int, DpAll K H (hs.map V.int) (hs.map PyData.int)) (h : TellAt H x tl) : Dp K H x (tellD tl) := by
  obtain ⟨t, a, b, xs, rfl, h1, h2, h3, h4, h5⟩ := h
  exact .tup (SqT.of h1) (.cons (.tup (SqT.of h2) (dpi _)) (.cons (.tup (SqT.of h3) h4.dp) .nil))
theorem eqvAll_pairs : ∀ ps qs : List (Int × Int), PyData.eqvAll (ps.map pairD) (qs.map pairD) = decide (ps = qs)
  | [], [] => rfl
  | [], _ :: _ => rfl
  | _ :: _, [] => rfl
  | (a, b) :: r, (c, d) :: s => by
    show ((a == c && (b == d && true)) && PyData.eqvAll (r.map pairD) (s.map pairD)) = _
    rw [eqvAll_pairs r s, Bool.eq_iff_iff]
    simp [and_assoc]
theorem layAll_pairs : ∀ ps : List (Int × Int), PyData.canLayAll0 (ps.map pairD) = true
  | [] => rfl
  | _ :: r => by
    show (true && PyData.canLayAll0 (r.map pairD)) = true
    rw [layAll_pairs r]
    rfl
theorem depthAll_pairs : ∀ ps : List (Int × Int), PyData.depthAll (ps.map pairD) ≤ 1
  | [] => Nat.zero_le _
  | _ :: r => by
    show max 1 (PyData.depthAll (r.map pairD)) ≤ 1
    have := depthAll_pairs r
    omega

/-! two unlike trees whose heads tell alike are unlike at so many places at least -/
section
variable {hs ks : List Int} {b c p : Int} {v w : Nat}
theorem seen_up (t : IsTree hs) (b0 : 1 ≤ b) (b1 : b ≤ hs.length) (ne : stp hs b ≠ stp ks b) {a : Int} (ha : a ∈ (wy hs b).take w) : a ∈ unl hs ks v w := by
  have ai := wy_in t (by omega) b1 a (List.mem_of_mem_take ha)
  refine mem_unl.mpr ⟨ai, fun e => ?_⟩
  have e2 : ties hs a w = ties ks a w := congrArg Prod.snd e
  have m : (b, stp hs b) ∈ ties hs a w := mem_ties.mpr ⟨mem_tie.mpr ⟨⟨b0, b1⟩, ha⟩, rfl⟩
  rw [e2] at m
  exact ne (mem_ties.mp m).2
theorem seen_own (t : IsTree hs) (u : IsTree ks) (hl : hs.length = ks.length) (b0 : 1 ≤ b) (b1 : b ≤ hs.length) (ne : stp hs b ≠ stp ks b) (hv : 0 < v) : b ∈ unl hs ks v w := by
  refine mem_unl.mpr ⟨⟨by omega, b1⟩, fun e => ?_⟩
  have e1 : (wy hs b).take v = (wy ks b).take v := congrArg Prod.fst e
  rw [wy_cons t b0 b1, wy_cons u b0 (by omega)] at e1
  cases v with
  | zero => omega
  | succ v =>
    rw [List.take_succ_cons, List.take_succ_cons] at e1
    exact ne (List.cons.inj e1).1
theorem zero_way (t : IsTree hs) : ∀ (d : Nat) (c : Int), (wy hs c).length = d → 1 ≤ c → c ≤ hs.length → (0 : Int) ∈ wy hs c
  | d, c, e, c0, c1 => by
    have w := wy_cons t c0 c1
    have si := stp_in t.2.2.1 c
    have dp := dep_stp t c0 c1
    rw [w]
    by_cases z : stp hs c = 0
    · rw [z]
      exact List.mem_cons_self
    · cases d with
      | zero => omega
      | succ d => exact List.mem_cons_of_mem _ (zero_way t d (stp hs c) (by omega) (by omega) si.2)
theorem nodup_len {l L : List Int} (nd : l.Nodup) (sb : ∀ x ∈ l, x ∈ L) : l.length ≤ L.length := List.Nodup.length_le_of_subset nd sb
theorem least {Q : Int → Prop} (f : Int → Nat) : ∀ (n : Nat) (b : Int), Q b → f b ≤ n → ∃ b, Q b ∧ ∀ c, Q c → f b ≤ f c
  | 0, b, h, e => ⟨b, h, fun c _ => by omega⟩
  | n + 1, b, h, e => by
    by_cases z : ∃ c, Q c ∧ f c ≤ n
    · obtain ⟨c, hc, ec⟩ := z
      exact least f n c hc ec
    · refine ⟨b, h, fun c hc => ?_⟩
      have : ¬ f c ≤ n := fun q => z ⟨c, hc, q⟩
      omega
theorem way_eq (t : IsTree hs) (u : IsTree ks) (hl : hs.length = ks.length) {m : Nat} (ag : ∀ c, 1 ≤ c → c ≤ (hs.length : Int) → (wy hs c).length < m → stp hs c = stp ks c) : ∀ (d : Nat) (c : Int), (wy hs c).length = d → d < m → 0 ≤ c → c ≤ hs.length → wy hs c = wy ks c
  | d, c, e, dm, c0, c1 => by
    by_cases z : c = 0
    · rw [z, wy_zero, wy_zero]
    · have si := stp_in t.2.2.1 c
      have dp := dep_stp t (show 1 ≤ c by omega) c1
      rw [wy_cons t (by omega) c1, wy_cons u (by omega) (by omega), ← ag c (by omega) c1 (by omega)]
      cases d with
      | zero => omega
      | succ d => rw [way_eq t u hl ag d (stp hs c) (by omega) (by omega) si.1 si.2]
def dstN (v w : Nat) : Nat := if w = 0 then (if v > 0 then 1 else 0) else w + 1 + (if v > 0 then 1 else 0)
theorem first_fact (t : IsTree hs) (u : IsTree ks) (hl : hs.length = ks.length) (ne : hs ≠ ks) (e0 : tell hs v w 0 = tell ks v w 0) : dstN v w ≤ (unl hs ks v w).length := by
  obtain ⟨b, ⟨⟨b0, b1⟩, hb⟩, mn⟩ : ∃ b, ((1 ≤ b ∧ b ≤ (hs.length : Int)) ∧ stp hs b ≠ stp ks b) ∧ ∀ c, ((1 ≤ c ∧ c ≤ (hs.length : Int)) ∧ stp hs c ≠ stp ks c) → (wy hs b).length ≤ (wy hs c).length := by
    have : ∃ b, (1 ≤ b ∧ b ≤ (hs.length : Int)) ∧ stp hs b ≠ stp ks b := by
      refine Classical.byContradiction fun z => ne (row_ext hl fun c c0 c1 => ?_)
      exact Classical.byContradiction fun q => z ⟨c, ⟨c0, c1⟩, q⟩
    obtain ⟨b, hb⟩ := this
    exact least (fun b => (wy hs b).length) _ b hb (Nat.le_refl _)
  have b1' : b ≤ (ks.length : Int) := by omega
  have bp : ∀ x ∈ wy hs b, x ≠ b := fun x hx e => by
    have := (dep_mem t _ b rfl (by omega) b1 x hx).1
    rw [e] at this
    omega
  have bp' : ∀ x ∈ wy ks b, x ≠ b := fun x hx e => by
    have := (dep_mem u _ b rfl (by omega) b1' x hx).1
    rw [e] at this
    omega
  have count : ∀ l : List Int, l.Nodup → (∀ x ∈ l, x ∈ unl hs ks v w) → (∀ x ∈ l, x ≠ b) → l.length + (if v > 0 then 1 else 0) ≤ (unl hs ks v w).length := by
    intro l nd sb nb
    by_cases hv : v > 0
    · rw [if_pos hv]
      have := nodup_len (l := b :: l) (L := unl hs ks v w) (List.nodup_cons.mpr ⟨fun z => nb b z rfl, nd⟩) (fun x hx => by
        rcases List.mem_cons.mp hx with rfl | hx
        · exact seen_own t u hl b0 b1 hb hv
        · exact sb x hx)
      rw [List.length_cons] at this
      exact this
    · rw [if_neg hv]
      exact nodup_len nd sb
  unfold dstN
  by_cases hw : w = 0
  · rw [if_pos hw]
    have := count [] List.nodup_nil (fun x hx => absurd hx List.not_mem_nil) (fun x hx => absurd hx List.not_mem_nil)
    rw [List.length_nil, Nat.zero_add] at this
    exact this
  · rw [if_neg hw]
    have z0 : (0 : Int) ∉ unl hs ks v w := fun z => (mem_unl.mp z).2 e0
    have sA : ∀ x ∈ (wy hs b).take w, x ∈ unl hs ks v w := fun x hx => seen_up t b0 b1 hb hx
    have sB : ∀ x ∈ (wy ks b).take w, x ∈ unl hs ks v w := fun x hx => by
      rw [unl_symm hl]
      exact seen_up u b0 b1' (fun e => hb e.symm) hx
    have lA : ((wy hs b).take w).length = w := by
      rw [List.length_take]
      by_cases q : (wy hs b).length ≤ w
      · exact absurd (sA 0 (by rw [List.take_of_length_le q]; exact zero_way t _ b rfl b0 b1)) z0
      · omega
    have lB : ((wy ks b).take w).length = w := by
      rw [List.length_take]
      by_cases q : (wy ks b).length ≤ w
      · exact absurd (sB 0 (by rw [List.take_of_length_le q]; exact zero_way u _ b rfl b0 b1')) z0
      · omega
    have nA : ((wy hs b).take w).Nodup := (wy_nodup t _ b rfl (by omega) b1).sublist (List.take_sublist _ _)
    have nB : ((wy ks b).take w).Nodup := (wy_nodup u _ b rfl (by omega) b1').sublist (List.take_sublist _ _)
    have hA := wy_cons t b0 b1
    have hB := wy_cons u b0 b1'
    have mA : stp hs b ∈ (wy hs b).take w := by
      rw [hA]
      cases w with
      | zero => exact absurd rfl hw
      | succ w => exact List.mem_cons_self
    have mB : stp ks b ∈ (wy ks b).take w := by
      rw [hB]
      cases w with
      | zero => exact absurd rfl hw
      | succ w => exact List.mem_cons_self
    by_cases c1 : stp ks b ∈ (wy hs b).take w
    · by_cases c2 : stp hs b ∈ (wy ks b).take w
      · exfalso
        have ag : ∀ c, 1 ≤ c → c ≤ (hs.length : Int) → (wy hs c).length < (wy hs b).length → stp hs c = stp ks c := fun c q0 q1 ql => Classical.byContradiction fun q => by
          have := mn c ⟨⟨q0, q1⟩, q⟩
          omega
        have si := stp_in t.2.2.1 b
        have si' := stp_in u.2.2.1 b
        have d1 := dep_stp t b0 b1
        have we := way_eq t u hl ag _ (stp hs b) rfl (by omega) si.1 si.2
        have m1 : stp ks b ∈ wy hs (stp hs b) := by
          have := List.mem_of_mem_take c1
          rw [hA] at this
          rcases List.mem_cons.mp this with e | e
          · exact absurd e.symm hb
          · exact e
        have m2 : stp hs b ∈ wy ks (stp ks b) := by
          have := List.mem_of_mem_take c2
          rw [hB] at this
          rcases List.mem_cons.mp this with e | e
          · exact absurd e hb
          · exact e
        rw [we] at m1
        have k1 := (dep_mem u _ (stp hs b) rfl si.1 (by omega) _ m1).1
        have k2 := (dep_mem u _ (stp ks b) rfl si'.1 si'.2 _ m2).1
        omega
      · have := count (stp hs b :: (wy ks b).take w) (List.nodup_cons.mpr ⟨c2, nB⟩) (fun x hx => by
          rcases List.mem_cons.mp hx with rfl | hx
          · exact sA _ mA
          · exact sB x hx) (fun x hx => by
          rcases List.mem_cons.mp hx with rfl | hx
          · exact bp _ (List.mem_of_mem_take mA)
          · exact bp' x (List.mem_of_mem_take hx))
        rw [List.length_cons, lB] at this
        exact this
    · have := count (stp ks b :: (wy hs b).take w) (List.nodup_cons.mpr ⟨c1, nA⟩) (fun x hx => by
        rcases List.mem_cons.mp hx with rfl | hx
        · exact sB _ mB
        · exact sA x hx) (fun x hx => by
        rcases List.mem_cons.mp hx with rfl | hx
        · exact bp' _ (List.mem_of_mem_take mB)
        · exact bp x (List.mem_of_mem_take hx))
      rw [List.length_cons, lA] at this
      exact this
end

/-! the two trees of twins, of any size: a row of w blocks, two brothers beneath it, the rest at the head -/
section
variable {hs ks : List Int} {b c p : Int} {v w : Nat}
/-- a row in which each block hangs under a lower place is a tree -/
theorem tree_low (l1 : 1 ≤ hs.length) (l2 : hs.length ≤ 40) (lo : ∀ c, 1 ≤ c → c ≤ (hs.length : Int) → 0 ≤ stp hs c ∧ stp hs c < c) : IsTree hs := by
  have ld : ∀ (n : Nat) (c : Int), c ≤ n → 0 ≤ c → c ≤ (hs.length : Int) → ∃ k, up hs k c = 0 := by
    intro n
    induction n with
    | zero => exact fun c h h0 h1 => ⟨0, by show c = 0; omega⟩
    | succ n ih =>
      intro c h h0 h1
      by_cases z : c = 0
      · exact ⟨0, z⟩
      · have q := lo c (by omega) h1
        obtain ⟨k, hk⟩ := ih (stp hs c) (by omega) q.1 (by omega)
        exact ⟨k + 1, hk⟩
  refine tree_of l1 l2 (fun c h0 h1 => ?_) (fun c h0 h1 => ?_) fun c h0 h1 => ld c.toNat c (by omega) (by omega) h1
  · have q := lo c h0 h1
    omega
  · have q := lo c h0 h1
    omega
theorem way_leaf (P : Pls hs) (b0 : 1 ≤ b) (b1 : b ≤ hs.length) (lf : ∀ c, 1 ≤ c → c ≤ (hs.length : Int) → stp hs c ≠ b) : ∀ (k : Nat) (c : Int), 0 ≤ c → c ≤ hs.length → c ≠ b → way (hs.set (b.toNat - 1) p) k c = way hs k c
  | 0, _, _, _, _ => rfl
  | k + 1, c, c0, c1, cb => by
    unfold way
    by_cases z : c = 0
    · rw [if_pos z, if_pos z]
    · have si := stp_in P c
      rw [if_neg z, if_neg z, stp_set b0 b1 c0, if_neg cb, way_leaf P b0 b1 lf k (stp hs c) si.1 si.2 (lf c (by omega) c1)]
/-- what a leaf's move changes: the leaf's own way, and ties at the places above it, ahead and behind -/
theorem leaf_move (t : IsTree hs) (b0 : 1 ≤ b) (b1 : b ≤ hs.length) (u : IsTree (hs.set (b.toNat - 1) p)) (lf : ∀ c, 1 ≤ c → c ≤ (hs.length : Int) → stp hs c ≠ b) (pb : p ≠ b) {a : Int} (m : a ∈ unl hs (hs.set (b.toNat - 1) p) v w) :
    (a = b ∧ 0 < v) ∨ a ∈ (wy hs b).take w ∨ a ∈ (wy (hs.set (b.toNat - 1) p) b).take w := by
  have wl : ∀ c, 0 ≤ c → c ≤ (hs.length : Int) → c ≠ b → wy (hs.set (b.toNat - 1) p) c = wy hs c := fun c c0 c1 cb => by
    unfold wy
    rw [set_len]
    exact way_leaf t.2.2.1 b0 b1 lf _ c c0 c1 cb
  obtain ⟨⟨a0, a1⟩, ne⟩ := mem_unl.mp m
  by_cases i1 : a ∈ (wy hs b).take w
  · exact .inr (.inl i1)
  by_cases i2 : a ∈ (wy (hs.set (b.toNat - 1) p) b).take w
  · exact .inr (.inr i2)
  have tt : ties hs a w = ties (hs.set (b.toNat - 1) p) a w := by
    refine ties_ext (set_len _).symm fun x => ?_
    rw [mem_ties, mem_ties, mem_tie, mem_tie, set_len]
    by_cases xb : x.1 = b
    · rw [xb]
      exact ⟨fun h => absurd h.1.2 i1, fun h => absurd h.1.2 i2⟩
    · constructor
      · rintro ⟨⟨⟨x0, x1⟩, h⟩, e⟩
        rw [wl x.1 (by omega) x1 xb, stp_set b0 b1 (by omega), if_neg xb]
        exact ⟨⟨⟨x0, x1⟩, h⟩, e⟩
      · rintro ⟨⟨⟨x0, x1⟩, h⟩, e⟩
        rw [wl x.1 (by omega) x1 xb] at h
        rw [stp_set b0 b1 (by omega), if_neg xb] at e
        exact ⟨⟨⟨x0, x1⟩, h⟩, e⟩
  by_cases ab : a = b
  · refine .inl ⟨ab, Nat.pos_of_ne_zero fun v0 => ne ?_⟩
    unfold tell
    rw [tt, v0, List.take_zero, List.take_zero]
  · refine absurd ?_ ne
    unfold tell
    rw [tt, wl a a0 a1 ab]
end

/-! ### drawn orders and trees: the mathematics -/
theorem nodup_at {l : List Int} (h : l.Nodup) {i j : Nat} {x : Int} (a : l[i]? = some x) (b : l[j]? = some x) : i = j := by
  obtain ⟨h1, e1⟩ := List.getElem?_eq_some_iff.mp a
  obtain ⟨h2, e2⟩ := List.getElem?_eq_some_iff.mp b
  exact (List.getElem_inj h).mp (e1.trans e2.symm)
theorem cover {n : Nat} {ms : List Int} (lm : ms.length = n) (nd : ms.Nodup) (rg : ∀ m ∈ ms, 1 ≤ m ∧ m ≤ n) {b : Int} (b0 : 1 ≤ b) (b1 : b ≤ n) : ∃ j : Nat, ms[j]? = some b := by
  by_cases hb : b ∈ ms
  · exact List.mem_iff_getElem?.mp hb
  · exfalso
    have nd2 : (b :: ms).Nodup := List.nodup_cons.mpr ⟨hb, nd⟩
    have rg2 : ∀ m ∈ b :: ms, 1 ≤ m ∧ m ≤ n := fun m hm => by
      rcases List.mem_cons.mp hm with e | hm
      · rw [e]; exact ⟨b0, b1⟩
      · exact rg m hm
    have at2 : ∀ k, k ≤ n → ∃ x, (b :: ms)[k]? = some x := fun k hk => ⟨_, List.getElem?_eq_getElem (by rw [List.length_cons]; omega)⟩
    obtain ⟨i, j, hij, hj, g⟩ := pigeon n (fun k => ((b :: ms).getD k 0).toNat - 1) fun k hk => by
      obtain ⟨x, hx⟩ := at2 k hk
      have := rg2 x (List.mem_of_getElem? hx)
      show ((b :: ms).getD k 0).toNat - 1 < n
      rw [List.getD_eq_getElem?_getD, hx]
      show x.toNat - 1 < n
      omega
    obtain ⟨x, hx⟩ := at2 i (by omega)
    obtain ⟨y, hy⟩ := at2 j hj
    have hx' := rg2 x (List.mem_of_getElem? hx)
    have hy' := rg2 y (List.mem_of_getElem? hy)
    have g' : ((b :: ms).getD i 0).toNat - 1 = ((b :: ms).getD j 0).toNat - 1 := g
    rw [List.getD_eq_getElem?_getD, hx, List.getD_eq_getElem?_getD, hy] at g'
    have g2 : x.toNat - 1 = y.toNat - 1 := g'
    have e : x = y := by omega
    rw [e] at hx
    exact absurd (nodup_at nd2 hx hy) (by omega)
theorem tree_of_order {n : Nat} {ms fs : List Int} (lm : ms.length = n) (nd : ms.Nodup) (rg : ∀ m ∈ ms, 1 ≤ m ∧ m ≤ n) (lf : fs.length = n) (h1 : 1 ≤ n) (h40 : n ≤ 40) (pl : ∀ h ∈ fs, 0 ≤ h ∧ h ≤ n)
    (inv : ∀ (j : Nat) (x : Int), 1 ≤ j → j ≤ n → (0 :: ms)[j]? = some x → ∃ (a : Nat) (y : Int), a < j ∧ (0 :: ms)[a]? = some y ∧ fs[(x - 1).toNat]? = some y) : IsTree fs := by
  have nd0 : (0 :: ms).Nodup := List.nodup_cons.mpr ⟨fun h => absurd (rg 0 h).1 (by decide), nd⟩
  have block : ∀ k : Nat, k < n → ∃ j : Nat, 1 ≤ j ∧ j ≤ n ∧ (0 :: ms)[j]? = some ((k : Int) + 1) := fun k hk => by
    obtain ⟨j, hj⟩ := cover lm nd rg (b := (k : Int) + 1) (by omega) (by omega)
    refine ⟨j + 1, by omega, ?_, by rw [List.getElem?_cons_succ]; exact hj⟩
    have := (List.getElem?_eq_some_iff.mp hj).1
    omega
  have home : ∀ (m j : Nat) (x : Int), j ≤ m → j ≤ n → (0 :: ms)[j]? = some x → ∃ k, k ≤ j ∧ up fs k x = 0 := by
    intro m
    induction m with
    | zero =>
      intro j x hj _ hx
      have e : j = 0 := by omega
      subst e
      exact ⟨0, Nat.le_refl _, (Option.some.inj hx).symm⟩
    | succ m ih =>
      intro j x hj hn hx
      by_cases j0 : j = 0
      · subst j0
        exact ⟨0, Nat.le_refl _, (Option.some.inj hx).symm⟩
      · obtain ⟨a, y, ha, hy, hf⟩ := inv j x (by omega) hn hx
        obtain ⟨k, hk, hu⟩ := ih a y (by omega) (by omega) hy
        have xp : 1 ≤ x := by
          obtain ⟨i, e⟩ : ∃ i, j = i + 1 := ⟨j - 1, by omega⟩
          rw [e, List.getElem?_cons_succ] at hx
          exact (rg x (List.mem_of_getElem? hx)).1
        refine ⟨k + 1, by omega, ?_⟩
        show up fs k (stp fs x) = 0
        have e : stp fs x = y := by
          unfold stp
          rw [if_neg (by omega), List.getD_eq_getElem?_getD, show x.toNat - 1 = (x - 1).toNat by omega, hf]
          rfl
        rw [e]
        exact hu
  refine ⟨by omega, by omega, fun h hh => by rw [lf]; exact pl h hh, fun k h hk => ?_, fun b hb => ?_⟩
  · have hk' : k < n := by rw [← lf]; exact (List.getElem?_eq_some_iff.mp hk).1
    obtain ⟨j, hj1, hjn, hj⟩ := block k hk'
    obtain ⟨a, y, ha, hy, hf⟩ := inv j _ hj1 hjn hj
    rw [show (((k : Int) + 1) - 1).toNat = k by omega, hk] at hf
    have e := Option.some.inj hf
    intro z
    rw [← e, z] at hy
    exact absurd (nodup_at nd0 hy hj) (by omega)
  · obtain ⟨j, hj1, hjn, hj⟩ := block b (by omega)
    obtain ⟨k, hk, hu⟩ := home j j _ (Nat.le_refl _) hjn hj
    exact leads_true (k := k) (by omega) hu
theorem perm_erase : ∀ (l : List Int) (i : Nat) (h : i < l.length), (l[i] :: l.eraseIdx i).Perm l
  | [], _, h => absurd h (Nat.not_lt_zero _)
  | _ :: _, 0, _ => List.Perm.refl _
  | a :: l, i + 1, h => by
    have ih := perm_erase l i (Nat.lt_of_succ_lt_succ h)
    show (l[i]'(Nat.lt_of_succ_lt_succ h) :: a :: l.eraseIdx i).Perm (a :: l)
    exact (List.Perm.swap _ _ _).trans (List.Perm.cons a ih)
/-! twins of any size -/
def twA (m w : Nat) : List Int := if w = 0 then List.replicate m 0 else ((List.range w).map fun (k : Nat) => (k : Int)) ++ [((w : Int) - 1), (w : Int)] ++ List.replicate (m - w - 2) 0
def twB (m w : Nat) : List Int := (twA m w).set (((w : Int) + 2).toNat - 1) ((w : Int) + 1)
section
variable {m w v : Nat}
theorem twA_len (h : w + 2 ≤ m) : (twA m w).length = m := by
  unfold twA
  split
  · exact List.length_replicate
  · simp only [List.length_append, List.length_map, List.length_range, List.length_cons, List.length_nil, List.length_replicate]
    omega
theorem twB_len (h : w + 2 ≤ m) : (twB m w).length = m := by unfold twB; rw [List.length_set, twA_len h]
theorem twA_at (h : w + 2 ≤ m) {c : Int} (c0 : 1 ≤ c) (c1 : c ≤ m) : stp (twA m w) c = if w = 0 then 0 else if c ≤ w then c - 1 else if c = w + 1 then (w : Int) - 1 else if c = w + 2 then (w : Int) else 0 := by
  have e : (twA m w)[c.toNat - 1]? = some (if w = 0 then 0 else if c ≤ w then c - 1 else if c = w + 1 then (w : Int) - 1 else if c = w + 2 then (w : Int) else 0) := by
    unfold twA
    split
    · rw [List.getElem?_replicate, if_pos (by omega)]
    · by_cases h1 : c ≤ w
      · rw [List.append_assoc, List.getElem?_append_left (by rw [List.length_map, List.length_range]; omega), List.getElem?_map, List.getElem?_range (by omega), if_pos h1]
        show some ((c.toNat - 1 : Nat) : Int) = some (c - 1)
        congr 1
        omega
      · by_cases h2 : c = w + 1
        · subst h2
          rw [List.append_assoc, List.getElem?_append_right (by rw [List.length_map, List.length_range]; omega), List.length_map, List.length_range, show ((w : Int) + 1).toNat - 1 - w = 0 by omega, if_neg h1, if_pos rfl]
          rfl
        · by_cases h3 : c = w + 2
          · subst h3
            rw [List.append_assoc, List.getElem?_append_right (by rw [List.length_map, List.length_range]; omega), List.length_map, List.length_range, show ((w : Int) + 2).toNat - 1 - w = 1 by omega, if_neg h1, if_neg h2, if_pos rfl]
            rfl
          · rw [if_neg h1, if_neg h2, if_neg h3, List.getElem?_append_right (by simp only [List.length_append, List.length_map, List.length_range, List.length_cons, List.length_nil]; omega), List.getElem?_replicate, if_pos (by simp only [List.length_append, List.length_map, List.length_range, List.length_cons, List.length_nil]; omega)]
  have e2 := stp_get (hs := twA m w) c0 (by rw [twA_len h]; exact c1)
  rw [e] at e2
  exact (Option.some.inj e2).symm
theorem twA_low (h : w + 2 ≤ m) {c : Int} (c0 : 1 ≤ c) (c1 : c ≤ m) : 0 ≤ stp (twA m w) c ∧ stp (twA m w) c < c := by
  rw [twA_at h c0 c1]
  split
  · omega
  · split
    · omega
    · split
      · omega
      · split <;> omega
theorem twA_tree (h : w + 2 ≤ m) (h40 : m ≤ 40) : IsTree (twA m w) := tree_low (by rw [twA_len h]; omega) (by rw [twA_len h]; exact h40) fun c c0 c1 => twA_low h c0 (by rw [twA_len h] at c1; exact c1)
theorem twB_at (h : w + 2 ≤ m) {c : Int} (c0 : 0 ≤ c) : stp (twB m w) c = if c = w + 2 then (w : Int) + 1 else stp (twA m w) c := stp_set (b := (w : Int) + 2) (by omega) (by rw [twA_len h]; omega) c0
theorem twB_tree (h : w + 2 ≤ m) (h40 : m ≤ 40) : IsTree (twB m w) := tree_low (by rw [twB_len h]; omega) (by rw [twB_len h]; exact h40) fun c c0 c1 => by
  rw [twB_len h] at c1
  rw [twB_at h (by omega)]
  have := twA_low h c0 c1
  split <;> omega
/-- the way up the row -/
theorem row_up {hs : List Int} (t : IsTree hs) (wm : (w : Int) ≤ hs.length) (st : ∀ c, 1 ≤ c → c ≤ (w : Int) → stp hs c = c - 1) : ∀ (n : Nat) (c : Int), (n : Int) < c → c ≤ w → ∀ x ∈ (wy hs c).take n, 1 ≤ x ∧ x < c
  | 0, c, _, _, x, hx => by rw [List.take_zero] at hx; cases hx
  | n + 1, c, h0, h1, x, hx => by
    rw [wy_cons t (by omega) (by omega), st c (by omega) h1, List.take_succ_cons] at hx
    rcases List.mem_cons.mp hx with e | hx
    · rw [e]; omega
    · have := row_up t wm st n (c - 1) (by omega) (by omega) x hx
      omega
theorem tw_unl (h : w + 2 ≤ m) (h40 : m ≤ 40) {a : Int} (ha : a ∈ unl (twA m w) (twB m w) v w) : (a = w + 2 ∧ 0 < v) ∨ (1 ≤ a ∧ a ≤ w + 1 ∧ 0 < w) := by
  have t := twA_tree h h40
  have u := twB_tree h h40
  have la := twA_len h
  have lb := twB_len h
  have lf : ∀ c, 1 ≤ c → c ≤ ((twA m w).length : Int) → stp (twA m w) c ≠ w + 2 := fun c c0 c1 => by
    rw [la] at c1
    rw [twA_at h c0 c1]
    split
    · omega
    · split
      · omega
      · split
        · omega
        · split <;> omega
  rcases leaf_move (v := v) (w := w) t (b := (w : Int) + 2) (p := (w : Int) + 1) (by omega) (by rw [la]; omega) u lf (by omega) ha with h1 | h1 | h1
  · exact .inl h1
  · right
    cases w with
    | zero => rw [List.take_zero] at h1; cases h1
    | succ w =>
      rw [wy_cons t (by omega) (by rw [la]; omega), twA_at h (by omega) (by omega), List.take_succ_cons] at h1
      rw [if_neg (by omega), if_neg (by omega), if_neg (by omega), if_pos (by omega)] at h1
      rcases List.mem_cons.mp h1 with e | h1
      · rw [e]; omega
      · have := row_up (w := w + 1) t (by rw [la]; omega) (fun c c0 c1 => by rw [twA_at h c0 (by omega), if_neg (by omega), if_pos c1]) w ((w + 1 : Nat) : Int) (by omega) (by omega) a h1
        omega
  · right
    have sb : ∀ c, 1 ≤ c → c ≤ (w : Int) → stp (twB m w) c = c - 1 := fun c c0 c1 => by rw [twB_at h (by omega), if_neg (by omega), twA_at h c0 (by omega), if_neg (by omega), if_pos c1]
    have h2 : a ∈ (wy (twB m w) ((w : Int) + 2)).take w := h1
    cases w with
    | zero => rw [List.take_zero] at h2; cases h2
    | succ w =>
      rw [wy_cons u (by omega) (by rw [lb]; omega), twB_at h (by omega), if_pos rfl, List.take_succ_cons] at h2
      rcases List.mem_cons.mp h2 with e | h2
      · rw [e]; omega
      · cases w with
        | zero => rw [List.take_zero] at h2; cases h2
        | succ w =>
          rw [wy_cons u (by omega) (by rw [lb]; omega), twB_at h (by omega), if_neg (by omega), twA_at h (by omega) (by omega), if_neg (by omega), if_neg (by omega), if_pos (by omega), List.take_succ_cons] at h2
          rcases List.mem_cons.mp h2 with e | h2
          · rw [e]; omega
          · have := row_up (w := w + 1 + 1) u (by rw [lb]; omega) sb w _ (by omega) (by omega) a h2
            omega
theorem tw_ne (h : w + 2 ≤ m) : twA m w ≠ twB m w := fun e => by
  have e2 : stp (twA m w) ((w : Int) + 2) = stp (twB m w) ((w : Int) + 2) := by rw [← e]
  rw [twB_at h (by omega), if_pos rfl] at e2
  have := twA_at h (c := (w : Int) + 2) (by omega) (by omega)
  rw [this] at e2
  split at e2
  · omega
  · rw [if_neg (by omega), if_neg (by omega), if_pos rfl] at e2
    omega
theorem tw_zero (h : w + 2 ≤ m) (h40 : m ≤ 40) : (0 : Int) ∉ unl (twA m w) (twB m w) v w := fun hz => by
  rcases tw_unl h h40 hz with q | q <;> omega
theorem tw_dist (h : w + 2 ≤ m) (h40 : m ≤ 40) : (unl (twA m w) (twB m w) v w).length = dstN v w := by
  have t := twA_tree h h40
  have u := twB_tree h h40
  have hl : (twA m w).length = (twB m w).length := by rw [twA_len h, twB_len h]
  have e0 : tell (twA m w) v w 0 = tell (twB m w) v w 0 := Classical.byContradiction fun ne => tw_zero h h40 (v := v) (mem_unl.mpr ⟨⟨Int.le_refl _, by omega⟩, ne⟩)
  refine Nat.le_antisymm ?_ (first_fact t u hl (tw_ne h) e0)
  have nd : (unl (twA m w) (twB m w) v w).Nodup := unl_sorted.imp fun {a b} h => by omega
  have sub := nodup_len (L := (if v > 0 then [(w : Int) + 2] else []) ++ (if w = 0 then [] else blocks (w + 1))) nd fun a ha => by
    rcases tw_unl h h40 ha with q | q
    · rw [if_pos q.2]
      exact List.mem_append_left _ (List.mem_singleton.mpr q.1)
    · rw [if_neg (show ¬ w = 0 by omega)]
      exact List.mem_append_right _ (blocks_mem.mpr (by omega))
  refine Nat.le_trans sub ?_
  unfold dstN
  rw [List.length_append]
  split <;> split <;> simp only [List.length_cons, List.length_nil, blocks_len] <;> omega
end

/-- a dict, locked or not -/
def core : HO → HO
  | .frz _ (.dK k) => .dK k
  | .frz _ (.dT k) => .dT k
  | o => o
def isDct : HO → Bool
  | .dK _ => true
  | .dT _ => true
  | _ => false
/-- the object stays, or is locked now -/
def Up (o o' : HO) : Prop := o' = o ∨ ∃ od, isDct o = true ∧ o' = .frz od o
theorem Up.core {o o' : HO} (h : Up o o') : Fv.core o' = Fv.core o := by
  rcases h with rfl | ⟨od, e, rfl⟩
  · rfl
  · cases o <;> first | rfl | cases e
theorem Up.trans {o o1 o2 : HO} (h : Up o o1) (k : Up o1 o2) : Up o o2 := by
  rcases h with rfl | ⟨od, e, rfl⟩
  · exact k
  · rcases k with rfl | ⟨od', e', rfl⟩
    · exact .inr ⟨od, e, rfl⟩
    · cases e'
theorem Up.ex {o o' : HO} (n : isDct o = false) (h : Up o o') : o' = o := by
  rcases h with rfl | ⟨od, e, rfl⟩
  · rfl
  · rw [n] at e; cases e
/-- objects stay; a dict may be locked -/
def Sm (F F' : Hp) : Prop := ∀ a o, F a = some o → ∃ o', F' a = some o' ∧ Up o o'
theorem Sm.refl (F : Hp) : Sm F F := fun a o h => ⟨o, h, .inl rfl⟩
theorem Sm.trans {F F' F'' : Hp} (s : Sm F F') (t : Sm F' F'') : Sm F F'' := fun a o h => by
  obtain ⟨o1, h1, e1⟩ := s a o h
  obtain ⟨o2, h2, e2⟩ := t a o1 h1
  exact ⟨o2, h2, e1.trans e2⟩
theorem _root_.L2.Same.sm {F F' : Hp} (s : Same F F') : Sm F F' := fun a o h => ⟨o, s a o h, .inl rfl⟩
theorem Sm.free {F F' : Hp} (s : Sm F F') {a : Addr} (h : F' a = none) : F a = none := by
  cases e : F a with
  | none => rfl
  | some o =>
    obtain ⟨o', h', _⟩ := s a o e
    rw [h] at h'
    cases h'
theorem Sm.ex {F F' : Hp} (s : Sm F F') {a : Addr} {o : HO} (n : isDct o = false) (h : F a = some o) : F' a = some o := by
  obtain ⟨o', h', e⟩ := s a o h
  rw [h', e.ex n]
/-- what stands for a dict -/
def DObj : Bool → List (List Key × V) → HO → Prop
  | true, kvs, o => o = .dT kvs
  | false, kvs, o => ∃ k0 : List (Key × V), o = .dK k0 ∧ kvs = k0.map fun p => ([p.1], p.2)
theorem DObj.core {t : Bool} {kvs : List (List Key × V)} {o : HO} (h : DObj t kvs o) : Fv.core o = o := by
  cases t with
  | true => rw [show o = _ from h]; rfl
  | false => obtain ⟨k0, e, _⟩ := h; rw [e]; rfl
theorem DObj.uniq {t : Bool} {xs ys : List (List Key × V)} {o : HO} (h : DObj t xs o) (k : DObj t ys o) : xs = ys := by
  cases t with
  | true =>
    have h : o = .dT xs := h
    have k : o = .dT ys := k
    rw [h] at k
    injection k
  | false =>
    obtain ⟨a, e1, e2⟩ := h
    obtain ⟨b, e3, e4⟩ := k
    rw [e1] at e3
    injection e3 with e3
    rw [e2, e4, e3]
/-- data: what never changes -/
inductive D where
  | non | bl (b : Bool) | int (i : Int) | str (s : Str) | ty (n : String) | cls (a : Addr)
  | tup (ds : List D) | lst (ds : List D) | dct (t : Bool) (kvs : List (List Key × D)) | ins (C : Addr) (fs : List (Str × D))
/-- owned objects: what no one else reaches -/
inductive O where
  | fr (d : D) | lst (os : List O) | dct (t : Bool) (kvs : List (List Key × O)) | ins (C : Addr) (fs : List (Str × O))
/-- a slot: unknown, own, borrowed of the caller -/
inductive S where
  | un | ow (o : O) | bo (o : O)
mutual
def Rep (F : Hp) : D → V → Prop
  | .non, x => x = .non
  | .bl b, x => x = .bl b
  | .int i, x => x = .int i
  | .str s, x => x = .str s
  | .ty n, x => x = .ty n
  | .cls a, x => x = .ref a
  | .tup ds, x => ∃ a xs, x = .ref a ∧ F a = some (.tup xs) ∧ RepL F ds xs
  | .lst ds, x => ∃ a xs, x = .ref a ∧ F a = some (.lst xs) ∧ RepL F ds xs
  | .dct t kds, x => ∃ a o kvs, x = .ref a ∧ F a = some o ∧ DObj t kvs (core o) ∧ RepM F kds kvs
  | .ins C gs, x => ∃ a dx fs, x = .ref a ∧ F a = some (.ins C dx fs) ∧ RepF F gs fs
def RepL (F : Hp) : List D → List V → Prop
  | [], xs => xs = []
  | d :: ds, xs => ∃ x r, xs = x :: r ∧ Rep F d x ∧ RepL F ds r
def RepM (F : Hp) : List (List Key × D) → List (List Key × V) → Prop
  | [], xs => xs = []
  | (k, d) :: ds, xs => ∃ x r, xs = (k, x) :: r ∧ Rep F d x ∧ RepM F ds r
def RepF (F : Hp) : List (Str × D) → List (Str × V) → Prop
  | [], xs => xs = []
  | (k, d) :: ds, xs => ∃ x r, xs = (k, x) :: r ∧ Rep F d x ∧ RepF F ds r
end
mutual
theorem Rep.mono {F F' : Hp} (s : Sm F F') : ∀ {d : D} {x : V}, Rep F d x → Rep F' d x
  | .non, _, h => h
  | .bl _, _, h => h
  | .int _, _, h => h
  | .str _, _, h => h
  | .ty _, _, h => h
  | .cls _, _, h => h
  | .tup ds, _, h => let ⟨a, xs, e, q, r⟩ := h; ⟨a, xs, e, s.ex rfl q, RepL.mono s r⟩
  | .lst ds, _, h => let ⟨a, xs, e, q, r⟩ := h; ⟨a, xs, e, s.ex rfl q, RepL.mono s r⟩
  | .dct t ds, _, h => let ⟨a, o, xs, e, q, c, r⟩ := h; let ⟨o', q', c'⟩ := s _ _ q; ⟨a, o', xs, e, q', by rw [c'.core]; exact c, RepM.mono s r⟩
  | .ins _ ds, _, h => let ⟨a, dx, xs, e, q, r⟩ := h; ⟨a, dx, xs, e, s.ex rfl q, RepF.mono s r⟩
theorem RepL.mono {F F' : Hp} (s : Sm F F') : ∀ {ds : List D} {xs : List V}, RepL F ds xs → RepL F' ds xs
  | [], _, h => h
  | d :: ds, _, h => let ⟨x, r, e, q, t⟩ := h; ⟨x, r, e, Rep.mono s q, RepL.mono s t⟩
theorem RepM.mono {F F' : Hp} (s : Sm F F') : ∀ {ds : List (List Key × D)} {xs : List (List Key × V)}, RepM F ds xs → RepM F' ds xs
  | [], _, h => h
  | (k, d) :: ds, _, h => let ⟨x, r, e, q, t⟩ := h; ⟨x, r, e, Rep.mono s q, RepM.mono s t⟩
theorem RepF.mono {F F' : Hp} (s : Sm F F') : ∀ {ds : List (Str × D)} {xs : List (Str × V)}, RepF F ds xs → RepF F' ds xs
  | [], _, h => h
  | (k, d) :: ds, _, h => let ⟨x, r, e, q, t⟩ := h; ⟨x, r, e, Rep.mono s q, RepF.mono s t⟩
end
/-- the object itself stands in H, what it holds in F -/
def RepP (F H : Hp) : D → V → Prop
  | .lst ds, x => ∃ a xs, x = .ref a ∧ H a = some (.lst xs) ∧ RepL F ds xs
  | .dct t kds, x => ∃ a o kvs, x = .ref a ∧ H a = some o ∧ DObj t kvs (core o) ∧ RepM F kds kvs
  | .ins C gs, x => ∃ a dx fs, x = .ref a ∧ H a = some (.ins C dx fs) ∧ RepF F gs fs
  | d, x => Rep F d x
theorem Rep.toP {F H : Hp} (s : Same F H) {d : D} {x : V} (h : Rep F d x) : RepP F H d x := by
  cases d with
  | lst ds => obtain ⟨a, xs, e, q, r⟩ := h; exact ⟨a, xs, e, s _ _ q, r⟩
  | dct t ds => obtain ⟨a, o, xs, e, q, c, r⟩ := h; exact ⟨a, o, xs, e, s _ _ q, c, r⟩
  | ins C ds => obtain ⟨a, dx, xs, e, q, r⟩ := h; exact ⟨a, dx, xs, e, s _ _ q, r⟩
  | _ => exact h
theorem RepP.toH {F H : Hp} (s : Same F H) {d : D} {x : V} (h : RepP F H d x) : Rep H d x := by
  cases d with
  | lst ds => obtain ⟨a, xs, e, q, r⟩ := h; exact ⟨a, xs, e, q, RepL.mono s.sm r⟩
  | dct t ds => obtain ⟨a, o, xs, e, q, c, r⟩ := h; exact ⟨a, o, xs, e, q, c, RepM.mono s.sm r⟩
  | ins C ds => obtain ⟨a, dx, xs, e, q, r⟩ := h; exact ⟨a, dx, xs, e, q, RepF.mono s.sm r⟩
  | _ => exact Rep.mono s.sm h
theorem RepL.length {F : Hp} : ∀ {ds : List D} {xs : List V}, RepL F ds xs → xs.length = ds.length
  | [], _, h => by rw [show _ = [] from h]; rfl
  | d :: ds, _, ⟨x, r, e, _, t⟩ => by rw [e, List.length_cons, List.length_cons, RepL.length t]
theorem RepL.get {F : Hp} : ∀ {ds : List D} {xs : List V} {i : Nat} {d : D}, RepL F ds xs → ds[i]? = some d → ∃ x, xs[i]? = some x ∧ Rep F d x
  | [], _, _, _, _, e => by simp at e
  | d :: ds, _, 0, _, ⟨x, r, e, q, _⟩, z => by
    cases z
    exact ⟨x, by rw [e]; rfl, q⟩
  | d :: ds, _, i + 1, _, ⟨x, r, e, _, t⟩, z => by
    obtain ⟨y, h1, h2⟩ := RepL.get (i := i) t z
    exact ⟨y, by rw [e]; exact h1, h2⟩
theorem RepL.app {F : Hp} : ∀ {ds es : List D} {xs ys : List V}, RepL F ds xs → RepL F es ys → RepL F (ds ++ es) (xs ++ ys)
  | [], _, _, _, h, k => by rw [show _ = [] from h]; exact k
  | d :: ds, _, _, _, ⟨x, r, e, q, t⟩, k => by rw [e]; exact ⟨x, _, rfl, q, RepL.app t k⟩
theorem RepL.take {F : Hp} : ∀ (n : Nat) {ds : List D} {xs : List V}, RepL F ds xs → RepL F (ds.take n) (xs.take n)
  | 0, _, _, h => by rw [List.take_zero, List.take_zero]; rfl
  | n + 1, [], _, h => by rw [show _ = [] from h]; rfl
  | n + 1, d :: ds, _, ⟨x, r, e, q, t⟩ => by rw [e]; exact ⟨x, _, rfl, q, RepL.take n t⟩
theorem RepL.drop {F : Hp} : ∀ (n : Nat) {ds : List D} {xs : List V}, RepL F ds xs → RepL F (ds.drop n) (xs.drop n)
  | 0, _, _, h => h
  | n + 1, [], _, h => by rw [show _ = [] from h]; rfl
  | n + 1, d :: ds, _, ⟨x, r, e, q, t⟩ => by rw [e]; exact RepL.drop n t
theorem RepL.ints {F : Hp} : ∀ {ns : List Int} {xs : List V}, RepL F (ns.map D.int) xs → xs = ns.map V.int
  | [], _, h => h
  | n :: ns, _, ⟨x, r, e, q, t⟩ => by rw [e, show x = _ from q, RepL.ints t]; rfl
theorem RepL.ofInts {F : Hp} : ∀ (ns : List Int), RepL F (ns.map D.int) (ns.map V.int)
  | [] => rfl
  | n :: ns => ⟨_, _, rfl, rfl, RepL.ofInts ns⟩
theorem RepL.bls {F : Hp} : ∀ {ns : List Bool} {xs : List V}, RepL F (ns.map D.bl) xs → xs = ns.map V.bl
  | [], _, h => h
  | n :: ns, _, ⟨x, r, e, q, t⟩ => by rw [e, show x = _ from q, RepL.bls t]; rfl
theorem RepL.strs {F : Hp} : ∀ {ns : List Str} {xs : List V}, RepL F (ns.map D.str) xs → xs = ns.map V.str
  | [], _, h => h
  | n :: ns, _, ⟨x, r, e, q, t⟩ => by rw [e, show x = _ from q, RepL.strs t]; rfl
theorem RepL.ofStrs {F : Hp} : ∀ (ns : List Str), RepL F (ns.map D.str) (ns.map V.str)
  | [] => rfl
  | n :: ns => ⟨_, _, rfl, rfl, RepL.ofStrs ns⟩
theorem RepL.set {F : Hp} : ∀ {ds : List D} {xs : List V} (i : Nat) {d : D} {x : V}, RepL F ds xs → Rep F d x → RepL F (ds.set i d) (xs.set i x)
  | [], _, _, _, _, h, _ => by rw [show _ = [] from h]; rfl
  | d :: ds, _, 0, _, _, ⟨x, r, e, q, t⟩, z => by rw [e]; exact ⟨_, _, rfl, z, t⟩
  | d :: ds, _, i + 1, _, _, ⟨x, r, e, q, t⟩, z => by rw [e]; exact ⟨_, _, rfl, q, RepL.set i t z⟩
theorem RepF.lookup {F : Hp} {f : Str} : ∀ {gs : List (Str × D)} {fs : List (Str × V)} {d : D}, RepF F gs fs → gs.lookup f = some d → ∃ x, fs.lookup f = some x ∧ Rep F d x
  | [], _, _, _, e => by cases e
  | (k, d) :: gs, _, e, ⟨x, r, q, h, t⟩, z => by
    rw [q]
    unfold List.lookup at z ⊢
    split at z
    · cases z
      exact ⟨x, rfl, h⟩
    · exact RepF.lookup t z
/-! ### owned objects -/
mutual
def RepO (F H : Hp) : O → V → List Addr → Prop
  | .fr d, x, A => A = [] ∧ Rep F d x
  | .lst os, x, A => ∃ a xs B, x = .ref a ∧ A = a :: B ∧ H a = some (.lst xs) ∧ RepOL F H os xs B
  | .dct t kos, x, A => ∃ a o kvs B, x = .ref a ∧ A = a :: B ∧ H a = some o ∧ DObj t kvs o ∧ RepOM F H kos kvs B
  | .ins C gs, x, A => ∃ a dx fs B, x = .ref a ∧ A = a :: B ∧ H a = some (.ins C dx fs) ∧ RepOF F H gs fs B
def RepOL (F H : Hp) : List O → List V → List Addr → Prop
  | [], xs, A => xs = [] ∧ A = []
  | o :: os, xs, A => ∃ x r B C, xs = x :: r ∧ A = B ++ C ∧ RepO F H o x B ∧ RepOL F H os r C
def RepOM (F H : Hp) : List (List Key × O) → List (List Key × V) → List Addr → Prop
  | [], xs, A => xs = [] ∧ A = []
  | (k, o) :: os, xs, A => ∃ x r B C, xs = (k, x) :: r ∧ A = B ++ C ∧ RepO F H o x B ∧ RepOM F H os r C
def RepOF (F H : Hp) : List (Str × O) → List (Str × V) → List Addr → Prop
  | [], xs, A => xs = [] ∧ A = []
  | (k, o) :: os, xs, A => ∃ x r B C, xs = (k, x) :: r ∧ A = B ++ C ∧ RepO F H o x B ∧ RepOF F H os r C
end
mutual
def O.frz : O → D
  | .fr d => d
  | .lst os => .lst (O.frzL os)
  | .dct t kos => .dct t (O.frzM kos)
  | .ins C gs => .ins C (O.frzF gs)
def O.frzL : List O → List D
  | [] => []
  | o :: os => o.frz :: O.frzL os
def O.frzM : List (List Key × O) → List (List Key × D)
  | [] => []
  | (k, o) :: os => (k, o.frz) :: O.frzM os
def O.frzF : List (Str × O) → List (Str × D)
  | [] => []
  | (k, o) :: os => (k, o.frz) :: O.frzF os
end
/-- the heap stays at A, the data grow -/
structure Stay (F H : Hp) (A : List Addr) (F' H' : Hp) : Prop where
  f : Sm F F'
  h : ∀ a ∈ A, ∀ o, H a = some o → H' a = some o
theorem Stay.sub {F H F' H' : Hp} {A B : List Addr} (s : Stay F H A F' H') (i : ∀ a ∈ B, a ∈ A) : Stay F H B F' H' := ⟨s.f, fun a h => s.h a (i a h)⟩
mutual
theorem RepO.stay {F H F' H' : Hp} : ∀ {o : O} {x : V} {A : List Addr}, Stay F H A F' H' → RepO F H o x A → RepO F' H' o x A
  | .fr d, _, _, s, ⟨e, r⟩ => ⟨e, r.mono s.f⟩
  | .lst os, _, _, s, ⟨a, xs, B, e, eA, h, r⟩ => ⟨a, xs, B, e, eA, s.h a (by rw [eA]; exact List.mem_cons_self) _ h, RepOL.stay (s.sub fun b hb => by rw [eA]; exact List.mem_cons_of_mem _ hb) r⟩
  | .dct t os, _, _, s, ⟨a, o, xs, B, e, eA, h, c, r⟩ => ⟨a, o, xs, B, e, eA, s.h a (by rw [eA]; exact List.mem_cons_self) _ h, c, RepOM.stay (s.sub fun b hb => by rw [eA]; exact List.mem_cons_of_mem _ hb) r⟩
  | .ins C os, _, _, s, ⟨a, dx, xs, B, e, eA, h, r⟩ => ⟨a, dx, xs, B, e, eA, s.h a (by rw [eA]; exact List.mem_cons_self) _ h, RepOF.stay (s.sub fun b hb => by rw [eA]; exact List.mem_cons_of_mem _ hb) r⟩
theorem RepOL.stay {F H F' H' : Hp} : ∀ {os : List O} {xs : List V} {A : List Addr}, Stay F H A F' H' → RepOL F H os xs A → RepOL F' H' os xs A
  | [], _, _, _, h => h
  | o :: os, _, _, s, ⟨x, r, B, C, e, eA, h, t⟩ => ⟨x, r, B, C, e, eA, RepO.stay (s.sub fun b hb => by rw [eA]; exact List.mem_append_left _ hb) h, RepOL.stay (s.sub fun b hb => by rw [eA]; exact List.mem_append_right _ hb) t⟩
theorem RepOM.stay {F H F' H' : Hp} : ∀ {os : List (List Key × O)} {xs : List (List Key × V)} {A : List Addr}, Stay F H A F' H' → RepOM F H os xs A → RepOM F' H' os xs A
  | [], _, _, _, h => h
  | (k, o) :: os, _, _, s, ⟨x, r, B, C, e, eA, h, t⟩ => ⟨x, r, B, C, e, eA, RepO.stay (s.sub fun b hb => by rw [eA]; exact List.mem_append_left _ hb) h, RepOM.stay (s.sub fun b hb => by rw [eA]; exact List.mem_append_right _ hb) t⟩
theorem RepOF.stay {F H F' H' : Hp} : ∀ {os : List (Str × O)} {xs : List (Str × V)} {A : List Addr}, Stay F H A F' H' → RepOF F H os xs A → RepOF F' H' os xs A
  | [], _, _, _, h => h
  | (k, o) :: os, _, _, s, ⟨x, r, B, C, e, eA, h, t⟩ => ⟨x, r, B, C, e, eA, RepO.stay (s.sub fun b hb => by rw [eA]; exact List.mem_append_left _ hb) h, RepOF.stay (s.sub fun b hb => by rw [eA]; exact List.mem_append_right _ hb) t⟩
end
/-! all that is owned becomes data -/
mutual
theorem RepO.frz {F H G : Hp} (s : Sm F G) : ∀ {o : O} {x : V} {A : List Addr}, (∀ a ∈ A, ∀ u, H a = some u → G a = some u) → RepO F H o x A → Rep G o.frz x
  | .fr d, _, _, _, ⟨_, r⟩ => r.mono s
  | .lst os, _, _, g, ⟨a, xs, B, e, eA, h, r⟩ => ⟨a, xs, e, g a (by rw [eA]; exact List.mem_cons_self) _ h, RepOL.frz s (fun b hb => g b (by rw [eA]; exact List.mem_cons_of_mem _ hb)) r⟩
  | .dct t os, _, _, g, ⟨a, o, xs, B, e, eA, h, c, r⟩ => ⟨a, o, xs, e, g a (by rw [eA]; exact List.mem_cons_self) _ h, by rw [c.core]; exact c, RepOM.frz s (fun b hb => g b (by rw [eA]; exact List.mem_cons_of_mem _ hb)) r⟩
  | .ins C os, _, _, g, ⟨a, dx, xs, B, e, eA, h, r⟩ => ⟨a, dx, xs, e, g a (by rw [eA]; exact List.mem_cons_self) _ h, RepOF.frz s (fun b hb => g b (by rw [eA]; exact List.mem_cons_of_mem _ hb)) r⟩
theorem RepOL.frz {F H G : Hp} (s : Sm F G) : ∀ {os : List O} {xs : List V} {A : List Addr}, (∀ a ∈ A, ∀ u, H a = some u → G a = some u) → RepOL F H os xs A → RepL G (O.frzL os) xs
  | [], _, _, _, h => h.1
  | o :: os, _, _, g, ⟨x, r, B, C, e, eA, h, t⟩ => ⟨x, r, e, RepO.frz s (fun b hb => g b (by rw [eA]; exact List.mem_append_left _ hb)) h, RepOL.frz s (fun b hb => g b (by rw [eA]; exact List.mem_append_right _ hb)) t⟩
theorem RepOM.frz {F H G : Hp} (s : Sm F G) : ∀ {os : List (List Key × O)} {xs : List (List Key × V)} {A : List Addr}, (∀ a ∈ A, ∀ u, H a = some u → G a = some u) → RepOM F H os xs A → RepM G (O.frzM os) xs
  | [], _, _, _, h => h.1
  | (k, o) :: os, _, _, g, ⟨x, r, B, C, e, eA, h, t⟩ => ⟨x, r, e, RepO.frz s (fun b hb => g b (by rw [eA]; exact List.mem_append_left _ hb)) h, RepOM.frz s (fun b hb => g b (by rw [eA]; exact List.mem_append_right _ hb)) t⟩
theorem RepOF.frz {F H G : Hp} (s : Sm F G) : ∀ {os : List (Str × O)} {xs : List (Str × V)} {A : List Addr}, (∀ a ∈ A, ∀ u, H a = some u → G a = some u) → RepOF F H os xs A → RepF G (O.frzF os) xs
  | [], _, _, _, h => h.1
  | (k, o) :: os, _, _, g, ⟨x, r, B, C, e, eA, h, t⟩ => ⟨x, r, e, RepO.frz s (fun b hb => g b (by rw [eA]; exact List.mem_append_left _ hb)) h, RepOF.frz s (fun b hb => g b (by rw [eA]; exact List.mem_append_right _ hb)) t⟩
end
/-! what is owned is there -/
mutual
theorem RepO.there {F H : Hp} : ∀ {o : O} {x : V} {A : List Addr}, RepO F H o x A → ∀ a ∈ A, H a ≠ none
  | .fr d, _, _, ⟨e, _⟩, a, ha => by rw [e] at ha; cases ha
  | .lst os, _, _, ⟨b, xs, B, e, eA, h, r⟩, a, ha => by
    rw [eA] at ha
    rcases List.mem_cons.mp ha with z | ha
    · rw [z, h]; exact Option.some_ne_none _
    · exact RepOL.there r a ha
  | .dct t os, _, _, ⟨b, o, xs, B, e, eA, h, c, r⟩, a, ha => by
    rw [eA] at ha
    rcases List.mem_cons.mp ha with z | ha
    · rw [z, h]; exact Option.some_ne_none _
    · exact RepOM.there r a ha
  | .ins C os, _, _, ⟨b, dx, xs, B, e, eA, h, r⟩, a, ha => by
    rw [eA] at ha
    rcases List.mem_cons.mp ha with z | ha
    · rw [z, h]; exact Option.some_ne_none _
    · exact RepOF.there r a ha
theorem RepOL.there {F H : Hp} : ∀ {os : List O} {xs : List V} {A : List Addr}, RepOL F H os xs A → ∀ a ∈ A, H a ≠ none
  | [], _, _, ⟨_, e⟩, a, ha => by rw [e] at ha; cases ha
  | o :: os, _, _, ⟨x, r, B, C, e, eA, h, t⟩, a, ha => by
    rw [eA] at ha
    rcases List.mem_append.mp ha with ha | ha
    · exact RepO.there h a ha
    · exact RepOL.there t a ha
theorem RepOM.there {F H : Hp} : ∀ {os : List (List Key × O)} {xs : List (List Key × V)} {A : List Addr}, RepOM F H os xs A → ∀ a ∈ A, H a ≠ none
  | [], _, _, ⟨_, e⟩, a, ha => by rw [e] at ha; cases ha
  | (k, o) :: os, _, _, ⟨x, r, B, C, e, eA, h, t⟩, a, ha => by
    rw [eA] at ha
    rcases List.mem_append.mp ha with ha | ha
    · exact RepO.there h a ha
    · exact RepOM.there t a ha
theorem RepOF.there {F H : Hp} : ∀ {os : List (Str × O)} {xs : List (Str × V)} {A : List Addr}, RepOF F H os xs A → ∀ a ∈ A, H a ≠ none
  | [], _, _, ⟨_, e⟩, a, ha => by rw [e] at ha; cases ha
  | (k, o) :: os, _, _, ⟨x, r, B, C, e, eA, h, t⟩, a, ha => by
    rw [eA] at ha
    rcases List.mem_append.mp ha with ha | ha
    · exact RepO.there h a ha
    · exact RepOF.there t a ha
end

/-! ### slots -/
abbrev DEnv := List S
def RepSl (F H : Hp) : S → Option V → List Addr → Prop
  | .un, _, A => A = []
  | .ow o, v, A => ∃ x, v = some x ∧ RepO F H o x A
  | .bo o, v, A => ∃ x, v = some x ∧ RepO F H o x A
def RepS (F H : Hp) : DEnv → L2.St → List Addr → Prop
  | [], σ, A => σ = [] ∧ A = []
  | s :: env, σ, A => ∃ v r B C, σ = v :: r ∧ A = B ++ C ∧ RepSl F H s v B ∧ RepS F H env r C
theorem RepSl.stay {F H F' H' : Hp} {s : S} {v : Option V} {A : List Addr} (y : Stay F H A F' H') (h : RepSl F H s v A) : RepSl F' H' s v A := by
  cases s with
  | un => exact h
  | ow o => obtain ⟨x, e, r⟩ := h; exact ⟨x, e, r.stay y⟩
  | bo o => obtain ⟨x, e, r⟩ := h; exact ⟨x, e, r.stay y⟩
theorem RepS.stay {F H F' H' : Hp} : ∀ {env : DEnv} {σ : L2.St} {A : List Addr}, Stay F H A F' H' → RepS F H env σ A → RepS F' H' env σ A
  | [], _, _, _, h => h
  | s :: env, _, _, y, ⟨v, r, B, C, e, eA, h, t⟩ => ⟨v, r, B, C, e, eA, RepSl.stay (y.sub fun b hb => by rw [eA]; exact List.mem_append_left _ hb) h, RepS.stay (y.sub fun b hb => by rw [eA]; exact List.mem_append_right _ hb) t⟩
theorem RepSl.there {F H : Hp} {s : S} {v : Option V} {A : List Addr} (h : RepSl F H s v A) : ∀ a ∈ A, H a ≠ none := by
  cases s with
  | un => intro a ha; rw [show A = [] from h] at ha; cases ha
  | ow o => obtain ⟨x, e, r⟩ := h; exact r.there
  | bo o => obtain ⟨x, e, r⟩ := h; exact r.there
theorem RepS.there {F H : Hp} : ∀ {env : DEnv} {σ : L2.St} {A : List Addr}, RepS F H env σ A → ∀ a ∈ A, H a ≠ none
  | [], _, _, ⟨_, e⟩, a, ha => by rw [e] at ha; cases ha
  | s :: env, _, _, ⟨v, r, B, C, e, eA, h, t⟩, a, ha => by
    rw [eA] at ha
    rcases List.mem_append.mp ha with ha | ha
    · exact h.there a ha
    · exact RepS.there t a ha
theorem RepS.len {F H : Hp} : ∀ {env : DEnv} {σ : L2.St} {A : List Addr}, RepS F H env σ A → σ.length = env.length
  | [], _, _, ⟨e, _⟩ => by rw [e]; rfl
  | s :: env, _, _, ⟨v, r, B, C, e, eA, h, t⟩ => by rw [e, List.length_cons, List.length_cons, RepS.len t]
/-- a slot taken out -/
theorem RepS.out {F H : Hp} : ∀ {env : DEnv} {σ : L2.St} {A : List Addr} {i : Nat} {s : S}, RepS F H env σ A → env[i]? = some s →
    ∃ v B R, σ[i]? = some v ∧ RepSl F H s v B ∧ A.Perm (B ++ R) ∧ RepS F H (env.set i .un) σ R
  | [], _, _, _, _, _, e => by simp at e
  | s :: env, _, _, 0, _, ⟨v, r, B, C, e, eA, h, t⟩, z => by
    cases z
    exact ⟨v, B, C, by rw [e]; rfl, h, by rw [eA], v, r, [], C, e, rfl, rfl, t⟩
  | s :: env, _, _, i + 1, _, ⟨v, r, B, C, e, eA, h, t⟩, z => by
    obtain ⟨v', B', R', h1, h2, h3, h4⟩ := RepS.out (i := i) t z
    refine ⟨v', B', B ++ R', by rw [e]; exact h1, h2, ?_, v, r, B, R', e, rfl, h, h4⟩
    rw [eA]
    exact (List.Perm.append_left B h3).trans (by
      rw [← List.append_assoc, ← List.append_assoc]
      exact List.Perm.append_right _ List.perm_append_comm)
/-- a slot filled -/
theorem RepS.put {F H : Hp} {s : S} {v : Option V} {B : List Addr} (h : RepSl F H s v B) : ∀ {env : DEnv} {σ : L2.St} {R : List Addr} {i : Nat}, RepS F H env σ R → env[i]? = some .un →
    ∃ A, A.Perm (B ++ R) ∧ RepS F H (env.set i s) (σ.set i v) A
  | [], _, _, _, _, e => by simp at e
  | u :: env, _, _, 0, ⟨w, r, B', C, e, eA, h', t⟩, z => by
    cases z
    refine ⟨B ++ C, ?_, v, r, B, C, by rw [e]; rfl, rfl, h, t⟩
    rw [eA, show B' = [] from h']
    exact List.Perm.refl _
  | u :: env, _, _, i + 1, ⟨w, r, B', C, e, eA, h', t⟩, z => by
    obtain ⟨A', p, q⟩ := RepS.put h (i := i) t z
    refine ⟨B' ++ A', ?_, w, _, B', A', by rw [e]; rfl, rfl, h', q⟩
    rw [eA]
    exact (List.Perm.append_left B' p).trans (by
      rw [← List.append_assoc, ← List.append_assoc]
      exact List.Perm.append_right _ List.perm_append_comm)
theorem set_self {α : Type} : ∀ {l : List α} {i : Nat} {x : α}, l[i]? = some x → l.set i x = l
  | [], _, _, _ => rfl
  | a :: l, 0, _, h => by cases h; rfl
  | a :: l, i + 1, _, h => by rw [List.set_cons_succ, set_self (l := l) h]
theorem get_set {α : Type} {l : List α} {i : Nat} {x y : α} (h : l[i]? = some y) : (l.set i x)[i]? = some x := by
  have := (List.getElem?_eq_some_iff.mp h).1
  rw [List.getElem?_set_self this]
/-! ### states -/
structure Good (F H : Hp) (env : DEnv) (σ : L2.St) (A : List Addr) : Prop where
  sub : Same F H
  rep : RepS F H env σ A
  nd : A.Nodup
  dis : ∀ a ∈ A, F a = none
/-- what a piece of code may do to a state -/
structure Step (F H : Hp) (env : DEnv) (σ : L2.St) (A : List Addr) (F' H' : Hp) (env' : DEnv) (σ' : L2.St) (A' : List Addr) : Prop where
  f : Sm F F'
  keep : ∀ a o, H a = some o → a ∉ A → F a = none → H' a = some o
  free : ∀ a, H' a = none → H a = none
  anew : ∀ a ∈ A', a ∈ A ∨ H a = none
  fnew : ∀ a, F' a ≠ none → F a ≠ none ∨ a ∈ A ∨ H a = none
  bor : ∀ (i : Nat) (o : O), env[i]? = some (S.bo o) → ∃ o' : O, env'[i]? = some (S.bo o') ∧ σ'[i]? = σ[i]?
section
variable {F H F' H' F'' H'' : Hp} {env env' env'' : DEnv} {σ σ' σ'' : L2.St} {A A' A'' : List Addr}
theorem Step.refl : Step F H env σ A F H env σ A := ⟨.refl _, fun _ _ h _ _ => h, fun _ h => h, fun _ h => .inl h, fun _ h => .inl h, fun _ _ h => ⟨_, h, rfl⟩⟩
theorem Step.trans (s : Step F H env σ A F' H' env' σ' A') (t : Step F' H' env' σ' A' F'' H'' env'' σ'' A'') : Step F H env σ A F'' H'' env'' σ'' A'' where
  f := s.f.trans t.f
  keep := fun a o h n f => t.keep a o (s.keep a o h n f) (fun z => (s.anew a z).elim n fun z => by rw [h] at z; cases z) (by
    cases q : F' a with
    | none => rfl
    | some u =>
      rcases s.fnew a (by rw [q]; exact Option.some_ne_none _) with z | z | z
      · exact absurd f z
      · exact absurd z n
      · rw [h] at z; cases z)
  free := fun a h => s.free a (t.free a h)
  anew := fun a h => (t.anew a h).elim (fun z => s.anew a z) fun z => .inr (s.free a z)
  fnew := fun a h => (t.fnew a h).elim (fun z => s.fnew a z) fun z => z.elim (fun z => (s.anew a z).elim (fun z => .inr (.inl z)) fun z => .inr (.inr z)) fun z => .inr (.inr (s.free a z))
  bor := fun i o h => by
    obtain ⟨o1, h1, e1⟩ := s.bor i o h
    obtain ⟨o2, h2, e2⟩ := t.bor i o1 h1
    exact ⟨o2, h2, e2.trans e1⟩
theorem Step.fno (s : Step F H env σ A F' H' env' σ' A') {a : Addr} {o : HO} (f : F a = none) (h : H a = some o) (n : a ∉ A) : F' a = none := by
  cases q : F' a with
  | none => rfl
  | some u =>
    rcases s.fnew a (by rw [q]; exact Option.some_ne_none _) with z | z | z
    · exact absurd f z
    · exact absurd z n
    · rw [h] at z; cases z
theorem Step.smH (s : Step F H env σ A F' H' env' σ' A') (sub : Same F H) (sub' : Same F' H') {a : Addr} {o : HO} (n : a ∉ A) (h : H a = some o) : ∃ o', H' a = some o' ∧ Up o o' := by
  cases f : F a with
  | none => exact ⟨o, s.keep a o h n f, .inl rfl⟩
  | some u =>
    have e := sub _ _ f
    rw [h] at e
    cases e
    obtain ⟨o', h', c⟩ := s.f a _ f
    exact ⟨o', sub' _ _ h', c⟩
/-- the footprint's order is of no matter -/
theorem Step.mem (s : Step F H env σ A F' H' env' σ' A') (m : ∀ a ∈ A'', a ∈ A') : Step F H env σ A F' H' env' σ' A'' := ⟨s.f, s.keep, s.free, fun a h => s.anew a (m a h), s.fnew, s.bor⟩
/-- a heap that only grows -/
structure Ext (F H F' H' : Hp) (C : List Addr) : Prop where
  f : Sm F F'
  h : Sm H H'
  hx : ∀ a o, H a = some o → F a = none → H' a = some o
  sub : Same F' H'
  cnew : ∀ a ∈ C, H a = none
  fnew : ∀ a, F' a ≠ none → F a ≠ none ∨ H a = none
theorem Ext.refl (s : Same F H) : Ext F H F H [] := ⟨.refl _, .refl _, fun _ _ h _ => h, s, fun _ h => (nomatch h), fun _ h => .inl h⟩
theorem Ext.trans {C C' : List Addr} (s : Ext F H F' H' C) (t : Ext F' H' F'' H'' C') : Ext F H F'' H'' (C ++ C') :=
  ⟨s.f.trans t.f, s.h.trans t.h, fun a o h f => t.hx a o (s.hx a o h f) (by
    cases q : F' a with
    | none => rfl
    | some u =>
      rcases s.fnew a (by rw [q]; exact Option.some_ne_none _) with z | z
      · exact absurd f z
      · rw [h] at z; cases z), t.sub, fun a h => (List.mem_append.mp h).elim (s.cnew a) fun z => s.h.free (t.cnew a z), fun a h => (t.fnew a h).elim (s.fnew a) fun z => .inr (s.h.free z)⟩
theorem Ext.fno {C : List Addr} (s : Ext F H F' H' C) {a : Addr} {o : HO} (f : F a = none) (h : H a = some o) : F' a = none := by
  cases q : F' a with
  | none => rfl
  | some u =>
    rcases s.fnew a (by rw [q]; exact Option.some_ne_none _) with z | z
    · exact absurd f z
    · rw [h] at z; cases z
theorem Ext.good {C : List Addr} (e : Ext F H F' H' C) (g : Good F H env σ A) : Good F' H' env σ A :=
  ⟨e.sub, g.rep.stay ⟨e.f, fun a m o h => e.hx a o h (g.dis a m)⟩, g.nd, fun a ha => by
    cases q : F' a with
    | none => rfl
    | some u =>
      rcases e.fnew a (by rw [q]; exact Option.some_ne_none _) with z | z
      · exact absurd (g.dis a ha) z
      · exact absurd z (g.rep.there a ha)⟩
theorem Ext.step {C : List Addr} (e : Ext F H F' H' C) : Step F H env σ A F' H' env σ (A ++ C) :=
  ⟨e.f, fun a o h _ f => e.hx a o h f, fun a z => e.h.free z, fun a h => (List.mem_append.mp h).elim .inl fun z => .inr (e.cnew a z), fun a h => (e.fnew a h).elim .inl fun z => .inr (.inr z), fun _ _ h => ⟨_, h, rfl⟩⟩
theorem Ext.noC {C C' : List Addr} (e : Ext F H F' H' C) (h : ∀ a ∈ C', a ∈ C) : Ext F H F' H' C' := ⟨e.f, e.h, e.hx, e.sub, fun a z => e.cnew a (h a z), e.fnew⟩
end
/-! ### paths -/
inductive PSt where
  | ix (j : Nat) | fld (f : Str)
def PathV (H : Hp) : V → List PSt → V → Prop
  | y, [], x => y = x
  | y, .ix j :: p, x => ∃ a xs z, y = .ref a ∧ H a = some (.lst xs) ∧ xs[j]? = some z ∧ PathV H z p x
  | y, .fld f :: p, x => ∃ a C dx fs z, y = .ref a ∧ H a = some (.ins C dx fs) ∧ fs.lookup f = some z ∧ PathV H z p x
def O.at : O → List PSt → Option O
  | o, [] => some o
  | .lst os, .ix j :: p => match os[j]? with
    | some o => o.at p
    | none => none
  | .ins _ gs, .fld f :: p => match gs.lookup f with
    | some o => o.at p
    | none => none
  | _, _ => none
def putA {α : Type} (f : Str) (o : α) : List (Str × α) → List (Str × α)
  | [] => []
  | (k, u) :: r => if f == k then (k, o) :: r else (k, u) :: putA f o r
def O.put : O → List PSt → O → O
  | _, [], u => u
  | .lst os, .ix j :: p, u => match os[j]? with
    | some o => .lst (os.set j (o.put p u))
    | none => .lst os
  | .ins C gs, .fld f :: p, u => match gs.lookup f with
    | some o => .ins C (putA f (o.put p u) gs)
    | none => .ins C gs
  | o, _, _ => o
theorem perm_in {B R C D : List Addr} (h : C.Perm (B ++ R)) : (D ++ C).Perm (B ++ (D ++ R)) :=
  (List.Perm.append_left D h).trans (by
    rw [← List.append_assoc, ← List.append_assoc]
    exact List.Perm.append_right _ List.perm_append_comm)
theorem perm_inR {B R C D : List Addr} (h : C.Perm (B ++ R)) : (C ++ D).Perm (B ++ (R ++ D)) := by
  rw [← List.append_assoc]
  exact List.Perm.append_right _ h
/-- an item of a row taken out, and put back as another -/
theorem RepOL.focus {F H : Hp} : ∀ {os : List O} {xs : List V} {A : List Addr} {j : Nat} {o : O}, RepOL F H os xs A → os[j]? = some o →
    ∃ x B R, xs[j]? = some x ∧ RepO F H o x B ∧ A.Perm (B ++ R) ∧ ∀ F' H' o' B' x', Stay F H R F' H' → RepO F' H' o' x' B' → ∃ A', RepOL F' H' (os.set j o') (xs.set j x') A' ∧ A'.Perm (B' ++ R)
  | [], _, _, _, _, _, e => by simp at e
  | o :: os, _, _, 0, _, ⟨x, r, B, C, e, eA, h, t⟩, z => by
    cases z
    refine ⟨x, B, C, by rw [e]; rfl, h, by rw [eA], fun F' H' o' B' x' y h' => ⟨B' ++ C, ⟨x', r, B', C, by rw [e]; rfl, rfl, h', t.stay y⟩, List.Perm.refl _⟩⟩
  | o :: os, _, _, j + 1, _, ⟨x, r, B, C, e, eA, h, t⟩, z => by
    obtain ⟨x1, B1, R1, h1, h2, h3, h4⟩ := RepOL.focus (j := j) t z
    refine ⟨x1, B1, B ++ R1, by rw [e]; exact h1, h2, by rw [eA]; exact perm_in h3, fun F' H' o' B' x' y h' => ?_⟩
    obtain ⟨A', q1, q2⟩ := h4 F' H' o' B' x' (y.sub fun a ha => List.mem_append_right _ ha) h'
    exact ⟨B ++ A', ⟨x, _, B, A', by rw [e]; rfl, rfl, h.stay (y.sub fun a ha => List.mem_append_left _ ha), q1⟩, perm_in q2⟩
theorem RepOF.focus {F H : Hp} {f : Str} : ∀ {os : List (Str × O)} {xs : List (Str × V)} {A : List Addr} {o : O}, RepOF F H os xs A → os.lookup f = some o →
    ∃ x B R, xs.lookup f = some x ∧ RepO F H o x B ∧ A.Perm (B ++ R) ∧ ∀ F' H' o' B', Stay F H R F' H' → RepO F' H' o' x B' → ∃ A', RepOF F' H' (putA f o' os) xs A' ∧ A'.Perm (B' ++ R)
  | [], _, _, _, _, e => by cases e
  | (k, o) :: os, _, _, o0, ⟨x, r, B, C, e, eA, h, t⟩, z => by
    unfold List.lookup at z
    cases hk : f == k with
    | true =>
      rw [hk] at z
      cases z
      refine ⟨x, B, C, by rw [e]; unfold List.lookup; rw [hk], h, by rw [eA], fun F' H' o' B' y h' => ⟨B' ++ C, ?_, List.Perm.refl _⟩⟩
      unfold putA
      rw [if_pos hk]
      exact ⟨x, r, B', C, e, rfl, h', t.stay y⟩
    | false =>
      rw [hk] at z
      obtain ⟨x1, B1, R1, h1, h2, h3, h4⟩ := RepOF.focus t z
      refine ⟨x1, B1, B ++ R1, by rw [e]; unfold List.lookup; rw [hk]; exact h1, h2, by rw [eA]; exact perm_in h3, fun F' H' o' B' y h' => ?_⟩
      obtain ⟨A', q1, q2⟩ := h4 F' H' o' B' (y.sub fun a ha => List.mem_append_right _ ha) h'
      refine ⟨B ++ A', ?_, perm_in q2⟩
      unfold putA
      rw [if_neg (by rw [hk]; exact Bool.false_ne_true)]
      exact ⟨x, r, B, A', e, rfl, h.stay (y.sub fun a ha => List.mem_append_left _ ha), q1⟩
/-- a part of an owned object taken out, and put back changed -/
theorem RepO.focus {F H : Hp} : ∀ {p : List PSt} {o : O} {y x : V} {A : List Addr} {o1 : O}, RepO F H o y A → o.at p = some o1 → PathV H y p x →
    ∃ B R, RepO F H o1 x B ∧ A.Perm (B ++ R) ∧ ∀ F' H' o' B', Stay F H R F' H' → RepO F' H' o' x B' → ∃ A', RepO F' H' (o.put p o') y A' ∧ A'.Perm (B' ++ R)
  | [], o, y, x, A, o1, h, e, v => by
    have e1 : o = o1 := by unfold O.at at e; exact Option.some.inj e
    have e2 : y = x := v
    subst e1
    subst e2
    refine ⟨A, [], h, by rw [List.append_nil], fun F' H' o' B' s h' => ⟨B', ?_, by rw [List.append_nil]⟩⟩
    unfold O.put
    exact h'
  | .ix j :: p, o, y, x, A, o1, h, e, v => by
    cases o with
    | lst os =>
      unfold O.at at e
      cases ej : os[j]? with
      | none => rw [ej] at e; cases e
      | some o2 =>
        rw [ej] at e
        obtain ⟨a, xs, B, ey, eA, ha, r⟩ := h
        obtain ⟨b, xs', z, ey', hb, hz, v'⟩ := v
        rw [ey] at ey'
        cases ey'
        rw [ha] at hb
        cases hb
        obtain ⟨z', B1, R1, g1, g2, g3, g4⟩ := RepOL.focus r ej
        rw [hz] at g1
        cases g1
        obtain ⟨B2, R2, k1, k2, k3⟩ := RepO.focus (p := p) g2 e v'
        have pm : A.Perm (B2 ++ (a :: (R2 ++ R1))) := by
          rw [eA]
          exact ((List.Perm.cons a (g3.trans (perm_inR k2))).trans (List.perm_middle (l₁ := B2) (l₂ := R2 ++ R1) (a := a)).symm)
        refine ⟨B2, a :: (R2 ++ R1), k1, pm, fun F' H' o' B' s h' => ?_⟩
        obtain ⟨A1, m1, m2⟩ := k3 F' H' o' B' (s.sub fun c hc => List.mem_cons_of_mem _ (List.mem_append_left _ hc)) h'
        obtain ⟨A2, m3, m4⟩ := g4 F' H' _ A1 z (s.sub fun c hc => List.mem_cons_of_mem _ (List.mem_append_right _ hc)) m1
        rw [set_self hz] at m3
        refine ⟨a :: A2, ?_, ?_⟩
        · unfold O.put
          rw [ej]
          exact ⟨a, xs, A2, ey, rfl, s.h a List.mem_cons_self _ ha, m3⟩
        · exact (List.Perm.cons a (m4.trans (perm_inR m2))).trans (List.perm_middle (l₁ := B') (l₂ := R2 ++ R1) (a := a)).symm
    | fr d => unfold O.at at e; cases e
    | dct t d => unfold O.at at e; cases e
    | ins C d => unfold O.at at e; cases e
  | .fld f :: p, o, y, x, A, o1, h, e, v => by
    cases o with
    | ins C gs =>
      unfold O.at at e
      cases ej : gs.lookup f with
      | none => rw [ej] at e; cases e
      | some o2 =>
        rw [ej] at e
        obtain ⟨a, dx, xs, B, ey, eA, ha, r⟩ := h
        obtain ⟨b, C', dx', xs', z, ey', hb, hz, v'⟩ := v
        rw [ey] at ey'
        cases ey'
        rw [ha] at hb
        cases hb
        obtain ⟨z', B1, R1, g1, g2, g3, g4⟩ := RepOF.focus r ej
        rw [hz] at g1
        cases g1
        obtain ⟨B2, R2, k1, k2, k3⟩ := RepO.focus (p := p) g2 e v'
        have pm : A.Perm (B2 ++ (a :: (R2 ++ R1))) := by
          rw [eA]
          exact ((List.Perm.cons a (g3.trans (perm_inR k2))).trans (List.perm_middle (l₁ := B2) (l₂ := R2 ++ R1) (a := a)).symm)
        refine ⟨B2, a :: (R2 ++ R1), k1, pm, fun F' H' o' B' s h' => ?_⟩
        obtain ⟨A1, m1, m2⟩ := k3 F' H' o' B' (s.sub fun c hc => List.mem_cons_of_mem _ (List.mem_append_left _ hc)) h'
        obtain ⟨A2, m3, m4⟩ := g4 F' H' _ A1 (s.sub fun c hc => List.mem_cons_of_mem _ (List.mem_append_right _ hc)) m1
        refine ⟨a :: A2, ?_, ?_⟩
        · unfold O.put
          rw [ej]
          exact ⟨a, dx, xs, A2, ey, rfl, s.h a List.mem_cons_self _ ha, m3⟩
        · exact (List.Perm.cons a (m4.trans (perm_inR m2))).trans (List.perm_middle (l₁ := B') (l₂ := R2 ++ R1) (a := a)).symm
    | fr d => unfold O.at at e; cases e
    | dct t d => unfold O.at at e; cases e
    | lst d => unfold O.at at e; cases e

/-! ### results -/
/-- what an expression tells: data or an object no one has; a part of what a slot owns -/
inductive R where
  | o (x : O) | p (i : Nat) (path : List PSt)
abbrev R.d (x : D) : R := .o (.fr x)
def S.cont : S → Option O
  | .un => none
  | .ow o => some o
  | .bo o => some o
def S.re : S → O → S
  | .un, _ => .un
  | .ow _, o => .ow o
  | .bo _, o => .bo o
def contAt (env : DEnv) (i : Nat) (p : List PSt) : Option O := match env[i]? with
  | some s => (match s.cont with
    | some o => o.at p
    | none => none)
  | none => none
def RepR (F H : Hp) (σ : L2.St) (A : List Addr) : R → V → List Addr → Prop
  | .o o, x, C => RepO F H o x C ∧ (A ++ C).Nodup ∧ ∀ a ∈ C, F a = none
  | .p i path, x, C => C = [] ∧ ∃ y, σ[i]? = some (some y) ∧ PathV H y path x
theorem RepSl.cont {F H : Hp} {s : S} {o : O} {v : Option V} {A : List Addr} (h : RepSl F H s v A) (e : s.cont = some o) : ∃ x, v = some x ∧ RepO F H o x A := by
  cases s with
  | un => cases e
  | ow o' => cases e; exact h
  | bo o' => cases e; exact h
theorem RepSl.re {F H : Hp} {s : S} {o o' : O} {x : V} {A : List Addr} (e : s.cont = some o) (h : RepO F H o' x A) : RepSl F H (s.re o') (some x) A := by
  cases s with
  | un => cases e
  | ow _ => exact ⟨x, rfl, h⟩
  | bo _ => exact ⟨x, rfl, h⟩
theorem RepS.focus {F H : Hp} {env : DEnv} {σ : L2.St} {A : List Addr} {i : Nat} {s : S} {o o1 : O} {path : List PSt} {x y : V} (g : RepS F H env σ A) (hs : env[i]? = some s) (hc : s.cont = some o) (ha : o.at path = some o1)
    (hy : σ[i]? = some (some y)) (hv : PathV H y path x) : ∃ B R, RepO F H o1 x B ∧ A.Perm (B ++ R) ∧ ∀ F' H' o' B', Stay F H R F' H' → RepO F' H' o' x B' → ∃ A', RepS F' H' (env.set i (s.re (o.put path o'))) σ A' ∧ A'.Perm (B' ++ R) := by
  obtain ⟨v, B0, R0, h1, h2, h3, h4⟩ := g.out hs
  obtain ⟨x0, ev, ro⟩ := h2.cont hc
  rw [hy] at h1
  cases h1
  cases ev
  obtain ⟨B, R1, k1, k2, k3⟩ := ro.focus ha hv
  refine ⟨B, R1 ++ R0, k1, h3.trans (perm_inR k2), fun F' H' o' B' st r' => ?_⟩
  obtain ⟨A1, m1, m2⟩ := k3 F' H' o' B' (st.sub fun a h => List.mem_append_left _ h) r'
  have h5 := h4.stay (st.sub fun a h => List.mem_append_right _ h)
  obtain ⟨A', p1, p2⟩ := RepS.put (RepSl.re hc m1) h5 (get_set hs)
  refine ⟨A', ?_, p1.trans (perm_inR m2)⟩
  rw [List.set_set] at p2
  rw [set_self hy] at p2
  exact p2
/-! ### freezing -/
def frzH (F H : Hp) (B : List Addr) : Hp := fun a => if a ∈ B then H a else F a
theorem frzH_in {F H : Hp} {B : List Addr} {a : Addr} (h : a ∈ B) : frzH F H B a = H a := if_pos h
theorem frzH_out {F H : Hp} {B : List Addr} {a : Addr} (h : a ∉ B) : frzH F H B a = F a := if_neg h
theorem frzH_f {F H : Hp} {B : List Addr} (d : ∀ a ∈ B, F a = none) : Same F (frzH F H B) := fun a o e => by
  rw [frzH_out (fun m => by rw [d a m] at e; cases e)]
  exact e
theorem frzH_h {F H : Hp} {B : List Addr} (s : Same F H) : Same (frzH F H B) H := fun a o e => by
  by_cases m : a ∈ B
  · rw [frzH_in m] at e; exact e
  · rw [frzH_out m] at e; exact s a o e
theorem frzH_new {F H : Hp} {B : List Addr} {a : Addr} (h : frzH F H B a ≠ none) : F a ≠ none ∨ a ∈ B := by
  by_cases m : a ∈ B
  · exact .inr m
  · rw [frzH_out m] at h; exact .inl h
theorem RepO.frozen {F H : Hp} {o : O} {x : V} {B : List Addr} (s : Same F H) (d : ∀ a ∈ B, F a = none) (h : RepO F H o x B) : Rep (frzH F H B) o.frz x :=
  h.frz (frzH_f d).sm fun a m u e => by rw [frzH_in m]; exact e
def bor? (env env' : DEnv) : Prop := ∀ (i : Nat) (o : O), env[i]? = some (S.bo o) → ∃ o' : O, env'[i]? = some (S.bo o')
theorem bor_re {env : DEnv} {i : Nat} {s : S} {o : O} (hs : env[i]? = some s) : ∀ (j : Nat) (u : O), env[j]? = some (S.bo u) → ∃ o' : O, (env.set i (s.re o))[j]? = some (S.bo o') := fun j u h => by
  by_cases e : i = j
  · subst e
    rw [hs] at h
    cases h
    exact ⟨o, get_set hs⟩
  · rw [List.getElem?_set_ne e]
    exact ⟨u, h⟩
theorem nodup_l {A B : List Addr} (h : (A ++ B).Nodup) : A.Nodup := (List.nodup_append.mp h).1
theorem nodup_r {A B : List Addr} (h : (A ++ B).Nodup) : B.Nodup := (List.nodup_append.mp h).2.1
theorem nodup_d {A B : List Addr} (h : (A ++ B).Nodup) {a : Addr} (x : a ∈ A) (y : a ∈ B) : False := (List.nodup_append.mp h).2.2 a x a y rfl
theorem Good.frz {F H : Hp} {env : DEnv} {σ : L2.St} {A : List Addr} {i : Nat} {s : S} {o o1 : O} {path : List PSt} {x y : V} (g : Good F H env σ A) (hs : env[i]? = some s) (hc : s.cont = some o) (ha : o.at path = some o1)
    (hy : σ[i]? = some (some y)) (hv : PathV H y path x) : ∃ F' A', Good F' H (env.set i (s.re (o.put path (.fr o1.frz)))) σ A' ∧ Step F H env σ A F' H (env.set i (s.re (o.put path (.fr o1.frz)))) σ A' ∧ Rep F' o1.frz x := by
  obtain ⟨B, R, h1, h2, h3⟩ := g.rep.focus hs hc ha hy hv
  have nd : (B ++ R).Nodup := h2.nodup_iff.mp g.nd
  have dB : ∀ a ∈ B, F a = none := fun a m => g.dis a (h2.mem_iff.mpr (List.mem_append_left _ m))
  have dR : ∀ a ∈ R, F a = none := fun a m => g.dis a (h2.mem_iff.mpr (List.mem_append_right _ m))
  have rp := h1.frozen g.sub dB
  obtain ⟨A', p1, p2⟩ := h3 (frzH F H B) H (.fr o1.frz) [] ⟨(frzH_f dB).sm, fun _ _ _ h => h⟩ ⟨rfl, rp⟩
  have mA : ∀ a ∈ A', a ∈ R := fun a m => p2.mem_iff.mp m
  refine ⟨frzH F H B, A', ⟨frzH_h g.sub, p1, p2.nodup_iff.mpr (by rw [List.nil_append]; exact nodup_r nd), fun a m => ?_⟩, ⟨(frzH_f dB).sm, fun _ _ h _ _ => h, fun _ h => h, fun a m => .inl (h2.mem_iff.mpr (List.mem_append_right _ (mA a m))), fun a h => ?_, fun j u h => ?_⟩, rp⟩
  · rw [frzH_out (fun z => nodup_d nd z (mA a m))]
    exact dR a (mA a m)
  · exact (frzH_new h).elim .inl fun z => .inr (.inl (h2.mem_iff.mpr (List.mem_append_left _ z)))
  · obtain ⟨o', e⟩ := bor_re (o := o.put path (.fr o1.frz)) hs j u h
    exact ⟨o', e, rfl⟩
/-- a result as data -/
def force (r : R) (env : DEnv) (P : D → DEnv → Prop) : Prop := match r with
  | .o o => P o.frz env
  | .p i path => match env[i]? with
    | some (.ow o) => (match o.at path with
      | some o1 => P o1.frz (env.set i (.ow (o.put path (.fr o1.frz))))
      | none => False)
    | some (.bo o) => (match path with
      | [] => False
      | _ => (match o.at path with
        | some o1 => P o1.frz (env.set i (.bo (o.put path (.fr o1.frz))))
        | none => False))
    | _ => False
section
variable {F H : Hp} {env : DEnv} {σ : L2.St} {A C : List Addr} {r : R} {x : V}
theorem Good.frzO {o : O} (g : Good F H env σ A) (hr : RepR F H σ A (.o o) x C) : Good (frzH F H C) H env σ A ∧ Step F H env σ (A ++ C) (frzH F H C) H env σ A ∧ Rep (frzH F H C) o.frz x := by
  obtain ⟨h1, h2, h3⟩ := hr
  refine ⟨⟨frzH_h g.sub, g.rep.stay ⟨(frzH_f h3).sm, fun _ _ _ h => h⟩, g.nd, fun a m => ?_⟩, ⟨(frzH_f h3).sm, fun _ _ h _ _ => h, fun _ h => h, fun a m => .inl (List.mem_append_left _ m), fun a h => ?_, fun _ _ h => ⟨_, h, rfl⟩⟩, h1.frozen g.sub h3⟩
  · rw [frzH_out (fun z => nodup_d h2 m z)]
    exact g.dis a m
  · exact (frzH_new h).elim .inl fun z => .inr (.inl (List.mem_append_right _ z))
theorem force_ok {P : D → DEnv → Prop} (g : Good F H env σ A) (hr : RepR F H σ A r x C) (h : force r env P) : ∃ F' A' d env', P d env' ∧ Good F' H env' σ A' ∧ Step F H env σ (A ++ C) F' H env' σ A' ∧ Rep F' d x := by
  cases r with
  | o o =>
    obtain ⟨h1, h2, h3⟩ := g.frzO hr
    exact ⟨_, A, _, env, h, h1, h2, h3⟩
  | p i path =>
    obtain ⟨rfl, y, hy, hv⟩ := hr
    rw [List.append_nil]
    unfold force at h
    simp only at h
    cases e : env[i]? with
    | none => rw [e] at h; exact h.elim
    | some s =>
      rw [e] at h
      cases s with
      | un => exact h.elim
      | ow o =>
        simp only at h
        cases e1 : o.at path with
        | none => rw [e1] at h; exact h.elim
        | some o1 =>
          rw [e1] at h
          obtain ⟨F', A', k1, k2, k3⟩ := g.frz e rfl e1 hy hv
          exact ⟨F', A', _, _, h, k1, k2, k3⟩
      | bo o =>
        cases path with
        | nil => exact h.elim
        | cons p0 pr =>
          simp only at h
          cases e1 : o.at (p0 :: pr) with
          | none => rw [e1] at h; exact h.elim
          | some o1 =>
            rw [e1] at h
            obtain ⟨F', A', k1, k2, k3⟩ := g.frz e rfl e1 hy hv
            exact ⟨F', A', _, _, h, k1, k2, k3⟩
/-- a result as an object -/
def toO (r : R) (env : DEnv) (P : O → DEnv → Prop) : Prop := match r with
  | .o o => P o env
  | .p i path => force (.p i path) env fun d => P (.fr d)
theorem toO_ok {P : O → DEnv → Prop} (g : Good F H env σ A) (hr : RepR F H σ A r x C) (h : toO r env P) : ∃ F' A' o env' C', P o env' ∧ Good F' H env' σ A' ∧ Step F H env σ (A ++ C) F' H env' σ (A' ++ C') ∧ RepR F' H σ A' (.o o) x C' := by
  cases r with
  | o o => exact ⟨F, A, o, env, C, h, g, .refl, hr⟩
  | p i path =>
    have h' : force (.p i path) env fun d => P (.fr d) := h
    obtain ⟨F', A', d, env', h1, h2, h3, h4⟩ := force_ok g hr h'
    refine ⟨F', A', .fr d, env', [], h1, h2, ?_, ⟨rfl, h4⟩, ?_, fun _ h => nomatch h⟩
    · rw [List.append_nil]; exact h3
    · rw [List.append_nil]; exact h2.nd
/-! ### peeking -/
def frL : List O → Option (List D)
  | [] => some []
  | .fr d :: r => (match frL r with
    | some ds => some (d :: ds)
    | none => none)
  | _ => none
def frM : List (List Key × O) → Option (List (List Key × D))
  | [] => some []
  | (k, .fr d) :: r => (match frM r with
    | some ds => some ((k, d) :: ds)
    | none => none)
  | _ => none
def frF : List (Str × O) → Option (List (Str × D))
  | [] => some []
  | (k, .fr d) :: r => (match frF r with
    | some ds => some ((k, d) :: ds)
    | none => none)
  | _ => none
def O.flat : O → Option D
  | .fr d => some d
  | .lst os => (match frL os with
    | some ds => some (.lst ds)
    | none => none)
  | .dct t os => (match frM os with
    | some ds => some (.dct t ds)
    | none => none)
  | .ins C os => (match frF os with
    | some ds => some (.ins C ds)
    | none => none)
theorem frL_ok {F H : Hp} : ∀ {os : List O} {ds : List D} {xs : List V} {A : List Addr}, frL os = some ds → RepOL F H os xs A → RepL F ds xs ∧ A = []
  | [], _, _, _, e, h => by cases e; exact h
  | .fr d :: os, ds, xs, A, e, ⟨x, r, B, C, e1, e2, ⟨e3, h⟩, t⟩ => by
    unfold frL at e
    cases q : frL os with
    | none => rw [q] at e; cases e
    | some ds' =>
      rw [q] at e
      cases e
      obtain ⟨h1, h2⟩ := frL_ok q t
      exact ⟨⟨x, r, e1, h, h1⟩, by rw [e2, e3, h2]; rfl⟩
  | .lst _ :: _, _, _, _, e, _ => by cases e
  | .dct _ _ :: _, _, _, _, e, _ => by cases e
  | .ins _ _ :: _, _, _, _, e, _ => by cases e
theorem frM_ok {F H : Hp} : ∀ {os : List (List Key × O)} {ds : List (List Key × D)} {xs : List (List Key × V)} {A : List Addr}, frM os = some ds → RepOM F H os xs A → RepM F ds xs ∧ A = []
  | [], _, _, _, e, h => by cases e; exact h
  | (k, .fr d) :: os, ds, xs, A, e, ⟨x, r, B, C, e1, e2, ⟨e3, h⟩, t⟩ => by
    unfold frM at e
    cases q : frM os with
    | none => rw [q] at e; cases e
    | some ds' =>
      rw [q] at e
      cases e
      obtain ⟨h1, h2⟩ := frM_ok q t
      exact ⟨⟨x, r, e1, h, h1⟩, by rw [e2, e3, h2]; rfl⟩
  | (_, .lst _) :: _, _, _, _, e, _ => by cases e
  | (_, .dct _ _) :: _, _, _, _, e, _ => by cases e
  | (_, .ins _ _) :: _, _, _, _, e, _ => by cases e
theorem frF_ok {F H : Hp} : ∀ {os : List (Str × O)} {ds : List (Str × D)} {xs : List (Str × V)} {A : List Addr}, frF os = some ds → RepOF F H os xs A → RepF F ds xs ∧ A = []
  | [], _, _, _, e, h => by cases e; exact h
  | (k, .fr d) :: os, ds, xs, A, e, ⟨x, r, B, C, e1, e2, ⟨e3, h⟩, t⟩ => by
    unfold frF at e
    cases q : frF os with
    | none => rw [q] at e; cases e
    | some ds' =>
      rw [q] at e
      cases e
      obtain ⟨h1, h2⟩ := frF_ok q t
      exact ⟨⟨x, r, e1, h, h1⟩, by rw [e2, e3, h2]; rfl⟩
  | (_, .lst _) :: _, _, _, _, e, _ => by cases e
  | (_, .dct _ _) :: _, _, _, _, e, _ => by cases e
  | (_, .ins _ _) :: _, _, _, _, e, _ => by cases e
theorem flat_ok {F H : Hp} (s : Same F H) {o : O} {d : D} {x : V} {A : List Addr} (e : o.flat = some d) (h : RepO F H o x A) : RepP F H d x := by
  cases o with
  | fr d' => cases e; exact h.2.toP s
  | lst os =>
    unfold O.flat at e
    simp only at e
    cases q : frL os with
    | none => rw [q] at e; cases e
    | some ds =>
      rw [q] at e
      cases e
      obtain ⟨a, xs, B, e1, e2, e3, r⟩ := h
      exact ⟨a, xs, e1, e3, (frL_ok q r).1⟩
  | dct t os =>
    unfold O.flat at e
    simp only at e
    cases q : frM os with
    | none => rw [q] at e; cases e
    | some ds =>
      rw [q] at e
      cases e
      obtain ⟨a, o, xs, B, e1, e2, e3, c, r⟩ := h
      exact ⟨a, o, xs, e1, e3, by rw [c.core]; exact c, (frM_ok q r).1⟩
  | ins c os =>
    unfold O.flat at e
    simp only at e
    cases q : frF os with
    | none => rw [q] at e; cases e
    | some ds =>
      rw [q] at e
      cases e
      obtain ⟨a, dx, xs, B, e1, e2, e3, r⟩ := h
      exact ⟨a, dx, xs, e1, e3, (frF_ok q r).1⟩
def peek (r : R) (env : DEnv) : Option D := match r with
  | .o o => o.flat
  | .p i path => (match contAt env i path with
    | some o => o.flat
    | none => none)
theorem contAt_ok {i : Nat} {path : List PSt} {o1 : O} (h : contAt env i path = some o1) : ∃ s o, env[i]? = some s ∧ s.cont = some o ∧ o.at path = some o1 := by
  unfold contAt at h
  cases e : env[i]? with
  | none => rw [e] at h; cases h
  | some s =>
    rw [e] at h
    simp only at h
    cases e1 : s.cont with
    | none => rw [e1] at h; cases h
    | some o => rw [e1] at h; exact ⟨s, o, rfl, e1, h⟩
theorem peek_ok {d : D} (g : Good F H env σ A) (hr : RepR F H σ A r x C) (h : peek r env = some d) : RepP F H d x := by
  cases r with
  | o o => exact flat_ok g.sub h hr.1
  | p i path =>
    obtain ⟨rfl, y, hy, hv⟩ := hr
    unfold peek at h
    simp only at h
    cases e : contAt env i path with
    | none => rw [e] at h; cases h
    | some o1 =>
      rw [e] at h
      obtain ⟨s, o, h1, h2, h3⟩ := contAt_ok e
      obtain ⟨B, R, k1, _, _⟩ := g.rep.focus h1 h2 h3 hy hv
      exact flat_ok g.sub h k1
/-- there is one, and P of it -/
def oth {α : Type} (o : Option α) (P : α → Prop) : Prop := match o with
  | some a => P a
  | none => False
theorem oth_ok {α : Type} {o : Option α} {P : α → Prop} (h : oth o P) : ∃ a, o = some a ∧ P a := by
  cases o with
  | none => exact h.elim
  | some a => exact ⟨a, rfl, h⟩
/-- an operand that stays while the next one is found -/
def nrm (r : R) (P : R → Prop) : Prop := match r with
  | .o o => P (.d o.frz)
  | .p i [] => P (.p i [])
  | .p _ _ => False
def Per (F : Hp) (σ : L2.St) : R → V → Prop
  | .o (.fr d), x => Rep F d x
  | .p i [], x => σ[i]? = some (some x)
  | _, _ => False
theorem Per.mono {F F' : Hp} (s : Sm F F') {σ : L2.St} {r : R} {x : V} (h : Per F σ r x) : Per F' σ r x := by
  cases r with
  | o o =>
    cases o with
    | fr d => exact Rep.mono s h
    | _ => exact h
  | p i path =>
    cases path with
    | nil => exact h
    | cons a b => exact h
theorem Per.rep {r : R} {x : V} (g : Good F H env σ A) (h : Per F σ r x) : RepR F H σ A r x [] := by
  cases r with
  | o o =>
    cases o with
    | fr d => exact ⟨⟨rfl, h⟩, by rw [List.append_nil]; exact g.nd, fun _ h => nomatch h⟩
    | _ => exact h.elim
  | p i path =>
    cases path with
    | nil => exact ⟨rfl, x, h, rfl⟩
    | cons a b => exact h.elim
theorem nrm_ok {P : R → Prop} (g : Good F H env σ A) (hr : RepR F H σ A r x C) (h : nrm r P) : ∃ F' r', P r' ∧ Good F' H env σ A ∧ Step F H env σ (A ++ C) F' H env σ A ∧ Per F' σ r' x := by
  cases r with
  | o o =>
    obtain ⟨h1, h2, h3⟩ := g.frzO hr
    exact ⟨_, _, h, h1, h2, h3⟩
  | p i path =>
    cases path with
    | nil =>
      obtain ⟨rfl, y, hy, hv⟩ := hr
      have e : y = x := hv
      subst e
      rw [List.append_nil]
      exact ⟨F, _, h, g, .refl, hy⟩
    | cons a b => exact h.elim
end
/-! ### the judgements -/
structure DExc where
  cls : Value
  fs : Option (List (Str × D))
def RepX (F : Hp) (e : DExc) (cls : Value) (dd : Option Addr) : Prop := cls = e.cls ∧ match e.fs with
  | none => dd = none
  | some gs => ∃ a xs, dd = some a ∧ F a = some (.xd xs) ∧ RepF F gs xs
abbrev DX := DExc → DEnv → Prop
abbrev DTE := DEnv → (R → DEnv → Prop) → DX → Prop
abbrev DTT := DEnv → (Bool → DEnv → Prop) → DX → Prop
abbrev DTA := DEnv → (List R → DEnv → Prop) → DX → Prop
abbrev DTV := DEnv → (List D → DEnv → Prop) → DX → Prop
abbrev DPE := DEnv → (R → Prop) → Prop
structure DEnds where
  nx : DEnv → Prop
  rt : O → DEnv → Prop
  bk : DEnv → Prop
  ct : DEnv → Prop
  ex : DX
abbrev DTS := DEnds → DEnv → Prop
def XOk (F H : Hp) (env : DEnv) (σ : L2.St) (A : List Addr) (W : WX) (X : DX) : Prop := ∀ cls dd e env' σ' F' H' A', Good F' H' env' σ' A' → Step F H env σ A F' H' env' σ' A' → RepX F' e cls dd → X e env' → W cls dd σ' H'
theorem XOk.step {F H F' H' : Hp} {env env' : DEnv} {σ σ' : L2.St} {A A' : List Addr} {W : WX} {X : DX} (x : XOk F H env σ A W X) (s : Step F H env σ A F' H' env' σ' A') : XOk F' H' env' σ' A' W X :=
  fun cls dd e e' σ'' F'' H'' A'' g t => x cls dd e e' σ'' F'' H'' A'' g (s.trans t)
def SimE (W : WX) (t : TE) (d : DTE) : Prop := ∀ (F H : Hp) (env : DEnv) (σ : L2.St) (A : List Addr) (Q : VK) (P : R → DEnv → Prop) (X : DX), Good F H env σ A → d env P X → XOk F H env σ A W X →
  (∀ x r env' F' H' A' C, Good F' H' env' σ A' → Step F H env σ A F' H' env' σ (A' ++ C) → RepR F' H' σ A' r x C → P r env' → Q x H') → t σ H Q
def SimT (W : WX) (t : TT) (d : DTT) : Prop := ∀ (F H : Hp) (env : DEnv) (σ : L2.St) (A : List Addr) (Q : Bool → Hp → Prop) (P : Bool → DEnv → Prop) (X : DX), Good F H env σ A → d env P X → XOk F H env σ A W X →
  (∀ b env' F' H' A', Good F' H' env' σ A' → Step F H env σ A F' H' env' σ A' → P b env' → Q b H') → t σ H Q
def RepRs (F H : Hp) (σ : L2.St) (A : List Addr) : List R → List V → List Addr → Prop
  | [], xs, C => xs = [] ∧ C = []
  | [r], xs, C => ∃ x, xs = [x] ∧ RepR F H σ A r x C
  | r :: rs, xs, C => ∃ x ys, xs = x :: ys ∧ Per F σ r x ∧ RepRs F H σ A rs ys C
def SimA (W : WX) (t : TA) (d : DTA) : Prop := ∀ (F H : Hp) (env : DEnv) (σ : L2.St) (A : List Addr) (Q : List V → Hp → Prop) (P : List R → DEnv → Prop) (X : DX), Good F H env σ A → d env P X → XOk F H env σ A W X →
  (∀ xs rs env' F' H' A' C, Good F' H' env' σ A' → Step F H env σ A F' H' env' σ (A' ++ C) → RepRs F' H' σ A' rs xs C → P rs env' → Q xs H') → t σ H Q
def SimV (W : WX) (t : TA) (d : DTV) : Prop := ∀ (F H : Hp) (env : DEnv) (σ : L2.St) (A : List Addr) (Q : List V → Hp → Prop) (P : List D → DEnv → Prop) (X : DX), Good F H env σ A → d env P X → XOk F H env σ A W X →
  (∀ xs ds env' F' H' A', Good F' H' env' σ A' → Step F H env σ A F' H' env' σ A' → RepL F' ds xs → P ds env' → Q xs H') → t σ H Q
structure EndsOk (F H : Hp) (env : DEnv) (σ : L2.St) (A : List Addr) (W : WX) (E : Ends) (DD : DEnds) : Prop where
  nx : ∀ env' σ' F' H' A', Good F' H' env' σ' A' → Step F H env σ A F' H' env' σ' A' → DD.nx env' → E.nx σ' H'
  bk : ∀ env' σ' F' H' A', Good F' H' env' σ' A' → Step F H env σ A F' H' env' σ' A' → DD.bk env' → E.bk σ' H'
  ct : ∀ env' σ' F' H' A', Good F' H' env' σ' A' → Step F H env σ A F' H' env' σ' A' → DD.ct env' → E.ct σ' H'
  rt : ∀ x o env' σ' F' H' A' C, Good F' H' env' σ' A' → Step F H env σ A F' H' env' σ' (A' ++ C) → RepR F' H' σ' A' (.o o) x C → DD.rt o env' → E.rt x H'
  ex : XOk F H env σ A W DD.ex
theorem EndsOk.step {F H F' H' : Hp} {env env' : DEnv} {σ σ' : L2.St} {A A' : List Addr} {W : WX} {E : Ends} {DD : DEnds} (x : EndsOk F H env σ A W E DD) (s : Step F H env σ A F' H' env' σ' A') : EndsOk F' H' env' σ' A' W E DD :=
  ⟨fun e σ' F' H' A' g t => x.nx e σ' F' H' A' g (s.trans t), fun e σ' F' H' A' g t => x.bk e σ' F' H' A' g (s.trans t), fun e σ' F' H' A' g t => x.ct e σ' F' H' A' g (s.trans t), fun v o e σ' F' H' A' C g t => x.rt v o e σ' F' H' A' C g (s.trans t), x.ex.step s⟩
def SimS (W : WX) (t : TS) (d : DTS) : Prop := ∀ (F H : Hp) (env : DEnv) (σ : L2.St) (A : List Addr) (E : Ends) (DD : DEnds), Good F H env σ A → d DD env → EndsOk F H env σ A W E DD → t E σ H

/-- .. and leaves the slots -/
def SimP (t : TE) (d : DTE) : Prop := ∀ (F H : Hp) (env : DEnv) (σ : L2.St) (A : List Addr) (Q : VK) (P : R → DEnv → Prop) (X : DX), Good F H env σ A → d env P X →
  (∀ x r F' H' C, Ext F H F' H' C → RepR F' H' σ A r x C → P r env → Q x H') → t σ H Q
theorem SimP.e {W : WX} {t : TE} {d : DTE} (s : SimP t d) : SimE W t d := fun F H env σ A Q P X g h _ k => s F H env σ A Q P X g h fun x r F' H' C e r' p => k x r env F' H' A C (e.good g) e.step r' p
theorem PathV.mono {H H' : Hp} (s : Sm H H') : ∀ {p : List PSt} {y x : V}, PathV H y p x → PathV H' y p x
  | [], _, _, h => h
  | .ix j :: p, _, _, ⟨a, xs, z, e, h, hz, t⟩ => ⟨a, xs, z, e, s.ex rfl h, hz, PathV.mono s t⟩
  | .fld f :: p, _, _, ⟨a, C, dx, fs, z, e, h, hz, t⟩ => ⟨a, C, dx, fs, z, e, s.ex rfl h, hz, PathV.mono s t⟩
section
variable {F H F' H' : Hp} {env : DEnv} {σ : L2.St} {A C C' : List Addr} {r : R} {x : V}
theorem RepR.there {o : O} (h : RepR F H σ A (.o o) x C) : ∀ a ∈ C, H a ≠ none := h.1.there
theorem RepR.ext (e : Ext F H F' H' C') (h : RepR F H σ A r x C) : RepR F' H' σ A r x C := by
  cases r with
  | o o =>
    obtain ⟨h1, h2, h3⟩ := h
    refine ⟨h1.stay ⟨e.f, fun a m o k => e.hx a o k (h3 a m)⟩, h2, fun a m => ?_⟩
    cases q : F' a with
    | none => rfl
    | some u =>
      rcases e.fnew a (by rw [q]; exact Option.some_ne_none _) with z | z
      · exact absurd (h3 a m) z
      · exact absurd z (h1.there a m)
  | p i path =>
    obtain ⟨h1, y, h2, h3⟩ := h
    exact ⟨h1, y, h2, h3.mono e.h⟩
/-- a new object -/
theorem RepR.new {o : O} (g : Good F H env σ A) (e : Ext F H F' H' C) (h : RepO F' H' o x C) (nd : C.Nodup) (d : ∀ a ∈ C, F' a = none) : RepR F' H' σ A (.o o) x C :=
  ⟨h, List.nodup_append.mpr ⟨g.nd, nd, fun a ha b hb z => by subst z; exact g.rep.there a ha (e.cnew a hb)⟩, d⟩
end
/-- an operation on values -/
def SimR2 (r : R2) (dr : D → D → (O → Prop) → Prop) : Prop := ∀ (F H : Hp) (x y : V) (d e : D) (P : O → Prop) (Q : VK), Same F H → RepP F H d x → RepP F H e y → dr d e P →
  (∀ z o F' H' C, Ext F H F' H' C → RepO F' H' o z C → C.Nodup → (∀ a ∈ C, F' a = none) → P o → Q z H') → r x y H Q
def SimR1 (r : V → Hp → VK → Prop) (dr : D → (O → Prop) → Prop) : Prop := ∀ (F H : Hp) (x : V) (d : D) (P : O → Prop) (Q : VK), Same F H → RepP F H d x → dr d P →
  (∀ z o F' H' C, Ext F H F' H' C → RepO F' H' o z C → C.Nodup → (∀ a ∈ C, F' a = none) → P o → Q z H') → r x H Q
def RepPL (F H : Hp) : List D → List V → Prop
  | [], xs => xs = []
  | d :: ds, xs => ∃ x r, xs = x :: r ∧ RepP F H d x ∧ RepPL F H ds r
def SimRL (r : List V → Hp → VK → Prop) (dr : List D → (O → Prop) → Prop) : Prop := ∀ (F H : Hp) (xs : List V) (ds : List D) (P : O → Prop) (Q : VK), Same F H → RepPL F H ds xs → dr ds P →
  (∀ z o F' H' C, Ext F H F' H' C → RepO F' H' o z C → C.Nodup → (∀ a ∈ C, F' a = none) → P o → Q z H') → r xs H Q
/-! ### expressions -/
def dVar (i : Nat) : DTE := fun env P _ => match env[i]? with
  | some (.ow (.fr d)) => P (.d d) env
  | some (.ow _) => P (.p i []) env
  | some (.bo _) => P (.p i []) env
  | _ => False
def dC (d : D) : DTE := fun env P _ => P (.d d) env
def dOp (dr : D → D → (O → Prop) → Prop) (da db : DTE) : DTE := fun env P X => da env (fun r1 env1 => nrm r1 fun r1' => db env1 (fun r2 env2 => oth (peek r1' env2) fun d1 => oth (peek r2 env2) fun d2 => dr d1 d2 fun o => P (.o o) env2) X) X
/-- the second operand leaves the slots -/
def dOpP (dr : D → D → (O → Prop) → Prop) (da db : DTE) : DTE := fun env P X => da env (fun r1 env1 => db env1 (fun r2 env2 => oth (peek r1 env2) fun d1 => oth (peek r2 env2) fun d2 => dr d1 d2 fun o => P (.o o) env2) X) X
def dUn (dr : D → (O → Prop) → Prop) (da : DTE) : DTE := fun env P X => da env (fun r1 env1 => oth (peek r1 env1) fun d1 => dr d1 fun o => P (.o o) env1) X
section
variable {W : WX} {ta tb : TE} {da db : DTE}
theorem sim_var {i : Nat} : SimP (tVar i) (dVar i) := by
  intro F H env σ A Q P X g h k
  unfold dVar at h
  cases e : env[i]? with
  | none => rw [e] at h; exact h.elim
  | some s =>
    rw [e] at h
    obtain ⟨v, B, R, h1, h2, h3, h4⟩ := g.rep.out e
    cases s with
    | un => exact h.elim
    | bo o =>
      obtain ⟨x, ex, ro⟩ := h2
      subst ex
      exact ⟨x, h1, k x (.p i []) F H [] (.refl g.sub) ⟨rfl, x, h1, rfl⟩ h⟩
    | ow o =>
      obtain ⟨x, ex, ro⟩ := h2
      subst ex
      refine ⟨x, h1, ?_⟩
      cases o with
      | fr d =>
        have ro' := ro.2
        exact k x (.d d) F H [] (.refl g.sub) ⟨⟨rfl, ro'⟩, by rw [List.append_nil]; exact g.nd, fun _ h => nomatch h⟩ h
      | lst _ => exact k x (.p i []) F H [] (.refl g.sub) ⟨rfl, x, h1, rfl⟩ h
      | dct _ _ => exact k x (.p i []) F H [] (.refl g.sub) ⟨rfl, x, h1, rfl⟩ h
      | ins _ _ => exact k x (.p i []) F H [] (.refl g.sub) ⟨rfl, x, h1, rfl⟩ h
theorem sim_c {v : V} {d : D} (hr : ∀ F, Rep F d v) : SimP (tC v) (dC d) := fun F H env σ A Q P X g h k =>
  k v (.d d) F H [] (.refl g.sub) ⟨⟨rfl, hr F⟩, by rw [List.append_nil]; exact g.nd, fun _ h => nomatch h⟩ h
theorem sim_int {i : Int} : SimP (tC (.int i)) (dC (.int i)) := sim_c fun _ => rfl
theorem sim_bl {i : Bool} : SimP (tC (.bl i)) (dC (.bl i)) := sim_c fun _ => rfl
theorem sim_str {i : Str} : SimP (tC (.str i)) (dC (.str i)) := sim_c fun _ => rfl
theorem sim_non : SimP (tC .non) (dC .non) := sim_c fun _ => rfl
theorem sim_ty {n : String} : SimP (tC (.ty n)) (dC (.ty n)) := sim_c fun _ => rfl
theorem sim_cls {a : Addr} : SimP (tC (.ref a)) (dC (.cls a)) := sim_c fun _ => rfl
theorem sim_op {r : R2} {dr : D → D → (O → Prop) → Prop} (hr : SimR2 r dr) (ha : SimE W ta da) (hb : SimE W tb db) : SimE W (tOp r ta tb) (dOp dr da db) := by
  intro F H env σ A Q P X g h xo k
  refine ha F H env σ A _ _ X g h xo fun x r1 env1 F1 H1 A1 C1 g1 s1 rr1 h1 => ?_
  obtain ⟨F2, r1', h2, g2, s2, p2⟩ := nrm_ok g1 rr1 h1
  have s12 := s1.trans s2
  refine hb F2 H1 env1 σ A1 _ _ X g2 h2 (xo.step s12) fun y r2 env2 F3 H3 A3 C3 g3 s3 rr3 h3 => ?_
  obtain ⟨d1, e1, h4⟩ := oth_ok h3
  obtain ⟨d2, e2, h5⟩ := oth_ok h4
  refine hr F3 H3 x y d1 d2 _ _ g3.sub (peek_ok g3 ((p2.mono s3.f).rep g3) e1) (peek_ok g3 rr3 e2) h5 fun z o F4 H4 C4 x4 ro4 nd4 d4 h6 => ?_
  exact k z (.o o) env2 F4 H4 A3 C4 (x4.good g3) ((s12.trans (s3.mem fun a m => List.mem_append_left _ m)).trans x4.step) (.new g3 x4 ro4 nd4 d4) h6
theorem sim_opP {r : R2} {dr : D → D → (O → Prop) → Prop} (hr : SimR2 r dr) (ha : SimE W ta da) (hb : SimP tb db) : SimE W (tOp r ta tb) (dOpP dr da db) := by
  intro F H env σ A Q P X g h xo k
  refine ha F H env σ A _ _ X g h xo fun x r1 env1 F1 H1 A1 C1 g1 s1 rr1 h1 => ?_
  refine hb F1 H1 env1 σ A1 _ _ X g1 h1 fun y r2 F3 H3 C3 e3 rr3 h3 => ?_
  have g3 := e3.good g1
  obtain ⟨d1, e1, h4⟩ := oth_ok h3
  obtain ⟨d2, e2, h5⟩ := oth_ok h4
  refine hr F3 H3 x y d1 d2 _ _ g3.sub (peek_ok g3 (rr1.ext e3) e1) (peek_ok g3 rr3 e2) h5 fun z o F4 H4 C4 x4 ro4 nd4 d4 h6 => ?_
  exact k z (.o o) env1 F4 H4 A1 C4 (x4.good g3) (((s1.mem fun a m => List.mem_append_left _ m).trans (e3.step.mem fun a m => List.mem_append_left _ m)).trans x4.step) (.new g3 x4 ro4 nd4 d4) h6
theorem simp_op {r : R2} {dr : D → D → (O → Prop) → Prop} (hr : SimR2 r dr) (ha : SimP ta da) (hb : SimP tb db) : SimP (tOp r ta tb) (dOpP dr da db) := by
  intro F H env σ A Q P X g h k
  refine ha F H env σ A _ _ X g h fun x r1 F1 H1 C1 x1 rr1 h1 => ?_
  have g1 := x1.good g
  refine hb F1 H1 env σ A _ _ X g1 h1 fun y r2 F3 H3 C3 e3 rr3 h3 => ?_
  have g3 := e3.good g1
  obtain ⟨d1, e1, h4⟩ := oth_ok h3
  obtain ⟨d2, e2, h5⟩ := oth_ok h4
  refine hr F3 H3 x y d1 d2 _ _ g3.sub (peek_ok g3 (rr1.ext e3) e1) (peek_ok g3 rr3 e2) h5 fun z o F4 H4 C4 x4 ro4 nd4 d4 h6 => ?_
  exact k z (.o o) F4 H4 C4 (((x1.trans e3).trans x4).noC fun a m => List.mem_append_right _ m) (.new g3 x4 ro4 nd4 d4) h6
theorem sim_un {r : V → Hp → VK → Prop} {dr : D → (O → Prop) → Prop} (hr : SimR1 r dr) (ha : SimE W ta da) : SimE W (tUn r ta) (dUn dr da) := by
  intro F H env σ A Q P X g h xo k
  refine ha F H env σ A _ _ X g h xo fun x r1 env1 F1 H1 A1 C1 g1 s1 rr1 h1 => ?_
  obtain ⟨d1, e1, h4⟩ := oth_ok h1
  refine hr F1 H1 x d1 _ _ g1.sub (peek_ok g1 rr1 e1) h4 fun z o F4 H4 C4 x4 ro4 nd4 d4 h6 => ?_
  exact k z (.o o) env1 F4 H4 A1 C4 (x4.good g1) ((s1.mem fun a m => List.mem_append_left _ m).trans x4.step) (.new g1 x4 ro4 nd4 d4) h6
theorem simp_un {r : V → Hp → VK → Prop} {dr : D → (O → Prop) → Prop} (hr : SimR1 r dr) (ha : SimP ta da) : SimP (tUn r ta) (dUn dr da) := by
  intro F H env σ A Q P X g h k
  refine ha F H env σ A _ _ X g h fun x r1 F1 H1 C1 x1 rr1 h1 => ?_
  have g1 := x1.good g
  obtain ⟨d1, e1, h4⟩ := oth_ok h1
  refine hr F1 H1 x d1 _ _ g1.sub (peek_ok g1 rr1 e1) h4 fun z o F4 H4 C4 x4 ro4 nd4 d4 h6 => ?_
  exact k z (.o o) F4 H4 C4 ((x1.trans x4).noC fun a m => List.mem_append_right _ m) (.new g1 x4 ro4 nd4 d4) h6
end
/-! ### tests -/
def D.asB : D → Option Bool
  | .bl b => some b
  | _ => none
def asB (r : R) (env : DEnv) (P : Bool → Prop) : Prop := oth (peek r env) fun d => oth d.asB P
theorem asB_ok {F H : Hp} {env : DEnv} {σ : L2.St} {A C : List Addr} {r : R} {x : V} {P : Bool → Prop} (g : Good F H env σ A) (hr : RepR F H σ A r x C) (h : asB r env P) : ∃ b, x = .bl b ∧ P b := by
  obtain ⟨d, e, h1⟩ := oth_ok h
  obtain ⟨b, e2, h2⟩ := oth_ok h1
  have rp := peek_ok g hr e
  cases d <;> cases e2
  exact ⟨b, rp, h2⟩
def dTest (da : DTE) : DTT := fun env P X => da env (fun r env1 => asB r env1 fun b => P b env1) X
def dAnd (a b : DTT) : DTT := fun env P X => a env (fun c env1 => if c = true then b env1 P X else P false env1) X
def dOr (a b : DTT) : DTT := fun env P X => a env (fun c env1 => if c = true then P true env1 else b env1 P X) X
def dNot (a : DTT) : DTT := fun env P X => a env (fun c env1 => P (!c) env1) X
def dYes : DTT := fun env P _ => P true env
def dIf (t : DTT) (a b : DTE) : DTE := fun env P X => t env (fun c env1 => if c = true then a env1 P X else b env1 P X) X
def dAndV (a b : DTE) : DTE := fun env P X => a env (fun r env1 => asB r env1 fun c => if c = true then b env1 P X else P (.d (.bl false)) env1) X
def dOrV (a b : DTE) : DTE := fun env P X => a env (fun r env1 => asB r env1 fun c => if c = true then P (.d (.bl true)) env1 else b env1 P X) X
def dNotV (a : DTE) : DTE := fun env P X => a env (fun r env1 => asB r env1 fun c => P (.d (.bl (!c))) env1) X
/-- a < b < c: b, c are data -/
def dChain (dr dr' : D → D → (O → Prop) → Prop) (da db dc : DTE) : DTE := fun env P X => da env (fun r1 env1 => nrm r1 fun r1 => db env1 (fun r2 env2 => nrm r2 fun r2 => oth (peek r1 env2) fun d1 => oth (peek r2 env2) fun d2 => dr d1 d2 fun o => oth o.flat fun z => oth z.asB fun k =>
  if k = true then dc env2 (fun r3 env3 => oth (peek r2 env3) fun d2 => oth (peek r3 env3) fun d3 => dr' d2 d3 fun o => P (.o o) env3) X else P (.d (.bl false)) env2) X) X
section
variable {W : WX} {ta tb tc : TE} {da db dc : DTE} {tt tu : TT} {dt du : DTT}
theorem RepR.dat {F H : Hp} {env : DEnv} {σ : L2.St} {A : List Addr} {d : D} {x : V} (g : Good F H env σ A) (h : Rep F d x) : RepR F H σ A (.d d) x [] := ⟨⟨rfl, h⟩, by rw [List.append_nil]; exact g.nd, fun _ h => nomatch h⟩
theorem sim_test (ha : SimE W ta da) : SimT W (tTest ta) (dTest da) := by
  intro F H env σ A Q P X g h xo k
  refine ha F H env σ A _ _ X g h xo fun x r1 env1 F1 H1 A1 C1 g1 s1 rr1 h1 => ?_
  obtain ⟨b, e, h2⟩ := asB_ok g1 rr1 h1
  exact ⟨b, e, k b env1 F1 H1 A1 g1 (s1.mem fun a m => List.mem_append_left _ m) h2⟩
theorem sim_b (ha : SimE W ta da) : SimT W (tB ta) (dTest da) := sim_test ha
theorem sim_and (ha : SimT W tt dt) (hb : SimT W tu du) : SimT W (tAnd tt tu) (dAnd dt du) := by
  intro F H env σ A Q P X g h xo k
  refine ha F H env σ A _ _ X g h xo fun b env1 F1 H1 A1 g1 s1 h1 => ?_
  cases b with
  | true =>
    rw [if_pos rfl] at h1 ⊢
    exact hb F1 H1 env1 σ A1 _ _ X g1 h1 (xo.step s1) fun c env2 F2 H2 A2 g2 s2 h2 => k c env2 F2 H2 A2 g2 (s1.trans s2) h2
  | false =>
    rw [if_neg Bool.false_ne_true] at h1 ⊢
    exact k false env1 F1 H1 A1 g1 s1 h1
theorem sim_or (ha : SimT W tt dt) (hb : SimT W tu du) : SimT W (tOr tt tu) (dOr dt du) := by
  intro F H env σ A Q P X g h xo k
  refine ha F H env σ A _ _ X g h xo fun b env1 F1 H1 A1 g1 s1 h1 => ?_
  cases b with
  | true =>
    rw [if_pos rfl] at h1 ⊢
    exact k true env1 F1 H1 A1 g1 s1 h1
  | false =>
    rw [if_neg Bool.false_ne_true] at h1 ⊢
    exact hb F1 H1 env1 σ A1 _ _ X g1 h1 (xo.step s1) fun c env2 F2 H2 A2 g2 s2 h2 => k c env2 F2 H2 A2 g2 (s1.trans s2) h2
theorem sim_not (ha : SimT W tt dt) : SimT W (tNot tt) (dNot dt) := by
  intro F H env σ A Q P X g h xo k
  exact ha F H env σ A _ _ X g h xo fun b env1 F1 H1 A1 g1 s1 h1 => k (!b) env1 F1 H1 A1 g1 s1 h1
theorem sim_yes : SimT W tYes dYes := fun F H env σ A Q P X g h xo k => k true env F H A g .refl h
theorem sim_if (ht : SimT W tt dt) (ha : SimE W ta da) (hb : SimE W tb db) : SimE W (tIf tt ta tb) (dIf dt da db) := by
  intro F H env σ A Q P X g h xo k
  refine ht F H env σ A _ _ X g h xo fun b env1 F1 H1 A1 g1 s1 h1 => ?_
  cases b with
  | true =>
    rw [if_pos rfl] at h1 ⊢
    exact ha F1 H1 env1 σ A1 _ _ X g1 h1 (xo.step s1) fun x r env2 F2 H2 A2 C2 g2 s2 rr h2 => k x r env2 F2 H2 A2 C2 g2 (s1.trans s2) rr h2
  | false =>
    rw [if_neg Bool.false_ne_true] at h1 ⊢
    exact hb F1 H1 env1 σ A1 _ _ X g1 h1 (xo.step s1) fun x r env2 F2 H2 A2 C2 g2 s2 rr h2 => k x r env2 F2 H2 A2 C2 g2 (s1.trans s2) rr h2
theorem sim_andV (ha : SimE W ta da) (hb : SimE W tb db) : SimE W (tAndV ta tb) (dAndV da db) := by
  intro F H env σ A Q P X g h xo k
  refine ha F H env σ A _ _ X g h xo fun x r1 env1 F1 H1 A1 C1 g1 s1 rr1 h1 => ?_
  obtain ⟨b, e, h2⟩ := asB_ok g1 rr1 h1
  have s1' := s1.mem (A'' := A1) fun a m => List.mem_append_left _ m
  refine ⟨b, e, ?_⟩
  cases b with
  | true =>
    rw [if_pos rfl] at h2 ⊢
    exact hb F1 H1 env1 σ A1 _ _ X g1 h2 (xo.step s1') fun x r env2 F2 H2 A2 C2 g2 s2 rr h2 => k x r env2 F2 H2 A2 C2 g2 (s1'.trans s2) rr h2
  | false =>
    rw [if_neg Bool.false_ne_true] at h2 ⊢
    exact k _ (.d (.bl false)) env1 F1 H1 A1 [] g1 (s1.mem fun a m => by rw [List.append_nil] at m; exact List.mem_append_left _ m) (.dat g1 (d := .bl false) rfl) h2
theorem sim_orV (ha : SimE W ta da) (hb : SimE W tb db) : SimE W (tOrV ta tb) (dOrV da db) := by
  intro F H env σ A Q P X g h xo k
  refine ha F H env σ A _ _ X g h xo fun x r1 env1 F1 H1 A1 C1 g1 s1 rr1 h1 => ?_
  obtain ⟨b, e, h2⟩ := asB_ok g1 rr1 h1
  have s1' := s1.mem (A'' := A1) fun a m => List.mem_append_left _ m
  refine ⟨b, e, ?_⟩
  cases b with
  | false =>
    rw [if_neg Bool.false_ne_true] at h2 ⊢
    exact hb F1 H1 env1 σ A1 _ _ X g1 h2 (xo.step s1') fun x r env2 F2 H2 A2 C2 g2 s2 rr h2 => k x r env2 F2 H2 A2 C2 g2 (s1'.trans s2) rr h2
  | true =>
    rw [if_pos rfl] at h2 ⊢
    exact k _ (.d (.bl true)) env1 F1 H1 A1 [] g1 (s1.mem fun a m => by rw [List.append_nil] at m; exact List.mem_append_left _ m) (.dat g1 (d := .bl true) rfl) h2
theorem sim_notV (ha : SimE W ta da) : SimE W (tNotV ta) (dNotV da) := by
  intro F H env σ A Q P X g h xo k
  refine ha F H env σ A _ _ X g h xo fun x r1 env1 F1 H1 A1 C1 g1 s1 rr1 h1 => ?_
  obtain ⟨b, e, h2⟩ := asB_ok g1 rr1 h1
  exact ⟨b, e, k _ (.d (.bl (!b))) env1 F1 H1 A1 [] g1 (s1.mem fun a m => by rw [List.append_nil] at m; exact List.mem_append_left _ m) (.dat g1 (d := .bl (!b)) rfl) h2⟩
theorem sim_chain {r r' : R2} {dr dr' : D → D → (O → Prop) → Prop} (hr : SimR2 r dr) (hr' : SimR2 r' dr') (ha : SimE W ta da) (hb : SimE W tb db) (hc : SimE W tc dc) : SimE W (tChain r r' ta tb tc) (dChain dr dr' da db dc) := by
  intro F H env σ A Q P X g h xo k
  refine ha F H env σ A _ _ X g h xo fun x r1 env1 F1 H1 A1 C1 g1 s1 rr1 h1 => ?_
  obtain ⟨F2, r1', h2, g2, s2, p2⟩ := nrm_ok g1 rr1 h1
  have s12 := s1.trans s2
  refine hb F2 H1 env1 σ A1 _ _ X g2 h2 (xo.step s12) fun y r2 env2 F3 H3 A3 C3 g3 s3 rr3 h3 => ?_
  obtain ⟨F4, r2', h4, g4, s4, p4⟩ := nrm_ok g3 rr3 h3
  have s14 := s12.trans (s3.trans s4)
  obtain ⟨d1, e1, h5⟩ := oth_ok h4
  obtain ⟨d2, e2, h6⟩ := oth_ok h5
  refine hr F4 H3 x y d1 d2 _ _ g4.sub (peek_ok g4 ((p2.mono (s3.trans s4).f).rep g4) e1) (peek_ok g4 (p4.rep g4) e2) h6 fun z o F5 H5 C5 x5 ro5 nd5 d5 h7 => ?_
  have g5 := x5.good g4
  obtain ⟨zd, ez, h8⟩ := oth_ok h7
  obtain ⟨kb, ek, h9⟩ := oth_ok h8
  have rz := flat_ok g5.sub ez ro5
  have s15 := s14.trans (x5.step (env := env2) (σ := σ) (A := A3) |>.mem fun a m => List.mem_append_left _ m)
  have hz : z = .bl kb := by cases zd <;> cases ek; exact rz
  refine ⟨kb, hz, ?_⟩
  cases kb with
  | true =>
    rw [if_pos rfl] at h9 ⊢
    refine hc F5 H5 env2 σ A3 _ _ X g5 h9 (xo.step s15) fun w r3 env3 F6 H6 A6 C6 g6 s6 rr6 h10 => ?_
    obtain ⟨d2', e2', h11⟩ := oth_ok h10
    obtain ⟨d3, e3, h12⟩ := oth_ok h11
    refine hr' F6 H6 y w d2' d3 _ _ g6.sub (peek_ok g6 ((p4.mono (x5.f.trans s6.f)).rep g6) e2') (peek_ok g6 rr6 e3) h12 fun z o F7 H7 C7 x7 ro7 nd7 d7 h13 => ?_
    exact k z (.o o) env3 F7 H7 A6 C7 (x7.good g6) ((s15.trans (s6.mem fun a m => List.mem_append_left _ m)).trans x7.step) (.new g6 x7 ro7 nd7 d7) h13
  | false =>
    rw [if_neg Bool.false_ne_true] at h9 ⊢
    exact k _ (.d (.bl false)) env2 F5 H5 A3 [] g5 (s15.mem fun a m => by rw [List.append_nil] at m; exact m) (.dat g5 (d := .bl false) rfl) h9
end
/-! ### rows of arguments -/
def dNilA : DTA := fun env P _ => P [] env
def dLastA (da : DTE) : DTA := fun env P X => da env (fun r env1 => P [r] env1) X
def dConsA (da : DTE) (dr : DTA) : DTA := fun env P X => da env (fun r env1 => nrm r fun r => dr env1 (fun rs env2 => P (r :: rs) env2) X) X
def dNilV : DTV := fun env P _ => P [] env
def dConsV (da : DTE) (dr : DTV) : DTV := fun env P X => da env (fun r env1 => force r env1 fun d env2 => dr env2 (fun ds env3 => P (d :: ds) env3) X) X
def peekL : List R → DEnv → Option (List D)
  | [], _ => some []
  | r :: rs, env => match peek r env with
    | some d => (match peekL rs env with
      | some ds => some (d :: ds)
      | none => none)
    | none => none
def dCB (dr : List D → (O → Prop) → Prop) (da : DTA) : DTE := fun env P X => da env (fun rs env1 => oth (peekL rs env1) fun ds => dr ds fun o => P (.o o) env1) X
def dTup (dv : DTV) : DTE := fun env P X => dv env (fun ds env1 => ds.length ≤ sizeLine ∧ P (.d (.tup ds)) env1) X
def dLst (dv : DTV) : DTE := fun env P X => dv env (fun ds env1 => ds.length ≤ sizeLine ∧ P (.o (.lst (ds.map .fr))) env1) X
theorem RepRs.cons {F H : Hp} {σ : L2.St} {A C : List Addr} {r : R} {rs : List R} {x : V} {xs : List V} {env : DEnv} (g : Good F H env σ A) (p : Per F σ r x) (h : RepRs F H σ A rs xs C) : RepRs F H σ A (r :: rs) (x :: xs) C := by
  cases rs with
  | nil =>
    obtain ⟨rfl, rfl⟩ := h
    exact ⟨x, rfl, p.rep g⟩
  | cons r' rs' => exact ⟨x, xs, rfl, p, h⟩
theorem peekL_ok {F H : Hp} {env : DEnv} {σ : L2.St} {A C : List Addr} (g : Good F H env σ A) : ∀ {rs : List R} {xs : List V} {ds : List D}, RepRs F H σ A rs xs C → peekL rs env = some ds → RepPL F H ds xs
  | [], xs, ds, h, e => by cases e; exact h.1
  | [r], xs, ds, ⟨x, ex, h⟩, e => by
    unfold peekL at e
    cases q : peek r env with
    | none => rw [q] at e; cases e
    | some d =>
      rw [q] at e
      cases e
      exact ⟨x, [], ex, peek_ok g h q, rfl⟩
  | r :: r' :: rs, xs, ds, ⟨x, ys, ex, h, t⟩, e => by
    unfold peekL at e
    cases q : peek r env with
    | none => rw [q] at e; cases e
    | some d =>
      rw [q] at e
      simp only at e
      cases q' : peekL (r' :: rs) env with
      | none => rw [q'] at e; cases e
      | some ds' =>
        rw [q'] at e
        cases e
        exact ⟨x, ys, ex, peek_ok g (h.rep g) q, peekL_ok g t q'⟩
theorem RepOL.ofL {F H : Hp} : ∀ {ds : List D} {xs : List V}, RepL F ds xs → RepOL F H (ds.map .fr) xs []
  | [], _, h => ⟨h, rfl⟩
  | d :: ds, _, ⟨x, r, e, h, t⟩ => ⟨x, r, [], [], e, rfl, ⟨rfl, h⟩, RepOL.ofL t⟩
section
variable {W : WX} {ta : TE} {da : DTE} {tr : TA} {dr : DTA} {dv : DTV}
theorem sim_nilA : SimA W tNil dNilA := fun F H env σ A Q P X g h xo k => k [] [] env F H A [] g (Step.refl.mem fun a m => by rw [List.append_nil] at m; exact m) ⟨rfl, rfl⟩ h
theorem sim_lastA (ha : SimE W ta da) : SimA W (tCons ta tNil) (dLastA da) := by
  intro F H env σ A Q P X g h xo k
  refine ha F H env σ A _ _ X g h xo fun x r1 env1 F1 H1 A1 C1 g1 s1 rr1 h1 => ?_
  exact k [x] [r1] env1 F1 H1 A1 C1 g1 s1 ⟨x, rfl, rr1⟩ h1
theorem sim_consA (ha : SimE W ta da) (hr : SimA W tr dr) : SimA W (tCons ta tr) (dConsA da dr) := by
  intro F H env σ A Q P X g h xo k
  refine ha F H env σ A _ _ X g h xo fun x r1 env1 F1 H1 A1 C1 g1 s1 rr1 h1 => ?_
  obtain ⟨F2, r1', h2, g2, s2, p2⟩ := nrm_ok g1 rr1 h1
  have s12 := s1.trans s2
  refine hr F2 H1 env1 σ A1 _ _ X g2 h2 (xo.step s12) fun xs rs env2 F3 H3 A3 C3 g3 s3 rr3 h3 => ?_
  exact k (x :: xs) (r1' :: rs) env2 F3 H3 A3 C3 g3 (s12.trans s3) (.cons g3 (p2.mono s3.f) rr3) h3
theorem sim_nilV : SimV W tNil dNilV := fun F H env σ A Q P X g h xo k => k [] [] env F H A g .refl rfl h
theorem sim_consV (ha : SimE W ta da) (hr : SimV W tr dv) : SimV W (tCons ta tr) (dConsV da dv) := by
  intro F H env σ A Q P X g h xo k
  refine ha F H env σ A _ _ X g h xo fun x r1 env1 F1 H1 A1 C1 g1 s1 rr1 h1 => ?_
  obtain ⟨F2, A2, d, env2, h2, g2, s2, p2⟩ := force_ok g1 rr1 h1
  have s12 := s1.trans s2
  refine hr F2 H1 env2 σ A2 _ _ X g2 h2 (xo.step s12) fun xs ds env3 F3 H3 A3 g3 s3 rr3 h3 => ?_
  exact k (x :: xs) (d :: ds) env3 F3 H3 A3 g3 (s12.trans s3) ⟨x, xs, rfl, p2.mono s3.f, rr3⟩ h3
theorem sim_cb {r : List V → Hp → VK → Prop} {db : List D → (O → Prop) → Prop} (hr : SimRL r db) (ha : SimA W tr dr) : SimE W (tCB r tr) (dCB db dr) := by
  intro F H env σ A Q P X g h xo k
  refine ha F H env σ A _ _ X g h xo fun xs rs env1 F1 H1 A1 C1 g1 s1 rr1 h1 => ?_
  obtain ⟨ds, e1, h4⟩ := oth_ok h1
  refine hr F1 H1 xs ds _ _ g1.sub (peekL_ok g1 rr1 e1) h4 fun z o F4 H4 C4 x4 ro4 nd4 d4 h6 => ?_
  exact k z (.o o) env1 F4 H4 A1 C4 (x4.good g1) ((s1.mem fun a m => List.mem_append_left _ m).trans x4.step) (.new g1 x4 ro4 nd4 d4) h6
/-- one argument, the slots stay -/
theorem simp_cb1 {r : List V → Hp → VK → Prop} {db : List D → (O → Prop) → Prop} (hr : SimRL r db) (ha : SimP ta da) : SimP (tCB r (tCons ta tNil)) (dCB db (dLastA da)) := by
  intro F H env σ A Q P X g h k
  refine ha F H env σ A _ _ X g h fun x r1 F1 H1 C1 x1 rr1 h1 => ?_
  have g1 := x1.good g
  obtain ⟨ds, e1, h4⟩ := oth_ok h1
  refine hr F1 H1 [x] ds _ _ g1.sub (peekL_ok g1 (rs := [r1]) ⟨x, rfl, rr1⟩ e1) h4 fun z o F4 H4 C4 x4 ro4 nd4 d4 h6 => ?_
  exact k z (.o o) F4 H4 C4 ((x1.trans x4).noC fun a m => List.mem_append_right _ m) (.new g1 x4 ro4 nd4 d4) h6
theorem same_new {H : Hp} {q : Addr} {o : HO} (h : H q = none) : Same H (upd H q o) := fun b x e => by
  rw [upd_ne (ne_of_none e h)]
  exact e
/-- a new tuple -/
theorem ext_tup {F H : Hp} {p : Addr} {xs : List V} (s : Same F H) (n : H p = none) : Ext F H (upd F p (.tup xs)) (upd H p (.tup xs)) [] := by
  refine ⟨(same_new (s.free n)).sm, (same_new n).sm, fun a o e _ => same_new n a o e, fun a o e => ?_, fun _ h => (nomatch h), fun a h => ?_⟩
  · by_cases q : a = p
    · rw [q, upd_same] at e ⊢; exact e
    · rw [upd_ne q] at e ⊢; exact s a o e
  · by_cases q : a = p
    · exact .inr (by rw [q]; exact n)
    · rw [upd_ne q] at h; exact .inl h
theorem ext_own {F H : Hp} {p : Addr} {o : HO} (s : Same F H) (n : H p = none) : Ext F H F (upd H p o) [p] := by
  refine ⟨.refl _, (same_new n).sm, fun b x e _ => same_new n b x e, fun b x e => ?_, fun a m => by rw [List.mem_singleton.mp m]; exact n, fun a h => .inl h⟩
  · rw [upd_ne (ne_of_none (s b x e) n)]; exact s b x e
theorem sim_tup (ha : SimV W tr dv) : SimE W (tTup tr) (dTup dv) := by
  intro F H env σ A Q P X g h xo k
  refine ha F H env σ A _ _ X g h xo fun xs ds env1 F1 H1 A1 g1 s1 rr1 h1 => ?_
  refine ⟨by rw [rr1.length]; exact h1.1, fun p np => ?_⟩
  have x := ext_tup (xs := xs) g1.sub np
  exact k (.ref p) (.d (.tup ds)) env1 _ _ A1 [] (x.good g1) (s1.trans x.step) (.dat (x.good g1) (d := .tup ds) ⟨p, xs, rfl, upd_same, rr1.mono x.f⟩) h1.2
theorem sim_lst (ha : SimV W tr dv) : SimE W (tLst tr) (dLst dv) := by
  intro F H env σ A Q P X g h xo k
  refine ha F H env σ A _ _ X g h xo fun xs ds env1 F1 H1 A1 g1 s1 rr1 h1 => ?_
  refine ⟨by rw [rr1.length]; exact h1.1, fun p np => ?_⟩
  have x := ext_own (o := .lst xs) g1.sub np
  refine k (.ref p) (.o (.lst (ds.map .fr))) env1 _ _ A1 [p] (x.good g1) (s1.trans x.step) (.new g1 x (o := .lst (ds.map .fr)) ⟨p, xs, [], rfl, rfl, upd_same, .ofL rr1⟩ (List.nodup_cons.mpr ⟨List.not_mem_nil, List.nodup_nil⟩) fun a m => ?_) h1.2
  rw [List.mem_singleton.mp m]
  exact g1.sub.free np
end

/-! ### statements -/
/-- what no one touches stays -/
theorem Step.pend {F H F' H' : Hp} {env env' : DEnv} {σ σ' : L2.St} {A A' C : List Addr} {o : O} {x : V} (s : Step F H env σ A F' H' env' σ' A') (g' : Good F' H' env' σ' A') (h : RepR F H σ A (.o o) x C) : RepR F' H' σ' A' (.o o) x C := by
  obtain ⟨h1, h2, h3⟩ := h
  have out : ∀ a ∈ C, a ∉ A := fun a m z => nodup_d h2 z m
  refine ⟨h1.stay ⟨s.f, fun a m o e => s.keep a o e (out a m) (h3 a m)⟩, List.nodup_append.mpr ⟨g'.nd, nodup_r h2, fun a ha b hb z => ?_⟩, fun a m => ?_⟩
  · subst z
    rcases s.anew a ha with q | q
    · exact out a hb q
    · exact h1.there a hb q
  · cases q : F' a with
    | none => rfl
    | some u =>
      rcases s.fnew a (by rw [q]; exact Option.some_ne_none _) with z | z | z
      · exact absurd (h3 a m) z
      · exact absurd z (out a m)
      · exact absurd z (h1.there a m)
def dNext : DTS := fun DD env => DD.nx env
def dBreak : DTS := fun DD env => DD.bk env
def dCont : DTS := fun DD env => DD.ct env
def dSeq (a b : DTS) : DTS := fun DD env => a { DD with nx := fun e => b DD e } env
/-- .. at a join -/
def dCut (a b : DTS) : DTS := fun DD env => a { DD with nx := fun e => b DD e } env
def dIfS (t : DTT) (a b : DTS) : DTS := fun DD env => t env (fun c env1 => if c = true then a DD env1 else b DD env1) DD.ex
def dDrop (a : DTE) : DTS := fun DD env => a env (fun _ env1 => DD.nx env1) DD.ex
def dRetN : DTS := fun DD env => DD.rt (.fr .non) env
def retO (r : R) (env : DEnv) (P : O → DEnv → Prop) : Prop := match r with
  | .o o => P o env
  | .p i [] => (match env[i]? with
    | some (.ow o) => P o (env.set i .un)
    | _ => False)
  | .p i path => force (.p i path) env fun d => P (.fr d)
def dRet (a : DTE) : DTS := fun DD env => a env (fun r env1 => retO r env1 DD.rt) DD.ex
section
variable {W : WX} {ta : TE} {da : DTE} {tt : TT} {dt : DTT} {t u : TS} {d e : DTS}
theorem sim_next : SimS W tNext dNext := fun F H env σ A E DD g h eo => eo.nx env σ F H A g .refl h
theorem sim_break : SimS W tBreak dBreak := fun F H env σ A E DD g h eo => eo.bk env σ F H A g .refl h
theorem sim_cont : SimS W tCont dCont := fun F H env σ A E DD g h eo => eo.ct env σ F H A g .refl h
theorem sim_seq (ha : SimS W t d) (hb : SimS W u e) : SimS W (tSeq t u) (dSeq d e) := by
  intro F H env σ A E DD g h eo
  refine ha F H env σ A _ _ g h ⟨fun env' σ' F' H' A' g' s h' => ?_, eo.bk, eo.ct, eo.rt, eo.ex⟩
  exact hb F' H' env' σ' A' E DD g' h' (eo.step s)
theorem sim_cut (ha : SimS W t d) (hb : SimS W u e) : SimS W (tSeq t u) (dCut d e) := sim_seq ha hb
theorem sim_ifs (ht : SimT W tt dt) (ha : SimS W t d) (hb : SimS W u e) : SimS W (tIfS tt t u) (dIfS dt d e) := by
  intro F H env σ A E DD g h eo
  refine ht F H env σ A _ _ _ g h eo.ex fun b env1 F1 H1 A1 g1 s1 h1 => ?_
  cases b with
  | true =>
    rw [if_pos rfl] at h1 ⊢
    exact ha F1 H1 env1 σ A1 E DD g1 h1 (eo.step s1)
  | false =>
    rw [if_neg Bool.false_ne_true] at h1 ⊢
    exact hb F1 H1 env1 σ A1 E DD g1 h1 (eo.step s1)
theorem sim_drop (ha : SimE W ta da) : SimS W (tDrop ta) (dDrop da) := by
  intro F H env σ A E DD g h eo
  exact ha F H env σ A _ _ _ g h eo.ex fun x r env1 F1 H1 A1 C1 g1 s1 rr h1 => eo.nx env1 σ F1 H1 A1 g1 (s1.mem fun a m => List.mem_append_left _ m) h1
theorem sim_retN : SimS W tRetN dRetN := fun F H env σ A E DD g h eo => eo.rt .non (.fr .non) env σ F H A [] g (Step.refl.mem fun a m => by rw [List.append_nil] at m; exact m) (.dat g (d := .non) rfl) h
theorem retO_ok {F H : Hp} {env : DEnv} {σ : L2.St} {A C : List Addr} {r : R} {x : V} {P : O → DEnv → Prop} (g : Good F H env σ A) (hr : RepR F H σ A r x C) (h : retO r env P) : ∃ F' A' o env' C', P o env' ∧ Good F' H env' σ A' ∧ Step F H env σ (A ++ C) F' H env' σ (A' ++ C') ∧ RepR F' H σ A' (.o o) x C' := by
  cases r with
  | o o => exact ⟨F, A, o, env, C, h, g, .refl, hr⟩
  | p i path =>
    cases path with
    | nil =>
      obtain ⟨rfl, y, hy, hv⟩ := hr
      have ey : y = x := hv
      subst ey
      unfold retO at h
      simp only at h
      cases e : env[i]? with
      | none => rw [e] at h; exact h.elim
      | some s =>
        rw [e] at h
        cases s with
        | un => exact h.elim
        | bo o => exact h.elim
        | ow o =>
          obtain ⟨v, B, R, h1, h2, h3, h4⟩ := g.rep.out e
          rw [hy] at h1
          cases h1
          obtain ⟨z, ez, ro⟩ := h2
          cases ez
          have nd : (B ++ R).Nodup := h3.nodup_iff.mp g.nd
          refine ⟨F, R, o, env.set i .un, B, h, ⟨g.sub, h4, nodup_r nd, fun a m => g.dis a (h3.mem_iff.mpr (List.mem_append_right _ m))⟩, ⟨.refl _, fun _ _ h _ _ => h, fun _ h => h, fun a m => .inl ?_, fun _ h => .inl h, fun j w hj => ?_⟩, ro, ?_, fun a m => g.dis a (h3.mem_iff.mpr (List.mem_append_left _ m))⟩
          · rw [List.append_nil]
            refine h3.mem_iff.mpr ?_
            rcases List.mem_append.mp m with m | m
            · exact List.mem_append_right _ m
            · exact List.mem_append_left _ m
          · refine ⟨w, ?_, rfl⟩
            rw [List.getElem?_set_ne (fun z => by subst z; rw [e] at hj; cases hj)]
            exact hj
          · exact (List.perm_append_comm.nodup_iff.mp nd)
    | cons p0 pr =>
      have h' : toO (.p i (p0 :: pr)) env P := h
      exact toO_ok g hr h'
theorem sim_ret (ha : SimE W ta da) : SimS W (tRet ta) (dRet da) := by
  intro F H env σ A E DD g h eo
  refine ha F H env σ A _ _ _ g h eo.ex fun x r env1 F1 H1 A1 C1 g1 s1 rr h1 => ?_
  obtain ⟨F2, A2, o, env2, C2, h2, g2, s2, r2⟩ := retO_ok g1 rr h1
  exact eo.rt x o env2 σ F2 H1 A2 C2 g2 (s1.trans s2) r2 h2
end
/-! ### targets -/
abbrev DG := O → DEnv → (DEnv → Prop) → DX → Prop
abbrev DGs := List D → DEnv → (DEnv → Prop) → DX → Prop
def SimG (W : WX) (js : List Nat) (t : TG) (d : DG) : Prop := ∀ (F H : Hp) (env : DEnv) (σ : L2.St) (A C : List Addr) (x : V) (o : O) (Q : L2.St → Hp → Prop) (P : DEnv → Prop) (X : DX), Good F H env σ A → RepR F H σ A (.o o) x C → d o env P X → XOk F H env σ A W X →
  (∀ env' σ' F' H' A', Good F' H' env' σ' A' → Step F H env σ (A ++ C) F' H' env' σ' A' → σ'.length = σ.length → (∀ j, j ∉ js → σ'[j]? = σ[j]?) → P env' → Q σ' H') → t x σ H Q
def SimGs (W : WX) (js : List Nat) (t : TGs) (d : DGs) : Prop := ∀ (F H : Hp) (env : DEnv) (σ : L2.St) (A : List Addr) (xs : List V) (ds : List D) (Q : L2.St → Hp → Prop) (P : DEnv → Prop) (X : DX), Good F H env σ A → RepL F ds xs → d ds env P X → XOk F H env σ A W X →
  (∀ env' σ' F' H' A', Good F' H' env' σ' A' → Step F H env σ A F' H' env' σ' A' → σ'.length = σ.length → (∀ j, j ∉ js → σ'[j]? = σ[j]?) → P env' → Q σ' H') → t xs σ H Q
def dName (i : Nat) : DG := fun o env P _ => match env[i]? with
  | some (.bo _) => False
  | some _ => P (env.set i (.ow o))
  | none => False
def dGNil : DGs := fun ds env P _ => ds = [] ∧ P env
def dGCons (g : DG) (gs : DGs) : DGs := fun ds env P X => match ds with
  | [] => False
  | d :: r => g (.fr d) env (fun env1 => gs r env1 P X) X
def dGTup (n : Nat) (gs : DGs) : DG := fun o env P X => match o with
  | .fr (.tup ds) => ds.length = n ∧ gs ds env P X
  | _ => False
def dAsg (a : DTE) (g : DG) : DTS := fun DD env => a env (fun r env1 => toO r env1 fun o env2 => g o env2 DD.nx DD.ex) DD.ex
section
variable {W : WX} {ta : TE} {da : DTE} {js ks : List Nat}
/-- a slot gets another content -/
theorem Good.setS {F H : Hp} {env : DEnv} {σ : L2.St} {A C : List Addr} {i : Nat} {s : S} {o : O} {x : V} (g : Good F H env σ A) (hr : RepR F H σ A (.o o) x C) (e : env[i]? = some s) :
    ∃ A', Good F H (env.set i (.ow o)) (σ.set i (some x)) A' ∧ ∀ a ∈ A', a ∈ A ++ C := by
  obtain ⟨v, B, R, h1, h2, h3, h4⟩ := g.rep.out e
  obtain ⟨r1, r2, r3⟩ := hr
  have hs : RepSl F H (.ow o) (some x) C := ⟨x, rfl, r1⟩
  obtain ⟨A', p1, p2⟩ := RepS.put hs h4 (get_set e)
  rw [List.set_set] at p2
  have mR : ∀ a ∈ R, a ∈ A := fun a m => h3.mem_iff.mpr (List.mem_append_right _ m)
  have nd : (B ++ R).Nodup := h3.nodup_iff.mp g.nd
  refine ⟨A', ⟨g.sub, p2, p1.nodup_iff.mpr (List.nodup_append.mpr ⟨nodup_r r2, nodup_r nd, fun a ha b hb z => by subst z; exact nodup_d r2 (mR a hb) ha⟩), fun a m => ?_⟩, fun a m => ?_⟩
  · rcases List.mem_append.mp (p1.mem_iff.mp m) with m | m
    · exact r3 a m
    · exact g.dis a (mR a m)
  · rcases List.mem_append.mp (p1.mem_iff.mp m) with m | m
    · exact List.mem_append_right _ m
    · exact List.mem_append_left _ (mR a m)
theorem sim_name {i : Nat} : SimG W [i] (gName i) (dName i) := by
  intro F H env σ A C x o Q P X g hr h xo k
  unfold dName at h
  cases e : env[i]? with
  | none => rw [e] at h; exact h.elim
  | some s =>
    rw [e] at h
    obtain ⟨A', g', m'⟩ := g.setS hr e
    have hb : ∀ o, s ≠ .bo o := fun o z => by subst z; exact h
    have h' : P (env.set i (.ow o)) := by cases s with
      | un => exact h
      | ow _ => exact h
      | bo o => exact (hb o rfl).elim
    refine k _ _ F H A' g' ⟨.refl _, fun _ _ h _ _ => h, fun _ h => h, fun a m => .inl (m' a m), fun _ h => .inl h, fun j w hj => ?_⟩ List.length_set (fun j hj => List.getElem?_set_ne fun z => hj (by rw [z]; exact List.mem_singleton.mpr rfl)) h'
    have ne : i ≠ j := fun z => by subst z; rw [e] at hj; cases hj; exact hb _ rfl
    rw [List.getElem?_set_ne ne, List.getElem?_set_ne ne]
    exact ⟨w, hj, rfl⟩
theorem sim_gnil : SimGs W [] gNil dGNil := fun F H env σ A xs ds Q P X g hr h xo k => by
  obtain ⟨rfl, h⟩ := h
  exact ⟨hr, k env σ F H A g .refl rfl (fun _ _ => rfl) h⟩
theorem sim_gcons {tg : TG} {tgs : TGs} {dg : DG} {dgs : DGs} (h1 : SimG W js tg dg) (h2 : SimGs W ks tgs dgs) : SimGs W (js ++ ks) (gCons tg tgs) (dGCons dg dgs) := by
  intro F H env σ A xs ds Q P X g hr h xo k
  cases ds with
  | nil => exact h.elim
  | cons d r =>
    obtain ⟨x, ys, ex, hx, ht⟩ := hr
    refine ⟨x, ys, ex, ?_⟩
    refine h1 F H env σ A [] x (.fr d) _ _ X g (.dat g hx) h xo fun env1 σ1 F1 H1 A1 g1 s1 l1 j1 h1 => ?_
    rw [List.append_nil] at s1
    refine h2 F1 H1 env1 σ1 A1 ys r _ _ X g1 (RepL.mono s1.f ht) h1 (xo.step s1) fun env2 σ2 F2 H2 A2 g2 s2 l2 j2 h3 => ?_
    exact k env2 σ2 F2 H2 A2 g2 (s1.trans s2) (l2.trans l1) (fun j hj => (j2 j fun z => hj (List.mem_append_right _ z)).trans (j1 j fun z => hj (List.mem_append_left _ z))) h3
theorem sim_gtup {K : PySem.W.Frag} {n : Nat} {tgs : TGs} {dgs : DGs} (h1 : SimGs W js tgs dgs) : SimG W js (gTup K n tgs) (dGTup n dgs) := by
  intro F H env σ A C x o Q P X g hr h xo k
  cases o with
  | lst _ => exact h.elim
  | dct _ _ => exact h.elim
  | ins _ _ => exact h.elim
  | fr d =>
    cases d with
    | tup ds =>
      obtain ⟨hl, h⟩ := h
      obtain ⟨⟨eC, a, xs, ex, hf, rl⟩, _, _⟩ := hr
      subst eC
      refine ⟨a, xs, ex, SqT.of (g.sub _ _ hf), by rw [rl.length]; exact hl, ?_⟩
      rw [List.append_nil] at k
      exact h1 F H env σ A xs ds _ _ X g rl h xo k
    | _ => exact h.elim
theorem sim_asg {tg : TG} {dg : DG} (ha : SimE W ta da) (hg : SimG W js tg dg) : SimS W (tAsg ta tg) (dAsg da dg) := by
  intro F H env σ A E DD g h eo
  refine ha F H env σ A _ _ _ g h eo.ex fun x r env1 F1 H1 A1 C1 g1 s1 rr h1 => ?_
  obtain ⟨F2, A2, o, env2, C2, h2, g2, s2, r2⟩ := toO_ok g1 rr h1
  have s12 := s1.trans s2
  refine hg F2 H1 env2 σ A2 C2 x o _ _ _ g2 r2 h2 (eo.ex.step (s12.mem fun a m => List.mem_append_left _ m)) fun env3 σ3 F3 H3 A3 g3 s3 _ _ h3 => ?_
  exact eo.nx env3 σ3 F3 H3 A3 g3 (s12.trans s3) h3
end
/-! ### xs[i] = e -/
/-- a place is written -/
def setAt (env : DEnv) (i : Nat) (path : List PSt) (o : O) : DEnv := match env[i]? with
  | some s => (match s.cont with
    | some u => env.set i (s.re (u.put path o))
    | none => env)
  | none => env
def dSub (da di : DTE) : DG := fun o env P X => da env (fun r1 env1 => di env1 (fun r2 env2 => match r1, peek r2 env2 with
  | .p i path, some (.int k) => oth (contAt env2 i path) fun u => (match u with
    | .lst os => oth (ixN os.length k) fun j => P (setAt env2 i path (.lst (os.set j o)))
    | _ => False)
  | _, _ => False) X) X
/-- the object at a place is changed: it stays where it is -/
theorem Good.write {F H : Hp} {env : DEnv} {σ : L2.St} {A C : List Addr} {i : Nat} {path : List PSt} {o1 o2 : O} {x : V} {H' : Hp} (g : Good F H env σ A) (hc : contAt env i path = some o1) (hp : ∃ y, σ[i]? = some (some y) ∧ PathV H y path x)
    (hC : ∀ a ∈ C, a ∉ A ∧ F a = none) (ndC : C.Nodup) (f : Same F H') (fr : ∀ a, H' a = none → H a = none)
    (hw : ∀ B R, RepO F H o1 x B → A.Perm (B ++ R) → (B ++ R).Nodup → (∀ a o, H a = some o → a ∉ B → H' a = some o) ∧ ∃ B', RepO F H' o2 x B' ∧ B'.Nodup ∧ ∀ a ∈ B', a ∈ B ∨ a ∈ C) :
    ∃ A', Good F H' (setAt env i path o2) σ A' ∧ Step F H env σ (A ++ C) F H' (setAt env i path o2) σ A' := by
  obtain ⟨s, o, e1, e2, e3⟩ := contAt_ok hc
  obtain ⟨y, hy, hv⟩ := hp
  obtain ⟨B, R, h1, h2, h3⟩ := g.rep.focus e1 e2 e3 hy hv
  have nd : (B ++ R).Nodup := h2.nodup_iff.mp g.nd
  have mB : ∀ a ∈ B, a ∈ A := fun a m => h2.mem_iff.mpr (List.mem_append_left _ m)
  have mR : ∀ a ∈ R, a ∈ A := fun a m => h2.mem_iff.mpr (List.mem_append_right _ m)
  obtain ⟨kp, B', r', ndB, mB'⟩ := hw B R h1 h2 nd
  obtain ⟨A', p1, p2⟩ := h3 F H' o2 B' ⟨.refl _, fun a m o e => kp a o e fun z => nodup_d nd z m⟩ r'
  have es : setAt env i path o2 = env.set i (s.re (o.put path o2)) := by
    unfold setAt
    rw [e1]
    simp only
    rw [e2]
  rw [es]
  refine ⟨A', ⟨f, p1, p2.nodup_iff.mpr (List.nodup_append.mpr ⟨ndB, nodup_r nd, fun a ha b hb z => ?_⟩), fun a m => ?_⟩, ⟨.refl _, fun a o e n _ => kp a o e fun z => n (List.mem_append_left _ (mB a z)), fr, fun a m => .inl ?_, fun _ h => .inl h, fun j w hj => ?_⟩⟩
  · subst z
    rcases mB' a ha with m | m
    · exact nodup_d nd m hb
    · exact (hC a m).1 (mR a hb)
  · rcases List.mem_append.mp (p2.mem_iff.mp m) with m | m
    · rcases mB' a m with m | m
      · exact g.dis a (mB a m)
      · exact (hC a m).2
    · exact g.dis a (mR a m)
  · rcases List.mem_append.mp (p2.mem_iff.mp m) with m | m
    · rcases mB' a m with m | m
      · exact List.mem_append_left _ (mB a m)
      · exact List.mem_append_right _ m
    · exact List.mem_append_left _ (mR a m)
  · obtain ⟨o', eo⟩ := bor_re (o := o.put path o2) e1 j w hj
    exact ⟨o', eo, rfl⟩
theorem same_own {F H : Hp} {a : Addr} {o : HO} (s : Same F H) (n : F a = none) : Same F (upd H a o) := fun b x e => by
  rw [upd_ne (ne_of_none e n)]
  exact s b x e
theorem upd_free {H : Hp} {a b : Addr} {o : HO} (h : upd H a o b = none) : H b = none := by
  by_cases e : b = a
  · rw [e, upd_same] at h; cases h
  · rw [upd_ne e] at h; exact h
theorem sim_sub {W : WX} {ta ti : TE} {da di : DTE} (ha : SimP ta da) (hi : SimP ti di) : SimG W [] (gSub ta ti rSetL) (dSub da di) := by
  intro F H env σ A C x o Q P X g hr h xo k
  refine ha F H env σ A _ _ X g h fun v r1 F1 H1 C1 x1 rr1 h1 => ?_
  have g1 := x1.good g
  refine hi F1 H1 env σ A _ _ X g1 h1 fun w r2 F2 H2 C2 x2 rr2 h2 => ?_
  have g2 := x2.good g1
  have x12 := x1.trans x2
  have hr2 := (hr.ext x1).ext x2
  cases r1 with
  | o _ => exact h2.elim
  | p i path =>
    cases e2 : peek r2 env with
    | none => rw [e2] at h2; exact h2.elim
    | some d2 =>
      rw [e2] at h2
      cases d2 with
      | int kk =>
        have rw2 := peek_ok g2 rr2 e2
        have ew : w = .int kk := rw2
        obtain ⟨u, eu, h3⟩ := oth_ok h2
        cases u with
        | lst os =>
          obtain ⟨j, ej, h4⟩ := oth_ok h3
          obtain ⟨hC1, y, hy, hv⟩ := rr1.ext x2
          have hC : ∀ a ∈ C, a ∉ A ∧ F2 a = none := fun a m => ⟨fun z => nodup_d hr2.2.1 z m, hr2.2.2 a m⟩
          obtain ⟨s0, o0, q1, q2, q3⟩ := contAt_ok eu
          obtain ⟨B0, R0, k1, k2, _⟩ := g2.rep.focus q1 q2 q3 hy hv
          obtain ⟨a, xs, Bc, ea, eB, hxs, rl⟩ := k1
          have hl : xs.length = os.length := by
            clear k2 eB ej h4 eu q3
            revert rl
            generalize Bc = Z
            revert xs Z
            intro xs hxs Z rl
            exact repOL_len rl
          refine ⟨a, xs, kk, j, ea, ew, hxs, by rw [hl]; exact ej, ?_⟩
          have naF : F2 a = none := g2.dis a (k2.mem_iff.mpr (by rw [eB]; exact List.mem_cons_self))
          obtain ⟨A', g', s'⟩ := g2.write (H' := upd H2 a (.lst (xs.set j x))) (o2 := .lst (os.set j o)) eu ⟨y, hy, hv⟩ hC (nodup_r hr2.2.1) (same_own g2.sub naF) (fun b => upd_free) (fun B R b1 b2 b3 => by
            obtain ⟨a', xs', Bc', ea', eB', hxs', rl'⟩ := b1
            rw [ea] at ea'
            cases ea'
            rw [hxs] at hxs'
            cases hxs'
            have ndB := nodup_l b3
            rw [eB'] at ndB
            have naB := (List.nodup_cons.mp ndB).1
            refine ⟨fun b o e n => by rw [upd_ne (fun z => n (by rw [z, eB']; exact List.mem_cons_self))]; exact e, ?_⟩
            have hj : j < os.length := (ixN_seq ej).2.1
            obtain ⟨z, Bj, Rj, f1, f2, f3, f4⟩ := rl'.focus (List.getElem?_eq_getElem hj)
            have naC : ∀ b ∈ C, b ≠ a := fun b m z => (hC b m).1 (by rw [z]; exact b2.mem_iff.mpr (List.mem_append_left _ (by rw [eB']; exact List.mem_cons_self)))
            have naR : ∀ b ∈ Rj, b ≠ a := fun b m z => naB (by rw [← z]; exact f3.mem_iff.mpr (List.mem_append_right _ m))
            obtain ⟨A'', f5, f6⟩ := f4 F2 (upd H2 a (.lst (xs.set j x))) o C x ⟨.refl _, fun b m o e => by rw [upd_ne (naR b m)]; exact e⟩ (hr2.1.stay ⟨.refl _, fun b m o e => by rw [upd_ne (naC b m)]; exact e⟩)
            have ndBR : (Bj ++ Rj).Nodup := f3.nodup_iff.mp (List.nodup_cons.mp ndB).2
            have mem6 : ∀ b ∈ A'', b ∈ Bc' ∨ b ∈ C := fun b m => by
              rcases List.mem_append.mp (f6.mem_iff.mp m) with m | m
              · exact .inr m
              · exact .inl (f3.mem_iff.mpr (List.mem_append_right _ m))
            refine ⟨a :: A'', ⟨a, _, A'', ea, rfl, upd_same, f5⟩, List.nodup_cons.mpr ⟨fun m => ?_, f6.nodup_iff.mpr (List.nodup_append.mpr ⟨nodup_r hr2.2.1, nodup_r ndBR, fun b hb c hc z => ?_⟩)⟩, fun b m => ?_⟩
            · rcases mem6 a m with m | m
              · exact naB m
              · exact naC a m rfl
            · subst z
              exact (hC b hb).1 (b2.mem_iff.mpr (List.mem_append_left _ (by rw [eB']; exact List.mem_cons_of_mem _ (f3.mem_iff.mpr (List.mem_append_right _ hc)))))
            · rcases List.mem_cons.mp m with m | m
              · exact .inl (by rw [m, eB']; exact List.mem_cons_self)
              · rcases mem6 b m with m | m
                · exact .inl (by rw [eB']; exact List.mem_cons_of_mem _ m)
                · exact .inr m)
          exact k _ σ F2 _ A' g' (Step.trans (⟨x12.f, fun a o e _ f => x12.hx a o e f, fun a z => x12.h.free z, fun a m => .inl m, fun a h => (x12.fnew a h).elim .inl fun z => .inr (.inr z), fun _ _ h => ⟨_, h, rfl⟩⟩ : Step F H env σ (A ++ C) F2 H2 env σ (A ++ C)) s') rfl (fun _ _ => rfl) h4
        | _ => exact h3.elim
      | _ => exact h2.elim
where repOL_len {F H : Hp} : ∀ {os : List O} {xs : List V} {A : List Addr}, RepOL F H os xs A → xs.length = os.length
  | [], _, _, ⟨e, _⟩ => by rw [e]; rfl
  | o :: os, _, _, ⟨x, r, B, C, e, _, _, t⟩ => by rw [e, List.length_cons, List.length_cons, repOL_len t]

/-! ### what is walked -/
abbrev DTI := DEnv → (List D → DEnv → Prop) → DX → Prop
def IterOk (F : Hp) (J : It) (ds : List D) : Prop := ∀ (F' H' : Hp) (i : Nat), Sm F F' → Same F' H' → (∀ d, ds[i]? = some d → J.go i H' ∧ ∀ x H'', J.yld i H' x H'' → ∃ F'', Ext F' H' F'' H'' [] ∧ Rep F'' d x) ∧ (ds.length ≤ i → J.stop i H')
theorem IterOk.mono {F F' : Hp} {J : It} {ds : List D} (s : Sm F F') (h : IterOk F J ds) : IterOk F' J ds := fun F1 H1 i s1 s2 => h F1 H1 i (s.trans s1) s2
def SimI (W : WX) (t : TI) (d : DTI) : Prop := ∀ (F H : Hp) (env : DEnv) (σ : L2.St) (A : List Addr) (Q : It → Hp → Prop) (P : List D → DEnv → Prop) (X : DX), Good F H env σ A → d env P X → XOk F H env σ A W X →
  (∀ J ds env' F' H' A', Good F' H' env' σ A' → Step F H env σ A F' H' env' σ A' → IterOk F' J ds → P ds env' → Q J H') → t σ H Q
def dForGo (g : DG) (body : DTS) (DD : DEnds) : List D → DEnv → Prop
  | [], env => DD.nx env
  | d :: r, env => g (.fr d) env (fun env1 => body { DD with nx := dForGo g body DD r, ct := dForGo g body DD r, bk := DD.nx } env1) DD.ex
def dFor (di : DTI) (g : DG) (body : DTS) : DTS := fun DD env => di env (fun ds env1 => dForGo g body DD ds env1) DD.ex
section
variable {W : WX} {js : List Nat}
theorem sim_for {wi : TI} {di : DTI} {tg : TG} {dg : DG} {tb : TS} {db : DTS} (hi : SimI W wi di) (hg : SimG W js tg dg) (hb : SimS W tb db) : SimS W (tFor wi tg tb) (dFor di dg db) := by
  intro F H env σ A E DD g h eo
  refine hi F H env σ A _ _ _ g h eo.ex fun J ds env1 F1 H1 A1 g1 s1 io h1 => ?_
  refine ⟨fun i m σ' H' => m + i = ds.length ∧ ∃ env' F' A', Good F' H' env' σ' A' ∧ Step F1 H1 env1 σ A1 F' H' env' σ' A' ∧ dForGo dg db DD (ds.drop i) env', ⟨ds.length, rfl, env1, F1, A1, g1, .refl, h1⟩, ?_⟩
  rintro i m σ' H' ⟨hm, env', F', A', g', s', h'⟩
  cases e : ds[i]? with
  | none =>
    have hl : ds.length ≤ i := List.getElem?_eq_none_iff.mp e
    rw [List.drop_eq_nil_of_le hl] at h'
    exact .inl ⟨(io F' H' i s'.f g'.sub).2 hl, eo.nx env' σ' F' H' A' g' (s1.trans s') h'⟩
  | some d =>
    have hi := (List.getElem?_eq_some_iff.mp e).1
    obtain ⟨go, yl⟩ := (io F' H' i s'.f g'.sub).1 d e
    have ed : ds.drop i = d :: ds.drop (i + 1) := by
      rw [List.drop_eq_getElem_cons hi]
      rw [(List.getElem?_eq_some_iff.mp e).2]
    rw [ed] at h'
    refine .inr ⟨go, fun σ2 H2 => ∃ env2 F2 A2, Good F2 H2 env2 σ2 A2 ∧ Step F1 H1 env1 σ A1 F2 H2 env2 σ2 A2 ∧ dForGo dg db DD (ds.drop (i + 1)) env2, fun σ2 H2 ⟨env2, F2, A2, q1, q2, q3⟩ => ⟨m - 1, by omega, by omega, env2, F2, A2, q1, q2, q3⟩, fun x H'' hy => ?_⟩
    obtain ⟨F'', x1, rd⟩ := yl x H'' hy
    have g2 := x1.good g'
    have s2 := s'.trans ((x1.step (env := env') (σ := σ') (A := A')).mem fun a m => List.mem_append_left _ m)
    refine hg F'' H'' env' σ' A' [] x (.fr d) _ _ _ g2 (.dat g2 rd) h' (eo.ex.step (s1.trans s2)) fun env3 σ3 F3 H3 A3 g3 s3 _ _ h3 => ?_
    rw [List.append_nil] at s3
    have s13 := s2.trans s3
    refine hb F3 H3 env3 σ3 A3 _ _ g3 h3 ⟨fun e4 σ4 F4 H4 A4 g4 s4 h4 => ⟨e4, F4, A4, g4, s13.trans s4, h4⟩, fun e4 σ4 F4 H4 A4 g4 s4 h4 => eo.nx e4 σ4 F4 H4 A4 g4 ((s1.trans s13).trans s4) h4, fun e4 σ4 F4 H4 A4 g4 s4 h4 => ⟨e4, F4, A4, g4, s13.trans s4, h4⟩, ?_, eo.ex.step (s1.trans s13)⟩
    exact fun v o e4 σ4 F4 H4 A4 C4 g4 s4 r4 h4 => eo.rt v o e4 σ4 F4 H4 A4 C4 g4 ((s1.trans s13).trans s4) r4 h4
end
def dWhileGo (c : DTT) (body : DTS) (DD : DEnds) : Nat → DEnv → Prop
  | 0, _ => False
  | n + 1, env => c env (fun b env1 => if b = true then body { DD with nx := dWhileGo c body DD n, ct := dWhileGo c body DD n, bk := DD.nx } env1 else DD.nx env1) DD.ex
def dWhile (c : DTT) (body : DTS) : DTS := fun DD env => ∃ n, dWhileGo c body DD n env
theorem sim_while {W : WX} {tc : TT} {dc : DTT} {tb : TS} {db : DTS} (hc : SimT W tc dc) (hb : SimS W tb db) : SimS W (tWhile tc tb) (dWhile dc db) := by
  intro F H env σ A E DD g h eo
  obtain ⟨n, h⟩ := h
  refine ⟨fun m σ' H' => ∃ env' F' A', Good F' H' env' σ' A' ∧ Step F H env σ A F' H' env' σ' A' ∧ dWhileGo dc db DD m env', ⟨n, env, F, A, g, .refl, h⟩, ?_⟩
  rintro m σ' H' ⟨env', F', A', g', s', h'⟩
  cases m with
  | zero => exact h'.elim
  | succ m =>
    refine hc F' H' env' σ' A' _ _ _ g' h' (eo.ex.step s') fun b env1 F1 H1 A1 g1 s1 h1 => ?_
    have s01 := s'.trans s1
    cases b with
    | false =>
      rw [if_neg Bool.false_ne_true] at h1 ⊢
      exact eo.nx env1 σ' F1 H1 A1 g1 s01 h1
    | true =>
      rw [if_pos rfl] at h1 ⊢
      refine ⟨fun σ2 H2 => ∃ env2 F2 A2, Good F2 H2 env2 σ2 A2 ∧ Step F H env σ A F2 H2 env2 σ2 A2 ∧ dWhileGo dc db DD m env2, fun σ2 H2 q => ⟨m, Nat.lt_succ_self m, q⟩, ?_⟩
      refine hb F1 H1 env1 σ' A1 _ _ g1 h1 ⟨fun e4 σ4 F4 H4 A4 g4 s4 h4 => ⟨e4, F4, A4, g4, s01.trans s4, h4⟩, fun e4 σ4 F4 H4 A4 g4 s4 h4 => eo.nx e4 σ4 F4 H4 A4 g4 (s01.trans s4) h4, fun e4 σ4 F4 H4 A4 g4 s4 h4 => ⟨e4, F4, A4, g4, s01.trans s4, h4⟩, ?_, eo.ex.step s01⟩
      exact fun v o e4 σ4 F4 H4 A4 C4 g4 s4 r4 h4 => eo.rt v o e4 σ4 F4 H4 A4 C4 g4 (s01.trans s4) r4 h4
/-! ### comprehensions -/
def keepS : S → S
  | .ow (.fr d) => .ow (.fr d)
  | _ => .un
def S.isBo : S → Bool
  | .bo _ => true
  | _ => false
def wipeD (env : DEnv) : List Nat → DEnv
  | [] => env
  | v :: vs => (wipeD env vs).set v .un
def backD (env0 env : DEnv) : List Nat → DEnv
  | [] => env
  | v :: vs => match env0[v]? with
    | some s => (backD env0 env vs).set v (keepS s)
    | none => backD env0 env vs
def noBo (env : DEnv) (vs : List Nat) : Prop := vs.all (fun v => match env[v]? with
  | some s => !s.isBo
  | none => false) = true
def dLcGo (g : DG) (tt : DTT) (te : DTE) (vs : List Nat) (P : List O → DEnv → Prop) (X : DX) : List D → List O → DEnv → Prop
  | [], acc, env => P acc env
  | d :: r, acc, env => noBo env vs ∧ g (.fr d) (wipeD env vs) (fun env1 => tt env1 (fun b env2 => if b = true then te env2 (fun q env3 => toO q env3 fun o env4 => acc.length < sizeLine ∧ dLcGo g tt te vs P X r (acc ++ [o]) (backD env env4 vs)) (fun e _ => X e env) else dLcGo g tt te vs P X r acc (backD env env2 vs)) (fun e _ => X e env)) (fun e _ => X e env)
/-- an error does not leave a comprehension -/
def dLc (di : DTI) (g : DG) (tt : DTT) (te : DTE) (vs : List Nat) : DTE := fun env P X => di env (fun ds env1 => dLcGo g tt te vs (fun acc env2 => P (.o (.lst acc)) env2) (fun _ _ => False) ds [] env1) X
theorem wipe_get (σ : L2.St) : ∀ (vs : List Nat) (j : Nat), (wipe σ vs)[j]? = if j ∈ vs then (if j < σ.length then some none else none) else σ[j]?
  | [], j => by rw [if_neg List.not_mem_nil]; rfl
  | v :: vs, j => by
    show ((wipe σ vs).set v none)[j]? = _
    by_cases e : v = j
    · subst e
      rw [if_pos List.mem_cons_self]
      by_cases hl : v < σ.length
      · rw [if_pos hl, List.getElem?_set_self (by rw [wipe_length]; exact hl)]
      · rw [if_neg hl]
        exact List.getElem?_eq_none_iff.mpr (by rw [List.length_set, wipe_length]; omega)
    · rw [List.getElem?_set_ne e, wipe_get σ vs j]
      by_cases m : j ∈ vs
      · rw [if_pos m, if_pos (List.mem_cons_of_mem _ m)]
      · rw [if_neg m, if_neg (fun z => (List.mem_cons.mp z).elim (fun z => e z.symm) m)]
theorem wipe_eq {σ σ2 : L2.St} {vs : List Nat} (hl : σ2.length = σ.length) (h : ∀ j, j ∉ vs → σ2[j]? = σ[j]?) : wipe σ2 vs = wipe σ vs := by
  refine List.ext_getElem? fun j => ?_
  rw [wipe_get, wipe_get, hl]
  by_cases m : j ∈ vs
  · rw [if_pos m, if_pos m]
  · rw [if_neg m, if_neg m]
    exact h j m
theorem wipe_out {σ : L2.St} {vs : List Nat} {j : Nat} (m : j ∉ vs) : (wipe σ vs)[j]? = σ[j]? := by rw [wipe_get, if_neg m]
/-- some slots forgotten -/
theorem Good.unS {F H : Hp} {env : DEnv} {σ : L2.St} {A : List Addr} (g : Good F H env σ A) (i : Nat) (v : Option V) : ∃ A', Good F H (env.set i .un) (σ.set i v) A' ∧ ∀ a ∈ A', a ∈ A := by
  cases e : env[i]? with
  | none =>
    have hl : env.length ≤ i := List.getElem?_eq_none_iff.mp e
    rw [List.set_eq_of_length_le hl, List.set_eq_of_length_le (by rw [g.rep.len]; exact hl)]
    exact ⟨A, g, fun _ h => h⟩
  | some s =>
    obtain ⟨w, B, R, h1, h2, h3, h4⟩ := g.rep.out e
    obtain ⟨A', p1, p2⟩ := RepS.put (s := .un) (v := v) (B := []) rfl h4 (get_set e)
    rw [List.set_set, List.nil_append] at *
    have nd : (B ++ R).Nodup := h3.nodup_iff.mp g.nd
    have mm : ∀ a ∈ A', a ∈ A := fun a m => h3.mem_iff.mpr (List.mem_append_right _ (p1.mem_iff.mp m))
    exact ⟨A', ⟨g.sub, p2, p1.nodup_iff.mpr (nodup_r nd), fun a m => g.dis a (mm a m)⟩, mm⟩
theorem Good.wipe {F H : Hp} {env : DEnv} {σ : L2.St} {A : List Addr} (g : Good F H env σ A) : ∀ vs : List Nat, ∃ A', Good F H (wipeD env vs) (L2.wipe σ vs) A' ∧ ∀ a ∈ A', a ∈ A
  | [] => ⟨A, g, fun _ h => h⟩
  | v :: vs => by
    obtain ⟨A1, g1, m1⟩ := g.wipe vs
    obtain ⟨A2, g2, m2⟩ := g1.unS v none
    exact ⟨A2, g2, fun a m => m1 a (m2 a m)⟩
/-- the slots put back: σ0 held env0 -/
theorem Good.back {F H F0 H0 : Hp} {env env0 : DEnv} {σ σ0 : L2.St} {A A0 : List Addr} (g : Good F H env σ A) (g0 : Good F0 H0 env0 σ0 A0) (s : Sm F0 F) : ∀ vs : List Nat, (∀ v ∈ vs, ∃ s, env0[v]? = some s ∧ v < env.length) →
    ∃ A' σ', Good F H (backD env0 env vs) σ' A' ∧ (∀ a ∈ A', a ∈ A) ∧ σ'.length = σ.length ∧ (∀ j, j ∉ vs → σ'[j]? = σ[j]?) ∧ (∀ j ∈ vs, σ'[j]? = σ0[j]?) ∧ (backD env0 env vs).length = env.length ∧ (∀ j, j ∉ vs → (backD env0 env vs)[j]? = env[j]?)
  | [], _ => ⟨A, σ, g, fun _ h => h, rfl, fun _ _ => rfl, fun _ h => (nomatch h), rfl, fun _ _ => rfl⟩
  | v :: vs, hv => by
    obtain ⟨A1, σ1, g1, m1, l1, j1, k1, e1, e2⟩ := g.back g0 s vs fun u hu => hv u (List.mem_cons_of_mem _ hu)
    obtain ⟨s0, h0, hl⟩ := hv v List.mem_cons_self
    obtain ⟨w, B, R, q1, q2, q3, q4⟩ := g0.rep.out h0
    have eb : backD env0 env (v :: vs) = (backD env0 env vs).set v (keepS s0) := by
      show (match env0[v]? with
        | some s => (backD env0 env vs).set v (keepS s)
        | none => backD env0 env vs) = _
      rw [h0]
    rw [eb]
    have hv1 : v < (backD env0 env vs).length := by rw [e1]; exact hl
    obtain ⟨sv, hsv⟩ : ∃ sv, (backD env0 env vs)[v]? = some sv := ⟨_, List.getElem?_eq_getElem hv1⟩
    obtain ⟨w', B', R', z1, z2, z3, z4⟩ := g1.rep.out hsv
    have hrep : RepSl F H (keepS s0) w [] := by
      cases s0 with
      | un => rfl
      | bo o => rfl
      | ow o =>
        cases o with
        | fr d =>
          obtain ⟨x, ex, eB, rd⟩ := q2
          exact ⟨x, ex, rfl, rd.mono s⟩
        | _ => rfl
    obtain ⟨A2, p1, p2⟩ := RepS.put hrep z4 (get_set hsv)
    rw [List.set_set, List.nil_append] at *
    have nd : (B' ++ R').Nodup := z3.nodup_iff.mp g1.nd
    have mm : ∀ a ∈ A2, a ∈ A1 := fun a m => z3.mem_iff.mpr (List.mem_append_right _ (p1.mem_iff.mp m))
    have ls : v < σ1.length := by rw [g1.rep.len]; exact hv1
    refine ⟨A2, σ1.set v w, ⟨g1.sub, p2, p1.nodup_iff.mpr (nodup_r nd), fun a m => g1.dis a (mm a m)⟩, fun a m => m1 a (mm a m), by rw [List.length_set, l1], fun j hj => ?_, fun j hj => ?_, by rw [List.length_set, e1], fun j hj => ?_⟩
    · rw [List.getElem?_set_ne (fun z => hj (by rw [z]; exact List.mem_cons_self))]
      exact j1 j fun z => hj (List.mem_cons_of_mem _ z)
    · by_cases e : v = j
      · subst e
        rw [List.getElem?_set_self ls, q1]
      · rw [List.getElem?_set_ne e]
        exact k1 j ((List.mem_cons.mp hj).elim (fun z => absurd z.symm e) id)
    · rw [List.getElem?_set_ne (fun z => hj (by rw [z]; exact List.mem_cons_self))]
      exact e2 j fun z => hj (List.mem_cons_of_mem _ z)
theorem noBo_of {env : DEnv} {vs : List Nat} (h : noBo env vs) {v : Nat} (hv : v ∈ vs) {o : O} (e : env[v]? = some (.bo o)) : False := by
  have := List.all_eq_true.mp h v hv
  rw [e] at this
  exact absurd this (by simp [S.isBo])
theorem noBo_there {env : DEnv} {vs : List Nat} (h : noBo env vs) {v : Nat} (hv : v ∈ vs) : ∃ s, env[v]? = some s := by
  have := List.all_eq_true.mp h v hv
  cases e : env[v]? with
  | none => rw [e] at this; exact absurd this (by simp)
  | some s => exact ⟨s, rfl⟩
theorem wipeD_out (env : DEnv) : ∀ (vs : List Nat) {j : Nat}, j ∉ vs → (wipeD env vs)[j]? = env[j]?
  | [], _, _ => rfl
  | v :: vs, j, m => by
    show ((wipeD env vs).set v .un)[j]? = _
    rw [List.getElem?_set_ne (fun z => m (by rw [z]; exact List.mem_cons_self))]
    exact wipeD_out env vs fun z => m (List.mem_cons_of_mem _ z)
theorem Step.out {F H F' H' : Hp} {env env' : DEnv} {σ σ' : L2.St} {A A' C : List Addr} {o : O} {x : V} (s : Step F H env σ A F' H' env' σ' A') (h : RepO F H o x C) (hC : ∀ a ∈ C, a ∉ A ∧ F a = none) : RepO F' H' o x C ∧ ∀ a ∈ C, a ∉ A' ∧ F' a = none := by
  refine ⟨h.stay ⟨s.f, fun a m o e => s.keep a o e (hC a m).1 (hC a m).2⟩, fun a m => ⟨fun z => ?_, ?_⟩⟩
  · rcases s.anew a z with q | q
    · exact (hC a m).1 q
    · exact h.there a m q
  · cases q : F' a with
    | none => rfl
    | some u =>
      rcases s.fnew a (by rw [q]; exact Option.some_ne_none _) with z | z | z
      · exact absurd (hC a m).2 z
      · exact absurd z (hC a m).1
      · exact absurd z (h.there a m)
theorem RepOL.app {F H : Hp} : ∀ {os us : List O} {xs ys : List V} {A B : List Addr}, RepOL F H os xs A → RepOL F H us ys B → RepOL F H (os ++ us) (xs ++ ys) (A ++ B)
  | [], _, _, _, _, _, ⟨e, eA⟩, k => by rw [e, eA]; exact k
  | o :: os, _, _, _, _, _, ⟨x, r, B, C, e, eA, h, t⟩, k => ⟨x, _, B, _, by rw [e]; rfl, by rw [eA, List.append_assoc], h, RepOL.app t k⟩
theorem RepOL.len {F H : Hp} : ∀ {os : List O} {xs : List V} {A : List Addr}, RepOL F H os xs A → xs.length = os.length
  | [], _, _, ⟨e, _⟩ => by rw [e]; rfl
  | o :: os, _, _, ⟨x, r, B, C, e, _, _, t⟩ => by rw [e, List.length_cons, List.length_cons, RepOL.len t]
/-- behind a turn of a comprehension -/
theorem lc_back {F H F2 H2 F3 H3 : Hp} {env env3 : DEnv} {σ σ2 : L2.St} {A Aw A3 : List Addr} {vs : List Nat} (g : Good F H env σ A) (nb : noBo env vs) (x1 : Ext F H F2 H2 []) (gw : Good F2 H2 (wipeD env vs) (L2.wipe σ vs) Aw) (mw : ∀ a ∈ Aw, a ∈ A)
    {B : List Addr} (s : Step F2 H2 (wipeD env vs) (L2.wipe σ vs) Aw F3 H3 env3 σ2 (A3 ++ B)) (g3 : Good F3 H3 env3 σ2 A3) (hl : σ2.length = σ.length) (hj : ∀ j, j ∉ vs → σ2[j]? = σ[j]?) (he : env3.length = env.length) :
    ∃ A4, Good F3 H3 (backD env env3 vs) σ A4 ∧ Step F H env σ A F3 H3 (backD env env3 vs) σ (A4 ++ B) ∧ ∀ a ∈ A4, a ∈ A3 := by
  obtain ⟨A4, σ', g4, m4, l4, j4, k4, e4, b4⟩ := g3.back g (x1.f.trans s.f) vs fun v hv => by
    obtain ⟨s0, h0⟩ := noBo_there nb hv
    exact ⟨s0, h0, by rw [he]; exact (List.getElem?_eq_some_iff.mp h0).1⟩
  have es : σ' = σ := List.ext_getElem? fun j => by
    by_cases m : j ∈ vs
    · exact k4 j m
    · rw [j4 j m, hj j m]
  subst es
  refine ⟨A4, g4, ⟨x1.f.trans s.f, fun a o h n f => s.keep a o (x1.hx a o h f) (fun z => n (mw a z)) (x1.fno f h), fun a z => x1.h.free (s.free a z), fun a m => ?_, fun a z => ?_, fun i o hi => ?_⟩, m4⟩
  · have m' : a ∈ A3 ++ B := (List.mem_append.mp m).elim (fun m => List.mem_append_left _ (m4 a m)) fun m => List.mem_append_right _ m
    exact (s.anew a m').elim (fun z => .inl (mw a z)) fun z => .inr (x1.h.free z)
  · rcases s.fnew a z with q | q | q
    · exact (x1.fnew a q).elim .inl fun q => .inr (.inr q)
    · exact .inr (.inl (mw a q))
    · exact .inr (.inr (x1.h.free q))
  · have ni : i ∉ vs := fun z => noBo_of nb z hi
    obtain ⟨o', h1, h2⟩ := s.bor i o (by rw [wipeD_out env vs ni]; exact hi)
    exact ⟨o', by rw [b4 i ni]; exact h1, rfl⟩
theorem wipeD_len (env : DEnv) : ∀ vs : List Nat, (wipeD env vs).length = env.length
  | [] => rfl
  | v :: vs => by
    show ((wipeD env vs).set v .un).length = _
    rw [List.length_set, wipeD_len env vs]
theorem sim_lc {W : WX} {js vs : List Nat} {wi : TI} {di : DTI} {tg : TG} {dg : DG} {tt : TT} {dt : DTT} {te : TE} {de : DTE} (hi : SimI W wi di) (hg : SimG W js tg dg) (ht : SimT W tt dt) (he : SimE W te de) (hjs : ∀ j ∈ js, j ∈ vs) : SimE W (tLc wi tg tt te vs) (dLc di dg dt de vs) := by
  intro F H env σ A Q P X g h xo k
  refine hi F H env σ A _ _ _ g h xo fun J ds env1 F1 H1 A1 g1 s1 io h1 => ?_
  intro D nD
  have x0 := ext_own (o := .lst []) g1.sub nD
  have g0 := x0.good g1
  refine ⟨fun i m H' => m + i = ds.length ∧ ∃ env' F' A' acc C, Good F' H' env' σ A' ∧ Step F1 H1 env1 σ A1 F' H' env' σ (A' ++ C) ∧ RepR F' H' σ A' (.o (.lst acc)) (.ref D) C ∧ dLcGo dg dt de vs (fun acc env2 => P (.o (.lst acc)) env2) (fun _ _ => False) (ds.drop i) acc env',
    ⟨ds.length, rfl, env1, F1, A1, [], [D], g0, x0.step, .new g1 x0 (o := .lst []) ⟨D, [], [], rfl, rfl, upd_same, rfl, rfl⟩ (List.nodup_cons.mpr ⟨List.not_mem_nil, List.nodup_nil⟩) (fun a m => by rw [List.mem_singleton.mp m]; exact g1.sub.free nD), h1⟩, ?_⟩
  rintro i m H' ⟨hm, env', F', A', acc, C, g', s', rC, h'⟩
  cases e : ds[i]? with
  | none =>
    have hl : ds.length ≤ i := List.getElem?_eq_none_iff.mp e
    rw [List.drop_eq_nil_of_le hl] at h'
    exact .inl ⟨(io F' H' i s'.f g'.sub).2 hl, k (.ref D) (.o (.lst acc)) env' F' H' A' C g' (s1.trans s') rC h'⟩
  | some d =>
    have hi := (List.getElem?_eq_some_iff.mp e).1
    obtain ⟨go, yl⟩ := (io F' H' i s'.f g'.sub).1 d e
    have ed : ds.drop i = d :: ds.drop (i + 1) := by
      rw [List.drop_eq_getElem_cons hi]
      rw [(List.getElem?_eq_some_iff.mp e).2]
    rw [ed] at h'
    obtain ⟨nb, h'⟩ := h'
    refine .inr ⟨go, fun H2 => ∃ env2 F2 A2 acc2 C2, Good F2 H2 env2 σ A2 ∧ Step F1 H1 env1 σ A1 F2 H2 env2 σ (A2 ++ C2) ∧ RepR F2 H2 σ A2 (.o (.lst acc2)) (.ref D) C2 ∧ dLcGo dg dt de vs (fun acc env2 => P (.o (.lst acc)) env2) (fun _ _ => False) (ds.drop (i + 1)) acc2 env2,
      fun H2 q => ⟨m - 1, by omega, by omega, q⟩, fun x H'' hy => ?_⟩
    obtain ⟨F'', x1, rd⟩ := yl x H'' hy
    have g2 := x1.good g'
    obtain ⟨Aw, gw, mw⟩ := g2.wipe vs
    have rC2 := rC.ext x1
    have hC : ∀ a ∈ C, a ∉ Aw ∧ F'' a = none := fun a m => ⟨fun z => nodup_d rC2.2.1 (mw a z) m, rC2.2.2 a m⟩
    have xoF : ∀ (F H : Hp) (env : DEnv) (σ : L2.St) (A : List Addr), XOk F H env σ A W (fun e _ => False) := fun _ _ _ _ _ _ _ _ _ _ _ _ _ _ _ _ q => q.elim
    refine hg F'' H'' (wipeD env' vs) (L2.wipe σ vs) Aw [] x (.fr d) _ _ _ gw (.dat gw rd) h' (xoF _ _ _ _ _) fun env3 σ3 F3 H3 A3 g3 s3 l3 j3 h3 => ?_
    rw [List.append_nil] at s3
    have l3' : σ3.length = σ.length := by rw [l3, wipe_length]
    have j3' : ∀ j, j ∉ vs → σ3[j]? = σ[j]? := fun j hj => (j3 j fun z => hj (hjs j z)).trans (wipe_out hj)
    refine ⟨wipe_eq l3' j3', ?_⟩
    refine ht F3 H3 env3 σ3 A3 _ _ _ g3 h3 (xoF _ _ _ _ _) fun b env4 F4 H4 A4 g4 s4 h4 => ?_
    have s34 := s3.trans s4
    have eb : env'.length = σ.length := g'.rep.len.symm
    cases b with
    | false =>
      rw [if_neg Bool.false_ne_true] at h4 ⊢
      obtain ⟨A5, g5, s5, m5⟩ := lc_back (B := []) g' nb x1 gw mw (by rw [List.append_nil]; exact s34) g4 l3' j3' (by rw [eb, ← l3']; exact g4.rep.len.symm)
      rw [List.append_nil] at s5
      obtain ⟨q1, q2⟩ := s34.out rC2.1 hC
      refine ⟨_, F4, A5, acc, C, g5, s'.trans ⟨s5.f, fun a o h n f => s5.keep a o h (fun z => n (List.mem_append_left _ z)) f, s5.free, fun a m => ?_, fun a z => ?_, s5.bor⟩, ⟨q1, ?_, fun a m => (q2 a m).2⟩, h4⟩
      · rcases List.mem_append.mp m with m | m
        · exact (s5.anew a m).elim (fun z => .inl (List.mem_append_left _ z)) .inr
        · exact .inl (List.mem_append_right _ m)
      · rcases s5.fnew a z with z | z | z
        · exact .inl z
        · exact .inr (.inl (List.mem_append_left _ z))
        · exact .inr (.inr z)
      · exact List.nodup_append.mpr ⟨g5.nd, nodup_r rC.2.1, fun a ha b hb z => by subst z; exact (q2 a hb).1 (m5 a ha)⟩
    | true =>
      rw [if_pos rfl] at h4 ⊢
      refine he F4 H4 env4 σ3 A4 _ _ _ g4 h4 (xoF _ _ _ _ _) fun y r env5 F5 H5 A5 C5 g5 s5 r5 h5 => ?_
      obtain ⟨F6, A6, o, env6, C6, h6, g6, s6, r6⟩ := toO_ok g5 r5 h5
      obtain ⟨hz, h6⟩ := h6
      have s36 := s34.trans (s5.trans s6)
      obtain ⟨q1, q2⟩ := s36.out rC2.1 hC
      obtain ⟨D', xs, Bc, eD, eC, hxs, rl⟩ := q1
      cases eD
      refine ⟨xs, hxs, by rw [rl.len]; exact hz, ?_⟩
      have nDF : F6 D = none := (q2 D (by rw [eC]; exact List.mem_cons_self)).2
      have nDA : D ∉ A6 ++ C6 := (q2 D (by rw [eC]; exact List.mem_cons_self)).1
      have ndC := nodup_r rC.2.1
      rw [eC] at ndC
      have nDB := (List.nodup_cons.mp ndC).1
      have g7 : Good F6 (upd H5 D (.lst (xs ++ [y]))) env6 σ3 A6 := ⟨same_own g6.sub nDF, g6.rep.stay ⟨.refl _, fun a m o e => by rw [upd_ne (fun z => nDA (by rw [← z]; exact List.mem_append_left _ m))]; exact e⟩, g6.nd, g6.dis⟩
      obtain ⟨A7, g8, s8, m8⟩ := lc_back (B := C6) (H3 := H5) g' nb x1 gw mw s36 g6 l3' j3' (by rw [eb, ← l3']; exact g6.rep.len.symm)
      have nD7 : D ∉ A7 := fun z => nDA (List.mem_append_left _ (m8 D z))
      have g9 : Good F6 (upd H5 D (.lst (xs ++ [y]))) (backD env' env6 vs) σ A7 := ⟨g7.sub, g8.rep.stay ⟨.refl _, fun a m o e => by rw [upd_ne (fun z => nD7 (by rw [← z]; exact m))]; exact e⟩, g8.nd, g8.dis⟩
      have ro : RepO F6 (upd H5 D (.lst (xs ++ [y]))) (.lst (acc ++ [o])) (.ref D) (D :: (Bc ++ (C6 ++ []))) :=
        ⟨D, _, _, rfl, rfl, upd_same, (rl.stay ⟨.refl _, fun a m o e => by rw [upd_ne (fun z => nDB (by rw [← z]; exact m))]; exact e⟩).app ⟨y, [], C6, [], rfl, rfl, r6.1.stay ⟨.refl _, fun a m o e => by rw [upd_ne (fun z => nDA (by rw [← z]; exact List.mem_append_right _ m))]; exact e⟩, rfl, rfl⟩⟩
      have mC : ∀ a ∈ D :: (Bc ++ (C6 ++ [])), a ∈ C ∨ a ∈ C6 := fun a m => by
        rcases List.mem_cons.mp m with m | m
        · exact .inl (by rw [m, eC]; exact List.mem_cons_self)
        · rcases List.mem_append.mp m with m | m
          · exact .inl (by rw [eC]; exact List.mem_cons_of_mem _ m)
          · rw [List.append_nil] at m
            exact .inr m
      refine ⟨_, F6, A7, acc ++ [o], D :: (Bc ++ (C6 ++ [])), g9, s'.trans ⟨s8.f, fun a o h n f => ?_, fun a z => s8.free a (upd_free z), fun a m => ?_, fun a z => ?_, s8.bor⟩, ⟨ro, ?_, fun a m => ?_⟩, h6⟩
      · rw [upd_ne (fun z => n (List.mem_append_right _ (by rw [z, eC]; exact List.mem_cons_self)))]
        exact s8.keep a o h (fun z => n (List.mem_append_left _ z)) f
      · rcases List.mem_append.mp m with m | m
        · exact (s8.anew a (List.mem_append_left _ m)).elim (fun z => .inl (List.mem_append_left _ z)) .inr
        · rcases mC a m with m | m
          · exact .inl (List.mem_append_right _ m)
          · exact (s8.anew a (List.mem_append_right _ m)).elim (fun z => .inl (List.mem_append_left _ z)) .inr
      · rcases s8.fnew a z with z | z | z
        · exact .inl z
        · exact .inr (.inl (List.mem_append_left _ z))
        · exact .inr (.inr z)
      · have ndB : (D :: (Bc ++ (C6 ++ []))).Nodup := by
          rw [List.append_nil]
          refine List.nodup_cons.mpr ⟨fun m => ?_, List.nodup_append.mpr ⟨(List.nodup_cons.mp ndC).2, nodup_r r6.2.1, fun a ha b hb z => ?_⟩⟩
          · rcases List.mem_append.mp m with m | m
            · exact nDB m
            · exact nDA (List.mem_append_right _ m)
          · subst z
            exact (q2 a (by rw [eC]; exact List.mem_cons_of_mem _ ha)).1 (List.mem_append_right _ hb)
        refine List.nodup_append.mpr ⟨g9.nd, ndB, fun a ha b hb z => ?_⟩
        subst z
        rcases mC a hb with m | m
        · exact (q2 a m).1 (List.mem_append_left _ (m8 a ha))
        · exact nodup_d r6.2.1 (m8 a ha) m
      · rcases mC a m with m | m
        · exact (q2 a m).2
        · exact r6.2.2 a m

/-! ### sources of a walk -/
def dIter (da : DTE) : DTI := fun env P X => da env (fun r env1 => force r env1 fun d env2 => match d with
  | .lst ds => P ds env2
  | .tup ds => P ds env2
  | _ => False) X
def iSeq (K : PySem.W.Frag) (te : TE) : TI := fun σ H R => te σ H fun x H1 => ∃ a, x = .ref a ∧ (((∃ xs, SqL K H1 a xs) ∧ R (Itl K a) H1) ∨ ((∃ xs, SqT K H1 a xs) ∧ R (Itt K a) H1))
theorem pi_seq {X : Cx} {tg l : Expr} {tl : TE} (hl : PE X l tl) : PI X tg l (iSeq X.K tl) := by
  refine ⟨fun pins s σ H R I h => ?_⟩
  refine thn (hl.run pins s σ H _ I h) fun v s1 ⟨x, H1, I1, r1, q1⟩ => ?_
  obtain ⟨a, e, q⟩ := q1
  subst e
  cases r1
  rcases q with ⟨⟨xs, hq⟩, q⟩ | ⟨⟨xs, hq⟩, q⟩
  · obtain ⟨its, rv, p, hz⟩ := I1.list hq
    refine wpAny_pyIter_list p.isList ?_
    refine ⟨s1.heap.objs.size, [s1.heap.objs.size], _, _, H1, rfl, I1.kept (t' := s1.toks) fun b o e => Heap.get?_push_of_some _ e, turn_list a _, ⟨_, Heap.get?_push_size _ rfl, rfl, rfl⟩, fun b hb => ?_, q⟩
    have e : b = s1.heap.objs.size := by simpa using hb
    subst e
    exact I1.fpOk (Nat.le_refl _) (I1.hok.fresh (Nat.le_refl _))
  · obtain ⟨its, rv, p, hz⟩ := I1.tuple hq
    refine wpAny_pyIter_tuple (show s1.heap.IsTuple a its.toArray from p) ?_
    refine ⟨s1.heap.objs.size, [s1.heap.objs.size], _, _, H1, rfl, I1.kept (t' := s1.toks) fun b o e => Heap.get?_push_of_some _ e, turn_tuple a _, ⟨_, Heap.get?_push_size _ rfl, rfl, rfl⟩, fun b hb => ?_, q⟩
    have e : b = s1.heap.objs.size := by simpa using hb
    subst e
    exact I1.fpOk (Nat.le_refl _) (I1.hok.fresh (Nat.le_refl _))
def rgD (lo : Int) (n : Nat) : List D := (List.range n).map fun (k : Nat) => D.int (lo + (k : Nat))
def dRng1 (da : DTA) : DTI := fun env P X => da env (fun rs env1 => oth (peekL rs env1) fun ds => match ds with
  | [.int j] => -(2 ^ 62) ≤ j ∧ j < 2 ^ 62 ∧ P (rgD 0 j.toNat) env1
  | _ => False) X
def dRng2 (da : DTA) : DTI := fun env P X => da env (fun rs env1 => oth (peekL rs env1) fun ds => match ds with
  | [.int i, .int j] => (-(2 ^ 62) ≤ i ∧ i < 2 ^ 62 ∧ -(2 ^ 62) ≤ j ∧ j < 2 ^ 62) ∧ P (rgD i (j - i).toNat) env1
  | _ => False) X
section
variable {W : WX} {K : PySem.W.Frag} {te : TE} {de : DTE} {ta : TA} {da : DTA}
theorem iterOk_rng {F : Hp} {lo : Int} {n : Nat} : IterOk F (Itr lo n) (rgD lo n) := fun F' H' i s1 s2 => by
  have hl : (rgD lo n).length = n := by unfold rgD; rw [List.length_map, List.length_range]
  refine ⟨fun d e => ?_, fun h => by rw [hl] at h; exact h⟩
  have hi : i < n := by rw [← hl]; exact (List.getElem?_eq_some_iff.mp e).1
  have ed : d = .int (lo + (i : Nat)) := by
    unfold rgD at e
    rw [List.getElem?_map, List.getElem?_range hi] at e
    exact (Option.some.inj e).symm
  refine ⟨hi, fun x H'' ⟨e1, e2⟩ => ⟨F', ?_, ?_⟩⟩
  · rw [e1]; exact .refl s2
  · rw [ed, e2]; rfl
theorem sim_seq_it (he : SimE W te de) : SimI W (iSeq K te) (dIter de) := by
  intro F H env σ A Q P X g h xo k
  refine he F H env σ A _ _ X g h xo fun x r env1 F1 H1 A1 C1 g1 s1 rr1 h1 => ?_
  obtain ⟨F2, A2, d, env2, h2, g2, s2, rp⟩ := force_ok g1 rr1 h1
  cases d with
  | lst ds =>
    obtain ⟨a, xs, ex, hf, rl⟩ := rp
    refine ⟨a, ex, .inl ⟨⟨xs, SqL.of (g2.sub _ _ hf)⟩, k _ ds env2 F2 H1 A2 g2 (s1.trans s2) (fun F' H' i z1 z2 => ⟨fun d e => ?_, fun hl => ⟨xs, SqL.of (z2 _ _ (z1.ex rfl hf)), by rw [rl.length]; exact hl⟩⟩) h2⟩⟩
    obtain ⟨x, hx, rx⟩ := rl.get e
    refine ⟨⟨xs, x, SqL.of (z2 _ _ (z1.ex rfl hf)), hx⟩, fun y H'' ⟨e1, e2⟩ => ⟨F', by rw [e1]; exact .refl z2, ?_⟩⟩
    have := e2 xs (SqL.of (z2 _ _ (z1.ex rfl hf)))
    rw [hx] at this
    cases this
    exact rx.mono z1
  | tup ds =>
    obtain ⟨a, xs, ex, hf, rl⟩ := rp
    refine ⟨a, ex, .inr ⟨⟨xs, SqT.of (g2.sub _ _ hf)⟩, k _ ds env2 F2 H1 A2 g2 (s1.trans s2) (fun F' H' i z1 z2 => ⟨fun d e => ?_, fun hl => ⟨xs, SqT.of (z2 _ _ (z1.ex rfl hf)), by rw [rl.length]; exact hl⟩⟩) h2⟩⟩
    obtain ⟨x, hx, rx⟩ := rl.get e
    refine ⟨⟨xs, x, SqT.of (z2 _ _ (z1.ex rfl hf)), hx⟩, fun y H'' ⟨e1, e2⟩ => ⟨F', by rw [e1]; exact .refl z2, ?_⟩⟩
    have := e2 xs (SqT.of (z2 _ _ (z1.ex rfl hf)))
    rw [hx] at this
    cases this
    exact rx.mono z1
  | _ => exact h2.elim
theorem repPL_1 {F H : Hp} {d : D} {xs : List V} (h : RepPL F H [d] xs) : ∃ x, xs = [x] ∧ RepP F H d x := by
  obtain ⟨x, r, e, q, t⟩ := h
  exact ⟨x, by rw [e, show r = [] from t], q⟩
theorem repPL_2 {F H : Hp} {d e : D} {xs : List V} (h : RepPL F H [d, e] xs) : ∃ x y, xs = [x, y] ∧ RepP F H d x ∧ RepP F H e y := by
  obtain ⟨x, r, e, q, t⟩ := h
  obtain ⟨y, e2, q2⟩ := repPL_1 t
  exact ⟨x, y, by rw [e, e2], q, q2⟩
theorem sim_rng1 (ha : SimA W ta da) : SimI W (iRng1 ta) (dRng1 da) := by
  intro F H env σ A Q P X g h xo k
  refine ha F H env σ A _ _ X g h xo fun xs rs env1 F1 H1 A1 C1 g1 s1 rr1 h1 => ?_
  obtain ⟨ds, e1, h2⟩ := oth_ok h1
  have rp := peekL_ok g1 rr1 e1
  match ds, h2, rp with
  | [.int j], ⟨b1, b2, h2⟩, rp =>
    obtain ⟨x, ex, rx⟩ := repPL_1 rp
    exact ⟨j, by rw [ex, show x = _ from rx], b1, b2, k _ _ env1 F1 H1 A1 g1 (s1.mem fun a m => List.mem_append_left _ m) iterOk_rng h2⟩
theorem sim_rng2 (ha : SimA W ta da) : SimI W (iRng2 ta) (dRng2 da) := by
  intro F H env σ A Q P X g h xo k
  refine ha F H env σ A _ _ X g h xo fun xs rs env1 F1 H1 A1 C1 g1 s1 rr1 h1 => ?_
  obtain ⟨ds, e1, h2⟩ := oth_ok h1
  have rp := peekL_ok g1 rr1 e1
  match ds, h2, rp with
  | [.int i, .int j], ⟨b, h2⟩, rp =>
    obtain ⟨x, y, ex, rx, ry⟩ := repPL_2 rp
    exact ⟨i, j, by rw [ex, show x = _ from rx, show y = _ from ry], b, k _ _ env1 F1 H1 A1 g1 (s1.mem fun a m => List.mem_append_left _ m) iterOk_rng h2⟩
end
/-! ### functions -/
abbrev Fn := List O → (O → List O → Prop) → (DExc → List O → Prop) → Prop
def sel {α : Type} : List Bool → List α → List α
  | true :: ms, x :: xs => x :: sel ms xs
  | false :: ms, _ :: xs => sel ms xs
  | _, _ => []
/-- what is handed over by value is data -/
def okArgs : List Bool → List O → Prop
  | true :: ms, _ :: os => okArgs ms os
  | false :: ms, o :: os => (∃ d, o = .fr d) ∧ okArgs ms os
  | [], [] => True
  | _, _ => False
def startS : List Bool → List O → List S
  | true :: ms, o :: os => .bo o :: startS ms os
  | false :: ms, o :: os => .ow o :: startS ms os
  | _, _ => []
def startD (ms : List Bool) (n : Nat) (os : List O) : DEnv := startS ms os ++ List.replicate (n - os.length) .un
def outs : List Bool → DEnv → List O
  | true :: ms, .bo o :: env => o :: outs ms env
  | _ :: ms, _ :: env => outs ms env
  | _, _ => []
def dFn (ms : List Bool) (n : Nat) (body : DTS) : Fn := fun os P PE => os.length = ms.length ∧ body ⟨fun env => P (.fr .non) (outs ms env), fun o env => P o (outs ms env), fun _ => False, fun _ => False, fun e env => PE e (outs ms env)⟩ (startD ms n os)
abbrev Ste (F H : Hp) (A : List Addr) (F' H' : Hp) (A' : List Addr) : Prop := Step F H [] [] A F' H' [] [] A'
/-- what a def promises: what its data reading does -/
def spD (ms : List Bool) (f : Fn) : Sp := fun vs H Q E => ∃ F os B P PE, okArgs ms os ∧ Same F H ∧ RepOL F H os vs B ∧ B.Nodup ∧ (∀ a ∈ B, F a = none) ∧ f os P PE ∧
  (∀ x o ps F' H' B' C, Same F' H' → RepOL F' H' ps (sel ms vs) B' → RepO F' H' o x C → (B' ++ C).Nodup → (∀ a ∈ B' ++ C, F' a = none) → Ste F H B F' H' (B' ++ C) → P o ps → Q x H') ∧
  (∀ e ps cls dd F' H' B', Same F' H' → RepOL F' H' ps (sel ms vs) B' → B'.Nodup → (∀ a ∈ B', F' a = none) → Ste F H B F' H' B' → RepX F' e cls dd → PE e ps → E cls dd H')
theorem okArgs_len : ∀ {ms : List Bool} {os : List O}, okArgs ms os → os.length = ms.length
  | true :: ms, _ :: os, h => by rw [List.length_cons, List.length_cons, okArgs_len (ms := ms) (os := os) h]
  | false :: ms, _ :: os, h => by rw [List.length_cons, List.length_cons, okArgs_len h.2]
  | [], [], _ => rfl
  | true :: _, [], h => h.elim
  | false :: _, [], h => h.elim
  | [], _ :: _, h => h.elim
theorem spD_len {ms : List Bool} {f : Fn} {vs : List V} {H : Hp} {Q : VK} {E : XK} (h : spD ms f vs H Q E) : vs.length = ms.length := by
  obtain ⟨F, os, B, P, PE, h1, h2, h3, _⟩ := h
  rw [h3.len, okArgs_len h1]
theorem repS_start {F H : Hp} : ∀ {ms : List Bool} {os : List O} {vs : List V} {B : List Addr} (n : Nat), okArgs ms os → RepOL F H os vs B → RepS F H (startS ms os ++ List.replicate n .un) (vs.map some ++ List.replicate n none) B
  | [], [], vs, B, 0, _, ⟨e1, e2⟩ => by rw [e1, e2]; exact ⟨rfl, rfl⟩
  | [], [], vs, B, n + 1, _, ⟨e1, e2⟩ => by
    have ih := repS_start (F := F) (H := H) (ms := []) (os := []) (vs := []) (B := []) n trivial ⟨rfl, rfl⟩
    rw [e1, e2]
    exact ⟨none, _, [], [], rfl, rfl, rfl, ih⟩
  | true :: ms, o :: os, vs, B, n, h, ⟨x, r, B1, C, e, eB, h1, t⟩ => by
    rw [e]
    exact ⟨some x, _, B1, C, rfl, eB, ⟨x, rfl, h1⟩, repS_start (ms := ms) n h t⟩
  | false :: ms, o :: os, vs, B, n, h, ⟨x, r, B1, C, e, eB, h1, t⟩ => by
    rw [e]
    exact ⟨some x, _, B1, C, rfl, eB, ⟨x, rfl, h1⟩, repS_start (ms := ms) n h.2 t⟩
  | true :: _, [], _, _, _, h, _ => h.elim
  | false :: _, [], _, _, _, h, _ => h.elim
  | [], _ :: _, _, _, _, h, _ => h.elim
theorem sel_nil {α : Type} : ∀ {ms : List Bool} {vs : List α}, (∀ (i : Nat) (v : α), ms[i]? = some true → vs[i]? = some v → False) → sel ms vs = []
  | [], vs, _ => by unfold sel; rfl
  | true :: ms, [], _ => rfl
  | false :: ms, [], _ => rfl
  | true :: ms, v :: vs, h => (h 0 v rfl rfl).elim
  | false :: ms, v :: vs, h => sel_nil (ms := ms) (vs := vs) fun i w e1 e2 => h (i + 1) w e1 e2
theorem outs_ok {F H : Hp} : ∀ {ms : List Bool} {vs : List V} {env : DEnv} {σ : L2.St} {A : List Addr}, RepS F H env σ A → vs.length = ms.length → (∀ (i : Nat) (v : V), ms[i]? = some true → vs[i]? = some v → (∃ o : O, env[i]? = some (S.bo o)) ∧ σ[i]? = some (some v)) →
    ∃ B, RepOL F H (outs ms env) (sel ms vs) B ∧ B.Sublist A
  | [], vs, env, σ, A, h, hl, hb => by
    cases env with
    | nil => exact ⟨[], ⟨by unfold sel; rfl, rfl⟩, List.nil_sublist _⟩
    | cons s env => exact ⟨[], ⟨by unfold sel; rfl, rfl⟩, List.nil_sublist _⟩
  | m :: ms, [], env, σ, A, h, hl, hb => by cases hl
  | m :: ms, v :: vs, [], σ, A, h, hl, hb => by
    have e0 : outs (m :: ms) [] = [] := by cases m <;> rfl
    rw [e0]
    refine ⟨[], ⟨sel_nil fun i w e1 e2 => ?_, rfl⟩, List.nil_sublist _⟩
    obtain ⟨⟨o, ho⟩, _⟩ := hb i w e1 e2
    simp at ho
  | m :: ms, v :: vs, s :: env, σ, A, ⟨w, r, B, C, e, eA, h1, t⟩, hl, hb => by
    obtain ⟨B', q1, q2⟩ := outs_ok (ms := ms) (vs := vs) t (Nat.succ.inj hl) (fun i v hm hv => by
      have := hb (i + 1) v hm hv
      rw [e] at this
      exact this)
    cases m with
    | false =>
      refine ⟨B', ?_, ?_⟩
      · cases s <;> exact q1
      · rw [eA]; exact q2.trans (List.sublist_append_right _ _)
    | true =>
      obtain ⟨⟨o, ho⟩, hv⟩ := hb 0 v rfl rfl
      rw [e] at hv
      cases hv
      cases ho
      obtain ⟨x, ex, ro⟩ := h1
      cases ex
      refine ⟨B ++ B', ⟨v, _, B, B', rfl, rfl, ro, q1⟩, ?_⟩
      rw [eA]
      exact List.Sublist.append (List.Sublist.refl _) q2
theorem startS_get : ∀ {ms : List Bool} {os : List O} {i : Nat}, okArgs ms os → ms[i]? = some true → ∃ o, (startS ms os)[i]? = some (S.bo o)
  | true :: ms, o :: os, 0, _, _ => ⟨o, rfl⟩
  | true :: ms, o :: os, i + 1, h, e => startS_get (ms := ms) (os := os) (i := i) h e
  | false :: ms, o :: os, 0, _, e => by cases e
  | false :: ms, o :: os, i + 1, h, e => startS_get (ms := ms) (os := os) (i := i) h.2 e
  | [], [], _, _, e => by simp at e
  | true :: _, [], _, h, _ => h.elim
  | false :: _, [], _, h, _ => h.elim
  | [], _ :: _, _, h, _ => h.elim
theorem startS_len : ∀ {ms : List Bool} {os : List O}, okArgs ms os → (startS ms os).length = ms.length
  | true :: ms, o :: os, h => by
    show (startS ms os).length + 1 = _
    rw [startS_len (ms := ms) (os := os) h]; rfl
  | false :: ms, o :: os, h => by
    show (startS ms os).length + 1 = _
    rw [startS_len (ms := ms) (os := os) h.2]; rfl
  | [], [], _ => rfl
  | true :: _, [], h => h.elim
  | false :: _, [], h => h.elim
  | [], _ :: _, h => h.elim
theorem Step.ste {F H F' H' : Hp} {env env' : DEnv} {σ σ' : L2.St} {A A' : List Addr} (s : Step F H env σ A F' H' env' σ' A') : Ste F H A F' H' A' := ⟨s.f, s.keep, s.free, s.anew, s.fnew, fun _ _ h => by simp at h⟩
/-- a def's walk by its data reading -/
theorem fn_ok {ms : List Bool} {n : Nat} {N : List Str} {t : XK → TS} {d : DTS} {vs : List V} {H : Hp} {Q : VK} {E : XK} (hN : N.length = n) (hs : ∀ E, SimS (fun cls dd _ H => E cls dd H) (t E) d) (h : spD ms (dFn ms n d) vs H Q E) : t E { nx := fun _ H' => Q .non H', rt := Q } (L2.start N vs) H := by
  have hl := spD_len h
  obtain ⟨F, os, B, P, PE, ok, sub, ro, nd, dis, ⟨_, hd⟩, hr, he⟩ := h
  have hos := okArgs_len ok
  have eσ : L2.start N vs = vs.map some ++ List.replicate (n - os.length) none := by
    unfold L2.start
    rw [hN, hl, hos]
  have g : Good F H (startD ms n os) (L2.start N vs) B := ⟨sub, by rw [eσ]; exact repS_start _ ok ro, nd, dis⟩
  have out : ∀ {env' : DEnv} {σ' : L2.St} {F' H' : Hp} {A' A'' : List Addr}, Good F' H' env' σ' A' → Step F H (startD ms n os) (L2.start N vs) B F' H' env' σ' A'' → ∃ B', RepOL F' H' (outs ms env') (sel ms vs) B' ∧ B'.Sublist A' := fun {env' σ' F' H' A' A''} g' s => by
    refine outs_ok g'.rep hl (fun i v hm hv => ?_)
    obtain ⟨o, ho⟩ := startS_get ok hm
    have ho' : (startD ms n os)[i]? = some (S.bo o) := by
      unfold startD
      rw [List.getElem?_append_left (List.getElem?_eq_some_iff.mp ho).1]
      exact ho
    obtain ⟨o', h1, h2⟩ := s.bor i o ho'
    refine ⟨⟨o', h1⟩, ?_⟩
    rw [h2, eσ, List.getElem?_append_left (by rw [List.length_map]; exact (List.getElem?_eq_some_iff.mp hv).1), List.getElem?_map, hv]
    rfl
  have sub' : ∀ {A' B' C : List Addr}, B'.Sublist A' → ∀ a ∈ B' ++ C, a ∈ A' ++ C := fun s a m => (List.mem_append.mp m).elim (fun z => List.mem_append_left _ (s.subset z)) fun z => List.mem_append_right _ z
  have fin : ∀ {env' : DEnv} {σ' : L2.St} {F' H' : Hp} {A' C : List Addr} {x : V} {o : O}, Good F' H' env' σ' A' → Step F H (startD ms n os) (L2.start N vs) B F' H' env' σ' (A' ++ C) → RepR F' H' σ' A' (.o o) x C → P o (outs ms env') → Q x H' := fun {env' σ' F' H' A' C x o} g' s r h => by
    obtain ⟨B', q1, q2⟩ := out g' s
    refine hr x o _ F' H' B' C g'.sub q1 r.1 ((q2.append (List.Sublist.refl C)).nodup r.2.1) (fun a m => ?_) (s.mem (sub' q2)).ste h
    exact (List.mem_append.mp (sub' q2 a m)).elim (fun z => g'.dis a z) fun z => r.2.2 a z
  refine hs E F H (startD ms n os) (L2.start N vs) B _ _ g hd ⟨fun env' σ' F' H' A' g' s h => ?_, fun env' σ' F' H' A' g' s h => h.elim, fun env' σ' F' H' A' g' s h => h.elim, fun x o env' σ' F' H' A' C g' s r h => fin g' s r h, fun cls dd e env' σ' F' H' A' g' s r h => ?_⟩
  · exact fin (C := []) g' (s.mem fun a m => by rw [List.append_nil] at m; exact m) (.dat g' (d := .non) rfl) h
  · obtain ⟨B', q1, q2⟩ := out g' s
    exact he e _ cls dd F' H' B' g'.sub q1 (q2.nodup g'.nd) (fun a m => g'.dis a (q2.subset m)) (s.mem fun a m => q2.subset m).ste r h
/-! ### calls -/
def dCall (b : Bool) (f : Fn) (dv : DTV) : DTE := fun env P X => dv env (fun ds env1 => f (ds.map .fr) (fun o _ => P (.o o) env1) (fun e _ => b = true ∧ X e env1)) X
/-- the first argument is a slot's own object, which the callee may change -/
def dCallM (b : Bool) (f : Fn) (i : Nat) (dv : DTV) : DTE := fun env P X => (contAt env i []).isSome = true ∧ dv env (fun ds env1 => match env1[i]? with
  | some s => (match s.cont with
    | some o => f (o :: ds.map .fr) (fun r ps => match ps with
      | [o'] => P (.o r) (env1.set i (s.re o'))
      | _ => False) (fun e ps => match ps with
      | [o'] => b = true ∧ X e (env1.set i (s.re o'))
      | _ => False)
    | none => False)
  | none => False) X
/-- C(..) -/
def dMake (b : Bool) (C : Addr) (f : Fn) (dv : DTV) : DTE := fun env P X => dv env (fun ds env1 => f (.ins C [] :: ds.map .fr) (fun r ps => r = .fr .non ∧ match ps with
  | [o'] => P (.o o') env1
  | _ => False) (fun e _ => b = true ∧ X e env1)) X
def vals (n : Nat) : List Bool := List.replicate n false
theorem okArgs_vals : ∀ ds : List D, okArgs (vals ds.length) (ds.map .fr)
  | [] => trivial
  | d :: ds => ⟨⟨d, rfl⟩, okArgs_vals ds⟩
theorem sel_vals {α : Type} : ∀ (n : Nat) (xs : List α), sel (vals n) xs = []
  | 0, xs => by unfold vals sel; rfl
  | n + 1, [] => rfl
  | n + 1, x :: xs => sel_vals n xs
theorem Ste.ext {F H F' H' : Hp} {C : List Addr} (s : Ste F H [] F' H' C) (sub0 : Same F H) (sub : Same F' H') : Ext F H F' H' C :=
  ⟨s.f, fun a o e => s.smH sub0 sub List.not_mem_nil e, fun a o e f => s.keep a o e List.not_mem_nil f, sub, fun a m => (s.anew a m).elim (fun z => nomatch z) id, fun a z => (s.fnew a z).elim .inl fun z => z.elim (fun z => nomatch z) .inr⟩
section
variable {W : WX} {ta : TA} {dv : DTV} {f : Fn} {n : Nat}
theorem sim_callG {b : Bool} {E : L2.St → XK} (hE : b = true → ∀ σ cls dd H, W cls dd σ H → E σ cls dd H) (hn : ∀ os P PE, f os P PE → os.length = n) (ha : SimV W ta dv) : SimE W (fun σ H Q => ta σ H fun vs H1 => spD (vals n) f vs H1 Q (E σ)) (dCall b f dv) := by
  intro F H env σ A Q P X g h xo k
  refine ha F H env σ A _ _ X g h xo fun xs ds env1 F1 H1 A1 g1 s1 rr1 h1 => ?_
  have el : ds.length = n := by have := hn _ _ _ h1; rw [List.length_map] at this; exact this
  refine ⟨F1, ds.map .fr, [], _, _, by rw [← el]; exact okArgs_vals ds, g1.sub, .ofL rr1, List.nodup_nil, fun _ h => (nomatch h), h1, fun x o ps F' H' B' C sub rp ro nd dis st h2 => ?_, fun e ps cls dd F' H' B' sub rp nd dis st rx h2 => ?_⟩
  · rw [sel_vals] at rp
    have eB : B' = [] := by
      cases ps with
      | nil => exact rp.2
      | cons o ps => obtain ⟨_, _, _, _, e, _⟩ := rp; cases e
    subst eB
    have x1 := Ste.ext st g1.sub sub
    exact k x (.o o) env1 F' H' A1 C (x1.good g1) (s1.trans x1.step) (.new g1 x1 ro nd dis) h2
  · rw [sel_vals] at rp
    have eB : B' = [] := by
      cases ps with
      | nil => exact rp.2
      | cons o ps => obtain ⟨_, _, _, _, e, _⟩ := rp; cases e
    subst eB
    have x1 := Ste.ext st g1.sub sub
    exact hE h2.1 σ cls dd H' (xo cls dd e env1 σ F' H' A1 (x1.good g1) (s1.trans (x1.step.mem fun a m => List.mem_append_left _ m)) rx h2.2)
theorem sim_make {C0 : Addr} {b : Bool} {E : L2.St → XK} (hE : b = true → ∀ σ cls dd H, W cls dd σ H → E σ cls dd H) (hn : ∀ os P PE, f os P PE → os.length = n + 1) (ha : SimV W ta dv) :
    SimE W (fun σ H Q => ta σ H fun vs H1 => ∀ x dx, H1 x = none → H1 dx = none → dx ≠ x → spD (true :: vals n) f (.ref x :: vs) (upd (upd H1 dx (.own x)) x (.ins C0 dx [])) (fun v H2 => v = .non ∧ Q (.ref x) H2) (E σ)) (dMake b C0 f dv) := by
  intro F H env σ A Q P X g h xo k
  refine ha F H env σ A _ _ X g h xo fun xs ds env1 F1 H1 A1 g1 s1 rr1 h1 => ?_
  intro x dx nx ndx ne
  have el : ds.length = n := by have := hn _ _ _ h1; rw [List.length_cons, List.length_map] at this; exact Nat.succ.inj this
  have xa := ext_own (o := .own x) g1.sub ndx
  have nx' : (upd H1 dx (.own x)) x = none := by rw [upd_ne ne.symm]; exact nx
  have xb := ext_own (o := .ins C0 dx []) xa.sub nx'
  have x0 : Ext F1 H1 F1 (upd (upd H1 dx (.own x)) x (.ins C0 dx [])) [] := (xa.trans xb).noC fun _ h => nomatch h
  have g0 := x0.good g1
  refine ⟨F1, .ins C0 [] :: ds.map .fr, [x], _, _, by rw [← el]; exact okArgs_vals ds, x0.sub, ⟨.ref x, xs, [x], [], rfl, rfl, ⟨x, dx, [], [], rfl, rfl, upd_same, rfl, rfl⟩, .ofL rr1⟩, List.nodup_cons.mpr ⟨List.not_mem_nil, List.nodup_nil⟩, fun a m => by rw [List.mem_singleton.mp m]; exact g1.sub.free nx, h1,
    fun y o ps F' H' B' C sub rp ro nd dis st h2 => ?_, fun e ps cls dd F' H' B' sub rp nd dis st rx h2 => ?_⟩
  · obtain ⟨ey, h2⟩ := h2
    have esel : sel (true :: vals n) (V.ref x :: xs) = [.ref x] := by
      show V.ref x :: sel (vals n) xs = _
      rw [sel_vals]
    rw [esel] at rp
    match ps, h2, rp with
    | [o'], h2, ⟨z, r, B1, C1, ez, eB, ro', ⟨er, eC⟩⟩ =>
      rw [er] at ez
      cases ez
      rw [eC, List.append_nil] at eB
      subst eB
      have mB : ∀ a ∈ B', H1 a = none := fun a m => by
        rcases st.anew a (List.mem_append_left _ m) with z | z
        · rw [List.mem_singleton.mp z]; exact nx
        · exact x0.h.free z
      have x1 : Ext F1 H1 F' H' B' := ⟨st.f, fun a o e => (let ⟨o1, h1, c1⟩ := x0.h a o e; let ⟨o2, h2, c2⟩ := st.smH x0.sub sub (fun z => by rw [List.mem_singleton.mp z, nx] at e; cases e) h1; ⟨o2, h2, c1.trans c2⟩), fun a o e f => st.keep a o (x0.hx a o e f) (fun z => by rw [List.mem_singleton.mp z, nx] at e; cases e) f, sub, mB, fun a z => (st.fnew a z).elim .inl fun z => .inr (z.elim (fun z => by rw [List.mem_singleton.mp z]; exact nx) x0.h.free)⟩
      subst ey
      refine ⟨ro.2, k (.ref x) (.o o') env1 F' H' A1 B' (x1.good g1) (s1.trans x1.step) (.new g1 x1 ro' (nodup_l nd) fun a m => dis a (List.mem_append_left _ m)) h2⟩
    | [], h2, _ => exact h2.elim
    | _ :: _ :: _, h2, _ => exact h2.elim
  · have x1 : Ext F1 H1 F' H' [] := ⟨st.f, fun a o e => (let ⟨o1, h1, c1⟩ := x0.h a o e; let ⟨o2, h2, c2⟩ := st.smH x0.sub sub (fun z => by rw [List.mem_singleton.mp z, nx] at e; cases e) h1; ⟨o2, h2, c1.trans c2⟩), fun a o e f => st.keep a o (x0.hx a o e f) (fun z => by rw [List.mem_singleton.mp z, nx] at e; cases e) f, sub, fun _ h => (nomatch h), fun a z => (st.fnew a z).elim .inl fun z => .inr (z.elim (fun z => by rw [List.mem_singleton.mp z]; exact nx) x0.h.free)⟩
    exact hE h2.1 σ cls dd H' (xo cls dd e env1 σ F' H' A1 (x1.good g1) (s1.trans (x1.step.mem fun a m => List.mem_append_left _ m)) rx h2.2)
theorem sim_callMG {i : Nat} {b : Bool} {E : L2.St → XK} (hE : b = true → ∀ σ cls dd H, W cls dd σ H → E σ cls dd H) (hn : ∀ os P PE, f os P PE → os.length = n + 1) (ha : SimV W ta dv) : SimE W (fun σ H Q => (tCons (tVar i) ta) σ H fun vs H1 => spD (true :: vals n) f vs H1 Q (E σ)) (dCallM b f i dv) := by
  intro F H env σ A Q P X g h xo k
  obtain ⟨h0, h⟩ := h
  obtain ⟨v, hv⟩ : ∃ v, σ[i]? = some (some v) := by
    cases e : contAt env i [] with
    | none => rw [e] at h0; cases h0
    | some u =>
      obtain ⟨s, o, e1, e2, e3⟩ := contAt_ok e
      obtain ⟨v, B, R, q1, q2, _⟩ := g.rep.out e1
      obtain ⟨x, ex, _⟩ := q2.cont e2
      exact ⟨x, by rw [q1, ex]⟩
  refine ⟨v, hv, ?_⟩
  refine ha F H env σ A _ _ X g h xo fun xs ds env1 F1 H1 A1 g1 s1 rr1 h1 => ?_
  cases es : env1[i]? with
  | none => rw [es] at h1; exact h1.elim
  | some s =>
    rw [es] at h1
    simp only at h1
    cases eo : s.cont with
    | none => rw [eo] at h1; exact h1.elim
    | some o =>
      rw [eo] at h1
      simp only at h1
      have el : ds.length = n := by have := hn _ _ _ h1; rw [List.length_cons, List.length_map] at this; exact Nat.succ.inj this
      obtain ⟨w, B, R, q1, q2, q3, q4⟩ := g1.rep.out es
      obtain ⟨x, ex, ro⟩ := q2.cont eo
      subst ex
      rw [hv] at q1
      cases q1
      have nd : (B ++ R).Nodup := q3.nodup_iff.mp g1.nd
      have mB : ∀ a ∈ B, a ∈ A1 := fun a m => q3.mem_iff.mpr (List.mem_append_left _ m)
      have mR : ∀ a ∈ R, a ∈ A1 := fun a m => q3.mem_iff.mpr (List.mem_append_right _ m)
      have esel : sel (true :: vals n) (v :: xs) = [v] := by
        show v :: sel (vals n) xs = _
        rw [sel_vals]
      have fin : ∀ {F' H' : Hp} {B' C : List Addr} {o' : O}, Same F' H' → RepO F' H' o' v B' → (B' ++ C).Nodup → (∀ a ∈ B' ++ C, F' a = none) → Ste F1 H1 B F' H' (B' ++ C) →
          ∃ A', Good F' H' (env1.set i (s.re o')) σ A' ∧ Step F1 H1 env1 σ A1 F' H' (env1.set i (s.re o')) σ (A' ++ C) ∧ ∀ a ∈ A', a ∉ C := fun {F' H' B' C o'} sub ro' ndB dis st => by
        have stR : Stay F1 H1 R F' H' := ⟨st.f, fun a m o e => st.keep a o e (fun z => nodup_d nd z m) (g1.dis a (mR a m))⟩
        obtain ⟨A', p1, p2⟩ := RepS.put (RepSl.re eo ro') (q4.stay stR) (get_set es)
        rw [List.set_set, set_self hv] at p2
        have disR : ∀ a ∈ R, F' a = none := fun a m => by
          cases q : F' a with
          | none => rfl
          | some u =>
            rcases st.fnew a (by rw [q]; exact Option.some_ne_none _) with z | z | z
            · exact absurd (g1.dis a (mR a m)) z
            · exact (nodup_d nd z m).elim
            · exact absurd z (g1.rep.there a (mR a m))
        have sepR : ∀ a ∈ B' ++ C, a ∉ R := fun a m z => by
          rcases st.anew a m with q | q
          · exact nodup_d nd q z
          · exact g1.rep.there a (mR a z) q
        refine ⟨A', ⟨sub, p2, p1.nodup_iff.mpr (List.nodup_append.mpr ⟨nodup_l ndB, nodup_r nd, fun a ha b hb z => by subst z; exact sepR a (List.mem_append_left _ ha) hb⟩), fun a m => ?_⟩, ⟨st.f, fun a o e n f => st.keep a o e (fun z => n (mB a z)) f, st.free, fun a m => ?_, fun a z => ?_, fun j w hj => ?_⟩, fun a m z => ?_⟩
        · rcases List.mem_append.mp (p1.mem_iff.mp m) with m | m
          · exact dis a (List.mem_append_left _ m)
          · exact disR a m
        · rcases List.mem_append.mp m with m | m
          · rcases List.mem_append.mp (p1.mem_iff.mp m) with m | m
            · exact (st.anew a (List.mem_append_left _ m)).elim (fun z => .inl (mB a z)) .inr
            · exact .inl (mR a m)
          · exact (st.anew a (List.mem_append_right _ m)).elim (fun z => .inl (mB a z)) .inr
        · rcases st.fnew a z with z | z | z
          · exact .inl z
          · exact .inr (.inl (mB a z))
          · exact .inr (.inr z)
        · obtain ⟨o2, h2⟩ := bor_re (o := o') es j w hj
          exact ⟨o2, h2, rfl⟩
        · rcases List.mem_append.mp (p1.mem_iff.mp m) with m | m
          · exact nodup_d ndB m z
          · exact sepR a (List.mem_append_right _ z) m
      refine ⟨F1, o :: ds.map .fr, B, _, _, by rw [← el]; exact okArgs_vals ds, g1.sub, ⟨v, xs, B, [], rfl, by rw [List.append_nil], ro, .ofL rr1⟩, nodup_l nd, fun a m => g1.dis a (mB a m), h1,
        fun y r ps F' H' B' C sub rp ror ndr dis st h2 => ?_, fun e ps cls dd F' H' B' sub rp ndr dis st rx h2 => ?_⟩
      · rw [esel] at rp
        match ps, h2, rp with
        | [o'], h2, ⟨z, r', B1, C1, ez, eB, ro', ⟨er, eC⟩⟩ =>
          rw [er] at ez
          cases ez
          rw [eC, List.append_nil] at eB
          subst eB
          obtain ⟨A', g', s', sep⟩ := fin sub ro' ndr dis st
          exact k y (.o r) _ F' H' A' C g' (s1.trans s') ⟨ror, List.nodup_append.mpr ⟨g'.nd, nodup_r ndr, fun a ha b hb z => by subst z; exact sep a ha hb⟩, fun a m => dis a (List.mem_append_right _ m)⟩ h2
        | [], h2, _ => exact h2.elim
        | _ :: _ :: _, h2, _ => exact h2.elim
      · rw [esel] at rp
        match ps, h2, rp with
        | [o'], h2, ⟨z, r', B1, C1, ez, eB, ro', ⟨er, eC⟩⟩ =>
          rw [er] at ez
          cases ez
          rw [eC, List.append_nil] at eB
          subst eB
          obtain ⟨A', g', s', sep⟩ := fin (C := []) sub ro' (by rw [List.append_nil]; exact ndr) (fun a m => dis a (by rw [List.append_nil] at m; exact m)) (st.mem fun a m => by rw [List.append_nil] at m; exact m)
          exact hE h2.1 σ cls dd H' (xo cls dd e _ σ F' H' A' g' (s1.trans (s'.mem fun a m => List.mem_append_left _ m)) rx h2.2)
        | [], h2, _ => exact h2.elim
        | _ :: _ :: _, h2, _ => exact h2.elim
theorem tCall_eq {sp : Sp} {E : XK} {t : TA} : tCall sp [] E t = fun σ H Q => t σ H fun vs H1 => sp vs H1 Q E := by
  funext σ H Q
  unfold tCall
  simp only [List.append_nil]
theorem tMake_eq {C : Addr} {sp : Sp} {E : XK} {t : TA} : tMake C sp [] E t = fun σ H Q => t σ H fun vs H1 => ∀ x dx, H1 x = none → H1 dx = none → dx ≠ x → sp (.ref x :: vs) (upd (upd H1 dx (.own x)) x (.ins C dx [])) (fun v H2 => v = .non ∧ Q (.ref x) H2) E := by
  funext σ H Q
  unfold tMake
  simp only [List.append_nil]
theorem dFn_n {ms : List Bool} {n : Nat} {b : DTS} : ∀ os P PE, dFn ms n b os P PE → os.length = ms.length := fun _ _ _ h => h.1
theorem sim_call0 {E : XK} (hn : ∀ os P PE, f os P PE → os.length = n) (ha : SimV W ta dv) : SimE W (tCall (spD (vals n) f) [] E ta) (dCall false f dv) := by
  rw [tCall_eq]
  exact sim_callG (E := fun _ => E) (fun h => nomatch h) hn ha
theorem sim_callX {E : XK} (hn : ∀ os P PE, f os P PE → os.length = n) (ha : SimV (fun cls dd _ H => E cls dd H) ta dv) : SimE (fun cls dd _ H => E cls dd H) (tCall (spD (vals n) f) [] E ta) (dCall true f dv) := by
  rw [tCall_eq]
  exact sim_callG (E := fun _ => E) (fun _ _ _ _ _ h => h) hn ha
theorem sim_callS (hn : ∀ os P PE, f os P PE → os.length = n) (ha : SimV W ta dv) : SimE W (tCallS (spD (vals n) f) (WE W) ta) (dCall true f dv) :=
  sim_callG (E := WE W) (fun _ _ _ _ _ h => h) hn ha
theorem sim_callM0 {i : Nat} {E : XK} (hn : ∀ os P PE, f os P PE → os.length = n + 1) (ha : SimV W ta dv) : SimE W (tCall (spD (true :: vals n) f) [] E (tCons (tVar i) ta)) (dCallM false f i dv) := by
  rw [tCall_eq]
  exact sim_callMG (E := fun _ => E) (fun h => nomatch h) hn ha
theorem sim_callMX {i : Nat} {E : XK} (hn : ∀ os P PE, f os P PE → os.length = n + 1) (ha : SimV (fun cls dd _ H => E cls dd H) ta dv) : SimE (fun cls dd _ H => E cls dd H) (tCall (spD (true :: vals n) f) [] E (tCons (tVar i) ta)) (dCallM true f i dv) := by
  rw [tCall_eq]
  exact sim_callMG (E := fun _ => E) (fun _ _ _ _ _ h => h) hn ha
theorem sim_callMS {i : Nat} (hn : ∀ os P PE, f os P PE → os.length = n + 1) (ha : SimV W ta dv) : SimE W (tCallS (spD (true :: vals n) f) (WE W) (tCons (tVar i) ta)) (dCallM true f i dv) :=
  sim_callMG (E := WE W) (fun _ _ _ _ _ h => h) hn ha
theorem sim_make0 {C : Addr} {E : XK} (hn : ∀ os P PE, f os P PE → os.length = n + 1) (ha : SimV W ta dv) : SimE W (tMake C (spD (true :: vals n) f) [] E ta) (dMake false C f dv) := by
  rw [tMake_eq]
  exact sim_make (E := fun _ => E) (fun h => nomatch h) hn ha
theorem sim_makeX {C : Addr} {E : XK} (hn : ∀ os P PE, f os P PE → os.length = n + 1) (ha : SimV (fun cls dd _ H => E cls dd H) ta dv) : SimE (fun cls dd _ H => E cls dd H) (tMake C (spD (true :: vals n) f) [] E ta) (dMake true C f dv) := by
  rw [tMake_eq]
  exact sim_make (E := fun _ => E) (fun _ _ _ _ _ h => h) hn ha
end

/-! ### methods of lists that a slot has -/
/-- the object at a place is changed, and something is told -/
theorem Good.writeR {F H : Hp} {env : DEnv} {σ : L2.St} {A C : List Addr} {i : Nat} {path : List PSt} {o1 o2 o3 : O} {x z : V} {H' : Hp} (g : Good F H env σ A) (hc : contAt env i path = some o1) (hp : ∃ y, σ[i]? = some (some y) ∧ PathV H y path x)
    (hC : ∀ a ∈ C, a ∉ A ∧ F a = none) (f : Same F H') (fr : ∀ a, H' a = none → H a = none)
    (hw : ∀ B R, RepO F H o1 x B → A.Perm (B ++ R) → (B ++ R).Nodup → (∀ a o, H a = some o → a ∉ B → H' a = some o) ∧ ∃ B' C', RepO F H' o2 x B' ∧ RepO F H' o3 z C' ∧ (B' ++ C').Nodup ∧ ∀ a ∈ B' ++ C', a ∈ B ∨ a ∈ C) :
    ∃ A' C', Good F H' (setAt env i path o2) σ A' ∧ Step F H env σ (A ++ C) F H' (setAt env i path o2) σ (A' ++ C') ∧ RepR F H' σ A' (.o o3) z C' := by
  obtain ⟨s, o, e1, e2, e3⟩ := contAt_ok hc
  obtain ⟨y, hy, hv⟩ := hp
  obtain ⟨B, R, h1, h2, h3⟩ := g.rep.focus e1 e2 e3 hy hv
  have nd : (B ++ R).Nodup := h2.nodup_iff.mp g.nd
  have mB : ∀ a ∈ B, a ∈ A := fun a m => h2.mem_iff.mpr (List.mem_append_left _ m)
  have mR : ∀ a ∈ R, a ∈ A := fun a m => h2.mem_iff.mpr (List.mem_append_right _ m)
  obtain ⟨kp, B', C', r', r3, ndB, mB'⟩ := hw B R h1 h2 nd
  obtain ⟨A', p1, p2⟩ := h3 F H' o2 B' ⟨.refl _, fun a m o e => kp a o e fun z => nodup_d nd z m⟩ r'
  have es : setAt env i path o2 = env.set i (s.re (o.put path o2)) := by
    unfold setAt
    rw [e1]
    simp only
    rw [e2]
  rw [es]
  have dBC : ∀ a ∈ B' ++ C', F a = none := fun a m => (mB' a m).elim (fun z => g.dis a (mB a z)) fun z => (hC a z).2
  have sep : ∀ a ∈ B' ++ C', a ∉ R := fun a m z => (mB' a m).elim (fun q => nodup_d nd q z) fun q => (hC a q).1 (mR a z)
  have mA' : ∀ a ∈ A', a ∈ B' ∨ a ∈ R := fun a m => List.mem_append.mp (p2.mem_iff.mp m)
  refine ⟨A', C', ⟨f, p1, p2.nodup_iff.mpr (List.nodup_append.mpr ⟨nodup_l ndB, nodup_r nd, fun a ha b hb z => by subst z; exact sep a (List.mem_append_left _ ha) hb⟩), fun a m => (mA' a m).elim (fun z => dBC a (List.mem_append_left _ z)) fun z => g.dis a (mR a z)⟩,
    ⟨.refl _, fun a o e n _ => kp a o e fun z => n (List.mem_append_left _ (mB a z)), fr, fun a m => .inl ?_, fun _ h => .inl h, fun j w hj => ?_⟩, ⟨r3, List.nodup_append.mpr ⟨p2.nodup_iff.mpr (List.nodup_append.mpr ⟨nodup_l ndB, nodup_r nd, fun a ha b hb z => by subst z; exact sep a (List.mem_append_left _ ha) hb⟩), nodup_r ndB, fun a ha b hb z => ?_⟩, fun a m => dBC a (List.mem_append_right _ m)⟩⟩
  · rcases List.mem_append.mp m with m | m
    · rcases mA' a m with m | m
      · exact (mB' a (List.mem_append_left _ m)).elim (fun z => List.mem_append_left _ (mB a z)) fun z => List.mem_append_right _ z
      · exact List.mem_append_left _ (mR a m)
    · exact (mB' a (List.mem_append_right _ m)).elim (fun z => List.mem_append_left _ (mB a z)) fun z => List.mem_append_right _ z
  · obtain ⟨o', eo⟩ := bor_re (o := o.put path o2) e1 j w hj
    exact ⟨o', eo, rfl⟩
  · subst z
    rcases mA' a ha with m | m
    · exact nodup_d ndB m hb
    · exact sep a (List.mem_append_right _ hb) m
mutual
theorem RepO.uniq {F H : Hp} : ∀ {o : O} {x : V} {A A' : List Addr}, RepO F H o x A → RepO F H o x A' → A = A'
  | .fr d, _, _, _, ⟨e, _⟩, ⟨e', _⟩ => by rw [e, e']
  | .lst os, _, _, _, ⟨a, xs, B, e, eA, h, r⟩, ⟨a', xs', B', e', eA', h', r'⟩ => by
    rw [e] at e'
    cases e'
    rw [h] at h'
    cases h'
    rw [eA, eA', RepOL.uniq r r']
  | .dct t os, _, _, _, ⟨a, o, xs, B, e, eA, h, c, r⟩, ⟨a', o', xs', B', e', eA', h', c', r'⟩ => by
    rw [e] at e'
    cases e'
    rw [h] at h'
    cases h'
    have q := c.uniq c'
    subst q
    rw [eA, eA', RepOM.uniq r r']
  | .ins C os, _, _, _, ⟨a, dx, xs, B, e, eA, h, r⟩, ⟨a', dx', xs', B', e', eA', h', r'⟩ => by
    rw [e] at e'
    cases e'
    rw [h] at h'
    cases h'
    rw [eA, eA', RepOF.uniq r r']
theorem RepOL.uniq {F H : Hp} : ∀ {os : List O} {xs : List V} {A A' : List Addr}, RepOL F H os xs A → RepOL F H os xs A' → A = A'
  | [], _, _, _, ⟨_, e⟩, ⟨_, e'⟩ => by rw [e, e']
  | o :: os, _, _, _, ⟨x, r, B, C, e, eA, h, t⟩, ⟨x', r', B', C', e', eA', h', t'⟩ => by
    rw [e] at e'
    cases e'
    rw [eA, eA', RepO.uniq h h', RepOL.uniq t t']
theorem RepOM.uniq {F H : Hp} : ∀ {os : List (List Key × O)} {xs : List (List Key × V)} {A A' : List Addr}, RepOM F H os xs A → RepOM F H os xs A' → A = A'
  | [], _, _, _, ⟨_, e⟩, ⟨_, e'⟩ => by rw [e, e']
  | (k, o) :: os, _, _, _, ⟨x, r, B, C, e, eA, h, t⟩, ⟨x', r', B', C', e', eA', h', t'⟩ => by
    rw [e] at e'
    cases e'
    rw [eA, eA', RepO.uniq h h', RepOM.uniq t t']
theorem RepOF.uniq {F H : Hp} : ∀ {os : List (Str × O)} {xs : List (Str × V)} {A A' : List Addr}, RepOF F H os xs A → RepOF F H os xs A' → A = A'
  | [], _, _, _, ⟨_, e⟩, ⟨_, e'⟩ => by rw [e, e']
  | (k, o) :: os, _, _, _, ⟨x, r, B, C, e, eA, h, t⟩, ⟨x', r', B', C', e', eA', h', t'⟩ => by
    rw [e] at e'
    cases e'
    rw [eA, eA', RepO.uniq h h', RepOF.uniq t t']
end
def isL : Option O → Bool
  | some (.lst _) => true
  | _ => false
/-- xs.m(e), xs a slot -/
def dMeth1 (f : List O → O → (List O → O → Prop) → Prop) (i : Nat) (de : DTE) : DTE := fun env P X => isL (contAt env i []) = true ∧ de env (fun r env1 => toO r env1 fun o env2 => oth (contAt env2 i []) fun u => match u with
  | .lst os => f os o fun os' z => P (.o z) (setAt env2 i [] (.lst os'))
  | _ => False) X
def dMeth0 (f : List O → (List O → O → Prop) → Prop) (i : Nat) : DTE := fun env P X => oth (contAt env i []) fun u => match u with
  | .lst os => f os fun os' z => P (.o z) (setAt env i [] (.lst os'))
  | _ => False
def fAppend : List O → O → (List O → O → Prop) → Prop := fun os o k => os.length < sizeLine ∧ k (os ++ [o]) (.fr .non)
def fPop : List O → (List O → O → Prop) → Prop := fun os k => oth os[os.length - 1]? fun o => k os.dropLast o
def fPopAt : List O → O → (List O → O → Prop) → Prop := fun os o k => match o with
  | .fr (.int i) => (-(2 ^ 63) ≤ i ∧ i < 2 ^ 63) ∧ oth (seqIndex? i os.length) fun j => oth os[j]? fun u => k (os.eraseIdx j) u
  | _ => False
def fExtend : List O → O → (List O → O → Prop) → Prop := fun os o k => match o with
  | .lst us => os.length + us.length ≤ sizeLine ∧ k (os ++ us) (.fr .non)
  | .fr (.lst ds) => os.length + ds.length ≤ sizeLine ∧ k (os ++ ds.map .fr) (.fr .non)
  | _ => False
def SimM1 (r : V → List V → Hp → VK → Prop) (f : List O → O → (List O → O → Prop) → Prop) : Prop := ∀ (F H : Hp) (a : Addr) (xs : List V) (y : V) (os : List O) (o : O) (k : List O → O → Prop) (Q : VK) (B C : List Addr), Same F H → H a = some (.lst xs) → RepOL F H os xs B → RepO F H o y C → (a :: B ++ C).Nodup → F a = none → f os o k →
  (∀ os' z x xs' B' C', k os' z → RepOL F (upd H a (.lst xs')) os' xs' B' → RepO F (upd H a (.lst xs')) z x C' → (B' ++ C').Nodup → (∀ b ∈ B' ++ C', b ∈ B ++ C) → Q x (upd H a (.lst xs'))) → r (.ref a) [y] H Q
def SimM0 (r : V → List V → Hp → VK → Prop) (f : List O → (List O → O → Prop) → Prop) : Prop := ∀ (F H : Hp) (a : Addr) (xs : List V) (os : List O) (k : List O → O → Prop) (Q : VK) (B : List Addr), Same F H → H a = some (.lst xs) → RepOL F H os xs B → (a :: B).Nodup → F a = none → f os k →
  (∀ os' z x xs' B' C', k os' z → RepOL F (upd H a (.lst xs')) os' xs' B' → RepO F (upd H a (.lst xs')) z x C' → (B' ++ C').Nodup → (∀ b ∈ B' ++ C', b ∈ B) → Q x (upd H a (.lst xs'))) → r (.ref a) [] H Q
theorem RepOL.upd {F H : Hp} {a : Addr} {u : HO} {os : List O} {xs : List V} {B : List Addr} (n : a ∉ B) (h : RepOL F H os xs B) : RepOL F (upd H a u) os xs B := h.stay ⟨.refl _, fun b m o e => by rw [upd_ne (fun z => n (by rw [← z]; exact m))]; exact e⟩
theorem RepO.upd {F H : Hp} {a : Addr} {u : HO} {o : O} {x : V} {B : List Addr} (n : a ∉ B) (h : RepO F H o x B) : RepO F (L2.upd H a u) o x B := h.stay ⟨.refl _, fun b m o e => by rw [upd_ne (fun z => n (by rw [← z]; exact m))]; exact e⟩
theorem simM_append : SimM1 rAppend fAppend := by
  intro F H a xs y os o k Q B C s ha rl ro nd nF h q
  obtain ⟨hl, h⟩ := h
  have ndB : (a :: (B ++ C)).Nodup := nd
  have nB : a ∉ B ++ C := (List.nodup_cons.mp ndB).1
  refine ⟨a, xs, y, rfl, rfl, ha, by rw [rl.len]; exact hl, q _ (.fr .non) .non _ (B ++ (C ++ [])) [] h ?_ ⟨rfl, rfl⟩ ?_ fun b m => by rw [List.append_nil, List.append_nil] at m; exact m⟩
  · exact (rl.upd fun z => nB (List.mem_append_left _ z)).app ⟨y, [], C, [], rfl, rfl, ro.upd fun z => nB (List.mem_append_right _ z), rfl, rfl⟩
  · rw [List.append_nil, List.append_nil]; exact (List.nodup_cons.mp ndB).2
theorem RepOL.lastd {F H : Hp} : ∀ {os : List O} {xs : List V} {A : List Addr} {o : O}, RepOL F H os xs A → os[os.length - 1]? = some o → ∃ x B C, xs[xs.length - 1]? = some x ∧ RepO F H o x C ∧ RepOL F H os.dropLast xs.dropLast B ∧ A = B ++ C
  | [], _, _, _, _, e => by simp at e
  | [o1], xs, A, o, ⟨x, r, B, C, e, eA, h, ⟨e2, e3⟩⟩, z => by
    cases z
    rw [e, e2, eA, e3, List.append_nil]
    exact ⟨x, [], B, rfl, h, ⟨rfl, rfl⟩, rfl⟩
  | o1 :: o2 :: os, xs, A, o, ⟨x, r, B, C, e, eA, h, t⟩, z => by
    obtain ⟨y, B1, C1, h1, h2, h3, h4⟩ := RepOL.lastd (os := o2 :: os) t (by simpa using z)
    obtain ⟨y2, r2, _, _, er, _⟩ := t
    refine ⟨y, B ++ B1, C1, ?_, h2, ⟨x, _, B, B1, ?_, rfl, h, h3⟩, by rw [eA, h4, List.append_assoc]⟩
    · rw [e, ← h1, er]
      simp
    · rw [e, er]; rfl
theorem simM_pop : SimM0 rPop fPop := by
  intro F H a xs os k Q B s ha rl nd nF h q
  obtain ⟨o, e, h⟩ := oth_ok h
  obtain ⟨x, B1, C1, h1, h2, h3, h4⟩ := rl.lastd e
  have nB : a ∉ B1 ++ C1 := by rw [← h4]; exact (List.nodup_cons.mp nd).1
  exact ⟨a, xs, x, rfl, rfl, ha, h1, q _ o x _ B1 C1 h (h3.upd fun z => nB (List.mem_append_left _ z)) (h2.upd fun z => nB (List.mem_append_right _ z)) (by rw [← h4]; exact (List.nodup_cons.mp nd).2) fun b m => by rw [h4]; exact m⟩
theorem RepOL.erase {F H : Hp} : ∀ {os : List O} {xs : List V} {A : List Addr} {o : O} {j : Nat}, RepOL F H os xs A → os[j]? = some o → ∃ x B C, xs[j]? = some x ∧ RepO F H o x C ∧ RepOL F H (os.eraseIdx j) (xs.eraseIdx j) B ∧ A.Perm (B ++ C)
  | [], _, _, _, _, _, e => by simp at e
  | o1 :: os, xs, A, o, 0, ⟨x, r, B, C, e, eA, h, t⟩, z => by
    cases z
    rw [e, eA]
    exact ⟨x, C, B, rfl, h, t, List.perm_append_comm⟩
  | o1 :: os, xs, A, o, j + 1, ⟨x, r, B, C, e, eA, h, t⟩, z => by
    obtain ⟨y, B1, C1, h1, h2, h3, h4⟩ := RepOL.erase (j := j) t z
    rw [e, eA]
    exact ⟨y, B ++ B1, C1, h1, h2, ⟨x, _, B, B1, rfl, rfl, h, h3⟩, by rw [List.append_assoc]; exact List.Perm.append_left B h4⟩
theorem simM_popAt : SimM1 rPopAt fPopAt := by
  intro F H a xs y os o k Q B C s ha rl ro nd nF h q
  cases o with
  | lst _ => exact h.elim
  | dct _ _ => exact h.elim
  | ins _ _ => exact h.elim
  | fr d =>
    cases d with
    | int i =>
      obtain ⟨b, h⟩ := h
      obtain ⟨j, ej, h⟩ := oth_ok h
      obtain ⟨u, eu, h⟩ := oth_ok h
      obtain ⟨x, B1, C1, h1, h2, h3, h4⟩ := rl.erase eu
      have nB : a ∉ B1 ++ C1 := fun z => (List.nodup_cons.mp nd).1 (List.mem_append_left _ (h4.mem_iff.mpr z))
      exact ⟨a, xs, i, j, x, rfl, by rw [show y = _ from ro.2], ha, b.1, b.2, by rw [rl.len]; exact ej, h1, q _ u x _ B1 C1 h (h3.upd fun z => nB (List.mem_append_left _ z)) (h2.upd fun z => nB (List.mem_append_right _ z)) (h4.nodup_iff.mp (nodup_l (List.nodup_cons.mp nd).2)) fun b m => List.mem_append_left _ (h4.mem_iff.mpr m)⟩
    | _ => exact h.elim
theorem simM_extend : SimM1 rExtend fExtend := by
  intro F H a xs y os o k Q B C s ha rl ro nd nF h q
  have nB : a ∉ B ++ C := (List.nodup_cons.mp nd).1
  have ndB := (List.nodup_cons.mp nd).2
  cases o with
  | dct _ _ => exact h.elim
  | ins _ _ => exact h.elim
  | lst us =>
    obtain ⟨hl, h⟩ := h
    obtain ⟨b, ys, C1, ey, eC, hb, rl2⟩ := ro
    have nC : a ∉ C1 := fun z => nB (List.mem_append_right _ (by rw [eC]; exact List.mem_cons_of_mem _ z))
    have ndC : (B ++ C1).Nodup := by
      rw [eC] at ndB
      exact (List.Sublist.append (List.Sublist.refl B) (List.sublist_cons_self b C1)).nodup ndB
    refine ⟨a, b, xs, ys, rfl, by rw [ey], ha, hb, by rw [rl.len, rl2.len]; exact hl, q _ (.fr .non) .non _ (B ++ C1) [] h ((rl.upd fun z => nB (List.mem_append_left _ z)).app (rl2.upd nC)) ⟨rfl, rfl⟩ (by rw [List.append_nil]; exact ndC) fun c m => ?_⟩
    rw [List.append_nil] at m
    rcases List.mem_append.mp m with m | m
    · exact List.mem_append_left _ m
    · exact List.mem_append_right _ (by rw [eC]; exact List.mem_cons_of_mem _ m)
  | fr d =>
    cases d with
    | lst ds =>
      obtain ⟨hl, h⟩ := h
      obtain ⟨eC, b, ys, ey, hb, rl2⟩ := ro
      refine ⟨a, b, xs, ys, rfl, by rw [ey], ha, s _ _ hb, by rw [rl.len, rl2.length]; exact hl, q _ (.fr .non) .non _ (B ++ []) [] h ((rl.upd fun z => nB (List.mem_append_left _ z)).app (.ofL rl2)) ⟨rfl, rfl⟩ ?_ fun c m => ?_⟩
      · rw [List.append_nil, List.append_nil]; exact nodup_l ndB
      · rw [List.append_nil, List.append_nil] at m
        exact List.mem_append_left _ m
    | _ => exact h.elim
section
variable {W : WX} {K : PySem.W.Frag} {te : TE} {de : DTE} {i : Nat}
theorem var_there {F H : Hp} {env : DEnv} {σ : L2.St} {A : List Addr} (g : Good F H env σ A) {u : O} (e : contAt env i [] = some u) : ∃ v, σ[i]? = some (some v) := by
  obtain ⟨s, o, e1, e2, e3⟩ := contAt_ok e
  obtain ⟨v, B, R, q1, q2, _⟩ := g.rep.out e1
  obtain ⟨x, ex, _⟩ := q2.cont e2
  exact ⟨x, by rw [q1, ex]⟩
theorem lst_at {F H : Hp} {env : DEnv} {σ : L2.St} {A : List Addr} (g : Good F H env σ A) {os : List O} {v : V} (e : contAt env i [] = some (.lst os)) (hv : σ[i]? = some (some v)) : ∃ a xs B, v = .ref a ∧ H a = some (.lst xs) ∧ RepOL F H os xs B ∧ (∀ b ∈ a :: B, b ∈ A) ∧ (a :: B).Nodup := by
  obtain ⟨s, o, e1, e2, e3⟩ := contAt_ok e
  obtain ⟨B, R, h1, h2, _⟩ := g.rep.focus e1 e2 e3 hv rfl
  obtain ⟨a, xs, B1, ex, eB, hx, rl⟩ := h1
  refine ⟨a, xs, B1, ex, hx, rl, fun b m => h2.mem_iff.mpr (List.mem_append_left _ (by rw [eB]; exact m)), ?_⟩
  rw [← eB]
  exact nodup_l (h2.nodup_iff.mp g.nd)
theorem sim_meth1 {r : V → List V → Hp → VK → Prop} {f : List O → O → (List O → O → Prop) → Prop} (hr : SimM1 r f) (he : SimE W te de) : SimE W (tBM K "list" r (tVar i) (tCons te tNil)) (dMeth1 f i de) := by
  intro F H env σ A Q P X g h xo k
  obtain ⟨h0, h⟩ := h
  obtain ⟨os0, e0⟩ : ∃ os, contAt env i [] = some (.lst os) := by
    cases e : contAt env i [] with
    | none => rw [e] at h0; cases h0
    | some u =>
      cases u with
      | lst os => exact ⟨os, rfl⟩
      | _ => rw [e] at h0; cases h0
  obtain ⟨v, hv⟩ := var_there g e0
  obtain ⟨a0, xs0, B0, ev0, ha0, _⟩ := lst_at g e0 hv
  refine ⟨v, hv, by rw [ev0]; exact .inl ⟨rfl, xs0, SqL.of ha0⟩, ?_⟩
  clear ev0 ha0
  · refine he F H env σ A _ _ X g h xo fun y r1 env1 F1 H1 A1 C1 g1 s1 rr1 h1 => ?_
    obtain ⟨F2, A2, o, env2, C2, h2, g2, s2, r2⟩ := toO_ok g1 rr1 h1
    have s12 := s1.trans s2
    obtain ⟨u, eu, h3⟩ := oth_ok h2
    cases u with
    | lst os =>
      obtain ⟨a, xs, B, ev, ha, rl, mB, ndB⟩ := lst_at g2 eu hv
      subst ev
      have nF : F2 a = none := g2.dis a (mB a List.mem_cons_self)
      have sepC : ∀ b ∈ C2, b ∉ A2 ∧ F2 b = none := fun b m => ⟨fun z => nodup_d r2.2.1 z m, r2.2.2 b m⟩
      have ndBC : (a :: B ++ C2).Nodup := List.nodup_append.mpr ⟨ndB, nodup_r r2.2.1, fun b hb c hc z => by subst z; exact (sepC b hc).1 (mB b hb)⟩
      refine hr F2 H1 a xs y os o _ _ B C2 g2.sub ha rl r2.1 ndBC nF h3 fun os' z x xs' B' C' h4 rl' rz nd' m' => ?_
      have naBC : a ∉ B' ++ C' := fun m => (List.nodup_cons.mp ndBC).1 (m' a m)
      obtain ⟨A', C'', g', s', r'⟩ := g2.writeR (H' := upd H1 a (.lst xs')) (o2 := .lst os') (o3 := z) (z := x) eu ⟨.ref a, hv, rfl⟩ sepC (same_own g2.sub nF) (fun b => upd_free) (fun B0 R0 b1 b2 b3 => by
        obtain ⟨a', xs0, B1, ea, eB, hx, rl0⟩ := b1
        cases ea
        rw [ha] at hx
        cases hx
        refine ⟨fun b o e n => by rw [upd_ne (fun z => n (by rw [z, eB]; exact List.mem_cons_self))]; exact e, a :: B', C', ⟨a, xs', B', rfl, rfl, upd_same, rl'⟩, rz, List.nodup_cons.mpr ⟨naBC, nd'⟩, fun b m => ?_⟩
        have eq : B1 = B := rl0.uniq rl
        rcases List.mem_cons.mp m with m | m
        · exact .inl (by rw [m, eB]; exact List.mem_cons_self)
        · rcases List.mem_append.mp (m' b m) with m | m
          · exact .inl (by rw [eB, eq]; exact List.mem_cons_of_mem _ m)
          · exact .inr m)
      exact k x (.o z) _ F2 _ A' C'' g' (s12.trans s') r' h4
    | _ => exact h3.elim
theorem sim_meth0 {r : V → List V → Hp → VK → Prop} {f : List O → (List O → O → Prop) → Prop} (hr : SimM0 r f) : SimE W (tBM0 K "list" r (tVar i)) (dMeth0 f i) := by
  intro F H env σ A Q P X g h xo k
  obtain ⟨u, eu, h3⟩ := oth_ok h
  obtain ⟨v, hv⟩ := var_there g eu
  cases u with
  | lst os =>
    obtain ⟨a, xs, B, ev, ha, rl, mB, ndB⟩ := lst_at g eu hv
    subst ev
    have nF : F a = none := g.dis a (mB a List.mem_cons_self)
    refine ⟨.ref a, hv, .inl ⟨rfl, xs, SqL.of ha⟩, ?_⟩
    refine hr F H a xs os _ _ B g.sub ha rl ndB nF h3 fun os' z x xs' B' C' h4 rl' rz nd' m' => ?_
    have naBC : a ∉ B' ++ C' := fun m => (List.nodup_cons.mp ndB).1 (m' a m)
    obtain ⟨A', C'', g', s', r'⟩ := g.writeR (C := []) (H' := upd H a (.lst xs')) (o2 := .lst os') (o3 := z) (z := x) eu ⟨.ref a, hv, rfl⟩ (fun _ h => (nomatch h)) (same_own g.sub nF) (fun b => upd_free) (fun B0 R0 b1 b2 b3 => by
      obtain ⟨a', xs0, B1, ea, eB, hx, rl0⟩ := b1
      cases ea
      rw [ha] at hx
      cases hx
      refine ⟨fun b o e n => by rw [upd_ne (fun z => n (by rw [z, eB]; exact List.mem_cons_self))]; exact e, a :: B', C', ⟨a, xs', B', rfl, rfl, upd_same, rl'⟩, rz, List.nodup_cons.mpr ⟨naBC, nd'⟩, fun b m => ?_⟩
      have eq : B1 = B := rl0.uniq rl
      rcases List.mem_cons.mp m with m | m
      · exact .inl (by rw [m, eB]; exact List.mem_cons_self)
      · exact .inl (by rw [eB, eq]; exact List.mem_cons_of_mem _ (m' b m)))
    rw [List.append_nil] at s'
    exact k x (.o z) _ F _ A' C'' g' s' r' h4
  | _ => exact h3.elim
end

/-! ### tuple * n for n ≤ 1 -/
theorem tuple_mulS (l : Addr) (items : Array Value) (n : Nat) (dd : Option Addr) (sl : Array (Option Value)) (x : Int) (u : Tok) (c0 : (decide (x < -(2 ^ 63)) || decide (x ≥ 2 ^ 63)) = false) (c1 : (items.isEmpty || x == 1) = true) :
    Meets (Builtin.«tuple.__mul__» ⟨[.ref l, .int x u], []⟩) (fun _ R s => s.heap.get? l = some { cls := .type "tuple", dict := dd, data := .seq items n, slots := sl } ∧ R (.ok (.ret (Value.ref l))) s) :=
  .of_wp fun prog w A R s h => by
    obtain ⟨hp, g, d, tk, os⟩ := s
    obtain ⟨hl, h⟩ := h
    have f1 := AutoSeq1.idx_int
    wp_walk using wpAny_loadPart' hl
    repeat (first
      | (refine wpAny_ite_false (decide_eq_false (by rw [c0]; exact Bool.false_ne_true)) ?_; wp_walk using wpAny_loadPart' hl)
      | (refine wpAny_ite_true (decide_eq_true c1) ?_; wp_walk using wpAny_loadPart' hl))
    exact ⟨_, rfl, h⟩
theorem tuple_mulN (l : Addr) (items : Array Value) (n : Nat) (dd : Option Addr) (sl : Array (Option Value)) (x : Int) (u : Tok) (c0 : (decide (x < -(2 ^ 63)) || decide (x ≥ 2 ^ 63)) = false) (c1 : (items.isEmpty || x == 1) = false) (c2 : (decide (x ≤ 0) || items.isEmpty) = true) :
    Meets (Builtin.«tuple.__mul__» ⟨[.ref l, .int x u], []⟩) (fun _ R s => s.heap.get? l = some { cls := .type "tuple", dict := dd, data := .seq items n, slots := sl } ∧
      R (.ok (.ret (Value.ref s.heap.objs.size))) { s with heap := s.heap.push { cls := Value.type "tuple", data := Data.seq #[] }, toks := s.toks }) :=
  .of_wp fun prog w A R s h => by
    obtain ⟨hp, g, d, tk, os⟩ := s
    obtain ⟨hl, h⟩ := h
    have f1 := AutoSeq1.idx_int
    wp_walk using wpAny_loadPart' hl
    repeat (first
      | (refine wpAny_ite_false (decide_eq_false (by rw [c0]; exact Bool.false_ne_true)) ?_; wp_walk using wpAny_loadPart' hl)
      | (refine wpAny_ite_false (decide_eq_false (by rw [c1]; exact Bool.false_ne_true)) ?_; wp_walk using wpAny_loadPart' hl)
      | (refine wpAny_ite_true (decide_eq_true c2) ?_; wp_walk using wpAny_loadPart' hl))
    exact ⟨_, rfl, h⟩
def rRepS (K : PySem.W.Frag) : R2 := fun x y H Q => ∃ l xs, x = .ref l ∧ y = .int 1 ∧ SqT K H l xs ∧ Q (.ref l) H
def rRepN (K : PySem.W.Frag) : R2 := fun x y H Q => ∃ l k xs, x = .ref l ∧ y = .int k ∧ SqT K H l xs ∧ xs ≠ [] ∧ -(2 ^ 62) ≤ k ∧ k ≤ 0 ∧ ∀ p, H p = none → Q (.ref p) (upd H p (.tup []))
section
variable {X : Cx}
theorem op_repS : OpR X (binaryOp .Mult) (rRepS X.K) := by
  intro pins s σ H x y v u Q I rx ry h
  obtain ⟨l, xs, rfl, rfl, hT, q⟩ := h
  cases rx
  obtain ⟨t, rfl⟩ := ry
  obtain ⟨its, r, ⟨⟨cls, dd, data, sl⟩, ho, hc, n, hd⟩, hs⟩ := I.tuple hT
  simp only at hc hd
  subst hc hd
  have c0 : (decide ((1 : Int) < -(2 ^ 63)) || decide ((1 : Int) ≥ 2 ^ 63)) = false := by decide
  have c1 : (its.toArray.isEmpty || (1 : Int) == 1) = true := by rw [Bool.or_eq_true]; exact .inr rfl
  refine wpAny_binaryOp_repeat_ref (T := "tuple") (U := "int") (by decide) ⟨_, ho, rfl⟩ (fun s' => typeIs_int s' 1 t) noFill_tuple_mul F.fills_int_mul F.slot_int_rmul repeat_tuple F.slot_int_index.lookup
    (call_meets F.slot_int_rmul (typeIs_int s 1 t) F.entry_int_rmul (F.args_int_rmul_2 _ _) (int_rmul_tuple 1 t l its.toArray n dd sl)
      ⟨ho, rfl, ⟨_, ho, rfl⟩, call_meets F.slot_tuple_mul ⟨_, ho, rfl⟩ F.entry_tuple_mul (F.args_tuple_mul_2 _ _) (tuple_mulS l its.toArray n dd sl 1 t c0 c1) ⟨ho, ?_⟩⟩)
  exact ⟨.ref l, H, I, rfl, q⟩
theorem op_repN : OpR X (binaryOp .Mult) (rRepN X.K) := by
  intro pins s σ H x y v u Q I rx ry h
  obtain ⟨l, k, xs, rfl, rfl, hT, hne, h1, h2, q⟩ := h
  cases rx
  obtain ⟨t, rfl⟩ := ry
  obtain ⟨its, r, ⟨⟨cls, dd, data, sl⟩, ho, hc, n, hd⟩, hs⟩ := I.tuple hT
  simp only at hc hd
  subst hc hd
  have hn : its ≠ [] := fun e => hne (by
    have hle : its.length = xs.length := r.length.symm
    rw [e] at hle
    exact List.eq_nil_of_length_eq_zero hle.symm)
  have hi : its.toArray.isEmpty = false := by
    cases its with
    | nil => exact absurd rfl hn
    | cons a b => rfl
  have c0 : (decide (k < -(2 ^ 63)) || decide (k ≥ 2 ^ 63)) = false := by
    rw [decide_eq_false (by omega), decide_eq_false (by omega)] <;> rfl
  have c1 : (its.toArray.isEmpty || k == 1) = false := by
    rw [hi, Bool.false_or]
    exact beq_eq_false_iff_ne.mpr (by omega)
  have c2 : (decide (k ≤ 0) || its.toArray.isEmpty) = true := by
    rw [hi, Bool.or_false]
    exact decide_eq_true h2
  refine wpAny_binaryOp_repeat_ref (T := "tuple") (U := "int") (by decide) ⟨_, ho, rfl⟩ (fun s' => typeIs_int s' k t) noFill_tuple_mul F.fills_int_mul F.slot_int_rmul repeat_tuple F.slot_int_index.lookup
    (call_meets F.slot_int_rmul (typeIs_int s k t) F.entry_int_rmul (F.args_int_rmul_2 _ _) (int_rmul_tuple k t l its.toArray n dd sl)
      ⟨ho, rfl, ⟨_, ho, rfl⟩, call_meets F.slot_tuple_mul ⟨_, ho, rfl⟩ F.entry_tuple_mul (F.args_tuple_mul_2 _ _) (tuple_mulN l its.toArray n dd sl k t c0 c1 c2) ⟨ho, ?_⟩⟩)
  refine ⟨.ref s.heap.objs.size, _, I.laid (t' := s.toks) (o := .tup []) (fun b ob q => Heap.get?_push_of_some _ q) (Nat.le_refl _) ?_, rfl, q _ (I.hok.fresh (Nat.le_refl _))⟩
  exact ⟨by rw [sizeLine_eq]; exact Nat.zero_le _, [], .nil, IsTup.new _ _⟩
end

/-! ### operations: either .. or -/
theorem OpR.or {X : Cx} {f : Value → Value → Sem Value} {r r' : R2} (h : OpR X f r) (h' : OpR X f r') : OpR X f (fun x y H Q => r x y H Q ∨ r' x y H Q) :=
  fun pins s σ H x y v u Q I rx ry q => q.elim (h pins s σ H x y v u Q I rx ry) (h' pins s σ H x y v u Q I rx ry)
theorem CallR.or {X : Cx} {f : Value} {r r' : List V → Hp → VK → Prop} (h : CallR X f r) (h' : CallR X f r') : CallR X f (fun xs H Q => r xs H Q ∨ r' xs H Q) :=
  fun pins s σ H xs us Q I rx q => q.elim (h pins s σ H xs us Q I rx) (h' pins s σ H xs us Q I rx)
def xAddG (K : PySem.W.Frag) : R2 := fun x y H Q => xAdd x y H Q ∨ (xAddStr x y H Q ∨ (rCat x y H Q ∨ rCatA K x y H Q))
theorem op_addG {X : Cx} : OpR X (binaryOp .Add) (xAddG X.K) := OpR.or op_add (OpR.or op_add_str (OpR.or op_cat op_catA))
def xMulG (K : PySem.W.Frag) : R2 := fun x y H Q => xMul x y H Q ∨ (rRep x y H Q ∨ (rRepT K x y H Q ∨ (rRepS K x y H Q ∨ rRepN K x y H Q)))
theorem op_mulG {X : Cx} : OpR X (binaryOp .Mult) (xMulG X.K) := OpR.or op_mul (OpR.or op_rep (OpR.or op_repT (OpR.or op_repS op_repN)))
def xLtG (K : PySem.W.Frag) : R2 := fun x y H Q => xLt x y H Q ∨ rLtT K x y H Q
theorem rd_core {H : Hp} {a : Addr} {o u : HO} (h : H a = some o) (e : core o = u) : Rd H a u := by
  unfold core at e
  split at e
  · subst e; exact .inr ⟨_, h⟩
  · subst e; exact .inr ⟨_, h⟩
  · subst e; exact .inl h
def xLenDR : List V → Hp → VK → Prop := fun xs H Q => ∃ a kvs, xs = [V.ref a] ∧ Rd H a (.dK kvs) ∧ Q (.int kvs.length) H
theorem call_lenDR {X : Cx} : CallR X (.builtin "len") xLenDR := by
  intro pins s σ H xs us Q I r h
  obtain ⟨a, kvs, rfl, ha, q⟩ := h
  obtain ⟨u, rfl, ru⟩ := vals1 r
  cases ru
  exact d_len I ha fun t s' I' => ⟨.int kvs.length, H, I', ⟨t, rfl⟩, q⟩
def xLenTR : List V → Hp → VK → Prop := fun xs H Q => ∃ (a : Addr) (kvs : List (List Key × V)), xs = [V.ref a] ∧ Rd H a (.dT kvs) ∧ Q (.int kvs.length) H
theorem call_lenTR {X : Cx} : CallR X (.builtin "len") xLenTR := by
  intro pins s σ H xs us Q I r h
  obtain ⟨a, kvs, rfl, ha, q⟩ := h
  obtain ⟨u, rfl, ru⟩ := vals1 r
  cases ru
  obtain ⟨z, hd, ys, rel, dd⟩ := dt_rd I.hok ha
  have el : kvs.length = ys.length := Paired.length rel
  refine call_len_dictH hd dd (by rw [PySem.sizeLine_eq] at z; omega) ?_
  rw [← el]
  exact ⟨V.int kvs.length, H, I.tok _, ⟨s.toks + 1, rfl⟩, q⟩
def xIsG : R2 := fun x y H Q => xIsN x y H Q ∨ ∃ b, y = .bl b ∧ (x = .non ∨ ∃ a, x = .bl a) ∧ Q (.bl (decide (x = .bl b))) H
def xNotG : R2 := fun x y H Q => xNotN x y H Q ∨ ∃ b, y = .bl b ∧ (x = .non ∨ ∃ a, x = .bl a) ∧ Q (.bl (!decide (x = .bl b))) H
theorem op_isG {X : Cx} : OpR X (compareOp .Is) xIsG := OpR.or op_isN (by
  intro pins s σ H x y v u Q I rx ry h
  obtain ⟨b, rfl, hx, q⟩ := h
  cases (show u = Value.bool b from ry)
  rcases hx with rfl | ⟨a, rfl⟩
  · cases (show v = Value.none from rx)
    exact wpAny_is_other rfl (fun z => by cases z) ⟨.bl false, H, I, rfl, q⟩
  · cases (show v = Value.bool a from rx)
    by_cases e : a = b
    · subst e
      exact wpAny_is_self rfl ⟨.bl true, H, I, rfl, by simpa using q⟩
    · exact wpAny_is_other rfl (fun z => e (Value.bool.inj z)) ⟨.bl false, H, I, rfl, by simpa [e] using q⟩)
theorem op_notG {X : Cx} : OpR X (compareOp .IsNot) xNotG := OpR.or op_notN (by
  intro pins s σ H x y v u Q I rx ry h
  obtain ⟨b, rfl, hx, q⟩ := h
  cases (show u = Value.bool b from ry)
  rcases hx with rfl | ⟨a, rfl⟩
  · cases (show v = Value.none from rx)
    exact wpAny_isNot_other rfl (fun z => by cases z) ⟨.bl true, H, I, rfl, q⟩
  · cases (show v = Value.bool a from rx)
    by_cases e : a = b
    · subst e
      exact wpAny_isNot_self rfl ⟨.bl false, H, I, rfl, by simpa using q⟩
    · exact wpAny_isNot_other rfl (fun z => e (Value.bool.inj z)) ⟨.bl true, H, I, rfl, by simpa [e] using q⟩)
def xLenG (K : PySem.W.Frag) : List V → Hp → VK → Prop := fun xs H Q => xLen K xs H Q ∨ (xLenDR xs H Q ∨ (xLenS xs H Q ∨ xLenTR xs H Q))
theorem call_lenG {X : Cx} : CallR X (.builtin "len") (xLenG X.K) := CallR.or call_len_seq (CallR.or call_lenDR (CallR.or call_len_str call_lenTR))
def xTupG (K : PySem.W.Frag) : List V → Hp → VK → Prop := xTupleOf K
def xSortG (K : PySem.W.Frag) : List V → Hp → VK → Prop := fun xs H Q => rSortedI K xs H Q ∨ (rSortedT K xs H Q ∨ rSortedPO K xs H Q)
theorem call_sortG {X : Cx} : CallR X (.builtin "sorted") (xSortG X.K) := CallR.or cr_sortedI (CallR.or cr_sortedT cr_sortedPO)
def xSlG (K : PySem.W.Frag) : V → Option Int → Option Int → Hp → VK → Prop := fun x lo hi H Q => rSlL K x lo hi H Q ∨ (rSlA K x lo hi H Q ∨ rSlS x lo hi H Q)
theorem sl_G {X : Cx} : SlR X (xSlG X.K) := SlR.or sl_list (SlR.or sl_tupA sl_str)
/-! ### what they do with data -/
abbrev OK1 := (O → Prop)
theorem out_d {F H : Hp} {z : V} {d : D} {P : O → Prop} {Q : VK} (s : Same F H) (hr : Rep F d z) (hp : P (.fr d)) (q : ∀ z o F' H' C, Ext F H F' H' C → RepO F' H' o z C → C.Nodup → (∀ a ∈ C, F' a = none) → P o → Q z H') : Q z H :=
  q z (.fr d) F H [] (.refl s) ⟨rfl, hr⟩ List.nodup_nil (fun _ h => nomatch h) hp
theorem out_lst {F H : Hp} {p : Addr} {xs : List V} {ds : List D} {P : O → Prop} {Q : VK} (s : Same F H) (np : H p = none) (hr : RepL F ds xs) (hp : P (.lst (ds.map .fr))) (q : ∀ z o F' H' C, Ext F H F' H' C → RepO F' H' o z C → C.Nodup → (∀ a ∈ C, F' a = none) → P o → Q z H') : Q (.ref p) (upd H p (.lst xs)) :=
  q (.ref p) (.lst (ds.map .fr)) F _ [p] (ext_own s np) ⟨p, xs, [], rfl, rfl, upd_same, .ofL hr⟩ (List.nodup_cons.mpr ⟨List.not_mem_nil, List.nodup_nil⟩) (fun a m => by rw [List.mem_singleton.mp m]; exact s.free np) hp
theorem out_tup {F H : Hp} {p : Addr} {xs : List V} {ds : List D} {P : O → Prop} {Q : VK} (s : Same F H) (np : H p = none) (hr : RepL F ds xs) (hp : P (.fr (.tup ds))) (q : ∀ z o F' H' C, Ext F H F' H' C → RepO F' H' o z C → C.Nodup → (∀ a ∈ C, F' a = none) → P o → Q z H') : Q (.ref p) (upd H p (.tup xs)) :=
  q (.ref p) (.fr (.tup ds)) _ _ [] (ext_tup s np) ⟨rfl, p, xs, rfl, upd_same, RepL.mono (ext_tup (xs := xs) s np).f hr⟩ List.nodup_nil (fun _ h => nomatch h) hp
def dAdd : D → D → (O → Prop) → Prop
  | .int i, .int j, P => P (.fr (.int (i + j)))
  | .str a, .str b, P => a.length + b.length ≤ sizeLine ∧ P (.fr (.str (a ++ b)))
  | .lst xs, .lst ys, P => xs.length + ys.length ≤ sizeLine ∧ P (.lst ((xs ++ ys).map .fr))
  | .tup xs, .tup ys, P => xs.length + ys.length ≤ sizeLine ∧ P (.fr (.tup (xs ++ ys)))
  | _, _, _ => False
def dI2 (C : Int → Int → Prop) (g : Int → Int → D) : D → D → (O → Prop) → Prop
  | .int i, .int j, P => C i j ∧ P (.fr (g i j))
  | _, _, _ => False
def dI0 (g : Int → Int → D) : D → D → (O → Prop) → Prop
  | .int i, .int j, P => P (.fr (g i j))
  | _, _, _ => False
def dU (g : Int → D) : D → (O → Prop) → Prop
  | .int i, P => P (.fr (g i))
  | _, _ => False
abbrev dSub2 := dI0 fun i j => .int (i - j)
abbrev dLt := dI0 fun i j => .bl (decide (i < j))
abbrev dLe := dI0 fun i j => .bl (decide (i ≤ j))
abbrev dGt := dI0 fun i j => .bl (decide (j < i))
abbrev dGe := dI0 fun i j => .bl (decide (j ≤ i))
abbrev dMod := dI2 (fun _ j => 0 < j) fun i j => .int (i % j)
abbrev dDiv := dI2 CDivN fun i j => .int (i.fdiv j)
abbrev dPow := dI2 CPow fun i j => .int (i ^ j.toNat)
abbrev dNeg := dU fun i => .int (-i)
def dMul : D → D → (O → Prop) → Prop
  | .int i, .int j, P => CMul i j ∧ P (.fr (.int (i * j)))
  | .lst xs, .int k, P => (-(2 ^ 63) ≤ k ∧ k < 2 ^ 63 ∧ xs.length * k.toNat ≤ sizeLine) ∧ P (.lst ((List.replicate k.toNat xs).flatten.map .fr))
  | .tup xs, .int k, P => (xs ≠ [] ∧ -(2 ^ 62) ≤ k ∧ k ≤ 1000 ∧ xs.length ≤ 1000) ∧ P (.fr (.tup (List.replicate k.toNat xs).flatten))
  | _, _, _ => False
theorem repL_flat {F : Hp} {ds : List D} {xs : List V} (h : RepL F ds xs) : ∀ n : Nat, RepL F (List.replicate n ds).flatten (List.replicate n xs).flatten
  | 0 => rfl
  | n + 1 => by
    rw [List.replicate_succ, List.replicate_succ, List.flatten_cons, List.flatten_cons]
    exact h.app (repL_flat h n)
section
variable {K : PySem.W.Frag}
theorem simr_I0 {g : Int → Int → V} {gd : Int → Int → D} (hg : ∀ F i j, Rep F (gd i j) (g i j)) : SimR2 (rI0 g) (dI0 gd) := by
  intro F H x y d e P Q s hx hy h q
  match d, e, hx, hy, h with
  | .int i, .int j, hx, hy, h => exact ⟨i, j, hx, hy, out_d s (hg F i j) h q⟩
theorem simr_I {C : Int → Int → Prop} {g : Int → Int → V} {gd : Int → Int → D} (hg : ∀ F i j, Rep F (gd i j) (g i j)) : SimR2 (rI C g) (dI2 C gd) := by
  intro F H x y d e P Q s hx hy h q
  match d, e, hx, hy, h with
  | .int i, .int j, hx, hy, h => exact ⟨i, j, hx, hy, h.1, out_d s (hg F i j) h.2 q⟩
theorem simr_sub : SimR2 xSub dSub2 := simr_I0 fun _ _ _ => rfl
theorem simr_lt : SimR2 xLt dLt := simr_I0 fun _ _ _ => rfl
theorem simr_le : SimR2 xLe dLe := simr_I0 fun _ _ _ => rfl
theorem simr_gt : SimR2 xGt dGt := simr_I0 fun _ _ _ => rfl
theorem simr_ge : SimR2 xGe dGe := simr_I0 fun _ _ _ => rfl
theorem simr_mod : SimR2 xMod dMod := simr_I fun _ _ _ => rfl
theorem simr_div : SimR2 xDiv dDiv := simr_I fun _ _ _ => rfl
theorem simr_pow : SimR2 xPow dPow := simr_I fun _ _ _ => rfl
theorem simr_neg : SimR1 xNeg dNeg := by
  intro F H x d P Q s hx h q
  match d, hx, h with
  | .int i, hx, h => exact ⟨i, hx, out_d s (d := .int (-i)) rfl h q⟩
theorem simr_add : SimR2 (xAddG K) dAdd := by
  intro F H x y d e P Q s hx hy h q
  match d, e, hx, hy, h with
  | .int i, .int j, hx, hy, h => exact .inl ⟨i, j, hx, hy, out_d s (d := .int (i + j)) rfl h q⟩
  | .str a, .str b, hx, hy, h => exact .inr (.inl ⟨a, b, hx, hy, h.1, out_d s (d := .str (a ++ b)) rfl h.2 q⟩)
  | .lst xs, .lst ys, ⟨a, us, ea, ha, ra⟩, ⟨b, vs, eb, hb, rb⟩, h => exact .inr (.inr (.inl ⟨a, b, us, vs, ea, eb, ha, hb, by rw [ra.length, rb.length]; exact h.1, fun p np => out_lst s np (ra.app rb) h.2 q⟩))
  | .tup xs, .tup ys, ⟨a, us, ea, ha, ra⟩, ⟨b, vs, eb, hb, rb⟩, h =>
    refine .inr (.inr (.inr ⟨a, b, us, vs, ea, eb, SqT.of (s _ _ ha), SqT.of (s _ _ hb), by rw [ra.length, rb.length]; exact h.1, fun e0 => ?_, fun _ e0 => ?_, fun _ _ p np => out_tup s np (ra.app rb) h.2 q⟩))
    · have ex : xs = [] := List.eq_nil_of_length_eq_zero (by rw [← ra.length, e0]; rfl)
      subst ex
      exact out_d s (d := .tup ys) ⟨b, vs, rfl, hb, rb⟩ h.2 q
    · have ex : ys = [] := List.eq_nil_of_length_eq_zero (by rw [← rb.length, e0]; rfl)
      subst ex
      have h2 : P (.fr (.tup (xs ++ []))) := h.2
      rw [List.append_nil] at h2
      exact out_d s (d := .tup xs) ⟨a, us, rfl, ha, ra⟩ h2 q
theorem simr_mul : SimR2 (xMulG K) dMul := by
  intro F H x y d e P Q s hx hy h q
  match d, e, hx, hy, h with
  | .int i, .int j, hx, hy, h => exact .inl ⟨i, j, hx, hy, h.1, out_d s (d := .int (i * j)) rfl h.2 q⟩
  | .lst xs, .int k, ⟨a, us, ea, ha, ra⟩, hy, h => exact .inr (.inl ⟨a, k, us, ea, hy, ha, h.1.1, h.1.2.1, by rw [ra.length]; exact h.1.2.2, fun p np => out_lst s np (repL_flat ra _) h.2 q⟩)
  | .tup xs, .int k, ⟨a, us, ea, ha, ra⟩, hy, h =>
    have ne : us ≠ [] := fun z => h.1.1 (List.eq_nil_of_length_eq_zero (by rw [← ra.length, z]; rfl))
    by_cases h2 : 2 ≤ k
    · exact .inr (.inr (.inl ⟨a, k, us, ea, hy, SqT.of (s _ _ ha), ne, h2, h.1.2.2.1, by rw [ra.length]; exact h.1.2.2.2, fun p np => out_tup s np (repL_flat ra _) h.2 q⟩))
    by_cases h1 : k = 1
    · subst h1
      refine .inr (.inr (.inr (.inl ⟨a, us, ea, hy, SqT.of (s _ _ ha), ?_⟩)))
      have e : (List.replicate (1 : Int).toNat xs).flatten = xs := by show (xs ++ []) = xs; rw [List.append_nil]
      have hp := h.2
      rw [e] at hp
      exact out_d s (d := .tup xs) ⟨a, us, rfl, ha, ra⟩ hp q
    · refine .inr (.inr (.inr (.inr ⟨a, k, us, ea, hy, SqT.of (s _ _ ha), ne, h.1.2.1, by omega, fun p np => out_tup s np (ds := []) (xs := []) rfl ?_ q⟩)))
      have hp := h.2
      rw [show k.toNat = 0 by omega] at hp
      exact hp
/-! ### comparisons -/
theorem repL_ints' {F : Hp} {ds : List D} {xs : List V} {ns : List Int} (e : ds = ns.map .int) (h : RepL F ds xs) : xs = ns.map V.int := by subst e; exact h.ints
def asInts : List D → Option (List Int)
  | [] => some []
  | .int i :: r => (match asInts r with
    | some l => some (i :: l)
    | none => none)
  | _ => none
theorem asInts_ok : ∀ {ds : List D} {ns : List Int}, asInts ds = some ns → ds = ns.map .int
  | [], ns, e => by cases e; rfl
  | .int i :: r, ns, e => by
    unfold asInts at e
    cases q : asInts r with
    | none => rw [q] at e; cases e
    | some l => rw [q] at e; cases e; rw [asInts_ok q]; rfl
  | .non :: _, _, e => by cases e
  | .bl _ :: _, _, e => by cases e
  | .str _ :: _, _, e => by cases e
  | .ty _ :: _, _, e => by cases e
  | .cls _ :: _, _, e => by cases e
  | .tup _ :: _, _, e => by cases e
  | .lst _ :: _, _, e => by cases e
  | .dct _ _ :: _, _, e => by cases e
  | .ins _ _ :: _, _, e => by cases e
theorem asInts_map : ∀ ns : List Int, asInts (ns.map .int) = some ns
  | [] => rfl
  | n :: ns => by
    show (match asInts (ns.map .int) with
      | some l => some (n :: l)
      | none => none) = _
    rw [asInts_map ns]
def dLtG : D → D → (O → Prop) → Prop
  | .int i, .int j, P => P (.fr (.bl (decide (i < j))))
  | .tup xs, .tup ys, P => oth (asInts xs) fun ns => oth (asInts ys) fun ms => P (.fr (.bl (HT.lexLt ns ms)))
  | _, _, _ => False
theorem simr_ltG : SimR2 (xLtG K) dLtG := by
  intro F H x y d e P Q s hx hy h q
  match d, e, hx, hy, h with
  | .int i, .int j, hx, hy, h => exact .inl ⟨i, j, hx, hy, out_d s (d := .bl (decide (i < j))) rfl h q⟩
  | .tup xs, .tup ys, ⟨a, us, ea, ha, ra⟩, ⟨b, vs, eb, hb, rb⟩, h =>
    obtain ⟨ns, e1, h⟩ := oth_ok h
    obtain ⟨ms, e2, h⟩ := oth_ok h
    refine .inr ⟨a, b, ns, ms, ea, eb, SqT.of ?_, SqT.of ?_, out_d s (d := .bl (HT.lexLt ns ms)) rfl h q⟩
    · rw [← repL_ints' (asInts_ok e1) ra]; exact s _ _ ha
    · rw [← repL_ints' (asInts_ok e2) rb]; exact s _ _ hb
mutual
def toPy : D → Option PyData
  | .non => some .none
  | .bl b => some (.bool b)
  | .int i => some (.int i)
  | .str s => some (.str s)
  | .lst ds => (match toPyL ds with
    | some l => some (.list l)
    | none => none)
  | .tup ds => (match toPyL ds with
    | some l => some (.tuple l)
    | none => none)
  | _ => none
def toPyL : List D → Option (List PyData)
  | [] => some []
  | d :: ds => (match toPy d with
    | some p => (match toPyL ds with
      | some l => some (p :: l)
      | none => none)
    | none => none)
end
mutual
theorem toPy_ok {H : Hp} : ∀ {d : D} {x : V} {p : PyData}, toPy d = some p → Rep H d x → Dp K H x p
  | .non, x, p, e, h => by cases e; rw [show x = _ from h]; exact .non
  | .bl b, x, p, e, h => by cases e; rw [show x = _ from h]; exact .bl b
  | .int b, x, p, e, h => by cases e; rw [show x = _ from h]; exact .int b
  | .str b, x, p, e, h => by cases e; rw [show x = _ from h]; exact .str b
  | .lst ds, x, p, e, ⟨a, xs, ea, ha, ra⟩ => by
    unfold toPy at e
    cases q : toPyL ds with
    | none => rw [q] at e; cases e
    | some l =>
      rw [q] at e
      cases e
      rw [ea]
      exact .lst (SqL.of ha) (toPyL_ok q ra)
  | .tup ds, x, p, e, ⟨a, xs, ea, ha, ra⟩ => by
    unfold toPy at e
    cases q : toPyL ds with
    | none => rw [q] at e; cases e
    | some l =>
      rw [q] at e
      cases e
      rw [ea]
      exact .tup (SqT.of ha) (toPyL_ok q ra)
  | .ty _, _, _, e, _ => by cases e
  | .cls _, _, _, e, _ => by cases e
  | .dct _ _, _, _, e, _ => by cases e
  | .ins _ _, _, _, e, _ => by cases e
theorem toPyL_ok {H : Hp} : ∀ {ds : List D} {xs : List V} {p : List PyData}, toPyL ds = some p → RepL H ds xs → DpAll K H xs p
  | [], xs, p, e, h => by cases e; rw [show xs = [] from h]; exact .nil
  | d :: ds, xs, p, e, ⟨x, r, ex, h, t⟩ => by
    unfold toPyL at e
    cases q : toPy d with
    | none => rw [q] at e; cases e
    | some p1 =>
      rw [q] at e
      simp only at e
      cases q2 : toPyL ds with
      | none => rw [q2] at e; cases e
      | some l =>
        rw [q2] at e
        cases e
        rw [ex]
        exact .cons (toPy_ok q h) (toPyL_ok q2 t)
end
/-- == and !=, through and through -/
def dEq : D → D → (O → Prop) → Prop := fun d e P => oth (toPy d) fun a => oth (toPy e) fun b => SeqAt.shaped a = true ∧ SeqAt.shaped b = true ∧ P (.fr (.bl (PyData.eqv a b)))
def dNe : D → D → (O → Prop) → Prop := fun d e P => oth (toPy d) fun a => oth (toPy e) fun b => SeqAt.shaped a = true ∧ SeqAt.shaped b = true ∧ P (.fr (.bl (!PyData.eqv a b)))
theorem simr_eq : SimR2 (rEqD K) dEq := by
  intro F H x y d e P Q s hx hy h q
  obtain ⟨a, e1, h⟩ := oth_ok h
  obtain ⟨b, e2, h⟩ := oth_ok h
  exact ⟨a, b, toPy_ok e1 (hx.toH s), toPy_ok e2 (hy.toH s), h.1, h.2.1, out_d s (d := .bl (PyData.eqv a b)) rfl h.2.2 q⟩
theorem simr_ne : SimR2 (rNeD K) dNe := by
  intro F H x y d e P Q s hx hy h q
  obtain ⟨a, e1, h⟩ := oth_ok h
  obtain ⟨b, e2, h⟩ := oth_ok h
  exact ⟨a, b, toPy_ok e1 (hx.toH s), toPy_ok e2 (hy.toH s), h.1, h.2.1, out_d s (d := .bl (!PyData.eqv a b)) rfl h.2.2 q⟩
def D.isN : D → Bool
  | .non => true
  | _ => false
def dIs : D → D → (O → Prop) → Prop
  | d, .non, P => P (.fr (.bl d.isN))
  | .bl a, .bl b, P => P (.fr (.bl (decide (a = b))))
  | .non, .bl _, P => P (.fr (.bl false))
  | _, _, _ => False
def dIsNot : D → D → (O → Prop) → Prop
  | d, .non, P => P (.fr (.bl (!d.isN)))
  | .bl a, .bl b, P => P (.fr (.bl (!decide (a = b))))
  | .non, .bl _, P => P (.fr (.bl true))
  | _, _, _ => False
theorem repP_non {F H : Hp} {d : D} {x : V} (h : RepP F H d x) : decide (x = .non) = d.isN := by
  cases d with
  | non => rw [show x = _ from h]; rfl
  | bl _ => rw [show x = _ from h]; rfl
  | int _ => rw [show x = _ from h]; rfl
  | str _ => rw [show x = _ from h]; rfl
  | ty _ => rw [show x = _ from h]; rfl
  | cls _ => rw [show x = _ from h]; rfl
  | tup _ => obtain ⟨_, _, e, _⟩ := h; rw [e]; rfl
  | lst _ => obtain ⟨_, _, e, _⟩ := h; rw [e]; rfl
  | dct _ _ => obtain ⟨_, _, _, e, _⟩ := h; rw [e]; rfl
  | ins _ _ => obtain ⟨_, _, _, e, _⟩ := h; rw [e]; rfl
theorem bl_bl (a b : Bool) : decide (V.bl a = V.bl b) = decide (a = b) := by rw [Bool.eq_iff_iff]; simp
theorem simr_is : SimR2 xIsG dIs := by
  intro F H x y d e P Q s hx hy h q
  unfold dIs at h
  split at h
  · exact .inl ⟨hy, out_d s (d := .bl (decide (x = .non))) rfl (by rw [repP_non hx]; exact h) q⟩
  · rename_i a b
    have ex : x = .bl a := hx
    subst ex
    exact .inr ⟨b, hy, .inr ⟨a, rfl⟩, out_d s (d := .bl (decide (V.bl a = V.bl b))) rfl (by rw [bl_bl]; exact h) q⟩
  · rename_i b
    have ex : x = .non := hx
    subst ex
    exact .inr ⟨b, hy, .inl rfl, out_d s (d := .bl false) rfl h q⟩
  · exact h.elim
theorem simr_isNot : SimR2 xNotG dIsNot := by
  intro F H x y d e P Q s hx hy h q
  unfold dIsNot at h
  split at h
  · exact .inl ⟨hy, out_d s (d := .bl (!decide (x = .non))) rfl (by rw [repP_non hx]; exact h) q⟩
  · rename_i a b
    have ex : x = .bl a := hx
    subst ex
    exact .inr ⟨b, hy, .inr ⟨a, rfl⟩, out_d s (d := .bl (!decide (V.bl a = V.bl b))) rfl (by rw [bl_bl]; exact h) q⟩
  · rename_i b
    have ex : x = .non := hx
    subst ex
    exact .inr ⟨b, hy, .inl rfl, out_d s (d := .bl true) rfl h q⟩
  · exact h.elim
/-- a flat thing as a value -/
def D.flV : D → Option V
  | .non => some .non
  | .bl b => some (.bl b)
  | .int i => some (.int i)
  | .str s => some (.str s)
  | _ => none
def flVs : List D → Option (List V)
  | [] => some []
  | d :: r => (match d.flV with
    | some x => (match flVs r with
      | some l => some (x :: l)
      | none => none)
    | none => none)
def dIn (neg : Bool) : D → D → (O → Prop) → Prop
  | d, .lst ds, P => oth d.flV fun x => oth (flVs ds) fun xs => P (.fr (.bl (if neg then !inV x xs else inV x xs)))
  | d, .tup ds, P => oth d.flV fun x => oth (flVs ds) fun xs => P (.fr (.bl (if neg then !inV x xs else inV x xs)))
  | _, _, _ => False
theorem flV_ok {F H : Hp} {d : D} {x v : V} (e : d.flV = some v) (h : RepP F H d x) : x = v ∧ flatV v = true := by
  cases d <;> cases e <;> exact ⟨h, rfl⟩
theorem flVs_ok {F : Hp} : ∀ {ds : List D} {xs vs : List V}, flVs ds = some vs → RepL F ds xs → xs = vs ∧ vs.all flatV = true
  | [], xs, vs, e, h => by cases e; exact ⟨h, rfl⟩
  | d :: ds, xs, vs, e, ⟨x, r, ex, h, t⟩ => by
    unfold flVs at e
    cases q : d.flV with
    | none => rw [q] at e; cases e
    | some v =>
      rw [q] at e
      simp only at e
      cases q2 : flVs ds with
      | none => rw [q2] at e; cases e
      | some l =>
        rw [q2] at e
        cases e
        obtain ⟨h1, h2⟩ := flV_ok (H := F) q (h.toP (.refl _))
        obtain ⟨h3, h4⟩ := flVs_ok q2 t
        refine ⟨by rw [ex, h1, h3], ?_⟩
        rw [List.all_cons, h2, h4]
        rfl
theorem simr_in {neg : Bool} : SimR2 (rIn K neg) (dIn neg) := by
  intro F H x y d e P Q s hx hy h q
  cases e with
  | lst ds =>
    obtain ⟨v, e1, h⟩ := oth_ok h
    obtain ⟨vs, e2, h⟩ := oth_ok h
    obtain ⟨a, us, ea, ha, ra⟩ := hy
    obtain ⟨h1, h2⟩ := flV_ok e1 hx
    obtain ⟨h3, h4⟩ := flVs_ok e2 ra
    refine ⟨a, us, ea, .inl (SqL.of ha), by rw [h1]; exact h2, by rw [h3]; exact h4, ?_⟩
    rw [h1, h3]
    exact out_d s (d := .bl _) rfl h q
  | tup ds =>
    obtain ⟨v, e1, h⟩ := oth_ok h
    obtain ⟨vs, e2, h⟩ := oth_ok h
    obtain ⟨a, us, ea, ha, ra⟩ := hy
    obtain ⟨h1, h2⟩ := flV_ok e1 hx
    obtain ⟨h3, h4⟩ := flVs_ok e2 ra
    refine ⟨a, us, ea, .inr (SqT.of (s _ _ ha)), by rw [h1]; exact h2, by rw [h3]; exact h4, ?_⟩
    rw [h1, h3]
    exact out_d s (d := .bl _) rfl h q
  | _ => exact h.elim
/-! ### built-ins -/
def dLen : List D → (O → Prop) → Prop
  | [.lst ds], P => P (.fr (.int ds.length))
  | [.tup ds], P => P (.fr (.int ds.length))
  | [.dct _ ds], P => P (.fr (.int ds.length))
  | [.str s], P => s.length ≤ sizeLine ∧ P (.fr (.int s.length))
  | _, _ => False
theorem repM_len {F : Hp} : ∀ {ds : List (List Key × D)} {xs : List (List Key × V)}, RepM F ds xs → xs.length = ds.length
  | [], xs, h => by rw [show xs = [] from h]; rfl
  | (k, d) :: ds, xs, ⟨x, r, e, h, t⟩ => by rw [e, List.length_cons, List.length_cons, repM_len t]
theorem sim_len : SimRL (xLenG K) dLen := by
  intro F H xs ds P Q s hx h q
  match ds, hx, h with
  | [.lst ds], hx, h =>
    obtain ⟨x, ex, a, us, ea, ha, ra⟩ := repPL_1 hx
    exact .inl ⟨a, us, by rw [ex, ea], .inl (SqL.of ha), by rw [ra.length]; exact out_d s (d := .int ds.length) rfl h q⟩
  | [.tup ds], hx, h =>
    obtain ⟨x, ex, a, us, ea, ha, ra⟩ := repPL_1 hx
    exact .inl ⟨a, us, by rw [ex, ea], .inr (SqT.of (s _ _ ha)), by rw [ra.length]; exact out_d s (d := .int ds.length) rfl h q⟩
  | [.dct t ds], hx, h =>
    obtain ⟨x, ex, a, o, us, ea, ha, c, ra⟩ := repPL_1 hx
    have hq : Q (.int us.length) H := by rw [repM_len ra]; exact out_d s (d := .int ds.length) rfl h q
    cases t with
    | true => exact .inr (.inr (.inr ⟨a, us, by rw [ex, ea], rd_core ha c, hq⟩))
    | false =>
      obtain ⟨k0, c1, c2⟩ := c
      subst c2
      rw [List.length_map] at hq
      exact .inr (.inl ⟨a, k0, by rw [ex, ea], rd_core ha c1, hq⟩)
  | [.str z], hx, h =>
    obtain ⟨x, ex, ea⟩ := repPL_1 hx
    exact .inr (.inr (.inl ⟨z, by rw [ex, show x = _ from ea], h.1, out_d s (d := .int z.length) rfl h.2 q⟩))
def dAbs : List D → (O → Prop) → Prop
  | [.int i], P => P (.fr (.int (if i < 0 then -i else i)))
  | _, _ => False
def dInt : List D → (O → Prop) → Prop
  | [.int i], P => P (.fr (.int i))
  | [.bl b], P => P (.fr (.int (if b then 1 else 0)))
  | _, _ => False
theorem sim_abs : SimRL xAbs dAbs := by
  intro F H xs ds P Q s hx h q
  match ds, hx, h with
  | [.int i], hx, h =>
    obtain ⟨x, ex, ea⟩ := repPL_1 hx
    exact ⟨i, by rw [ex, show x = _ from ea], out_d s (d := .int _) rfl h q⟩
theorem sim_intB : SimRL xInt dInt := by
  intro F H xs ds P Q s hx h q
  match ds, hx, h with
  | [.int i], hx, h =>
    obtain ⟨x, ex, ea⟩ := repPL_1 hx
    exact .inl ⟨i, by rw [ex, show x = _ from ea], out_d s (d := .int _) rfl h q⟩
  | [.bl i], hx, h =>
    obtain ⟨x, ex, ea⟩ := repPL_1 hx
    exact .inr ⟨i, by rw [ex, show x = _ from ea], out_d s (d := .int _) rfl h q⟩
def dMin2 : List D → (O → Prop) → Prop
  | [.int i, .int j], P => P (.fr (.int (if j < i then j else i)))
  | _, _ => False
def dMax2 : List D → (O → Prop) → Prop
  | [.int i, .int j], P => P (.fr (.int (if j > i then j else i)))
  | _, _ => False
def dTuple : List D → (O → Prop) → Prop
  | [.lst ds], P => P (.fr (.tup ds))
  | [.tup ds], P => P (.fr (.tup ds))
  | _, _ => False
def dList : List D → (O → Prop) → Prop
  | [.lst ds], P => P (.lst (ds.map .fr))
  | [.tup ds], P => P (.lst (ds.map .fr))
  | _, _ => False
theorem sim_tuple : SimRL (xTupleOf K) dTuple := by
  intro F H xs ds P Q s hx h q
  match ds, hx, h with
  | [.lst ds], hx, h =>
    obtain ⟨x, ex, a, us, ea, ha, ra⟩ := repPL_1 hx
    exact ⟨a, us, by rw [ex, ea], .inl ⟨SqL.of ha, fun l nl => out_tup s nl ra h q⟩⟩
  | [.tup ds], hx, h =>
    obtain ⟨x, ex, a, us, ea, ha, ra⟩ := repPL_1 hx
    exact ⟨a, us, by rw [ex, ea], .inr ⟨SqT.of (s _ _ ha), out_d s (d := .tup ds) ⟨a, us, rfl, ha, ra⟩ h q⟩⟩
theorem sim_list : SimRL (xListOf K) dList := by
  intro F H xs ds P Q s hx h q
  match ds, hx, h with
  | [.lst ds], hx, h =>
    obtain ⟨x, ex, a, us, ea, ha, ra⟩ := repPL_1 hx
    exact ⟨a, us, by rw [ex, ea], .inl (SqL.of ha), fun l nl => out_lst s nl ra h q⟩
  | [.tup ds], hx, h =>
    obtain ⟨x, ex, a, us, ea, ha, ra⟩ := repPL_1 hx
    exact ⟨a, us, by rw [ex, ea], .inr (SqT.of (s _ _ ha)), fun l nl => out_lst s nl ra h q⟩
def asBls : List D → Option (List Bool)
  | [] => some []
  | .bl i :: r => (match asBls r with
    | some l => some (i :: l)
    | none => none)
  | _ => none
theorem asBls_ok : ∀ {ds : List D} {ns : List Bool}, asBls ds = some ns → ds = ns.map .bl
  | [], ns, e => by cases e; rfl
  | .bl i :: r, ns, e => by
    unfold asBls at e
    cases q : asBls r with
    | none => rw [q] at e; cases e
    | some l => rw [q] at e; cases e; rw [asBls_ok q]; rfl
  | .non :: _, _, e => by cases e
  | .int _ :: _, _, e => by cases e
  | .str _ :: _, _, e => by cases e
  | .ty _ :: _, _, e => by cases e
  | .cls _ :: _, _, e => by cases e
  | .tup _ :: _, _, e => by cases e
  | .lst _ :: _, _, e => by cases e
  | .dct _ _ :: _, _, e => by cases e
  | .ins _ _ :: _, _, e => by cases e
theorem asBls_map : ∀ ns : List Bool, asBls (ns.map .bl) = some ns
  | [] => rfl
  | n :: ns => by
    show (match asBls (ns.map .bl) with
      | some l => some (n :: l)
      | none => none) = _
    rw [asBls_map ns]
def dAll : List D → (O → Prop) → Prop
  | [.lst ds], P => oth (asBls ds) fun bs => P (.fr (.bl (bs.all id)))
  | _, _ => False
def dAny : List D → (O → Prop) → Prop
  | [.lst ds], P => oth (asBls ds) fun bs => P (.fr (.bl (bs.any id)))
  | _, _ => False
def dSum : List D → (O → Prop) → Prop
  | [.lst ds], P => oth (asInts ds) fun bs => P (.fr (.int bs.sum))
  | _, _ => False
theorem sim_all : SimRL (rAll K) dAll := by
  intro F H xs ds P Q s hx h q
  match ds, hx, h with
  | [.lst ds], hx, h =>
    obtain ⟨x, ex, a, us, ea, ha, ra⟩ := repPL_1 hx
    obtain ⟨bs, e1, h2⟩ := oth_ok h
    have := asBls_ok e1
    subst this
    exact ⟨a, bs, by rw [ex, ea], SqL.of (by rw [← ra.bls]; exact ha), out_d s (d := .bl _) rfl h2 q⟩
theorem sim_any : SimRL (rAny K) dAny := by
  intro F H xs ds P Q s hx h q
  match ds, hx, h with
  | [.lst ds], hx, h =>
    obtain ⟨x, ex, a, us, ea, ha, ra⟩ := repPL_1 hx
    obtain ⟨bs, e1, h2⟩ := oth_ok h
    have := asBls_ok e1
    subst this
    exact ⟨a, bs, by rw [ex, ea], SqL.of (by rw [← ra.bls]; exact ha), out_d s (d := .bl _) rfl h2 q⟩
theorem sim_sum : SimRL (rSum K) dSum := by
  intro F H xs ds P Q s hx h q
  match ds, hx, h with
  | [.lst ds], hx, h =>
    obtain ⟨x, ex, a, us, ea, ha, ra⟩ := repPL_1 hx
    obtain ⟨bs, e1, h2⟩ := oth_ok h
    have := asInts_ok e1
    subst this
    exact ⟨a, bs, by rw [ex, ea], SqL.of (by rw [← ra.ints]; exact ha), out_d s (d := .int _) rfl h2 q⟩
end

/-! ### parts: xs[i], o.f -/
def ixR (r1 : R) (k : Int) (env : DEnv) (P : R → Prop) : Prop := match peek r1 env with
  | some (.lst ds) => oth (atI ds k) fun d => P (.d d)
  | some (.tup ds) => oth (atI ds k) fun d => P (.d d)
  | some (.str z) => z.length ≤ sizeLine ∧ oth (atI z.cps.toList k) fun c => P (.d (.str ⟨#[c]⟩))
  | _ => (match r1 with
    | .p i path => oth (contAt env i path) fun u => (match u with
      | .lst os => oth (ixN os.length k) fun j => oth os[j]? fun o => (match o with
        | .fr d => P (.d d)
        | _ => P (.p i (path ++ [.ix j])))
      | _ => False)
    | _ => False)
def asI (r : R) (env : DEnv) (P : Int → Prop) : Prop := oth (peek r env) fun d => match d with
  | .int k => P k
  | _ => False
/-- the index leaves the slots -/
def dIx (da db : DTE) : DTE := fun env P X => da env (fun r1 env1 => db env1 (fun r2 env2 => asI r2 env2 fun k => ixR r1 k env2 fun r => P r env2) X) X
/-- the whole row stays data -/
def dIxE (da db : DTE) : DTE := fun env P X => da env (fun r1 env1 => nrm r1 fun r1 => db env1 (fun r2 env2 => asI r2 env2 fun k => ixR r1 k env2 fun r => P r env2) X) X
theorem asI_ok {F H : Hp} {env : DEnv} {σ : L2.St} {A C : List Addr} {r : R} {x : V} {P : Int → Prop} (g : Good F H env σ A) (hr : RepR F H σ A r x C) (h : asI r env P) : ∃ k, x = .int k ∧ P k := by
  obtain ⟨d, e, h⟩ := oth_ok h
  have rp := peek_ok g hr e
  cases d with
  | int k => exact ⟨k, rp, h⟩
  | _ => exact h.elim
theorem PathV.snoc {H : Hp} {s : PSt} {z : V} : ∀ {p : List PSt} {y x : V}, PathV H y p x → PathV H x [s] z → PathV H y (p ++ [s]) z
  | [], _, _, h, k => by rw [show _ = _ from h]; exact k
  | .ix j :: p, _, _, ⟨a, xs, w, e, h, hz, t⟩, k => ⟨a, xs, w, e, h, hz, PathV.snoc t k⟩
  | .fld f :: p, _, _, ⟨a, C, dx, fs, w, e, h, hz, t⟩, k => ⟨a, C, dx, fs, w, e, h, hz, PathV.snoc t k⟩
theorem ixR_ok {K : PySem.W.Frag} {F H : Hp} {env : DEnv} {σ : L2.St} {A C : List Addr} {r : R} {x : V} {k : Int} {P : R → Prop} {Q : VK} (g : Good F H env σ A) (hr : RepR F H σ A r x C) (h : ixR r k env P)
    (q : ∀ z r', RepR F H σ A r' z [] → P r' → Q z H) : rIx K x (.int k) H Q := by
  unfold ixR at h
  split at h
  · rename_i ds e
    obtain ⟨a, xs, ex, ha, rl⟩ := peek_ok g hr e
    obtain ⟨d, ed, h⟩ := oth_ok h
    unfold atI at ed
    obtain ⟨j, ej, ed⟩ := Option.bind_eq_some_iff.mp ed
    obtain ⟨z, hz, rz⟩ := rl.get ed
    refine .inl ⟨a, xs, k, z, ex, rfl, SqL.of ha, ?_, q z (.d d) (.dat g rz) h⟩
    unfold atI
    rw [rl.length, ej]
    exact hz
  · rename_i ds e
    obtain ⟨a, xs, ex, ha, rl⟩ := peek_ok g hr e
    obtain ⟨d, ed, h⟩ := oth_ok h
    unfold atI at ed
    obtain ⟨j, ej, ed⟩ := Option.bind_eq_some_iff.mp ed
    obtain ⟨z, hz, rz⟩ := rl.get ed
    refine .inr (.inl ⟨a, xs, k, z, ex, rfl, SqT.of (g.sub _ _ ha), ?_, q z (.d d) (.dat g rz) h⟩)
    unfold atI
    rw [rl.length, ej]
    exact hz
  · rename_i z e
    have ex := peek_ok g hr e
    obtain ⟨c, ec, h2⟩ := oth_ok h.2
    exact .inr (.inr ⟨z, k, c, ex, rfl, h.1, ec, q _ (.d (.str ⟨#[c]⟩)) (.dat g (d := .str ⟨#[c]⟩) rfl) h2⟩)
  · cases r with
    | o _ => exact h.elim
    | p i path =>
      obtain ⟨u, eu, h⟩ := oth_ok h
      cases u with
      | lst os =>
        obtain ⟨j, ej, h⟩ := oth_ok h
        obtain ⟨o, eo, h⟩ := oth_ok h
        obtain ⟨eC, y, hy, hv⟩ := hr
        obtain ⟨s, o0, q1, q2, q3⟩ := contAt_ok eu
        obtain ⟨B, R, k1, k2, _⟩ := g.rep.focus q1 q2 q3 hy hv
        obtain ⟨a, xs, B1, ea, eB, hx, rl⟩ := k1
        obtain ⟨z, Bz, Rz, hz, rz, _⟩ := rl.focus eo
        refine .inl ⟨a, xs, k, z, ea, rfl, SqL.of hx, ?_, ?_⟩
        · unfold atI
          rw [rl.len, ej]
          exact hz
        · have pth : RepR F H σ A (.p i (path ++ [.ix j])) z [] := ⟨rfl, y, hy, hv.snoc ⟨a, xs, z, ea, hx, hz, rfl⟩⟩
          cases o with
          | fr d => exact q z (.d d) (.dat g rz.2) h
          | lst _ => exact q z _ pth h
          | dct _ _ => exact q z _ pth h
          | ins _ _ => exact q z _ pth h
      | _ => exact h.elim
section
variable {W : WX} {K : PySem.W.Frag} {ta tb : TE} {da db : DTE}
theorem sim_ix (ha : SimE W ta da) (hb : SimP tb db) : SimE W (tOp (rIx K) ta tb) (dIx da db) := by
  intro F H env σ A Q P X g h xo k
  refine ha F H env σ A _ _ X g h xo fun x r1 env1 F1 H1 A1 C1 g1 s1 rr1 h1 => ?_
  refine hb F1 H1 env1 σ A1 _ _ X g1 h1 fun y r2 F3 H3 C3 e3 rr3 h3 => ?_
  have g3 := e3.good g1
  obtain ⟨i, ei, h4⟩ := asI_ok g3 rr3 h3
  subst ei
  refine ixR_ok g3 (rr1.ext e3) h4 fun z r' rz hp => ?_
  exact k z r' env1 F3 H3 A1 [] g3 ((s1.mem fun a m => List.mem_append_left _ m).trans (e3.step.mem fun a m => by rw [List.append_nil] at m; exact List.mem_append_left _ m)) rz hp
theorem simp_ix (ha : SimP ta da) (hb : SimP tb db) : SimP (tOp (rIx K) ta tb) (dIx da db) := by
  intro F H env σ A Q P X g h k
  refine ha F H env σ A _ _ X g h fun x r1 F1 H1 C1 x1 rr1 h1 => ?_
  have g1 := x1.good g
  refine hb F1 H1 env σ A _ _ X g1 h1 fun y r2 F3 H3 C3 e3 rr3 h3 => ?_
  have g3 := e3.good g1
  obtain ⟨i, ei, h4⟩ := asI_ok g3 rr3 h3
  subst ei
  exact ixR_ok g3 (rr1.ext e3) h4 fun z r' rz hp => k z r' F3 H3 [] ((x1.trans e3).noC fun _ h => nomatch h) rz hp
theorem sim_ixE (ha : SimE W ta da) (hb : SimE W tb db) : SimE W (tOp (rIx K) ta tb) (dIxE da db) := by
  intro F H env σ A Q P X g h xo k
  refine ha F H env σ A _ _ X g h xo fun x r1 env1 F1 H1 A1 C1 g1 s1 rr1 h1 => ?_
  obtain ⟨F2, r1', h2, g2, s2, p2⟩ := nrm_ok g1 rr1 h1
  have s12 := s1.trans s2
  refine hb F2 H1 env1 σ A1 _ _ X g2 h2 (xo.step s12) fun y r2 env2 F3 H3 A3 C3 g3 s3 rr3 h3 => ?_
  obtain ⟨i, ei, h4⟩ := asI_ok g3 rr3 h3
  subst ei
  exact ixR_ok g3 ((p2.mono s3.f).rep g3) h4 fun z r' rz hp => k z r' env2 F3 H3 A3 [] g3 (s12.trans (s3.mem fun a m => by rw [List.append_nil] at m; exact List.mem_append_left _ m)) rz hp
end
/-! ### fields -/
def fldR (Cs : List Addr) (f : Str) (r : R) (env : DEnv) (P : R → Prop) : Prop := match peek r env with
  | some (.ins C gs) => C ∈ Cs ∧ oth (gs.lookup f) fun d => P (.d d)
  | _ => (match r with
    | .p i path => oth (contAt env i path) fun u => (match u with
      | .ins C gs => C ∈ Cs ∧ oth (gs.lookup f) fun o => (match o with
        | .fr d => P (.d d)
        | _ => P (.p i (path ++ [.fld f])))
      | _ => False)
    | _ => False)
def dFld (Cs : List Addr) (f : Str) (da : DTE) : DTE := fun env P X => da env (fun r env1 => fldR Cs f r env1 fun r' => P r' env1) X
theorem fldR_ok {K : PySem.W.Frag} {Cs : List Addr} {f : Str} {F H : Hp} {env : DEnv} {σ : L2.St} {A C : List Addr} {r : R} {x : V} {P : R → Prop} {Q : VK} (hC : ∀ C ∈ Cs, Cls K C ∧ NoAttr K C f) (g : Good F H env σ A) (hr : RepR F H σ A r x C) (h : fldR Cs f r env P)
    (q : ∀ z r', RepR F H σ A r' z [] → P r' → Q z H) : ∃ a C dx fs v, x = .ref a ∧ H a = some (.ins C dx fs) ∧ Cls K C ∧ NoAttr K C f ∧ fs.lookup f = some v ∧ Q v H := by
  unfold fldR at h
  split at h
  · rename_i c gs e
    obtain ⟨a, dx, fs, ex, ha, rl⟩ := peek_ok g hr e
    obtain ⟨d, ed, h2⟩ := oth_ok h.2
    obtain ⟨z, hz, rz⟩ := rl.lookup ed
    exact ⟨a, c, dx, fs, z, ex, ha, (hC c h.1).1, (hC c h.1).2, hz, q z (.d d) (.dat g rz) h2⟩
  · cases r with
    | o _ => exact h.elim
    | p i path =>
      obtain ⟨u, eu, h⟩ := oth_ok h
      cases u with
      | ins c gs =>
        obtain ⟨hc, h⟩ := h
        obtain ⟨o, eo, h⟩ := oth_ok h
        obtain ⟨eC, y, hy, hv⟩ := hr
        obtain ⟨s, o0, q1, q2, q3⟩ := contAt_ok eu
        obtain ⟨B, R, k1, k2, _⟩ := g.rep.focus q1 q2 q3 hy hv
        obtain ⟨a, dx, xs, B1, ea, eB, hx, rl⟩ := k1
        obtain ⟨z, Bz, Rz, hz, rz, _⟩ := rl.focus eo
        refine ⟨a, c, dx, xs, z, ea, hx, (hC c hc).1, (hC c hc).2, hz, ?_⟩
        have pth : RepR F H σ A (.p i (path ++ [.fld f])) z [] := ⟨rfl, y, hy, hv.snoc ⟨a, c, dx, xs, z, ea, hx, hz, rfl⟩⟩
        cases o with
        | fr d => exact q z (.d d) (.dat g rz.2) h
        | lst _ => exact q z _ pth h
        | dct _ _ => exact q z _ pth h
        | ins _ _ => exact q z _ pth h
      | _ => exact h.elim
section
variable {W : WX} {K : PySem.W.Frag} {ta : TE} {da : DTE} {Cs : List Addr} {f : Str}
theorem sim_fld (hC : ∀ C ∈ Cs, Cls K C ∧ NoAttr K C f) (ha : SimE W ta da) : SimE W (tFld K ta f) (dFld Cs f da) := by
  intro F H env σ A Q P X g h xo k
  refine ha F H env σ A _ _ X g h xo fun x r1 env1 F1 H1 A1 C1 g1 s1 rr1 h1 => ?_
  exact fldR_ok hC g1 rr1 h1 fun z r' rz hp => k z r' env1 F1 H1 A1 [] g1 (s1.mem fun a m => by rw [List.append_nil] at m; exact List.mem_append_left _ m) rz hp
theorem simp_fld (hC : ∀ C ∈ Cs, Cls K C ∧ NoAttr K C f) (ha : SimP ta da) : SimP (tFld K ta f) (dFld Cs f da) := by
  intro F H env σ A Q P X g h k
  refine ha F H env σ A _ _ X g h fun x r1 F1 H1 C1 x1 rr1 h1 => ?_
  exact fldR_ok hC (x1.good g) rr1 h1 fun z r' rz hp => k z r' F1 H1 [] (x1.noC fun _ h => nomatch h) rz hp
end
/-- self.f = e -/
def putFD {α : Type} (f : Str) (v : α) : List (Str × α) → List (Str × α)
  | [] => [(f, v)]
  | (g, x) :: r => if g = f then (g, v) :: r else (g, x) :: putFD f v r
def dSetF (Cs : List Addr) (i : Nat) (f : Str) (de : DTE) : DTS := fun DD env => de env (fun r env1 => toO r env1 fun o env2 => oth (contAt env2 i []) fun u => match u with
  | .ins C gs => (C ∈ Cs ∧ gs.length < 1000) ∧ DD.nx (setAt env2 i [] (.ins C (putFD f o gs)))
  | _ => False) DD.ex
theorem RepOF.len {F H : Hp} : ∀ {os : List (Str × O)} {xs : List (Str × V)} {A : List Addr}, RepOF F H os xs A → xs.length = os.length
  | [], _, _, ⟨e, _⟩ => by rw [e]; rfl
  | (k, o) :: os, _, _, ⟨x, r, B, C, e, _, _, t⟩ => by rw [e, List.length_cons, List.length_cons, RepOF.len t]
theorem RepOF.putF {F H : Hp} {f : Str} {o : O} {x : V} {C : List Addr} (ro : RepO F H o x C) : ∀ {os : List (Str × O)} {xs : List (Str × V)} {B : List Addr}, RepOF F H os xs B → (B ++ C).Nodup → ∃ B', RepOF F H (putFD f o os) (putF f x xs) B' ∧ B'.Nodup ∧ ∀ a ∈ B', a ∈ B ∨ a ∈ C
  | [], xs, B, ⟨e, eB⟩, nd => by
    rw [e]
    refine ⟨C ++ [], ⟨x, [], C, [], rfl, rfl, ro, rfl, rfl⟩, by rw [List.append_nil]; exact nodup_r nd, fun a m => by rw [List.append_nil] at m; exact .inr m⟩
  | (k, u) :: os, xs, B, ⟨y, r, B1, C1, e, eB, h, t⟩, nd => by
    rw [eB] at nd
    rw [List.append_assoc] at nd
    by_cases q : k = f
    · rw [e]
      unfold putFD L2.putF
      rw [if_pos q, if_pos q]
      refine ⟨C ++ C1, ⟨x, r, C, C1, rfl, rfl, ro, t⟩, (List.perm_append_comm.nodup_iff.mp (nodup_r nd)), fun a m => ?_⟩
      rcases List.mem_append.mp m with m | m
      · exact .inr m
      · exact .inl (by rw [eB]; exact List.mem_append_right _ m)
    · obtain ⟨B', h1, h2, h3⟩ := RepOF.putF ro t (nodup_r nd)
      rw [e]
      unfold putFD L2.putF
      rw [if_neg q, if_neg q]
      refine ⟨B1 ++ B', ⟨y, _, B1, B', rfl, rfl, h, h1⟩, List.nodup_append.mpr ⟨nodup_l nd, h2, fun a ha b hb z => ?_⟩, fun a m => ?_⟩
      · subst z
        exact nodup_d nd ha ((h3 a hb).elim (fun m => List.mem_append_left _ m) fun m => List.mem_append_right _ m)
      · rcases List.mem_append.mp m with m | m
        · exact .inl (by rw [eB]; exact List.mem_append_left _ m)
        · exact (h3 a m).elim (fun z => .inl (by rw [eB]; exact List.mem_append_right _ z)) .inr
theorem RepOF.upd {F H : Hp} {a : Addr} {u : HO} {os : List (Str × O)} {xs : List (Str × V)} {B : List Addr} (n : a ∉ B) (h : RepOF F H os xs B) : RepOF F (L2.upd H a u) os xs B := h.stay ⟨.refl _, fun b m o e => by rw [upd_ne (fun z => n (by rw [← z]; exact m))]; exact e⟩
theorem sim_setF {W : WX} {K : PySem.W.Frag} {te : TE} {de : DTE} {Cs : List Addr} {i : Nat} {f : Str} (hC : ∀ C ∈ Cs, Cls K C ∧ NoAttr K C f) (he : SimE W te de) : SimS W (sFld K (tVar i) te f) (dSetF Cs i f de) := by
  intro F H env σ A E DD g h eo
  refine he F H env σ A _ _ _ g h eo.ex fun y r env1 F1 H1 A1 C1 g1 s1 rr1 h1 => ?_
  obtain ⟨F2, A2, o, env2, C2, h2, g2, s2, r2⟩ := toO_ok g1 rr1 h1
  have s12 := s1.trans s2
  obtain ⟨u, eu, h3⟩ := oth_ok h2
  obtain ⟨v, hv⟩ := var_there g2 eu
  refine ⟨v, hv, ?_⟩
  cases u with
  | ins c gs =>
    obtain ⟨⟨hc, hl⟩, h3⟩ := h3
    obtain ⟨s, o0, e1, e2, e3⟩ := contAt_ok eu
    obtain ⟨B, R, k1, k2, _⟩ := g2.rep.focus e1 e2 e3 hv rfl
    obtain ⟨a, dx, fs, B1, ex, eB, hx, rl⟩ := k1
    have mA : a ∈ A2 := k2.mem_iff.mpr (List.mem_append_left _ (by rw [eB]; exact List.mem_cons_self))
    refine ⟨a, c, dx, fs, ex, hx, (hC c hc).1, (hC c hc).2, by rw [rl.len]; exact hl, ?_⟩
    have sepC : ∀ b ∈ C2, b ∉ A2 ∧ F2 b = none := fun b m => ⟨fun z => nodup_d r2.2.1 z m, r2.2.2 b m⟩
    obtain ⟨A', g', s'⟩ := g2.write (H' := upd H1 a (.ins c dx (L2.putF f y fs))) (o2 := .ins c (putFD f o gs)) eu ⟨v, hv, rfl⟩ sepC (nodup_r r2.2.1) (same_own g2.sub (g2.dis a mA)) (fun b => upd_free) (fun B0 R0 b1 b2 b3 => by
      obtain ⟨a', dx', fs', B1', ex', eB', hx', rl'⟩ := b1
      rw [ex] at ex'
      cases ex'
      rw [hx] at hx'
      cases hx'
      have ndB := nodup_l b3
      rw [eB'] at ndB
      have naB := (List.nodup_cons.mp ndB).1
      have mB0 : ∀ b ∈ B0, b ∈ A2 := fun b m => b2.mem_iff.mpr (List.mem_append_left _ m)
      have naC : a ∉ C2 := fun z => (sepC a z).1 mA
      have ndBC : (B1' ++ C2).Nodup := List.nodup_append.mpr ⟨(List.nodup_cons.mp ndB).2, nodup_r r2.2.1, fun b hb c hc z => by subst z; exact (sepC b hc).1 (mB0 b (by rw [eB']; exact List.mem_cons_of_mem _ hb))⟩
      obtain ⟨B', q1, q2, q3⟩ := RepOF.putF (f := f) (r2.1.upd (u := .ins c dx (L2.putF f y fs)) naC) (rl'.upd (u := .ins c dx (L2.putF f y fs)) naB) ndBC
      refine ⟨fun b o e n => by rw [upd_ne (fun z => n (by rw [z, eB']; exact List.mem_cons_self))]; exact e, a :: B', ⟨a, dx, _, B', ex, rfl, upd_same, q1⟩, List.nodup_cons.mpr ⟨fun m => (q3 a m).elim naB naC, q2⟩, fun b m => ?_⟩
      rcases List.mem_cons.mp m with m | m
      · exact .inl (by rw [m, eB']; exact List.mem_cons_self)
      · exact (q3 b m).elim (fun z => .inl (by rw [eB']; exact List.mem_cons_of_mem _ z)) .inr)
    exact eo.nx _ σ F2 _ A' g' (s12.trans s') h3
  | _ => exact h3.elim
/-! ### slices -/
abbrev DTO := DEnv → (Option Int → DEnv → Prop) → DX → Prop
def SimO (t : TO) (d : DTO) : Prop := ∀ (F H : Hp) (env : DEnv) (σ : L2.St) (A : List Addr) (Q : Option Int → Hp → Prop) (P : Option Int → DEnv → Prop) (X : DX), Good F H env σ A → d env P X →
  (∀ o F' H', Ext F H F' H' [] → P o env → Q o H') → t σ H Q
def dNoPart : DTO := fun env P _ => P none env
def dPart (da : DTE) : DTO := fun env P X => da env (fun r env1 => asI r env1 fun k => P (some k) env1) X
theorem sim_noPart : SimO tNoPart dNoPart := fun F H env σ A Q P X g h k => k none F H (.refl g.sub) h
theorem sim_part {ta : TE} {da : DTE} (ha : SimP ta da) : SimO (tPart ta) (dPart da) := by
  intro F H env σ A Q P X g h k
  refine ha F H env σ A _ _ X g h fun x r1 F1 H1 C1 x1 rr1 h1 => ?_
  obtain ⟨i, ei, h2⟩ := asI_ok (x1.good g) rr1 h1
  exact ⟨i, ei, k (some i) F1 H1 (x1.noC fun _ h => nomatch h) h2⟩
def cutD (ds : List D) (lo hi : Option Int) : List D := (ds.drop (HT.sIx ds.length 0 lo)).take (HT.sIx ds.length ds.length hi - HT.sIx ds.length 0 lo)
def slR (d : D) (lo hi : Option Int) (P : O → Prop) : Prop := match d with
  | .lst ds => P (.lst ((cutD ds lo hi).map .fr))
  | .tup ds => P (.fr (.tup (cutD ds lo hi)))
  | .str z => z.length ≤ sizeLine ∧ P (.fr (.str (cutS z lo hi)))
  | _ => False
def dSl (da : DTE) (dl dh : DTO) : DTE := fun env P X => da env (fun r env1 => dl env1 (fun lo env2 => dh env2 (fun hi env3 => oth (peek r env3) fun d => slR d lo hi fun o => P (.o o) env3) X) X) X
theorem repL_cut {F : Hp} {ds : List D} {xs : List V} {lo hi : Option Int} (h : RepL F ds xs) : RepL F (cutD ds lo hi) (cutV xs lo hi) := by
  unfold cutD cutV
  rw [h.length]
  exact (h.drop _).take _
theorem sim_sl {W : WX} {K : PySem.W.Frag} {ta : TE} {da : DTE} {tl th : TO} {dl dh : DTO} (ha : SimE W ta da) (hl : SimO tl dl) (hh : SimO th dh) : SimE W (tSl (xSlG K) ta tl th) (dSl da dl dh) := by
  intro F H env σ A Q P X g h xo k
  refine ha F H env σ A _ _ X g h xo fun x r1 env1 F1 H1 A1 C1 g1 s1 rr1 h1 => ?_
  refine hl F1 H1 env1 σ A1 _ _ X g1 h1 fun lo F2 H2 x2 h2 => ?_
  have g2 := x2.good g1
  refine hh F2 H2 env1 σ A1 _ _ X g2 h2 fun hi F3 H3 x3 h3 => ?_
  have g3 := x3.good g2
  have x23 := (x2.trans x3).noC (C' := []) fun _ h => nomatch h
  obtain ⟨d, ed, h4⟩ := oth_ok h3
  have rp := peek_ok g3 (rr1.ext x23) ed
  have s3 := (s1.mem fun a m => List.mem_append_left _ m).trans ((x23.step (env := env1) (σ := σ) (A := A1)).mem fun a m => List.mem_append_left _ m)
  have fin : ∀ z o F' H' C, Ext F3 H3 F' H' C → RepO F' H' o z C → C.Nodup → (∀ a ∈ C, F' a = none) → P (.o o) env1 → Q z H' := fun z o F' H' C x4 ro nd dis h6 => k z (.o o) env1 F' H' A1 C (x4.good g3) (s3.trans x4.step) (.new g3 x4 ro nd dis) h6
  cases d with
  | lst ds =>
    obtain ⟨a, xs, ex, ha, rl⟩ := rp
    exact .inl ⟨a, xs, ex, SqL.of ha, fun p np => out_lst (P := fun o => P (.o o) env1) g3.sub np (repL_cut rl) h4 fin⟩
  | tup ds =>
    obtain ⟨a, xs, ex, ha, rl⟩ := rp
    refine .inr (.inl ⟨a, xs, ex, SqT.of (g3.sub _ _ ha), fun w => ?_, fun _ p np => out_tup (P := fun o => P (.o o) env1) g3.sub np (repL_cut rl) h4 fin⟩)
    have e : cutV xs lo hi = xs := by
      unfold cutV
      rw [w.1, w.2]
      show (xs.drop 0).take (xs.length - 0) = xs
      rw [Nat.sub_zero]
      exact List.take_length
    have rc := repL_cut (lo := lo) (hi := hi) rl
    rw [e] at rc
    exact out_d (P := fun o => P (.o o) env1) g3.sub (d := .tup (cutD ds lo hi)) ⟨a, xs, rfl, ha, rc⟩ h4 fin
  | str z => exact .inr (.inr ⟨z, rp, h4.1, out_d (P := fun o => P (.o o) env1) g3.sub (d := .str _) rfl h4.2 fin⟩)
  | _ => exact h4.elim

def xMin : List V → Hp → VK → Prop := fun xs H Q => ∃ i j, xs = [.int i, .int j] ∧ Q (.int (if j < i then j else i)) H
def xMax : List V → Hp → VK → Prop := fun xs H Q => ∃ i j, xs = [.int i, .int j] ∧ Q (.int (if j > i then j else i)) H
/-! ### sorted, isinstance, ranges as rows -/
def prD (p : Int × Int) : D := .tup [.int p.1, .int p.2]
def asPr : D → Option (Int × Int)
  | .tup [.int a, .int b] => some (a, b)
  | _ => none
theorem asPr_ok {d : D} {p : Int × Int} (h : asPr d = some p) : d = prD p := by
  unfold asPr at h
  split at h
  · cases h; rfl
  · cases h
def asPrs : List D → Option (List (Int × Int))
  | [] => some []
  | d :: r => (match asPr d with
    | some p => (match asPrs r with
      | some l => some (p :: l)
      | none => none)
    | none => none)
theorem asPrs_ok : ∀ {ds : List D} {ps : List (Int × Int)}, asPrs ds = some ps → ds = ps.map prD
  | [], ps, e => by cases e; rfl
  | d :: r, ps, e => by
    unfold asPrs at e
    cases q0 : asPr d with
    | none => rw [q0] at e; cases e
    | some p =>
      rw [q0] at e
      dsimp only at e
      cases q : asPrs r with
      | none => rw [q] at e; cases e
      | some l => rw [q] at e; cases e; rw [asPrs_ok q, asPr_ok q0]; rfl
theorem asPrs_map : ∀ ps : List (Int × Int), asPrs (ps.map prD) = some ps
  | [] => rfl
  | (a, b) :: ps => by
    show (match asPrs (ps.map prD) with
      | some l => some ((a, b) :: l)
      | none => none) = _
    rw [asPrs_map ps]
def dSorted : List D → (O → Prop) → Prop
  | [.lst ds], P => (match asInts ds with
    | some ns => ∀ ms : List Int, ms.Perm ns → ms.Pairwise (· ≤ ·) → P (.lst (ms.map fun i => .fr (.int i)))
    | none => oth (asPrs ds) fun ps => ∀ qs : List (Int × Int), qs.Perm ps → qs.Pairwise (fun a b => a.1 < b.1 ∨ a.1 = b.1 ∧ a.2 ≤ b.2) → P (.lst (qs.map fun p => .fr (prD p))))
  | [.tup ds], P => oth (asInts ds) fun ns => ∀ ms : List Int, ms.Perm ns → ms.Pairwise (· ≤ ·) → P (.lst (ms.map fun i => .fr (.int i)))
  | _, _ => False
/-- a thing told apart by its data -/
def pairAt (F : Hp) (x : V) : Int × Int := match x with
  | .ref t => (match F t with
    | some (.tup [.int a, .int b]) => (a, b)
    | _ => (0, 0))
  | _ => (0, 0)
theorem repL_prs {F : Hp} : ∀ {ps : List (Int × Int)} {xs : List V}, RepL F (ps.map prD) xs → xs.map (pairAt F) = ps ∧ ∀ x ∈ xs, ∃ t, x = .ref t ∧ F t = some (.tup [.int (pairAt F x).1, .int (pairAt F x).2])
  | [], xs, h => by rw [show xs = [] from h]; exact ⟨rfl, fun _ h => nomatch h⟩
  | (a, b) :: ps, xs, ⟨x, r, e, ⟨t, us, ex, ht, ru⟩, q⟩ => by
    obtain ⟨h1, h2⟩ := repL_prs q
    have eu : us = [.int a, .int b] := ru.ints (ns := [a, b])
    subst eu
    subst ex
    have ep : pairAt F (.ref t) = (a, b) := by
      show (match F t with
        | some (.tup [.int a, .int b]) => (a, b)
        | _ => (0, 0)) = _
      rw [ht]
    rw [e]
    refine ⟨by rw [List.map_cons, ep, h1], fun y hy => ?_⟩
    rcases List.mem_cons.mp hy with z | hy
    · rw [z, ep]
      exact ⟨t, rfl, ht⟩
    · exact h2 y hy
theorem repL_ofPrs {F : Hp} : ∀ {xs : List V}, (∀ x ∈ xs, ∃ t, x = .ref t ∧ F t = some (.tup [.int (pairAt F x).1, .int (pairAt F x).2])) → RepL F ((xs.map (pairAt F)).map prD) xs
  | [], _ => rfl
  | x :: r, h => by
    obtain ⟨t, e, ht⟩ := h x List.mem_cons_self
    have ih := repL_ofPrs fun y hy => h y (List.mem_cons_of_mem _ hy)
    exact ⟨x, r, rfl, ⟨t, _, e, ht, ⟨_, _, rfl, rfl, ⟨_, _, rfl, rfl, rfl⟩⟩⟩, ih⟩
section
variable {K : PySem.W.Frag}
theorem sim_sorted : SimRL (xSortG K) dSorted := by
  intro F H xs ds P Q s hx h q
  have iN : ∀ (a : Addr) (us : List V) (ns : List Int), us = ns.map V.int → (∀ ms : List Int, ms.Perm ns → ms.Pairwise (· ≤ ·) → P (.lst (ms.map fun i => .fr (.int i)))) →
      ∀ (ns' : List Int) (p : Addr), ns'.Perm ns → ns'.Pairwise (· ≤ ·) → H p = none → Q (.ref p) (upd H p (.lst (ns'.map V.int))) := fun a us ns e h ms p pm pw np => by
    have := h ms pm pw
    rw [show (ms.map fun i => O.fr (.int i)) = (ms.map D.int).map .fr by rw [List.map_map]; rfl] at this
    exact out_lst s np (.ofInts ms) this q
  match ds, hx, h with
  | [.lst ds], hx, h =>
    obtain ⟨x, ex, a, us, ea, ha, ra⟩ := repPL_1 hx
    unfold dSorted at h
    dsimp only at h
    cases e1 : asInts ds with
    | some ns =>
      rw [e1] at h
      have e2 := repL_ints' (asInts_ok e1) ra
      exact .inl ⟨a, ns, by rw [ex, ea], SqL.of (by rw [← e2]; exact ha), iN a us ns e2 h⟩
    | none =>
      rw [e1] at h
      dsimp only at h
      obtain ⟨ps, e2, hs⟩ := oth_ok h
      have e3 := asPrs_ok e2
      subst e3
      obtain ⟨k1, k2⟩ := repL_prs ra
      refine .inr (.inr ⟨a, us, pairAt F, by rw [ex, ea], SqL.of ha, fun x hx => let ⟨t, e, ht⟩ := k2 x hx; ⟨t, e, s _ _ ht⟩, fun ys p so st np => ?_⟩)
      have hm : ∀ x ∈ ys, ∃ t, x = .ref t ∧ F t = some (.tup [.int (pairAt F x).1, .int (pairAt F x).2]) := fun x hx => k2 x (st.perm.mem_iff.mp hx)
      have pm : (ys.map (pairAt F)).Perm ps := by
        have := st.perm.map (pairAt F)
        rw [k1] at this
        exact this
      have pw : (ys.map (pairAt F)).Pairwise (fun a b => a.1 < b.1 ∨ a.1 = b.1 ∧ a.2 ≤ b.2) := by
        refine List.pairwise_map.mpr (so.imp fun {x y} h => ?_)
        have := SrtO.lexB_no.mp h
        omega
      have hp := hs _ pm pw
      rw [show ((ys.map (pairAt F)).map fun p => O.fr (prD p)) = ((ys.map (pairAt F)).map prD).map .fr by simp only [List.map_map]; rfl] at hp
      exact out_lst s np (repL_ofPrs hm) hp q
  | [.tup ds], hx, h =>
    obtain ⟨x, ex, a, us, ea, ha, ra⟩ := repPL_1 hx
    unfold dSorted at h
    obtain ⟨ns, e1, h⟩ := oth_ok h
    have e2 := repL_ints' (asInts_ok e1) ra
    exact .inr (.inl ⟨a, ns, by rw [ex, ea], SqT.of (by rw [← e2]; exact s _ _ ha), iN a us ns e2 h⟩)
theorem sim_min2 : SimRL xMin dMin2 := by
  intro F H xs ds P Q s hx h q
  match ds, hx, h with
  | [.int i, .int j], hx, h =>
    obtain ⟨x, y, ex, ea, eb⟩ := repPL_2 hx
    exact ⟨i, j, by rw [ex, show x = _ from ea, show y = _ from eb], out_d s (d := .int _) rfl h q⟩
theorem sim_max2 : SimRL xMax dMax2 := by
  intro F H xs ds P Q s hx h q
  match ds, hx, h with
  | [.int i, .int j], hx, h =>
    obtain ⟨x, y, ex, ea, eb⟩ := repPL_2 hx
    exact ⟨i, j, by rw [ex, show x = _ from ea, show y = _ from eb], out_d s (d := .int _) rfl h q⟩
end
/-! ### isinstance -/
def D.kind : D → Option String
  | .non => some "NoneType"
  | .bl _ => some "bool"
  | .int _ => some "int"
  | .str _ => some "str"
  | .lst _ => some "list"
  | .tup _ => some "tuple"
  | .dct false _ => some "dict"
  | _ => none
theorem kind_ok {F H : Hp} {d : D} {x : V} {s : String} (sm : Same F H) (e : d.kind = some s) (h : RepP F H d x) : Kind H x s := by
  cases d with
  | non => cases e; rw [show x = _ from h]; exact .non
  | bl b => cases e; rw [show x = _ from h]; exact .bl b
  | int b => cases e; rw [show x = _ from h]; exact .int b
  | str b => cases e; rw [show x = _ from h]; exact .str b
  | lst ds => cases e; obtain ⟨a, us, ea, ha, _⟩ := h; rw [ea]; exact .lst ha
  | tup ds => cases e; obtain ⟨a, us, ea, ha, _⟩ := h; rw [ea]; exact .tup (sm _ _ ha)
  | dct t ds =>
    cases t with
    | true => cases e
    | false =>
      cases e
      obtain ⟨a, o, us, ea, ha, ⟨k0, c1, _⟩, _⟩ := h
      rw [ea]
      rcases rd_core ha c1 with z | ⟨o', z⟩
      · exact .dK z
      · exact .dF z
  | _ => cases e
def okTy (T : String) : Prop := T = "int" ∨ T = "bool" ∨ T = "tuple" ∨ T = "list" ∨ T = "dict" ∨ T = "str"
/-- what is known of a class of the program: isinstance tells its own from what is built in, and from one another -/
structure ClsOk (K : PySem.W.Frag) (Cs : List Addr) : Prop where
  own : ∀ C ∈ Cs, OwnC K C
  ty : ∀ C ∈ Cs, ∀ T, okTy T → PySem.W.kitOne K (.ref C) (.type T) = some false
  ne : ∀ C ∈ Cs, ∀ C' ∈ Cs, C ≠ C' → PySem.W.kitOne K (.ref C) (.ref C') = some false
inductive Ask where
  | ty (T : String) | cls (C : Addr) | tt (S T : String)
def D.ask : D → Option Ask
  | .ty T => some (.ty T)
  | .cls C => some (.cls C)
  | .tup [.ty S, .ty T] => some (.tt S T)
  | _ => none
def D.cl : D → Option Addr
  | .ins C _ => some C
  | _ => none
def isiA (Cs : List Addr) (d : D) (a : Ask) (P : O → Prop) : Prop := match d.cl with
  | some C => C ∈ Cs ∧ (match a with
    | .ty T => okTy T ∧ P (.fr (.bl false))
    | .cls C' => C' ∈ Cs ∧ P (.fr (.bl (decide (C = C'))))
    | .tt S T => (okTy S ∧ okTy T) ∧ P (.fr (.bl false)))
  | none => oth d.kind fun s => (match a with
    | .ty T => okTy T ∧ P (.fr (.bl (isA s T)))
    | .cls C' => C' ∈ Cs ∧ P (.fr (.bl false))
    | .tt S T => (okTy S ∧ okTy T) ∧ P (.fr (.bl (isA s S || isA s T))))
def dIsi (Cs : List Addr) : List D → (O → Prop) → Prop
  | [d, c], P => oth c.ask fun a => isiA Cs d a P
  | _, _ => False
theorem ask_ok {F H : Hp} {c : D} {y : V} {a : Ask} (s : Same F H) (e : c.ask = some a) (h : RepP F H c y) : match a with
    | .ty T => y = .ty T
    | .cls C => y = .ref C
    | .tt S T => ∃ t, y = .ref t ∧ H t = some (.tup [.ty S, .ty T]) := by
  unfold D.ask at e
  split at e
  · cases e; exact h
  · cases e; exact h
  · cases e
    obtain ⟨t, us, ey, ht, u, r, e1, e2, w, r2, e3, e4, e5⟩ := h
    refine ⟨t, ey, ?_⟩
    rw [s _ _ ht, e1, show u = _ from e2, e3, show w = _ from e4, show r2 = _ from e5]
  · cases e
theorem cl_ok {F H : Hp} {d : D} {x : V} {C : Addr} (e : d.cl = some C) (h : RepP F H d x) : ∃ a dx fs, x = .ref a ∧ H a = some (.ins C dx fs) := by
  unfold D.cl at e
  split at e
  · cases e
    obtain ⟨a, dx, fs, e1, e2, _⟩ := h
    exact ⟨a, dx, fs, e1, e2⟩
  · cases e
def xIsiG (K : PySem.W.Frag) : List V → Hp → VK → Prop := fun xs H Q => rIsi K xs H Q ∨ rIsiT K xs H Q
theorem call_isiG {X : Cx} : CallR X (.builtin "isinstance") (xIsiG X.K) := CallR.or call_isi call_isiT
theorem sim_isi {K : PySem.W.Frag} {Cs : List Addr} (hC : ClsOk K Cs) : SimRL (xIsiG K) (dIsi Cs) := by
  intro F H xs ds P Q s hx h q
  match ds, hx, h with
  | [d, c], hx, h =>
    obtain ⟨x, y, ex, rx, ry⟩ := repPL_2 hx
    subst ex
    obtain ⟨a, ea, h⟩ := oth_ok h
    have ya := ask_ok s ea ry
    unfold isiA at h
    cases ec : d.cl with
    | some C =>
      rw [ec] at h
      dsimp only at h
      obtain ⟨hm, h⟩ := h
      obtain ⟨b, dx, fs, eb, hb⟩ := cl_ok ec rx
      subst eb
      have ty := (hC.own C hm).tyx hb
      cases a with
      | ty T =>
        have ey : y = .ty T := ya
        subst ey
        exact .inl ⟨.ref b, .ty T, .ref C, .type T, false, rfl, .ty T, ty, hC.ty C hm T h.1, out_d s (d := .bl false) rfl h.2 q⟩
      | cls C' =>
        have ey : y = .ref C' := ya
        subst ey
        refine .inl ⟨.ref b, .ref C', .ref C, .ref C', decide (C = C'), rfl, .own C', ty, ?_, out_d s (d := .bl _) rfl h.2 q⟩
        by_cases e : C = C'
        · rw [e, decide_eq_true rfl]; exact (hC.own C' h.1).ic.me
        · rw [decide_eq_false e]; exact hC.ne C hm C' h.1 e
      | tt S T =>
        obtain ⟨t, ey, ht⟩ := ya
        subst ey
        refine .inr ⟨.ref b, t, _, .ref C, [.type S, .type T], false, rfl, ht, .cons (.ty S) (.cons (.ty T) .nil), ty, ?_, out_d s (d := .bl _) rfl h.2 q⟩
        exact kitAny_cons (hC.ty C hm S h.1.1) (fun e => kitAny_cons (hC.ty C hm T h.1.2) (fun e' => kitAny_nil) fun e' => by cases e') fun e => by cases e
    | none =>
      rw [ec] at h
      dsimp only at h
      obtain ⟨n, en, h⟩ := oth_ok h
      have kd := kind_ok s en rx
      cases a with
      | ty T =>
        have ey : y = .ty T := ya
        subst ey
        exact .inl (v_isi kd h.1 (out_d s (d := .bl _) rfl h.2 q))
      | cls C' =>
        have ey : y = .ref C' := ya
        subst ey
        exact .inl (v_isiK (hC.own C' h.1) kd (out_d s (d := .bl _) rfl h.2 q))
      | tt S T =>
        obtain ⟨t, ey, ht⟩ := ya
        subst ey
        exact .inr (v_isiT kd ht h.1.1 h.1.2 (out_d s (d := .bl _) rfl h.2 q))
/-! ### list(range(..)), tuple(range(..)) -/
def dRg (b : Bool) (da : DTA) : DTE := fun env P X => da env (fun rs env1 => oth (peekL rs env1) fun ds => match ds with
  | [.int j] => RgOk 0 j ∧ P (if b then .o (.lst ((rgD 0 (j - 0).toNat).map .fr)) else .d (.tup (rgD 0 (j - 0).toNat))) env1
  | [.int i, .int j] => RgOk i j ∧ P (if b then .o (.lst ((rgD i (j - i).toNat).map .fr)) else .d (.tup (rgD i (j - i).toNat))) env1
  | _ => False) X
theorem repL_rg {F : Hp} (i : Int) (n : Nat) : RepL F (rgD i n) ((List.range n).map fun (k : Nat) => V.int (i + (k : Nat))) := by
  unfold rgD
  have := RepL.ofInts (F := F) ((List.range n).map fun (k : Nat) => i + ((k : Nat) : Int))
  rw [List.map_map, List.map_map] at this
  exact this
theorem rgV_eq (i j : Int) : rgV i j = (List.range (j - i).toNat).map fun (k : Nat) => V.int (i + (k : Nat)) := rfl
section
variable {W : WX} {ta tb : TE} {da db : DTE} {n : Nat}
theorem rg_fin {F H : Hp} {env : DEnv} {σ : L2.St} {A : List Addr} {i j : Int} {b : Bool} {P : R → DEnv → Prop} {Q : VK} (g : Good F H env σ A) (h : P (if b then .o (.lst ((rgD i (j - i).toNat).map .fr)) else .d (.tup (rgD i (j - i).toNat))) env)
    (k : ∀ x r F' H' C, Ext F H F' H' C → RepR F' H' σ A r x C → P r env → Q x H') : ∀ p, H p = none → Q (.ref p) (upd H p (if b then .lst (rgV i j) else .tup (rgV i j))) := fun p np => by
  cases b with
  | true => exact out_lst (P := fun o => P (.o o) env) (Q := Q) g.sub np (by rw [rgV_eq]; exact repL_rg i _) h fun z o F' H' C x ro nd dis hp => k z (.o o) F' H' C x (.new g x ro nd dis) hp
  | false => exact out_tup (P := fun o => P (.o o) env) (Q := Q) g.sub np (by rw [rgV_eq]; exact repL_rg i _) h fun z o F' H' C x ro nd dis hp => k z (.o o) F' H' C x (.new g x ro nd dis) hp
theorem sim_rgA1 {b : Bool} (ha : SimE W ta da) : SimE W (fun σ H Q => ta σ H fun x H1 => ∃ n, x = .int n ∧ RgOk 0 n ∧ ∀ q, H1 q = none → Q (.ref q) (upd H1 q (if b then .lst (rgV 0 n) else .tup (rgV 0 n)))) (dRg b (dLastA da)) := by
  intro F H env σ A Q P X g h xo k
  refine ha F H env σ A _ _ X g h xo fun x r1 env1 F1 H1 A1 C1 g1 s1 rr1 h1 => ?_
  obtain ⟨ds, e1, h2⟩ := oth_ok h1
  have rp := peekL_ok g1 (rs := [r1]) ⟨x, rfl, rr1⟩ e1
  match ds, h2, rp with
  | [.int j], h2, rp =>
    obtain ⟨y, ey, ry⟩ := repPL_1 rp
    cases ey
    exact ⟨j, ry, h2.1, rg_fin g1 h2.2 fun z r F' H' C x1 rr hp => k z r env1 F' H' A1 C (x1.good g1) ((s1.mem fun a m => List.mem_append_left _ m).trans x1.step) rr hp⟩
  | [.int i, .int j], h2, rp =>
    obtain ⟨y, z, ey, _⟩ := repPL_2 rp
    cases ey
theorem sim_rgA2 {b : Bool} (ha : SimE W ta da) (hb : SimE W tb db) : SimE W (fun σ H Q => ta σ H fun x H1 => tb σ H1 fun y H2 => ∃ i j, x = .int i ∧ y = .int j ∧ RgOk i j ∧ ∀ q, H2 q = none → Q (.ref q) (upd H2 q (if b then .lst (rgV i j) else .tup (rgV i j)))) (dRg b (dConsA da (dLastA db))) := by
  intro F H env σ A Q P X g h xo k
  refine ha F H env σ A _ _ X g h xo fun x r1 env1 F1 H1 A1 C1 g1 s1 rr1 h1 => ?_
  obtain ⟨F2, r1', h2, g2, s2, p2⟩ := nrm_ok g1 rr1 h1
  have s12 := s1.trans s2
  refine hb F2 H1 env1 σ A1 _ _ X g2 h2 (xo.step s12) fun y r2 env2 F3 H3 A3 C3 g3 s3 rr3 h3 => ?_
  obtain ⟨ds, e1, h4⟩ := oth_ok h3
  have rp := peekL_ok g3 (rs := [r1', r2]) (xs := [x, y]) ⟨x, [y], rfl, p2.mono s3.f, y, rfl, rr3⟩ e1
  match ds, h4, rp with
  | [.int i, .int j], h4, rp =>
    obtain ⟨u, w, ey, ru, rw'⟩ := repPL_2 rp
    cases ey
    exact ⟨i, j, ru, rw', h4.1, rg_fin g3 h4.2 fun z r F' H' C x1 rr hp => k z r env2 F' H' A3 C (x1.good g3) ((s12.trans (s3.mem fun a m => List.mem_append_left _ m)).trans x1.step) rr hp⟩
  | [.int j], h4, rp =>
    obtain ⟨y, ey, _⟩ := repPL_1 rp
    cases ey
theorem sim_lstRg1 (ha : SimE W ta da) : SimE W (tLstRg (tRg1 ta)) (dRg true (dLastA da)) := sim_rgA1 (b := true) ha
theorem sim_lstRg2 (ha : SimE W ta da) (hb : SimE W tb db) : SimE W (tLstRg (tRg2 ta tb)) (dRg true (dConsA da (dLastA db))) := sim_rgA2 (b := true) ha hb
theorem sim_tupRg1 (ha : SimE W ta da) : SimE W (tTupRg (tRg1 ta)) (dRg false (dLastA da)) := sim_rgA1 (b := false) ha
theorem sim_tupRg2 (ha : SimE W ta da) (hb : SimE W tb db) : SimE W (tTupRg (tRg2 ta tb)) (dRg false (dConsA da (dLastA db))) := sim_rgA2 (b := false) ha hb
end
/-! ### raise -/
def dRaise0 (cls : Value) : DTS := fun DD env => DD.ex ⟨cls, none⟩ env
def dRaise1 (C : Addr) (f : Str) (dv : DTV) : DTS := fun DD env => dv env (fun ds env1 => match ds with
  | [d] => DD.ex ⟨.ref C, some [(f, d)]⟩ env1
  | _ => False) DD.ex
theorem sim_raise0 {W : WX} {cls : Value} : SimS W (tRaise0 cls W) (dRaise0 cls) := fun F H env σ A E DD g h eo => eo.ex cls none ⟨cls, none⟩ env σ F H A g .refl ⟨rfl, rfl⟩ h
theorem ext_frz {F H : Hp} {p : Addr} {o : HO} (s : Same F H) (n : H p = none) : Ext F H (upd F p o) (upd H p o) [] := by
  refine ⟨(same_new (s.free n)).sm, (same_new n).sm, fun a u e _ => same_new n a u e, fun a u e => ?_, fun _ h => (nomatch h), fun a h => ?_⟩
  · by_cases q : a = p
    · rw [q, upd_same] at e ⊢; exact e
    · rw [upd_ne q] at e ⊢; exact s a u e
  · by_cases q : a = p
    · exact .inr (by rw [q]; exact n)
    · rw [upd_ne q] at h; exact .inl h
theorem sim_raise1 {W : WX} {C : Addr} {f : Str} {ta : TA} {dv : DTV} (ha : SimV W ta dv) : SimS W (tRaiseO C (spX1 C f) ta W) (dRaise1 C f dv) := by
  intro F H env σ A E DD g h eo
  refine ha F H env σ A _ _ _ g h eo.ex fun xs ds env1 F1 H1 A1 g1 s1 rl h1 => ?_
  match ds, h1, rl with
  | [d], h1, ⟨x, r, ex, rx, er⟩ =>
    have e2 : xs = [x] := by rw [ex, show r = [] from er]
    subst e2
    refine v_raise1 fun dd nd => ?_
    have x1 := ext_frz (o := .xd [(f, x)]) g1.sub nd
    exact eo.ex _ _ ⟨.ref C, some [(f, d)]⟩ env1 σ _ _ A1 (x1.good g1) (s1.trans (x1.step.mem fun a m => List.mem_append_left _ m)) ⟨rfl, dd, _, rfl, upd_same, ⟨x, [], rfl, rx.mono x1.f, rfl⟩⟩ h1
/-! ### a == b by an own __eq__ -/
def dEqOwn (C : Addr) (f : Fn) : DTE → DTE → DTE := fun da db env P X => da env (fun r1 env1 => force r1 env1 fun d1 env2 => db env2 (fun r2 env3 => force r2 env3 fun d2 env4 => (match d1 with
  | .ins C' _ => C' = C ∧ d2.kind.isSome = true ∨ (match d2 with
    | .ins C2 _ => C' = C ∧ C2 = C
    | _ => False)
  | _ => False) ∧ f [.fr d1, .fr d2] (fun o _ => oth o.flat fun d => oth d.asB fun b => P (.d (.bl b)) env4) (fun _ _ => False)) X) X
def dPar (i j : Nat) (dv : DTV) : DTS := fun DD env => dv env (fun ds env1 => match ds with
  | [a, b] => dName i (.fr a) env1 (fun env2 => dName j (.fr b) env2 DD.nx DD.ex) DD.ex
  | _ => False) DD.ex
theorem sim_par {W : WX} {i j : Nat} {ta : TA} {dv : DTV} (ha : SimV W ta dv) : SimS W (tPar i j ta) (dPar i j dv) := by
  intro F H env σ A E DD g h eo
  refine ha F H env σ A _ _ _ g h eo.ex fun xs ds env1 F1 H1 A1 g1 s1 rl h1 => ?_
  match ds, h1, rl with
  | [a, b], h1, ⟨x, r, ex, rx, ⟨y, r2, ey, ry, er⟩⟩ =>
    have e2 : xs = [x, y] := by rw [ex, ey, show r2 = [] from er]
    subst e2
    refine ⟨x, y, rfl, ?_⟩
    have k1 := sim_name (W := W) (i := i) F1 H1 env1 σ A1 [] x (.fr a) (fun σ' H' => E.nx (σ'.set j (some y)) H') _ _ g1 (.dat g1 rx) h1 (eo.ex.step s1) fun env2 σ2 F2 H2 A2 g2 s2 _ _ h2 => ?_
    · exact k1
    · rw [List.append_nil] at s2
      exact sim_name (W := W) (i := j) F2 H2 env2 σ2 A2 [] y (.fr b) E.nx _ _ g2 (.dat g2 (ry.mono s2.f)) h2 (eo.ex.step (s1.trans s2)) fun env3 σ3 F3 H3 A3 g3 s3 _ _ h3 => by
        rw [List.append_nil] at s3
        exact eo.nx env3 σ3 F3 H3 A3 g3 ((s1.trans s2).trans s3) h3

def dNever : DTS := fun _ _ => False
theorem sim_never {W : WX} : SimS W tNever dNever := fun F H env σ A E DD g h eo => h.elim
/-! ### xs[i].m(e): a list that another one holds -/
theorem PathV.stay {F H H' : Hp} : ∀ {p : List PSt} {o o1 : O} {y x : V} {B : List Addr}, RepO F H o y B → o.at p = some o1 → PathV H y p x → (∀ a ∈ B, ∀ u, H a = some u → H' a = some u) → PathV H' y p x
  | [], _, _, _, _, _, _, _, v, _ => v
  | .ix j :: p, o, o1, y, x, B, h, e, v, k => by
    cases o with
    | lst os =>
      unfold O.at at e
      cases ej : os[j]? with
      | none => rw [ej] at e; cases e
      | some o2 =>
        rw [ej] at e
        obtain ⟨a, xs, B1, ey, eA, ha, r⟩ := h
        obtain ⟨b, xs', z, ey', hb, hz, v'⟩ := v
        rw [ey] at ey'
        cases ey'
        rw [ha] at hb
        cases hb
        obtain ⟨z', Bz, Rz, g1, g2, g3, _⟩ := RepOL.focus r ej
        rw [hz] at g1
        cases g1
        exact ⟨a, xs, z, ey, k a (by rw [eA]; exact List.mem_cons_self) _ ha, hz, PathV.stay g2 e v' fun b hb => k b (by rw [eA]; exact List.mem_cons_of_mem _ (g3.mem_iff.mpr (List.mem_append_left _ hb)))⟩
    | fr d => unfold O.at at e; cases e
    | dct t d => unfold O.at at e; cases e
    | ins C d => unfold O.at at e; cases e
  | .fld f :: p, o, o1, y, x, B, h, e, v, k => by
    cases o with
    | ins C gs =>
      unfold O.at at e
      cases ej : gs.lookup f with
      | none => rw [ej] at e; cases e
      | some o2 =>
        rw [ej] at e
        obtain ⟨a, dx, xs, B1, ey, eA, ha, r⟩ := h
        obtain ⟨b, C', dx', xs', z, ey', hb, hz, v'⟩ := v
        rw [ey] at ey'
        cases ey'
        rw [ha] at hb
        cases hb
        obtain ⟨z', Bz, Rz, g1, g2, g3, _⟩ := RepOF.focus r ej
        rw [hz] at g1
        cases g1
        exact ⟨a, C, dx, xs, z, ey, k a (by rw [eA]; exact List.mem_cons_self) _ ha, hz, PathV.stay g2 e v' fun b hb => k b (by rw [eA]; exact List.mem_cons_of_mem _ (g3.mem_iff.mpr (List.mem_append_left _ hb)))⟩
    | fr d => unfold O.at at e; cases e
    | dct t d => unfold O.at at e; cases e
    | lst d => unfold O.at at e; cases e
def S.owO : S → Option O
  | .ow o => some o
  | _ => none
def S.isUn : S → Bool
  | .un => true
  | _ => false
def dMethN1 (f : List O → O → (List O → O → Prop) → Prop) (da de : DTE) : DTE := fun env P X => da env (fun r _ => match r with
  | .p i path => oth env[i]? fun s => oth s.owO fun o0 => isL (o0.at path) = true ∧ de (env.set i .un) (fun q env2 => toO q env2 fun o env3 => oth env3[i]? fun s3 => s3.isUn = true ∧ oth (o0.at path) fun u => (match u with
    | .lst os => f os o fun os' z => P (.o z) (env3.set i (.ow (o0.put path (.lst os'))))
    | _ => False)) (fun _ _ => False)
  | _ => False) (fun _ _ => False)
theorem sim_methN1 {W : WX} {K : PySem.W.Frag} {ta te : TE} {da de : DTE} {r : V → List V → Hp → VK → Prop} {f : List O → O → (List O → O → Prop) → Prop} (hr : SimM1 r f) (ha : SimP ta da) (he : SimE W te de) : SimE W (tBM K "list" r ta (tCons te tNil)) (dMethN1 f da de) := by
  intro F H env σ A Q P X g h xo k
  refine ha F H env σ A _ _ _ g h fun x r0 F0 H0 C0 x0 rr0 h => ?_
  have g0 := x0.good g
  cases r0 with
  | o _ => exact h.elim
  | p i path =>
    obtain ⟨s, es, w1⟩ := oth_ok h
    obtain ⟨o0, eo, w2⟩ := oth_ok w1
    obtain ⟨hL, w3⟩ := w2
    have es' : s = .ow o0 := by cases s <;> cases eo; rfl
    subst es'
    obtain ⟨eC, y, hy, hv⟩ := rr0
    obtain ⟨v, B, R, q1, q2, q3, q4⟩ := g0.rep.out es
    rw [hy] at q1
    cases q1
    obtain ⟨y', ey, ro⟩ := q2
    cases ey
    have nd : (B ++ R).Nodup := q3.nodup_iff.mp g0.nd
    have mB : ∀ a ∈ B, a ∈ A := fun a m => q3.mem_iff.mpr (List.mem_append_left _ m)
    have mR : ∀ a ∈ R, a ∈ A := fun a m => q3.mem_iff.mpr (List.mem_append_right _ m)
    obtain ⟨os0, eu0⟩ : ∃ os, o0.at path = some (.lst os) := by
      cases e : o0.at path with
      | none => rw [e] at hL; cases hL
      | some u =>
        cases u with
        | lst os => exact ⟨os, rfl⟩
        | _ => rw [e] at hL; cases hL
    obtain ⟨B1, R1, f1, f2, f3⟩ := ro.focus eu0 hv
    obtain ⟨a, xs0, B2, ex, eB1, hx0, rl0⟩ := f1
    refine ⟨by rw [ex]; exact .inl ⟨rfl, xs0, SqL.of hx0⟩, ?_⟩
    have gR : Good F0 H0 (env.set i .un) σ R := ⟨g0.sub, q4, nodup_r nd, fun b m => g0.dis b (mR b m)⟩
    have xoF : XOk F0 H0 (env.set i .un) σ R W (fun _ _ => False) := fun _ _ _ _ _ _ _ _ _ _ _ q => q.elim
    refine he F0 H0 (env.set i .un) σ R _ _ _ gR w3 xoF fun w r1 env1 F1 H1 A1 C1 g1 s1 rr1 h1 => ?_
    obtain ⟨F2, A2, o, env2, C2, h2, g2, s2, r2⟩ := toO_ok g1 rr1 h1
    have s12 := s1.trans s2
    obtain ⟨s3, es3, h3⟩ := oth_ok h2
    obtain ⟨un3, h3⟩ := h3
    have es3' : s3 = .un := by cases s3 <;> first | rfl | cases un3
    subst es3'
    obtain ⟨u, eu, h3⟩ := oth_ok h3
    rw [eu0] at eu
    cases eu
    have sepB : ∀ b ∈ B, b ∉ R ∧ F0 b = none := fun b m => ⟨fun z => nodup_d nd m z, g0.dis b (mB b m)⟩
    obtain ⟨ro2, sep2⟩ := s12.out ro sepB
    have hv2 : PathV H1 y path x := hv.stay ro eu0 fun b m u e => s12.keep b u e (sepB b m).1 (sepB b m).2
    have hs : RepSl F2 H1 (.ow o0) (some y) B := ⟨y, rfl, ro2⟩
    obtain ⟨A4, p1, p2⟩ := RepS.put hs g2.rep es3
    rw [set_self hy] at p2
    have ndB : (B ++ A2).Nodup := List.nodup_append.mpr ⟨nodup_l nd, g2.nd, fun b hb c hc z => by subst z; exact (sep2 b hb).1 (List.mem_append_left _ hc)⟩
    have g4 : Good F2 H1 (env2.set i (.ow o0)) σ A4 := ⟨g2.sub, p2, p1.nodup_iff.mpr ndB, fun b m => (List.mem_append.mp (p1.mem_iff.mp m)).elim (fun z => (sep2 b z).2) fun z => g2.dis b z⟩
    have m4 : ∀ b ∈ A4, b ∈ B ∨ b ∈ A2 := fun b m => List.mem_append.mp (p1.mem_iff.mp m)
    have sepC : ∀ b ∈ C2, b ∉ A4 ∧ F2 b = none := fun b m => ⟨fun z => (m4 b z).elim (fun q => (sep2 b q).1 (List.mem_append_right _ m)) fun q => nodup_d r2.2.1 q m, r2.2.2 b m⟩
    have st4 : Step F H env σ A F2 H1 (env2.set i (.ow o0)) σ (A4 ++ C2) := by
      refine ⟨x0.f.trans s12.f, fun b u e n f => s12.keep b u (x0.hx b u e f) (fun z => n (mR b z)) (x0.fno f e), fun b z => x0.h.free (s12.free b z), fun b m => ?_, fun b z => ?_, fun j w hj => ?_⟩
      · rcases List.mem_append.mp m with m | m
        · rcases m4 b m with m | m
          · exact .inl (mB b m)
          · exact (s12.anew b (List.mem_append_left _ m)).elim (fun z => .inl (mR b z)) fun z => .inr (x0.h.free z)
        · exact (s12.anew b (List.mem_append_right _ m)).elim (fun z => .inl (mR b z)) fun z => .inr (x0.h.free z)
      · rcases s12.fnew b z with z | z | z
        · exact (x0.fnew b z).elim .inl fun z => .inr (.inr z)
        · exact .inr (.inl (mR b z))
        · exact .inr (.inr (x0.h.free z))
      · have ne : i ≠ j := fun z => by subst z; rw [es] at hj; cases hj
        obtain ⟨o', h1, h2⟩ := s12.bor j w (by rw [List.getElem?_set_ne ne]; exact hj)
        exact ⟨o', by rw [List.getElem?_set_ne ne]; exact h1, rfl⟩
    have ec : contAt (env2.set i (.ow o0)) i path = some (.lst os0) := by
      unfold contAt
      rw [get_set es3]
      exact eu0
    have hx2 : H1 a = some (.lst xs0) := s12.keep a _ hx0 (sepB a (f2.mem_iff.mpr (List.mem_append_left _ (by rw [eB1]; exact List.mem_cons_self)))).1 (sepB a (f2.mem_iff.mpr (List.mem_append_left _ (by rw [eB1]; exact List.mem_cons_self)))).2
    have memB : ∀ b ∈ a :: B2, b ∈ B := fun b m => f2.mem_iff.mpr (List.mem_append_left _ (by rw [eB1]; exact m))
    have rl2 : RepOL F2 H1 os0 xs0 B2 := rl0.stay ⟨s12.f, fun b m u e => s12.keep b u e (sepB b (memB b (List.mem_cons_of_mem _ m))).1 (sepB b (memB b (List.mem_cons_of_mem _ m))).2⟩
    have maB : a ∈ B := memB a List.mem_cons_self
    have ndl : (a :: B2).Nodup := by
      have := nodup_l (f2.nodup_iff.mp (nodup_l nd))
      rw [eB1] at this
      exact this
    have ndBC : (a :: B2 ++ C2).Nodup := List.nodup_append.mpr ⟨ndl, nodup_r r2.2.1, fun b hb c hc z => by subst z; exact (sep2 b (memB b hb)).1 (List.mem_append_right _ hc)⟩
    have nF : F2 a = none := (sep2 a maB).2
    subst ex
    refine hr F2 H1 a xs0 w os0 o _ _ B2 C2 g2.sub hx2 rl2 r2.1 ndBC nF h3 fun os' z x' xs' B' C' h4 rl' rz nd' m' => ?_
    have naBC : a ∉ B' ++ C' := fun m => (List.nodup_cons.mp ndBC).1 (m' a m)
    obtain ⟨A', C'', g', s', r'⟩ := g4.writeR (H' := upd H1 a (.lst xs')) (o2 := .lst os') (o3 := z) (z := x') ec ⟨y, hy, hv2⟩ sepC (same_own g2.sub nF) (fun b => upd_free) (fun B0 R0 b1 b2 b3 => by
      obtain ⟨a', xs9, B9, ea, eB, hx, rl9⟩ := b1
      cases ea
      rw [hx2] at hx
      cases hx
      refine ⟨fun b o e n => by rw [upd_ne (fun z => n (by rw [z, eB]; exact List.mem_cons_self))]; exact e, a :: B', C', ⟨a, xs', B', rfl, rfl, upd_same, rl'⟩, rz, List.nodup_cons.mpr ⟨naBC, nd'⟩, fun b m => ?_⟩
      have eq : B9 = B2 := rl9.uniq rl2
      rcases List.mem_cons.mp m with m | m
      · exact .inl (by rw [m, eB]; exact List.mem_cons_self)
      · rcases List.mem_append.mp (m' b m) with m | m
        · exact .inl (by rw [eB, eq]; exact List.mem_cons_of_mem _ m)
        · exact .inr m)
    have e5 : setAt (env2.set i (.ow o0)) i path (.lst os') = env2.set i (.ow (o0.put path (.lst os'))) := by
      unfold setAt
      rw [get_set es3]
      show (env2.set i (.ow o0)).set i (.ow (o0.put path (.lst os'))) = _
      rw [List.set_set]
    rw [e5] at g' s'
    exact k x' (.o z) _ F2 _ A' C'' g' (st4.trans s') r' h4
theorem sim_makeS {W : WX} {C : Addr} {n : Nat} {f : Fn} {ta : TA} {dv : DTV} (hn : ∀ os P PE, f os P PE → os.length = n + 1) (ha : SimV W ta dv) : SimE W (tMakeS C (spD (true :: vals n) f) (WE W) ta) (dMake true C f dv) :=
  sim_make (E := WE W) (fun _ _ _ _ _ h => h) hn ha
/-! ### the law's own head: what is made of the script -/
def itO (ns : List Int) : O := .lst (ns.map fun i => .fr (.int i))
def poolO (gs ss : List Int) (x y : Int) : O := .lst [itO gs, itO ss, .fr (.int x), .fr (.int y)]
def spLaw (K : PySem.W.Frag) : Sp := fun vs H Q _ => ∃ (a : Addr) (ns : List Int), vs = [.ref a] ∧ SqL K H a (ns.map V.int) ∧ ns.length ≤ 63 ∧ ∀ H', Q (.bl true) H'
theorem len_law {K : PySem.W.Frag} {vs : List V} {H : Hp} {Q : VK} {E : XK} (h : spLaw K vs H Q E) : vs.length = 1 := by obtain ⟨_, _, rfl, _⟩ := h; rfl
def noF : Hp := fun _ => none
/-- what makes the first object of the script -/
def spHead (K : PySem.W.Frag) (Ok : O → Prop) : Sp := fun vs H Q _ => ∃ (a : Addr) (ns : List Int), vs = [.ref a] ∧ SqL K H a (ns.map V.int) ∧ ns.length ≤ 63 ∧
  ∀ o x H' A, Ok o → RepO noF H' o x A → A.Nodup → Q x H'
theorem spHead_len {K : PySem.W.Frag} {Ok : O → Prop} {vs : List V} {H : Hp} {Q : VK} {E : XK} (h : spHead K Ok vs H Q E) : vs.length = 1 := by
  obtain ⟨a, ns, rfl, _⟩ := h
  rfl
/-- the law by its data reading -/
theorem law_ok {K : PySem.W.Frag} {Ok : O → Prop} {n : Nat} {N : List Str} {t : TS} {d : DTS} {vs : List V} {H : Hp} {Q : VK} {E : XK} (hN : N.length = n + 2) (hs : SimS WO t d)
    (hd : ∀ o, Ok o → d ⟨fun _ => False, fun r _ => r = .fr (.bl true), fun _ => False, fun _ => False, fun _ _ => False⟩ (.un :: .ow o :: List.replicate n .un))
    (h : spLaw K vs H Q E) : (tSeq (tAsg (tCall (spHead K Ok) [] E0 (tCons (tVar 0) tNil)) (gName 1)) t) { nx := fun _ H' => Q .non H', rt := Q } (L2.start N vs) H := by
  obtain ⟨a, ns, rfl, hS, hl, q⟩ := h
  have eσ : L2.start N [.ref a] = some (.ref a) :: none :: List.replicate n none := by
    unfold L2.start
    rw [hN]
    show some (V.ref a) :: List.replicate (n + 2 - 1) none = _
    rw [show n + 2 - 1 = n + 1 by omega]
    rfl
  rw [eσ]
  refine v_seq (v_asg (v_call ⟨.ref a, rfl, ?_⟩))
  refine ⟨a, ns, rfl, hS, hl, fun o x H' A hO hR nA => ?_⟩
  refine v_name ?_
  have g : Good noF H' (.un :: .ow o :: List.replicate n .un) (some (.ref a) :: some x :: List.replicate n none) A := by
    refine ⟨fun b u e => (nomatch (show (none : Option HO) = some u from e)), ?_, nA, fun _ _ => rfl⟩
    refine ⟨some (.ref a), _, [], A, rfl, rfl, rfl, some x, _, A, [], rfl, by rw [List.append_nil], ⟨x, rfl, hR⟩, ?_⟩
    have := repS_start (F := noF) (H := H') (ms := []) (os := []) (vs := []) (B := []) n trivial ⟨rfl, rfl⟩
    exact this
  refine hs noF H' _ _ A _ _ g (hd o hO) ⟨fun _ _ _ _ _ _ _ h => h.elim, fun _ _ _ _ _ _ _ h => h.elim, fun _ _ _ _ _ _ _ h => h.elim, fun v r env' σ' F2 H2 A2 C2 g2 s2 r2 e => ?_, fun _ _ _ _ _ _ _ _ _ _ _ h => h.elim⟩
  subst e
  have ev : v = .bl true := r2.1.2
  subst ev
  exact q H2

/-! ### min, max of a list -/
def dMinL : List D → (O → Prop) → Prop
  | [.lst ds], P => oth (asInts ds) fun ns => 0 < ns.length ∧ ∀ m, m ∈ ns → (∀ y, y ∈ ns → m ≤ y) → P (.fr (.int m))
  | _, _ => False
def dMaxL : List D → (O → Prop) → Prop
  | [.lst ds], P => oth (asInts ds) fun ns => 0 < ns.length ∧ ∀ m, m ∈ ns → (∀ y, y ∈ ns → y ≤ m) → P (.fr (.int m))
  | _, _ => False
section
variable {K : PySem.W.Frag}
theorem sim_minL : SimRL (rMin K) dMinL := by
  intro F H xs ds P Q s hx h q
  match ds, hx, h with
  | [.lst ds], hx, h =>
    obtain ⟨x, ex, a, us, ea, ha, ra⟩ := repPL_1 hx
    obtain ⟨ns, e1, h2⟩ := oth_ok h
    have := asInts_ok e1
    subst this
    exact ⟨a, ns, by rw [ex, ea], SqL.of (by rw [← ra.ints]; exact ha), h2.1, fun m hm hy => out_d s (d := .int m) rfl (h2.2 m hm hy) q⟩
theorem sim_maxL : SimRL (rMax K) dMaxL := by
  intro F H xs ds P Q s hx h q
  match ds, hx, h with
  | [.lst ds], hx, h =>
    obtain ⟨x, ex, a, us, ea, ha, ra⟩ := repPL_1 hx
    obtain ⟨ns, e1, h2⟩ := oth_ok h
    have := asInts_ok e1
    subst this
    exact ⟨a, ns, by rw [ex, ea], SqL.of (by rw [← ra.ints]; exact ha), h2.1, fun m hm hy => out_d s (d := .int m) rfl (h2.2 m hm hy) q⟩
end

/-! ### enumerate(list) -/
def enumD : Nat → List D → List D
  | _, [] => []
  | n, d :: r => .tup [.int (n : Nat), d] :: enumD (n + 1) r
theorem enumD_at : ∀ (ds : List D) (n i : Nat), (enumD n ds)[i]? = (ds[i]?).map fun d => .tup [.int ((n + i : Nat) : Int), d]
  | [], n, i => by
    show ([] : List D)[i]? = Option.map _ (([] : List D)[i]?)
    rw [List.getElem?_nil]
    rfl
  | d :: r, n, 0 => rfl
  | d :: r, n, i + 1 => by
    show (enumD (n + 1) r)[i]? = Option.map _ (r[i]?)
    rw [enumD_at r (n + 1) i, show n + 1 + i = n + (i + 1) by omega]
theorem enumD_len : ∀ (ds : List D) (n : Nat), (enumD n ds).length = ds.length
  | [], _ => rfl
  | d :: r, n => congrArg (· + 1) (enumD_len r (n + 1))
def dEnum (de : DTE) : DTI := fun env P X => de env (fun r env1 => force r env1 fun d env2 => match d with
  | .lst ds => P (enumD 0 ds) env2
  | _ => False) X
section
variable {W : WX} {K : PySem.W.Frag} {te : TE} {de : DTE}
theorem sim_enum (he : SimE W te de) : SimI W (iEnum K (tCons te tNil)) (dEnum de) := by
  intro F H env σ A Q P X g h xo k
  refine he F H env σ A _ _ X g h xo fun x r env1 F1 H1 A1 C1 g1 s1 rr1 h1 => ?_
  obtain ⟨F2, A2, d, env2, h2, g2, s2, rp⟩ := force_ok g1 rr1 h1
  cases d with
  | lst ds =>
    obtain ⟨a, xs, ex, hf, rl⟩ := rp
    refine ⟨a, xs, by rw [ex], SqL.of (g2.sub _ _ hf), k _ (enumD 0 ds) env2 F2 H1 A2 g2 (s1.trans s2) (fun F' H' i z1 z2 => ⟨fun d e => ?_, fun hl => ⟨xs, SqL.of (z2 _ _ (z1.ex rfl hf)), by rw [rl.length]; rw [enumD_len] at hl; exact hl⟩⟩) h2⟩
    rw [enumD_at] at e
    cases q : ds[i]? with
    | none => rw [q] at e; cases e
    | some d0 =>
      rw [q] at e
      cases e
      obtain ⟨x, hx, rx⟩ := rl.get q
      refine ⟨⟨xs, x, SqL.of (z2 _ _ (z1.ex rfl hf)), hx⟩, fun y H'' ⟨T, x', ey, nT, eH, e2⟩ => ?_⟩
      have := e2 xs (SqL.of (z2 _ _ (z1.ex rfl hf)))
      rw [hx] at this
      cases this
      refine ⟨upd F' T (.tup [.int (i : Nat), x]), by rw [eH]; exact ext_tup z2 nT, T, _, ey, upd_same, ?_⟩
      have m := (ext_tup (xs := [.int (i : Nat), x]) z2 nT).f
      refine ⟨.int (i : Nat), [x], rfl, ?_, x, [], rfl, (rx.mono z1).mono m, rfl⟩
      show V.int (i : Nat) = V.int ((0 + i : Nat) : Int)
      rw [Nat.zero_add]
  | _ => exact h2.elim
end

/-! ### zip of two lists, of two tuples -/
def zipD (xs ys : List D) : List D := List.zipWith (fun a b => .tup [a, b]) xs ys
theorem zipD_at {xs ys : List D} {i : Nat} {e : D} (h : (zipD xs ys)[i]? = some e) : ∃ a b, xs[i]? = some a ∧ ys[i]? = some b ∧ e = .tup [a, b] := by
  unfold zipD at h
  rw [List.getElem?_zipWith] at h
  cases qa : xs[i]? with
  | none => rw [qa] at h; cases h
  | some a =>
    cases qb : ys[i]? with
    | none => rw [qa, qb] at h; cases h
    | some b =>
      rw [qa, qb] at h
      cases h
      exact ⟨a, b, rfl, rfl, rfl⟩
theorem zipD_len {xs ys : List D} {i : Nat} (h : (zipD xs ys).length ≤ i) : xs.length ≤ i ∨ ys.length ≤ i := by
  unfold zipD at h
  rw [List.length_zipWith] at h
  omega
def dZip (dv : DTV) : DTI := fun env P X => dv env (fun ds env1 => match ds with
  | [.lst xs, .lst ys] => P (zipD xs ys) env1
  | [.tup xs, .tup ys] => P (zipD xs ys) env1
  | _ => False) X
section
variable {W : WX} {K : PySem.W.Frag} {ta : TA} {dv : DTV}
theorem sim_zip (ha : SimV W ta dv) : SimI W (RZ.iZipA K ta) (dZip dv) := by
  intro F H env σ A Q P X g h xo k
  refine ha F H env σ A _ _ X g h xo fun vs ds env1 F1 H1 A1 g1 s1 rl h1 => ?_
  match ds, h1, rl with
  | [.lst xs, .lst ys], h1, ⟨x, r, ex, ⟨a, us, ea, ha', ra⟩, ⟨y, r2, ey, ⟨b, ws, eb, hb', rb⟩, er⟩⟩ =>
    refine ⟨a, b, us, ws, by rw [ex, ey, show r2 = [] from er, ea, eb], .inl ⟨SqL.of (g1.sub _ _ ha'), SqL.of (g1.sub _ _ hb'), k _ (zipD xs ys) env1 F1 H1 A1 g1 s1 (fun F' H' i z1 z2 => ⟨fun d e => ?_, fun hl => ?_⟩) h1⟩⟩
    · obtain ⟨d1, d2, q1, q2, rfl⟩ := zipD_at e
      obtain ⟨x1, hx1, rx1⟩ := ra.get q1
      obtain ⟨x2, hx2, rx2⟩ := rb.get q2
      refine ⟨⟨us, ws, x1, x2, SqL.of (z2 _ _ (z1.ex rfl ha')), SqL.of (z2 _ _ (z1.ex rfl hb')), hx1, hx2⟩, fun v H'' ⟨T, x1', x2', ev, nT, eH, e1, e2⟩ => ?_⟩
      have t1 := e1 us (SqL.of (z2 _ _ (z1.ex rfl ha')))
      have t2 := e2 ws (SqL.of (z2 _ _ (z1.ex rfl hb')))
      rw [hx1] at t1
      rw [hx2] at t2
      cases t1
      cases t2
      have m := (ext_tup (xs := [x1, x2]) z2 nT).f
      exact ⟨upd F' T (.tup [x1, x2]), by rw [eH]; exact ext_tup z2 nT, T, _, ev, upd_same, x1, [x2], rfl, (rx1.mono z1).mono m, x2, [], rfl, (rx2.mono z1).mono m, rfl⟩
    · exact ⟨us, ws, SqL.of (z2 _ _ (z1.ex rfl ha')), SqL.of (z2 _ _ (z1.ex rfl hb')), by rw [ra.length, rb.length]; exact zipD_len hl⟩
  | [.tup xs, .tup ys], h1, ⟨x, r, ex, ⟨a, us, ea, ha', ra⟩, ⟨y, r2, ey, ⟨b, ws, eb, hb', rb⟩, er⟩⟩ =>
    refine ⟨a, b, us, ws, by rw [ex, ey, show r2 = [] from er, ea, eb], .inr ⟨SqT.of (g1.sub _ _ ha'), SqT.of (g1.sub _ _ hb'), k _ (zipD xs ys) env1 F1 H1 A1 g1 s1 (fun F' H' i z1 z2 => ⟨fun d e => ?_, fun hl => ?_⟩) h1⟩⟩
    · obtain ⟨d1, d2, q1, q2, rfl⟩ := zipD_at e
      obtain ⟨x1, hx1, rx1⟩ := ra.get q1
      obtain ⟨x2, hx2, rx2⟩ := rb.get q2
      refine ⟨⟨us, ws, x1, x2, SqT.of (z2 _ _ (z1.ex rfl ha')), SqT.of (z2 _ _ (z1.ex rfl hb')), hx1, hx2⟩, fun v H'' ⟨T, x1', x2', ev, nT, eH, e1, e2⟩ => ?_⟩
      have t1 := e1 us (SqT.of (z2 _ _ (z1.ex rfl ha')))
      have t2 := e2 ws (SqT.of (z2 _ _ (z1.ex rfl hb')))
      rw [hx1] at t1
      rw [hx2] at t2
      cases t1
      cases t2
      have m := (ext_tup (xs := [x1, x2]) z2 nT).f
      exact ⟨upd F' T (.tup [x1, x2]), by rw [eH]; exact ext_tup z2 nT, T, _, ev, upd_same, x1, [x2], rfl, (rx1.mono z1).mono m, x2, [], rfl, (rx2.mono z1).mono m, rfl⟩
    · exact ⟨us, ws, SqT.of (z2 _ _ (z1.ex rfl ha')), SqT.of (z2 _ _ (z1.ex rfl hb')), by rw [ra.length, rb.length]; exact zipD_len hl⟩
end

/-! ### name op= e, whole numbers -/
theorem aug_eq {i : Nat} {te : TE} {ti : TIp} : tAug i te ti = tAsg (tOp ti (tVar i) te) (gName i) := rfl
theorem simr_ip {f : Int → Int → Int} : SimR2 (ipI f) (dI0 fun i j => .int (f i j)) := by
  intro F H x y d e P Q s hx hy h q
  match d, e, hx, hy, h with
  | .int i, .int j, hx, hy, h => exact ⟨i, j, hx, hy, out_d s (d := .int (f i j)) rfl h q⟩
section
variable {W : WX} {te : TE} {de : DTE} {f : Int → Int → Int} {i : Nat}
def dAug (f : Int → Int → Int) (i : Nat) (de : DTE) : DTS := dAsg (dOp (dI0 fun i j => .int (f i j)) (dVar i) de) (dName i)
theorem sim_aug (he : SimE W te de) : SimS W (tAug i te (ipI f)) (dAug f i de) := by
  rw [aug_eq]
  exact sim_asg (sim_op simr_ip (SimP.e sim_var) he) sim_name
end

/-! ### dicts: {}, d[k], k in d, d.get; keys are numbers and texts, or tuples of these -/
def dDct0 (t : Bool) : DTE := fun env P _ => P (.o (.dct t [])) env
def D.keyS : D → Option Key
  | .int i => some (.inl i)
  | .str s => some (.inr s)
  | _ => none
def keysL : List D → Option (List Key)
  | [] => some []
  | d :: r => (match d.keyS with
    | some k => (match keysL r with
      | some ks => some (k :: ks)
      | none => none)
    | none => none)
/-- a key, in a dict of this kind -/
def D.key (t : Bool) (d : D) : Option (List Key) := match t with
  | false => d.keyS.map fun k => [k]
  | true => (match d with
    | .tup ds => keysL ds
    | _ => none)
def kD : Key → D
  | .inl i => .int i
  | .inr s => .str s
def keyD (t : Bool) (k : List Key) : D := match t with
  | true => .tup (k.map kD)
  | false => (match k with
    | [k] => kD k
    | _ => .non)
def getM {α : Type} : List (List Key × α) → List Key → Option α
  | [], _ => none
  | (k, d) :: r, j => if k = j then some d else getM r j
theorem keyS_ok {F : Hp} {e : D} {y : V} {k : Key} (h : e.keyS = some k) (r : Rep F e y) : y = kV k := by
  cases e <;> cases h <;> exact r
theorem keyS_okP {F H : Hp} {e : D} {y : V} {k : Key} (h : e.keyS = some k) (r : RepP F H e y) : y = kV k := by
  cases e <;> cases h <;> exact r
theorem keysL_ok {F : Hp} : ∀ {ds : List D} {xs : List V} {ks : List Key}, keysL ds = some ks → RepL F ds xs → xs = ks.map kV
  | [], xs, ks, e, h => by
    cases e
    exact h
  | d :: r, xs, ks, e, ⟨x, t, ex, hx, ht⟩ => by
    unfold keysL at e
    cases q : d.keyS with
    | none => rw [q] at e; cases e
    | some k =>
      rw [q] at e
      dsimp only at e
      cases q2 : keysL r with
      | none => rw [q2] at e; cases e
      | some ks' =>
        rw [q2] at e
        cases e
        rw [ex, keyS_ok q hx, keysL_ok q2 ht]
        rfl
theorem getM_ok {F : Hp} {k : List Key} : ∀ {kds : List (List Key × D)} {kvs : List (List Key × V)}, RepM F kds kvs → (∀ d, getM kds k = some d → ∃ v, valV kvs k = some v ∧ Rep F d v) ∧ (getM kds k = none → valV kvs k = none)
  | [], kvs, h => by
    have h : kvs = [] := h
    subst h
    exact ⟨(fun d e => nomatch e), (fun _ => rfl)⟩
  | (j, d0) :: r, kvs, ⟨x, t, ex, rx, rt⟩ => by
    subst ex
    have ih := getM_ok (k := k) rt
    unfold getM valV
    rw [List.find?_cons]
    by_cases e : j = k
    · rw [if_pos e, decide_eq_true e]
      exact ⟨(fun d q => ⟨x, rfl, Option.some.inj q ▸ rx⟩), (fun q => nomatch q)⟩
    · rw [if_neg e, decide_eq_false e]
      exact ih
theorem val_one (k : Key) : ∀ k0 : List (Key × V), valV (k0.map fun p => ([p.1], p.2)) [k] = valV k0 k
  | [] => rfl
  | (j, v) :: r => by
    have ih := val_one k r
    unfold valV at ih ⊢
    rw [List.map_cons, List.find?_cons, List.find?_cons]
    by_cases e : j = k
    · rw [decide_eq_true e, decide_eq_true (by rw [e])]
      rfl
    · rw [decide_eq_false e, decide_eq_false (fun z => e (List.cons.inj z).1)]
      exact ih
/-- what the dict holds at the key -/
theorem dget_of {F H : Hp} {t : Bool} {kds : List (List Key × D)} {x y : V} {e : D} {k : List Key} (s : Same F H) (hx : RepP F H (.dct t kds) x) (hy : RepP F H e y) (ek : e.key t = some k) :
    ∃ a r, x = .ref a ∧ IsD H a ∧ DGet H a y r ∧ (∀ d, getM kds k = some d → ∃ v, r = some v ∧ Rep F d v) ∧ (getM kds k = none → r = none) := by
  obtain ⟨a, o, kvs, ea, ha, c, rm⟩ := hx
  have g := getM_ok (k := k) rm
  cases t with
  | false =>
    obtain ⟨k0, c1, c2⟩ := c
    subst c2
    have rd := rd_core ha c1
    unfold D.key at ek
    cases q : e.keyS with
    | none => rw [q] at ek; cases ek
    | some k1 =>
      rw [q] at ek
      cases ek
      rw [val_one] at g
      refine ⟨a, valV k0 k1, ea, .inl ⟨k0, rd⟩, .inl ⟨k0, k1, rd, keyS_okP q hy, rfl⟩, fun d h => ?_, fun h => g.2 h⟩
      obtain ⟨v, h1, h2⟩ := g.1 d h
      exact ⟨v, h1, h2⟩
  | true =>
    have rd := rd_core ha c
    cases e with
    | tup ds =>
      obtain ⟨b, xs, eb, hb, rl⟩ := hy
      refine ⟨a, valV kvs k, ea, .inr ⟨kvs, rd⟩, .inr ⟨kvs, k, b, rd, eb, ?_, rfl⟩, fun d h => ?_, fun h => g.2 h⟩
      · rw [← keysL_ok ek rl]
        exact s _ _ hb
      · obtain ⟨v, h1, h2⟩ := g.1 d h
        exact ⟨v, h1, h2⟩
    | _ => cases ek
def rDGet : R2 := fun x y H Q => ∃ a v, x = .ref a ∧ DGet H a y (some v) ∧ Q v H
def rDIn : R2 := fun y x H Q => ∃ a o, x = .ref a ∧ DGet H a y o ∧ Q (.bl o.isSome) H
def rDNotIn : R2 := fun y x H Q => ∃ a o, x = .ref a ∧ DGet H a y o ∧ Q (.bl (!o.isSome)) H
theorem dget_op {td ty : TE} : tDGet td ty = tOp rDGet td ty := rfl
theorem din_op {td ty : TE} : tDIn ty td = tOp rDIn ty td := rfl
theorem dnotIn_op {td ty : TE} : tDNotIn ty td = tOp rDNotIn ty td := rfl
def dDGet : D → D → (O → Prop) → Prop
  | .dct t kds, e, P => oth (e.key t) fun k => oth (getM kds k) fun d => P (.fr d)
  | _, _, _ => False
def dDIn (neg : Bool) : D → D → (O → Prop) → Prop
  | e, .dct t kds, P => oth (e.key t) fun k => P (.fr (.bl (if neg then !(getM kds k).isSome else (getM kds k).isSome)))
  | _, _, _ => False
section
variable {W : WX}
theorem sim_dctK : SimE W tDNewK (dDct0 false) := by
  intro F H env σ A Q P X g h xo k
  intro p np
  have x := ext_own (o := .dK []) g.sub np
  refine k (.ref p) (.o (.dct false [])) env _ _ A [p] (x.good g) x.step (.new g x (o := .dct false []) ⟨p, .dK [], [], [], rfl, rfl, upd_same, ⟨[], rfl, rfl⟩, rfl, rfl⟩ (List.nodup_cons.mpr ⟨List.not_mem_nil, List.nodup_nil⟩) fun a m => ?_) h
  rw [List.mem_singleton.mp m]
  exact g.sub.free np
theorem sim_dctT : SimE W tDNewT (dDct0 true) := by
  intro F H env σ A Q P X g h xo k
  intro p np
  have x := ext_own (o := .dT []) g.sub np
  refine k (.ref p) (.o (.dct true [])) env _ _ A [p] (x.good g) x.step (.new g x (o := .dct true []) ⟨p, .dT [], [], [], rfl, rfl, upd_same, rfl, rfl, rfl⟩ (List.nodup_cons.mpr ⟨List.not_mem_nil, List.nodup_nil⟩) fun a m => ?_) h
  rw [List.mem_singleton.mp m]
  exact g.sub.free np
theorem simr_dget : SimR2 rDGet dDGet := by
  intro F H x y d e P Q s hx hy h q
  match d, hx, h with
  | .dct t kds, hx, h =>
    obtain ⟨k, ek, h2⟩ := oth_ok h
    obtain ⟨d, ed, h3⟩ := oth_ok h2
    obtain ⟨a, r, ea, _, g, g1, _⟩ := dget_of s hx hy ek
    obtain ⟨v, ev, rv⟩ := g1 d ed
    subst ev
    exact ⟨a, v, ea, g, out_d s rv h3 q⟩
theorem din_some {F : Hp} {kds : List (List Key × D)} {k : List Key} {r : Option V} (g1 : ∀ d, getM kds k = some d → ∃ v, r = some v ∧ Rep F d v) (g2 : getM kds k = none → r = none) : r.isSome = (getM kds k).isSome := by
  cases z : getM kds k with
  | none => rw [g2 z]; rfl
  | some d => obtain ⟨v, ev, _⟩ := g1 d z; rw [ev]; rfl
theorem simr_din : SimR2 rDIn (dDIn false) := by
  intro F H y x e d P Q s hy hx h q
  match d, hx, h with
  | .dct t kds, hx, h =>
    obtain ⟨k, ek, h2⟩ := oth_ok h
    obtain ⟨a, r, ea, _, g, g1, g2⟩ := dget_of s hx hy ek
    refine ⟨a, r, ea, g, ?_⟩
    rw [din_some g1 g2]
    exact out_d s (d := .bl (getM kds k).isSome) rfl h2 q
theorem simr_dnotIn : SimR2 rDNotIn (dDIn true) := by
  intro F H y x e d P Q s hy hx h q
  match d, hx, h with
  | .dct t kds, hx, h =>
    obtain ⟨k, ek, h2⟩ := oth_ok h
    obtain ⟨a, r, ea, _, g, g1, g2⟩ := dget_of s hx hy ek
    refine ⟨a, r, ea, g, ?_⟩
    rw [din_some g1 g2]
    exact out_d s (d := .bl (!(getM kds k).isSome)) rfl h2 q
end
/-! d.get(k), d.get(k, x): of slots and constants -/
def asFr : R → Option D
  | .o (.fr d) => some d
  | _ => none
theorem asFr_ok {F H : Hp} {σ : L2.St} {A C : List Addr} {r : R} {x : V} {d : D} (e : asFr r = some d) (h : RepR F H σ A r x C) : Rep F d x := by
  unfold asFr at e
  split at e
  · cases e; exact h.1.2
  · cases e
def isDc : Option D → Bool
  | some (.dct _ _) => true
  | _ => false
def dDGet1 (da dk : DTE) : DTE := fun env P X => da env (fun r1 env1 => isDc (peek r1 env1) = true ∧ dk env1 (fun r2 env2 => oth (peek r1 env2) fun d => oth (peek r2 env2) fun e => match d with
  | .dct t kds => oth (e.key t) fun k => (match getM kds k with
    | some v => P (.d v) env2
    | none => P (.d .non) env2)
  | _ => False) X) X
def dDGet2 (da dk dx : DTE) : DTE := fun env P X => da env (fun r1 env1 => isDc (peek r1 env1) = true ∧ dk env1 (fun r2 env2 => dx env2 (fun r3 env3 => oth (peek r1 env3) fun d => oth (peek r2 env3) fun e => oth (asFr r3) fun z => match d with
  | .dct t kds => oth (e.key t) fun k => (match getM kds k with
    | some v => P (.d v) env3
    | none => P (.d z) env3)
  | _ => False) X) X) X
theorem isDc_ok {F H : Hp} {env : DEnv} {σ : L2.St} {A C : List Addr} {r : R} {x : V} (g : Good F H env σ A) (hr : RepR F H σ A r x C) (h : isDc (peek r env) = true) : ∃ a, x = .ref a ∧ IsD H a := by
  cases e : peek r env with
  | none => rw [e] at h; cases h
  | some d =>
    rw [e] at h
    cases d with
    | dct t kds =>
      obtain ⟨a, o, kvs, ea, ha, c, rm⟩ := peek_ok g hr e
      refine ⟨a, ea, ?_⟩
      cases t with
      | true => exact .inr ⟨_, rd_core ha c⟩
      | false => obtain ⟨k0, c1, _⟩ := c; exact .inl ⟨_, rd_core ha c1⟩
    | _ => cases h
theorem simp_dget1 {ta ti : TE} {da di : DTE} (ha : SimP ta da) (hi : SimP ti di) : SimP (tDGet1 ta ti) (dDGet1 da di) := by
  intro F H env σ A Q P X g h k
  refine ha F H env σ A _ _ X g h fun x r1 F1 H1 C1 x1 rr1 h1 => ?_
  have g1 := x1.good g
  obtain ⟨h0, h1⟩ := h1
  obtain ⟨a, ex, isd⟩ := isDc_ok g1 rr1 h0
  refine ⟨a, ex, isd, ?_⟩
  refine hi F1 H1 env σ A _ _ X g1 h1 fun y r2 F2 H2 C2 x2 rr2 h2 => ?_
  have g2 := x2.good g1
  obtain ⟨d, ed, h3⟩ := oth_ok h2
  obtain ⟨e, ee, h4⟩ := oth_ok h3
  cases d with
  | dct t kds =>
    obtain ⟨ky, ek, h5⟩ := oth_ok h4
    obtain ⟨a', r, ea, _, gg, q1, q2⟩ := dget_of g2.sub (peek_ok g2 (rr1.ext x2) ed) (peek_ok g2 rr2 ee) ek
    rw [ex] at ea
    cases ea
    refine ⟨r, gg, ?_⟩
    have xx := (x1.trans x2).noC (C' := []) fun _ h => nomatch h
    cases z : getM kds ky with
    | none =>
      rw [z] at h5
      rw [q2 z]
      exact k .non (.d .non) F2 H2 [] xx (.dat g2 (d := .non) rfl) h5
    | some v =>
      rw [z] at h5
      obtain ⟨w, ew, rw'⟩ := q1 v z
      rw [ew]
      exact k w (.d v) F2 H2 [] xx (.dat g2 rw') h5
  | _ => exact h4.elim
theorem simp_dget2 {ta ti tx : TE} {da di dx : DTE} (ha : SimP ta da) (hi : SimP ti di) (hx : SimP tx dx) : SimP (tDGet2 ta ti tx) (dDGet2 da di dx) := by
  intro F H env σ A Q P X g h k
  refine ha F H env σ A _ _ X g h fun x r1 F1 H1 C1 x1 rr1 h1 => ?_
  have g1 := x1.good g
  obtain ⟨h0, h1⟩ := h1
  obtain ⟨a, ex, isd⟩ := isDc_ok g1 rr1 h0
  refine ⟨a, ex, isd, ?_⟩
  refine hi F1 H1 env σ A _ _ X g1 h1 fun y r2 F2 H2 C2 x2 rr2 h2 => ?_
  have g2 := x2.good g1
  refine hx F2 H2 env σ A _ _ X g2 h2 fun u r3 F3 H3 C3 x3 rr3 h3 => ?_
  have g3 := x3.good g2
  obtain ⟨d, ed, h4⟩ := oth_ok h3
  obtain ⟨e, ee, h5⟩ := oth_ok h4
  obtain ⟨z0, ez, h6⟩ := oth_ok h5
  have rz := asFr_ok ez rr3
  cases d with
  | dct t kds =>
    obtain ⟨ky, ek, h7⟩ := oth_ok h6
    obtain ⟨a', r, ea, _, gg, q1, q2⟩ := dget_of g3.sub (peek_ok g3 ((rr1.ext x2).ext x3) ed) (peek_ok g3 (rr2.ext x3) ee) ek
    rw [ex] at ea
    cases ea
    refine ⟨r, gg, ?_⟩
    have xx := ((x1.trans x2).trans x3).noC (C' := []) fun _ h => nomatch h
    cases z : getM kds ky with
    | none =>
      rw [z] at h7
      rw [q2 z]
      exact k u (.d z0) F3 H3 [] xx (.dat g3 rz) h7
    | some v =>
      rw [z] at h7
      obtain ⟨w, ew, rw'⟩ := q1 v z
      rw [ew]
      exact k w (.d v) F3 H3 [] xx (.dat g3 rw') h7
  | _ => exact h6.elim
/-! a tuple of parts that leave the slots -/
abbrev DTVP := DEnv → (List D → DEnv → Prop) → DX → Prop
def SimVP (t : TA) (d : DTVP) : Prop := ∀ (F H : Hp) (env : DEnv) (σ : L2.St) (A : List Addr) (Q : List V → Hp → Prop) (P : List D → DEnv → Prop) (X : DX), Good F H env σ A → d env P X →
  (∀ xs ds F' H', Ext F H F' H' [] → RepL F' ds xs → P ds env → Q xs H') → t σ H Q
def dNilP : DTVP := fun env P _ => P [] env
def dConsP (da : DTE) (dr : DTVP) : DTVP := fun env P X => da env (fun r env1 => oth (asFr r) fun d => dr env1 (fun ds env2 => P (d :: ds) env2) X) X
def dTupP (dv : DTVP) : DTE := fun env P X => dv env (fun ds env1 => ds.length ≤ sizeLine ∧ P (.d (.tup ds)) env1) X
theorem sim_nilP : SimVP tNil dNilP := fun F H env σ A Q P X g h k => k [] [] F H (.refl g.sub) rfl h
theorem sim_consP {ta : TE} {tr : TA} {da : DTE} {dr : DTVP} (ha : SimP ta da) (hr : SimVP tr dr) : SimVP (tCons ta tr) (dConsP da dr) := by
  intro F H env σ A Q P X g h k
  refine ha F H env σ A _ _ X g h fun x r1 F1 H1 C1 x1 rr1 h1 => ?_
  have g1 := x1.good g
  obtain ⟨d, ed, h2⟩ := oth_ok h1
  refine hr F1 H1 env σ A _ _ X g1 h2 fun xs ds F2 H2 x2 rl h3 => ?_
  exact k (x :: xs) (d :: ds) F2 H2 ((x1.trans x2).noC fun _ h => nomatch h) ⟨x, xs, rfl, (asFr_ok ed rr1).mono x2.f, rl⟩ h3
theorem simp_tup {tr : TA} {dv : DTVP} (ha : SimVP tr dv) : SimP (tTup tr) (dTupP dv) := by
  intro F H env σ A Q P X g h k
  refine ha F H env σ A _ _ X g h fun xs ds F1 H1 x1 rl h1 => ?_
  have g1 := x1.good g
  refine ⟨by rw [rl.length]; exact h1.1, fun p np => ?_⟩
  have x := ext_tup (xs := xs) g1.sub np
  exact k (.ref p) (.d (.tup ds)) _ _ [] ((x1.trans x).noC fun _ h => nomatch h) (.dat (x.good g1) (d := .tup ds) ⟨p, xs, rfl, upd_same, rl.mono x.f⟩) h1.2

/-! ### d[k] = v for a v that owns nothing -/
def putM (kos : List (List Key × O)) (k : List Key) (o : O) : List (List Key × O) :=
  if (kos.any fun kv => decide (kv.1 = k)) = true then kos.map (fun kv => if kv.1 = k then (kv.1, o) else kv) else kos ++ [(k, o)]
theorem repOM_any {F H : Hp} {k : List Key} : ∀ {kos : List (List Key × O)} {kvs : List (List Key × V)} {B : List Addr}, RepOM F H kos kvs B → (kvs.any fun kv => decide (kv.1 = k)) = (kos.any fun kv => decide (kv.1 = k))
  | [], _, _, ⟨e, _⟩ => by rw [e]; rfl
  | (j, o) :: os, _, _, ⟨x, r, B, C, e, _, _, t⟩ => by rw [e, List.any_cons, List.any_cons, repOM_any t]
theorem repOM_len {F H : Hp} : ∀ {kos : List (List Key × O)} {kvs : List (List Key × V)} {B : List Addr}, RepOM F H kos kvs B → kvs.length = kos.length
  | [], _, _, ⟨e, _⟩ => by rw [e]; rfl
  | (j, o) :: os, _, _, ⟨x, r, B, C, e, _, _, t⟩ => by rw [e, List.length_cons, List.length_cons, repOM_len t]
theorem repOM_map {F H : Hp} {k : List Key} {d : D} {v : V} (rv : Rep F d v) : ∀ {kos : List (List Key × O)} {kvs : List (List Key × V)} {B : List Addr}, RepOM F H kos kvs B → ∃ B', RepOM F H (kos.map fun kv => if kv.1 = k then (kv.1, .fr d) else kv) (kvs.map fun kv => if kv.1 = k then (kv.1, v) else kv) B' ∧ B'.Sublist B
  | [], _, _, ⟨e, eB⟩ => by subst e; subst eB; exact ⟨[], ⟨rfl, rfl⟩, .slnil⟩
  | (j, o) :: os, _, _, ⟨x, r, B, C, e, eB, ro, t⟩ => by
    subst e
    subst eB
    obtain ⟨B', h1, h2⟩ := repOM_map (k := k) rv t
    rw [List.map_cons, List.map_cons]
    by_cases z : j = k
    · rw [if_pos z, if_pos z]
      exact ⟨B', ⟨v, _, [], B', rfl, rfl, ⟨rfl, rv⟩, h1⟩, h2.trans (List.sublist_append_right _ _)⟩
    · rw [if_neg z, if_neg z]
      exact ⟨B ++ B', ⟨x, _, B, B', rfl, rfl, ro, h1⟩, (List.Sublist.refl B).append h2⟩
theorem repOM_snoc {F H : Hp} {k : List Key} {d : D} {v : V} (rv : Rep F d v) : ∀ {kos : List (List Key × O)} {kvs : List (List Key × V)} {B : List Addr}, RepOM F H kos kvs B → RepOM F H (kos ++ [(k, .fr d)]) (kvs ++ [(k, v)]) B
  | [], _, _, ⟨e, eB⟩ => by subst e; subst eB; exact ⟨v, [], [], [], rfl, rfl, ⟨rfl, rv⟩, rfl, rfl⟩
  | (j, o) :: os, _, _, ⟨x, r, B, C, e, eB, ro, t⟩ => by
    subst e
    exact ⟨x, _, B, C, rfl, eB, ro, repOM_snoc rv t⟩
theorem repOM_put {F H : Hp} {k : List Key} {d : D} {v : V} (rv : Rep F d v) {kos : List (List Key × O)} {kvs : List (List Key × V)} {B : List Addr} (h : RepOM F H kos kvs B) : ∃ B', RepOM F H (putM kos k (.fr d)) (putK kvs k v) B' ∧ B'.Sublist B := by
  unfold putM putK
  rw [repOM_any h]
  split
  · exact repOM_map rv h
  · exact ⟨B, repOM_snoc rv h, .refl _⟩
def gDPut (td ty : TE) : TG := fun v σ H Q => td σ H fun x H1 => ty σ H1 fun y H2 => ∃ a H3, x = .ref a ∧ DPut H2 a y v H3 ∧ Q σ H3
theorem dput_asg {td ty tv : TE} : sDPut td ty tv = tAsg tv (gDPut td ty) := rfl
def dDPut (da dk : DTE) : DG := fun o env P X => da env (fun r1 env1 => dk env1 (fun r2 env2 => match r1, peek r2 env2 with
  | .p i path, some e => oth (contAt env2 i path) fun u => (match u, o with
    | .dct t kos, .fr d => oth (e.key t) fun k => kos.length < sizeLine ∧ P (setAt env2 i path (.dct t (putM kos k (.fr d))))
    | _, _ => False)
  | _, _ => False) X) X
theorem put_one (k : Key) (v : V) (k0 : List (Key × V)) : putK (k0.map fun p => ([p.1], p.2)) [k] v = (putK k0 k v).map fun p => ([p.1], p.2) := by
  unfold putK
  have e1 : ((k0.map fun p => (([p.1] : List Key), p.2)).any fun kv => decide (kv.1 = [k])) = (k0.any fun kv => decide (kv.1 = k)) := by
    rw [List.any_map]
    congr 1
    funext p
    show decide ([p.1] = [k]) = decide (p.1 = k)
    rw [Bool.eq_iff_iff]
    simp
  rw [e1]
  split
  · rw [List.map_map, List.map_map]
    refine List.map_congr_left fun p _ => ?_
    show (if [p.1] = [k] then ([p.1], v) else ([p.1], p.2)) = _
    by_cases e : p.1 = k
    · rw [if_pos (by rw [e])]
      show _ = ((fun p : Key × V => (([p.1] : List Key), p.2)) (if p.1 = k then (p.1, v) else p))
      rw [if_pos e]
    · rw [if_neg (fun z => e (List.cons.inj z).1)]
      show _ = ((fun p : Key × V => (([p.1] : List Key), p.2)) (if p.1 = k then (p.1, v) else p))
      rw [if_neg e]
  · rw [List.map_append]
    rfl
/-- the heap behind d[k] = v -/
theorem dput_of {F H : Hp} {t : Bool} {kvs : List (List Key × V)} {o : HO} {a : Addr} {y : V} {e : D} {k : List Key} (s : Same F H) (ha : H a = some o) (c : DObj t kvs o) (hy : RepP F H e y) (ek : e.key t = some k) (l : kvs.length < sizeLine) (v : V) :
    ∃ o', DPut H a y v (upd H a o') ∧ DObj t (putK kvs k v) o' := by
  cases t with
  | false =>
    obtain ⟨k0, c1, c2⟩ := c
    subst c1
    subst c2
    rw [List.length_map] at l
    unfold D.key at ek
    cases q : e.keyS with
    | none => rw [q] at ek; cases ek
    | some k1 =>
      rw [q] at ek
      cases ek
      exact ⟨.dK (putK k0 k1 v), .inl ⟨k0, k1, ha, keyS_okP q hy, l, rfl⟩, putK k0 k1 v, rfl, put_one k1 v k0⟩
  | true =>
    have c' : o = .dT kvs := c
    subst c'
    cases e with
    | tup ds =>
      obtain ⟨b, xs, eb, hb, rl⟩ := hy
      refine ⟨.dT (putK kvs k v), .inr ⟨kvs, k, b, ha, eb, ?_, l, rfl⟩, rfl⟩
      rw [← keysL_ok ek rl]
      exact s _ _ hb
    | _ => cases ek
theorem sim_dput {W : WX} {ta ti : TE} {da di : DTE} (ha : SimP ta da) (hi : SimP ti di) : SimG W [] (gDPut ta ti) (dDPut da di) := by
  intro F H env σ A C x o Q P X g hr h xo k
  refine ha F H env σ A _ _ X g h fun v r1 F1 H1 C1 x1 rr1 h1 => ?_
  have g1 := x1.good g
  refine hi F1 H1 env σ A _ _ X g1 h1 fun w r2 F2 H2 C2 x2 rr2 h2 => ?_
  have g2 := x2.good g1
  have x12 := x1.trans x2
  have hr2 := (hr.ext x1).ext x2
  cases r1 with
  | o _ => exact h2.elim
  | p i path =>
    cases e2 : peek r2 env with
    | none => rw [e2] at h2; exact h2.elim
    | some d2 =>
      rw [e2] at h2
      have rp := peek_ok g2 rr2 e2
      obtain ⟨u, eu, h4⟩ := oth_ok h2
      match u, o, h4, hr2, eu with
      | .dct t kos, .fr d, h4, hr2, eu =>
        obtain ⟨key, ek, h4⟩ := oth_ok h4
        obtain ⟨⟨eC, rv⟩, _, _⟩ := hr2
        subst eC
        obtain ⟨hC1, y, hy, hv⟩ := rr1.ext x2
        obtain ⟨s0, o0, q1, q2, q3⟩ := contAt_ok eu
        obtain ⟨B0, R0, k1, k2, _⟩ := g2.rep.focus q1 q2 q3 hy hv
        obtain ⟨a, oh, kvs, Bc, ea, eB, hxs, cc, rl⟩ := k1
        obtain ⟨o', dp, c'⟩ := dput_of g2.sub hxs cc rp ek (by rw [repOM_len rl]; exact h4.1) x
        refine ⟨a, _, ea, dp, ?_⟩
        have naF : F2 a = none := g2.dis a (k2.mem_iff.mpr (by rw [eB]; exact List.mem_cons_self))
        obtain ⟨A', g', s'⟩ := g2.write (C := []) (H' := upd H2 a o') (o2 := .dct t (putM kos key (.fr d))) eu ⟨y, hy, hv⟩ (fun _ m => nomatch m) List.nodup_nil (same_own g2.sub naF) (fun b => upd_free) (fun B R b1 b2 b3 => by
          obtain ⟨a', oh', kvs', Bc', ea', eB', hxs', cc', rl'⟩ := b1
          rw [ea] at ea'
          cases ea'
          rw [hxs] at hxs'
          cases hxs'
          have ek' := cc.uniq cc'
          subst ek'
          have ndB := nodup_l b3
          rw [eB'] at ndB
          have naB := (List.nodup_cons.mp ndB).1
          refine ⟨fun b o e n => by rw [upd_ne (fun z => n (by rw [z, eB']; exact List.mem_cons_self))]; exact e, ?_⟩
          have st : RepOM F2 (upd H2 a o') kos kvs Bc' := RepOM.stay ⟨.refl _, fun b m o e => by rw [upd_ne (show b ≠ a from fun z => naB (by rw [← z]; exact m))]; exact e⟩ rl'
          obtain ⟨B'', f1, f2⟩ := repOM_put (k := key) rv st
          refine ⟨a :: B'', ⟨a, _, _, B'', ea, rfl, upd_same, c', f1⟩, List.nodup_cons.mpr ⟨fun m => naB (f2.subset m), (List.nodup_cons.mp ndB).2.sublist f2⟩, fun b m => .inl ?_⟩
          rw [eB']
          rcases List.mem_cons.mp m with m | m
          · rw [m]; exact List.mem_cons_self
          · exact List.mem_cons_of_mem _ (f2.subset m))
        exact k _ σ F2 _ A' g' (Step.trans (⟨x12.f, fun a o e _ f => x12.hx a o e f, fun a z => x12.h.free z, fun a m => .inl m, fun a h => (x12.fnew a h).elim .inl fun z => .inr (.inr z), fun _ _ h => ⟨_, h, rfl⟩⟩ : Step F H env σ (A ++ []) F2 H2 env σ (A ++ [])) s') rfl (fun _ _ => rfl) h4.2

/-! ### try: .. except c: .. -/
def dTryOnly (M : Value → Option Bool) (db dh : DTS) : DTS := fun DD env => db { DD with ex := fun e env1 => oth (M e.cls) fun b => if b = true then dh DD env1 else DD.ex e env1 } env
theorem sim_tryOnly {K : PySem.W.Frag} {c : Value} {M : Value → Option Bool} {tb : WX → TS} {th : TS} {db dh : DTS} {W : WX} (hb : ∀ W, SimS W (tb W) db) (hh : SimS W th dh) (hM : ∀ v b, M v = some b → PySem.W.exmOne K v c = some b) : SimS W (fun D σ H => tb (wOnly K c (fun _ _ _ => th) W D) D σ H) (dTryOnly M db dh) := by
  intro F H env σ A E DD g h eo
  refine hb _ F H env σ A E _ g h ⟨eo.nx, eo.bk, eo.ct, eo.rt, ?_⟩
  intro cls dd e env' σ' F' H' A' g' s' rx hx
  obtain ⟨b, eb, h2⟩ := oth_ok hx
  refine ⟨b, by rw [rx.1]; exact hM _ _ eb, fun hb' a na => ?_, fun hb' => ?_⟩
  · rw [if_pos hb'] at h2
    exact hh F' H' env' σ' A' E DD g' h2 (eo.step s')
  · rw [if_neg (by rw [hb']; decide)] at h2
    exact eo.ex cls dd e env' σ' F' H' A' g' s' rx h2

/-! ### try: .. except c as e: x = e.f -/
theorem repF_look {F : Hp} {f : Str} : ∀ {gs : List (Str × D)} {fs : List (Str × V)} {d : D}, RepF F gs fs → gs.lookup f = some d → ∃ v, fs.lookup f = some v ∧ Rep F d v
  | [], _, _, _, e => nomatch e
  | (g, d0) :: r, fs, d, ⟨x, t, ex, rx, rt⟩, e => by
    subst ex
    rw [List.lookup_cons] at e ⊢
    cases q : f == g with
    | true => rw [q] at e; cases e; exact ⟨x, rfl, rx⟩
    | false => rw [q] at e; exact repF_look rt e
def dTryPart (M : Value → Option Bool) (C : Addr) (f : Str) (i j : Nat) (db : DTS) : DTS := fun DD env => db { DD with ex := fun e env1 => oth (M e.cls) fun b => if b = true then e.cls = .ref C ∧ env1[i]? = some .un ∧ oth (e.fs.bind fun gs => gs.lookup f) fun d => dName j (.fr d) env1 DD.nx DD.ex else DD.ex e env1 } env
theorem repS_un {F H : Hp} {w : Option V} : ∀ {env : DEnv} {σ : L2.St} {A : List Addr} {i : Nat}, RepS F H env σ A → env[i]? = some .un → RepS F H env (σ.set i w) A
  | [], σ, A, i, h, e => nomatch e
  | s :: env, σ, A, 0, ⟨v, r, B, C, eσ, eA, hs, hr⟩, e => by
    have es : s = .un := Option.some.inj e
    subst es
    subst eσ
    exact ⟨w, r, B, C, rfl, eA, hs, hr⟩
  | s :: env, σ, A, i + 1, ⟨v, r, B, C, eσ, eA, hs, hr⟩, e => by
    subst eσ
    exact ⟨v, r.set i w, B, C, rfl, eA, hs, repS_un hr e⟩
theorem repS_length {F H : Hp} : ∀ {env : DEnv} {σ : L2.St} {A : List Addr}, RepS F H env σ A → σ.length = env.length
  | [], σ, A, ⟨e, _⟩ => by rw [e]; rfl
  | s :: env, σ, A, ⟨v, r, B, C, eσ, eA, hs, hr⟩ => by rw [eσ, List.length_cons, List.length_cons, repS_length hr]
theorem step_un {F H : Hp} {env : DEnv} {σ : L2.St} {A : List Addr} {i : Nat} {w : Option V} (e : env[i]? = some .un) : Step F H env σ A F H env (σ.set i w) A :=
  ⟨.refl _, fun a o h _ _ => h, fun a h => h, fun a m => .inl m, fun a h => .inl h, fun j u h => ⟨u, h, by
    rw [List.getElem?_set_ne]
    intro z
    subst z
    rw [e] at h
    cases h⟩⟩
theorem sim_tryPart {K : PySem.W.Frag} {c : Value} {M : Value → Option Bool} {C : Addr} {f : Str} {i j : Nat} {tb : WX → TS} {db : DTS} {W : WX} (hij : i ≠ j) (hb : ∀ W, SimS W (tb W) db) (hM : ∀ v b, M v = some b → PySem.W.exmOne K v c = some b) :
    SimS W (fun D σ H => tb (wAs K c i (fun a cls d => tAsg (tXf a cls d C f (tVar i)) (gName j)) W D) D σ H) (dTryPart M C f i j db) := by
  intro F H env σ A E DD g h eo
  refine hb _ F H env σ A E _ g h ⟨eo.nx, eo.bk, eo.ct, eo.rt, ?_⟩
  intro cls dd e env' σ' F' H' A' g' s' rx hx
  obtain ⟨b, eb, h2⟩ := oth_ok hx
  refine ⟨b, by rw [rx.1]; exact hM _ _ eb, fun hb' a na => ?_, fun hb' => ?_⟩
  · rw [if_pos hb'] at h2
    obtain ⟨ec, ei, h3⟩ := h2
    obtain ⟨d, ed, h4⟩ := oth_ok h3
    have rx2 := rx.2
    cases q : e.fs with
    | none => rw [q] at ed; cases ed
    | some gs =>
      rw [q] at ed rx2
      obtain ⟨ad, xs, edd, hF, rf⟩ := rx2
      obtain ⟨v, ev, rv⟩ := repF_look rf ed
      have li : i < σ'.length := by rw [repS_length g'.rep]; exact (List.getElem?_eq_some_iff.mp ei).1
      refine ⟨.ref a, by rw [List.getElem?_set_self li], rfl, by rw [rx.1, ec], ad, xs, v, edd, g'.sub _ _ hF, ev, ?_⟩
      have g2 : Good F' H' env' (σ'.set i none) A' := ⟨g'.sub, repS_un g'.rep ei, g'.nd, g'.dis⟩
      have s2 := s'.trans (step_un (F := F') (H := H') (σ := σ') (A := A') (w := none) ei)
      have k := sim_name (W := W) (i := j) F' H' env' (σ'.set i none) A' [] v (.fr d) E.nx _ _ g2 (.dat g2 rv) h4 (eo.ex.step s2) fun env3 σ3 F3 H3 A3 g3 s3 _ _ h5 => by
        rw [List.append_nil] at s3
        exact eo.nx env3 σ3 F3 H3 A3 g3 (s2.trans s3) h5
      have k' : E.nx ((σ'.set i none).set j (some v)) H' := k
      show E.nx (((σ'.set i (some (.ref a))).set j (some v)).set i none) H'
      rw [List.set_comm _ _ (Ne.symm hij), List.set_set]
      exact k'
  · rw [if_neg (by rw [hb']; decide)] at h2
    exact eo.ex cls dd e env' σ' F' H' A' g' s' rx h2

open AutoSeq1 (wpAny_loadPart')
/-! ### enumerate(tuple) -/
theorem enum_newT (t : Addr) (items : Array Value) (n : Nat) (dd : Option Addr) (sl : Array (Option Value)) :
    Meets (Builtin.«enumerate.__new__» ⟨[.type "enumerate", .ref t], []⟩) (fun _ R s => s.heap.get? t = some { cls := .type "tuple", dict := dd, data := .seq items n, slots := sl } ∧
      R (.ok (.ret (.ref (s.heap.push { cls := .type "tuple_iterator", data := .fields #[.ref t, .int 0 0] }).objs.size)))
        { s with heap := (s.heap.push { cls := .type "tuple_iterator", data := .fields #[.ref t, .int 0 0] }).push { cls := .type "enumerate", data := .fields #[.none, .bool false, .ref s.heap.objs.size, rawInt 0, .none, .none] } }) :=
  .of_wp fun prog w A R s h => by
    obtain ⟨hp, g, d, tk, os⟩ := s
    obtain ⟨hl, h⟩ := h
    have hsub := sub_enumerate
    have hT : Heap.IsTuple (Shared.heap ⟨hp, g, d, tk, os⟩) t items := ⟨_, hl, rfl, n, rfl⟩
    wp_walk using wpAny_loadPart' hl
    refine wpAny_stack_any fun st => wpAny_pure ?_
    split
    · rename_i c _ _ _ _ _
      cases (c == Value.type "enumerate") <;>
      · wp_walk using wpAny_loadPart' hl, wpAny_pyIter_tuple hT
        exact ⟨_, rfl, h⟩
    · wp_walk using wpAny_loadPart' hl, wpAny_pyIter_tuple hT
      exact ⟨_, rfl, h⟩
section
variable {prog : Program} {w : World} {A : Around} {E : Value → Shared → Prop} {s : Shared}
theorem call_enumT {t : Addr} {items : Array Value} {Q : Value → Shared → Prop} (ht : s.heap.IsTuple t items)
    (q : ∀ h', IsEnum h' (s.heap.objs.size + 1) s.heap.objs.size 0 .none → h'.IsTupleIter s.heap.objs.size t 0 → h'.objs.size = s.heap.objs.size + 2 → (∀ b o, s.heap.get? b = some o → h'.get? b = some o) → Q (.ref (s.heap.objs.size + 1)) { s with heap := h' }) :
    wpAny (model prog w) A (call (.type "enumerate") [.ref t]) Q E s := by
  obtain ⟨⟨c, dct, dt, sl⟩, hl, hc, n, hd⟩ := ht
  simp only at hc hd
  subst hc hd
  refine callType_new F.called_enumerate (by decide) (F.typeCall_enumerate_1 _) (F.newCall_enumerate_1 _) (fun obj => F.args_object_init_2 obj _) F.entry_enumerate_new (enum_newT t items n dct sl) ⟨hl, ?_⟩
  generalize eh : s.heap.push { cls := .type "tuple_iterator", data := .fields #[.ref t, .int 0 0] } = h1
  have hz : h1.objs.size = s.heap.objs.size + 1 := by rw [← eh]; exact Heap.size_push ..
  have h0 : ∀ b o, s.heap.get? b = some o → h1.get? b = some o := fun b o x => by rw [← eh]; exact Heap.get?_push_of_some _ x
  have hi : h1.IsTupleIter s.heap.objs.size t 0 := by rw [← eh]; exact ⟨_, Heap.get?_push_size _ rfl, rfl, rfl⟩
  show _ ∧ _
  rw [hz]
  have he : IsEnum (h1.push { cls := .type "enumerate", data := .fields #[.none, .bool false, .ref s.heap.objs.size, rawInt 0, .none, .none] }) (s.heap.objs.size + 1) s.heap.objs.size 0 .none := by
    have := Heap.get?_push_size h1 (o := { cls := .type "enumerate", data := .fields #[.none, .bool false, .ref s.heap.objs.size, rawInt 0, .none, .none] }) rfl
    rw [hz] at this
    exact this
  exact ⟨⟨_, he, rfl⟩, q _ he (hi.at fun o e => Heap.get?_push_of_some _ e) (by rw [Heap.size_push, hz]) fun b o x => Heap.get?_push_of_some _ (h0 b o x)⟩
end
/-- the tuple at a, each item in a new pair -/
def IteT (K : PySem.W.Frag) (a : Addr) : It :=
  ⟨fun i H => ∃ (xs : List V) (x : V), SqT K H a xs ∧ xs[i]? = some x,
    fun i H v H' => ∃ T x, v = .ref T ∧ H T = none ∧ H' = upd H T (.tup [.int (i : Nat), x]) ∧ ∀ xs, SqT K H a xs → xs[i]? = some x,
    fun i H => ∃ xs : List V, SqT K H a xs ∧ xs.length ≤ i⟩
theorem turn_enumT {P : Program} {w : World} {K : PySem.W.Frag} {elts : List Expr} {kk : Nat} {tpos : Pos} (a e it : Addr) (hat : a ≠ it) (hae : e ≠ a) :
    Turn P w K (.Tuple elts kk tpos) (IteT K a) [e, it] e (fun i h => (∃ old, IsEnum h e it ((i : Nat) : Int) old) ∧ h.IsTupleIter it a i ∧ e ≠ it) where
  mem := by simp
  obj := fun i h st b hb => by
    obtain ⟨⟨old, he⟩, ⟨o, ho, hc, hd⟩, _⟩ := st
    have e' : b = e ∨ b = it := by simpa using hb
    rcases e' with z | z
    · rw [z]; exact ⟨_, he, fun v q => nomatch q⟩
    · rw [z]; exact ⟨o, ho, fun v q => by rw [hd] at q; cases q⟩
  keep := fun i h h' st k => let ⟨⟨old, he⟩, hi, hne⟩ := st; ⟨⟨old, k e (by simp) _ he⟩, hi.at fun o q => k it (by simp) o q, hne⟩
  item := by
    intro X hP hw hK hc i pins s σ H E I hf st hg
    subst hP hw hK
    obtain ⟨⟨old, he⟩, hit, hne⟩ := st
    obtain ⟨xs, x, hq, hx⟩ := hg
    obtain ⟨its, rv, p, hz⟩ := I.tuple hq
    obtain ⟨u, hu, ru⟩ := rv.get hx
    have hel : e < s.heap.objs.size := Heap.lt_size he
    have hil : it < s.heap.objs.size := by obtain ⟨_, q, _⟩ := hit; exact Heap.lt_size q
    have hlt : i < its.toArray.size := by
      have := (List.getElem?_eq_some_iff.mp hu).1
      simpa using this
    have D := Draws.tuple (prog := X.prog) (w := X.w) (A := X.A.in1) (show X.A.in1.handled = none from I.ok.hd hc) it a hat its.toArray
    refine wpAny_pyNext_enum_itemD D he ⟨hit, p⟩ hlt hne (by simp [hne, hae]) fun x0 h' tk hx0 ho hit' hT hsz hk => ?_
    have ex0 : x0 = u := by
      have : its.toArray[i]? = some x0 := hx0
      simp only [List.getElem?_toArray] at this
      rw [hu] at this
      exact (Option.some.inj this).symm
    subst ex0
    refine ⟨_, rfl, wpAny_letOwnedTupleGo_enum (s := { s with heap := h', toks := tk + 1 }) ho fun h'' he' sb => ?_⟩
    have hT2 : h''.get? s.heap.objs.size = some { cls := .type "tuple", data := .seq #[.int i tk, x0] } := (sb.2 _ (Nat.ne_of_gt hel)).trans hT
    have new : ObjOk X.prog X.w (upd H s.heap.objs.size (.tup [.int (i : Nat), x])) h'' s.heap.objs.size (.tup [.int (i : Nat), x]) :=
      ⟨by show 2 ≤ sizeLine; rw [PySem.sizeLine_eq]; decide, [.int i tk, x0], .cons ⟨_, rfl⟩ (.cons ru .nil), ⟨_, hT2, rfl, _, rfl⟩⟩
    have I1 : Inv X pins σ (upd H s.heap.objs.size (.tup [.int (i : Nat), x])) { s with heap := h'', toks := tk + 1 } :=
      I.turnedNew (ch := [e, it]) (fun b ob hb q => (sb.2 b (fun z => hb (by simp [z]))).trans (hk b ob (fun z => hb (by simp [z])) (fun z => hb (by simp [z])) q)) hf (Nat.le_refl _) new
    refine ⟨.ref s.heap.objs.size, _, I1, rfl, ⟨_, x, rfl, I.hok.fresh (Nat.le_refl _), rfl, fun ys hy => by rw [I.tuple_inj hy hq]; exact hx⟩, ⟨⟨x0, ?_⟩, hit'.1.at fun o q => (sb.2 it (Ne.symm hne)).trans q, hne⟩, fun b hb => ?_⟩
    · rw [show ((i + 1 : Nat) : Int) = (i : Int) + 1 by omega]; exact he'
    · have hb' : b < s.heap.objs.size := by
        rcases (by simpa using hb : b = e ∨ b = it) with z | z
        · rw [z]; exact hel
        · rw [z]; exact hil
      rw [upd_ne (Nat.ne_of_lt hb')]
      exact (hf b hb).1
  done := by
    intro X hP hw hK hc i pins s σ H E I hf st hg
    subst hP hw hK
    obtain ⟨⟨old, he⟩, hit, hne⟩ := st
    obtain ⟨xs, hq, hx⟩ := hg
    obtain ⟨its, rv, p, hz⟩ := I.tuple hq
    obtain ⟨f0, f1, f2, f3, f4, f5⟩ := hf it (by simp)
    have hl := rv.length
    have ty : s.TypeIs (.ref e) "enumerate" := ⟨_, he, rfl⟩
    have last : its.toArray[i]? = none := by simp; omega
    unfold pyNext
    have slot := F.slot_enumerate_next
    refine wpAny_bind (wpAny_attempt (wpAny_callSpecial?_slot (name := Str.ofString "__next__") ty slot (wpAny_call_entry slot ty F.entry_enumerate_next ?_ (F.args_enumerate_next_1 _))))
    show wpAny _ _ (field (.ref e) 2 >>= _) _ _ _
    refine wpAny_bind (wpAny_field he rfl (x := .ref it) rfl ?_)
    refine wpAny_bind (wpAny_nextOf_tuple_end (I.ok.hd hc) hit p last fun h' x eb hx' => ?_)
    obtain ⟨o, ho, hc'⟩ := hx'
    refine wpAny_bind (wpAny_isInstance (T := "StopIteration") (b := true) ⟨o, ho, hc'⟩ isSubtype_stop ?_)
    exact wpAny_pure ⟨rfl, I.turned (t' := s.toks) (fun b o hb q => eb b o hb q) f0 f1 f3 f4 f5⟩
  self := fun A i s Q E st h => let ⟨⟨_, he⟩, _⟩ := st; wpAny_pyIter_enum he h
/-- enumerate of a list or of a tuple -/
def iEnumA (K : PySem.W.Frag) (ta : TA) : TI := fun σ H R => ta σ H fun vs H1 => ∃ a xs, vs = [.ref a] ∧ ((SqL K H1 a xs ∧ R (Ite K a) H1) ∨ (SqT K H1 a xs ∧ R (IteT K a) H1))
theorem pi_enumA {X : Cx} {e : Expr} {ta : TA} {p pos tpos : Pos} {elts : List Expr} {kk : Nat} (hg : Gl X "enumerate") (hm : X.mg "enumerate" = none) (ha : PA X [e] ta) (hs : starEach [e] X.env = [(false, eval e X.env)] := by rfl) :
    PI X (.Tuple elts kk tpos) (.Call (.Name "enumerate" p) [e] [] pos) (iEnumA X.K ta) := by
  refine ⟨fun pins s σ H R I h => ?_⟩
  refine Call_ (ld_blt I hg hm boot_enumerate (PyProof.Rows.callWith_type1 (thn (ha.run pos pins s σ H _ I h) fun us s1 ⟨vs, H1, I1, r1, q1⟩ => ?_) hs rfl))
  obtain ⟨a, xs, ex, q⟩ := q1
  subst ex
  cases r1 with
  | cons r rr =>
    cases rr
    cases r
    have fresh : ∀ b ∈ [s1.heap.objs.size + 1, s1.heap.objs.size], s1.heap.objs.size ≤ b := fun b hb => by
      rcases (by simpa using hb : b = s1.heap.objs.size + 1 ∨ b = s1.heap.objs.size) with z | z <;> omega
    rcases q with ⟨hq, q⟩ | ⟨hq, q⟩
    · obtain ⟨its, rv, p', hz⟩ := I1.list hq
      refine call_enumerate_list p'.isList fun h' he hit hsz hk => wpAny_pyIter_enum he ?_
      have I2 : Inv X pins σ H1 { s1 with heap := h' } := I1.kept (t' := s1.toks) hk
      exact ⟨_, [s1.heap.objs.size + 1, s1.heap.objs.size], _, _, H1, rfl, I2, turn_enum a (s1.heap.objs.size + 1) s1.heap.objs.size, ⟨⟨.none, he⟩, hit, Nat.succ_ne_self _⟩, fun b hb => I1.fpOk (fresh b hb) (I1.hok.fresh (fresh b hb)), q⟩
    · obtain ⟨its, rv, p', hz⟩ := I1.tuple hq
      have la : a < s1.heap.objs.size := by obtain ⟨o, ho, _⟩ := p'; exact Heap.lt_size ho
      refine call_enumT p' fun h' he hit hsz hk => wpAny_pyIter_enum he ?_
      have I2 : Inv X pins σ H1 { s1 with heap := h' } := I1.kept (t' := s1.toks) hk
      exact ⟨_, [s1.heap.objs.size + 1, s1.heap.objs.size], _, _, H1, rfl, I2, turn_enumT a (s1.heap.objs.size + 1) s1.heap.objs.size (Nat.ne_of_lt la) (Ne.symm (Nat.ne_of_lt (Nat.lt_succ_of_lt la))), ⟨⟨.none, he⟩, hit, Nat.succ_ne_self _⟩, fun b hb => I1.fpOk (fresh b hb) (I1.hok.fresh (fresh b hb)), q⟩
def dEnumA (de : DTE) : DTI := fun env P X => de env (fun r env1 => force r env1 fun d env2 => match d with
  | .lst ds => P (enumD 0 ds) env2
  | .tup ds => P (enumD 0 ds) env2
  | _ => False) X
section
variable {W : WX} {K : PySem.W.Frag} {te : TE} {de : DTE}
theorem sim_enumA (he : SimE W te de) : SimI W (iEnumA K (tCons te tNil)) (dEnumA de) := by
  intro F H env σ A Q P X g h xo k
  refine he F H env σ A _ _ X g h xo fun x r env1 F1 H1 A1 C1 g1 s1 rr1 h1 => ?_
  obtain ⟨F2, A2, d, env2, h2, g2, s2, rp⟩ := force_ok g1 rr1 h1
  have pair : ∀ {F' H' : Hp} {i : Nat} {d0 : D} {x : V} {T : Addr}, Same F' H' → H' T = none → Rep F' d0 x → ∃ F'', Ext F' H' F'' (upd H' T (.tup [.int (i : Nat), x])) [] ∧ Rep F'' (.tup [.int ((0 + i : Nat) : Int), d0]) (.ref T) := fun {F' H' i d0 x T} z2 nT rx => by
    have m := (ext_tup (xs := [.int (i : Nat), x]) z2 nT).f
    refine ⟨_, ext_tup z2 nT, T, _, rfl, upd_same, .int (i : Nat), [x], rfl, ?_, x, [], rfl, rx.mono m, rfl⟩
    show V.int (i : Nat) = V.int ((0 + i : Nat) : Int)
    rw [Nat.zero_add]
  cases d with
  | lst ds =>
    obtain ⟨a, xs, ex, hf, rl⟩ := rp
    refine ⟨a, xs, by rw [ex], .inl ⟨SqL.of (g2.sub _ _ hf), k _ (enumD 0 ds) env2 F2 H1 A2 g2 (s1.trans s2) (fun F' H' i z1 z2 => ⟨fun d e => ?_, fun hl => ⟨xs, SqL.of (z2 _ _ (z1.ex rfl hf)), by rw [rl.length]; rw [enumD_len] at hl; exact hl⟩⟩) h2⟩⟩
    rw [enumD_at] at e
    cases q : ds[i]? with
    | none => rw [q] at e; cases e
    | some d0 =>
      rw [q] at e
      cases e
      obtain ⟨x, hx, rx⟩ := rl.get q
      refine ⟨⟨xs, x, SqL.of (z2 _ _ (z1.ex rfl hf)), hx⟩, fun y H'' ⟨T, x', ey, nT, eH, e2⟩ => ?_⟩
      have := e2 xs (SqL.of (z2 _ _ (z1.ex rfl hf)))
      rw [hx] at this
      cases this
      rw [eH, ey]
      exact pair z2 nT (rx.mono z1)
  | tup ds =>
    obtain ⟨a, xs, ex, hf, rl⟩ := rp
    refine ⟨a, xs, by rw [ex], .inr ⟨SqT.of (g2.sub _ _ hf), k _ (enumD 0 ds) env2 F2 H1 A2 g2 (s1.trans s2) (fun F' H' i z1 z2 => ⟨fun d e => ?_, fun hl => ⟨xs, SqT.of (z2 _ _ (z1.ex rfl hf)), by rw [rl.length]; rw [enumD_len] at hl; exact hl⟩⟩) h2⟩⟩
    rw [enumD_at] at e
    cases q : ds[i]? with
    | none => rw [q] at e; cases e
    | some d0 =>
      rw [q] at e
      cases e
      obtain ⟨x, hx, rx⟩ := rl.get q
      refine ⟨⟨xs, x, SqT.of (z2 _ _ (z1.ex rfl hf)), hx⟩, fun y H'' ⟨T, x', ey, nT, eH, e2⟩ => ?_⟩
      have := e2 xs (SqT.of (z2 _ _ (z1.ex rfl hf)))
      rw [hx] at this
      cases this
      rw [eH, ey]
      exact pair z2 nT (rx.mono z1)
  | _ => exact h2.elim
end

open PySem PySem.SeqAt PySem.Spec PyProof.Rows L2
/-! ### != of tuples whose items are equal, in part by an own == -/
section
variable {prog : Program} {w : World} {A : Around} {R : Result → Shared → Prop}
theorem tuple_neG (l b : Addr) (xs ys : Array Value) (n m : Nat) (dl db : Option Addr) (sl sb : Array (Option Value)) (hz : xs.size = ys.size) (I : Nat → Shared → Prop)
    (turn : ∀ i (h1 : i < xs.size) (h2 : i < ys.size) s, I i s → wpAny (model prog w) A.in1 (eqBool xs[i] ys[i]) (fun r s' => r = true ∧ I (i + 1) s') (fun e s' => R (.error e) s') s)
    (fin : ∀ s, I xs.size s → R (.ok (.ret (.bool false))) s) {s : Shared} (hl : s.heap.get? l = some { cls := .type "tuple", dict := dl, data := .seq xs n, slots := sl }) (hb : s.heap.get? b = some { cls := .type "tuple", dict := db, data := .seq ys m, slots := sb }) (h : I 0 s) :
    wpAny (model prog w) A.in1 (Builtin.«tuple.__ne__» ⟨[.ref l, .ref b], []⟩) (GQ.FinOf prog w A R) (fun e s' => R (.error e) s') s := by
  have sub := AutoSeq1.sub_tuple_tuple
  have zl : (xs.toList.zip ys.toList).length = xs.size := by simp [hz]
  have start := h
  obtain ⟨hp, g, d, tk, os⟩ := s
  wp_walk using AutoSeq1.wpAny_loadPart' hl, AutoSeq1.wpAny_loadPart' hb, wpAny_forIn_list _ (fun rest b s' => b.1 = none ∧ ∃ i, rest = (xs.toList.zip ys.toList).drop i ∧ i ≤ xs.size ∧ I i s') _
  case turn =>
    rintro ⟨y, x⟩ rest acc t ⟨ea, i, er, hi, hI⟩
    have lt : i < (xs.toList.zip ys.toList).length := Nat.lt_of_not_le fun ge => by rw [List.drop_of_length_le ge] at er; cases er
    have h1 : i < xs.size := zl ▸ lt
    have h2 : i < ys.size := hz ▸ h1
    rw [List.drop_eq_getElem_cons lt] at er
    obtain ⟨ep, et⟩ := List.cons.inj er
    have ey : y = xs[i] := by simpa using congrArg Prod.fst ep
    have ex : x = ys[i] := by simpa using congrArg Prod.snd ep
    subst ey ex
    refine wpAny_bind (wpAny_mono (turn i h1 h2 t hI) (fun r t2 q => ?_) fun _ _ z => z)
    obtain ⟨rfl, q⟩ := q
    wp_walk
    exact ⟨rfl, i + 1, et, h1, q⟩
  case fin =>
    rintro ⟨a1, a2⟩ t ⟨ea, i, er, hi, hI⟩
    simp only at ea
    subst ea
    have ge : xs.size ≤ i := Nat.le_of_not_lt fun lt => by rw [List.drop_eq_getElem_cons (zl.symm ▸ lt)] at er; cases er
    have last : R (.ok (.ret (.bool false))) t := fin t (by rw [show xs.size = i by omega]; exact hI)
    wp_walk
    simpa [Builtin.Tuple.tupleCompareSizes, hz] using last
  case h => exact ⟨rfl, 0, rfl, Nat.zero_le _, start⟩
end
section
variable {prog : Program} {w : World} {A : Around} {E : Value → Shared → Prop} {s : Shared}
theorem rc_tupNeG {l b : Addr} {xs ys : Array Value} {Q : Value → Shared → Prop} (hz : xs.size = ys.size) (hu : A.units < cLine) (I : Nat → Shared → Prop) (hl : s.heap.IsTuple l xs) (hb : s.heap.IsTuple b ys)
    (turn : ∀ i (h1 : i < xs.size) (h2 : i < ys.size) s, I i s → wpAny (model prog w) A.in1 (eqBool xs[i] ys[i]) (fun r s' => r = true ∧ I (i + 1) s') E s)
    (fin : ∀ s, I xs.size s → Q (.bool false) s) (h : I 0 s) : wpAny (model prog w) A (richCompare .NotEq (.ref l) (.ref b)) Q E s := by
  obtain ⟨⟨c1, dl, t1, s1⟩, ho, e1, n, f1⟩ := id hl
  obtain ⟨⟨c2, db, t2, s2⟩, ho2, e2, m, f2⟩ := id hb
  simp only at e1 f1 e2 f2
  subst e1 f1 e2 f2
  have slot := F.slot_tuple_ne
  refine wpAny_richCompare_same_room (op := .NotEq) ⟨_, ho, rfl⟩ ⟨_, ho2, rfl⟩ slot (GQ.call_here slot ⟨_, ho, rfl⟩ F.entry_tuple_ne (F.args_tuple_ne_2 _ _) ?_) hu
  exact tuple_neG (R := wants (fun v s' => v ≠ .notImplemented ∧ Q v s') E) l b xs ys n m dl db s1 s2 hz I turn (fun s' q => ⟨(fun x => nomatch x), fin s' q⟩) ho ho2 h
end
section
variable {X : Cx} {n : Nat} {D : Eqv}
/-- x != y as an expression, the two alike -/
def rNeG (D : Eqv) : R2 := fun x y H Q => D x y H ∧ ∀ H', L2.Ext H H' → Q (.bl false) H'
theorem op_neTupG (hD : Mon D) (h : EqG X n D) (hr : Room (n + 1) X.A) : OpR X (compareOp .NotEq) (rNeG (DTup X.K D)) := by
  intro pins s σ H x y v u Q I rx ry ⟨d, q⟩
  obtain ⟨a, b, xs, ys, rfl, rfl, ha, hb, p⟩ := d
  cases rx
  cases ry
  obtain ⟨its, r, e, z⟩ := I.tuple ha
  obtain ⟨its2, r2, e2, z2⟩ := I.tuple hb
  have sb : Sub X (n + 1) X.A := ⟨hr, rfl⟩
  have hz : its.toArray.size = its2.toArray.size := by rw [List.size_toArray, List.size_toArray, ← r.length, ← r2.length]; exact p.1
  show wpAny (model X.prog X.w) X.A (richCompare .NotEq (.ref a) (.ref b)) (EP X pins σ Q) X.xe s
  refine rc_tupNeG hz sb.room.units0 (fun _ s' => LoopI X pins σ H s') e e2 (fun i h1 h2 s' q => ?_) (fun s' l => ?_) ⟨H, I, Ext.rfl'⟩
  · refine wpAny_mono (turnG hD h sb p r r2 i h1 h2 s' q) (fun _ _ x => x) fun _ _ x => ?_
    exact x
  · obtain ⟨H1, I1, e1⟩ := l
    exact ⟨.bl false, H1, I1, rfl, q H1 e1⟩
end

/-! ### slots that no one reads any more are forgotten -/
def killAt (j : Nat) (env : DEnv) : DEnv := match env[j]? with
  | some (.ow _) => env.set j .un
  | _ => env
def killD : List Nat → DEnv → DEnv
  | [], env => env
  | j :: js, env => killD js (killAt j env)
theorem Good.killAt {F H : Hp} {env : DEnv} {σ : L2.St} {A : List Addr} (g : Good F H env σ A) (j : Nat) : ∃ A', Good F H (Fv.killAt j env) σ A' ∧ Step F H env σ A F H (Fv.killAt j env) σ A' := by
  unfold Fv.killAt
  cases e : env[j]? with
  | none => exact ⟨A, g, .refl⟩
  | some s =>
    cases s with
    | un => exact ⟨A, g, .refl⟩
    | bo o => exact ⟨A, g, .refl⟩
    | ow o =>
      obtain ⟨v, B, R, h1, h2, h3, h4⟩ := g.rep.out e
      have mR : ∀ a ∈ R, a ∈ A := fun a m => h3.mem_iff.mpr (List.mem_append_right _ m)
      have nd : (B ++ R).Nodup := h3.nodup_iff.mp g.nd
      refine ⟨R, ⟨g.sub, h4, nodup_r nd, fun a m => g.dis a (mR a m)⟩, .refl _, fun _ _ h _ _ => h, fun _ h => h, fun a m => .inl (mR a m), fun _ h => .inl h, fun i u h => ⟨u, ?_, rfl⟩⟩
      have ne : j ≠ i := fun z => by subst z; rw [e] at h; cases h
      rw [List.getElem?_set_ne ne]
      exact h
theorem Good.killD {F H : Hp} {σ : L2.St} : ∀ (js : List Nat) {env : DEnv} {A : List Addr}, Good F H env σ A → ∃ A', Good F H (Fv.killD js env) σ A' ∧ Step F H env σ A F H (Fv.killD js env) σ A'
  | [], _, A, g => ⟨A, g, .refl⟩
  | j :: js, env, A, g => by
    obtain ⟨A1, g1, s1⟩ := g.killAt j
    obtain ⟨A2, g2, s2⟩ := Good.killD js g1
    exact ⟨A2, g2, s1.trans s2⟩
def dPost (js : List Nat) (d : DTS) : DTS := fun DD env => d { DD with nx := fun e => DD.nx (killD js e) } env
def dKill (js : List Nat) (d : DTS) : DTS := fun DD env => d DD (killD js env)
def dPostL (js : List Nat) (d : DTS) : DTS := fun DD env => d { DD with nx := fun e => DD.nx (killD js e), ct := fun e => DD.ct (killD js e) } env
def dIterK (js : List Nat) (di : DTI) : DTI := fun env P X => di env (fun ds env1 => P ds (killD js env1)) X
def dForK (js : List Nat) (di : DTI) (g : DG) (s : DTS) : DTS := dFor (dIterK js di) g (dPostL js s)
def dWhileK (js : List Nat) (c : DTT) (s : DTS) : DTS := dWhile c (dPostL js s)
section
variable {W : WX} {t : TS} {d : DTS} {js : List Nat}
theorem sim_post (h : SimS W t d) : SimS W t (dPost js d) := by
  intro F H env σ A E DD g hd eo
  refine h F H env σ A E _ g hd ⟨fun e σ' F' H' A' g' s' q => ?_, eo.bk, eo.ct, eo.rt, eo.ex⟩
  obtain ⟨A2, g2, s2⟩ := g'.killD js
  exact eo.nx _ σ' F' H' A2 g2 (s'.trans s2) q
theorem sim_kill (h : SimS W t d) : SimS W t (dKill js d) := by
  intro F H env σ A E DD g hd eo
  obtain ⟨A2, g2, s2⟩ := g.killD js
  exact h F H _ σ A2 E DD g2 hd (eo.step s2)
theorem sim_postL (h : SimS W t d) : SimS W t (dPostL js d) := by
  intro F H env σ A E DD g hd eo
  refine h F H env σ A E _ g hd ⟨fun e σ' F' H' A' g' s' q => ?_, eo.bk, fun e σ' F' H' A' g' s' q => ?_, eo.rt, eo.ex⟩
  · obtain ⟨A2, g2, s2⟩ := g'.killD js
    exact eo.nx _ σ' F' H' A2 g2 (s'.trans s2) q
  · obtain ⟨A2, g2, s2⟩ := g'.killD js
    exact eo.ct _ σ' F' H' A2 g2 (s'.trans s2) q
theorem sim_iterK {wi : TI} {di : DTI} (h : SimI W wi di) : SimI W wi (dIterK js di) := by
  intro F H env σ A Q P X g hd xo k
  refine h F H env σ A Q _ X g hd xo fun J ds env1 F1 H1 A1 g1 s1 io h1 => ?_
  obtain ⟨A2, g2, s2⟩ := g1.killD js
  exact k J ds _ F1 H1 A2 g2 (s1.trans s2) io h1
theorem sim_forK {wi : TI} {di : DTI} {tg : TG} {dg : DG} {ks : List Nat} (hi : SimI W wi di) (hg : SimG W ks tg dg) (hb : SimS W t d) : SimS W (tFor wi tg t) (dForK js di dg d) := sim_for (sim_iterK hi) hg (sim_postL hb)
theorem sim_whileK {tc : TT} {dc : DTT} (hc : SimT W tc dc) (hb : SimS W t d) : SimS W (tWhile tc t) (dWhileK js dc d) := sim_while hc (sim_postL hb)
end
section
variable {env : DEnv} {s s2 : DTS} {DD : DEnds} {js : List Nat} {ds : List D}
theorem a_post (h : s { DD with nx := fun e => DD.nx (killD js e) } env) : dPost js s DD env := h
theorem a_kill (h : s DD (killD js env)) : dKill js s DD env := h
theorem a_iterK {di : DTI} {PI : List D → DEnv → Prop} {X : DX} (h : di env (fun ds env1 => PI ds (killD js env1)) X) : dIterK js di env PI X := h
def forK (js : List Nat) (g : DG) (s : DTS) (DD : DEnds) (ds : List D) (env : DEnv) : Prop := dForGo g (dPostL js s) DD ds env
theorem a_forK {di : DTI} {g : DG} (h : di env (fun ds env1 => forK js g s DD ds (killD js env1)) DD.ex) : dForK js di g s DD env := h
def whileK (js : List Nat) (c : DTT) (s : DTS) (DD : DEnds) (env : DEnv) : Prop := dWhile c (dPostL js s) DD env
theorem a_whileK {c : DTT} (h : whileK js c s DD env) : dWhileK js c s DD env := h
end

/-! ### == and != by an own __eq__ -/
mutual
/-- no dict within -/
def D.noDc : D → Bool
  | .tup ds => D.noDcL ds
  | .lst ds => D.noDcL ds
  | .dct _ _ => false
  | .ins _ gs => D.noDcF gs
  | _ => true
def D.noDcL : List D → Bool
  | [] => true
  | d :: ds => d.noDc && D.noDcL ds
def D.noDcF : List (Str × D) → Bool
  | [] => true
  | (_, d) :: ds => d.noDc && D.noDcF ds
end
def isDc' : HO → Bool
  | .dK _ => true
  | .dT _ => true
  | .frz _ _ => true
  | _ => false
/-- all but the dicts -/
def offDc (H : Hp) : Hp := fun a => match H a with
  | some o => if isDc' o = true then none else some o
  | none => none
theorem offDc_sub {H : Hp} : Same (offDc H) H := fun a o e => by
  unfold offDc at e
  split at e
  · rename_i u hu
    split at e
    · cases e
    · rw [hu]; exact e
  · cases e
theorem offDc_in {H : Hp} {a : Addr} {o : HO} (h : H a = some o) (n : isDc' o = false) : offDc H a = some o := by
  unfold offDc
  rw [h]
  show (if isDc' o = true then none else some o) = _
  rw [n, if_neg Bool.false_ne_true]
theorem offDc_out {H : Hp} {a : Addr} {o : HO} (h : H a = some o) (n : isDc' o = true) : offDc H a = none := by
  unfold offDc
  rw [h]
  show (if isDc' o = true then none else some o) = _
  rw [n, if_pos rfl]
mutual
theorem Rep.offDc {H : Hp} : ∀ {d : D} {x : V}, d.noDc = true → Rep H d x → Rep (Fv.offDc H) d x
  | .non, _, _, h => h
  | .bl _, _, _, h => h
  | .int _, _, _, h => h
  | .str _, _, _, h => h
  | .ty _, _, _, h => h
  | .cls _, _, _, h => h
  | .tup ds, _, n, ⟨a, xs, e, q, r⟩ => ⟨a, xs, e, offDc_in q rfl, RepL.offDc (by unfold D.noDc at n; exact n) r⟩
  | .lst ds, _, n, ⟨a, xs, e, q, r⟩ => ⟨a, xs, e, offDc_in q rfl, RepL.offDc (by unfold D.noDc at n; exact n) r⟩
  | .dct t ds, _, n, _ => by unfold D.noDc at n; cases n
  | .ins C gs, _, n, ⟨a, dx, xs, e, q, r⟩ => ⟨a, dx, xs, e, offDc_in q rfl, RepF.offDc (by unfold D.noDc at n; exact n) r⟩
theorem RepL.offDc {H : Hp} : ∀ {ds : List D} {xs : List V}, D.noDcL ds = true → RepL H ds xs → RepL (Fv.offDc H) ds xs
  | [], _, _, h => h
  | d :: ds, _, n, ⟨x, r, e, q, t⟩ => by
    unfold D.noDcL at n
    rw [Bool.and_eq_true] at n
    exact ⟨x, r, e, Rep.offDc n.1 q, RepL.offDc n.2 t⟩
theorem RepF.offDc {H : Hp} : ∀ {ds : List (Str × D)} {xs : List (Str × V)}, D.noDcF ds = true → RepF H ds xs → RepF (Fv.offDc H) ds xs
  | [], _, _, h => h
  | (k, d) :: ds, _, n, ⟨x, r, e, q, t⟩ => by
    unfold D.noDcF at n
    rw [Bool.and_eq_true] at n
    exact ⟨x, r, e, Rep.offDc n.1 q, RepF.offDc n.2 t⟩
end
/-- the two have the same data, and the own == of it gives True -/
def SameD (f : Fn) (a b : Addr) (H : Hp) : Prop := ∃ d, d.noDc = true ∧ Rep H d (.ref a) ∧ Rep H d (.ref b) ∧ f [.fr d, .fr d] (fun r _ => r = .fr (.bl true)) (fun _ _ => False)
theorem sameD_mono {f : Fn} : ∀ a b H H', L2.Ext H H' → SameD f a b H → SameD f a b H' := fun a b H H' e ⟨d, n, h1, h2, h3⟩ => ⟨d, n, h1.mono (L2.Same.sm e), h2.mono (L2.Same.sm e), h3⟩
theorem spEq_of {f : Fn} {vs : List V} {H : Hp} {Q : VK} {E : XK} (h : spEq (SameD f) vs H Q E) : spD (vals 2) f vs H Q E := by
  obtain ⟨a, b, rfl, ⟨d, n, h1, h2, h3⟩, q⟩ := h
  refine ⟨offDc H, [.fr d, .fr d], [], _, _, ⟨⟨d, rfl⟩, ⟨d, rfl⟩, trivial⟩, offDc_sub, ⟨_, _, [], [], rfl, rfl, ⟨rfl, h1.offDc n⟩, _, _, [], [], rfl, rfl, ⟨rfl, h2.offDc n⟩, rfl, rfl⟩, List.nodup_nil, (fun _ h => nomatch h), h3, fun x o ps F' H' B' C s1 r1 r2 nd dis st e => ?_, fun _ _ _ _ _ _ _ _ _ _ _ _ _ h => h.elim⟩
  subst e
  have ex : x = .bl true := r2.2
  subst ex
  refine q H' fun a o h => ?_
  cases z : isDc' o with
  | true => exact st.keep a o h List.not_mem_nil (offDc_out h z)
  | false => exact s1 _ _ (st.f.ex (by cases o <;> first | rfl | cases z) (offDc_in h z))
/-- != of two alike tuples of own objects, else of data -/
def dNeTw (C : Addr) (f : Fn) : D → D → (O → Prop) → Prop := fun d e P => (∃ xs, d = .tup xs ∧ e = .tup xs ∧ (∀ x ∈ xs, (x.cl = some C ∧ x.noDc = true) ∧ f [.fr x, .fr x] (fun r _ => r = .fr (.bl true)) (fun _ _ => False)) ∧ P (.fr (.bl false))) ∨ dNe d e P
theorem prs_same {H : Hp} {f : Fn} {C : Addr} : ∀ {ds : List D} {xs ys : List V}, RepL H ds xs → RepL H ds ys → (∀ x ∈ ds, (x.cl = some C ∧ x.noDc = true) ∧ f [.fr x, .fr x] (fun r _ => r = .fr (.bl true)) (fun _ _ => False)) → L2.Prs (DIns C (SameD f)) xs ys H
  | [], xs, ys, h1, h2, _ => by rw [show xs = [] from h1, show ys = [] from h2]; exact .nil
  | d :: ds, xs, ys, ⟨x, r, ex, hx, hr⟩, ⟨y, s, ey, hy, hs⟩, h => by
    subst ex
    subst ey
    obtain ⟨⟨hc, nd⟩, hf⟩ := h d List.mem_cons_self
    refine .cons ?_ (prs_same hr hs fun z m => h z (List.mem_cons_of_mem _ m))
    unfold D.cl at hc
    split at hc
    · cases hc
      obtain ⟨a, dx, fs, e1, e2, e3⟩ := hx
      obtain ⟨b, dy, gs, e4, e5, e6⟩ := hy
      rename_i C0 gs'
      exact ⟨a, b, dx, dy, fs, gs, e1, e4, e2, e5, .ins C gs', nd, ⟨a, dx, fs, rfl, e2, e3⟩, ⟨b, dy, gs, rfl, e5, e6⟩, hf⟩
    · cases hc
def rNeTw (K : PySem.W.Frag) (C : Addr) (f : Fn) : R2 := fun x y H Q => rNeD K x y H Q ∨ rNeG (DTup K (DIns C (SameD f))) x y H Q
theorem simr_neTw {K : PySem.W.Frag} {C : Addr} {f : Fn} : SimR2 (rNeTw K C f) (dNeTw C f) := by
  intro F H x y d e P Q s hx hy h q
  rcases h with ⟨xs, rfl, rfl, hf, hp⟩ | h
  · obtain ⟨a, us, ea, ha, ra⟩ := hx.toH s
    obtain ⟨b, ws, eb, hb, rb⟩ := hy.toH s
    refine .inr ⟨⟨a, b, us, ws, ea, eb, SqT.of ha, SqT.of hb, prs_same ra rb hf⟩, fun H' e => ?_⟩
    have e' : ∀ a o, H a = some o → H' a = some o := e
    exact q _ (.fr (.bl false)) F H' [] ⟨.refl _, L2.Same.sm e, fun a o h _ => e' a o h, s.trans e, (fun _ h => nomatch h), fun _ h => .inl h⟩ ⟨rfl, rfl⟩ List.nodup_nil (fun _ h => nomatch h) hp
  · exact .inl (simr_ne F H x y d e P Q s hx hy h q)
section
variable {X : Cx} {CX : CXT} {C g : Addr} {fd : FuncData} {ps : List Str} {f : Fn} {n : Nat}
theorem op_neTw (F : FnOk X.prog X.w X.K X.mg X.base CX0 n g fd ps (spD (vals 2) f))
    (hs : PySem.W.findIn X.K (.ref C) "__eq__" = some (some (.ref g))) (hf : PySem.W.isFn X.K (.ref g) = true) (hb : Binds X.K fd ps []) (hr : Room (n + 1) X.A) (op : OpR X (compareOp .NotEq) (rNeD X.K)) : OpR X (compareOp .NotEq) (rNeTw X.K C f) :=
  OpR.or op (op_neTupG (mon_ins sameD_mono) (eqG_ins (E := E0) (F.imp (fun _ _ _ _ h => spEq_of h)) hs hf hb pass0) hr)
end
/-! operations on what is data now -/
def SimRF (r : R2) (dr : D → D → (O → Prop) → Prop) : Prop := ∀ (F H : Hp) (x y : V) (d e : D) (P : O → Prop) (Q : VK), Same F H → Rep F d x → Rep F e y → dr d e P →
  (∀ z o F' H' C, Fv.Ext F H F' H' C → RepO F' H' o z C → C.Nodup → (∀ a ∈ C, F' a = none) → P o → Q z H') → r x y H Q
def dOpF (dr : D → D → (O → Prop) → Prop) (da db : DTE) : DTE := fun env P X => da env (fun r1 env1 => force r1 env1 fun d1 env2 => db env2 (fun r2 env3 => force r2 env3 fun d2 env4 => dr d1 d2 fun o => P (.o o) env4) X) X
theorem sim_opF {W : WX} {ta tb : TE} {da db : DTE} {r : R2} {dr : D → D → (O → Prop) → Prop} (hr : SimRF r dr) (ha : SimE W ta da) (hb : SimE W tb db) : SimE W (tOp r ta tb) (dOpF dr da db) := by
  intro F H env σ A Q P X g h xo k
  refine ha F H env σ A _ _ X g h xo fun x r1 env1 F1 H1 A1 C1 g1 s1 rr1 h1 => ?_
  obtain ⟨F2, A2, d1, env2, h2, g2, s2, p2⟩ := force_ok g1 rr1 h1
  have s12 := s1.trans s2
  refine hb F2 H1 env2 σ A2 _ _ X g2 h2 (xo.step s12) fun y r2 env3 F3 H3 A3 C3 g3 s3 rr3 h3 => ?_
  obtain ⟨F4, A4, d2, env4, h4, g4, s4, p4⟩ := force_ok g3 rr3 h3
  have s14 := s12.trans (s3.trans s4)
  refine hr F4 H3 x y d1 d2 _ _ g4.sub (p2.mono (s3.trans s4).f) p4 h4 fun z o F5 H5 C5 x5 ro5 nd5 d5 h6 => ?_
  exact k z (.o o) env4 F5 H5 A4 C5 (x5.good g4) (s14.trans x5.step) (.new g4 x5 ro5 nd5 d5) h6
/-- a == b, a != b of a whose class has an own == -/
def boolO (P : O → Prop) (neg : Bool) (r : O) : Prop := match r with
  | .fr (.bl b) => P (.fr (.bl (if neg then !b else b)))
  | _ => False
def dEqC (C : Addr) (f : Fn) : D → D → (O → Prop) → Prop := fun d e P => d.cl = some C ∧ (e.kind.isSome = true ∨ e.cl = some C) ∧ f [.fr d, .fr e] (fun r _ => boolO P false r) (fun _ _ => False)
def dNeC (C : Addr) (f : Fn) : D → D → (O → Prop) → Prop := fun d e P => d.cl = some C ∧ e.cl = some C ∧ f [.fr d, .fr e] (fun r _ => boolO P true r) (fun _ _ => False)
theorem spD_two {f : Fn} {F H : Hp} {x y : V} {d e : D} {P : O → Prop} {Q Q' : VK} {E : XK} {neg : Bool} (s : Same F H) (hx : Rep F d x) (hy : Rep F e y) (h : f [.fr d, .fr e] (fun r _ => boolO P neg r) (fun _ _ => False))
    (q : ∀ z o F' H' C, Fv.Ext F H F' H' C → RepO F' H' o z C → C.Nodup → (∀ a ∈ C, F' a = none) → P o → Q z H') (qq : ∀ (b : Bool) H', Q (.bl (if neg then !b else b)) H' → Q' (.bl b) H') : spD (vals 2) f [x, y] H Q' E := by
  refine ⟨F, [.fr d, .fr e], [], _, _, ⟨⟨d, rfl⟩, ⟨e, rfl⟩, trivial⟩, s, ⟨_, _, [], [], rfl, rfl, ⟨rfl, hx⟩, _, _, [], [], rfl, rfl, ⟨rfl, hy⟩, rfl, rfl⟩, List.nodup_nil, (fun _ h => nomatch h), h, fun v o ps F' H' B' C s1 r1 r2 nd dis st hb => ?_, fun _ _ _ _ _ _ _ _ _ _ _ _ _ h => h.elim⟩
  unfold boolO at hb
  split at hb
  · rename_i b
    have ex : v = .bl b := r2.2
    subst ex
    exact qq b H' (q _ (.fr (.bl _)) F' H' [] (Ste.ext (st.mem fun _ h => nomatch h) s s1) ⟨rfl, rfl⟩ List.nodup_nil (fun _ h => nomatch h) hb)
  · exact hb.elim
theorem simr_eqOwn {K : PySem.W.Frag} {C : Addr} {f : Fn} (o : OwnC K C) : SimRF (rEqOwn K C (spD (vals 2) f) E0) (dEqC C f) := by
  intro F H x y d e P Q s hx hy h q
  obtain ⟨h1, h2, h3⟩ := h
  obtain ⟨a, dx, fs, rfl, ha⟩ := cl_ok h1 (hx.toP s)
  have ty : ∃ t, TyX K H y t ∧ PySem.W.notFirst K C t = true := by
    rcases h2 with h2 | h2
    · cases ek : e.kind with
      | none => rw [ek] at h2; cases h2
      | some k =>
        have kd := kind_ok s ek (hy.toP s)
        exact ⟨.type k, kd.tyx, (o.kt k kd.name).2⟩
    · obtain ⟨b, dy, gs, rfl, hb⟩ := cl_ok h2 (hy.toP s)
      exact ⟨.ref C, o.tyx hb, by simp [PySem.W.notFirst]⟩
  obtain ⟨t, ty, nf⟩ := ty
  exact ⟨a, dx, fs, t, rfl, ha, ty, nf, spD_two s hx hy h3 q fun b H' h => ⟨b, rfl, h⟩⟩
theorem simr_neOwn {K : PySem.W.Frag} {C : Addr} {f : Fn} : SimRF (rNeOwn K C (spD (vals 2) f) E0) (dNeC C f) := by
  intro F H x y d e P Q s hx hy h q
  obtain ⟨h1, h2, h3⟩ := h
  obtain ⟨a, dx, fs, rfl, ha⟩ := cl_ok h1 (hx.toP s)
  obtain ⟨b, dy, gs, rfl, hb⟩ := cl_ok h2 (hy.toP s)
  exact ⟨a, b, dx, dy, fs, gs, rfl, rfl, ha, hb, spD_two s hx hy h3 q fun b H' h => ⟨b, rfl, h⟩⟩

/-! ### walks over dicts: the dict is locked from then on -/
def tLk (td : TE) : TE := fun σ H Q => td σ H fun x H1 => ∃ d u, x = .ref d ∧ isDct u = true ∧ ((H1 d = some u ∧ ∀ od, Q x (upd H1 d (.frz od u))) ∨ ((∃ od, H1 d = some (.frz od u)) ∧ Q x H1))
theorem pe_lk {X : Cx} {e : Expr} {t : TE} (h : PE X e t) : PE X e (tLk t) := by
  refine ⟨fun ps s0 σ0 H0 Q0 J k => thn (h.run ps s0 σ0 H0 _ J k) fun w z ⟨x, G, J1, rx, d, u, ex, iu, q⟩ => ?_⟩
  rcases q with ⟨hd, q⟩ | ⟨_, q⟩
  · obtain ⟨od, J2⟩ := J1.lock hd (by cases u <;> first | trivial | cases iu)
    exact ⟨x, _, J2, rx, q od⟩
  · exact ⟨x, G, J1, rx, q⟩
theorem Good.lk {F H : Hp} {env : DEnv} {σ : L2.St} {A : List Addr} {a : Addr} {u : HO} (g : Good F H env σ A) (ha : F a = some u) (iu : isDct u = true) (od : Obj) :
    Good (upd F a (.frz od u)) (upd H a (.frz od u)) env σ A ∧ Step F H env σ A (upd F a (.frz od u)) (upd H a (.frz od u)) env σ A := by
  have sm : Sm F (upd F a (.frz od u)) := fun b o h => by
    by_cases e : b = a
    · subst e
      rw [ha] at h
      cases h
      exact ⟨_, upd_same, .inr ⟨od, iu, rfl⟩⟩
    · exact ⟨o, by rw [upd_ne e]; exact h, .inl rfl⟩
  have ne : ∀ b, F b = none → b ≠ a := fun b h e => by rw [e, ha] at h; cases h
  refine ⟨⟨fun b o h => ?_, g.rep.stay ⟨sm, fun b m o h => by rw [upd_ne (ne b (g.dis b m))]; exact h⟩, g.nd, fun b m => by rw [upd_ne (ne b (g.dis b m))]; exact g.dis b m⟩, sm, fun b o h _ f => by rw [upd_ne (ne b f)]; exact h, fun b h => upd_free h, fun b m => .inl m, fun b h => .inl ?_, fun _ _ h => ⟨_, h, rfl⟩⟩
  · by_cases e : b = a
    · rw [e, upd_same] at h ⊢; exact h
    · rw [upd_ne e] at h ⊢; exact g.sub b o h
  · by_cases e : b = a
    · rw [e, ha]; exact Option.some_ne_none _
    · rw [upd_ne e] at h; exact h
theorem repM_keys {F : Hp} : ∀ {kds : List (List Key × D)} {kvs : List (List Key × V)}, RepM F kds kvs → kds.map (·.1) = kvs.map (·.1)
  | [], kvs, h => by rw [show kvs = [] from h]; rfl
  | (k, d) :: r, kvs, ⟨x, t, ex, _, rt⟩ => by
    subst ex
    rw [List.map_cons, List.map_cons, repM_keys rt]
theorem repM_get {F : Hp} : ∀ {kds : List (List Key × D)} {kvs : List (List Key × V)} {i : Nat} {k : List Key} {d : D}, RepM F kds kvs → kds[i]? = some (k, d) → ∃ v, kvs[i]? = some (k, v) ∧ Rep F d v
  | [], kvs, i, k, d, h, e => by simp at e
  | (j, d0) :: r, kvs, 0, k, d, ⟨x, t, ex, rx, rt⟩, e => by
    subst ex
    cases e
    exact ⟨x, rfl, rx⟩
  | (j, d0) :: r, kvs, i + 1, k, d, ⟨x, t, ex, rx, rt⟩, e => by
    subst ex
    exact repM_get (i := i) rt e
theorem repM_mono {F F' : Hp} (s : Sm F F') {kds : List (List Key × D)} {kvs : List (List Key × V)} (h : RepM F kds kvs) : RepM F' kds kvs := RepM.mono s h
/-- what is walked: a dict by numbers and texts, as data -/
def lkD (P : List (List Key × D) → DEnv → Prop) (d : D) (env2 : DEnv) : Prop := match d with
  | .dct false kds => P kds env2
  | _ => False
def dDictI (f : List (List Key × D) → List D) (de : DTE) : DTI := fun env P X => de env (fun r env1 => force r env1 fun d env2 => lkD (fun kds env3 => P (f kds) env3) d env2) X
abbrev keysD (kds : List (List Key × D)) : List D := kds.map fun p => keyD false p.1
abbrev valsD (kds : List (List Key × D)) : List D := kds.map (·.2)
abbrev itemsD (kds : List (List Key × D)) : List D := kds.map fun p => .tup [keyD false p.1, p.2]
section
variable {W : WX} {te : TE} {de : DTE}
/-- the dict, locked -/
theorem sim_lk (he : SimE W te de) {F H : Hp} {env : DEnv} {σ : L2.St} {A : List Addr} {P : List (List Key × D) → DEnv → Prop} {X : DX} {Q : VK} (g : Good F H env σ A) (h : de env (fun r env1 => force r env1 fun d env2 => lkD P d env2) X) (xo : XOk F H env σ A W X)
    (k : ∀ a od k0 kds env' F' H' A', Good F' H' env' σ A' → Step F H env σ A F' H' env' σ A' → F' a = some (.frz od (.dK k0)) → RepM F' kds (k0.map fun p => ([p.1], p.2)) → P kds env' → Q (.ref a) H') : (tLk te) σ H Q := by
  refine he F H env σ A _ _ X g h xo fun x r env1 F1 H1 A1 C1 g1 s1 rr1 h1 => ?_
  obtain ⟨F2, A2, d, env2, h2, g2, s2, rp⟩ := force_ok g1 rr1 h1
  have s12 := s1.trans s2
  unfold lkD at h2
  split at h2
  · rename_i kds
    obtain ⟨a, o, kvs, ea, ha, ⟨k0, c1, c2⟩, rm⟩ := rp
    subst c2
    refine ⟨a, .dK k0, ea, rfl, ?_⟩
    rcases rd_core ha c1 with z | ⟨od, z⟩
    · refine .inl ⟨g2.sub _ _ z, fun od => ?_⟩
      obtain ⟨g3, s3⟩ := g2.lk z rfl od
      subst ea
      exact k a od k0 kds env2 _ _ A2 g3 (s12.trans s3) upd_same (rm.mono s3.f) h2
    · subst ea
      exact .inr ⟨⟨od, g2.sub _ _ z⟩, k a od k0 kds env2 F2 H1 A2 g2 s12 z rm h2⟩
  · exact h2.elim
theorem lk_at {F F' H' : Hp} {a : Addr} {u : HO} {od : Obj} (h : F a = some (.frz od u)) (z1 : Sm F F') (z2 : Same F' H') : H' a = some (.frz od u) := z2 _ _ (z1.ex rfl h)
theorem kd_rep {F : Hp} (k : Key) : Rep F (kD k) (kV k) := by cases k <;> rfl
theorem sim_keys (he : SimE W te de) : SimI W (iKeys (tLk te)) (dDictI keysD de) := by
  intro F H env σ A Q P X g h xo k
  refine sim_lk he g h xo fun a od k0 kds env1 F1 H1 A1 g1 s1 ha rm h1 => ?_
  refine ⟨a, od, rfl, .inl ⟨k0, g1.sub _ _ ha, k _ (keysD kds) env1 F1 H1 A1 g1 s1 (fun F' H' i z1 z2 => ?_) h1⟩⟩
  have ek := repM_keys rm
  have el : kds.length = k0.length := by
    have := congrArg List.length ek
    simpa using this
  refine ⟨fun d e => ⟨⟨lk_at ha z1 z2, ?_⟩, fun x H'' ⟨e1, ky, v, e2, e3⟩ => ⟨F', by rw [e1]; exact .refl z2, ?_⟩⟩, fun hl => ⟨lk_at ha z1 z2, by rw [List.length_map] at hl; omega⟩⟩
  · have := (List.getElem?_eq_some_iff.mp e).1
    rw [List.length_map] at this
    omega
  · have e4 : (keysD kds)[i]? = some (kD ky) := by
      have : keysD kds = (kds.map (·.1)).map (keyD false) := by rw [List.map_map]; rfl
      rw [this, ek, List.map_map, List.getElem?_map, List.getElem?_map, e2]
      rfl
    rw [e4] at e
    cases e
    rw [e3]
    exact kd_rep ky
theorem sim_vals (he : SimE W te de) : SimI W (iVals (tLk te)) (dDictI valsD de) := by
  intro F H env σ A Q P X g h xo k
  refine sim_lk he g h xo fun a od k0 kds env1 F1 H1 A1 g1 s1 ha rm h1 => ?_
  have el : kds.length = k0.length := by
    have := congrArg List.length (repM_keys rm)
    simpa using this
  refine ⟨a, od, k0, rfl, g1.sub _ _ ha, k _ (valsD kds) env1 F1 H1 A1 g1 s1 (fun F' H' i z1 z2 => ⟨fun d e => ⟨⟨lk_at ha z1 z2, ?_⟩, fun x H'' ⟨e1, ky, e2⟩ => ⟨F', by rw [e1]; exact .refl z2, ?_⟩⟩, fun hl => ⟨lk_at ha z1 z2, by rw [List.length_map] at hl; omega⟩⟩) h1⟩
  · have := (List.getElem?_eq_some_iff.mp e).1
    rw [List.length_map] at this
    omega
  · rw [List.getElem?_map] at e
    cases q : kds[i]? with
    | none => rw [q] at e; cases e
    | some p =>
      rw [q] at e
      cases e
      obtain ⟨v, hv, rv⟩ := repM_get rm (k := p.1) (d := p.2) q
      rw [List.getElem?_map, e2] at hv
      have e5 : x = v := congrArg Prod.snd (Option.some.inj hv)
      rw [e5]
      exact rv.mono z1
theorem sim_items (he : SimE W te de) : SimI W (iItems (tLk te)) (dDictI itemsD de) := by
  intro F H env σ A Q P X g h xo k
  refine sim_lk he g h xo fun a od k0 kds env1 F1 H1 A1 g1 s1 ha rm h1 => ?_
  have el : kds.length = k0.length := by
    have := congrArg List.length (repM_keys rm)
    simpa using this
  refine ⟨a, od, k0, rfl, g1.sub _ _ ha, k _ (itemsD kds) env1 F1 H1 A1 g1 s1 (fun F' H' i z1 z2 => ⟨fun d e => ⟨⟨lk_at ha z1 z2, ?_⟩, fun x H'' ⟨T, ky, v, e1, e2, nT, e3⟩ => ?_⟩, fun hl => ⟨lk_at ha z1 z2, by rw [List.length_map] at hl; omega⟩⟩) h1⟩
  · have := (List.getElem?_eq_some_iff.mp e).1
    rw [List.length_map] at this
    omega
  · rw [List.getElem?_map] at e
    cases q : kds[i]? with
    | none => rw [q] at e; cases e
    | some p =>
      rw [q] at e
      cases e
      obtain ⟨w, hw, rw'⟩ := repM_get rm (k := p.1) (d := p.2) q
      rw [List.getElem?_map, e1] at hw
      have e5 : v = w := congrArg Prod.snd (Option.some.inj hw)
      subst e5
      have x1 := ext_tup (xs := [kV ky, v]) z2 nT
      refine ⟨upd F' T (.tup [kV ky, v]), by rw [e3]; exact x1, T, _, e2, upd_same, kV ky, [v], rfl, ?_, v, [], rfl, (rw'.mono z1).mono x1.f, rfl⟩
      have ep : p.1 = [ky] := by
        have h1 : (kds.map (·.1))[i]? = some p.1 := by rw [List.getElem?_map, q]; rfl
        rw [repM_keys rm, List.map_map, List.getElem?_map, e1] at h1
        exact (Option.some.inj h1).symm
      rw [ep]
      exact kd_rep ky
end

/-! ### try with several clauses, of which the first one takes all that comes -/
def wFst (K : PySem.W.Frag) (c : Value) (i : Nat) (ts : Addr → Value → Option Addr → TS) (D : L2.Ends) : WX := fun k d σ H =>
  PySem.W.exmOne K k c = some true ∧ ∀ z, H z = none → ts z k d { nx := fun τ G => D.nx (τ.set i none) G, rt := D.rt, bk := fun τ G => D.bk (τ.set i none) G, ct := fun τ G => D.ct (τ.set i none) G } (σ.set i (some (.ref z))) H
section
variable {X : Cx} {nm n : Str} {c : Value} {i : Nat} {body suite : List Stmt} {s0 : Stmt} {np pos pos' : Pos} {tb : WX → TS} {ts : Addr → Value → Option Addr → TS} {more : List ExceptHandler}
theorem ps_try_first (est : X.stack = X.env :: X.outer) (efr : X.env.frame = some X.env.locals) (nN : X.N.Nodup) (iN : X.N[i]? = some n) (lo : X.env.kindOf n = some .local) (cn : Names X nm c)
    (hb : ∀ (W : WX) (ps : List (Addr × Obj)) (xe : Value → Shared → Prop), Takes (X.tr ps xe) W → PassesOwn (model X.prog X.w) X.A X.env xe → PSs (X.tr ps xe) body (tb W))
    (hu : ∀ (z : Addr) (oz : Obj) (k : Value) (d : Option Addr) (ps : List (Addr × Obj)), Zc k d oz → (∃ vs, oz.data = .fields vs) → PSs (X.suite z ((z, oz) :: ps)) (s0 :: suite) (ts z k d)) :
    PS X (.Try body (.ExceptHandler (some (.Name nm np)) (some n) (s0 :: suite) pos' :: more) [] [] pos) (fun D σ H => tb (wFst X.K c i ts D) D σ H) := by
  constructor
  intro pins s σ H D inv want
  have ok := inv.ok
  refine wpAny_Try_except (wpAny_mono ((hb (wFst X.K c i ts D) (X.pn ++ pins) _ (fun v sh got => ?leave) PassesOwn.looking).run [] s σ H D (inv.toTry _) want) (fun fl sh ends => ?through) (fun _ _ q => q))
  case through =>
    cases fl
    case next => exact let ⟨_, _, J, q⟩ := ends; wpAny_execs_nil ⟨_, _, J.ofTry ok, q⟩
    case brk => exact let ⟨_, _, J, q⟩ := ends; ⟨_, _, J.ofTry ok, q⟩
    case cont => exact let ⟨_, _, J, q⟩ := ends; ⟨_, _, J.ofTry ok, q⟩
    case ret => exact let ⟨_, _, _, J, r, q⟩ := ends; ⟨_, _, _, J.ofTry ok, r, q⟩
  case leave =>
    obtain ⟨z, B, sI, pins1, σ1, H1, k, d, rfl, J0, nb, up, sky, nz, os, ag, isC, go⟩ := got
    have J := J0.ofTry ok
    have sky1 : Sky B (X.env :: X.outer) z (Zc k d) X.env.locals sh.heap := est ▸ sky
    show wpAny (model X.prog X.w) X.A (noteFrame (.ref z) X.env) _ _ _
    refine Sky.land Zc.steady (by rw [ok.frames, est]) efr sky1 fun hp fl upL => ?_
    have JL : Inv X pins σ1 H1 { sh with heap := hp } := J.landed nb fl.1 (up.trans upL) os ag
    obtain ⟨oz, vz, ez, kz, dz⟩ := fl.there
    have far : z ∉ frs (X.env :: X.outer) := fun m => by
      obtain ⟨_, o, e, q⟩ := fl.2.2.1.mem m
      rw [ez] at e
      cases e
      exact q _ dz
    have farL : z ≠ X.env.locals := fun e => far (List.mem_filterMap.mpr ⟨_, .head _, by rw [efr, e]⟩)
    have farF : z ∉ X.fs := fun m => by
      obtain ⟨e, me, q⟩ := List.mem_filterMap.mp m
      exact far (List.mem_filterMap.mpr ⟨e, .tail _ me, q⟩)
    have SL := JL.suite ez dz nz farL farF
    refine wpAny_handleBy_cons (codeAny_handlers_test ?_) (fun q => nomatch q)
    have isIt := PySem.W.exm_one (M := model X.prog X.w) JL.kIn (fun A Q E s keep q => wpAny_typeOf_ref (keep _ _ ez) (by rw [kz.1]; exact q)) isC
    have looked : ∀ {Q : Value → Shared → Prop} {E : Value → Shared → Prop}, Q c { sh with heap := hp } → wpAny (model X.prog X.w) (X.A.mark (some (.ref z))) (eval (.Name nm np) X.env) Q E { sh with heap := hp } := fun {Q E} q => by
      rcases cn with ⟨g, db, mg | ⟨mg, bv, nn⟩⟩
      · exact ld_glob (X := X.suite z ((z, oz) :: (X.pn ++ pins))) SL g mg q db
      · exact ld_blt (X := X.suite z ((z, oz) :: (X.pn ++ pins))) SL g mg bv q nn db
    refine looked (isIt.here (codeAny_handlers_suite_as (HandSPX.lands_againZ fl fun hq flq upq => ?_)))
    obtain ⟨oy, vy, ey, ky, dy⟩ := flq.there
    have JQ : Inv X pins σ1 H1 { sh with heap := hq } := J.landed nb flq.1 ((up.trans upL).trans upq) os ag
    have SQ := JQ.suite ey dy nz farL farF
    refine store_ok (X := X.suite z ((z, oy) :: (X.pn ++ pins))) (v := .ref z) SQ nN iN (.inl lo) rfl (fun t T => ?_) (.inr lo)
    refine wpAny_mono ((hu z oy k d (X.pn ++ pins) ky ⟨_, dy⟩).run [] t _ H1 _ T (go z nz)) (fun fl2 t2 ends => ?_) (fun _ _ q => q.elim)
    have fin : ∀ {τ : L2.St} {G : Hp} {Q : Shared → Prop}, L2.Inv (X.suite z ((z, oy) :: (X.pn ++ pins))) [] τ G t2 → (∀ t3, Inv X pins (τ.set i none) G t3 → Q t3) →
        wpAny (model X.prog X.w) X.A (do bindName X.env n .none; unbindBehindTheSuite X.env n pos') (fun _ t3 => Q t3) X.xe t2 := fun {τ G Q} T2 q => gone_ok (T2.unsuite ok) nN iN lo q
    cases fl2
    case next => exact let ⟨_, _, T2, q⟩ := ends; fin T2 fun _ J2 => ⟨_, _, J2, q⟩
    case brk => exact let ⟨_, _, T2, q⟩ := ends; fin T2 fun _ J2 => ⟨_, _, J2, q⟩
    case cont => exact let ⟨_, _, T2, q⟩ := ends; fin T2 fun _ J2 => ⟨_, _, J2, q⟩
    case ret => exact let ⟨_, _, _, T2, r, q⟩ := ends; fin T2 fun _ J2 => ⟨_, _, _, J2, r, q⟩
end
def tTryFst (K : PySem.W.Frag) (c : Value) (i : Nat) (tb : WX → TS) (ts : Addr → Value → Option Addr → TS) : TS := fun D σ H => tb (wFst K c i ts D) D σ H
/-- try: .. except C as e: x = e.f, except ..: never -/
def dTryFst (C : Addr) (f : Str) (i j : Nat) (db : DTS) : DTS := fun DD env => db { DD with ex := fun e env1 => e.cls = .ref C ∧ env1[i]? = some .un ∧ oth (e.fs.bind fun gs => gs.lookup f) fun d => dName j (.fr d) env1 DD.nx DD.ex } env
theorem sim_tryFst {K : PySem.W.Frag} {C : Addr} {f : Str} {i j : Nat} {tb : WX → TS} {db : DTS} {W : WX} (hij : i ≠ j) (hb : ∀ W, SimS W (tb W) db) (hC : PySem.W.exmOne K (.ref C) (.ref C) = some true) :
    SimS W (tTryFst K (.ref C) i tb (fun a cls d => tAsg (tXf a cls d C f (tVar i)) (gName j))) (dTryFst C f i j db) := by
  intro F H env σ A E DD g h eo
  refine hb _ F H env σ A E _ g h ⟨eo.nx, eo.bk, eo.ct, eo.rt, ?_⟩
  intro cls dd e env' σ' F' H' A' g' s' rx hx
  obtain ⟨ec, ei, h3⟩ := hx
  refine ⟨by rw [rx.1, ec]; exact hC, fun a na => ?_⟩
  obtain ⟨d, ed, h4⟩ := oth_ok h3
  have rx2 := rx.2
  cases q : e.fs with
  | none => rw [q] at ed; cases ed
  | some gs =>
    rw [q] at ed rx2
    obtain ⟨ad, xs, edd, hF, rf⟩ := rx2
    obtain ⟨v, ev, rv⟩ := repF_look rf ed
    have li : i < σ'.length := by rw [repS_length g'.rep]; exact (List.getElem?_eq_some_iff.mp ei).1
    refine ⟨.ref a, by rw [List.getElem?_set_self li], rfl, by rw [rx.1, ec], ad, xs, v, edd, g'.sub _ _ hF, ev, ?_⟩
    have g2 : Good F' H' env' (σ'.set i none) A' := ⟨g'.sub, repS_un g'.rep ei, g'.nd, g'.dis⟩
    have s2 := s'.trans (step_un (F := F') (H := H') (σ := σ') (A := A') (w := none) ei)
    have k := sim_name (W := W) (i := j) F' H' env' (σ'.set i none) A' [] v (.fr d) E.nx _ _ g2 (.dat g2 rv) h4 (eo.ex.step s2) fun env3 σ3 F3 H3 A3 g3 s3 _ _ h5 => by
      rw [List.append_nil] at s3
      exact eo.nx env3 σ3 F3 H3 A3 g3 (s2.trans s3) h5
    have k' : E.nx ((σ'.set i none).set j (some v)) H' := k
    show E.nx (((σ'.set i (some (.ref a))).set j (some v)).set i none) H'
    rw [List.set_comm _ _ (Ne.symm hij), List.set_set]
    exact k'

open PySem PySem.SeqAt PySem.Spec PyProof.Rows L2
/-! ### == of two pairs: the first ones equal by an own ==, the second ones data -/
section
variable {prog : Program} {w : World} {A : Around} {R : Result → Shared → Prop}
theorem tuple_eqB (l b : Addr) (xs ys : Array Value) (n m : Nat) (dl db : Option Addr) (sl sb : Array (Option Value)) (hz : xs.size = ys.size) (I : Nat → Shared → Prop)
    (turn : ∀ i (h1 : i < xs.size) (h2 : i < ys.size) s, I i s → wpAny (model prog w) A.in1 (eqBool xs[i] ys[i]) (fun r s' => (r = true → I (i + 1) s') ∧ (r = false → R (.ok (.ret (.bool false))) s')) (fun e s' => R (.error e) s') s)
    (fin : ∀ s, I xs.size s → R (.ok (.ret (.bool true))) s) {s : Shared} (hl : s.heap.get? l = some { cls := .type "tuple", dict := dl, data := .seq xs n, slots := sl }) (hb : s.heap.get? b = some { cls := .type "tuple", dict := db, data := .seq ys m, slots := sb }) (h : I 0 s) :
    wpAny (model prog w) A.in1 (Builtin.«tuple.__eq__» ⟨[.ref l, .ref b], []⟩) (GQ.FinOf prog w A R) (fun e s' => R (.error e) s') s := by
  have sub := AutoSeq1.sub_tuple_tuple
  have zl : (xs.toList.zip ys.toList).length = xs.size := by simp [hz]
  have start := h
  obtain ⟨hp, g, d, tk, os⟩ := s
  wp_walk using AutoSeq1.wpAny_loadPart' hl, AutoSeq1.wpAny_loadPart' hb, wpAny_forIn_list _ (fun rest b s' => b.1 = none ∧ ∃ i, rest = (xs.toList.zip ys.toList).drop i ∧ i ≤ xs.size ∧ I i s') _
  case turn =>
    rintro ⟨y, x⟩ rest acc t ⟨ea, i, er, hi, hI⟩
    have lt : i < (xs.toList.zip ys.toList).length := Nat.lt_of_not_le fun ge => by rw [List.drop_of_length_le ge] at er; cases er
    have h1 : i < xs.size := zl ▸ lt
    have h2 : i < ys.size := hz ▸ h1
    rw [List.drop_eq_getElem_cons lt] at er
    obtain ⟨ep, et⟩ := List.cons.inj er
    have ey : y = xs[i] := by simpa using congrArg Prod.fst ep
    have ex : x = ys[i] := by simpa using congrArg Prod.snd ep
    subst ey ex
    refine wpAny_bind (wpAny_mono (turn i h1 h2 t hI) (fun r t2 q => ?_) fun _ _ z => z)
    cases r with
    | true =>
      have q := q.1 rfl
      wp_walk
      exact ⟨rfl, i + 1, et, h1, q⟩
    | false =>
      have q := q.2 rfl
      obtain ⟨hp2, g2, d2, tk2, os2⟩ := t2
      wp_walk
      exact q
  case fin =>
    rintro ⟨a1, a2⟩ t ⟨ea, i, er, hi, hI⟩
    simp only at ea
    subst ea
    have ge : xs.size ≤ i := Nat.le_of_not_lt fun lt => by rw [List.drop_eq_getElem_cons (zl.symm ▸ lt)] at er; cases er
    have last : R (.ok (.ret (.bool true))) t := fin t (by rw [show xs.size = i by omega]; exact hI)
    wp_walk
    simpa [Builtin.Tuple.tupleCompareSizes, hz] using last
  case h => exact ⟨rfl, 0, rfl, Nat.zero_le _, start⟩
end
section
variable {prog : Program} {w : World} {A : Around} {E : Value → Shared → Prop} {s : Shared}
theorem rc_tupB {l b : Addr} {xs ys : Array Value} {Q : Value → Shared → Prop} (hz : xs.size = ys.size) (hu : A.units < cLine) (I : Nat → Shared → Prop) (hl : s.heap.IsTuple l xs) (hb : s.heap.IsTuple b ys)
    (turn : ∀ i (h1 : i < xs.size) (h2 : i < ys.size) s, I i s → wpAny (model prog w) A.in1 (eqBool xs[i] ys[i]) (fun r s' => (r = true → I (i + 1) s') ∧ (r = false → Q (.bool false) s')) E s)
    (fin : ∀ s, I xs.size s → Q (.bool true) s) (h : I 0 s) : wpAny (model prog w) A (richCompare .Eq (.ref l) (.ref b)) Q E s := by
  obtain ⟨⟨c1, dl, t1, s1⟩, ho, e1, n, f1⟩ := id hl
  obtain ⟨⟨c2, db, t2, s2⟩, ho2, e2, m, f2⟩ := id hb
  simp only at e1 f1 e2 f2
  subst e1 f1 e2 f2
  have slot := F.slot_tuple_eq
  refine wpAny_richCompare_same_room (op := .Eq) ⟨_, ho, rfl⟩ ⟨_, ho2, rfl⟩ slot (GQ.call_here slot ⟨_, ho, rfl⟩ F.entry_tuple_eq (F.args_tuple_eq_2 _ _) ?_) hu
  refine tuple_eqB (R := wants (fun v s' => v ≠ .notImplemented ∧ Q v s') E) l b xs ys n m dl db s1 s2 hz I (fun i h1 h2 t q => wpAny_mono (turn i h1 h2 t q) (fun r t' z => ⟨z.1, fun e => ⟨(fun x => nomatch x), z.2 e⟩⟩) fun _ _ x => x) (fun s' q => ⟨(fun x => nomatch x), fin s' q⟩) ho ho2 h
end
/-- == inside a tuple tells b, and only makes objects -/
def EqB (X : Cx) (n : Nat) (T : V → V → Bool → Hp → Prop) : Prop :=
  ∀ (A : Around) (pins : List (Addr × Obj)) (s : Shared) (σ : L2.St) (H : Hp) (x y : V) (u v : Value) (b : Bool), Sub X n A → Inv X pins σ H s → RelV x u → RelV y v → T x y b H →
    wpAny (model X.prog X.w) A (eqBool u v) (fun r s' => r = b ∧ ∃ H', Inv X pins σ H' s' ∧ L2.Ext H H') X.xe s
def MonB (T : V → V → Bool → Hp → Prop) : Prop := ∀ x y b H H', L2.Ext H H' → T x y b H → T x y b H'
def TOwn (D : Eqv) : V → V → Bool → Hp → Prop := fun x y b H => b = true ∧ D x y H
def TDat : V → V → Bool → Hp → Prop := fun x y b H => ∃ d e p q, Rep H d x ∧ Rep H e y ∧ toPy d = some p ∧ toPy e = some q ∧ SeqAt.shaped p = true ∧ SeqAt.shaped q = true ∧ b = PyData.eqv p q
section
variable {X : Cx} {n : Nat} {D : Eqv} {T T' : V → V → Bool → Hp → Prop}
theorem EqB.or (h : EqB X n T) (h' : EqB X n T') : EqB X n (fun x y b H => T x y b H ∨ T' x y b H) := fun A pins s σ H x y u v b sb I rx ry d => by
  rcases d with d | d
  · exact h A pins s σ H x y u v b sb I rx ry d
  · exact h' A pins s σ H x y u v b sb I rx ry d
theorem MonB.or (h : MonB T) (h' : MonB T') : MonB (fun x y b H => T x y b H ∨ T' x y b H) := fun x y b H H' e d => d.elim (fun d => .inl (h x y b H H' e d)) fun d => .inr (h' x y b H H' e d)
theorem eqB_own (h : EqG X n D) : EqB X n (TOwn D) := fun A pins s σ H x y u v b sb I rx ry d => by
  obtain ⟨rfl, d⟩ := d
  exact h A pins s σ H x y u v sb I rx ry d
theorem monB_own (h : Mon D) : MonB (TOwn D) := fun x y b H H' e d => ⟨d.1, h x y H H' e d.2⟩
theorem monB_dat : MonB TDat := fun x y b H H' e d => by
  obtain ⟨d, f, p, q, h1, h2, r⟩ := d
  exact ⟨d, f, p, q, h1.mono (L2.Same.sm e), h2.mono (L2.Same.sm e), r⟩
theorem eqB_dat : EqB X n TDat := fun A pins s σ H x y u v b sb I rx ry d => by
  obtain ⟨d, f, p, q, h1, h2, h3, h4, h5, h6, rfl⟩ := d
  obtain ⟨as, r1⟩ := Dp.reads I p x u (toPy_ok h3 h1) rx
  obtain ⟨bs, r2⟩ := Dp.reads I q y v (toPy_ok h4 h2) ry
  exact eqAt_reads p q A s u v as bs r1 r2 (canLay_of_shaped h5) (canLay_of_shaped h6) (room_of_shaped h5 sb.room.units) X.prog X.w X.xe _ ⟨rfl, H, I, Ext.rfl'⟩
/-- items side by side, and what == tells of them -/
def PrsB (T : V → V → Bool → Hp → Prop) (xs ys : List V) (bs : List Bool) (H : Hp) : Prop := xs.length = bs.length ∧ ys.length = bs.length ∧ ∀ (i : Nat) x y b, xs[i]? = some x → ys[i]? = some y → bs[i]? = some b → T x y b H
def rEqB (K : PySem.W.Frag) (T : V → V → Bool → Hp → Prop) : R2 := fun x y H Q => ∃ a b xs ys bs, x = .ref a ∧ y = .ref b ∧ SqT K H a xs ∧ SqT K H b ys ∧ PrsB T xs ys bs H ∧ ∀ H', L2.Ext H H' → Q (.bl (bs.all id)) H'
theorem op_eqB (hT : MonB T) (h : EqB X n T) (hr : Room (n + 1) X.A) : OpR X (compareOp .Eq) (rEqB X.K T) := by
  intro pins s σ H x y v u Q I rx ry ⟨a, b, xs, ys, bs, ex, ey, ha, hb, p, q⟩
  subst ex ey
  cases rx
  cases ry
  obtain ⟨its, r, e, z⟩ := I.tuple ha
  obtain ⟨its2, r2, e2, z2⟩ := I.tuple hb
  have sb : Sub X (n + 1) X.A := ⟨hr, rfl⟩
  have hz : its.toArray.size = its2.toArray.size := by rw [List.size_toArray, List.size_toArray, ← r.length, ← r2.length, p.1, p.2.1]
  show wpAny (model X.prog X.w) X.A (richCompare .Eq (.ref a) (.ref b)) (EP X pins σ Q) X.xe s
  refine rc_tupB hz sb.room.units0 (fun i s' => (∀ j, j < i → bs[j]? = some true) ∧ LoopI X pins σ H s') e e2 (fun i h1 h2 s' ⟨all, H1, I1, x1⟩ => ?_) (fun s' ⟨all, H1, I1, x1⟩ => ?_) ⟨(fun _ h => nomatch h), H, I, Ext.rfl'⟩
  · have g1 : i < its.length := by simpa using h1
    have g2 : i < its2.length := by simpa using h2
    have k1 : i < xs.length := by rw [r.length]; exact g1
    have k2 : i < ys.length := by rw [r2.length]; exact g2
    have k3 : i < bs.length := p.1 ▸ k1
    obtain ⟨u, hu, ru⟩ := r.get (List.getElem?_eq_getElem k1)
    obtain ⟨v, hv, rv⟩ := r2.get (List.getElem?_eq_getElem k2)
    rw [List.getElem?_eq_getElem g1] at hu
    rw [List.getElem?_eq_getElem g2] at hv
    have eu : its.toArray[i] = u := Option.some.inj hu
    have ev : its2.toArray[i] = v := Option.some.inj hv
    rw [eu, ev]
    refine wpAny_mono (h X.A.in1 pins s' σ H1 _ _ u v bs[i] sb.in1 I1 ru rv (hT _ _ _ _ _ x1 (p.2.2 i _ _ _ (List.getElem?_eq_getElem k1) (List.getElem?_eq_getElem k2) (List.getElem?_eq_getElem k3)))) (fun r s2 ⟨er, H2, I2, x2⟩ => ⟨fun et => ?_, fun ef => ?_⟩) fun _ _ x => x
    · refine ⟨fun j hj => ?_, H2, I2, x1.trans x2⟩
      by_cases hji : j < i
      · exact all j hji
      · have : j = i := by omega
        subst this
        rw [List.getElem?_eq_getElem k3, ← er, et]
    · refine ⟨.bl false, H2, I2, rfl, ?_⟩
      have : bs.all id = false := by
        rw [List.all_eq_false]
        exact ⟨bs[i], List.getElem_mem k3, by rw [← er, ef]; decide⟩
      rw [← this]
      exact q H2 (x1.trans x2)
  · refine ⟨.bl true, H1, I1, rfl, ?_⟩
    have : bs.all id = true := by
      rw [List.all_eq_true]
      intro b hb
      obtain ⟨j, hj, rfl⟩ := List.mem_iff_getElem.mp hb
      have hn : j < its.toArray.size := by rw [List.size_toArray, ← r.length, p.1]; exact hj
      have := all j hn
      rw [List.getElem?_eq_getElem hj] at this
      exact Option.some.inj this
    rw [← this]
    exact q H1 x1
end
/-! at the data level -/
def EqItem (C : Addr) (f : Fn) (x y : D) (b : Bool) : Prop := (x = y ∧ x.cl = some C ∧ x.noDc = true ∧ f [.fr x, .fr x] (fun r _ => r = .fr (.bl true)) (fun _ _ => False) ∧ b = true) ∨
  ∃ p q, toPy x = some p ∧ toPy y = some q ∧ SeqAt.shaped p = true ∧ SeqAt.shaped q = true ∧ b = PyData.eqv p q
def dEqB (C : Addr) (f : Fn) : D → D → (O → Prop) → Prop := fun d e P => ∃ (xs ys : List D) (bs : List Bool), d = .tup xs ∧ e = .tup ys ∧ xs.length = bs.length ∧ ys.length = bs.length ∧
  (∀ (i : Nat) x y b, xs[i]? = some x → ys[i]? = some y → bs[i]? = some b → EqItem C f x y b) ∧ P (.fr (.bl (bs.all id)))
def rEqTB (K : PySem.W.Frag) (C : Addr) (f : Fn) : R2 := rEqB K (fun x y b H => TOwn (DIns C (SameD f)) x y b H ∨ TDat x y b H)
theorem repL_at {F : Hp} {ds : List D} {xs : List V} {i : Nat} {x : V} (h : RepL F ds xs) (e : xs[i]? = some x) : ∃ d, ds[i]? = some d ∧ Rep F d x := by
  have l : i < ds.length := by rw [← h.length]; exact (List.getElem?_eq_some_iff.mp e).1
  obtain ⟨y, h1, h2⟩ := h.get (List.getElem?_eq_getElem l)
  rw [e] at h1
  cases h1
  exact ⟨_, List.getElem?_eq_getElem l, h2⟩
theorem simr_eqTB {K : PySem.W.Frag} {C : Addr} {f : Fn} : SimR2 (rEqTB K C f) (dEqB C f) := by
  intro F H x y d e P Q s hx hy h q
  obtain ⟨xs, ys, bs, rfl, rfl, l1, l2, hi, hp⟩ := h
  obtain ⟨a, us, ea, ha, ra⟩ := hx.toH s
  obtain ⟨b, ws, eb, hb, rb⟩ := hy.toH s
  refine ⟨a, b, us, ws, bs, ea, eb, SqT.of ha, SqT.of hb, ⟨by rw [ra.length, l1], by rw [rb.length, l2], fun i u v k hu hv hk => ?_⟩, fun H' e => ?_⟩
  · obtain ⟨du, e1, r1⟩ := repL_at ra hu
    obtain ⟨dv, e2, r2⟩ := repL_at rb hv
    rcases hi i du dv k e1 e2 hk with ⟨rfl, hc, nd, hf, rfl⟩ | ⟨p, q, h1, h2, h3, h4, rfl⟩
    · refine .inl ⟨rfl, ?_⟩
      unfold D.cl at hc
      split at hc
      · cases hc
        obtain ⟨a, dx, fs, e1, e2, e3⟩ := r1
        obtain ⟨b, dy, gs, e4, e5, e6⟩ := r2
        rename_i C0 gs' _ _
        exact ⟨a, b, dx, dy, fs, gs, e1, e4, e2, e5, .ins C gs', nd, ⟨a, dx, fs, rfl, e2, e3⟩, ⟨b, dy, gs, rfl, e5, e6⟩, hf⟩
      · cases hc
    · exact .inr ⟨du, dv, p, q, r1, r2, h1, h2, h3, h4, rfl⟩
  · have e' : ∀ a o, H a = some o → H' a = some o := e
    exact q _ (.fr (.bl _)) F H' [] ⟨.refl _, L2.Same.sm e, fun a o h _ => e' a o h, s.trans e, (fun _ h => nomatch h), fun _ h => .inl h⟩ ⟨rfl, rfl⟩ List.nodup_nil (fun _ h => nomatch h) hp
section
variable {X : Cx} {C g : Addr} {fd : FuncData} {ps : List Str} {f : Fn} {n : Nat}
theorem op_eqTB (F : FnOk X.prog X.w X.K X.mg X.base CX0 n g fd ps (spD (vals 2) f))
    (hs : PySem.W.findIn X.K (.ref C) "__eq__" = some (some (.ref g))) (hf : PySem.W.isFn X.K (.ref g) = true) (hb : Binds X.K fd ps []) (hr : Room (n + 1) X.A) : OpR X (compareOp .Eq) (rEqTB X.K C f) :=
  op_eqB (MonB.or (monB_own (mon_ins sameD_mono)) monB_dat) (EqB.or (eqB_own (eqG_ins (E := E0) (F.imp (fun _ _ _ _ h => spEq_of h)) hs hf hb pass0)) eqB_dat) hr
end

/-- a pool of draws as an owned object -/
def PoolOk (o : O) : Prop := ∃ gs ss x y, o = poolO gs ss x y ∧ gs.length ≤ 63 ∧ ss.length ≤ 63
theorem itO_rep {F H : Hp} : ∀ ns : List Int, RepOL F H (ns.map fun i => .fr (.int i)) (ns.map V.int) []
  | [] => ⟨rfl, rfl⟩
  | n :: ns => ⟨_, _, [], [], rfl, rfl, ⟨rfl, rfl⟩, itO_rep ns⟩
def t_l_pool2 (K : PySem.W.Frag) : TS :=
  (tSeq (tAsg (tLc (iList K (tSl (rSlL K) (tVar 0) tNoPart (tPart (tC (.int 63))))) (gName 3) (tTest (tOp xGe (tCB xAbs (tCons (tVar 3) tNil)) (tOp xPow (tC (.int 10)) (tC (.int 18))))) (tCB xAbs (tCons (tVar 3) tNil)) [3]) (gName 1)) (tSeq (tAsg (tLc (iList K (tSl (rSlL K) (tVar 0) tNoPart (tPart (tC (.int 63))))) (gName 3) (tTest (tOp xLt (tCB xAbs (tCons (tVar 3) tNil)) (tOp xPow (tC (.int 10)) (tC (.int 18))))) (tOp xMod (tCB xInt (tCons (tVar 3) tNil)) (tC (.int 1000003))) [3]) (gName 2)) (tRet (tLst (tCons (tVar 1) (tCons (tVar 2) (tCons (tC (.int 0)) (tCons (tC (.int 0)) tNil))))))))
local macro_rules | `(tactic| walk_at "ne") => `(tactic| first | assumption | (refine Ne.symm ?_; assumption))
local macro_rules | `(tactic| walk_at "hp") => `(tactic| first
  | assumption
  | exact upd_same
  | ((with_reducible refine' upd_get (by assumption) ?_); walk_at "hp")
  | ((with_reducible refine' upd_at ?k1 ?_); (case k1 => walk_at "ne"); walk_at "hp"))
local macro_rules | `(tactic| walk_at "vc1") => `(tactic| first
  | (with_reducible refine' v_seq ?_)
  | (with_reducible refine' v_asg ?_)
  | ((with_reducible refine' v_var ?k1 ?_); (case k1 => exact rfl))
  | (with_reducible refine' v_c ?_)
  | (with_reducible refine' v_op ?_)
  | (with_reducible refine' v_I0 ?_)
  | (with_reducible refine' v_name ?_)
  | (with_reducible refine' v_cons ?_)
  | (with_reducible refine' v_nil ?_)
  | (with_reducible refine' v_cb ?_)
  | (with_reducible refine' v_int ?_)
  | (with_reducible refine' v_abs ?_)
  | (with_reducible refine' v_ifs ?_)
  | (with_reducible refine' v_test ?_)
  | (with_reducible refine' v_B ?_)
  | (with_reducible refine' v_bl ?_)
  | (with_reducible refine' v_and ?_)
  | (with_reducible refine' v_or ?_)
  | (with_reducible refine' v_not ?_)
  | (with_reducible refine' v_eqI ?_)
  | (with_reducible refine' v_neI ?_)
  | (with_reducible refine' v_ret ?_)
  | (with_reducible refine' v_retN ?_)
  | (with_reducible refine' v_next ?_)
  | (with_reducible refine' v_drop ?_)
  | (with_reducible refine' v_call ?_)
  | (with_reducible refine' v_sub ?_)
  | (with_reducible refine' v_lst ?_)
  | (with_reducible refine' v_tup ?_)
  | (with_reducible refine' v_sl ?_)
  | (with_reducible refine' v_nopart ?_)
  | (with_reducible refine' v_part ?_)
  | (with_reducible refine' v_partI ?_)
  | (with_reducible refine' v_if ?_)
  | (with_reducible refine' v_chain ?_)
  | (with_reducible refine' v_andV ?_)
  | (with_reducible refine' v_orV ?_)
  | (with_reducible refine' v_notV ?_)
  | (with_reducible refine' v_un ?_)
  | (with_reducible refine' v_U ?_)
  | (with_reducible refine' v_isN ?_)
  | (with_reducible refine' v_notN ?_)
  | (with_reducible refine' v_eqB ?_)
  | (with_reducible refine' v_neB ?_)
  | (with_reducible refine' v_yes ?_)
  | (with_reducible refine' v_dnew ?_)
  | (with_reducible refine' v_iteT ?_)
  | (with_reducible refine' v_iteF ?_)
  | (with_reducible refine' v_iteNT ?_)
  | (with_reducible refine' v_iteNF ?_)
  | (with_reducible refine' v_for ?_)
  | (with_reducible refine' v_lc ?_)
  | (with_reducible refine' v_iR1 ?_)
  | (with_reducible refine' v_iR2 ?_)
  | (with_reducible refine' v_iL ?_)
  | (with_reducible refine' v_iT ?_)
  | (with_reducible refine' v_bm ?_)
  | (with_reducible refine' v_bm0 ?_)
  | (with_reducible refine' v_tRg2 ?_)
  | (with_reducible refine' v_tRg1 ?_)
  | (with_reducible refine' v_rg2e ?_)
  | (with_reducible refine' v_rg1e ?_)
  | (with_reducible refine' v_lstRg ?_)
  | (with_reducible refine' v_tupRg ?_)
  | ((with_reducible refine' v_bmL ?k1 ?_); (case k1 => walk_at "hp"))
  | ((with_reducible refine' v_bm0L ?k1 ?_); (case k1 => walk_at "hp"))
  | ((with_reducible refine' v_ixL' ?k1 ?k2 ?_); (case k1 => walk_at "hp"); (case k2 => exact rfl))
  | ((with_reducible refine' v_ixT' ?k1 ?k2 ?_); (case k1 => walk_at "hp"); (case k2 => exact rfl))
  | ((with_reducible refine' v_setL ?k1 ?k2 ?_); (case k1 => walk_at "hp"); (case k2 => exact rfl))
  | ((with_reducible refine' v_lenL' ?k1 ?_); (case k1 => walk_at "hp"))
  | ((with_reducible refine' v_lenT' ?k1 ?_); (case k1 => walk_at "hp"))
  | ((with_reducible refine' v_bound ?k1 ?_); (case k1 => (first | decide | omega | (simp only [List.length_cons, List.length_nil]; omega)))))
local macro_rules | `(tactic| walk_at "vc") => `(tactic| repeat (walk_at "vc1"))
section
variable {K : PySem.W.Frag}
/-! ### the pool's making -/
theorem pure_l_pool2 {vs : List V} {H : Hp} {Q : VK} {E : XK} (h : spHead K PoolOk vs H Q E) : t_l_pool2 K { nx := fun _ H' => Q .non H', rt := Q } (start ["_law_script", "_law_great", "_law_small", "_law_cell"] vs) H := by
  obtain ⟨a, ns, rfl, hS, hl, q⟩ := h
  unfold t_l_pool2
  walk_at "vc"
  obtain ⟨ms, em, hml⟩ := cut_map ns none (some 63)


  walk_at "vc"
  refine v_slL hS fun l nl => ?_
  refine ⟨l, rfl, ⟨_, SqL.of upd_same⟩, fun D nD => ?_⟩
  have s1 : Same H (upd H l (.lst (cutV (ns.map V.int) none (some 63)))) := same_upd nl
  have hl1 : (upd H l (.lst (cutV (ns.map V.int) none (some 63)))) l = some (.lst (cutV (ns.map V.int) none (some 63))) := upd_same
  generalize upd H l (.lst (cutV (ns.map V.int) none (some 63))) = H1 at *
  rw [em] at hl1
  refine lc_list (xs := ms.map V.int) (fun i H' => ∃ acc : List Int, H' D = some (.lst (acc.map V.int)) ∧ acc.length ≤ i ∧ Same H1 H') ⟨[], upd_same, Nat.le_refl _, same_upd nD⟩ (fun i H' _ ⟨_, _, _, s⟩ => SqL.of (s _ _ hl1)) ?_ ?_
  · rintro i x H2 hx ⟨acc, hacc, hal, s2⟩
    obtain ⟨n, rfl⟩ := map_get hx
    have hi : i < ms.length := by
      have := (List.getElem?_eq_some_iff.mp hx).1
      rw [List.length_map] at this
      exact this
    walk_at "vc"
    refine ⟨rfl, ?_⟩
    walk_at "vc"
    refine v_I ⟨by decide, by decide, by decide⟩ ?_
    walk_at "vc"
    refine v_ite (fun c => ?_) (fun c => ?_)
    · walk_at "vc"
      refine ⟨_, hacc, by rw [List.length_map]; exact small1000 (by omega), acc ++ [if n < 0 then -n else n], by rw [upd_same, List.map_append]; rfl, by rw [List.length_append]; show acc.length + 1 ≤ i + 1; omega, fun b o e => ?_⟩
      rw [upd_ne (ne_of_none e nD)]
      exact s2 _ _ e
    · exact ⟨acc, hacc, by omega, s2⟩
  · rintro H2 ⟨gs, hgs, hgl, s2⟩
    rw [List.length_map] at hgl
    walk_at "vc"


    walk_at "vc"
    refine v_slL ((s1.trans s2).seq hS) fun l2 nl2 => ?_
    refine ⟨l2, rfl, ⟨_, SqL.of upd_same⟩, fun D2 nD2 => ?_⟩
    have hg3 : (upd H2 l2 (.lst (cutV (ns.map V.int) none (some 63)))) D = some (.lst (gs.map V.int)) := by walk_at "hp"
    have hl3 : (upd H2 l2 (.lst (cutV (ns.map V.int) none (some 63)))) l2 = some (.lst (cutV (ns.map V.int) none (some 63))) := upd_same
    generalize upd H2 l2 (.lst (cutV (ns.map V.int) none (some 63))) = H3 at *
    rw [em] at hl3
    refine lc_list (xs := ms.map V.int) (fun i H' => ∃ acc : List Int, H' D2 = some (.lst (acc.map V.int)) ∧ acc.length ≤ i ∧ Same H3 H') ⟨[], upd_same, Nat.le_refl _, same_upd nD2⟩ (fun i H' _ ⟨_, _, _, s⟩ => SqL.of (s _ _ hl3)) ?_ ?_
    · rintro i x H4 hx ⟨acc, hacc, hal, s4⟩
      obtain ⟨n, rfl⟩ := map_get hx
      have hi : i < ms.length := by
        have := (List.getElem?_eq_some_iff.mp hx).1
        rw [List.length_map] at this
        exact this
      walk_at "vc"
      refine ⟨rfl, ?_⟩
      walk_at "vc"
      refine v_I ⟨by decide, by decide, by decide⟩ ?_
      walk_at "vc"
      refine v_ite (fun c => ?_) (fun c => ?_)
      · walk_at "vc"
        refine v_I (by decide) ?_
        refine ⟨_, hacc, by rw [List.length_map]; exact small1000 (by omega), acc ++ [n % 1000003], by rw [upd_same, List.map_append]; rfl, by rw [List.length_append]; show acc.length + 1 ≤ i + 1; omega, fun b o e => ?_⟩
        rw [upd_ne (ne_of_none e nD2)]
        exact s4 _ _ e
      · exact ⟨acc, hacc, by omega, s4⟩
    · rintro H4 ⟨ss, hss, hsl, s4⟩
      rw [List.length_map] at hsl
      walk_at "vc"
      intro p np
      have hg4 := s4 _ _ hg3
      have n1 : D ≠ p := fun z => by rw [z, np] at hg4; cases hg4
      have n2 : D2 ≠ p := fun z => by rw [z, np] at hss; cases hss
      have n12 : D ≠ D2 := fun z => by rw [z, nD2] at hg3; cases hg3
      refine q (poolO gs ss 0 0) (.ref p) _ [p, D, D2] ⟨gs, ss, 0, 0, rfl, by omega, by omega⟩ ⟨p, [.ref D, .ref D2, .int 0, .int 0], [D, D2], rfl, rfl, upd_same, ?_⟩ ?_
      · refine ⟨.ref D, _, [D], [D2], rfl, rfl, ⟨D, gs.map V.int, [], rfl, rfl, by rw [upd_ne n1]; exact hg4, itO_rep gs⟩, ?_⟩
        refine ⟨.ref D2, _, [D2], [], rfl, rfl, ⟨D2, ss.map V.int, [], rfl, rfl, by rw [upd_ne n2]; exact hss, itO_rep ss⟩, ?_⟩
        exact ⟨_, _, [], [], rfl, rfl, ⟨rfl, rfl⟩, ⟨_, _, [], [], rfl, rfl, ⟨rfl, rfl⟩, rfl, rfl⟩⟩
      · simp only [List.nodup_cons, List.mem_cons, List.not_mem_nil, or_false, not_or, not_false_eq_true, List.nodup_nil, and_true]
        exact ⟨⟨n1.symm, n2.symm⟩, n12⟩
end

/-! ### the head of laws with a tape -/
def tapeO (ns : List Int) (x y z u : Int) : O := .lst [.lst (ns.map fun i => .fr (.int i)), .fr (.int x), .fr (.int y), .fr (.int z), .fr (.int u)]
def TapeOk (o : O) : Prop := ∃ ns x y z u, o = tapeO ns x y z u ∧ ns.length ≤ 63 ∧ 0 ≤ x
def t_l_tape (K : PySem.W.Frag) : TS :=
  (tRet (tLst (tCons (tCB (xListOf K) (tCons (tVar 0) tNil)) (tCons (tC (.int 0)) (tCons (tC (.int 0)) (tCons (tC (.int 1)) (tCons (tC (.int 0)) tNil)))))))
section
variable {K : PySem.W.Frag}
theorem pure_l_tape {vs : List V} {H : Hp} {Q : VK} {E : XK} (h : spHead K TapeOk vs H Q E) : t_l_tape K { nx := fun _ H' => Q .non H', rt := Q } (start ["_law_script"] vs) H := by
  obtain ⟨a, ns, rfl, hS, hl, q⟩ := h
  unfold t_l_tape
  refine v_ret (v_lst (v_cons (v_cb (v_cons ?_))))
  refine ⟨.ref a, rfl, ?_⟩
  refine v_nil ⟨a, ns.map V.int, rfl, .inl hS, fun D nD => ?_⟩
  have hD : (upd H D (.lst (ns.map V.int))) D = some (.lst (ns.map V.int)) := upd_same
  generalize upd H D (.lst (ns.map V.int)) = H1 at *
  refine ⟨by show 5 ≤ sizeLine; rw [PySem.sizeLine_eq]; decide, fun p np => ?_⟩
  have n1 : D ≠ p := fun z => by rw [z, np] at hD; cases hD
  refine q (tapeO ns 0 0 1 0) (.ref p) _ [p, D] ⟨ns, 0, 0, 1, 0, rfl, hl, Int.le_refl 0⟩ ⟨p, [.ref D, .int 0, .int 0, .int 1, .int 0], [D], rfl, rfl, upd_same, ?_⟩ ?_
  · refine ⟨.ref D, _, [D], [], rfl, rfl, ⟨D, ns.map V.int, [], rfl, rfl, by rw [upd_ne n1]; exact hD, itO_rep ns⟩, ?_⟩
    exact ⟨_, _, [], [], rfl, rfl, ⟨rfl, rfl⟩, ⟨_, _, [], [], rfl, rfl, ⟨rfl, rfl⟩, ⟨_, _, [], [], rfl, rfl, ⟨rfl, rfl⟩, ⟨_, _, [], [], rfl, rfl, ⟨rfl, rfl⟩, rfl, rfl⟩⟩⟩⟩
  · simp only [List.nodup_cons, List.mem_cons, List.not_mem_nil, or_false, not_false_eq_true, List.nodup_nil, and_true]
    exact n1.symm
end

/-! ### the head of laws with a hand of cells -/
def HandOk (o : O) : Prop := ∃ ns x y z u, o = tapeO ns x y z u ∧ ns.length ≤ 63 ∧ 0 ≤ x
def t_l_hand (K : PySem.W.Frag) : TS :=
  (tSeq (tAsg (tLc (iList K (tSl (rSlL K) (tVar 0) tNoPart (tPart (tC (.int 63))))) (gName 2) tYes (tCB xAbs (tCons (tCB xInt (tCons (tVar 2) tNil)) tNil)) [2]) (gName 1)) (tRet (tLst (tCons (tVar 1) (tCons (tC (.int 0)) (tCons (tC (.int 0)) (tCons (tOp xAdd (tC (.int 1)) (tCB (xLen K) (tCons (tVar 1) tNil))) (tCons (tC (.int 0)) tNil))))))))
local macro_rules | `(tactic| walk_at "ne") => `(tactic| first | assumption | (refine Ne.symm ?_; assumption))
local macro_rules | `(tactic| walk_at "hp") => `(tactic| first
  | assumption
  | exact upd_same
  | ((with_reducible refine' upd_get (by assumption) ?_); walk_at "hp")
  | ((with_reducible refine' upd_at ?k1 ?_); (case k1 => walk_at "ne"); walk_at "hp"))
local macro_rules | `(tactic| walk_at "vc1") => `(tactic| first
  | (with_reducible refine' v_seq ?_)
  | (with_reducible refine' v_asg ?_)
  | ((with_reducible refine' v_var ?k1 ?_); (case k1 => exact rfl))
  | (with_reducible refine' v_c ?_)
  | (with_reducible refine' v_op ?_)
  | (with_reducible refine' v_I0 ?_)
  | (with_reducible refine' v_name ?_)
  | (with_reducible refine' v_cons ?_)
  | (with_reducible refine' v_nil ?_)
  | (with_reducible refine' v_cb ?_)
  | (with_reducible refine' v_int ?_)
  | (with_reducible refine' v_abs ?_)
  | (with_reducible refine' v_ifs ?_)
  | (with_reducible refine' v_test ?_)
  | (with_reducible refine' v_B ?_)
  | (with_reducible refine' v_bl ?_)
  | (with_reducible refine' v_and ?_)
  | (with_reducible refine' v_or ?_)
  | (with_reducible refine' v_not ?_)
  | (with_reducible refine' v_eqI ?_)
  | (with_reducible refine' v_neI ?_)
  | (with_reducible refine' v_ret ?_)
  | (with_reducible refine' v_retN ?_)
  | (with_reducible refine' v_next ?_)
  | (with_reducible refine' v_drop ?_)
  | (with_reducible refine' v_call ?_)
  | (with_reducible refine' v_sub ?_)
  | (with_reducible refine' v_lst ?_)
  | (with_reducible refine' v_tup ?_)
  | (with_reducible refine' v_sl ?_)
  | (with_reducible refine' v_nopart ?_)
  | (with_reducible refine' v_part ?_)
  | (with_reducible refine' v_partI ?_)
  | (with_reducible refine' v_if ?_)
  | (with_reducible refine' v_chain ?_)
  | (with_reducible refine' v_andV ?_)
  | (with_reducible refine' v_orV ?_)
  | (with_reducible refine' v_notV ?_)
  | (with_reducible refine' v_un ?_)
  | (with_reducible refine' v_U ?_)
  | (with_reducible refine' v_isN ?_)
  | (with_reducible refine' v_notN ?_)
  | (with_reducible refine' v_eqB ?_)
  | (with_reducible refine' v_neB ?_)
  | (with_reducible refine' v_yes ?_)
  | (with_reducible refine' v_dnew ?_)
  | (with_reducible refine' v_iteT ?_)
  | (with_reducible refine' v_iteF ?_)
  | (with_reducible refine' v_iteNT ?_)
  | (with_reducible refine' v_iteNF ?_)
  | (with_reducible refine' v_for ?_)
  | (with_reducible refine' v_lc ?_)
  | (with_reducible refine' v_iR1 ?_)
  | (with_reducible refine' v_iR2 ?_)
  | (with_reducible refine' v_iL ?_)
  | (with_reducible refine' v_iT ?_)
  | (with_reducible refine' v_bm ?_)
  | (with_reducible refine' v_bm0 ?_)
  | (with_reducible refine' v_tRg2 ?_)
  | (with_reducible refine' v_tRg1 ?_)
  | (with_reducible refine' v_rg2e ?_)
  | (with_reducible refine' v_rg1e ?_)
  | (with_reducible refine' v_lstRg ?_)
  | (with_reducible refine' v_tupRg ?_)
  | ((with_reducible refine' v_bmL ?k1 ?_); (case k1 => walk_at "hp"))
  | ((with_reducible refine' v_bm0L ?k1 ?_); (case k1 => walk_at "hp"))
  | ((with_reducible refine' v_ixL' ?k1 ?k2 ?_); (case k1 => walk_at "hp"); (case k2 => exact rfl))
  | ((with_reducible refine' v_ixT' ?k1 ?k2 ?_); (case k1 => walk_at "hp"); (case k2 => exact rfl))
  | ((with_reducible refine' v_setL ?k1 ?k2 ?_); (case k1 => walk_at "hp"); (case k2 => exact rfl))
  | ((with_reducible refine' v_lenL' ?k1 ?_); (case k1 => walk_at "hp"))
  | ((with_reducible refine' v_lenT' ?k1 ?_); (case k1 => walk_at "hp"))
  | ((with_reducible refine' v_bound ?k1 ?_); (case k1 => (first | decide | omega | (simp only [List.length_cons, List.length_nil]; omega)))))
local macro_rules | `(tactic| walk_at "vc") => `(tactic| repeat (walk_at "vc1"))
section
variable {K : PySem.W.Frag}
/-! ### the pool's making -/

theorem pure_l_hand {vs : List V} {H : Hp} {Q : VK} {E : XK} (h : spHead K HandOk vs H Q E) : t_l_hand K { nx := fun _ H' => Q .non H', rt := Q } (start ["_law_script", "_law_cells", "_law_cell"] vs) H := by
  obtain ⟨a, ns, rfl, hS, hl, q⟩ := h
  unfold t_l_hand
  walk_at "vc"
  obtain ⟨ms, em, hml⟩ := cut_map ns none (some 63)
  walk_at "vc"
  refine v_slL hS fun l nl => ?_
  refine ⟨l, rfl, ⟨_, SqL.of upd_same⟩, fun D nD => ?_⟩
  have s1 : Same H (upd H l (.lst (cutV (ns.map V.int) none (some 63)))) := same_upd nl
  have hl1 : (upd H l (.lst (cutV (ns.map V.int) none (some 63)))) l = some (.lst (cutV (ns.map V.int) none (some 63))) := upd_same
  generalize upd H l (.lst (cutV (ns.map V.int) none (some 63))) = H1 at *
  rw [em] at hl1
  refine lc_list (xs := ms.map V.int) (fun i H' => ∃ acc : List Int, H' D = some (.lst (acc.map V.int)) ∧ acc.length ≤ i ∧ Same H1 H') ⟨[], upd_same, Nat.le_refl _, same_upd nD⟩ (fun i H' _ ⟨_, _, _, s⟩ => SqL.of (s _ _ hl1)) ?_ ?_
  · rintro i x H2 hx ⟨acc, hacc, hal, s2⟩
    obtain ⟨n, rfl⟩ := map_get hx
    have hi : i < ms.length := by
      have := (List.getElem?_eq_some_iff.mp hx).1
      rw [List.length_map] at this
      exact this
    walk_at "vc"
    refine ⟨rfl, ?_⟩
    walk_at "vc"
    refine ⟨_, hacc, by rw [List.length_map]; exact small1000 (by omega), acc ++ [if n < 0 then -n else n], by rw [upd_same, List.map_append]; rfl, by rw [List.length_append]; show acc.length + 1 ≤ i + 1; omega, fun b o e => ?_⟩
    rw [upd_ne (ne_of_none e nD)]
    exact s2 _ _ e
  · rintro H2 ⟨gs, hgs, hgl, s2⟩
    rw [List.length_map] at hgl
    walk_at "vc"
    intro p np
    have n1 : D ≠ p := fun z => by rw [z, np] at hgs; cases hgs
    refine q (tapeO gs 0 0 (1 + ((gs.map V.int).length : Nat)) 0) (.ref p) _ [p, D] ⟨gs, _, _, _, _, rfl, by omega, by decide⟩ ⟨p, [.ref D, .int 0, .int 0, .int (1 + ((gs.map V.int).length : Nat)), .int 0], [D], rfl, rfl, upd_same, ?_⟩ ?_
    · refine ⟨.ref D, _, [D], [], rfl, rfl, ⟨D, gs.map V.int, [], rfl, rfl, by rw [upd_ne n1]; exact hgs, itO_rep gs⟩, ?_⟩
      exact ⟨_, _, [], [], rfl, rfl, ⟨rfl, rfl⟩, ⟨_, _, [], [], rfl, rfl, ⟨rfl, rfl⟩, ⟨_, _, [], [], rfl, rfl, ⟨rfl, rfl⟩, ⟨_, _, [], [], rfl, rfl, ⟨rfl, rfl⟩, rfl, rfl⟩⟩⟩⟩
    · simp only [List.nodup_cons, List.mem_cons, List.not_mem_nil, or_false, not_false_eq_true, List.nodup_nil, and_true]
      exact n1.symm
end

/-! ### the data readings, step by step -/
theorem frL_map (ds : List D) : frL (ds.map .fr) = some ds := by
  induction ds with
  | nil => rfl
  | cons d r ih =>
    show (match frL (r.map .fr) with
      | some ds => some (d :: ds)
      | none => none) = _
    rw [ih]
theorem frzL_map (ds : List D) : O.frzL (ds.map .fr) = ds := by
  induction ds with
  | nil => rfl
  | cons d r ih =>
    show d :: O.frzL (r.map .fr) = _
    rw [ih]
/-- a list of data that is owned -/
abbrev oL (ds : List D) : O := .lst (ds.map .fr)
theorem oL_flat (ds : List D) : (oL ds).flat = some (.lst ds) := by
  show (match frL (ds.map .fr) with
    | some ds => some (D.lst ds)
    | none => none) = _
  rw [frL_map]
theorem oL_frz (ds : List D) : (oL ds).frz = .lst ds := by
  show D.lst (O.frzL (ds.map .fr)) = _
  rw [frzL_map]
section
variable {P : R → DEnv → Prop} {PB : Bool → DEnv → Prop} {PL : List R → DEnv → Prop} {PD : List D → DEnv → Prop} {X : DX} {env : DEnv} {i j : Nat} {path : List PSt} {DD : DEnds} {K : O → Prop} {KB : Bool → Prop} {KR : R → Prop} {KD : D → DEnv → Prop} {KO : O → DEnv → Prop} {KI : Int → Prop} {Kd : D → Prop}
  {a b c3 : DTE} {t u : DTT} {s s2 : DTS} {d e : D} {ds es : List D} {o : O} {os : List O} {n m : Int} {dr dr' : D → D → (O → Prop) → Prop} {f : Fn} {ta : DTA} {tv : DTV}
theorem a_seq (h : s { DD with nx := fun e => s2 DD e } env) : dSeq s s2 DD env := h
theorem a_next (h : DD.nx env) : dNext DD env := h
theorem a_break (h : DD.bk env) : dBreak DD env := h
theorem a_cont (h : DD.ct env) : dCont DD env := h
theorem a_ifs (h : t env (fun c env1 => if c = true then s DD env1 else s2 DD env1) DD.ex) : dIfS t s s2 DD env := h
theorem a_drop (h : a env (fun _ env1 => DD.nx env1) DD.ex) : dDrop a DD env := h
theorem a_retN (h : DD.rt (.fr .non) env) : dRetN DD env := h
theorem a_ret (h : a env (fun r env1 => retO r env1 DD.rt) DD.ex) : dRet a DD env := h
theorem a_asg {g : DG} (h : a env (fun r env1 => toO r env1 fun o env2 => g o env2 DD.nx DD.ex) DD.ex) : dAsg a g DD env := h
theorem a_retO (h : KO o env) : retO (.o o) env KO := h
theorem a_retP (h : env[i]? = some (.ow o)) (q : KO o (env.set i .un)) : retO (.p i []) env KO := by
  show (match env[i]? with
    | some (.ow o) => KO o (env.set i .un)
    | _ => False)
  rw [h]
  exact q
theorem a_toO (h : KO o env) : toO (.o o) env KO := h
theorem a_forceD (h : KD d env) : force (.d d) env KD := h
theorem a_forceN (h : KD (.lst ds) env) : force (.o (oL ds)) env KD := by
  show KD (oL ds).frz env
  rw [oL_frz]
  exact h
theorem a_forceL (h : env[i]? = some (.ow (oL ds))) (q : KD (.lst ds) (env.set i (.ow (.fr (.lst ds))))) : force (.p i []) env KD := by
  show (match env[i]? with
    | some (.ow o) => (match o.at [] with
      | some o1 => KD o1.frz (env.set i (.ow (o.put [] (.fr o1.frz))))
      | none => False)
    | some (.bo o) => False
    | _ => False)
  rw [h]
  show KD (oL ds).frz (env.set i (.ow (.fr (oL ds).frz)))
  rw [oL_frz]
  exact q
theorem a_toOL (h : env[i]? = some (.ow (oL ds))) (q : KO (.fr (.lst ds)) (env.set i (.ow (.fr (.lst ds))))) : toO (.p i []) env KO := a_forceL (KD := fun d => KO (.fr d)) h q
theorem a_force1 {C : Addr} {gs : List (Str × O)} (h : KD (O.ins C gs).frz env) : force (.o (.ins C gs)) env KD := h
theorem a_name {PE : DEnv → Prop} (h : ∃ o', env[i]? = some (.ow o')) (q : PE (env.set i (.ow o))) : dName i o env PE X := by
  obtain ⟨o', h⟩ := h
  unfold dName
  rw [h]
  exact q
theorem a_nameU {PE : DEnv → Prop} (h : env[i]? = some .un) (q : PE (env.set i (.ow o))) : dName i o env PE X := by
  unfold dName
  rw [h]
  exact q
theorem a_varD (h : env[i]? = some (.ow (.fr d))) (q : P (.d d) env) : dVar i env P X := by
  unfold dVar
  rw [h]
  exact q
theorem a_varL (h : env[i]? = some (.ow (.lst os))) (q : P (.p i []) env) : dVar i env P X := by
  unfold dVar
  rw [h]
  exact q
theorem a_varB (h : env[i]? = some (.bo o)) (q : P (.p i []) env) : dVar i env P X := by
  unfold dVar
  rw [h]
  exact q
theorem a_varoL (h : env[i]? = some (.ow (oL ds))) (q : P (.p i []) env) : dVar i env P X := a_varL h q
theorem a_c (q : P (.d d) env) : dC d env P X := q
theorem a_op (h : a env (fun r1 env1 => nrm r1 fun r1' => b env1 (fun r2 env2 => oth (peek r1' env2) fun d1 => oth (peek r2 env2) fun d2 => dr d1 d2 fun o => P (.o o) env2) X) X) : dOp dr a b env P X := h
theorem a_opP (h : a env (fun r1 env1 => b env1 (fun r2 env2 => oth (peek r1 env2) fun d1 => oth (peek r2 env2) fun d2 => dr d1 d2 fun o => P (.o o) env2) X) X) : dOpP dr a b env P X := h
theorem a_un {du : D → (O → Prop) → Prop} (h : a env (fun r1 env1 => oth (peek r1 env1) fun d1 => du d1 fun o => P (.o o) env1) X) : dUn du a env P X := h
theorem a_nrmD (h : KR (.d d)) : nrm (.d d) KR := h
theorem a_nrmP (h : KR (.p i [])) : nrm (.p i []) KR := h
theorem a_nrmL (h : KR (.d (.lst ds))) : nrm (.o (oL ds)) KR := by
  show KR (.d (oL ds).frz)
  rw [oL_frz]
  exact h
theorem a_pkD (h : Kd d) : oth (peek (.d d) env) Kd := h
theorem a_pkN (h : Kd (.lst ds)) : oth (peek (.o (oL ds)) env) Kd := by
  show oth (oL ds).flat Kd
  rw [oL_flat]
  exact h
theorem a_pkL (h : contAt env i path = some (oL ds)) (q : Kd (.lst ds)) : oth (peek (.p i path) env) Kd := by
  show oth (match contAt env i path with
    | some o => o.flat
    | none => none) Kd
  rw [h]
  show oth (oL ds).flat Kd
  rw [oL_flat]
  exact q
theorem a_pkF (h : contAt env i path = some (.fr d)) (q : Kd d) : oth (peek (.p i path) env) Kd := by
  show oth (match contAt env i path with
    | some o => o.flat
    | none => none) Kd
  rw [h]
  exact q
theorem a_test (h : a env (fun r env1 => asB r env1 fun b => PB b env1) X) : dTest a env PB X := h
theorem a_asB {bb : Bool} (h : KB bb) : asB (.d (.bl bb)) env KB := h
theorem a_and (h : t env (fun c env1 => if c = true then u env1 PB X else PB false env1) X) : dAnd t u env PB X := h
theorem a_or (h : t env (fun c env1 => if c = true then PB true env1 else u env1 PB X) X) : dOr t u env PB X := h
theorem a_not (h : t env (fun c env1 => PB (!c) env1) X) : dNot t env PB X := h
theorem a_yes (h : PB true env) : dYes env PB X := h
theorem a_if (h : t env (fun c env1 => if c = true then a env1 P X else b env1 P X) X) : dIf t a b env P X := h
theorem a_andV (h : a env (fun r env1 => asB r env1 fun c => if c = true then b env1 P X else P (.d (.bl false)) env1) X) : dAndV a b env P X := h
theorem a_orV (h : a env (fun r env1 => asB r env1 fun c => if c = true then P (.d (.bl true)) env1 else b env1 P X) X) : dOrV a b env P X := h
theorem a_notV (h : a env (fun r env1 => asB r env1 fun c => P (.d (.bl (!c))) env1) X) : dNotV a env P X := h
theorem a_chain (h : a env (fun r1 env1 => nrm r1 fun r1 => b env1 (fun r2 env2 => nrm r2 fun r2 => oth (peek r1 env2) fun d1 => oth (peek r2 env2) fun d2 => dr d1 d2 fun o => oth o.flat fun z => oth z.asB fun k =>
  if k = true then c3 env2 (fun r3 env3 => oth (peek r2 env3) fun d2 => oth (peek r3 env3) fun d3 => dr' d2 d3 fun o => P (.o o) env3) X else P (.d (.bl false)) env2) X) X) : dChain dr dr' a b c3 env P X := h
theorem a_flD (h : Kd d) : oth (O.fr d).flat Kd := h
theorem a_asb {bb : Bool} (h : KB bb) : oth (D.bl bb).asB KB := h
theorem a_nilA (h : PL [] env) : dNilA env PL X := h
theorem a_lastA (h : a env (fun r env1 => PL [r] env1) X) : dLastA a env PL X := h
theorem a_consA (h : a env (fun r env1 => nrm r fun r => ta env1 (fun rs env2 => PL (r :: rs) env2) X) X) : dConsA a ta env PL X := h
theorem a_nilV (h : PD [] env) : dNilV env PD X := h
theorem a_consV (h : a env (fun r env1 => force r env1 fun d env2 => tv env2 (fun ds env3 => PD (d :: ds) env3) X) X) : dConsV a tv env PD X := h
theorem a_cb {db : List D → (O → Prop) → Prop} (h : ta env (fun rs env1 => oth (peekL rs env1) fun ds => db ds fun o => P (.o o) env1) X) : dCB db ta env P X := h
theorem a_pk1 {r : R} {Kl : List D → Prop} (h : oth (peek r env) fun d => Kl [d]) : oth (peekL [r] env) Kl := by
  unfold peekL
  cases e : peek r env with
  | none => rw [e] at h; exact h.elim
  | some d => rw [e] at h; exact h
theorem a_pk2 {r r2 : R} {Kl : List D → Prop} (h : oth (peek r env) fun d => oth (peek r2 env) fun e => Kl [d, e]) : oth (peekL [r, r2] env) Kl := by
  unfold peekL
  cases e : peek r env with
  | none => rw [e] at h; exact h.elim
  | some d =>
    rw [e] at h
    unfold peekL
    cases e2 : peek r2 env with
    | none => rw [e2] at h; exact h.elim
    | some d2 => rw [e2] at h; exact h
theorem a_tup (h : tv env (fun ds env1 => ds.length ≤ sizeLine ∧ P (.d (.tup ds)) env1) X) : dTup tv env P X := h
theorem a_lst (h : tv env (fun ds env1 => ds.length ≤ sizeLine ∧ P (.o (oL ds)) env1) X) : dLst tv env P X := h
theorem a_call {bb : Bool} (h : tv env (fun ds env1 => f (ds.map .fr) (fun o _ => P (.o o) env1) (fun e _ => bb = true ∧ X e env1)) X) : dCall bb f tv env P X := h
def oneP (K1 : O → Prop) (ps : List O) : Prop := match ps with
  | [o'] => K1 o'
  | _ => False
theorem a_one {K1 : O → Prop} (h : K1 o) : oneP K1 [o] := h
/-- .. a slot's own object -/
def callAt (bb : Bool) (f : Fn) (i : Nat) (P : R → DEnv → Prop) (X : DX) (ds : List D) (env1 : DEnv) : Prop := match env1[i]? with
  | some s => (match s.cont with
    | some o => f (o :: ds.map .fr) (fun r ps => oneP (fun o' => P (.o r) (env1.set i (s.re o'))) ps) (fun e ps => oneP (fun o' => bb = true ∧ X e (env1.set i (s.re o'))) ps)
    | none => False)
  | none => False
theorem a_callM {bb : Bool} {u : O} (h0 : contAt env i [] = some u) (h : tv env (fun ds env1 => callAt bb f i P X ds env1) X) : dCallM bb f i tv env P X := ⟨by rw [h0]; rfl, h⟩
theorem a_callO {bb : Bool} (h : env[i]? = some (.ow o)) (q : f (o :: ds.map .fr) (fun r ps => oneP (fun o' => P (.o r) (env.set i (.ow o'))) ps) (fun e ps => oneP (fun o' => bb = true ∧ X e (env.set i (.ow o'))) ps)) : callAt bb f i P X ds env := by
  unfold callAt
  rw [h]
  exact q
theorem a_callB {bb : Bool} (h : env[i]? = some (.bo o)) (q : f (o :: ds.map .fr) (fun r ps => oneP (fun o' => P (.o r) (env.set i (.bo o'))) ps) (fun e ps => oneP (fun o' => bb = true ∧ X e (env.set i (.bo o'))) ps)) : callAt bb f i P X ds env := by
  unfold callAt
  rw [h]
  exact q
theorem a_make {bb : Bool} {C : Addr} (h : tv env (fun ds env1 => f (.ins C [] :: ds.map .fr) (fun r ps => r = .fr .non ∧ oneP (fun o' => P (.o o') env1) ps) (fun e _ => bb = true ∧ X e env1)) X) : dMake bb C f tv env P X := h
theorem a_fld {Cs : List Addr} {fl : Str} (h : a env (fun r env1 => fldR Cs fl r env1 fun r' => P r' env1) X) : dFld Cs fl a env P X := h
theorem a_fldD {Cs : List Addr} {fl : Str} {C : Addr} {gs : List (Str × D)} (h : C ∈ Cs) (l : gs.lookup fl = some d) (q : KR (.d d)) : fldR Cs fl (.d (.ins C gs)) env KR := by
  show C ∈ Cs ∧ oth (gs.lookup fl) fun d => KR (.d d)
  rw [l]
  exact ⟨h, q⟩
theorem a_setF {Cs : List Addr} {fl : Str} (h : a env (fun r env1 => toO r env1 fun o env2 => oth (contAt env2 i []) fun u => match u with
  | .ins C gs => (C ∈ Cs ∧ gs.length < 1000) ∧ DD.nx (setAt env2 i [] (.ins C (putFD fl o gs)))
  | _ => False) DD.ex) : dSetF Cs i fl a DD env := h
theorem a_ix (h : a env (fun r1 env1 => b env1 (fun r2 env2 => asI r2 env2 fun k => ixR r1 k env2 fun r => P r env2) X) X) : dIx a b env P X := h
theorem a_ixE (h : a env (fun r1 env1 => nrm r1 fun r1 => b env1 (fun r2 env2 => asI r2 env2 fun k => ixR r1 k env2 fun r => P r env2) X) X) : dIxE a b env P X := h
theorem a_asI (h : KI n) : asI (.d (.int n)) env KI := h
theorem a_ixT (l : atI ds n = some d) (q : KR (.d d)) : ixR (.d (.tup ds)) n env KR := by
  show oth (atI ds n) fun d => KR (.d d)
  rw [l]
  exact q
theorem a_ixL (l : atI ds n = some d) (q : KR (.d d)) : ixR (.d (.lst ds)) n env KR := by
  show oth (atI ds n) fun d => KR (.d d)
  rw [l]
  exact q
theorem a_ixP (h : contAt env i path = some (oL ds)) (l : atI ds n = some d) (q : KR (.d d)) : ixR (.p i path) n env KR := by
  unfold ixR
  have e : peek (.p i path) env = some (.lst ds) := by
    show (match contAt env i path with
      | some o => o.flat
      | none => none) = _
    rw [h]
    exact oL_flat ds
  rw [e]
  show oth (atI ds n) fun d => KR (.d d)
  rw [l]
  exact q
theorem a_ixN (h : a = a) (l : atI ds n = some d) (q : KR (.d d)) : ixR (.o (oL ds)) n env KR := by
  unfold ixR
  have e : peek (.o (oL ds)) env = some (.lst ds) := oL_flat ds
  rw [e]
  show oth (atI ds n) fun d => KR (.d d)
  rw [l]
  exact q
theorem a_sl {dl dh : DTO} (h : a env (fun r env1 => dl env1 (fun lo env2 => dh env2 (fun hi env3 => oth (peek r env3) fun d => slR d lo hi fun o => P (.o o) env3) X) X) X) : dSl a dl dh env P X := h
theorem a_noPart {PO : Option Int → DEnv → Prop} (h : PO none env) : dNoPart env PO X := h
theorem a_part {PO : Option Int → DEnv → Prop} (h : a env (fun r env1 => asI r env1 fun k => PO (some k) env1) X) : dPart a env PO X := h
theorem a_slL {lo hi : Option Int} (h : K (oL (cutD ds lo hi))) : slR (.lst ds) lo hi K := h
theorem a_slT {lo hi : Option Int} (h : K (.fr (.tup (cutD ds lo hi)))) : slR (.tup ds) lo hi K := h
theorem a_iter {PI : List D → DEnv → Prop} (h : a env (fun r env1 => force r env1 fun d env2 => match d with
  | .lst ds => PI ds env2
  | .tup ds => PI ds env2
  | _ => False) X) : dIter a env PI X := h
theorem a_rng1 {PI : List D → DEnv → Prop} (h : ta env (fun rs env1 => oth (peekL rs env1) fun ds => match ds with
  | [.int j] => -(2 ^ 62) ≤ j ∧ j < 2 ^ 62 ∧ PI (rgD 0 j.toNat) env1
  | _ => False) X) : dRng1 ta env PI X := h
theorem a_rng2 {PI : List D → DEnv → Prop} (h : ta env (fun rs env1 => oth (peekL rs env1) fun ds => match ds with
  | [.int i, .int j] => (-(2 ^ 62) ≤ i ∧ i < 2 ^ 62 ∧ -(2 ^ 62) ≤ j ∧ j < 2 ^ 62) ∧ PI (rgD i (j - i).toNat) env1
  | _ => False) X) : dRng2 ta env PI X := h
theorem a_rgb {A : Prop} {z : Int} (b : -1000000 ≤ z ∧ z ≤ 1000000) (h : A) : -(2 ^ 62) ≤ z ∧ z < 2 ^ 62 ∧ A := ⟨by omega, by omega, h⟩
theorem a_rgb2 {A : Prop} {y z : Int} (b : -1000000 ≤ y ∧ y ≤ 1000000 ∧ -1000000 ≤ z ∧ z ≤ 1000000) (h : A) : (-(2 ^ 62) ≤ y ∧ y < 2 ^ 62 ∧ -(2 ^ 62) ≤ z ∧ z < 2 ^ 62) ∧ A := ⟨⟨by omega, by omega, by omega, by omega⟩, h⟩
theorem a_for {di : DTI} {g : DG} (h : di env (fun ds env1 => dForGo g s DD ds env1) DD.ex) : dFor di g s DD env := h
/-- a loop by what holds ahead of turn k -/
theorem a_forI {g : DG} (I : Nat → DEnv → Prop) (h0 : I 0 env) (hs : ∀ (k : Nat) (d : D) (env : DEnv) (NX : DEnv → Prop), ds[k]? = some d → I k env → (∀ e, I (k + 1) e → NX e) → g (.fr d) env (fun env1 => s { DD with nx := NX, ct := NX, bk := DD.nx } env1) DD.ex)
    (hd : ∀ env, I ds.length env → DD.nx env) : dForGo g s DD ds env := by
  have go : ∀ (n k : Nat) (env : DEnv), n + k = ds.length → I k env → dForGo g s DD (ds.drop k) env := by
    intro n
    induction n with
    | zero =>
      intro k env e h
      rw [List.drop_eq_nil_of_le (by omega)]
      have : k = ds.length := by omega
      subst this
      exact hd env h
    | succ n ih =>
      intro k env e h
      have hk : k < ds.length := by omega
      rw [List.drop_eq_getElem_cons hk]
      exact hs k ds[k] env _ (List.getElem?_eq_getElem hk) h fun e' h' => ih (k + 1) e' (by omega) h'
  have := go ds.length 0 env (by omega) h0
  exact this
theorem a_while {t : DTT} (I : Nat → DEnv → Prop) {m0 : Nat} (h0 : I m0 env) (hs : ∀ (m : Nat) (env : DEnv) (NX : DEnv → Prop), I m env → (∀ m' e, m' < m → I m' e → NX e) → t env (fun b env1 => if b = true then s { DD with nx := NX, ct := NX, bk := DD.nx } env1 else DD.nx env1) DD.ex) : dWhile t s DD env := by
  have go : ∀ (n m : Nat) (env : DEnv), m < n → I m env → dWhileGo t s DD n env := by
    intro n
    induction n with
    | zero => intro m env h; omega
    | succ n ih => intro m env h hi; exact hs m env _ hi fun m' e h' hi' => ih m' e (by omega) hi'
  exact ⟨m0 + 1, go _ m0 env (Nat.lt_succ_self _) h0⟩
theorem a_lc {di : DTI} {g : DG} {vs : List Nat} (h : di env (fun ds env1 => dLcGo g t a vs (fun acc env2 => P (.o (.lst acc)) env2) (fun _ _ => False) ds [] env1) X) : dLc di g t a vs env P X := h
/-- a turn of a comprehension -/
def lcT (g : DG) (t : DTT) (a : DTE) (vs : List Nat) (d : D) (acc : List O) (env : DEnv) (NX : List O → DEnv → Prop) : Prop :=
  noBo env vs ∧ g (.fr d) (wipeD env vs) (fun env1 => t env1 (fun b env2 => if b = true then a env2 (fun q env3 => toO q env3 fun o env4 => acc.length < sizeLine ∧ NX (acc ++ [o]) (backD env env4 vs)) (fun _ _ => False) else NX acc (backD env env2 vs)) (fun _ _ => False)) (fun _ _ => False)
theorem a_lcI {g : DG} {vs : List Nat} {PA : List O → DEnv → Prop} (I : Nat → List O → DEnv → Prop) (h0 : I 0 [] env) (hs : ∀ (k : Nat) (d : D) (acc : List O) (env : DEnv) (NX : List O → DEnv → Prop), ds[k]? = some d → I k acc env → (∀ acc e, I (k + 1) acc e → NX acc e) → lcT g t a vs d acc env NX)
    (hd : ∀ acc env, I ds.length acc env → PA acc env) : dLcGo g t a vs PA (fun _ _ => False) ds [] env := by
  have go : ∀ (n k : Nat) (acc : List O) (env : DEnv), n + k = ds.length → I k acc env → dLcGo g t a vs PA (fun _ _ => False) (ds.drop k) acc env := by
    intro n
    induction n with
    | zero =>
      intro k acc env e h
      rw [List.drop_eq_nil_of_le (by omega)]
      have : k = ds.length := by omega
      subst this
      exact hd acc env h
    | succ n ih =>
      intro k acc env e h
      have hk : k < ds.length := by omega
      rw [List.drop_eq_getElem_cons hk]
      exact hs k ds[k] acc env _ (List.getElem?_eq_getElem hk) h fun acc' e' h' => ih (k + 1) acc' e' (by omega) h'
  have := go ds.length 0 [] env (by omega) h0
  exact this
/-- a comprehension of data that leaves the slots -/
theorem a_lcP {g : DG} {vs : List Nat} {PA : List O → DEnv → Prop} (fm : D → Option D) (hl : ds.length < sizeLine) (hs : ∀ (k : Nat) (d : D) (acc : List O) (NX : List O → DEnv → Prop), ds[k]? = some d → acc.length < sizeLine → (∀ e, fm d = some e → NX (acc ++ [.fr e]) env) → (fm d = none → NX acc env) → lcT g t a vs d acc env NX)
    (hd : PA ((ds.filterMap fm).map .fr) env) : dLcGo g t a vs PA (fun _ _ => False) ds [] env := by
  refine a_lcI (fun k acc e => e = env ∧ acc = ((ds.take k).filterMap fm).map .fr) ⟨rfl, rfl⟩ ?_ ?_
  · rintro k d acc env' NX hk ⟨rfl, rfl⟩ nx
    have hk' := (List.getElem?_eq_some_iff.mp hk).1
    have tk : ds.take (k + 1) = ds.take k ++ [d] := take_snoc hk
    refine hs k d _ NX hk ?_ (fun e he => nx _ _ ⟨rfl, ?_⟩) fun he => nx _ _ ⟨rfl, ?_⟩
    · rw [List.length_map]
      have := List.length_filterMap_le fm (ds.take k)
      rw [List.length_take] at this
      omega
    · rw [tk, List.filterMap_append, List.map_append, List.filterMap_cons, he]; rfl
    · rw [tk, List.filterMap_append, List.map_append, List.filterMap_cons, he, List.filterMap_nil, List.map_nil, List.append_nil]
  · rintro acc e ⟨rfl, rfl⟩
    rw [List.take_length]
    exact hd
/-- xs.append(e) -/
def appK (i : Nat) (o : O) (env2 : DEnv) (P : R → DEnv → Prop) : Prop := oth (contAt env2 i []) fun u => match u with
  | .lst os => fAppend os o fun os' z => P (.o z) (setAt env2 i [] (.lst os'))
  | _ => False
theorem a_append (h : contAt env i [] = some (.lst os)) (q : a env (fun r env1 => toO r env1 fun o env2 => appK i o env2 P) X) : dMeth1 fAppend i a env P X := ⟨by rw [h]; rfl, q⟩
theorem a_app (h : env[i]? = some (.ow (oL ds))) (l : ds.length < 1000) (q : P (.d .non) (env.set i (.ow (oL (ds ++ [d]))))) : appK i (.fr d) env P := by
  unfold appK
  have e : contAt env i [] = some (oL ds) := by
    unfold contAt
    rw [h]
    rfl
  rw [e]
  refine ⟨by rw [List.length_map]; exact small1000 (by omega), ?_⟩
  have e2 : setAt env i [] (.lst (ds.map .fr ++ [.fr d])) = env.set i (.ow (oL (ds ++ [d]))) := by
    unfold setAt
    rw [h]
    show env.set i (.ow (.lst (ds.map .fr ++ [.fr d]))) = _
    unfold oL
    rw [List.map_append]
    rfl
  show P (.d .non) (setAt env i [] (.lst (ds.map .fr ++ [.fr d])))
  rw [e2]
  exact q
/-! operations -/
theorem a_addI {x y : Int} (h : K (.fr (.int (x + y)))) : dAdd (.int x) (.int y) K := h
theorem a_addT (l : ds.length + es.length ≤ 1000) (h : K (.fr (.tup (ds ++ es)))) : dAdd (.tup ds) (.tup es) K := ⟨Nat.le_of_lt (small1000 l), h⟩
theorem a_addL (l : ds.length + es.length ≤ 1000) (h : K (oL (ds ++ es))) : dAdd (.lst ds) (.lst es) K := ⟨Nat.le_of_lt (small1000 l), h⟩
theorem a_I0 {x y : Int} {g : Int → Int → D} (h : K (.fr (g x y))) : dI0 g (.int x) (.int y) K := h
theorem a_I2 {x y : Int} {C : Int → Int → Prop} {g : Int → Int → D} (c : C x y) (h : K (.fr (g x y))) : dI2 C g (.int x) (.int y) K := ⟨c, h⟩
theorem a_ltI {x y : Int} (h : K (.fr (.bl (decide (x < y))))) : dLtG (.int x) (.int y) K := h
theorem a_eqI {x y : Int} (h : K (.fr (.bl (decide (x = y))))) : dEq (.int x) (.int y) K := ⟨rfl, rfl, by
  have e : PyData.eqv (.int x) (.int y) = decide (x = y) := by rw [Bool.eq_iff_iff]; show (x == y) = true ↔ _; simp
  rw [e]; exact h⟩
theorem a_neI {x y : Int} (h : K (.fr (.bl (!decide (x = y))))) : dNe (.int x) (.int y) K := ⟨rfl, rfl, by
  have e : PyData.eqv (.int x) (.int y) = decide (x = y) := by rw [Bool.eq_iff_iff]; show (x == y) = true ↔ _; simp
  rw [e]; exact h⟩
theorem a_eqB {x y : Bool} (h : K (.fr (.bl (decide (x = y))))) : dEq (.bl x) (.bl y) K := ⟨rfl, rfl, by
  have e : PyData.eqv (.bool x) (.bool y) = decide (x = y) := by cases x <;> cases y <;> rfl
  rw [e]; exact h⟩
theorem a_neB {x y : Bool} (h : K (.fr (.bl (!decide (x = y))))) : dNe (.bl x) (.bl y) K := ⟨rfl, rfl, by
  have e : PyData.eqv (.bool x) (.bool y) = decide (x = y) := by cases x <;> cases y <;> rfl
  rw [e]; exact h⟩
theorem a_isN (h : K (.fr (.bl d.isN))) : dIs d .non K := h
theorem a_isNot (h : K (.fr (.bl (!d.isN)))) : dIsNot d .non K := h
theorem a_lenL (h : K (.fr (.int ds.length))) : dLen [.lst ds] K := h
theorem a_lenT (h : K (.fr (.int ds.length))) : dLen [.tup ds] K := h
theorem a_absI {x : Int} (h : K (.fr (.int (if x < 0 then -x else x)))) : dAbs [.int x] K := h
theorem a_intI {x : Int} (h : K (.fr (.int x))) : dInt [.int x] K := h
theorem a_intB {x : Bool} (h : K (.fr (.int (if x then 1 else 0)))) : dInt [.bl x] K := h
theorem a_tupL (h : K (.fr (.tup ds))) : dTuple [.lst ds] K := h
theorem a_tupT (h : K (.fr (.tup ds))) : dTuple [.tup ds] K := h
theorem a_lstL (h : K (oL ds)) : dList [.lst ds] K := h
theorem a_lstT (h : K (oL ds)) : dList [.tup ds] K := h
theorem a_bound {A : Prop} {k : Nat} (l : k ≤ 1000) (h : A) : k ≤ sizeLine ∧ A := ⟨Nat.le_of_lt (small1000 l), h⟩
theorem a_bound' {A : Prop} {k : Nat} (l : k < 1000) (h : A) : k < sizeLine ∧ A := ⟨small1000 (by omega), h⟩
/-! parts of lists that are owned -/
theorem a_ixO {jj : Nat} (h : contAt env i path = some (.lst os)) (hn : frL os = none) (hj : ixN os.length n = some jj) (ho : os[jj]? = some (.fr d)) (q : KR (.d d)) : ixR (.p i path) n env KR := by
  unfold ixR
  have e : peek (.p i path) env = none := by
    show (match contAt env i path with
      | some o => o.flat
      | none => none) = _
    rw [h]
    show (match frL os with
      | some ds => some (D.lst ds)
      | none => none) = _
    rw [hn]
  rw [e]
  dsimp only
  rw [h]
  show oth (ixN os.length n) _
  rw [hj]
  show oth os[jj]? _
  rw [ho]
  exact q
theorem a_ixO' {jj : Nat} {us : List O} (h : contAt env i path = some (.lst os)) (hn : frL os = none) (hj : ixN os.length n = some jj) (ho : os[jj]? = some (.lst us)) (q : KR (.p i (path ++ [.ix jj]))) : ixR (.p i path) n env KR := by
  unfold ixR
  have e : peek (.p i path) env = none := by
    show (match contAt env i path with
      | some o => o.flat
      | none => none) = _
    rw [h]
    show (match frL os with
      | some ds => some (D.lst ds)
      | none => none) = _
    rw [hn]
  rw [e]
  dsimp only
  rw [h]
  show oth (ixN os.length n) _
  rw [hj]
  show oth os[jj]? _
  rw [ho]
  exact q
def subK (r1 r2 : R) (o : O) (env2 : DEnv) (PE : DEnv → Prop) : Prop := match r1, peek r2 env2 with
  | .p i path, some (.int k) => oth (contAt env2 i path) fun u => (match u with
    | .lst os => oth (ixN os.length k) fun j => PE (setAt env2 i path (.lst (os.set j o)))
    | _ => False)
  | _, _ => False
theorem a_sub {PE : DEnv → Prop} (h : a env (fun r1 env1 => b env1 (fun r2 env2 => subK r1 r2 o env2 PE) X) X) : dSub a b o env PE X := h
theorem a_subK {PE : DEnv → Prop} {jj : Nat} (h : contAt env i path = some (.lst os)) (hj : ixN os.length n = some jj) (q : PE (setAt env i path (.lst (os.set jj o)))) : subK (.p i path) (.d (.int n)) o env PE := by
  show oth (contAt env i path) fun u => (match u with
    | .lst os => oth (ixN os.length n) fun j => PE (setAt env i path (.lst (os.set j o)))
    | _ => False)
  rw [h]
  show oth (ixN os.length n) _
  rw [hj]
  exact q
theorem oL_ints (ns : List Int) : itO ns = oL (ns.map .int) := by
  unfold itO oL
  rw [List.map_map]
  rfl
/-- a join -/
theorem a_cut (Mid : DEnv → Prop) (h : ∀ NX : DEnv → Prop, (∀ e, Mid e → NX e) → s { DD with nx := NX } env) (k : ∀ e, Mid e → s2 DD e) : dCut s s2 DD env := h _ k
theorem a_cut0 (h : dSeq s s2 DD env) : dCut s s2 DD env := h
theorem cutD1 (ns : List Int) : cutD (ns.map .int) (some 1) none = (ns.drop 1).map .int := by
  unfold cutD
  rw [show HT.sIx (ns.map D.int).length 0 (some 1) = min 1 (ns.map D.int).length from HT.sIx_nat (ns.map D.int).length 0 1, HT.sIx_none]
  cases ns with
  | nil => rfl
  | cons x r =>
    rw [show min 1 ((x :: r).map D.int).length = 1 by
      rw [List.map_cons, List.length_cons]
      omega]
    show List.take (((x :: r).map D.int).length - 1) (r.map D.int) = r.map D.int
    rw [List.map_cons, List.length_cons, Nat.add_sub_cancel]
    exact List.take_length
theorem atI_of {α : Type} {xs : List α} {z : Int} {jj : Nat} {x : α} (e : z = (jj : Int)) (h : xs[jj]? = some x) : atI xs z = some x := by
  unfold atI
  rw [ixN_of e (List.getElem?_eq_some_iff.mp h).1]
  exact h
/-- a comprehension without a test -/
theorem a_lcM {g : DG} {vs : List Nat} {PA : List O → DEnv → Prop} (fm : D → D) (hl : ds.length < 1000) (hs : ∀ (k : Nat) (d : D) (acc : List O) (NX : List O → DEnv → Prop), ds[k]? = some d → acc.length < sizeLine → NX (acc ++ [.fr (fm d)]) env → lcT g t a vs d acc env NX)
    (hd : PA ((ds.map fm).map .fr) env) : dLcGo g t a vs PA (fun _ _ => False) ds [] env := by
  refine a_lcP (fun x => some (fm x)) (small1000 (by omega)) (fun k d acc NX hk ha nx _ => hs k d acc NX hk ha (nx _ rfl)) ?_
  rw [List.filterMap_eq_map']
  exact hd
/-- .. that tells the items for which a test holds -/
theorem a_lcF {g : DG} {vs : List Nat} {PA : List O → DEnv → Prop} (p : D → Bool) (hl : ds.length < 1000) (hs : ∀ (k : Nat) (d : D) (acc : List O) (NX : List O → DEnv → Prop), ds[k]? = some d → acc.length < sizeLine → (p d = true → NX (acc ++ [.fr d]) env) → (p d = false → NX acc env) → lcT g t a vs d acc env NX)
    (hd : PA ((ds.filter p).map .fr) env) : dLcGo g t a vs PA (fun _ _ => False) ds [] env := by
  refine a_lcP (fun x => if p x = true then some x else none) (small1000 (by omega)) (fun k d acc NX hk ha nx nx' => hs k d acc NX hk ha (fun e => nx _ (by rw [if_pos e])) fun e => nx' (by rw [if_neg (by rw [e]; decide)])) ?_
  rw [show (fun x => if p x = true then some x else none) = Option.guard p from by funext x; simp [Option.guard]]
  rw [List.filterMap_eq_filter]
  exact hd
theorem a_allE {bs : List Bool} (e : asBls ds = some bs) (h : K (.fr (.bl (bs.all id)))) : dAll [.lst ds] K := by
  show oth (asBls ds) _
  rw [e]
  exact h
theorem a_anyE {bs : List Bool} (e : asBls ds = some bs) (h : K (.fr (.bl (bs.any id)))) : dAny [.lst ds] K := by
  show oth (asBls ds) _
  rw [e]
  exact h
theorem a_sumE {ns : List Int} (e : asInts ds = some ns) (h : K (.fr (.int ns.sum))) : dSum [.lst ds] K := by
  show oth (asInts ds) _
  rw [e]
  exact h
/-- xs.extend(e) -/
def extK (i : Nat) (o : O) (env2 : DEnv) (P : R → DEnv → Prop) : Prop := oth (contAt env2 i []) fun u => match u with
  | .lst os => fExtend os o fun os' z => P (.o z) (setAt env2 i [] (.lst os'))
  | _ => False
theorem a_extend (h : contAt env i [] = some (.lst os)) (q : a env (fun r env1 => toO r env1 fun o env2 => extK i o env2 P) X) : dMeth1 fExtend i a env P X := ⟨by rw [h]; rfl, q⟩
theorem a_extL (h : env[i]? = some (.ow (oL ds))) (l : ds.length + es.length ≤ 1000) (q : P (.d .non) (env.set i (.ow (oL (ds ++ es))))) : extK i (oL es) env P := by
  unfold extK
  have e : contAt env i [] = some (oL ds) := by
    unfold contAt
    rw [h]
    rfl
  rw [e]
  refine ⟨by rw [List.length_map, List.length_map]; exact Nat.le_of_lt (small1000 l), ?_⟩
  have e2 : setAt env i [] (.lst (ds.map .fr ++ es.map .fr)) = env.set i (.ow (oL (ds ++ es))) := by
    unfold setAt
    rw [h]
    show env.set i (.ow (.lst (ds.map .fr ++ es.map .fr))) = env.set i (.ow (.lst ((ds ++ es).map .fr)))
    rw [List.map_append]
  show P (.d .non) (setAt env i [] (.lst (ds.map .fr ++ es.map .fr)))
  rw [e2]
  exact q
theorem a_extF (h : env[i]? = some (.ow (oL ds))) (l : ds.length + es.length ≤ 1000) (q : P (.d .non) (env.set i (.ow (oL (ds ++ es))))) : extK i (.fr (.lst es)) env P := by
  unfold extK
  have e : contAt env i [] = some (oL ds) := by
    unfold contAt
    rw [h]
    rfl
  rw [e]
  refine ⟨by rw [List.length_map]; exact Nat.le_of_lt (small1000 l), ?_⟩
  have e2 : setAt env i [] (.lst (ds.map .fr ++ es.map .fr)) = env.set i (.ow (oL (ds ++ es))) := by
    unfold setAt
    rw [h]
    show env.set i (.ow (.lst (ds.map .fr ++ es.map .fr))) = env.set i (.ow (.lst ((ds ++ es).map .fr)))
    rw [List.map_append]
  show P (.d .non) (setAt env i [] (.lst (ds.map .fr ++ es.map .fr)))
  rw [e2]
  exact q
theorem rgD_len (lo : Int) (k : Nat) : (rgD lo k).length = k := by unfold rgD; rw [List.length_map, List.length_range]
theorem rgD_at {lo : Int} {k l : Nat} {d : D} (h : (rgD lo k)[l]? = some d) : l < k ∧ d = .int (lo + (l : Nat)) := by
  have hl := (List.getElem?_eq_some_iff.mp h).1
  rw [rgD_len] at hl
  unfold rgD at h
  rw [List.getElem?_map, List.getElem?_range hl] at h
  exact ⟨hl, (Option.some.inj h).symm⟩
theorem cutD_take {α : Type} (f : α → D) (ns : List α) (v : Nat) : cutD (ns.map f) none (some (v : Int)) = (ns.take v).map f := by
  unfold cutD
  rw [HT.sIx_none, HT.sIx_nat]
  show ((ns.map f).drop 0).take (min v (ns.map f).length - 0) = _
  rw [List.drop_zero, Nat.sub_zero, List.map_take]
  by_cases hv : v ≤ (ns.map f).length
  · rw [Nat.min_eq_left hv]
  · rw [Nat.min_eq_right (by omega), List.take_length, List.take_of_length_le (by omega)]
theorem a_nameS {PE : DEnv → Prop} {sl : S} (h : env[i]? = some sl) (hb : sl.isBo = false) (q : PE (env.set i (.ow o))) : dName i o env PE X := by
  unfold dName
  rw [h]
  cases sl with
  | bo _ => cases hb
  | _ => exact q
theorem keepS_bo (sl : S) : (keepS sl).isBo = false := by
  cases sl with
  | ow o => cases o <;> rfl
  | _ => rfl
theorem keepS_cases {sl : S} (h : keepS sl = sl) : sl = .un ∨ ∃ d, sl = .ow (.fr d) := by
  cases sl with
  | un => exact .inl rfl
  | bo o => cases h
  | ow o =>
    cases o with
    | fr d => exact .inr ⟨d, rfl⟩
    | _ => cases h
theorem a_gtup {PE : DEnv → Prop} {gs : DGs} {k : Nat} (l : ds.length = k) (h : gs ds env PE X) : dGTup k gs (.fr (.tup ds)) env PE X := ⟨l, h⟩
theorem a_gcons {PE : DEnv → Prop} {g : DG} {gs : DGs} (h : g (.fr d) env (fun env1 => gs ds env1 PE X) X) : dGCons g gs (d :: ds) env PE X := h
theorem a_gnil {PE : DEnv → Prop} (h : PE env) : dGNil [] env PE X := ⟨rfl, h⟩
theorem a_sortP {ps : List (Int × Int)} (h : ∀ qs : List (Int × Int), qs.Perm ps → qs.Pairwise (fun a b => a.1 < b.1 ∨ a.1 = b.1 ∧ a.2 ≤ b.2) → K (oL (qs.map prD))) : dSorted [.lst (ps.map prD)] K := by
  show (match asInts (ps.map prD) with
    | some ns => ∀ ms : List Int, ms.Perm ns → ms.Pairwise (· ≤ ·) → K (.lst (ms.map fun i => .fr (.int i)))
    | none => oth (asPrs (ps.map prD)) fun ps => ∀ qs : List (Int × Int), qs.Perm ps → qs.Pairwise (fun a b => a.1 < b.1 ∨ a.1 = b.1 ∧ a.2 ≤ b.2) → K (.lst (qs.map fun p => .fr (prD p))))
  cases ps with
  | nil =>
    intro ms pm _
    rw [List.Perm.eq_nil pm]
    exact h [] (List.Perm.refl _) List.Pairwise.nil
  | cons x r =>
    show oth (asPrs ((x :: r).map prD)) _
    rw [asPrs_map]
    intro qs pm so
    have := h qs pm so
    unfold oL at this
    rw [List.map_map] at this
    exact this
theorem a_sortI {ns : List Int} (h : ∀ ms : List Int, ms.Perm ns → ms.Pairwise (· ≤ ·) → K (oL (ms.map .int))) : dSorted [.lst (ns.map .int)] K := by
  show (match asInts (ns.map .int) with
    | some ns => ∀ ms : List Int, ms.Perm ns → ms.Pairwise (· ≤ ·) → K (.lst (ms.map fun i => .fr (.int i)))
    | none => _)
  rw [asInts_map]
  intro ms pm so
  have := h ms pm so
  unfold oL at this
  rw [List.map_map] at this
  exact this
theorem a_sortT {ns : List Int} (h : ∀ ms : List Int, ms.Perm ns → ms.Pairwise (· ≤ ·) → K (oL (ms.map .int))) : dSorted [.tup (ns.map .int)] K := by
  show oth (asInts (ns.map .int)) _
  rw [asInts_map]
  intro ms pm so
  have := h ms pm so
  unfold oL at this
  rw [List.map_map] at this
  exact this
/-! xs[i].append(e) -/
def methNF (fm : List O → O → (List O → O → Prop) → Prop) (i : Nat) (path : List PSt) (o0 o : O) (env3 : DEnv) (P : R → DEnv → Prop) : Prop := oth env3[i]? fun s3 => s3.isUn = true ∧ oth (o0.at path) fun u => (match u with
    | .lst os => fm os o fun os' z => P (.o z) (env3.set i (.ow (o0.put path (.lst os'))))
    | _ => False)
def methNK (fm : List O → O → (List O → O → Prop) → Prop) (b : DTE) (env : DEnv) (P : R → DEnv → Prop) (r : R) : Prop := match r with
  | .p i path => oth env[i]? fun s => oth s.owO fun o0 => isL (o0.at path) = true ∧ b (env.set i .un) (fun q env2 => toO q env2 fun o env3 => methNF fm i path o0 o env3 P) (fun _ _ => False)
  | _ => False
theorem a_methN {fm : List O → O → (List O → O → Prop) → Prop} (h : a env (fun r _ => methNK fm b env P r) (fun _ _ => False)) : dMethN1 fm a b env P X := h
theorem a_methNK {fm : List O → O → (List O → O → Prop) → Prop} {rows us : List O} {jj : Nat} (h : env[i]? = some (.ow (.lst rows))) (hr : rows[jj]? = some (.lst us)) (q : b (env.set i .un) (fun q env2 => toO q env2 fun o env3 => methNF fm i [.ix jj] (.lst rows) o env3 P) (fun _ _ => False)) : methNK fm b env P (.p i ([] ++ [.ix jj])) := by
  show oth env[i]? fun s => oth s.owO fun o0 => isL (o0.at [.ix jj]) = true ∧ b (env.set i .un) (fun q env2 => toO q env2 fun o env3 => methNF fm i [.ix jj] o0 o env3 P) (fun _ _ => False)
  rw [h]
  refine ⟨?_, q⟩
  show isL (match rows[jj]? with
    | some o => o.at []
    | none => none) = true
  rw [hr]
  rfl
theorem a_methNF {rows : List O} {jj : Nat} (h : env[i]? = some .un) (hr : rows[jj]? = some (oL ds)) (l : ds.length < 1000) (q : P (.d .non) (env.set i (.ow (.lst (rows.set jj (oL (ds ++ [d]))))))) : methNF fAppend i [.ix jj] (.lst rows) (.fr d) env P := by
  unfold methNF
  rw [h]
  refine ⟨rfl, ?_⟩
  show oth (match rows[jj]? with
    | some o => o.at []
    | none => none) _
  rw [hr]
  refine ⟨by rw [List.length_map]; exact small1000 (by omega), ?_⟩
  show P (.d .non) (env.set i (.ow (match rows[jj]? with
    | some o => .lst (rows.set jj (o.put [] (.lst (ds.map .fr ++ [.fr d]))))
    | none => .lst rows)))
  rw [hr]
  show P (.d .non) (env.set i (.ow (.lst (rows.set jj (.lst (ds.map .fr ++ [.fr d]))))))
  unfold oL at q
  rw [List.map_append] at q
  exact q
theorem frL_no {r : List O} {us : List O} : frL (.lst us :: r) = none := rfl
theorem frL_rows {α : Type} {l : List α} {g : α → List O} (h : l ≠ []) : frL (l.map fun x => .lst (g x)) = none := by
  cases l with
  | nil => exact absurd rfl h
  | cons x r => rfl
/-- a comprehension that makes new empty lists -/
theorem a_lcE {g : DG} {vs : List Nat} {PA : List O → DEnv → Prop} (hl : ds.length < 1000) (hs : ∀ (k : Nat) (d : D) (acc : List O) (NX : List O → DEnv → Prop), ds[k]? = some d → acc.length < sizeLine → NX (acc ++ [oL []]) env → lcT g t a vs d acc env NX)
    (hd : PA (List.replicate ds.length (oL [])) env) : dLcGo g t a vs PA (fun _ _ => False) ds [] env := by
  refine a_lcI (fun k acc e => e = env ∧ acc = List.replicate k (oL [])) ⟨rfl, rfl⟩ ?_ ?_
  · rintro k d acc env' NX hk ⟨rfl, rfl⟩ nx
    have hk' := (List.getElem?_eq_some_iff.mp hk).1
    refine hs k d _ NX hk (by rw [List.length_replicate]; exact small1000 (by omega)) (nx _ _ ⟨rfl, ?_⟩)
    rw [List.replicate_succ']
  · rintro acc e ⟨rfl, rfl⟩
    exact hd
theorem contAt_row {rows : List O} {jj : Nat} (h : env[i]? = some (.ow (.lst rows))) (hr : rows[jj]? = some o) : contAt env i ([] ++ [.ix jj]) = some o := by
  unfold contAt
  rw [h]
  show (match rows[jj]? with
    | some o => o.at []
    | none => none) = _
  rw [hr]
  rfl
end

/-! more step rules -/
section
variable {c : Addr} {P : O → List O → Prop}
theorem a_mulT {xs : List D} {k : Int} {K : O → Prop} (h : xs ≠ [] ∧ -(2 ^ 62) ≤ k ∧ k ≤ 1000 ∧ xs.length ≤ 1000) (q : K (.fr (.tup (List.replicate k.toNat xs).flatten))) : dMul (.tup xs) (.int k) K := ⟨h, q⟩
theorem a_rgT {env : DEnv} {i : Nat} {j : Int} {Q : R → DEnv → Prop} {X : DExc → DEnv → Prop} (h : env[i]? = some (.ow (.fr (.int j)))) (b : RgOk 0 j) (q : Q (.d (.tup (rgD 0 (j - 0).toNat))) env) : dRg false (dLastA (dVar i)) env Q X := by
  unfold dRg dLastA dVar
  rw [h]
  exact ⟨b, q⟩
theorem a_appB {env : DEnv} {i : Nat} {ds : List D} {d : D} {P : R → DEnv → Prop} (h : env[i]? = some (.ow (oL ds))) (l : ds.length < sizeLine) (q : P (.d .non) (env.set i (.ow (oL (ds ++ [d]))))) : appK i (.fr d) env P := by
  unfold appK
  have e : contAt env i [] = some (oL ds) := by
    unfold contAt
    rw [h]
    rfl
  rw [e]
  refine ⟨by rw [List.length_map]; exact l, ?_⟩
  have e2 : setAt env i [] (.lst (ds.map .fr ++ [.fr d])) = env.set i (.ow (oL (ds ++ [d]))) := by
    unfold setAt
    rw [h]
    show env.set i (.ow (.lst (ds.map .fr ++ [.fr d]))) = _
    unfold oL
    rw [List.map_append]
    rfl
  show P (.d .non) (setAt env i [] (.lst (ds.map .fr ++ [.fr d])))
  rw [e2]
  exact q
theorem flVs_ints : ∀ ns : List Int, flVs (ns.map D.int) = some (ns.map V.int)
  | [] => rfl
  | n :: ns => by
    show (match flVs (ns.map D.int) with
      | some l => some (V.int n :: l)
      | none => none) = _
    rw [flVs_ints ns]
    rfl
theorem inV_ints' (z : Int) : ∀ ns : List Int, inV (.int z) (ns.map V.int) = decide (z ∈ ns)
  | [] => rfl
  | n :: ns => by
    have := inV_ints' z ns
    unfold inV at *
    rw [List.map_cons, List.any_cons, this]
    show ((n == z) || decide (z ∈ ns)) = _
    by_cases h : n = z
    · subst h
      rw [decide_eq_true List.mem_cons_self, beq_self_eq_true, Bool.true_or]
    · rw [beq_false_of_ne h, Bool.false_or]
      by_cases h2 : z ∈ ns
      · rw [decide_eq_true h2, decide_eq_true (List.mem_cons_of_mem _ h2)]
      · rw [decide_eq_false h2, decide_eq_false fun m => (List.mem_cons.mp m).elim (fun e => h e.symm) h2]
theorem a_inRow {neg : Bool} {z : Int} {ns : List Int} {K : O → Prop} (q : K (.fr (.bl (if neg then !decide (z ∈ ns) else decide (z ∈ ns))))) : dIn neg (.int z) (.tup (ns.map .int)) K := by
  show oth (some (V.int z)) fun x => oth (flVs (ns.map D.int)) fun xs => K (.fr (.bl (if neg = true then !inV x xs else inV x xs)))
  rw [flVs_ints]
  show K (.fr (.bl (if neg = true then !inV (.int z) (ns.map V.int) else inV (.int z) (ns.map V.int))))
  rw [inV_ints']
  exact q
theorem a_par {i j : Nat} {ta : DTV} {DD : DEnds} {env : DEnv} (h : ta env (fun ds env1 => match ds with
  | [d, e] => dName i (.fr d) env1 (fun env2 => dName j (.fr e) env2 DD.nx DD.ex) DD.ex
  | _ => False) DD.ex) : dPar i j ta DD env := h

end
section
variable {P : R → DEnv → Prop} {X : DX} {env : DEnv} {i : Nat} {a : DTE} {d : D} {ds : List D} {os : List O}
/-- xs.pop() -/
theorem a_pop (h : env[i]? = some (.ow (oL (ds ++ [d])))) (q : P (.d d) (env.set i (.ow (oL ds)))) : dMeth0 fPop i env P X := by
  unfold dMeth0
  have e : contAt env i [] = some (oL (ds ++ [d])) := by
    unfold contAt
    rw [h]
    rfl
  rw [e]
  have e1 : ((ds ++ [d]).map O.fr)[((ds ++ [d]).map O.fr).length - 1]? = some (.fr d) := by
    rw [List.map_append, List.length_append]
    show (ds.map O.fr ++ [O.fr d])[(ds.map O.fr).length + 1 - 1]? = _
    rw [Nat.add_sub_cancel, List.getElem?_append_right (Nat.le_refl _), Nat.sub_self]
    rfl
  have e2 : ((ds ++ [d]).map O.fr).dropLast = ds.map O.fr := by
    rw [List.map_append]
    exact List.dropLast_concat
  show oth ((ds ++ [d]).map O.fr)[((ds ++ [d]).map O.fr).length - 1]? fun o => P (.o o) (setAt env i [] (.lst ((ds ++ [d]).map O.fr).dropLast))
  rw [e1, e2]
  have e3 : setAt env i [] (oL ds) = env.set i (.ow (oL ds)) := by
    unfold setAt
    rw [h]
    rfl
  show P (.d d) (setAt env i [] (oL ds))
  rw [e3]
  exact q
/-- xs.pop(i) -/
def popAtK (i : Nat) (o : O) (env2 : DEnv) (P : R → DEnv → Prop) : Prop := oth (contAt env2 i []) fun u => match u with
  | .lst os => fPopAt os o fun os' z => P (.o z) (setAt env2 i [] (.lst os'))
  | _ => False
theorem a_popAtM (h : contAt env i [] = some (.lst os)) (q : a env (fun r env1 => toO r env1 fun o env2 => popAtK i o env2 P) X) : dMeth1 fPopAt i a env P X := ⟨by rw [h]; rfl, q⟩
theorem map_erase' {α β : Type} (f : α → β) : ∀ (l : List α) (i : Nat), (l.map f).eraseIdx i = (l.eraseIdx i).map f
  | [], _ => rfl
  | _ :: _, 0 => rfl
  | a :: l, i + 1 => by
    show f a :: (l.map f).eraseIdx i = f a :: (l.eraseIdx i).map f
    rw [map_erase' f l i]
theorem a_popAt {n : Int} {j : Nat} (h : env[i]? = some (.ow (oL ds))) (e : n = (j : Int)) (hj : ds[j]? = some d) (l : ds.length ≤ 1000) (q : P (.d d) (env.set i (.ow (oL (ds.eraseIdx j))))) : popAtK i (.fr (.int n)) env P := by
  subst e
  unfold popAtK
  have hl := (List.getElem?_eq_some_iff.mp hj).1
  have ec : contAt env i [] = some (oL ds) := by
    unfold contAt
    rw [h]
    rfl
  rw [ec]
  refine ⟨⟨by omega, by omega⟩, ?_⟩
  have e1 : seqIndex? (j : Int) (ds.map O.fr).length = some j := by
    exact (ixN_seq (ixN_of rfl (by rw [List.length_map]; exact hl))).1
  rw [e1]
  show oth (ds.map O.fr)[j]? fun u => P (.o u) (setAt env i [] (.lst ((ds.map O.fr).eraseIdx j)))
  rw [List.getElem?_map, hj, map_erase']
  have e3 : setAt env i [] (oL (ds.eraseIdx j)) = env.set i (.ow (oL (ds.eraseIdx j))) := by
    unfold setAt
    rw [h]
    rfl
  show P (.d d) (setAt env i [] (oL (ds.eraseIdx j)))
  rw [e3]
  exact q
/-! objects of own classes in slots -/
theorem a_varI {C : Addr} {gs : List (Str × O)} (h : env[i]? = some (.ow (.ins C gs))) (q : P (.p i []) env) : dVar i env P X := by
  unfold dVar
  rw [h]
  exact q
theorem a_fldI {Cs : List Addr} {fl : Str} {C : Addr} {gs : List (Str × O)} {gd : List (Str × D)} {KR : R → Prop} {path : List PSt} (h : contAt env i path = some (.ins C gs)) (e : (O.ins C gs).flat = some (.ins C gd)) (hC : C ∈ Cs) (l : gd.lookup fl = some d) (q : KR (.d d)) : fldR Cs fl (.p i path) env KR := by
  unfold fldR
  have e1 : peek (.p i path) env = some (.ins C gd) := by
    show (match contAt env i path with
      | some o => o.flat
      | none => none) = _
    rw [h]
    exact e
  rw [e1]
  dsimp only
  rw [l]
  exact ⟨hC, q⟩
theorem a_forceI {KD : D → DEnv → Prop} {o : O} (h : env[i]? = some (.ow o)) (q : KD o.frz (env.set i (.ow (.fr o.frz)))) : force (.p i []) env KD := by
  show (match env[i]? with
    | some (.ow o) => (match o.at [] with
      | some o1 => KD o1.frz (env.set i (.ow (o.put [] (.fr o1.frz))))
      | none => False)
    | some (.bo o) => False
    | _ => False)
  rw [h]
  exact q
end
theorem cutD_drop {α : Type} (f : α → D) (ns : List α) (v : Nat) : cutD (ns.map f) (some (v : Int)) none = (ns.drop v).map f := by
  unfold cutD
  rw [HT.sIx_none, HT.sIx_nat, List.length_map, List.map_drop]
  by_cases hv : v ≤ ns.length
  · rw [Nat.min_eq_left hv]
    exact List.take_of_length_le (by rw [List.length_drop, List.length_map]; omega)
  · rw [Nat.min_eq_right (by omega), List.drop_eq_nil_of_le (by rw [List.length_map]; omega), List.drop_eq_nil_of_le (by rw [List.length_map]; omega), List.take_nil]

structure Cl where
  (Tree History BadTree BadHistory : Addr)
structure Fa (K : PySem.W.Frag) (c : Cl) : Prop where
  cls : ClsOk K [c.Tree, c.History]
  f_hung : ∀ C ∈ [c.Tree], Cls K C ∧ NoAttr K C "hung"
  f_tree : ∀ C ∈ [c.History], Cls K C ∧ NoAttr K C "tree"
  f_moves : ∀ C ∈ [c.History], Cls K C ∧ NoAttr K C "moves"
  x_BadHistory : PySem.W.exmOne K (.ref c.BadHistory) (.ref c.BadHistory) = some true


def u_is_integer (K : PySem.W.Frag) (c : Cl) : TS :=
  (tRet (tAndV (tCB (xIsiG K) (tCons (tVar 0) (tCons (tC (.ty "int")) tNil))) (tNotV (tCB (xIsiG K) (tCons (tVar 0) (tCons (tC (.ty "bool")) tNil))))))
def B_is_integer (c : Cl) : DTS :=
  (dRet (dAndV (dCB (dIsi [c.Tree, c.History]) (dConsA (dVar 0) (dLastA (dC (.ty "int"))))) (dNotV (dCB (dIsi [c.Tree, c.History]) (dConsA (dVar 0) (dLastA (dC (.ty "bool"))))))))
def D_is_integer (c : Cl) : Fn := dFn (vals 1) 1 (B_is_integer c)
theorem D_is_integer_in {c : Cl} {o0 : O} {P : O → List O → Prop} {PE : DExc → List O → Prop} (h : B_is_integer c ⟨fun env => P (.fr .non) (outs [false] env), fun o env => P o (outs [false] env), fun _ => False, fun _ => False, fun e env => PE e (outs [false] env)⟩ [S.ow o0]) : D_is_integer c [o0] P PE := ⟨rfl, h⟩
theorem D_is_integer_n {c : Cl} : ∀ os P PE, D_is_integer c os P PE → os.length = 1 := fun _ _ _ h => h.1
theorem sim_is_integer {K : PySem.W.Frag} {c : Cl} (fa : Fa K c) (E : XK) : SimS (fun cls dd _ H => E cls dd H) (u_is_integer K c) (B_is_integer c) :=
  (sim_ret (sim_andV (sim_cb (sim_isi fa.cls) (sim_consA (SimP.e sim_var) (sim_lastA (SimP.e sim_ty)))) (sim_notV (sim_cb (sim_isi fa.cls) (sim_consA (SimP.e sim_var) (sim_lastA (SimP.e sim_ty)))))))
def u_is_within (K : PySem.W.Frag) (c : Cl) : TS :=
  (tRet (tAndV (tCall (spD (vals 1) (D_is_integer c)) [] E0 (tCons (tVar 0) tNil)) (tChain xLe xLe (tVar 1) (tVar 0) (tVar 2))))
def B_is_within (c : Cl) : DTS :=
  (dRet (dAndV (dCall false (D_is_integer c) (dConsV (dVar 0) dNilV)) (dChain dLe dLe (dVar 1) (dVar 0) (dVar 2))))
def D_is_within (c : Cl) : Fn := dFn (vals 3) 3 (B_is_within c)
theorem D_is_within_in {c : Cl} {o0 o1 o2 : O} {P : O → List O → Prop} {PE : DExc → List O → Prop} (h : B_is_within c ⟨fun env => P (.fr .non) (outs [false, false, false] env), fun o env => P o (outs [false, false, false] env), fun _ => False, fun _ => False, fun e env => PE e (outs [false, false, false] env)⟩ [S.ow o0, S.ow o1, S.ow o2]) : D_is_within c [o0, o1, o2] P PE := ⟨rfl, h⟩
theorem D_is_within_n {c : Cl} : ∀ os P PE, D_is_within c os P PE → os.length = 3 := fun _ _ _ h => h.1
theorem sim_is_within {K : PySem.W.Frag} {c : Cl} (fa : Fa K c) (E : XK) : SimS (fun cls dd _ H => E cls dd H) (u_is_within K c) (B_is_within c) :=
  (sim_ret (sim_andV (sim_call0 D_is_integer_n (sim_consV (SimP.e sim_var) sim_nilV)) (sim_chain simr_le simr_le (SimP.e sim_var) (SimP.e sim_var) (SimP.e sim_var))))
def u_is_pair (K : PySem.W.Frag) (c : Cl) : TS :=
  (tRet (tAndV (tCB (xIsiG K) (tCons (tVar 0) (tCons (tC (.ty "tuple")) tNil))) (tOp (rEqD K) (tCB (xLenG K) (tCons (tVar 0) tNil)) (tC (.int 2)))))
def B_is_pair (c : Cl) : DTS :=
  (dRet (dAndV (dCB (dIsi [c.Tree, c.History]) (dConsA (dVar 0) (dLastA (dC (.ty "tuple"))))) (dOpP dEq (dCB dLen (dLastA (dVar 0))) (dC (.int 2)))))
def D_is_pair (c : Cl) : Fn := dFn (vals 1) 1 (B_is_pair c)
theorem D_is_pair_in {c : Cl} {o0 : O} {P : O → List O → Prop} {PE : DExc → List O → Prop} (h : B_is_pair c ⟨fun env => P (.fr .non) (outs [false] env), fun o env => P o (outs [false] env), fun _ => False, fun _ => False, fun e env => PE e (outs [false] env)⟩ [S.ow o0]) : D_is_pair c [o0] P PE := ⟨rfl, h⟩
theorem D_is_pair_n {c : Cl} : ∀ os P PE, D_is_pair c os P PE → os.length = 1 := fun _ _ _ h => h.1
theorem sim_is_pair {K : PySem.W.Frag} {c : Cl} (fa : Fa K c) (E : XK) : SimS (fun cls dd _ H => E cls dd H) (u_is_pair K c) (B_is_pair c) :=
  (sim_ret (sim_andV (sim_cb (sim_isi fa.cls) (sim_consA (SimP.e sim_var) (sim_lastA (SimP.e sim_ty)))) (SimP.e (simp_op simr_eq (simp_cb1 sim_len sim_var) sim_int))))
def u_leads_home (K : PySem.W.Frag) (c : Cl) : TS :=
  (tSeq (tAsg (tVar 1) (gName 2)) (tSeq (tFor (iRng1 (tCons (tOp (xAddG K) (tCB (xLenG K) (tCons (tVar 0) tNil)) (tC (.int 1))) tNil)) (gName 3) (tSeq (tIfS (tTest (tOp (rEqD K) (tVar 2) (tC (.int 0)))) (tRet (tC (.bl true))) tNext) (tAsg (tOp (rIx K) (tVar 0) (tOp xSub (tVar 2) (tC (.int 1)))) (gName 2)))) (tRet (tC (.bl false)))))
def B_leads_home (c : Cl) : DTS :=
  (dSeq (dPost [1] (dAsg (dVar 1) (dName 2))) (dSeq (dPost [0, 2, 3] (dFor (dRng1 (dLastA (dOpP dAdd (dCB dLen (dLastA (dVar 0))) (dC (.int 1))))) (dName 3) (dKill [3] (dSeq (dIfS (dTest (dOpP dEq (dVar 2) (dC (.int 0)))) (dRet (dC (.bl true))) dNext) (dAsg (dIx (dVar 0) (dOpP dSub2 (dVar 2) (dC (.int 1)))) (dName 2)))))) (dRet (dC (.bl false)))))
def D_leads_home (c : Cl) : Fn := dFn (vals 2) 4 (B_leads_home c)
theorem D_leads_home_in {c : Cl} {o0 o1 : O} {P : O → List O → Prop} {PE : DExc → List O → Prop} (h : B_leads_home c ⟨fun env => P (.fr .non) (outs [false, false] env), fun o env => P o (outs [false, false] env), fun _ => False, fun _ => False, fun e env => PE e (outs [false, false] env)⟩ [S.ow o0, S.ow o1, S.un, S.un]) : D_leads_home c [o0, o1] P PE := ⟨rfl, h⟩
theorem D_leads_home_n {c : Cl} : ∀ os P PE, D_leads_home c os P PE → os.length = 2 := fun _ _ _ h => h.1
theorem sim_leads_home {K : PySem.W.Frag} {c : Cl} (fa : Fa K c) (E : XK) : SimS (fun cls dd _ H => E cls dd H) (u_leads_home K c) (B_leads_home c) :=
  (sim_seq (sim_post (sim_asg (SimP.e sim_var) sim_name)) (sim_seq (sim_post (sim_for (sim_rng1 (sim_lastA (SimP.e (simp_op simr_add (simp_cb1 sim_len sim_var) sim_int)))) sim_name (sim_kill (sim_seq (sim_ifs (sim_test (SimP.e (simp_op simr_eq sim_var sim_int))) (sim_ret (SimP.e sim_bl)) sim_next) (sim_asg (SimP.e (simp_ix sim_var (simp_op simr_sub sim_var sim_int))) sim_name))))) (sim_ret (SimP.e sim_bl))))
def u_Tree_init (K : PySem.W.Frag) (c : Cl) (E : XK) : TS :=
  (tSeq (tIfS (tOr (tNot (tB (tCB (xIsiG K) (tCons (tVar 1) (tCons (tC (.ty "tuple")) tNil))))) (tNot (tTest (tChain xLe xLe (tC (.int 1)) (tCB (xLenG K) (tCons (tVar 1) tNil)) (tC (.int 40)))))) (tRaiseO c.BadTree (spX1 c.BadTree "part") (tCons (tC (.str "hung")) tNil) (wE E)) tNext) (tSeq (tFor (iRng2 (tCons (tC (.int 1)) (tCons (tOp (xAddG K) (tCB (xLenG K) (tCons (tVar 1) tNil)) (tC (.int 1))) tNil))) (gName 2) (tIfS (tOr (tNot (tB (tCall (spD (vals 3) (D_is_within c)) [] E0 (tCons (tOp (rIx K) (tVar 1) (tOp xSub (tVar 2) (tC (.int 1)))) (tCons (tC (.int 0)) (tCons (tCB (xLenG K) (tCons (tVar 1) tNil)) tNil)))))) (tTest (tOp (rEqD K) (tOp (rIx K) (tVar 1) (tOp xSub (tVar 2) (tC (.int 1)))) (tVar 2)))) (tRaiseO c.BadTree (spX1 c.BadTree "part") (tCons (tVar 2) tNil) (wE E)) tNext)) (tSeq (tFor (iRng2 (tCons (tC (.int 1)) (tCons (tOp (xAddG K) (tCB (xLenG K) (tCons (tVar 1) tNil)) (tC (.int 1))) tNil))) (gName 2) (tIfS (tNot (tB (tCall (spD (vals 2) (D_leads_home c)) [] E0 (tCons (tVar 1) (tCons (tVar 2) tNil))))) (tRaiseO c.BadTree (spX1 c.BadTree "part") (tCons (tTup (tCons (tC (.str "ring")) (tCons (tVar 2) tNil))) tNil) (wE E)) tNext)) (sFld K (tVar 0) (tVar 1) "hung"))))
def B_Tree_init (c : Cl) : DTS :=
  (dSeq (dIfS (dOr (dNot (dTest (dCB (dIsi [c.Tree, c.History]) (dConsA (dVar 1) (dLastA (dC (.ty "tuple"))))))) (dNot (dTest (dChain dLe dLe (dC (.int 1)) (dCB dLen (dLastA (dVar 1))) (dC (.int 40)))))) (dRaise1 c.BadTree "part" (dConsV (dC (.str "hung")) dNilV)) dNext) (dSeq (dPost [2] (dFor (dRng2 (dConsA (dC (.int 1)) (dLastA (dOpP dAdd (dCB dLen (dLastA (dVar 1))) (dC (.int 1)))))) (dName 2) (dIfS (dOr (dNot (dTest (dCall false (D_is_within c) (dConsV (dIx (dVar 1) (dOpP dSub2 (dVar 2) (dC (.int 1)))) (dConsV (dC (.int 0)) (dConsV (dCB dLen (dLastA (dVar 1))) dNilV)))))) (dTest (dOpP dEq (dIx (dVar 1) (dOpP dSub2 (dVar 2) (dC (.int 1)))) (dVar 2)))) (dRaise1 c.BadTree "part" (dConsV (dVar 2) dNilV)) (dKill [2] dNext)))) (dSeq (dPost [2] (dFor (dRng2 (dConsA (dC (.int 1)) (dLastA (dOpP dAdd (dCB dLen (dLastA (dVar 1))) (dC (.int 1)))))) (dName 2) (dIfS (dNot (dTest (dCall false (D_leads_home c) (dConsV (dVar 1) (dConsV (dVar 2) dNilV))))) (dRaise1 c.BadTree "part" (dConsV (dTup (dConsV (dC (.str "ring")) (dConsV (dVar 2) dNilV))) dNilV)) (dKill [2] dNext)))) (dPost [1] (dSetF [c.Tree] 0 "hung" (dVar 1))))))
def D_Tree_init (c : Cl) : Fn := dFn (true :: vals 1) 3 (B_Tree_init c)
theorem D_Tree_init_in {c : Cl} {o0 o1 : O} {P : O → List O → Prop} {PE : DExc → List O → Prop} (h : B_Tree_init c ⟨fun env => P (.fr .non) (outs [true, false] env), fun o env => P o (outs [true, false] env), fun _ => False, fun _ => False, fun e env => PE e (outs [true, false] env)⟩ [S.bo o0, S.ow o1, S.un]) : D_Tree_init c [o0, o1] P PE := ⟨rfl, h⟩
theorem D_Tree_init_n {c : Cl} : ∀ os P PE, D_Tree_init c os P PE → os.length = 1 + 1 := fun _ _ _ h => h.1
theorem sim_Tree_init {K : PySem.W.Frag} {c : Cl} (fa : Fa K c) (E : XK) : SimS (fun cls dd _ H => E cls dd H) (u_Tree_init K c E) (B_Tree_init c) :=
  (sim_seq (sim_ifs (sim_or (sim_not (sim_b (sim_cb (sim_isi fa.cls) (sim_consA (SimP.e sim_var) (sim_lastA (SimP.e sim_ty)))))) (sim_not (sim_test (sim_chain simr_le simr_le (SimP.e sim_int) (SimP.e (simp_cb1 sim_len sim_var)) (SimP.e sim_int))))) (sim_raise1 (sim_consV (SimP.e sim_str) sim_nilV)) sim_next) (sim_seq (sim_post (sim_for (sim_rng2 (sim_consA (SimP.e sim_int) (sim_lastA (SimP.e (simp_op simr_add (simp_cb1 sim_len sim_var) sim_int))))) sim_name (sim_ifs (sim_or (sim_not (sim_b (sim_call0 D_is_within_n (sim_consV (SimP.e (simp_ix sim_var (simp_op simr_sub sim_var sim_int))) (sim_consV (SimP.e sim_int) (sim_consV (SimP.e (simp_cb1 sim_len sim_var)) sim_nilV)))))) (sim_test (SimP.e (simp_op simr_eq (simp_ix sim_var (simp_op simr_sub sim_var sim_int)) sim_var)))) (sim_raise1 (sim_consV (SimP.e sim_var) sim_nilV)) (sim_kill sim_next)))) (sim_seq (sim_post (sim_for (sim_rng2 (sim_consA (SimP.e sim_int) (sim_lastA (SimP.e (simp_op simr_add (simp_cb1 sim_len sim_var) sim_int))))) sim_name (sim_ifs (sim_not (sim_b (sim_call0 D_leads_home_n (sim_consV (SimP.e sim_var) (sim_consV (SimP.e sim_var) sim_nilV))))) (sim_raise1 (sim_consV (sim_tup (sim_consV (SimP.e sim_str) (sim_consV (SimP.e sim_var) sim_nilV))) sim_nilV)) (sim_kill sim_next)))) (sim_post (sim_setF fa.f_hung (SimP.e sim_var))))))
def u_Tree_eq (K : PySem.W.Frag) (c : Cl) : TS :=
  (tRet (tAndV (tCB (xIsiG K) (tCons (tVar 1) (tCons (tC (.ref c.Tree)) tNil))) (tOp (rEqD K) (tFld K (tVar 0) "hung") (tFld K (tVar 1) "hung"))))
def B_Tree_eq (c : Cl) : DTS :=
  (dRet (dAndV (dCB (dIsi [c.Tree, c.History]) (dConsA (dVar 1) (dLastA (dC (.cls c.Tree))))) (dOpP dEq (dFld [c.Tree] "hung" (dVar 0)) (dFld [c.Tree] "hung" (dVar 1)))))
def D_Tree_eq (c : Cl) : Fn := dFn (vals 2) 2 (B_Tree_eq c)
theorem D_Tree_eq_in {c : Cl} {o0 o1 : O} {P : O → List O → Prop} {PE : DExc → List O → Prop} (h : B_Tree_eq c ⟨fun env => P (.fr .non) (outs [false, false] env), fun o env => P o (outs [false, false] env), fun _ => False, fun _ => False, fun e env => PE e (outs [false, false] env)⟩ [S.ow o0, S.ow o1]) : D_Tree_eq c [o0, o1] P PE := ⟨rfl, h⟩
theorem D_Tree_eq_n {c : Cl} : ∀ os P PE, D_Tree_eq c os P PE → os.length = 2 := fun _ _ _ h => h.1
theorem sim_Tree_eq {K : PySem.W.Frag} {c : Cl} (fa : Fa K c) (E : XK) : SimS (fun cls dd _ H => E cls dd H) (u_Tree_eq K c) (B_Tree_eq c) :=
  (sim_ret (sim_andV (sim_cb (sim_isi fa.cls) (sim_consA (SimP.e sim_var) (sim_lastA (SimP.e sim_cls)))) (SimP.e (simp_op simr_eq (simp_fld fa.f_hung sim_var) (simp_fld fa.f_hung sim_var)))))
def u_hanging (K : PySem.W.Frag) (c : Cl) : TS :=
  (tRet (tLc (iRng2 (tCons (tC (.int 1)) (tCons (tOp (xAddG K) (tCB (xLenG K) (tCons (tVar 0) tNil)) (tC (.int 1))) tNil))) (gName 2) (tTest (tOp (rEqD K) (tOp (rIx K) (tVar 0) (tOp xSub (tVar 2) (tC (.int 1)))) (tVar 1))) (tVar 2) [2]))
def B_hanging (c : Cl) : DTS :=
  (dRet (dLc (dRng2 (dConsA (dC (.int 1)) (dLastA (dOpP dAdd (dCB dLen (dLastA (dVar 0))) (dC (.int 1)))))) (dName 2) (dTest (dOpP dEq (dIx (dVar 0) (dOpP dSub2 (dVar 2) (dC (.int 1)))) (dVar 1))) (dVar 2) [2]))
def D_hanging (c : Cl) : Fn := dFn (vals 2) 3 (B_hanging c)
theorem D_hanging_in {c : Cl} {o0 o1 : O} {P : O → List O → Prop} {PE : DExc → List O → Prop} (h : B_hanging c ⟨fun env => P (.fr .non) (outs [false, false] env), fun o env => P o (outs [false, false] env), fun _ => False, fun _ => False, fun e env => PE e (outs [false, false] env)⟩ [S.ow o0, S.ow o1, S.un]) : D_hanging c [o0, o1] P PE := ⟨rfl, h⟩
theorem D_hanging_n {c : Cl} : ∀ os P PE, D_hanging c os P PE → os.length = 2 := fun _ _ _ h => h.1
theorem sim_hanging {K : PySem.W.Frag} {c : Cl} (fa : Fa K c) (E : XK) : SimS (fun cls dd _ H => E cls dd H) (u_hanging K c) (B_hanging c) :=
  (sim_ret (sim_lc (sim_rng2 (sim_consA (SimP.e sim_int) (sim_lastA (SimP.e (simp_op simr_add (simp_cb1 sim_len sim_var) sim_int))))) sim_name (sim_test (SimP.e (simp_op simr_eq (simp_ix sim_var (simp_op simr_sub sim_var sim_int)) sim_var))) (SimP.e sim_var) (by decide)))
def u_beneath_in (K : PySem.W.Frag) (c : Cl) : TS :=
  (tSeq (tAsg (tLst tNil) (gName 2)) (tSeq (tAsg (tLst (tCons (tVar 1) tNil)) (gName 3)) (tSeq (tWhile (tTest (tOp xGt (tCB (xLenG K) (tCons (tVar 3) tNil)) (tC (.int 0)))) (tSeq (tAsg (tCall (spD (vals 2) (D_hanging c)) [] E0 (tCons (tVar 0) (tCons (tBM0 K "list" rPop (tVar 3)) tNil))) (gName 4)) (tSeq (tDrop (tBM K "list" rExtend (tVar 2) (tCons (tVar 4) tNil))) (tDrop (tBM K "list" rExtend (tVar 3) (tCons (tVar 4) tNil)))))) (tRet (tCB (xTupleOf K) (tCons (tCB (xSortG K) (tCons (tVar 2) tNil)) tNil))))))
def B_beneath_in (c : Cl) : DTS :=
  (dSeq (dAsg (dLst dNilV) (dName 2)) (dSeq (dPost [1] (dAsg (dLst (dConsV (dVar 1) dNilV)) (dName 3))) (dSeq (dPost [0, 3, 4] (dWhile (dTest (dOpP dGt (dCB dLen (dLastA (dVar 3))) (dC (.int 0)))) (dSeq (dAsg (dCall false (D_hanging c) (dConsV (dVar 0) (dConsV (dMeth0 fPop 3) dNilV))) (dName 4)) (dSeq (dDrop (dMeth1 fExtend 2 (dVar 4))) (dPost [4] (dDrop (dMeth1 fExtend 3 (dVar 4)))))))) (dRet (dCB dTuple (dLastA (dCB dSorted (dLastA (dVar 2)))))))))
def D_beneath_in (c : Cl) : Fn := dFn (vals 2) 5 (B_beneath_in c)
theorem D_beneath_in_in {c : Cl} {o0 o1 : O} {P : O → List O → Prop} {PE : DExc → List O → Prop} (h : B_beneath_in c ⟨fun env => P (.fr .non) (outs [false, false] env), fun o env => P o (outs [false, false] env), fun _ => False, fun _ => False, fun e env => PE e (outs [false, false] env)⟩ [S.ow o0, S.ow o1, S.un, S.un, S.un]) : D_beneath_in c [o0, o1] P PE := ⟨rfl, h⟩
theorem D_beneath_in_n {c : Cl} : ∀ os P PE, D_beneath_in c os P PE → os.length = 2 := fun _ _ _ h => h.1
theorem sim_beneath_in {K : PySem.W.Frag} {c : Cl} (fa : Fa K c) (E : XK) : SimS (fun cls dd _ H => E cls dd H) (u_beneath_in K c) (B_beneath_in c) :=
  (sim_seq (sim_asg (sim_lst sim_nilV) sim_name) (sim_seq (sim_post (sim_asg (sim_lst (sim_consV (SimP.e sim_var) sim_nilV)) sim_name)) (sim_seq (sim_post (sim_while (sim_test (SimP.e (simp_op simr_gt (simp_cb1 sim_len sim_var) sim_int))) (sim_seq (sim_asg (sim_call0 D_hanging_n (sim_consV (SimP.e sim_var) (sim_consV (sim_meth0 simM_pop) sim_nilV))) sim_name) (sim_seq (sim_drop (sim_meth1 simM_extend (SimP.e sim_var))) (sim_post (sim_drop (sim_meth1 simM_extend (SimP.e sim_var)))))))) (sim_ret (SimP.e (simp_cb1 sim_tuple (simp_cb1 sim_sorted sim_var)))))))
def u_with_place (K : PySem.W.Frag) (c : Cl) : TS :=
  (tRet (tOp (xAddG K) (tOp (xAddG K) (tSl (xSlG K) (tVar 0) tNoPart (tPart (tOp xSub (tVar 1) (tC (.int 1))))) (tTup (tCons (tVar 2) tNil))) (tSl (xSlG K) (tVar 0) (tPart (tVar 1)) tNoPart)))
def B_with_place (c : Cl) : DTS :=
  (dRet (dOp dAdd (dOp dAdd (dSl (dVar 0) dNoPart (dPart (dOpP dSub2 (dVar 1) (dC (.int 1))))) (dTup (dConsV (dVar 2) dNilV))) (dSl (dVar 0) (dPart (dVar 1)) dNoPart)))
def D_with_place (c : Cl) : Fn := dFn (vals 3) 3 (B_with_place c)
theorem D_with_place_in {c : Cl} {o0 o1 o2 : O} {P : O → List O → Prop} {PE : DExc → List O → Prop} (h : B_with_place c ⟨fun env => P (.fr .non) (outs [false, false, false] env), fun o env => P o (outs [false, false, false] env), fun _ => False, fun _ => False, fun e env => PE e (outs [false, false, false] env)⟩ [S.ow o0, S.ow o1, S.ow o2]) : D_with_place c [o0, o1, o2] P PE := ⟨rfl, h⟩
theorem D_with_place_n {c : Cl} : ∀ os P PE, D_with_place c os P PE → os.length = 3 := fun _ _ _ h => h.1
theorem sim_with_place {K : PySem.W.Frag} {c : Cl} (fa : Fa K c) (E : XK) : SimS (fun cls dd _ H => E cls dd H) (u_with_place K c) (B_with_place c) :=
  (sim_ret (sim_op simr_add (sim_op simr_add (sim_sl (SimP.e sim_var) sim_noPart (sim_part (simp_op simr_sub sim_var sim_int))) (sim_tup (sim_consV (SimP.e sim_var) sim_nilV))) (sim_sl (SimP.e sim_var) (sim_part sim_var) sim_noPart)))
def u_is_move (K : PySem.W.Frag) (c : Cl) : TS :=
  (tSeq (tIfS (tOr (tNot (tB (tCall (spD (vals 1) (D_is_pair c)) [] E0 (tCons (tVar 1) tNil)))) (tOr (tNot (tB (tCall (spD (vals 3) (D_is_within c)) [] E0 (tCons (tOp (rIx K) (tVar 1) (tC (.int 0))) (tCons (tC (.int 1)) (tCons (tCB (xLenG K) (tCons (tVar 0) tNil)) tNil)))))) (tNot (tB (tCall (spD (vals 3) (D_is_within c)) [] E0 (tCons (tOp (rIx K) (tVar 1) (tC (.int 1))) (tCons (tC (.int 0)) (tCons (tCB (xLenG K) (tCons (tVar 0) tNil)) tNil)))))))) (tRet (tC (.bl false))) tNext) (tRet (tAndV (tOp (rNeD K) (tOp (rIx K) (tVar 1) (tC (.int 1))) (tOp (rIx K) (tVar 1) (tC (.int 0)))) (tOp (rIn K true) (tOp (rIx K) (tVar 1) (tC (.int 1))) (tCall (spD (vals 2) (D_beneath_in c)) [] E0 (tCons (tVar 0) (tCons (tOp (rIx K) (tVar 1) (tC (.int 0))) tNil)))))))
def B_is_move (c : Cl) : DTS :=
  (dSeq (dIfS (dOr (dNot (dTest (dCall false (D_is_pair c) (dConsV (dVar 1) dNilV)))) (dOr (dNot (dTest (dCall false (D_is_within c) (dConsV (dIx (dVar 1) (dC (.int 0))) (dConsV (dC (.int 1)) (dConsV (dCB dLen (dLastA (dVar 0))) dNilV)))))) (dNot (dTest (dCall false (D_is_within c) (dConsV (dIx (dVar 1) (dC (.int 1))) (dConsV (dC (.int 0)) (dConsV (dCB dLen (dLastA (dVar 0))) dNilV)))))))) (dRet (dC (.bl false))) dNext) (dRet (dAndV (dOpP dNe (dIx (dVar 1) (dC (.int 1))) (dIx (dVar 1) (dC (.int 0)))) (dOp (dIn true) (dIx (dVar 1) (dC (.int 1))) (dCall false (D_beneath_in c) (dConsV (dVar 0) (dConsV (dIx (dVar 1) (dC (.int 0))) dNilV)))))))
def D_is_move (c : Cl) : Fn := dFn (vals 2) 2 (B_is_move c)
theorem D_is_move_in {c : Cl} {o0 o1 : O} {P : O → List O → Prop} {PE : DExc → List O → Prop} (h : B_is_move c ⟨fun env => P (.fr .non) (outs [false, false] env), fun o env => P o (outs [false, false] env), fun _ => False, fun _ => False, fun e env => PE e (outs [false, false] env)⟩ [S.ow o0, S.ow o1]) : D_is_move c [o0, o1] P PE := ⟨rfl, h⟩
theorem D_is_move_n {c : Cl} : ∀ os P PE, D_is_move c os P PE → os.length = 2 := fun _ _ _ h => h.1
theorem sim_is_move {K : PySem.W.Frag} {c : Cl} (fa : Fa K c) (E : XK) : SimS (fun cls dd _ H => E cls dd H) (u_is_move K c) (B_is_move c) :=
  (sim_seq (sim_ifs (sim_or (sim_not (sim_b (sim_call0 D_is_pair_n (sim_consV (SimP.e sim_var) sim_nilV)))) (sim_or (sim_not (sim_b (sim_call0 D_is_within_n (sim_consV (SimP.e (simp_ix sim_var sim_int)) (sim_consV (SimP.e sim_int) (sim_consV (SimP.e (simp_cb1 sim_len sim_var)) sim_nilV)))))) (sim_not (sim_b (sim_call0 D_is_within_n (sim_consV (SimP.e (simp_ix sim_var sim_int)) (sim_consV (SimP.e sim_int) (sim_consV (SimP.e (simp_cb1 sim_len sim_var)) sim_nilV)))))))) (sim_ret (SimP.e sim_bl)) sim_next) (sim_ret (sim_andV (SimP.e (simp_op simr_ne (simp_ix sim_var sim_int) (simp_ix sim_var sim_int))) (sim_op simr_in (SimP.e (simp_ix sim_var sim_int)) (sim_call0 D_beneath_in_n (sim_consV (SimP.e sim_var) (sim_consV (SimP.e (simp_ix sim_var sim_int)) sim_nilV)))))))
def u_trees_along (K : PySem.W.Frag) (c : Cl) : TS :=
  (tSeq (tAsg (tLst (tCons (tVar 0) tNil)) (gName 2)) (tSeq (tFor (iSeq K (tVar 1)) (gTup K 2 (gCons (gName 3) (gCons (gName 4) gNil))) (tDrop (tBM K "list" rAppend (tVar 2) (tCons (tCall (spD (vals 3) (D_with_place c)) [] E0 (tCons (tOp (rIx K) (tVar 2) (tUn xNeg (tC (.int 1)))) (tCons (tVar 3) (tCons (tVar 4) tNil)))) tNil)))) (tRet (tVar 2))))
def B_trees_along (c : Cl) : DTS :=
  (dSeq (dPost [0] (dAsg (dLst (dConsV (dVar 0) dNilV)) (dName 2))) (dSeq (dPost [1, 3, 4] (dFor (dIterK [1] (dIter (dVar 1))) (dGTup 2 (dGCons (dName 3) (dGCons (dName 4) dGNil))) (dPost [3, 4] (dDrop (dMeth1 fAppend 2 (dCall false (D_with_place c) (dConsV (dIx (dVar 2) (dUn dNeg (dC (.int 1)))) (dConsV (dVar 3) (dConsV (dVar 4) dNilV))))))))) (dRet (dVar 2))))
def D_trees_along (c : Cl) : Fn := dFn (vals 2) 5 (B_trees_along c)
theorem D_trees_along_in {c : Cl} {o0 o1 : O} {P : O → List O → Prop} {PE : DExc → List O → Prop} (h : B_trees_along c ⟨fun env => P (.fr .non) (outs [false, false] env), fun o env => P o (outs [false, false] env), fun _ => False, fun _ => False, fun e env => PE e (outs [false, false] env)⟩ [S.ow o0, S.ow o1, S.un, S.un, S.un]) : D_trees_along c [o0, o1] P PE := ⟨rfl, h⟩
theorem D_trees_along_n {c : Cl} : ∀ os P PE, D_trees_along c os P PE → os.length = 2 := fun _ _ _ h => h.1
theorem sim_trees_along {K : PySem.W.Frag} {c : Cl} (fa : Fa K c) (E : XK) : SimS (fun cls dd _ H => E cls dd H) (u_trees_along K c) (B_trees_along c) :=
  (sim_seq (sim_post (sim_asg (sim_lst (sim_consV (SimP.e sim_var) sim_nilV)) sim_name)) (sim_seq (sim_post (sim_for (sim_iterK (sim_seq_it (SimP.e sim_var))) (sim_gtup (sim_gcons sim_name (sim_gcons sim_name sim_gnil))) (sim_post (sim_drop (sim_meth1 simM_append (sim_call0 D_with_place_n (sim_consV (SimP.e (simp_ix sim_var (simp_un simr_neg sim_int))) (sim_consV (SimP.e sim_var) (sim_consV (SimP.e sim_var) sim_nilV))))))))) (sim_ret (SimP.e sim_var))))
def u_History_init (K : PySem.W.Frag) (c : Cl) (E : XK) : TS :=
  (tSeq (tIfS (tNot (tB (tCB (xIsiG K) (tCons (tVar 1) (tCons (tC (.ref c.Tree)) tNil))))) (tRaiseO c.BadHistory (spX1 c.BadHistory "part") (tCons (tC (.str "tree")) tNil) (wE E)) tNext) (tSeq (tIfS (tOr (tNot (tB (tCB (xIsiG K) (tCons (tVar 2) (tCons (tC (.ty "tuple")) tNil))))) (tTest (tOp xGt (tCB (xLenG K) (tCons (tVar 2) tNil)) (tC (.int 100))))) (tRaiseO c.BadHistory (spX1 c.BadHistory "part") (tCons (tC (.str "moves")) tNil) (wE E)) tNext) (tSeq (tAsg (tFld K (tVar 1) "hung") (gName 3)) (tSeq (tFor (iEnumA K (tCons (tVar 2) tNil)) (gTup K 2 (gCons (gName 4) (gCons (gName 5) gNil))) (tSeq (tIfS (tNot (tB (tCall (spD (vals 2) (D_is_move c)) [] E0 (tCons (tVar 3) (tCons (tVar 5) tNil))))) (tRaiseO c.BadHistory (spX1 c.BadHistory "part") (tCons (tVar 4) tNil) (wE E)) tNext) (tAsg (tCall (spD (vals 3) (D_with_place c)) [] E0 (tCons (tVar 3) (tCons (tOp (rIx K) (tVar 5) (tC (.int 0))) (tCons (tOp (rIx K) (tVar 5) (tC (.int 1))) tNil)))) (gName 3)))) (tSeq (sFld K (tVar 0) (tVar 1) "tree") (sFld K (tVar 0) (tVar 2) "moves"))))))
def B_History_init (c : Cl) : DTS :=
  (dSeq (dIfS (dNot (dTest (dCB (dIsi [c.Tree, c.History]) (dConsA (dVar 1) (dLastA (dC (.cls c.Tree))))))) (dRaise1 c.BadHistory "part" (dConsV (dC (.str "tree")) dNilV)) dNext) (dSeq (dIfS (dOr (dNot (dTest (dCB (dIsi [c.Tree, c.History]) (dConsA (dVar 2) (dLastA (dC (.ty "tuple"))))))) (dTest (dOpP dGt (dCB dLen (dLastA (dVar 2))) (dC (.int 100))))) (dRaise1 c.BadHistory "part" (dConsV (dC (.str "moves")) dNilV)) dNext) (dSeq (dAsg (dFld [c.Tree] "hung" (dVar 1)) (dName 3)) (dSeq (dPost [3, 4, 5] (dFor (dEnumA (dVar 2)) (dGTup 2 (dGCons (dName 4) (dGCons (dName 5) dGNil))) (dSeq (dIfS (dNot (dTest (dCall false (D_is_move c) (dConsV (dVar 3) (dConsV (dVar 5) dNilV))))) (dRaise1 c.BadHistory "part" (dConsV (dVar 4) dNilV)) (dKill [4] dNext)) (dPost [5] (dAsg (dCall false (D_with_place c) (dConsV (dVar 3) (dConsV (dIx (dVar 5) (dC (.int 0))) (dConsV (dIx (dVar 5) (dC (.int 1))) dNilV)))) (dName 3)))))) (dSeq (dPost [1] (dSetF [c.History] 0 "tree" (dVar 1))) (dPost [2] (dSetF [c.History] 0 "moves" (dVar 2))))))))
def D_History_init (c : Cl) : Fn := dFn (true :: vals 2) 6 (B_History_init c)
theorem D_History_init_in {c : Cl} {o0 o1 o2 : O} {P : O → List O → Prop} {PE : DExc → List O → Prop} (h : B_History_init c ⟨fun env => P (.fr .non) (outs [true, false, false] env), fun o env => P o (outs [true, false, false] env), fun _ => False, fun _ => False, fun e env => PE e (outs [true, false, false] env)⟩ [S.bo o0, S.ow o1, S.ow o2, S.un, S.un, S.un]) : D_History_init c [o0, o1, o2] P PE := ⟨rfl, h⟩
theorem D_History_init_n {c : Cl} : ∀ os P PE, D_History_init c os P PE → os.length = 2 + 1 := fun _ _ _ h => h.1
theorem sim_History_init {K : PySem.W.Frag} {c : Cl} (fa : Fa K c) (E : XK) : SimS (fun cls dd _ H => E cls dd H) (u_History_init K c E) (B_History_init c) :=
  (sim_seq (sim_ifs (sim_not (sim_b (sim_cb (sim_isi fa.cls) (sim_consA (SimP.e sim_var) (sim_lastA (SimP.e sim_cls)))))) (sim_raise1 (sim_consV (SimP.e sim_str) sim_nilV)) sim_next) (sim_seq (sim_ifs (sim_or (sim_not (sim_b (sim_cb (sim_isi fa.cls) (sim_consA (SimP.e sim_var) (sim_lastA (SimP.e sim_ty)))))) (sim_test (SimP.e (simp_op simr_gt (simp_cb1 sim_len sim_var) sim_int)))) (sim_raise1 (sim_consV (SimP.e sim_str) sim_nilV)) sim_next) (sim_seq (sim_asg (SimP.e (simp_fld fa.f_hung sim_var)) sim_name) (sim_seq (sim_post (sim_for (sim_enumA (SimP.e sim_var)) (sim_gtup (sim_gcons sim_name (sim_gcons sim_name sim_gnil))) (sim_seq (sim_ifs (sim_not (sim_b (sim_call0 D_is_move_n (sim_consV (SimP.e sim_var) (sim_consV (SimP.e sim_var) sim_nilV))))) (sim_raise1 (sim_consV (SimP.e sim_var) sim_nilV)) (sim_kill sim_next)) (sim_post (sim_asg (sim_call0 D_with_place_n (sim_consV (SimP.e sim_var) (sim_consV (SimP.e (simp_ix sim_var sim_int)) (sim_consV (SimP.e (simp_ix sim_var sim_int)) sim_nilV)))) sim_name))))) (sim_seq (sim_post (sim_setF fa.f_tree (SimP.e sim_var))) (sim_post (sim_setF fa.f_moves (SimP.e sim_var))))))))
def u_History_eq (K : PySem.W.Frag) (c : Cl) : TS :=
  (tRet (tAndV (tCB (xIsiG K) (tCons (tVar 1) (tCons (tC (.ref c.History)) tNil))) (tOp (rEqTB K c.Tree (D_Tree_eq c)) (tTup (tCons (tFld K (tVar 0) "tree") (tCons (tFld K (tVar 0) "moves") tNil))) (tTup (tCons (tFld K (tVar 1) "tree") (tCons (tFld K (tVar 1) "moves") tNil))))))
def B_History_eq (c : Cl) : DTS :=
  (dRet (dAndV (dCB (dIsi [c.Tree, c.History]) (dConsA (dVar 1) (dLastA (dC (.cls c.History))))) (dOp (dEqB c.Tree (D_Tree_eq c)) (dTup (dConsV (dFld [c.History] "tree" (dVar 0)) (dConsV (dFld [c.History] "moves" (dVar 0)) dNilV))) (dTup (dConsV (dFld [c.History] "tree" (dVar 1)) (dConsV (dFld [c.History] "moves" (dVar 1)) dNilV))))))
def D_History_eq (c : Cl) : Fn := dFn (vals 2) 2 (B_History_eq c)
theorem D_History_eq_in {c : Cl} {o0 o1 : O} {P : O → List O → Prop} {PE : DExc → List O → Prop} (h : B_History_eq c ⟨fun env => P (.fr .non) (outs [false, false] env), fun o env => P o (outs [false, false] env), fun _ => False, fun _ => False, fun e env => PE e (outs [false, false] env)⟩ [S.ow o0, S.ow o1]) : D_History_eq c [o0, o1] P PE := ⟨rfl, h⟩
theorem D_History_eq_n {c : Cl} : ∀ os P PE, D_History_eq c os P PE → os.length = 2 := fun _ _ _ h => h.1
theorem sim_History_eq {K : PySem.W.Frag} {c : Cl} (fa : Fa K c) (E : XK) : SimS (fun cls dd _ H => E cls dd H) (u_History_eq K c) (B_History_eq c) :=
  (sim_ret (sim_andV (sim_cb (sim_isi fa.cls) (sim_consA (SimP.e sim_var) (sim_lastA (SimP.e sim_cls)))) (sim_op simr_eqTB (sim_tup (sim_consV (SimP.e (simp_fld fa.f_tree sim_var)) (sim_consV (SimP.e (simp_fld fa.f_moves sim_var)) sim_nilV))) (sim_tup (sim_consV (SimP.e (simp_fld fa.f_tree sim_var)) (sim_consV (SimP.e (simp_fld fa.f_moves sim_var)) sim_nilV))))))
def u_now (K : PySem.W.Frag) (c : Cl) : TS :=
  (tRet (tMake c.Tree (spD (true :: vals 1) (D_Tree_init c)) [] E0 (tCons (tOp (rIx K) (tCall (spD (vals 2) (D_trees_along c)) [] E0 (tCons (tFld K (tFld K (tVar 0) "tree") "hung") (tCons (tFld K (tVar 0) "moves") tNil))) (tUn xNeg (tC (.int 1)))) tNil)))
def B_now (c : Cl) : DTS :=
  (dRet (dMake false c.Tree (D_Tree_init c) (dConsV (dIx (dCall false (D_trees_along c) (dConsV (dFld [c.Tree] "hung" (dFld [c.History] "tree" (dVar 0))) (dConsV (dFld [c.History] "moves" (dVar 0)) dNilV))) (dUn dNeg (dC (.int 1)))) dNilV)))
def D_now (c : Cl) : Fn := dFn (vals 1) 1 (B_now c)
theorem D_now_in {c : Cl} {o0 : O} {P : O → List O → Prop} {PE : DExc → List O → Prop} (h : B_now c ⟨fun env => P (.fr .non) (outs [false] env), fun o env => P o (outs [false] env), fun _ => False, fun _ => False, fun e env => PE e (outs [false] env)⟩ [S.ow o0]) : D_now c [o0] P PE := ⟨rfl, h⟩
theorem D_now_n {c : Cl} : ∀ os P PE, D_now c os P PE → os.length = 1 := fun _ _ _ h => h.1
theorem sim_now {K : PySem.W.Frag} {c : Cl} (fa : Fa K c) (E : XK) : SimS (fun cls dd _ H => E cls dd H) (u_now K c) (B_now c) :=
  (sim_ret (sim_make0 D_Tree_init_n (sim_consV (sim_ix (sim_call0 D_trees_along_n (sim_consV (SimP.e (simp_fld fa.f_hung (simp_fld fa.f_tree sim_var))) (sim_consV (SimP.e (simp_fld fa.f_moves sim_var)) sim_nilV))) (simp_un simr_neg sim_int)) sim_nilV)))

def u_l_draw (K : PySem.W.Frag) (c : Cl) : TS :=
  (tSeq (tIfS (tAnd (tTest (tOp (rEqD K) (tOp (rIx K) (tVar 0) (tC (.int 2))) (tC (.int 0)))) (tTest (tOp (xLtG K) (tOp (rIx K) (tVar 0) (tC (.int 1))) (tCB (xLenG K) (tCons (tOp (rIx K) (tVar 0) (tC (.int 0))) tNil))))) (tSeq (tAsg (tOp (rIx K) (tOp (rIx K) (tVar 0) (tC (.int 0))) (tOp (rIx K) (tVar 0) (tC (.int 1)))) (gName 2)) (tSeq (tAsg (tOp (xAddG K) (tOp (rIx K) (tVar 0) (tC (.int 1))) (tC (.int 1))) (gSub (tVar 0) (tC (.int 1)) rSetL)) (tSeq (tAsg (tOp xMod (tCB xInt (tCons (tOp (xAddG K) (tOp (xAddG K) (tOp (xMulG K) (tOp (rIx K) (tVar 0) (tC (.int 3))) (tC (.int 69621))) (tVar 2)) (tC (.int 11))) tNil)) (tC (.int 2147483629))) (gSub (tVar 0) (tC (.int 3)) rSetL)) (tIfS (tTest (tOp xGe (tVar 2) (tOp xPow (tC (.int 10)) (tC (.int 18))))) (tAsg (tVar 2) (gSub (tVar 0) (tC (.int 2)) rSetL)) tNext)))) tNext) (tSeq (tIfS (tTest (tOp xGt (tOp (rIx K) (tVar 0) (tC (.int 2))) (tC (.int 0)))) (tSeq (tAsg (tOp xMod (tCB xInt (tCons (tOp (rIx K) (tVar 0) (tC (.int 2))) tNil)) (tVar 1)) (gName 3)) (tSeq (tAsg (tOp xDiv (tOp (rIx K) (tVar 0) (tC (.int 2))) (tVar 1)) (gSub (tVar 0) (tC (.int 2)) rSetL)) (tRet (tVar 3)))) tNext) (tSeq (tAsg (tOp (xAddG K) (tOp (rIx K) (tVar 0) (tC (.int 4))) (tC (.int 1))) (gSub (tVar 0) (tC (.int 4)) rSetL)) (tSeq (tAsg (tOp xMod (tCB xInt (tCons (tOp (xMulG K) (tCB xInt (tCons (tOp (xAddG K) (tOp (rIx K) (tVar 0) (tC (.int 3))) (tOp (xMulG K) (tC (.int 7919)) (tOp (rIx K) (tVar 0) (tC (.int 4))))) tNil)) (tC (.int 48271))) tNil)) (tC (.int 2147483647))) (gName 4)) (tSeq (tAsg (tOp xMod (tCB xInt (tCons (tOp (xMulG K) (tVar 4) (tOp (xAddG K) (tOp xDiv (tVar 4) (tC (.int 1009))) (tC (.int 69621)))) tNil)) (tC (.int 2147483647))) (gName 4)) (tSeq (tAsg (tOp xMod (tCB xInt (tCons (tOp (xMulG K) (tVar 4) (tOp (xAddG K) (tOp xDiv (tVar 4) (tC (.int 2003))) (tC (.int 40692)))) tNil)) (tC (.int 2147483399))) (gName 4)) (tRet (tOp xMod (tCB xInt (tCons (tOp xDiv (tVar 4) (tC (.int 16))) tNil)) (tVar 1)))))))))
def B_l_draw (c : Cl) : DTS :=
  (dCut (dIfS (dAnd (dTest (dOpP dEq (dIx (dVar 0) (dC (.int 2))) (dC (.int 0)))) (dTest (dOpP dLtG (dIx (dVar 0) (dC (.int 1))) (dCB dLen (dLastA (dIx (dVar 0) (dC (.int 0)))))))) (dSeq (dAsg (dIx (dIx (dVar 0) (dC (.int 0))) (dIx (dVar 0) (dC (.int 1)))) (dName 2)) (dSeq (dAsg (dOpP dAdd (dIx (dVar 0) (dC (.int 1))) (dC (.int 1))) (dSub (dVar 0) (dC (.int 1)))) (dSeq (dAsg (dOpP dMod (dCB dInt (dLastA (dOpP dAdd (dOpP dAdd (dOpP dMul (dIx (dVar 0) (dC (.int 3))) (dC (.int 69621))) (dVar 2)) (dC (.int 11))))) (dC (.int 2147483629))) (dSub (dVar 0) (dC (.int 3)))) (dIfS (dTest (dOpP dGe (dVar 2) (dOpP dPow (dC (.int 10)) (dC (.int 18))))) (dPost [2] (dAsg (dVar 2) (dSub (dVar 0) (dC (.int 2))))) (dKill [2] dNext))))) dNext) (dSeq (dIfS (dTest (dOpP dGt (dIx (dVar 0) (dC (.int 2))) (dC (.int 0)))) (dSeq (dAsg (dOpP dMod (dCB dInt (dLastA (dIx (dVar 0) (dC (.int 2))))) (dVar 1)) (dName 3)) (dSeq (dPost [1] (dAsg (dOpP dDiv (dIx (dVar 0) (dC (.int 2))) (dVar 1)) (dSub (dVar 0) (dC (.int 2))))) (dRet (dVar 3)))) dNext) (dSeq (dAsg (dOpP dAdd (dIx (dVar 0) (dC (.int 4))) (dC (.int 1))) (dSub (dVar 0) (dC (.int 4)))) (dSeq (dAsg (dOpP dMod (dCB dInt (dLastA (dOpP dMul (dCB dInt (dLastA (dOpP dAdd (dIx (dVar 0) (dC (.int 3))) (dOpP dMul (dC (.int 7919)) (dIx (dVar 0) (dC (.int 4))))))) (dC (.int 48271))))) (dC (.int 2147483647))) (dName 4)) (dSeq (dAsg (dOpP dMod (dCB dInt (dLastA (dOpP dMul (dVar 4) (dOpP dAdd (dOpP dDiv (dVar 4) (dC (.int 1009))) (dC (.int 69621)))))) (dC (.int 2147483647))) (dName 4)) (dSeq (dAsg (dOpP dMod (dCB dInt (dLastA (dOpP dMul (dVar 4) (dOpP dAdd (dOpP dDiv (dVar 4) (dC (.int 2003))) (dC (.int 40692)))))) (dC (.int 2147483399))) (dName 4)) (dRet (dOpP dMod (dCB dInt (dLastA (dOpP dDiv (dVar 4) (dC (.int 16))))) (dVar 1)))))))))
def D_l_draw (c : Cl) : Fn := dFn (true :: vals 1) 5 (B_l_draw c)
theorem D_l_draw_in {c : Cl} {o0 o1 : O} {P : O → List O → Prop} {PE : DExc → List O → Prop} (h : B_l_draw c ⟨fun env => P (.fr .non) (outs [true, false] env), fun o env => P o (outs [true, false] env), fun _ => False, fun _ => False, fun e env => PE e (outs [true, false] env)⟩ [S.bo o0, S.ow o1, S.un, S.un, S.un]) : D_l_draw c [o0, o1] P PE := ⟨rfl, h⟩
theorem D_l_draw_n {c : Cl} : ∀ os P PE, D_l_draw c os P PE → os.length = 1 + 1 := fun _ _ _ h => h.1
theorem sim_l_draw {K : PySem.W.Frag} {c : Cl} (fa : Fa K c) (E : XK) : SimS (fun cls dd _ H => E cls dd H) (u_l_draw K c) (B_l_draw c) :=
  (sim_cut (sim_ifs (sim_and (sim_test (SimP.e (simp_op simr_eq (simp_ix sim_var sim_int) sim_int))) (sim_test (SimP.e (simp_op simr_ltG (simp_ix sim_var sim_int) (simp_cb1 sim_len (simp_ix sim_var sim_int)))))) (sim_seq (sim_asg (SimP.e (simp_ix (simp_ix sim_var sim_int) (simp_ix sim_var sim_int))) sim_name) (sim_seq (sim_asg (SimP.e (simp_op simr_add (simp_ix sim_var sim_int) sim_int)) (sim_sub sim_var sim_int)) (sim_seq (sim_asg (SimP.e (simp_op simr_mod (simp_cb1 sim_intB (simp_op simr_add (simp_op simr_add (simp_op simr_mul (simp_ix sim_var sim_int) sim_int) sim_var) sim_int)) sim_int)) (sim_sub sim_var sim_int)) (sim_ifs (sim_test (SimP.e (simp_op simr_ge sim_var (simp_op simr_pow sim_int sim_int)))) (sim_post (sim_asg (SimP.e sim_var) (sim_sub sim_var sim_int))) (sim_kill sim_next))))) sim_next) (sim_seq (sim_ifs (sim_test (SimP.e (simp_op simr_gt (simp_ix sim_var sim_int) sim_int))) (sim_seq (sim_asg (SimP.e (simp_op simr_mod (simp_cb1 sim_intB (simp_ix sim_var sim_int)) sim_var)) sim_name) (sim_seq (sim_post (sim_asg (SimP.e (simp_op simr_div (simp_ix sim_var sim_int) sim_var)) (sim_sub sim_var sim_int))) (sim_ret (SimP.e sim_var)))) sim_next) (sim_seq (sim_asg (SimP.e (simp_op simr_add (simp_ix sim_var sim_int) sim_int)) (sim_sub sim_var sim_int)) (sim_seq (sim_asg (SimP.e (simp_op simr_mod (simp_cb1 sim_intB (simp_op simr_mul (simp_cb1 sim_intB (simp_op simr_add (simp_ix sim_var sim_int) (simp_op simr_mul sim_int (simp_ix sim_var sim_int)))) sim_int)) sim_int)) sim_name) (sim_seq (sim_asg (SimP.e (simp_op simr_mod (simp_cb1 sim_intB (simp_op simr_mul sim_var (simp_op simr_add (simp_op simr_div sim_var sim_int) sim_int))) sim_int)) sim_name) (sim_seq (sim_asg (SimP.e (simp_op simr_mod (simp_cb1 sim_intB (simp_op simr_mul sim_var (simp_op simr_add (simp_op simr_div sim_var sim_int) sim_int))) sim_int)) sim_name) (sim_ret (SimP.e (simp_op simr_mod (simp_cb1 sim_intB (simp_op simr_div sim_var sim_int)) sim_var)))))))))
def u_l_tree (K : PySem.W.Frag) (c : Cl) : TS :=
  (tSeq (tAsg (tLstRg (tRg2 (tC (.int 1)) (tOp (xAddG K) (tVar 1) (tC (.int 1))))) (gName 2)) (tSeq (tAsg (tLst (tCons (tC (.int 0)) tNil)) (gName 3)) (tSeq (tAsg (tOp (xMulG K) (tLst (tCons (tC (.int 0)) tNil)) (tVar 1)) (gName 4)) (tSeq (tWhile (tTest (tOp xGt (tCB (xLenG K) (tCons (tVar 2) tNil)) (tC (.int 0)))) (tSeq (tAsg (tBM K "list" rPopAt (tVar 2) (tCons (tCall (spD (true :: vals 1) (D_l_draw c)) [] E0 (tCons (tVar 0) (tCons (tCB (xLenG K) (tCons (tVar 2) tNil)) tNil))) tNil)) (gName 5)) (tSeq (tAsg (tOp (rIx K) (tVar 3) (tCall (spD (true :: vals 1) (D_l_draw c)) [] E0 (tCons (tVar 0) (tCons (tCB (xLenG K) (tCons (tVar 3) tNil)) tNil)))) (gSub (tVar 4) (tOp xSub (tVar 5) (tC (.int 1))) rSetL)) (tDrop (tBM K "list" rAppend (tVar 3) (tCons (tVar 5) tNil)))))) (tRet (tCB (xTupleOf K) (tCons (tVar 4) tNil)))))))
def B_l_tree (c : Cl) : DTS :=
  (dSeq (dAsg (dRg true (dConsA (dC (.int 1)) (dLastA (dOpP dAdd (dVar 1) (dC (.int 1)))))) (dName 2)) (dSeq (dAsg (dLst (dConsV (dC (.int 0)) dNilV)) (dName 3)) (dSeq (dPost [1] (dAsg (dOpP dMul (dLst (dConsV (dC (.int 0)) dNilV)) (dVar 1)) (dName 4))) (dSeq (dPost [2, 3, 5] (dWhile (dTest (dOpP dGt (dCB dLen (dLastA (dVar 2))) (dC (.int 0)))) (dSeq (dAsg (dMeth1 fPopAt 2 (dCallM false (D_l_draw c) 0 (dConsV (dCB dLen (dLastA (dVar 2))) dNilV))) (dName 5)) (dSeq (dAsg (dIxE (dVar 3) (dCallM false (D_l_draw c) 0 (dConsV (dCB dLen (dLastA (dVar 3))) dNilV))) (dSub (dVar 4) (dOpP dSub2 (dVar 5) (dC (.int 1))))) (dPost [5] (dDrop (dMeth1 fAppend 3 (dVar 5)))))))) (dRet (dCB dTuple (dLastA (dVar 4))))))))
def D_l_tree (c : Cl) : Fn := dFn (true :: vals 1) 6 (B_l_tree c)
theorem D_l_tree_in {c : Cl} {o0 o1 : O} {P : O → List O → Prop} {PE : DExc → List O → Prop} (h : B_l_tree c ⟨fun env => P (.fr .non) (outs [true, false] env), fun o env => P o (outs [true, false] env), fun _ => False, fun _ => False, fun e env => PE e (outs [true, false] env)⟩ [S.bo o0, S.ow o1, S.un, S.un, S.un, S.un]) : D_l_tree c [o0, o1] P PE := ⟨rfl, h⟩
theorem D_l_tree_n {c : Cl} : ∀ os P PE, D_l_tree c os P PE → os.length = 1 + 1 := fun _ _ _ h => h.1
theorem sim_l_tree {K : PySem.W.Frag} {c : Cl} (fa : Fa K c) (E : XK) : SimS (fun cls dd _ H => E cls dd H) (u_l_tree K c) (B_l_tree c) :=
  (sim_seq (sim_asg (sim_lstRg2 (SimP.e sim_int) (SimP.e (simp_op simr_add sim_var sim_int))) sim_name) (sim_seq (sim_asg (sim_lst (sim_consV (SimP.e sim_int) sim_nilV)) sim_name) (sim_seq (sim_post (sim_asg (sim_opP simr_mul (sim_lst (sim_consV (SimP.e sim_int) sim_nilV)) sim_var) sim_name)) (sim_seq (sim_post (sim_while (sim_test (SimP.e (simp_op simr_gt (simp_cb1 sim_len sim_var) sim_int))) (sim_seq (sim_asg (sim_meth1 simM_popAt (sim_callM0 D_l_draw_n (sim_consV (SimP.e (simp_cb1 sim_len sim_var)) sim_nilV))) sim_name) (sim_seq (sim_asg (sim_ixE (SimP.e sim_var) (sim_callM0 D_l_draw_n (sim_consV (SimP.e (simp_cb1 sim_len sim_var)) sim_nilV))) (sim_sub sim_var (simp_op simr_sub sim_var sim_int))) (sim_post (sim_drop (sim_meth1 simM_append (SimP.e sim_var)))))))) (sim_ret (SimP.e (simp_cb1 sim_tuple sim_var)))))))
def u_l_row (K : PySem.W.Frag) (c : Cl) : TS :=
  (tSeq (tAsg (tLst tNil) (gName 2)) (tSeq (tAsg (tVar 1) (gName 3)) (tSeq (tWhile (tTest (tOp (rNeD K) (tVar 3) (tC (.int 0)))) (tSeq (tAsg (tOp (rIx K) (tVar 0) (tOp xSub (tVar 3) (tC (.int 1)))) (gName 3)) (tDrop (tBM K "list" rAppend (tVar 2) (tCons (tVar 3) tNil))))) (tRet (tVar 2)))))
def B_l_row (c : Cl) : DTS :=
  (dSeq (dAsg (dLst dNilV) (dName 2)) (dSeq (dPost [1] (dAsg (dVar 1) (dName 3))) (dSeq (dPost [0, 3] (dWhile (dTest (dOpP dNe (dVar 3) (dC (.int 0)))) (dSeq (dAsg (dIx (dVar 0) (dOpP dSub2 (dVar 3) (dC (.int 1)))) (dName 3)) (dDrop (dMeth1 fAppend 2 (dVar 3)))))) (dRet (dVar 2)))))
def D_l_row (c : Cl) : Fn := dFn (vals 2) 4 (B_l_row c)
theorem D_l_row_in {c : Cl} {o0 o1 : O} {P : O → List O → Prop} {PE : DExc → List O → Prop} (h : B_l_row c ⟨fun env => P (.fr .non) (outs [false, false] env), fun o env => P o (outs [false, false] env), fun _ => False, fun _ => False, fun e env => PE e (outs [false, false] env)⟩ [S.ow o0, S.ow o1, S.un, S.un]) : D_l_row c [o0, o1] P PE := ⟨rfl, h⟩
theorem D_l_row_n {c : Cl} : ∀ os P PE, D_l_row c os P PE → os.length = 2 := fun _ _ _ h => h.1
theorem sim_l_row {K : PySem.W.Frag} {c : Cl} (fa : Fa K c) (E : XK) : SimS (fun cls dd _ H => E cls dd H) (u_l_row K c) (B_l_row c) :=
  (sim_seq (sim_asg (sim_lst sim_nilV) sim_name) (sim_seq (sim_post (sim_asg (SimP.e sim_var) sim_name)) (sim_seq (sim_post (sim_while (sim_test (SimP.e (simp_op simr_ne sim_var sim_int))) (sim_seq (sim_asg (SimP.e (simp_ix sim_var (simp_op simr_sub sim_var sim_int))) sim_name) (sim_drop (sim_meth1 simM_append (SimP.e sim_var)))))) (sim_ret (SimP.e sim_var)))))
def u_l_beneath (K : PySem.W.Frag) (c : Cl) : TS :=
  (tRet (tOp (xAddG K) (tLc (iRng2 (tCons (tC (.int 1)) (tCons (tOp (xAddG K) (tCB (xLenG K) (tCons (tVar 0) tNil)) (tC (.int 1))) tNil))) (gName 2) (tTest (tOp (rIn K false) (tVar 1) (tOp (xAddG K) (tLst (tCons (tVar 2) tNil)) (tCall (spD (vals 2) (D_l_row c)) [] E0 (tCons (tVar 0) (tCons (tVar 2) tNil)))))) (tVar 2) [2]) (tOp (xMulG K) (tLst (tCons (tC (.int 0)) tNil)) (tCB xInt (tCons (tOp (rEqD K) (tVar 1) (tC (.int 0))) tNil)))))
def B_l_beneath (c : Cl) : DTS :=
  (dRet (dOp dAdd (dLc (dRng2 (dConsA (dC (.int 1)) (dLastA (dOpP dAdd (dCB dLen (dLastA (dVar 0))) (dC (.int 1)))))) (dName 2) (dTest (dOp (dIn false) (dVar 1) (dOp dAdd (dLst (dConsV (dVar 2) dNilV)) (dCall false (D_l_row c) (dConsV (dVar 0) (dConsV (dVar 2) dNilV)))))) (dVar 2) [2]) (dOpP dMul (dLst (dConsV (dC (.int 0)) dNilV)) (dCB dInt (dLastA (dOpP dEq (dVar 1) (dC (.int 0))))))))
def D_l_beneath (c : Cl) : Fn := dFn (vals 2) 3 (B_l_beneath c)
theorem D_l_beneath_in {c : Cl} {o0 o1 : O} {P : O → List O → Prop} {PE : DExc → List O → Prop} (h : B_l_beneath c ⟨fun env => P (.fr .non) (outs [false, false] env), fun o env => P o (outs [false, false] env), fun _ => False, fun _ => False, fun e env => PE e (outs [false, false] env)⟩ [S.ow o0, S.ow o1, S.un]) : D_l_beneath c [o0, o1] P PE := ⟨rfl, h⟩
theorem D_l_beneath_n {c : Cl} : ∀ os P PE, D_l_beneath c os P PE → os.length = 2 := fun _ _ _ h => h.1
theorem sim_l_beneath {K : PySem.W.Frag} {c : Cl} (fa : Fa K c) (E : XK) : SimS (fun cls dd _ H => E cls dd H) (u_l_beneath K c) (B_l_beneath c) :=
  (sim_ret (sim_op simr_add (sim_lc (sim_rng2 (sim_consA (SimP.e sim_int) (sim_lastA (SimP.e (simp_op simr_add (simp_cb1 sim_len sim_var) sim_int))))) sim_name (sim_test (sim_op simr_in (SimP.e sim_var) (sim_op simr_add (sim_lst (sim_consV (SimP.e sim_var) sim_nilV)) (sim_call0 D_l_row_n (sim_consV (SimP.e sim_var) (sim_consV (SimP.e sim_var) sim_nilV)))))) (SimP.e sim_var) (by decide)) (sim_opP simr_mul (sim_lst (sim_consV (SimP.e sim_int) sim_nilV)) (simp_cb1 sim_intB (simp_op simr_eq sim_var sim_int)))))
def u_l_put (K : PySem.W.Frag) (c : Cl) : TS :=
  (tRet (tOp (xAddG K) (tOp (xAddG K) (tSl (xSlG K) (tVar 0) tNoPart (tPart (tOp xSub (tVar 1) (tC (.int 1))))) (tTup (tCons (tVar 2) tNil))) (tSl (xSlG K) (tVar 0) (tPart (tVar 1)) tNoPart)))
def B_l_put (c : Cl) : DTS :=
  (dRet (dOp dAdd (dOp dAdd (dSl (dVar 0) dNoPart (dPart (dOpP dSub2 (dVar 1) (dC (.int 1))))) (dTup (dConsV (dVar 2) dNilV))) (dSl (dVar 0) (dPart (dVar 1)) dNoPart)))
def D_l_put (c : Cl) : Fn := dFn (vals 3) 3 (B_l_put c)
theorem D_l_put_in {c : Cl} {o0 o1 o2 : O} {P : O → List O → Prop} {PE : DExc → List O → Prop} (h : B_l_put c ⟨fun env => P (.fr .non) (outs [false, false, false] env), fun o env => P o (outs [false, false, false] env), fun _ => False, fun _ => False, fun e env => PE e (outs [false, false, false] env)⟩ [S.ow o0, S.ow o1, S.ow o2]) : D_l_put c [o0, o1, o2] P PE := ⟨rfl, h⟩
theorem D_l_put_n {c : Cl} : ∀ os P PE, D_l_put c os P PE → os.length = 3 := fun _ _ _ h => h.1
theorem sim_l_put {K : PySem.W.Frag} {c : Cl} (fa : Fa K c) (E : XK) : SimS (fun cls dd _ H => E cls dd H) (u_l_put K c) (B_l_put c) :=
  (sim_ret (sim_op simr_add (sim_op simr_add (sim_sl (SimP.e sim_var) sim_noPart (sim_part (simp_op simr_sub sim_var sim_int))) (sim_tup (sim_consV (SimP.e sim_var) sim_nilV))) (sim_sl (SimP.e sim_var) (sim_part sim_var) sim_noPart)))
def u_l_moves (K : PySem.W.Frag) (c : Cl) : TS :=
  (tSeq (tPar 3 4 (tCons (tTup tNil) (tCons (tVar 1) tNil))) (tSeq (tFor (iRng1 (tCons (tVar 2) tNil)) (gName 5) (tSeq (tAsg (tOp (xAddG K) (tC (.int 1)) (tCall (spD (true :: vals 1) (D_l_draw c)) [] E0 (tCons (tVar 0) (tCons (tCB (xLenG K) (tCons (tVar 1) tNil)) tNil)))) (gName 6)) (tSeq (tAsg (tCall (spD (vals 2) (D_l_beneath c)) [] E0 (tCons (tVar 1) (tCons (tVar 6) tNil))) (gName 7)) (tSeq (tAsg (tLc (iRng1 (tCons (tOp (xAddG K) (tCB (xLenG K) (tCons (tVar 1) tNil)) (tC (.int 1))) tNil)) (gName 9) (tTest (tOp (rIn K true) (tVar 9) (tVar 7))) (tVar 9) [9]) (gName 8)) (tSeq (tAsg (tOp (rIx K) (tVar 8) (tCall (spD (true :: vals 1) (D_l_draw c)) [] E0 (tCons (tVar 0) (tCons (tCB (xLenG K) (tCons (tVar 8) tNil)) tNil)))) (gName 9)) (tSeq (tIfS (tAnd (tTest (tOp (rEqD K) (tCall (spD (true :: vals 1) (D_l_draw c)) [] E0 (tCons (tVar 0) (tCons (tC (.int 4)) tNil))) (tC (.int 0)))) (tTest (tOp (rIn K false) (tOp (rIx K) (tVar 4) (tOp xSub (tVar 6) (tC (.int 1)))) (tVar 8)))) (tAsg (tOp (rIx K) (tVar 4) (tOp xSub (tVar 6) (tC (.int 1)))) (gName 9)) tNext) (tSeq (tAsg (tOp (xAddG K) (tVar 3) (tTup (tCons (tTup (tCons (tVar 6) (tCons (tVar 9) tNil))) tNil))) (gName 3)) (tAsg (tCall (spD (vals 3) (D_l_put c)) [] E0 (tCons (tVar 1) (tCons (tVar 6) (tCons (tVar 9) tNil)))) (gName 1))))))))) (tRet (tTup (tCons (tVar 3) (tCons (tVar 1) tNil))))))
def B_l_moves (c : Cl) : DTS :=
  (dSeq (dPar 3 4 (dConsV (dTup dNilV) (dConsV (dVar 1) dNilV))) (dSeq (dPost [2, 4, 5, 6, 7, 8, 9] (dFor (dIterK [2] (dRng1 (dLastA (dVar 2)))) (dName 5) (dKill [5] (dSeq (dAsg (dOp dAdd (dC (.int 1)) (dCallM false (D_l_draw c) 0 (dConsV (dCB dLen (dLastA (dVar 1))) dNilV))) (dName 6)) (dSeq (dAsg (dCall false (D_l_beneath c) (dConsV (dVar 1) (dConsV (dVar 6) dNilV))) (dName 7)) (dSeq (dPost [7] (dAsg (dLc (dRng1 (dLastA (dOpP dAdd (dCB dLen (dLastA (dVar 1))) (dC (.int 1))))) (dName 9) (dTest (dOpP (dIn true) (dVar 9) (dVar 7))) (dVar 9) [9]) (dName 8))) (dSeq (dAsg (dIxE (dVar 8) (dCallM false (D_l_draw c) 0 (dConsV (dCB dLen (dLastA (dVar 8))) dNilV))) (dName 9)) (dCut (dIfS (dAnd (dTest (dOpP dEq (dCallM false (D_l_draw c) 0 (dConsV (dC (.int 4)) dNilV)) (dC (.int 0)))) (dTest (dOpP (dIn false) (dIx (dVar 4) (dOpP dSub2 (dVar 6) (dC (.int 1)))) (dVar 8)))) (dKill [8, 9] (dAsg (dIx (dVar 4) (dOpP dSub2 (dVar 6) (dC (.int 1)))) (dName 9))) (dKill [8] dNext)) (dSeq (dAsg (dOp dAdd (dVar 3) (dTup (dConsV (dTup (dConsV (dVar 6) (dConsV (dVar 9) dNilV))) dNilV))) (dName 3)) (dPost [6, 9] (dAsg (dCall false (D_l_put c) (dConsV (dVar 1) (dConsV (dVar 6) (dConsV (dVar 9) dNilV)))) (dName 1)))))))))))) (dRet (dTup (dConsV (dVar 3) (dConsV (dVar 1) dNilV))))))
def D_l_moves (c : Cl) : Fn := dFn (true :: vals 2) 10 (B_l_moves c)
theorem D_l_moves_in {c : Cl} {o0 o1 o2 : O} {P : O → List O → Prop} {PE : DExc → List O → Prop} (h : B_l_moves c ⟨fun env => P (.fr .non) (outs [true, false, false] env), fun o env => P o (outs [true, false, false] env), fun _ => False, fun _ => False, fun e env => PE e (outs [true, false, false] env)⟩ [S.bo o0, S.ow o1, S.ow o2, S.un, S.un, S.un, S.un, S.un, S.un, S.un]) : D_l_moves c [o0, o1, o2] P PE := ⟨rfl, h⟩
theorem D_l_moves_n {c : Cl} : ∀ os P PE, D_l_moves c os P PE → os.length = 2 + 1 := fun _ _ _ h => h.1
theorem sim_l_moves {K : PySem.W.Frag} {c : Cl} (fa : Fa K c) (E : XK) : SimS (fun cls dd _ H => E cls dd H) (u_l_moves K c) (B_l_moves c) :=
  (sim_seq (sim_par (sim_consV (sim_tup sim_nilV) (sim_consV (SimP.e sim_var) sim_nilV))) (sim_seq (sim_post (sim_for (sim_iterK (sim_rng1 (sim_lastA (SimP.e sim_var)))) sim_name (sim_kill (sim_seq (sim_asg (sim_op simr_add (SimP.e sim_int) (sim_callM0 D_l_draw_n (sim_consV (SimP.e (simp_cb1 sim_len sim_var)) sim_nilV))) sim_name) (sim_seq (sim_asg (sim_call0 D_l_beneath_n (sim_consV (SimP.e sim_var) (sim_consV (SimP.e sim_var) sim_nilV))) sim_name) (sim_seq (sim_post (sim_asg (sim_lc (sim_rng1 (sim_lastA (SimP.e (simp_op simr_add (simp_cb1 sim_len sim_var) sim_int)))) sim_name (sim_test (SimP.e (simp_op simr_in sim_var sim_var))) (SimP.e sim_var) (by decide)) sim_name)) (sim_seq (sim_asg (sim_ixE (SimP.e sim_var) (sim_callM0 D_l_draw_n (sim_consV (SimP.e (simp_cb1 sim_len sim_var)) sim_nilV))) sim_name) (sim_cut (sim_ifs (sim_and (sim_test (sim_opP simr_eq (sim_callM0 D_l_draw_n (sim_consV (SimP.e sim_int) sim_nilV)) sim_int)) (sim_test (SimP.e (simp_op simr_in (simp_ix sim_var (simp_op simr_sub sim_var sim_int)) sim_var)))) (sim_kill (sim_asg (SimP.e (simp_ix sim_var (simp_op simr_sub sim_var sim_int))) sim_name)) (sim_kill sim_next)) (sim_seq (sim_asg (sim_op simr_add (SimP.e sim_var) (sim_tup (sim_consV (sim_tup (sim_consV (SimP.e sim_var) (sim_consV (SimP.e sim_var) sim_nilV))) sim_nilV))) sim_name) (sim_post (sim_asg (sim_call0 D_l_put_n (sim_consV (SimP.e sim_var) (sim_consV (SimP.e sim_var) (sim_consV (SimP.e sim_var) sim_nilV)))) sim_name))))))))))) (sim_ret (sim_tup (sim_consV (SimP.e sim_var) (sim_consV (SimP.e sim_var) sim_nilV))))))
def u_l_deep (K : PySem.W.Frag) (c : Cl) : TS :=
  (tSeq (tAsg (tTup tNil) (gName 1)) (tSeq (tFor (iRng1 (tCons (tC (.int 18)) tNil)) (gName 2) (tAsg (tOp (rIx K) (tLst (tCons (tTup (tCons (tTup (tCons (tVar 1) tNil)) tNil)) (tCons (tLst (tCons (tLst (tCons (tVar 1) tNil)) tNil)) (tCons (tTup (tCons (tC (.str "rows")) (tCons (tLst (tCons (tVar 1) tNil)) tNil))) tNil)))) (tVar 0)) (gName 1))) (tRet (tVar 1))))
def B_l_deep (c : Cl) : DTS :=
  (dSeq (dAsg (dTup dNilV) (dName 1)) (dSeq (dPost [0, 2] (dFor (dRng1 (dLastA (dC (.int 18)))) (dName 2) (dKill [2] (dAsg (dIx (dLst (dConsV (dTup (dConsV (dTup (dConsV (dVar 1) dNilV)) dNilV)) (dConsV (dLst (dConsV (dLst (dConsV (dVar 1) dNilV)) dNilV)) (dConsV (dTup (dConsV (dC (.str "rows")) (dConsV (dLst (dConsV (dVar 1) dNilV)) dNilV))) dNilV)))) (dVar 0)) (dName 1))))) (dRet (dVar 1))))
def D_l_deep (c : Cl) : Fn := dFn (vals 1) 3 (B_l_deep c)
theorem D_l_deep_in {c : Cl} {o0 : O} {P : O → List O → Prop} {PE : DExc → List O → Prop} (h : B_l_deep c ⟨fun env => P (.fr .non) (outs [false] env), fun o env => P o (outs [false] env), fun _ => False, fun _ => False, fun e env => PE e (outs [false] env)⟩ [S.ow o0, S.un, S.un]) : D_l_deep c [o0] P PE := ⟨rfl, h⟩
theorem D_l_deep_n {c : Cl} : ∀ os P PE, D_l_deep c os P PE → os.length = 1 := fun _ _ _ h => h.1
theorem sim_l_deep {K : PySem.W.Frag} {c : Cl} (fa : Fa K c) (E : XK) : SimS (fun cls dd _ H => E cls dd H) (u_l_deep K c) (B_l_deep c) :=
  (sim_seq (sim_asg (sim_tup sim_nilV) sim_name) (sim_seq (sim_post (sim_for (sim_rng1 (sim_lastA (SimP.e sim_int))) sim_name (sim_kill (sim_asg (sim_ix (sim_lst (sim_consV (sim_tup (sim_consV (sim_tup (sim_consV (SimP.e sim_var) sim_nilV)) sim_nilV)) (sim_consV (sim_lst (sim_consV (sim_lst (sim_consV (SimP.e sim_var) sim_nilV)) sim_nilV)) (sim_consV (sim_tup (sim_consV (SimP.e sim_str) (sim_consV (sim_lst (sim_consV (SimP.e sim_var) sim_nilV)) sim_nilV))) sim_nilV)))) sim_var) sim_name)))) (sim_ret (SimP.e sim_var))))
def u_l_odd (K : PySem.W.Frag) (c : Cl) : TS :=
  (tSeq (tAsg (tLst (tCons (tC .non) (tCons (tC (.bl true)) (tCons (tC (.bl false)) (tCons (tC (.int 0)) (tCons (tUn xNeg (tC (.int 1))) (tCons (tC (.str "0")) (tCons (tC (.str "")) (tCons (tTup tNil) (tCons (tLst tNil) (tCons tDNewK (tCons (tTup (tCons (tC (.int 0)) tNil)) (tCons (tTup (tCons (tTup (tCons (tC (.int 0)) (tCons (tC (.int 1)) tNil))) tNil)) (tCons (tTup (tCons (tC .non) tNil)) (tCons (tOp xPow (tC (.int 10)) (tC (.int 39))) (tCons (tVar 1) tNil)))))))))))))))) (gName 2)) (tRet (tOp (rIx K) (tOp (xAddG K) (tVar 2) (tLst (tCons (tCall (spD (vals 1) (D_l_deep c)) [] E0 (tCons (tC (.int 0)) tNil)) (tCons (tCall (spD (vals 1) (D_l_deep c)) [] E0 (tCons (tC (.int 1)) tNil)) (tCons (tCall (spD (vals 1) (D_l_deep c)) [] E0 (tCons (tC (.int 2)) tNil)) tNil))))) (tCall (spD (true :: vals 1) (D_l_draw c)) [] E0 (tCons (tVar 0) (tCons (tC (.int 18)) tNil))))))
def B_l_odd (c : Cl) : DTS :=
  (dSeq (dPost [1] (dAsg (dLst (dConsV (dC .non) (dConsV (dC (.bl true)) (dConsV (dC (.bl false)) (dConsV (dC (.int 0)) (dConsV (dUn dNeg (dC (.int 1))) (dConsV (dC (.str "0")) (dConsV (dC (.str "")) (dConsV (dTup dNilV) (dConsV (dLst dNilV) (dConsV (dDct0 false) (dConsV (dTup (dConsV (dC (.int 0)) dNilV)) (dConsV (dTup (dConsV (dTup (dConsV (dC (.int 0)) (dConsV (dC (.int 1)) dNilV))) dNilV)) (dConsV (dTup (dConsV (dC .non) dNilV)) (dConsV (dOpP dPow (dC (.int 10)) (dC (.int 39))) (dConsV (dVar 1) dNilV)))))))))))))))) (dName 2))) (dRet (dIxE (dOp dAdd (dVar 2) (dLst (dConsV (dCall false (D_l_deep c) (dConsV (dC (.int 0)) dNilV)) (dConsV (dCall false (D_l_deep c) (dConsV (dC (.int 1)) dNilV)) (dConsV (dCall false (D_l_deep c) (dConsV (dC (.int 2)) dNilV)) dNilV))))) (dCallM false (D_l_draw c) 0 (dConsV (dC (.int 18)) dNilV)))))
def D_l_odd (c : Cl) : Fn := dFn (true :: vals 1) 3 (B_l_odd c)
theorem D_l_odd_in {c : Cl} {o0 o1 : O} {P : O → List O → Prop} {PE : DExc → List O → Prop} (h : B_l_odd c ⟨fun env => P (.fr .non) (outs [true, false] env), fun o env => P o (outs [true, false] env), fun _ => False, fun _ => False, fun e env => PE e (outs [true, false] env)⟩ [S.bo o0, S.ow o1, S.un]) : D_l_odd c [o0, o1] P PE := ⟨rfl, h⟩
theorem D_l_odd_n {c : Cl} : ∀ os P PE, D_l_odd c os P PE → os.length = 1 + 1 := fun _ _ _ h => h.1
theorem sim_l_odd {K : PySem.W.Frag} {c : Cl} (fa : Fa K c) (E : XK) : SimS (fun cls dd _ H => E cls dd H) (u_l_odd K c) (B_l_odd c) :=
  (sim_seq (sim_post (sim_asg (sim_lst (sim_consV (SimP.e sim_non) (sim_consV (SimP.e sim_bl) (sim_consV (SimP.e sim_bl) (sim_consV (SimP.e sim_int) (sim_consV (SimP.e (simp_un simr_neg sim_int)) (sim_consV (SimP.e sim_str) (sim_consV (SimP.e sim_str) (sim_consV (sim_tup sim_nilV) (sim_consV (sim_lst sim_nilV) (sim_consV sim_dctK (sim_consV (sim_tup (sim_consV (SimP.e sim_int) sim_nilV)) (sim_consV (sim_tup (sim_consV (sim_tup (sim_consV (SimP.e sim_int) (sim_consV (SimP.e sim_int) sim_nilV))) sim_nilV)) (sim_consV (sim_tup (sim_consV (SimP.e sim_non) sim_nilV)) (sim_consV (SimP.e (simp_op simr_pow sim_int sim_int)) (sim_consV (SimP.e sim_var) sim_nilV)))))))))))))))) sim_name)) (sim_ret (sim_ixE (sim_op simr_add (SimP.e sim_var) (sim_lst (sim_consV (sim_call0 D_l_deep_n (sim_consV (SimP.e sim_int) sim_nilV)) (sim_consV (sim_call0 D_l_deep_n (sim_consV (SimP.e sim_int) sim_nilV)) (sim_consV (sim_call0 D_l_deep_n (sim_consV (SimP.e sim_int) sim_nilV)) sim_nilV))))) (sim_callM0 D_l_draw_n (sim_consV (SimP.e sim_int) sim_nilV)))))
def u_l_is_whole (K : PySem.W.Frag) (c : Cl) : TS :=
  (tRet (tAndV (tCB (xIsiG K) (tCons (tVar 0) (tCons (tC (.ty "int")) tNil))) (tAndV (tNotV (tCB (xIsiG K) (tCons (tVar 0) (tCons (tC (.ty "bool")) tNil)))) (tChain xLe xLe (tVar 1) (tVar 0) (tVar 2)))))
def B_l_is_whole (c : Cl) : DTS :=
  (dRet (dAndV (dCB (dIsi [c.Tree, c.History]) (dConsA (dVar 0) (dLastA (dC (.ty "int"))))) (dAndV (dNotV (dCB (dIsi [c.Tree, c.History]) (dConsA (dVar 0) (dLastA (dC (.ty "bool")))))) (dChain dLe dLe (dVar 1) (dVar 0) (dVar 2)))))
def D_l_is_whole (c : Cl) : Fn := dFn (vals 3) 3 (B_l_is_whole c)
theorem D_l_is_whole_in {c : Cl} {o0 o1 o2 : O} {P : O → List O → Prop} {PE : DExc → List O → Prop} (h : B_l_is_whole c ⟨fun env => P (.fr .non) (outs [false, false, false] env), fun o env => P o (outs [false, false, false] env), fun _ => False, fun _ => False, fun e env => PE e (outs [false, false, false] env)⟩ [S.ow o0, S.ow o1, S.ow o2]) : D_l_is_whole c [o0, o1, o2] P PE := ⟨rfl, h⟩
theorem D_l_is_whole_n {c : Cl} : ∀ os P PE, D_l_is_whole c os P PE → os.length = 3 := fun _ _ _ h => h.1
theorem sim_l_is_whole {K : PySem.W.Frag} {c : Cl} (fa : Fa K c) (E : XK) : SimS (fun cls dd _ H => E cls dd H) (u_l_is_whole K c) (B_l_is_whole c) :=
  (sim_ret (sim_andV (sim_cb (sim_isi fa.cls) (sim_consA (SimP.e sim_var) (sim_lastA (SimP.e sim_ty)))) (sim_andV (sim_notV (sim_cb (sim_isi fa.cls) (sim_consA (SimP.e sim_var) (sim_lastA (SimP.e sim_ty))))) (sim_chain simr_le simr_le (SimP.e sim_var) (SimP.e sim_var) (SimP.e sim_var)))))
def u_l_due (K : PySem.W.Frag) (c : Cl) : TS :=
  (tSeq (tIfS (tOr (tNot (tB (tCB (xIsiG K) (tCons (tVar 1) (tCons (tC (.ty "tuple")) tNil))))) (tTest (tOp xGt (tCB (xLenG K) (tCons (tVar 1) tNil)) (tC (.int 100))))) (tRet (tC (.str "moves"))) tNext) (tSeq (tFor (iEnumA K (tCons (tVar 1) tNil)) (gTup K 2 (gCons (gName 2) (gCons (gName 3) gNil))) (tSeq (tIfS (tOr (tNot (tB (tCB (xIsiG K) (tCons (tVar 3) (tCons (tC (.ty "tuple")) tNil))))) (tOr (tTest (tOp (rNeD K) (tCB (xLenG K) (tCons (tVar 3) tNil)) (tC (.int 2)))) (tNot (tB (tCall (spD (vals 3) (D_l_is_whole c)) [] E0 (tCons (tOp (rIx K) (tVar 3) (tC (.int 0))) (tCons (tC (.int 1)) (tCons (tCB (xLenG K) (tCons (tVar 0) tNil)) tNil)))))))) (tRet (tVar 2)) tNext) (tSeq (tIfS (tOr (tNot (tB (tCall (spD (vals 3) (D_l_is_whole c)) [] E0 (tCons (tOp (rIx K) (tVar 3) (tC (.int 1))) (tCons (tC (.int 0)) (tCons (tCB (xLenG K) (tCons (tVar 0) tNil)) tNil)))))) (tTest (tOp (rIn K false) (tOp (rIx K) (tVar 3) (tC (.int 1))) (tCall (spD (vals 2) (D_l_beneath c)) [] E0 (tCons (tVar 0) (tCons (tOp (rIx K) (tVar 3) (tC (.int 0))) tNil)))))) (tRet (tVar 2)) tNext) (tAsg (tCall (spD (vals 3) (D_l_put c)) [] E0 (tCons (tVar 0) (tCons (tOp (rIx K) (tVar 3) (tC (.int 0))) (tCons (tOp (rIx K) (tVar 3) (tC (.int 1))) tNil)))) (gName 0))))) (tRet (tC (.str "let")))))
def B_l_due (c : Cl) : DTS :=
  (dSeq (dIfS (dOr (dNot (dTest (dCB (dIsi [c.Tree, c.History]) (dConsA (dVar 1) (dLastA (dC (.ty "tuple"))))))) (dTest (dOpP dGt (dCB dLen (dLastA (dVar 1))) (dC (.int 100))))) (dRet (dC (.str "moves"))) dNext) (dSeq (dPost [0, 1, 2, 3] (dFor (dIterK [1] (dEnumA (dVar 1))) (dGTup 2 (dGCons (dName 2) (dGCons (dName 3) dGNil))) (dSeq (dIfS (dOr (dNot (dTest (dCB (dIsi [c.Tree, c.History]) (dConsA (dVar 3) (dLastA (dC (.ty "tuple"))))))) (dOr (dTest (dOpP dNe (dCB dLen (dLastA (dVar 3))) (dC (.int 2)))) (dNot (dTest (dCall false (D_l_is_whole c) (dConsV (dIx (dVar 3) (dC (.int 0))) (dConsV (dC (.int 1)) (dConsV (dCB dLen (dLastA (dVar 0))) dNilV)))))))) (dRet (dVar 2)) dNext) (dSeq (dIfS (dOr (dNot (dTest (dCall false (D_l_is_whole c) (dConsV (dIx (dVar 3) (dC (.int 1))) (dConsV (dC (.int 0)) (dConsV (dCB dLen (dLastA (dVar 0))) dNilV)))))) (dTest (dOp (dIn false) (dIx (dVar 3) (dC (.int 1))) (dCall false (D_l_beneath c) (dConsV (dVar 0) (dConsV (dIx (dVar 3) (dC (.int 0))) dNilV)))))) (dRet (dVar 2)) (dKill [2] dNext)) (dPost [3] (dAsg (dCall false (D_l_put c) (dConsV (dVar 0) (dConsV (dIx (dVar 3) (dC (.int 0))) (dConsV (dIx (dVar 3) (dC (.int 1))) dNilV)))) (dName 0))))))) (dRet (dC (.str "let")))))
def D_l_due (c : Cl) : Fn := dFn (vals 2) 4 (B_l_due c)
theorem D_l_due_in {c : Cl} {o0 o1 : O} {P : O → List O → Prop} {PE : DExc → List O → Prop} (h : B_l_due c ⟨fun env => P (.fr .non) (outs [false, false] env), fun o env => P o (outs [false, false] env), fun _ => False, fun _ => False, fun e env => PE e (outs [false, false] env)⟩ [S.ow o0, S.ow o1, S.un, S.un]) : D_l_due c [o0, o1] P PE := ⟨rfl, h⟩
theorem D_l_due_n {c : Cl} : ∀ os P PE, D_l_due c os P PE → os.length = 2 := fun _ _ _ h => h.1
theorem sim_l_due {K : PySem.W.Frag} {c : Cl} (fa : Fa K c) (E : XK) : SimS (fun cls dd _ H => E cls dd H) (u_l_due K c) (B_l_due c) :=
  (sim_seq (sim_ifs (sim_or (sim_not (sim_b (sim_cb (sim_isi fa.cls) (sim_consA (SimP.e sim_var) (sim_lastA (SimP.e sim_ty)))))) (sim_test (SimP.e (simp_op simr_gt (simp_cb1 sim_len sim_var) sim_int)))) (sim_ret (SimP.e sim_str)) sim_next) (sim_seq (sim_post (sim_for (sim_iterK (sim_enumA (SimP.e sim_var))) (sim_gtup (sim_gcons sim_name (sim_gcons sim_name sim_gnil))) (sim_seq (sim_ifs (sim_or (sim_not (sim_b (sim_cb (sim_isi fa.cls) (sim_consA (SimP.e sim_var) (sim_lastA (SimP.e sim_ty)))))) (sim_or (sim_test (SimP.e (simp_op simr_ne (simp_cb1 sim_len sim_var) sim_int))) (sim_not (sim_b (sim_call0 D_l_is_whole_n (sim_consV (SimP.e (simp_ix sim_var sim_int)) (sim_consV (SimP.e sim_int) (sim_consV (SimP.e (simp_cb1 sim_len sim_var)) sim_nilV)))))))) (sim_ret (SimP.e sim_var)) sim_next) (sim_seq (sim_ifs (sim_or (sim_not (sim_b (sim_call0 D_l_is_whole_n (sim_consV (SimP.e (simp_ix sim_var sim_int)) (sim_consV (SimP.e sim_int) (sim_consV (SimP.e (simp_cb1 sim_len sim_var)) sim_nilV)))))) (sim_test (sim_op simr_in (SimP.e (simp_ix sim_var sim_int)) (sim_call0 D_l_beneath_n (sim_consV (SimP.e sim_var) (sim_consV (SimP.e (simp_ix sim_var sim_int)) sim_nilV)))))) (sim_ret (SimP.e sim_var)) (sim_kill sim_next)) (sim_post (sim_asg (sim_call0 D_l_put_n (sim_consV (SimP.e sim_var) (sim_consV (SimP.e (simp_ix sim_var sim_int)) (sim_consV (SimP.e (simp_ix sim_var sim_int)) sim_nilV)))) sim_name)))))) (sim_ret (SimP.e sim_str))))
def u_l_answer (K : PySem.W.Frag) (c : Cl) : TS :=
  (tSeq (tAsg (tC (.str "let")) (gName 2)) (tSeq (tTryFst K (.ref c.BadHistory) 3 (fun W => (tDrop (tMakeS c.History (spD (true :: vals 2) (D_History_init c)) (WE W) (tCons (tVar 0) (tCons (tVar 1) tNil))))) (fun a cls d => tAsg (tXf a cls d c.BadHistory "part" (tVar 3)) (gName 2))) (tRet (tVar 2))))
def B_l_answer (c : Cl) : DTS :=
  (dSeq (dAsg (dC (.str "let")) (dName 2)) (dCut (dTryFst c.BadHistory "part" 3 2 (dPost [0, 1] (dDrop (dMake true c.History (D_History_init c) (dConsV (dVar 0) (dConsV (dVar 1) dNilV)))))) (dRet (dVar 2))))
def D_l_answer (c : Cl) : Fn := dFn (vals 2) 4 (B_l_answer c)
theorem D_l_answer_in {c : Cl} {o0 o1 : O} {P : O → List O → Prop} {PE : DExc → List O → Prop} (h : B_l_answer c ⟨fun env => P (.fr .non) (outs [false, false] env), fun o env => P o (outs [false, false] env), fun _ => False, fun _ => False, fun e env => PE e (outs [false, false] env)⟩ [S.ow o0, S.ow o1, S.un, S.un]) : D_l_answer c [o0, o1] P PE := ⟨rfl, h⟩
theorem D_l_answer_n {c : Cl} : ∀ os P PE, D_l_answer c os P PE → os.length = 2 := fun _ _ _ h => h.1
theorem sim_l_answer {K : PySem.W.Frag} {c : Cl} (fa : Fa K c) (E : XK) : SimS (fun cls dd _ H => E cls dd H) (u_l_answer K c) (B_l_answer c) :=
  (sim_seq (sim_asg (SimP.e sim_str) sim_name) (sim_cut (sim_tryFst (by decide) (fun W => (sim_post (sim_drop (sim_makeS D_History_init_n (sim_consV (SimP.e sim_var) (sim_consV (SimP.e sim_var) sim_nilV)))))) fa.x_BadHistory) (sim_ret (SimP.e sim_var))))
def u_l_bent (K : PySem.W.Frag) (c : Cl) : TS :=
  (tSeq (tIfS (tOr (tTest (tOp (rEqD K) (tCall (spD (true :: vals 1) (D_l_draw c)) [] E0 (tCons (tVar 0) (tCons (tC (.int 4)) tNil))) (tC (.int 0)))) (tTest (tOp (rEqD K) (tCB (xLenG K) (tCons (tVar 2) tNil)) (tC (.int 0))))) (tSeq (tAsg (tOp (xMulG K) (tTup (tCons (tTup (tCons (tC (.int 1)) (tCons (tC (.int 0)) tNil))) tNil)) (tOp (xAddG K) (tC (.int 100)) (tCall (spD (true :: vals 1) (D_l_draw c)) [] E0 (tCons (tVar 0) (tCons (tC (.int 2)) tNil))))) (gName 4)) (tRet (tOp (rIx K) (tLst (tCons (tCB (xListOf K) (tCons (tVar 2) tNil)) (tCons (tC .non) (tCons (tC (.str "moves")) (tCons (tTup (tCons (tC .non) tNil)) (tCons (tVar 4) (tCons (tTup (tCons (tVar 2) tNil)) (tCons tDNewK (tCons (tVar 3) (tCons (tCall (spD (true :: vals 1) (D_l_odd c)) [] E0 (tCons (tVar 0) (tCons (tVar 3) tNil))) tNil)))))))))) (tCall (spD (true :: vals 1) (D_l_draw c)) [] E0 (tCons (tVar 0) (tCons (tC (.int 9)) tNil)))))) tNext) (tSeq (tAsg (tCall (spD (true :: vals 1) (D_l_draw c)) [] E0 (tCons (tVar 0) (tCons (tCB (xLenG K) (tCons (tVar 2) tNil)) tNil))) (gName 5)) (tSeq (tAsg (tOp (rIx K) (tVar 2) (tVar 5)) (gTup K 2 (gCons (gName 6) (gCons (gName 7) gNil)))) (tSeq (tAsg (tLst (tCons (tTup (tCons (tVar 6) (tCons (tVar 6) tNil))) (tCons (tTup (tCons (tOp (xAddG K) (tC (.int 1)) (tCall (spD (true :: vals 1) (D_l_draw c)) [] E0 (tCons (tVar 0) (tCons (tVar 1) tNil)))) (tCons (tCall (spD (true :: vals 1) (D_l_draw c)) [] E0 (tCons (tVar 0) (tCons (tOp (xAddG K) (tVar 1) (tC (.int 1))) tNil))) tNil))) (tCons (tTup (tCons (tC (.int 0)) (tCons (tVar 7) tNil))) (tCons (tTup (tCons (tOp (xAddG K) (tVar 1) (tC (.int 1))) (tCons (tVar 7) tNil))) tNil))))) (gName 8)) (tSeq (tAsg (tOp (xAddG K) (tVar 8) (tLst (tCons (tTup (tCons (tVar 6) (tCons (tOp (xAddG K) (tVar 1) (tC (.int 1))) tNil))) (tCons (tTup (tCons (tVar 6) (tCons (tUn xNeg (tC (.int 1))) tNil))) (tCons (tTup (tCons (tC (.bl true)) (tCons (tVar 7) tNil))) (tCons (tTup (tCons (tVar 6) (tCons (tC (.bl true)) tNil))) (tCons (tLst (tCons (tVar 6) (tCons (tVar 7) tNil))) (tCons (tTup (tCons (tVar 6) tNil)) (tCons (tC .non) tNil))))))))) (gName 8)) (tSeq (tAsg (tOp (rIx K) (tOp (xAddG K) (tVar 8) (tLst (tCons (tTup (tCons (tVar 6) (tCons (tVar 7) (tCons (tC (.int 0)) tNil)))) (tCons (tTup (tCons (tVar 6) (tCons (tC (.str "0")) tNil))) (tCons (tCall (spD (true :: vals 1) (D_l_odd c)) [] E0 (tCons (tVar 0) (tCons (tVar 3) tNil))) (tCons (tTup (tCons (tCall (spD (true :: vals 1) (D_l_odd c)) [] E0 (tCons (tVar 0) (tCons (tVar 3) tNil))) (tCons (tVar 7) tNil))) tNil)))))) (tCall (spD (true :: vals 1) (D_l_draw c)) [] E0 (tCons (tVar 0) (tCons (tC (.int 15)) tNil)))) (gName 9)) (tRet (tOp (xAddG K) (tOp (xAddG K) (tSl (xSlG K) (tVar 2) tNoPart (tPart (tVar 5))) (tTup (tCons (tVar 9) tNil))) (tSl (xSlG K) (tVar 2) (tPart (tOp (xAddG K) (tVar 5) (tC (.int 1)))) tNoPart)))))))))
def B_l_bent (c : Cl) : DTS :=
  (dSeq (dIfS (dOr (dTest (dOpP dEq (dCallM false (D_l_draw c) 0 (dConsV (dC (.int 4)) dNilV)) (dC (.int 0)))) (dTest (dOpP dEq (dCB dLen (dLastA (dVar 2))) (dC (.int 0))))) (dKill [1] (dCut (dAsg (dOp dMul (dTup (dConsV (dTup (dConsV (dC (.int 1)) (dConsV (dC (.int 0)) dNilV))) dNilV)) (dOp dAdd (dC (.int 100)) (dCallM false (D_l_draw c) 0 (dConsV (dC (.int 2)) dNilV)))) (dName 4)) (dRet (dIxE (dLst (dConsV (dCB dList (dLastA (dVar 2))) (dConsV (dC .non) (dConsV (dC (.str "moves")) (dConsV (dTup (dConsV (dC .non) dNilV)) (dConsV (dVar 4) (dConsV (dTup (dConsV (dVar 2) dNilV)) (dConsV (dDct0 false) (dConsV (dVar 3) (dConsV (dCallM false (D_l_odd c) 0 (dConsV (dVar 3) dNilV)) dNilV)))))))))) (dCallM false (D_l_draw c) 0 (dConsV (dC (.int 9)) dNilV)))))) dNext) (dSeq (dAsg (dCallM false (D_l_draw c) 0 (dConsV (dCB dLen (dLastA (dVar 2))) dNilV)) (dName 5)) (dSeq (dAsg (dIx (dVar 2) (dVar 5)) (dGTup 2 (dGCons (dName 6) (dGCons (dName 7) dGNil)))) (dCut (dAsg (dLst (dConsV (dTup (dConsV (dVar 6) (dConsV (dVar 6) dNilV))) (dConsV (dTup (dConsV (dOp dAdd (dC (.int 1)) (dCallM false (D_l_draw c) 0 (dConsV (dVar 1) dNilV))) (dConsV (dCallM false (D_l_draw c) 0 (dConsV (dOpP dAdd (dVar 1) (dC (.int 1))) dNilV)) dNilV))) (dConsV (dTup (dConsV (dC (.int 0)) (dConsV (dVar 7) dNilV))) (dConsV (dTup (dConsV (dOpP dAdd (dVar 1) (dC (.int 1))) (dConsV (dVar 7) dNilV))) dNilV))))) (dName 8)) (dCut (dPost [1] (dAsg (dOp dAdd (dVar 8) (dLst (dConsV (dTup (dConsV (dVar 6) (dConsV (dOpP dAdd (dVar 1) (dC (.int 1))) dNilV))) (dConsV (dTup (dConsV (dVar 6) (dConsV (dUn dNeg (dC (.int 1))) dNilV))) (dConsV (dTup (dConsV (dC (.bl true)) (dConsV (dVar 7) dNilV))) (dConsV (dTup (dConsV (dVar 6) (dConsV (dC (.bl true)) dNilV))) (dConsV (dLst (dConsV (dVar 6) (dConsV (dVar 7) dNilV))) (dConsV (dTup (dConsV (dVar 6) dNilV)) (dConsV (dC .non) dNilV))))))))) (dName 8))) (dCut (dPost [3, 6, 7, 8] (dAsg (dIxE (dOp dAdd (dVar 8) (dLst (dConsV (dTup (dConsV (dVar 6) (dConsV (dVar 7) (dConsV (dC (.int 0)) dNilV)))) (dConsV (dTup (dConsV (dVar 6) (dConsV (dC (.str "0")) dNilV))) (dConsV (dCallM false (D_l_odd c) 0 (dConsV (dVar 3) dNilV)) (dConsV (dTup (dConsV (dCallM false (D_l_odd c) 0 (dConsV (dVar 3) dNilV)) (dConsV (dVar 7) dNilV))) dNilV)))))) (dCallM false (D_l_draw c) 0 (dConsV (dC (.int 15)) dNilV))) (dName 9))) (dRet (dOp dAdd (dOp dAdd (dSl (dVar 2) dNoPart (dPart (dVar 5))) (dTup (dConsV (dVar 9) dNilV))) (dSl (dVar 2) (dPart (dOpP dAdd (dVar 5) (dC (.int 1)))) dNoPart)))))))))
def D_l_bent (c : Cl) : Fn := dFn (true :: vals 3) 10 (B_l_bent c)
theorem D_l_bent_in {c : Cl} {o0 o1 o2 o3 : O} {P : O → List O → Prop} {PE : DExc → List O → Prop} (h : B_l_bent c ⟨fun env => P (.fr .non) (outs [true, false, false, false] env), fun o env => P o (outs [true, false, false, false] env), fun _ => False, fun _ => False, fun e env => PE e (outs [true, false, false, false] env)⟩ [S.bo o0, S.ow o1, S.ow o2, S.ow o3, S.un, S.un, S.un, S.un, S.un, S.un]) : D_l_bent c [o0, o1, o2, o3] P PE := ⟨rfl, h⟩
theorem D_l_bent_n {c : Cl} : ∀ os P PE, D_l_bent c os P PE → os.length = 3 + 1 := fun _ _ _ h => h.1
theorem sim_l_bent {K : PySem.W.Frag} {c : Cl} (fa : Fa K c) (E : XK) : SimS (fun cls dd _ H => E cls dd H) (u_l_bent K c) (B_l_bent c) :=
  (sim_seq (sim_ifs (sim_or (sim_test (sim_opP simr_eq (sim_callM0 D_l_draw_n (sim_consV (SimP.e sim_int) sim_nilV)) sim_int)) (sim_test (SimP.e (simp_op simr_eq (simp_cb1 sim_len sim_var) sim_int)))) (sim_kill (sim_cut (sim_asg (sim_op simr_mul (sim_tup (sim_consV (sim_tup (sim_consV (SimP.e sim_int) (sim_consV (SimP.e sim_int) sim_nilV))) sim_nilV)) (sim_op simr_add (SimP.e sim_int) (sim_callM0 D_l_draw_n (sim_consV (SimP.e sim_int) sim_nilV)))) sim_name) (sim_ret (sim_ixE (sim_lst (sim_consV (SimP.e (simp_cb1 sim_list sim_var)) (sim_consV (SimP.e sim_non) (sim_consV (SimP.e sim_str) (sim_consV (sim_tup (sim_consV (SimP.e sim_non) sim_nilV)) (sim_consV (SimP.e sim_var) (sim_consV (sim_tup (sim_consV (SimP.e sim_var) sim_nilV)) (sim_consV sim_dctK (sim_consV (SimP.e sim_var) (sim_consV (sim_callM0 D_l_odd_n (sim_consV (SimP.e sim_var) sim_nilV)) sim_nilV)))))))))) (sim_callM0 D_l_draw_n (sim_consV (SimP.e sim_int) sim_nilV)))))) sim_next) (sim_seq (sim_asg (sim_callM0 D_l_draw_n (sim_consV (SimP.e (simp_cb1 sim_len sim_var)) sim_nilV)) sim_name) (sim_seq (sim_asg (SimP.e (simp_ix sim_var sim_var)) (sim_gtup (sim_gcons sim_name (sim_gcons sim_name sim_gnil)))) (sim_cut (sim_asg (sim_lst (sim_consV (sim_tup (sim_consV (SimP.e sim_var) (sim_consV (SimP.e sim_var) sim_nilV))) (sim_consV (sim_tup (sim_consV (sim_op simr_add (SimP.e sim_int) (sim_callM0 D_l_draw_n (sim_consV (SimP.e sim_var) sim_nilV))) (sim_consV (sim_callM0 D_l_draw_n (sim_consV (SimP.e (simp_op simr_add sim_var sim_int)) sim_nilV)) sim_nilV))) (sim_consV (sim_tup (sim_consV (SimP.e sim_int) (sim_consV (SimP.e sim_var) sim_nilV))) (sim_consV (sim_tup (sim_consV (SimP.e (simp_op simr_add sim_var sim_int)) (sim_consV (SimP.e sim_var) sim_nilV))) sim_nilV))))) sim_name) (sim_cut (sim_post (sim_asg (sim_op simr_add (SimP.e sim_var) (sim_lst (sim_consV (sim_tup (sim_consV (SimP.e sim_var) (sim_consV (SimP.e (simp_op simr_add sim_var sim_int)) sim_nilV))) (sim_consV (sim_tup (sim_consV (SimP.e sim_var) (sim_consV (SimP.e (simp_un simr_neg sim_int)) sim_nilV))) (sim_consV (sim_tup (sim_consV (SimP.e sim_bl) (sim_consV (SimP.e sim_var) sim_nilV))) (sim_consV (sim_tup (sim_consV (SimP.e sim_var) (sim_consV (SimP.e sim_bl) sim_nilV))) (sim_consV (sim_lst (sim_consV (SimP.e sim_var) (sim_consV (SimP.e sim_var) sim_nilV))) (sim_consV (sim_tup (sim_consV (SimP.e sim_var) sim_nilV)) (sim_consV (SimP.e sim_non) sim_nilV))))))))) sim_name)) (sim_cut (sim_post (sim_asg (sim_ixE (sim_op simr_add (SimP.e sim_var) (sim_lst (sim_consV (sim_tup (sim_consV (SimP.e sim_var) (sim_consV (SimP.e sim_var) (sim_consV (SimP.e sim_int) sim_nilV)))) (sim_consV (sim_tup (sim_consV (SimP.e sim_var) (sim_consV (SimP.e sim_str) sim_nilV))) (sim_consV (sim_callM0 D_l_odd_n (sim_consV (SimP.e sim_var) sim_nilV)) (sim_consV (sim_tup (sim_consV (sim_callM0 D_l_odd_n (sim_consV (SimP.e sim_var) sim_nilV)) (sim_consV (SimP.e sim_var) sim_nilV))) sim_nilV)))))) (sim_callM0 D_l_draw_n (sim_consV (SimP.e sim_int) sim_nilV))) sim_name)) (sim_ret (sim_op simr_add (sim_op simr_add (sim_sl (SimP.e sim_var) sim_noPart (sim_part sim_var)) (sim_tup (sim_consV (SimP.e sim_var) sim_nilV))) (sim_sl (SimP.e sim_var) (sim_part (simp_op simr_add sim_var sim_int)) sim_noPart)))))))))
def uR_law (K : PySem.W.Frag) (c : Cl) : TS :=
  (tSeq (tFor (iRng1 (tCons (tC (.int 5)) tNil)) (gName 2) (tSeq (tAsg (tOp (xAddG K) (tC (.int 1)) (tCall (spD (true :: vals 1) (D_l_draw c)) [] E0 (tCons (tVar 1) (tCons (tC (.int 8)) tNil)))) (gName 3)) (tSeq (tAsg (tCall (spD (true :: vals 1) (D_l_tree c)) [] E0 (tCons (tVar 1) (tCons (tVar 3) tNil))) (gName 4)) (tSeq (tAsg (tCall (spD (true :: vals 2) (D_l_moves c)) [] E0 (tCons (tVar 1) (tCons (tVar 4) (tCons (tCall (spD (true :: vals 1) (D_l_draw c)) [] E0 (tCons (tVar 1) (tCons (tC (.int 11)) tNil))) tNil)))) (gTup K 2 (gCons (gName 5) (gCons (gName 6) gNil)))) (tSeq (tPar 7 8 (tCons (tMake c.History (spD (true :: vals 2) (D_History_init c)) [] E0 (tCons (tMake c.Tree (spD (true :: vals 1) (D_Tree_init c)) [] E0 (tCons (tVar 4) tNil)) (tCons (tVar 5) tNil))) (tCons (tMake c.History (spD (true :: vals 2) (D_History_init c)) [] E0 (tCons (tMake c.Tree (spD (true :: vals 1) (D_Tree_init c)) [] E0 (tCons (tVar 4) tNil)) (tCons (tVar 5) tNil))) tNil))) (tSeq (tIfS (tOr (tTest (tOp (rNeD K) (tFld K (tFld K (tVar 7) "tree") "hung") (tVar 4))) (tOr (tTest (tOp (rNeD K) (tFld K (tVar 7) "moves") (tVar 5))) (tOr (tTest (tOp (rNeD K) (tFld K (tCall (spD (vals 1) (D_now c)) [] E0 (tCons (tVar 7) tNil)) "hung") (tVar 6))) (tNot (tTest (tOp (rEqOwn K c.History (spD (vals 2) (D_History_eq c)) E0) (tVar 7) (tVar 8))))))) (tRet (tC (.bl false))) tNext) (tSeq (tIfS (tOr (tTest (tOp (rNeOwn K c.History (spD (vals 2) (D_History_eq c)) E0) (tVar 7) (tVar 8))) (tOr (tTest (tOp (rEqOwn K c.History (spD (vals 2) (D_History_eq c)) E0) (tVar 7) (tVar 5))) (tOr (tTest (tOp (rEqOwn K c.History (spD (vals 2) (D_History_eq c)) E0) (tVar 7) (tTup (tCons (tMake c.Tree (spD (true :: vals 1) (D_Tree_init c)) [] E0 (tCons (tVar 4) tNil)) (tCons (tVar 5) tNil))))) (tTest (tOp (rNeD K) (tOp (rEqOwn K c.History (spD (vals 2) (D_History_eq c)) E0) (tVar 7) (tMake c.History (spD (true :: vals 2) (D_History_init c)) [] E0 (tCons (tMake c.Tree (spD (true :: vals 1) (D_Tree_init c)) [] E0 (tCons (tVar 4) tNil)) (tCons (tTup tNil) tNil)))) (tOp (rEqD K) (tVar 5) (tTup tNil))))))) (tRet (tC (.bl false))) tNext) (tSeq (tAsg (tCall (spD (true :: vals 3) (D_l_bent c)) [] E0 (tCons (tVar 1) (tCons (tVar 3) (tCons (tVar 5) (tCons (tMake c.Tree (spD (true :: vals 1) (D_Tree_init c)) [] E0 (tCons (tVar 4) tNil)) tNil))))) (gName 9)) (tSeq (tPar 10 11 (tCons (tCall (spD (vals 2) (D_l_due c)) [] E0 (tCons (tVar 4) (tCons (tVar 9) tNil))) (tCons (tCall (spD (vals 2) (D_l_answer c)) [] E0 (tCons (tMake c.Tree (spD (true :: vals 1) (D_Tree_init c)) [] E0 (tCons (tVar 4) tNil)) (tCons (tVar 9) tNil))) tNil))) (tSeq (tIfS (tOr (tTest (tOp (rNeD K) (tCB (xIsiG K) (tCons (tVar 10) (tCons (tC (.ty "str")) tNil))) (tCB (xIsiG K) (tCons (tVar 11) (tCons (tC (.ty "str")) tNil))))) (tOr (tB (tCB (xIsiG K) (tCons (tVar 11) (tCons (tC (.ty "bool")) tNil)))) (tTest (tOp (rNeD K) (tVar 11) (tVar 10))))) (tRet (tC (.bl false))) tNext) (tIfS (tTest (tOp (rNeD K) (tCall (spD (vals 2) (D_l_answer c)) [] E0 (tCons (tOp (rIx K) (tLst (tCons (tVar 4) (tCons (tC .non) (tCons (tCB (xListOf K) (tCons (tVar 4) tNil)) (tCons (tCall (spD (true :: vals 1) (D_l_odd c)) [] E0 (tCons (tVar 1) (tCons (tVar 4) tNil))) tNil))))) (tCall (spD (true :: vals 1) (D_l_draw c)) [] E0 (tCons (tVar 1) (tCons (tC (.int 4)) tNil)))) (tCons (tVar 9) tNil))) (tC (.str "tree")))) (tRet (tC (.bl false))) tNext))))))))))) (tRet (tC (.bl true))))
def u_law (K : PySem.W.Frag) (c : Cl) : TS := tSeq (tAsg (tCall (spHead K HandOk) [] E0 (tCons (tVar 0) tNil)) (gName 1)) (uR_law K c)
def D_law (c : Cl) : DTS :=
  (dSeq (dPost [1, 2, 3, 4, 5, 6, 7, 8, 9, 10, 11] (dFor (dRng1 (dLastA (dC (.int 5)))) (dName 2) (dKill [2] (dSeq (dAsg (dOp dAdd (dC (.int 1)) (dCallM false (D_l_draw c) 1 (dConsV (dC (.int 8)) dNilV))) (dName 3)) (dSeq (dAsg (dCallM false (D_l_tree c) 1 (dConsV (dVar 3) dNilV)) (dName 4)) (dCut (dAsg (dCallM false (D_l_moves c) 1 (dConsV (dVar 4) (dConsV (dCallM false (D_l_draw c) 1 (dConsV (dC (.int 11)) dNilV)) dNilV))) (dGTup 2 (dGCons (dName 5) (dGCons (dName 6) dGNil)))) (dCut (dPar 7 8 (dConsV (dMake false c.History (D_History_init c) (dConsV (dMake false c.Tree (D_Tree_init c) (dConsV (dVar 4) dNilV)) (dConsV (dVar 5) dNilV))) (dConsV (dMake false c.History (D_History_init c) (dConsV (dMake false c.Tree (D_Tree_init c) (dConsV (dVar 4) dNilV)) (dConsV (dVar 5) dNilV))) dNilV))) (dCut (dIfS (dOr (dTest (dOpP dNe (dFld [c.Tree] "hung" (dFld [c.History] "tree" (dVar 7))) (dVar 4))) (dOr (dTest (dOpP dNe (dFld [c.History] "moves" (dVar 7)) (dVar 5))) (dOr (dTest (dOpP dNe (dFld [c.Tree] "hung" (dCall false (D_now c) (dConsV (dVar 7) dNilV))) (dVar 6))) (dNot (dTest (dOpF (dEqC c.History (D_History_eq c)) (dVar 7) (dVar 8))))))) (dRet (dC (.bl false))) (dKill [6] dNext)) (dCut (dIfS (dOr (dTest (dOpF (dNeC c.History (D_History_eq c)) (dVar 7) (dVar 8))) (dOr (dTest (dOpF (dEqC c.History (D_History_eq c)) (dVar 7) (dVar 5))) (dOr (dTest (dOpF (dEqC c.History (D_History_eq c)) (dVar 7) (dTup (dConsV (dMake false c.Tree (D_Tree_init c) (dConsV (dVar 4) dNilV)) (dConsV (dVar 5) dNilV))))) (dTest (dOp dNe (dOpF (dEqC c.History (D_History_eq c)) (dVar 7) (dMake false c.History (D_History_init c) (dConsV (dMake false c.Tree (D_Tree_init c) (dConsV (dVar 4) dNilV)) (dConsV (dTup dNilV) dNilV)))) (dOp dEq (dVar 5) (dTup dNilV))))))) (dRet (dC (.bl false))) (dKill [7, 8] dNext)) (dCut (dPost [3, 5] (dAsg (dCallM false (D_l_bent c) 1 (dConsV (dVar 3) (dConsV (dVar 5) (dConsV (dMake false c.Tree (D_Tree_init c) (dConsV (dVar 4) dNilV)) dNilV)))) (dName 9))) (dCut (dPar 10 11 (dConsV (dCall false (D_l_due c) (dConsV (dVar 4) (dConsV (dVar 9) dNilV))) (dConsV (dCall false (D_l_answer c) (dConsV (dMake false c.Tree (D_Tree_init c) (dConsV (dVar 4) dNilV)) (dConsV (dVar 9) dNilV))) dNilV))) (dCut (dIfS (dOr (dTest (dOp dNe (dCB (dIsi [c.Tree, c.History]) (dConsA (dVar 10) (dLastA (dC (.ty "str"))))) (dCB (dIsi [c.Tree, c.History]) (dConsA (dVar 11) (dLastA (dC (.ty "str"))))))) (dOr (dTest (dCB (dIsi [c.Tree, c.History]) (dConsA (dVar 11) (dLastA (dC (.ty "bool")))))) (dTest (dOpP dNe (dVar 11) (dVar 10))))) (dRet (dC (.bl false))) (dKill [10, 11] dNext)) (dIfS (dTest (dOpP dNe (dCall false (D_l_answer c) (dConsV (dIxE (dLst (dConsV (dVar 4) (dConsV (dC .non) (dConsV (dCB dList (dLastA (dVar 4))) (dConsV (dCallM false (D_l_odd c) 1 (dConsV (dVar 4) dNilV)) dNilV))))) (dCallM false (D_l_draw c) 1 (dConsV (dC (.int 4)) dNilV))) (dConsV (dVar 9) dNilV))) (dC (.str "tree")))) (dRet (dC (.bl false))) (dKill [4, 9] dNext)))))))))))))) (dRet (dC (.bl true))))
theorem sim_law {K : PySem.W.Frag} {c : Cl} (fa : Fa K c) : SimS WO (uR_law K c) (D_law c) :=
  (sim_seq (sim_post (sim_for (sim_rng1 (sim_lastA (SimP.e sim_int))) sim_name (sim_kill (sim_seq (sim_asg (sim_op simr_add (SimP.e sim_int) (sim_callM0 D_l_draw_n (sim_consV (SimP.e sim_int) sim_nilV))) sim_name) (sim_seq (sim_asg (sim_callM0 D_l_tree_n (sim_consV (SimP.e sim_var) sim_nilV)) sim_name) (sim_cut (sim_asg (sim_callM0 D_l_moves_n (sim_consV (SimP.e sim_var) (sim_consV (sim_callM0 D_l_draw_n (sim_consV (SimP.e sim_int) sim_nilV)) sim_nilV))) (sim_gtup (sim_gcons sim_name (sim_gcons sim_name sim_gnil)))) (sim_cut (sim_par (sim_consV (sim_make0 D_History_init_n (sim_consV (sim_make0 D_Tree_init_n (sim_consV (SimP.e sim_var) sim_nilV)) (sim_consV (SimP.e sim_var) sim_nilV))) (sim_consV (sim_make0 D_History_init_n (sim_consV (sim_make0 D_Tree_init_n (sim_consV (SimP.e sim_var) sim_nilV)) (sim_consV (SimP.e sim_var) sim_nilV))) sim_nilV))) (sim_cut (sim_ifs (sim_or (sim_test (SimP.e (simp_op simr_ne (simp_fld fa.f_hung (simp_fld fa.f_tree sim_var)) sim_var))) (sim_or (sim_test (SimP.e (simp_op simr_ne (simp_fld fa.f_moves sim_var) sim_var))) (sim_or (sim_test (sim_opP simr_ne (sim_fld fa.f_hung (sim_call0 D_now_n (sim_consV (SimP.e sim_var) sim_nilV))) sim_var)) (sim_not (sim_test (sim_opF (simr_eqOwn (fa.cls.own c.History (by simp only [List.mem_cons, true_or, or_true]))) (SimP.e sim_var) (SimP.e sim_var))))))) (sim_ret (SimP.e sim_bl)) (sim_kill sim_next)) (sim_cut (sim_ifs (sim_or (sim_test (sim_opF simr_neOwn (SimP.e sim_var) (SimP.e sim_var))) (sim_or (sim_test (sim_opF (simr_eqOwn (fa.cls.own c.History (by simp only [List.mem_cons, true_or, or_true]))) (SimP.e sim_var) (SimP.e sim_var))) (sim_or (sim_test (sim_opF (simr_eqOwn (fa.cls.own c.History (by simp only [List.mem_cons, true_or, or_true]))) (SimP.e sim_var) (sim_tup (sim_consV (sim_make0 D_Tree_init_n (sim_consV (SimP.e sim_var) sim_nilV)) (sim_consV (SimP.e sim_var) sim_nilV))))) (sim_test (sim_op simr_ne (sim_opF (simr_eqOwn (fa.cls.own c.History (by simp only [List.mem_cons, true_or, or_true]))) (SimP.e sim_var) (sim_make0 D_History_init_n (sim_consV (sim_make0 D_Tree_init_n (sim_consV (SimP.e sim_var) sim_nilV)) (sim_consV (sim_tup sim_nilV) sim_nilV)))) (sim_op simr_eq (SimP.e sim_var) (sim_tup sim_nilV))))))) (sim_ret (SimP.e sim_bl)) (sim_kill sim_next)) (sim_cut (sim_post (sim_asg (sim_callM0 D_l_bent_n (sim_consV (SimP.e sim_var) (sim_consV (SimP.e sim_var) (sim_consV (sim_make0 D_Tree_init_n (sim_consV (SimP.e sim_var) sim_nilV)) sim_nilV)))) sim_name)) (sim_cut (sim_par (sim_consV (sim_call0 D_l_due_n (sim_consV (SimP.e sim_var) (sim_consV (SimP.e sim_var) sim_nilV))) (sim_consV (sim_call0 D_l_answer_n (sim_consV (sim_make0 D_Tree_init_n (sim_consV (SimP.e sim_var) sim_nilV)) (sim_consV (SimP.e sim_var) sim_nilV))) sim_nilV))) (sim_cut (sim_ifs (sim_or (sim_test (sim_op simr_ne (sim_cb (sim_isi fa.cls) (sim_consA (SimP.e sim_var) (sim_lastA (SimP.e sim_ty)))) (sim_cb (sim_isi fa.cls) (sim_consA (SimP.e sim_var) (sim_lastA (SimP.e sim_ty)))))) (sim_or (sim_b (sim_cb (sim_isi fa.cls) (sim_consA (SimP.e sim_var) (sim_lastA (SimP.e sim_ty))))) (sim_test (SimP.e (simp_op simr_ne sim_var sim_var))))) (sim_ret (SimP.e sim_bl)) (sim_kill sim_next)) (sim_ifs (sim_test (sim_opP simr_ne (sim_call0 D_l_answer_n (sim_consV (sim_ixE (sim_lst (sim_consV (SimP.e sim_var) (sim_consV (SimP.e sim_non) (sim_consV (SimP.e (simp_cb1 sim_list sim_var)) (sim_consV (sim_callM0 D_l_odd_n (sim_consV (SimP.e sim_var) sim_nilV)) sim_nilV))))) (sim_callM0 D_l_draw_n (sim_consV (SimP.e sim_int) sim_nilV))) (sim_consV (SimP.e sim_var) sim_nilV))) sim_str)) (sim_ret (SimP.e sim_bl)) (sim_kill sim_next)))))))))))))) (sim_ret (SimP.e sim_bl)))
local macro_rules | `(tactic| walk_at "dw1") => `(tactic| first
  | ((with_reducible refine' a_varD ?k1 ?_); (case k1 => exact rfl))
  | ((with_reducible refine' a_varoL ?k1 ?_); (case k1 => exact rfl))
  | ((with_reducible refine' a_varB ?k1 ?_); (case k1 => exact rfl))
  | ((with_reducible refine' a_nameU ?k1 ?_); (case k1 => exact rfl))
  | ((with_reducible refine' a_name ?k1 ?_); (case k1 => exact ⟨_, rfl⟩))
  | ((with_reducible refine' a_nameS ?k1 ?k2 ?_); (case k1 => exact rfl); (case k2 => assumption))
  | ((with_reducible refine' a_gtup ?k1 ?_); (case k1 => exact rfl))
  | (with_reducible refine' a_gcons ?_)
  | (with_reducible refine' a_gnil ?_)
  | (with_reducible refine' a_methN ?_)
  | (with_reducible refine' a_seq ?_)
  | (with_reducible refine' a_next ?_)
  | (with_reducible refine' a_break ?_)
  | (with_reducible refine' a_cont ?_)
  | (with_reducible refine' a_ifs ?_)
  | (with_reducible refine' a_drop ?_)
  | (with_reducible refine' a_retN ?_)
  | (with_reducible refine' a_ret ?_)
  | (with_reducible refine' a_asg ?_)
  | (with_reducible refine' a_retO ?_)
  | (with_reducible refine' a_toO ?_)
  | (with_reducible refine' a_forceD ?_)
  | (with_reducible refine' a_forceN ?_)
  | (with_reducible refine' a_c ?_)
  | (with_reducible refine' a_op ?_)
  | (with_reducible refine' a_opP ?_)
  | (with_reducible refine' a_un ?_)
  | (with_reducible refine' a_nrmD ?_)
  | (with_reducible refine' a_nrmP ?_)
  | (with_reducible refine' a_nrmL ?_)
  | (with_reducible refine' a_pkD ?_)
  | (with_reducible refine' a_pkN ?_)
  | (with_reducible refine' a_test ?_)
  | (with_reducible refine' a_asB ?_)
  | (with_reducible refine' a_and ?_)
  | (with_reducible refine' a_or ?_)
  | (with_reducible refine' a_not ?_)
  | (with_reducible refine' a_yes ?_)
  | (with_reducible refine' a_if ?_)
  | (with_reducible refine' a_andV ?_)
  | (with_reducible refine' a_orV ?_)
  | (with_reducible refine' a_notV ?_)
  | (with_reducible refine' a_chain ?_)
  | (with_reducible refine' a_flD ?_)
  | (with_reducible refine' a_asb ?_)
  | (with_reducible refine' a_nilA ?_)
  | (with_reducible refine' a_lastA ?_)
  | (with_reducible refine' a_consA ?_)
  | (with_reducible refine' a_nilV ?_)
  | (with_reducible refine' a_consV ?_)
  | (with_reducible refine' a_cb ?_)
  | (with_reducible refine' a_pk1 ?_)
  | (with_reducible refine' a_pk2 ?_)
  | (with_reducible refine' a_tup ?_)
  | (with_reducible refine' a_lst ?_)
  | (with_reducible refine' a_call ?_)
  | (with_reducible refine' a_one ?_)
  | (with_reducible refine' a_make ?_)
  | (with_reducible refine' a_fld ?_)
  | (with_reducible refine' a_ix ?_)
  | (with_reducible refine' a_ixE ?_)
  | (with_reducible refine' a_asI ?_)
  | (with_reducible refine' a_sl ?_)
  | (with_reducible refine' a_noPart ?_)
  | (with_reducible refine' a_part ?_)
  | (with_reducible refine' a_slL ?_)
  | (with_reducible refine' a_slT ?_)
  | (with_reducible refine' a_iter ?_)
  | (with_reducible refine' a_post ?_)
  | (with_reducible refine' a_kill ?_)
  | (with_reducible refine' a_iterK ?_)
  | (with_reducible refine' a_rng1 ?_)
  | (with_reducible refine' a_rng2 ?_)
  | (with_reducible refine' a_for ?_)
  | (with_reducible refine' a_lc ?_)
  | (with_reducible refine' a_addI ?_)
  | (with_reducible refine' a_I0 ?_)
  | (with_reducible refine' a_ltI ?_)
  | (with_reducible refine' a_eqI ?_)
  | (with_reducible refine' a_neI ?_)
  | (with_reducible refine' a_eqB ?_)
  | (with_reducible refine' a_neB ?_)
  | (with_reducible refine' a_isN ?_)
  | (with_reducible refine' a_isNot ?_)
  | (with_reducible refine' a_lenL ?_)
  | (with_reducible refine' a_lenT ?_)
  | (with_reducible refine' a_absI ?_)
  | (with_reducible refine' a_intI ?_)
  | (with_reducible refine' a_intB ?_)
  | (with_reducible refine' a_tupL ?_)
  | (with_reducible refine' a_tupT ?_)
  | (with_reducible refine' a_lstL ?_)
  | (with_reducible refine' a_lstT ?_)
  | (with_reducible refine' v_iteT ?_)
  | (with_reducible refine' v_iteF ?_)
  | (with_reducible refine' v_iteNT ?_)
  | (with_reducible refine' v_iteNF ?_)
  | (with_reducible refine' a_sub ?_)
  | ((with_reducible refine' a_ixO ?k1 ?k2 ?k3 ?k4 ?_); (case k1 => exact rfl); (case k2 => exact rfl); (case k3 => exact rfl); (case k4 => exact rfl))
  | ((with_reducible refine' a_ixO' ?k1 ?k2 ?k3 ?k4 ?_); (case k1 => exact rfl); (case k2 => exact rfl); (case k3 => exact rfl); (case k4 => exact rfl))
  | ((with_reducible refine' a_subK ?k1 ?k2 ?_); (case k1 => exact rfl); (case k2 => exact rfl))
  | ((with_reducible refine' a_pkL ?k1 ?_); (case k1 => exact rfl))
  | ((with_reducible refine' a_pkF ?k1 ?_); (case k1 => exact rfl))
  | ((with_reducible refine' a_retP ?k1 ?_); (case k1 => exact rfl))
  | ((with_reducible refine' a_varI ?k1 ?_); (case k1 => exact rfl))
  | ((with_reducible refine' a_fldI ?k1 ?k2 ?k3 ?k4 ?_); (case k1 => exact rfl); (case k2 => exact rfl); (case k3 => exact List.mem_cons_self); (case k4 => exact rfl))
  | ((with_reducible refine' a_forceL ?k1 ?_); (case k1 => exact rfl))
  | ((with_reducible refine' a_toOL ?k1 ?_); (case k1 => exact rfl))
  | ((with_reducible refine' a_callM ?k1 ?_); (case k1 => exact rfl))
  | ((with_reducible refine' a_callO ?k1 ?_); (case k1 => exact rfl))
  | ((with_reducible refine' a_callB ?k1 ?_); (case k1 => exact rfl))
  | ((with_reducible refine' a_extend ?k1 ?_); (case k1 => exact rfl))
  | ((with_reducible refine' a_append ?k1 ?_); (case k1 => exact rfl))
  | ((with_reducible refine' a_popAtM ?k1 ?_); (case k1 => exact rfl))
  | (with_reducible refine' a_par ?_)
  | ((with_reducible refine' a_fldD ?k1 ?k2 ?_); (case k1 => exact List.mem_cons_self); (case k2 => exact rfl))
  | ((with_reducible refine' a_bound ?k1 ?_); (case k1 => (first | decide | omega | (simp only [List.length_cons, List.length_nil]; omega)))))
local macro_rules | `(tactic| walk_at "dw") => `(tactic| (repeat (walk_at "dw1")); (try dsimp only))
theorem eqvAll_ints : ∀ hs ks : List Int, PyData.eqvAll (hs.map PyData.int) (ks.map PyData.int) = decide (hs = ks)
  | [], [] => rfl
  | [], _ :: _ => rfl
  | _ :: _, [] => rfl
  | h :: r, k :: s => by
    show (h == k && PyData.eqvAll (r.map PyData.int) (s.map PyData.int)) = _
    rw [eqvAll_ints r s, Bool.eq_iff_iff]
    simp
theorem layAll_ints : ∀ hs : List Int, PyData.canLayAll0 (hs.map PyData.int) = true
  | [] => rfl
  | h :: r => by
    show (PyData.canLay0 (.int h) && PyData.canLayAll0 (r.map PyData.int)) = true
    rw [layAll_ints r]
    rfl
theorem depthAll_ints : ∀ hs : List Int, PyData.depthAll (hs.map PyData.int) = 0
  | [] => rfl
  | h :: r => by
    show max 0 (PyData.depthAll (r.map PyData.int)) = 0
    rw [depthAll_ints r]
    rfl
theorem shaped_ints (hs : List Int) : SeqAt.shaped (.tuple (hs.map PyData.int)) = true := by
  show (PyData.canLayAll0 (hs.map PyData.int) && decide (PyData.depthAll (hs.map PyData.int) + 1 ≤ 64)) = true
  rw [layAll_ints, depthAll_ints]
  rfl
section
def D.isI : D → Bool
  | .int _ => true
  | _ => false
def withinD (lo hi : Int) : D → Bool
  | .int i => decide (lo ≤ i ∧ i ≤ hi)
  | _ => false
def isKd (d : D) (T : String) : Bool := match d.kind with
  | some s => isA s T
  | none => false
def PlainD (Cs : List Addr) (d : D) : Prop := d.kind.isSome = true ∨ ∃ C, C ∈ Cs ∧ d.cl = some C
theorem PlainD.int {Cs : List Addr} {i : Int} : PlainD Cs (.int i) := .inl rfl
theorem PlainD.tup {Cs : List Addr} {ds : List D} : PlainD Cs (.tup ds) := .inl rfl
theorem cl_kind {d : D} {C : Addr} (h : d.cl = some C) : d.kind = none := by cases d <;> first | rfl | cases h
theorem kind_cl {d : D} (h : d.kind.isSome = true) : d.cl = none := by cases d <;> first | rfl | cases h
variable {c : Cl} {P : O → List O → Prop} {PE : DExc → List O → Prop} {Cs : List Addr} {d : D} {K : O → Prop} {T : String} {C : Addr}
theorem e_isi (hp : PlainD Cs d) (hT : okTy T) (q : K (.fr (.bl (isKd d T)))) : dIsi Cs [d, .ty T] K := by
  show isiA Cs d (.ty T) K
  unfold isiA
  rcases hp with h | ⟨C, hC, h⟩
  · rw [kind_cl h]
    cases e : d.kind with
    | none => rw [e] at h; cases h
    | some s =>
      refine ⟨hT, ?_⟩
      unfold isKd at q
      rw [e] at q
      exact q
  · rw [h]
    refine ⟨hC, hT, ?_⟩
    unfold isKd at q
    rw [cl_kind h] at q
    exact q
theorem e_isiC (hp : PlainD Cs d) (hC : C ∈ Cs) (q : K (.fr (.bl (decide (d.cl = some C))))) : dIsi Cs [d, .cls C] K := by
  show isiA Cs d (.cls C) K
  unfold isiA
  rcases hp with h | ⟨C', hC', h⟩
  · rw [kind_cl h] at q ⊢
    cases e : d.kind with
    | none => rw [e] at h; cases h
    | some s => exact ⟨hC, q⟩
  · rw [h] at q ⊢
    refine ⟨hC', hC, ?_⟩
    have e : decide (some C' = some C) = decide (C' = C) := by rw [Bool.eq_iff_iff]; simp
    rw [← e]
    exact q
theorem isKd_int : (isKd d "int" && !isKd d "bool") = d.isI := by
  cases d <;> first | rfl | decide | (rename_i t kvs; cases t <;> rfl)
theorem e_integer (hp : PlainD [c.Tree, c.History] d) (q : P (.fr (.bl d.isI)) []) : D_is_integer c [.fr d] P PE := by
  refine D_is_integer_in ?_
  unfold B_is_integer
  walk_at "dw"
  refine e_isi hp (.inl rfl) ?_
  walk_at "dw"
  rw [← isKd_int] at q
  cases e : isKd d "int" with
  | false =>
    rw [e] at q
    walk_at "dw"
    exact q
  | true =>
    rw [e] at q
    walk_at "dw"
    refine e_isi hp (.inr (.inl rfl)) ?_
    walk_at "dw"
    exact q
theorem e_within {lo hi : Int} (hp : PlainD [c.Tree, c.History] d) (q : P (.fr (.bl (withinD lo hi d))) []) : D_is_within c [.fr d, .fr (.int lo), .fr (.int hi)] P PE := by
  refine D_is_within_in ?_
  unfold B_is_within
  walk_at "dw"
  refine e_integer hp ?_
  walk_at "dw"
  cases d with
  | int i =>
    refine v_iteT ?_
    walk_at "dw"
    by_cases h : lo ≤ i
    · rw [decide_eq_true h]
      walk_at "dw"
      have e : withinD lo hi (.int i) = decide (i ≤ hi) := by
        show decide (lo ≤ i ∧ i ≤ hi) = _
        rw [Bool.eq_iff_iff]
        simp [h]
      rw [e] at q
      exact q
    · rw [decide_eq_false h]
      walk_at "dw"
      have e : withinD lo hi (.int i) = false := decide_eq_false fun z => h z.1
      rw [e] at q
      exact q
  | _ =>
    refine v_iteF ?_
    walk_at "dw"
    exact q
theorem a_ifT {b : Bool} {A B : Prop} (e : b = true) (h : A) : if b = true then A else B := by rw [if_pos e]; exact h
theorem a_ifF {b : Bool} {A B : Prop} (e : b = false) (h : B) : if b = true then A else B := by rw [e]; exact h
end
section
abbrev rowD (hs : List Int) : D := .tup (hs.map .int)
theorem getD {hs : List Int} {z : Int} (h0 : 1 ≤ z) (h1 : z ≤ hs.length) : atI (hs.map D.int) (z - 1) = some (.int (stp hs z)) :=
  atI_of (jj := z.toNat - 1) (by omega) (by rw [List.getElem?_map, stp_get h0 h1]; rfl)
variable {c : Cl} {P : O → List O → Prop} {PE : DExc → List O → Prop} {hs ks : List Int} {p b : Int} {K : O → Prop}
theorem way_len (hs : List Int) : ∀ (k : Nat) (h : Int), (way hs k h).length ≤ k
  | 0, _ => Nat.le_refl _
  | k + 1, h => by
    show (if h = 0 then [] else stp hs h :: way hs k (stp hs h)).length ≤ k + 1
    split
    · exact Nat.zero_le _
    · rw [List.length_cons]
      exact Nat.succ_le_succ (way_len hs k _)
theorem e_row (tr : IsTree hs) (p0 : 0 ≤ p) (p1 : p ≤ hs.length) (q : P (oL ((wy hs p).map .int)) []) : D_l_row c [.fr (rowD hs), .fr (.int p)] P PE := by
  refine D_l_row_in ?_
  unfold B_l_row
  walk_at "dw"
  refine a_while (m0 := (wy hs p).length) (fun m e => ∃ (acc : List Int) (z : Int), e = [S.ow (.fr (rowD hs)), .un, S.ow (oL (acc.map .int)), S.ow (.fr (.int z))] ∧ acc ++ wy hs z = wy hs p ∧ 0 ≤ z ∧ z ≤ hs.length ∧ (wy hs z).length = m) ⟨[], p, rfl, rfl, p0, p1, rfl⟩ ?_
  rintro m e NX ⟨acc, z, rfl, ea, z0, z1, rfl⟩ nx
  have l40 := tr.2.1
  walk_at "dw"
  refine v_iteN (fun ne => ?_) (fun zz => ?_)
  · walk_at "dw"
    refine a_ixT (getD (by omega) z1) ?_
    walk_at "dw"
    have hl : acc.length ≤ hs.length := by
      have := congrArg List.length ea
      rw [List.length_append] at this
      have := way_len hs hs.length p
      unfold wy at *
      omega
    refine a_app (ds := acc.map .int) rfl (by rw [List.length_map]; omega) ?_
    have w := wy_cons tr (h := z) (by omega) z1
    have si := stp_in tr.2.2.1 z
    refine nx (wy hs (stp hs z)).length _ (by rw [w, List.length_cons]; omega) ⟨acc ++ [stp hs z], stp hs z, by rw [List.map_append]; rfl, ?_, si.1, si.2, rfl⟩
    rw [List.append_assoc, ← ea, w]; rfl
  · subst zz
    rw [wy_zero, List.append_nil] at ea
    walk_at "dw"
    rw [ea]
    exact q
theorem filt_blocks (f : Int → Bool) (n : Nat) : (rgD 1 n).filter (fun d => match d with
    | .int i => f i
    | _ => false) = ((blocks n).filter f).map .int := by
  unfold rgD blocks
  rw [List.filter_map, List.filter_map, List.map_map]
  have e : (List.range n).filter ((fun d => match d with
    | D.int i => f i
    | _ => false) ∘ fun (k : Nat) => D.int (1 + (k : Nat))) = (List.range n).filter (f ∘ fun (k : Nat) => (k : Int) + 1) := List.filter_congr fun k _ => by
      show f (1 + (k : Int)) = f ((k : Int) + 1)
      rw [Int.add_comm]
  rw [e]
  refine List.map_congr_left fun k _ => ?_
  show D.int (1 + (k : Int)) = D.int ((k : Int) + 1)
  rw [Int.add_comm]
theorem e_hanging (tr : IsTree hs) (q : P (oL ((hang hs p).map .int)) []) : D_hanging c [.fr (rowD hs), .fr (.int p)] P PE := by
  refine D_hanging_in ?_
  unfold B_hanging
  have l40 := tr.2.1
  walk_at "dw"
  refine a_rgb2 (by rw [List.length_map]; omega) ?_
  refine a_lcF (fun d => match d with
    | .int i => decide (stp hs i = p)
    | _ => false) (by rw [rgD_len, List.length_map]; omega) (fun k d acc NX hk ha n1 n2 => ?_) ?_
  · obtain ⟨hl, rfl⟩ := rgD_at hk
    rw [List.length_map] at hl
    refine ⟨by rfl, ?_⟩
    walk_at "dw"
    refine a_ixT (getD (by omega) (by omega)) ?_
    walk_at "dw"
    refine v_ite (fun e => ?_) (fun e => ?_)
    · walk_at "dw"
      exact ⟨ha, n1 (decide_eq_true e)⟩
    · exact n2 (decide_eq_false e)
  · rw [filt_blocks, List.length_map, show ((hs.length : Int) + 1 - 1).toNat = hs.length by omega]
    walk_at "dw"
    exact q
def blkF (f : Int → Bool) : D → Bool
  | .int i => f i
  | _ => false
theorem filt_blk (f : Int → Bool) (n : Nat) : (rgD 1 n).filter (blkF f) = ((blocks n).filter f).map .int := by
  rw [← filt_blocks f n]
  refine List.filter_congr fun d _ => ?_
  cases d <;> rfl
theorem filt_blk0 (f : Int → Bool) (n : Nat) : (rgD 0 n).filter (blkF f) = (((List.range n).map fun (k : Nat) => (k : Int)).filter f).map .int := by
  have e : rgD 0 n = ((List.range n).map fun (k : Nat) => (k : Int)).map .int := by
    unfold rgD
    rw [List.map_map]
    refine List.map_congr_left fun k _ => ?_
    show D.int (0 + (k : Int)) = D.int (k : Int)
    rw [Int.zero_add]
  rw [e, List.filter_map]
  rfl
theorem toPyL_ints : ∀ ns : List Int, toPyL (ns.map D.int) = some (ns.map PyData.int)
  | [] => rfl
  | n :: r => by
    show (match toPy (.int n) with
      | some p => (match toPyL (r.map D.int) with
        | some l => some (p :: l)
        | none => none)
      | none => none) = _
    rw [toPyL_ints r]
    rfl
theorem toPy_row (ns : List Int) : toPy (rowD ns) = some (.tuple (ns.map PyData.int)) := by
  show (match toPyL (ns.map D.int) with
    | some l => some (PyData.tuple l)
    | none => none) = _
  rw [toPyL_ints]
theorem a_eqRow {K : O → Prop} {t u : List Int} (q : K (.fr (.bl (decide (t = u))))) : dEq (rowD t) (rowD u) K := by
  show oth (toPy (rowD t)) fun a => oth (toPy (rowD u)) fun b => _
  rw [toPy_row, toPy_row]
  refine ⟨shaped_ints _, shaped_ints _, ?_⟩
  show K (.fr (.bl (PyData.eqvAll (t.map PyData.int) (u.map PyData.int))))
  rw [eqvAll_ints]
  exact q
theorem a_neRow {K : O → Prop} {t u : List Int} (q : K (.fr (.bl (!decide (t = u))))) : dNe (rowD t) (rowD u) K := by
  show oth (toPy (rowD t)) fun a => oth (toPy (rowD u)) fun b => _
  rw [toPy_row, toPy_row]
  refine ⟨shaped_ints _, shaped_ints _, ?_⟩
  show K (.fr (.bl (!PyData.eqvAll (t.map PyData.int) (u.map PyData.int))))
  rw [eqvAll_ints]
  exact q
def treeD (c : Cl) (hs : List Int) : D := .ins c.Tree [("hung", rowD hs)]
theorem e_leads (tr : IsTree hs) (b0 : 1 ≤ b) (b1 : b ≤ hs.length) (q : P (.fr (.bl true)) []) : D_leads_home c [.fr (rowD hs), .fr (.int b)] P PE := by
  refine D_leads_home_in ?_
  unfold B_leads_home
  have l40 := tr.2.1
  walk_at "dw"
  refine a_rgb (by rw [List.length_map]; omega) ?_
  refine a_forI (fun k e => e = [S.ow (.fr (rowD hs)), .un, S.ow (.fr (.int (up hs k b))), .un] ∧ ∀ j, j < k → up hs j b ≠ 0) ⟨rfl, fun j h => absurd h (Nat.not_lt_zero _)⟩ ?_ ?_
  · rintro k d e NX hd ⟨rfl, un⟩ nx
    obtain ⟨hk, rfl⟩ := rgD_at hd
    walk_at "dw"
    refine v_ite (fun h => ?_) (fun h => ?_)
    · walk_at "dw"
      exact q
    · walk_at "dw"
      have ui := up_in tr.2.2.1 k b (by omega) b1
      refine a_ixT (getD (by omega) ui.2) ?_
      walk_at "dw"
      refine nx _ ⟨?_, fun j hj => ?_⟩
      · rw [up_succ]
        rfl
      · rcases Nat.lt_succ_iff_lt_or_eq.mp hj with h' | rfl
        · exact un j h'
        · exact h
  · rw [rgD_len, List.length_map]
    rintro e ⟨rfl, un⟩
    exact absurd (tr.up0 (by omega) b1) (un _ (by omega))
theorem e_init (tr : IsTree hs) (q : P (.fr .non) [.ins c.Tree [("hung", .fr (rowD hs))]]) : D_Tree_init c [.ins c.Tree [], .fr (rowD hs)] P PE := by
  refine D_Tree_init_in ?_
  unfold B_Tree_init
  have l40 := tr.2.1
  have l1 := tr.1
  walk_at "dw"
  refine e_isi .tup (.inr (.inr (.inl rfl))) ?_
  rw [show isKd (rowD hs) "tuple" = true from rfl]
  refine v_ite (fun _ => ?_) (fun h => absurd h (by rw [List.length_map]; omega))
  walk_at "dw"
  refine a_ifF (by rw [decide_eq_true (by rw [List.length_map]; omega)]; rfl) ?_
  walk_at "dw"
  refine a_rgb2 (by rw [List.length_map]; omega) ?_
  refine a_forI (fun k e => e = [S.bo (.ins c.Tree []), S.ow (.fr (rowD hs)), .un]) rfl ?_ ?_
  · rintro k d e NX hd rfl nx
    obtain ⟨hk, rfl⟩ := rgD_at hd
    rw [List.length_map] at hk
    walk_at "dw"
    refine a_ixT (getD (by omega) (by omega)) ?_
    walk_at "dw"
    refine e_within .int ?_
    have si := stp_in tr.2.2.1 (1 + (k : Int))
    rw [show withinD 0 (((hs.map D.int).length : Nat) : Int) (.int (stp hs (1 + (k : Int)))) = true from decide_eq_true (by rw [List.length_map]; exact si)]
    walk_at "dw"
    refine a_ixT (getD (by omega) (by omega)) ?_
    walk_at "dw"
    refine a_ifF (decide_eq_false (tr.ne (by omega) (by omega))) ?_
    walk_at "dw"
    exact nx _ rfl
  rintro e rfl
  walk_at "dw"
  refine a_rgb2 (by rw [List.length_map]; omega) ?_
  refine a_forI (fun k e => e = [S.bo (.ins c.Tree []), S.ow (.fr (rowD hs)), .un]) rfl ?_ ?_
  · rintro k d e NX hd rfl nx
    obtain ⟨hk, rfl⟩ := rgD_at hd
    rw [List.length_map] at hk
    walk_at "dw"
    refine e_leads tr (by omega) (by omega) ?_
    walk_at "dw"
    exact nx _ rfl
  rintro e rfl
  walk_at "dw"
  refine a_setF ?_
  walk_at "dw"
  exact ⟨⟨List.mem_cons_self, by decide⟩, q⟩
def numL (n : Nat) : List Int := (List.range n).map fun (k : Nat) => 1 + (k : Int)
theorem rgD_num (n : Nat) : rgD 1 n = (numL n).map .int := by
  unfold rgD numL
  rw [List.map_map]
  rfl
theorem numL_len (n : Nat) : (numL n).length = n := by unfold numL; rw [List.length_map, List.length_range]
theorem numL_nodup (n : Nat) : (numL n).Nodup := by
  unfold numL
  refine List.Pairwise.map _ ?_ List.nodup_range
  intro a b hab z
  have z' : (1 : Int) + (a : Int) = 1 + (b : Int) := z
  exact hab (by omega)
theorem numL_in {n : Nat} : ∀ m ∈ numL n, 1 ≤ m ∧ m ≤ n := fun m hm => by
  unfold numL at hm
  obtain ⟨k, hk, rfl⟩ := List.mem_map.mp hm
  have := List.mem_range.mp hk
  omega
theorem a_mulL {xs : List D} {k : Int} {K : O → Prop} (b : 0 ≤ k ∧ k ≤ 1000 ∧ xs.length ≤ 1000) (h : K (oL (List.replicate k.toNat xs).flatten)) : dMul (.lst xs) (.int k) K := by
  refine ⟨⟨by omega, by omega, ?_⟩, h⟩
  have : xs.length * k.toNat ≤ 1000 * 1000 := Nat.mul_le_mul b.2.2 (by omega)
  rw [PySem.sizeLine_eq]
  omega
theorem rep_int (n : Nat) (x : Int) : (List.replicate n [D.int x]).flatten = (List.replicate n x).map .int := by
  rw [flat_one, List.map_replicate]
theorem e_beneath (tr : IsTree hs) (p0 : 0 ≤ p) (p1 : p ≤ hs.length) (q : P (.fr (rowD (ben hs p))) []) : D_beneath_in c [.fr (rowD hs), .fr (.int p)] P PE := by
  refine D_beneath_in_in ?_
  unfold B_beneath_in
  have l40 := tr.2.1
  walk_at "dw"
  refine a_while (m0 := hs.length - 0 + 1) (fun m e => ∃ (F W : List Int), e = [S.ow (.fr (rowD hs)), .un, .ow (oL (F.map .int)), .ow (oL (W.map .int)), .un] ∧ Dfs hs p F W ∧ m = hs.length - F.length + W.length) ⟨[], [p], rfl, Dfs.start, rfl⟩ ?_
  rintro m e NX ⟨F, W, rfl, d, rfl⟩ nx
  have fl := d.len
  have wl := d.wlen
  walk_at "dw"
  refine v_ite (fun h => ?_) (fun h => ?_)
  · rcases List.eq_nil_or_concat W with z | ⟨W0, x, z⟩
    · rw [z] at h
      exact absurd h (by decide)
    · rw [List.concat_eq_append] at z
      subst z
      walk_at "dw"
      refine a_pop (ds := W0.map .int) (d := .int x) (by rw [List.map_append]; rfl) ?_
      walk_at "dw"
      refine e_hanging tr ?_
      have d' := d.step tr p0 p1
      have fl' := d'.len
      have wl' := d'.wlen
      rw [List.length_append] at fl' wl' wl
      walk_at "dw"
      refine a_extF (ds := F.map .int) (es := (hang hs x).map .int) rfl (by rw [List.length_map, List.length_map]; omega) ?_
      walk_at "dw"
      refine a_extF (ds := W0.map .int) (es := (hang hs x).map .int) rfl (by rw [List.length_map, List.length_map]; omega) ?_
      refine nx _ _ ?_ ⟨F ++ hang hs x, W0 ++ hang hs x, ?_, d', rfl⟩
      · rw [List.length_append, List.length_append, List.length_append]
        show _ < hs.length - F.length + (W0.length + 1)
        omega
      · simp only [List.map_append]
        rfl
  · have z : W = [] := by
      cases W with
      | nil => rfl
      | cons x r => exact absurd (show (0 : Int) < (((x :: r).map D.int).length : Nat) by rw [List.length_map, List.length_cons]; omega) h
    subst z
    walk_at "dw"
    refine a_sortI fun ms pm so => ?_
    walk_at "dw"
    rw [d.done tr pm so]
    exact q
theorem e_with (b0 : 1 ≤ b) (b1 : b ≤ hs.length) (l40 : hs.length ≤ 40) (q : P (.fr (rowD (hs.set (b.toNat - 1) p))) []) : D_with_place c [.fr (rowD hs), .fr (.int b), .fr (.int p)] P PE := by
  refine D_with_place_in ?_
  unfold B_with_place
  walk_at "dw"
  rw [show b - 1 = ((b.toNat - 1 : Nat) : Int) by omega, cutD_take]
  walk_at "dw"
  refine a_addT (by rw [List.length_map, List.length_take]; show _ + 1 ≤ _; omega) ?_
  walk_at "dw"
  rw [show b = ((b.toNat : Nat) : Int) by omega, cutD_drop]
  refine a_addT (by rw [List.length_append, List.length_map, List.length_take, List.length_map, List.length_drop]; show _ + 1 + _ ≤ _; omega) ?_
  have e : (hs.take (b.toNat - 1)).map D.int ++ [D.int p] ++ (hs.drop b.toNat).map D.int = (hs.set (b.toNat - 1) p).map D.int := by
    rw [List.set_eq_take_append_cons_drop, if_pos (by omega), List.map_append, List.map_cons, show b.toNat - 1 + 1 = b.toNat by omega, List.append_assoc]
    rfl
  rw [show (((b.toNat : Nat) : Int)).toNat = b.toNat by omega]
  walk_at "dw"
  rw [e]
  exact q
theorem e_treeEq (l : hs.length ≤ 40) (q : P (.fr (.bl true)) []) : D_Tree_eq c [.fr (treeD c hs), .fr (treeD c hs)] P PE := by
  refine D_Tree_eq_in ?_
  unfold B_Tree_eq treeD
  walk_at "dw"
  refine e_isiC (.inr ⟨c.Tree, List.mem_cons_self, rfl⟩) (List.mem_cons_self) ?_
  rw [show decide (D.cl (D.ins c.Tree [("hung", rowD hs)]) = some c.Tree) = true from decide_eq_true rfl]
  walk_at "dw"
  refine a_eqRow ?_
  rw [decide_eq_true rfl]
  walk_at "dw"
  exact q
end

/-! ### things of all sorts -/
section
def PlN (Cs : List Addr) : Nat → D → Prop
  | 0, _ => True
  | n + 1, d => PlainD Cs d ∧ ∀ xs, d = .tup xs → ∀ x ∈ xs, PlN Cs n x
def PlA (Cs : List Addr) (d : D) : Prop := ∀ n, PlN Cs n d
variable {Cs : List Addr} {d x y : D} {xs : List D} {C : Addr} {gs : List (Str × D)}
theorem PlA.plain (h : PlA Cs d) : PlainD Cs d := (h 1).1
theorem PlA.item (h : PlA Cs (.tup xs)) (m : x ∈ xs) : PlA Cs x := fun n => (h (n + 1)).2 xs rfl x m
theorem PlA.flat (h : d.kind.isSome = true) (nt : ∀ xs, d ≠ .tup xs) : PlA Cs d := fun n => match n with
  | 0 => trivial
  | _ + 1 => ⟨.inl h, fun xs e => absurd e (nt xs)⟩
theorem PlA.int {i : Int} : PlA Cs (.int i) := .flat rfl fun _ e => nomatch e
theorem PlA.bl {b : Bool} : PlA Cs (.bl b) := .flat rfl fun _ e => nomatch e
theorem PlA.non : PlA Cs .non := .flat rfl fun _ e => nomatch e
theorem PlA.str {s : Str} : PlA Cs (.str s) := .flat rfl fun _ e => nomatch e
theorem PlA.lst : PlA Cs (.lst xs) := .flat rfl fun _ e => nomatch e
theorem PlA.dct {kvs : List (List Key × D)} : PlA Cs (.dct false kvs) := .flat rfl fun _ e => nomatch e
theorem PlA.ins (h : C ∈ Cs) : PlA Cs (.ins C gs) := fun n => match n with
  | 0 => trivial
  | _ + 1 => ⟨.inr ⟨C, h, rfl⟩, fun xs e => nomatch e⟩
theorem PlA.tup (h : ∀ x ∈ xs, PlA Cs x) : PlA Cs (.tup xs) := fun n => match n with
  | 0 => trivial
  | n + 1 => ⟨.inl rfl, fun xs' e x m => by
    cases e
    exact h x m n⟩
theorem PlA.tup0 : PlA Cs (.tup []) := .tup fun _ h => nomatch h
theorem PlA.cons (h : PlA Cs x) (t : PlA Cs (.tup xs)) : PlA Cs (.tup (x :: xs)) := .tup fun y m => by
  rcases List.mem_cons.mp m with rfl | m
  · exact h
  · exact t.item m
theorem PlA.ints {ns : List Int} : PlA Cs (.tup (ns.map .int)) := .tup fun x m => by
  obtain ⟨n, _, rfl⟩ := List.mem_map.mp m
  exact .int
theorem isKd_tup : isKd d "tuple" = true ↔ ∃ xs, d = .tup xs := by
  constructor
  · intro h
    cases d with
    | tup xs => exact ⟨xs, rfl⟩
    | dct t kvs => cases t <;> cases h
    | _ => first | exact absurd h (by decide) | cases h
  · rintro ⟨xs, rfl⟩
    rfl
end
/-! ### moves -/
section
def okMv (hs : List Int) (b p : Int) : Prop := (1 ≤ b ∧ b ≤ hs.length) ∧ (0 ≤ p ∧ p ≤ hs.length) ∧ p ≠ b ∧ b ∉ wy hs p
instance {hs : List Int} {b p : Int} : Decidable (okMv hs b p) := by unfold okMv; infer_instance
def isMv (hs : List Int) : D → Bool
  | .tup [.int b, .int p] => decide (okMv hs b p)
  | _ => false
def mvD (hs : List Int) : D → List Int
  | .tup [.int b, .int p] => hs.set (b.toNat - 1) p
  | _ => hs
def isPairD : D → Bool
  | .tup [_, _] => true
  | _ => false
variable {c : Cl} {P : O → List O → Prop} {PE : DExc → List O → Prop} {hs ks : List Int} {p b : Int} {K : O → Prop} {d x y : D}
theorem isMv_inv (h : isMv hs d = true) : ∃ b p, d = .tup [.int b, .int p] ∧ okMv hs b p := by
  unfold isMv at h
  split at h
  · exact ⟨_, _, rfl, of_decide_eq_true h⟩
  · cases h
theorem isPair_inv (h : isPairD d = true) : ∃ x y, d = .tup [x, y] := by
  unfold isPairD at h
  split at h
  · exact ⟨_, _, rfl⟩
  · cases h
theorem within_inv {lo hi : Int} (h : withinD lo hi d = true) : ∃ i, d = .int i ∧ lo ≤ i ∧ i ≤ hi := by
  unfold withinD at h
  split at h
  · have := of_decide_eq_true h
    exact ⟨_, rfl, this⟩
  · cases h
theorem isMv_no (h : isPairD d = false) : isMv hs d = false := by
  unfold isPairD at h
  unfold isMv
  split at h
  · cases h
  · rename_i n
    split
    · exact absurd rfl (n _ _)
    · rfl
theorem isMv_no1 (h : withinD 1 hs.length x = false) : isMv hs (.tup [x, y]) = false := by
  unfold isMv
  split
  · rename_i e
    cases e
    refine decide_eq_false fun z => ?_
    have := of_decide_eq_false (show decide _ = false from h)
    exact this z.1
  · rfl
theorem isMv_no2 (h : withinD 0 hs.length y = false) : isMv hs (.tup [x, y]) = false := by
  unfold isMv
  split
  · rename_i e
    cases e
    refine decide_eq_false fun z => ?_
    have := of_decide_eq_false (show decide _ = false from h)
    exact this z.2.1
  · rfl
theorem e_pair (pd : PlA [c.Tree, c.History] d) (q : P (.fr (.bl (isPairD d))) []) : D_is_pair c [.fr d] P PE := by
  refine D_is_pair_in ?_
  unfold B_is_pair
  walk_at "dw"
  refine e_isi pd.plain (.inr (.inr (.inl rfl))) ?_
  walk_at "dw"
  cases h : isKd d "tuple" with
  | false =>
    refine a_ifF rfl ?_
    have : isPairD d = false := by
      cases hp : isPairD d with
      | false => rfl
      | true =>
        obtain ⟨x, y, rfl⟩ := isPair_inv hp
        cases h
    rw [this] at q
    walk_at "dw"
    exact q
  | true =>
    obtain ⟨xs, rfl⟩ := isKd_tup.mp h
    refine a_ifT rfl ?_
    walk_at "dw"
    have : isPairD (.tup xs) = decide ((xs.length : Int) = 2) := by
      match xs with
      | [] => rfl
      | [_] => rfl
      | [_, _] => rfl
      | _ :: _ :: _ :: r => exact (decide_eq_false (by simp only [List.length_cons]; omega)).symm
    rw [this] at q
    exact q
theorem e_isMove (tr : IsTree hs) (pd : PlA [c.Tree, c.History] d) (q : P (.fr (.bl (isMv hs d))) []) : D_is_move c [.fr (rowD hs), .fr d] P PE := by
  refine D_is_move_in ?_
  unfold B_is_move
  walk_at "dw"
  refine e_pair pd ?_
  cases hp : isPairD d with
  | false =>
    rw [isMv_no hp] at q
    walk_at "dw"
    exact q
  | true =>
    obtain ⟨x, y, rfl⟩ := isPair_inv hp
    have px := (pd.item (x := x) List.mem_cons_self).plain
    have py := (pd.item (x := y) (List.mem_cons_of_mem _ List.mem_cons_self)).plain
    walk_at "dw"
    refine a_ixT (d := x) (atI_of (jj := 0) rfl rfl) ?_
    walk_at "dw"
    rw [List.length_map]
    refine e_within px ?_
    cases h1 : withinD 1 hs.length x with
    | false =>
      rw [isMv_no1 h1] at q
      walk_at "dw"
      exact q
    | true =>
      obtain ⟨b, rfl, b0, b1⟩ := within_inv h1
      walk_at "dw"
      refine a_ixT (d := y) (atI_of (jj := 1) rfl rfl) ?_
      walk_at "dw"
      rw [List.length_map]
      refine e_within py ?_
      cases h2 : withinD 0 hs.length y with
      | false =>
        rw [isMv_no2 h2] at q
        walk_at "dw"
        exact q
      | true =>
        obtain ⟨p, rfl, p0, p1⟩ := within_inv h2
        have e : isMv hs (.tup [.int b, .int p]) = (!decide (p = b) && !decide (p ∈ ben hs b)) := by
          show decide (okMv hs b p) = _
          rw [Bool.eq_iff_iff, decide_eq_true_eq, Bool.and_eq_true, Bool.not_eq_true', decide_eq_false_iff_not, Bool.not_eq_true', decide_eq_false_iff_not, ben_iff p0 p1]
          exact ⟨fun z => ⟨z.2.2.1, z.2.2.2⟩, fun z => ⟨⟨b0, b1⟩, ⟨p0, p1⟩, z.1, z.2⟩⟩
        rw [e] at q
        walk_at "dw"
        refine a_ixT (d := .int p) (atI_of (jj := 1) rfl rfl) ?_
        walk_at "dw"
        refine a_ixT (d := .int b) (atI_of (jj := 0) rfl rfl) ?_
        walk_at "dw"
        cases h3 : decide (p = b) with
        | true =>
          rw [h3] at q
          walk_at "dw"
          exact q
        | false =>
          rw [h3] at q
          walk_at "dw"
          refine a_ixT (d := .int p) (atI_of (jj := 1) rfl rfl) ?_
          walk_at "dw"
          refine a_ixT (d := .int b) (atI_of (jj := 0) rfl rfl) ?_
          walk_at "dw"
          refine e_beneath tr (by omega) b1 ?_
          walk_at "dw"
          refine a_inRow ?_
          walk_at "dw"
          exact q
end

/-! ### what is due of moves -/
section
def dueF (hs : List Int) : Nat → List D → Option Nat
  | _, [] => none
  | i, d :: r => if isMv hs d = true then dueF (mvD hs d) (i + 1) r else some i
def due (hs : List Int) : D → Option D
  | .tup xs => if xs.length ≤ 100 then (dueF hs 0 xs).map (fun (k : Nat) => .int k) else some (.str "moves")
  | _ => some (.str "moves")
def histD (c : Cl) (hs : List Int) (d : D) : D := .ins c.History [("tree", treeD c hs), ("moves", d)]
variable {c : Cl} {P : O → List O → Prop} {PE : DExc → List O → Prop} {hs ks : List Int} {p b : Int} {K : O → Prop} {d x y t : D} {xs : List D} {env : DEnv} {X : DX}
theorem a_enumA {PI : List D → DEnv → Prop} {a : DTE} (h : a env (fun r env1 => force r env1 fun d env2 => match d with
  | .lst ds => PI (enumD 0 ds) env2
  | .tup ds => PI (enumD 0 ds) env2
  | _ => False) X) : dEnumA a env PI X := h
theorem okMv.tree (tr : IsTree hs) (h : okMv hs b p) : IsTree (hs.set (b.toNat - 1) p) := tr.move h.1.1 h.1.2 h.2.1.1 h.2.1.2 h.2.2.1 h.2.2.2
theorem due_tup (h : due hs d = none) : ∃ xs, d = .tup xs ∧ xs.length ≤ 100 ∧ dueF hs 0 xs = none := by
  unfold due at h
  split at h
  · split at h
    · rename_i xs l
      cases e : dueF hs 0 xs with
      | none => exact ⟨xs, rfl, l, e⟩
      | some k => rw [e] at h; cases h
    · cases h
  · cases h
/-- the tree behind moves -/
def aft (hs : List Int) : List D → List Int
  | [] => hs
  | d :: r => aft (mvD hs d) r
theorem treeCl : (treeD c hs).cl = some c.Tree := rfl
theorem plTree : PlA [c.Tree, c.History] (treeD c hs) := .ins List.mem_cons_self
theorem a_setFD {Cs : List Addr} {fl : Str} {C : Addr} {gs : List (Str × O)} {DD : DEnds} {i j : Nat} (h : env[j]? = some (.ow (.fr d))) (hi : env[i]? = some (.bo (.ins C gs))) (hC : C ∈ Cs) (l : gs.length < 1000) (q : DD.nx (env.set i (.bo (.ins C (putFD fl (.fr d) gs))))) : dSetF Cs i fl (dVar j) DD env := by
  refine a_setF (a_varD h ?_)
  show oth (contAt env i []) _
  have e : contAt env i [] = some (.ins C gs) := by
    unfold contAt
    rw [hi]
    rfl
  rw [e]
  refine ⟨⟨hC, l⟩, ?_⟩
  have e2 : setAt env i [] (.ins C (putFD fl (.fr d) gs)) = env.set i (.bo (.ins C (putFD fl (.fr d) gs))) := by
    unfold setAt
    rw [hi]
    rfl
  rw [e2]
  exact q
theorem e_histNo (pt : PlA [c.Tree, c.History] t) (nt : t.cl ≠ some c.Tree) (q : PE ⟨.ref c.BadHistory, some [("part", .str "tree")]⟩ [.ins c.History []]) : D_History_init c [.ins c.History [], .fr t, .fr d] P PE := by
  refine D_History_init_in ?_
  unfold B_History_init
  walk_at "dw"
  refine e_isiC pt.plain List.mem_cons_self ?_
  rw [decide_eq_false nt]
  walk_at "dw"
  exact q
theorem e_hist (tr : IsTree hs) (pd : PlA [c.Tree, c.History] d) (q : due hs d = none → P (.fr .non) [.ins c.History [("tree", .fr (treeD c hs)), ("moves", .fr d)]])
    (qe : ∀ x, due hs d = some x → PE ⟨.ref c.BadHistory, some [("part", x)]⟩ [.ins c.History []]) : D_History_init c [.ins c.History [], .fr (treeD c hs), .fr d] P PE := by
  refine D_History_init_in ?_
  unfold B_History_init
  walk_at "dw"
  refine e_isiC plTree.plain List.mem_cons_self ?_
  rw [show decide ((treeD c hs).cl = some c.Tree) = true from decide_eq_true rfl]
  walk_at "dw"
  refine e_isi pd.plain (.inr (.inr (.inl rfl))) ?_
  walk_at "dw"
  cases h : isKd d "tuple" with
  | false =>
    walk_at "dw"
    refine qe _ ?_
    unfold due
    split
    · cases h
    · rfl
  | true =>
    obtain ⟨xs, rfl⟩ := isKd_tup.mp h
    walk_at "dw"
    refine v_ite (fun l => ?_) (fun l => ?_)
    · walk_at "dw"
      refine qe _ ?_
      show (if xs.length ≤ 100 then _ else _) = _
      rw [if_neg (by omega)]
      rfl
    · have l' : xs.length ≤ 100 := by omega
      have q : dueF hs 0 xs = none → P (.fr .non) [.ins c.History [("tree", .fr (treeD c hs)), ("moves", .fr (.tup xs))]] := fun e => q (by
        show (if xs.length ≤ 100 then _ else _) = _
        rw [if_pos l', e]
        rfl)
      have qe : ∀ k, dueF hs 0 xs = some k → PE ⟨.ref c.BadHistory, some [("part", .int k)]⟩ [.ins c.History []] := fun k e => qe _ (by
        show (if xs.length ≤ 100 then _ else _) = _
        rw [if_pos l', e]
        rfl)
      unfold treeD
      walk_at "dw"
      refine a_enumA ?_
      walk_at "dw"
      refine a_forI (fun i e => ∃ ks : List Int, IsTree ks ∧ dueF ks i (xs.drop i) = dueF hs 0 xs ∧ e = [S.bo (.ins c.History []), .ow (.fr (treeD c hs)), .ow (.fr (.tup xs)), .ow (.fr (rowD ks)), .un, .un]) ⟨hs, tr, rfl, rfl⟩ ?_ ?_
      · rintro i d0 e NX hd ⟨ks, tk, ed, rfl⟩ nx
        rw [enumD_at] at hd
        cases ex : xs[i]? with
        | none => rw [ex] at hd; cases hd
        | some x =>
          rw [ex] at hd
          cases hd
          have dr : xs.drop i = x :: xs.drop (i + 1) := by
            have hi := (List.getElem?_eq_some_iff.mp ex).1
            rw [List.drop_eq_getElem_cons hi, (List.getElem?_eq_some_iff.mp ex).2]
          rw [dr] at ed
          walk_at "dw"
          refine e_isMove tk (pd.item (List.mem_of_getElem? ex)) ?_
          cases hm : isMv ks x with
          | false =>
            walk_at "dw"
            rw [Nat.zero_add]
            refine qe i ?_
            rw [← ed]
            show (if isMv ks x = true then _ else _) = _
            rw [hm]
            rfl
          | true =>
            obtain ⟨b, p, rfl, ok⟩ := isMv_inv hm
            have ed : dueF (ks.set (b.toNat - 1) p) (i + 1) (xs.drop (i + 1)) = dueF hs 0 xs := by
              rw [← ed]
              show _ = (if isMv ks _ = true then _ else _)
              rw [hm]
              rfl
            walk_at "dw"
            refine a_ixT (d := .int b) (atI_of (jj := 0) rfl rfl) ?_
            walk_at "dw"
            refine a_ixT (d := .int p) (atI_of (jj := 1) rfl rfl) ?_
            walk_at "dw"
            refine e_with ok.1.1 ok.1.2 tk.2.1 ?_
            walk_at "dw"
            exact nx _ ⟨_, ok.tree tk, ed, rfl⟩
      · rw [enumD_len]
        rintro e ⟨ks, tk, ed, rfl⟩
        rw [List.drop_eq_nil_of_le (Nat.le_refl _)] at ed
        walk_at "dw"
        refine a_setFD rfl rfl (by exact List.mem_cons_self) (by decide) ?_
        walk_at "dw"
        refine a_setFD rfl rfl (by exact List.mem_cons_self) (by show 1 < 1000; decide) ?_
        exact q ed.symm
end

/-! ### the trees behind moves, histories compared -/
section
variable {c : Cl} {P : O → List O → Prop} {PE : DExc → List O → Prop} {hs ks : List Int} {p b : Int} {K : O → Prop} {d x y t : D} {xs ys : List D} {env : DEnv} {X : DX}
/-- moves one after the other -/
def Vld (hs : List Int) : List (Int × Int) → Prop
  | [] => True
  | m :: r => okMv hs m.1 m.2 ∧ Vld (hs.set (m.1.toNat - 1) m.2) r
def mvs (hs : List Int) : List (Int × Int) → List Int
  | [] => hs
  | m :: r => mvs (hs.set (m.1.toNat - 1) m.2) r
theorem mvs_len : ∀ (ms : List (Int × Int)) (hs : List Int), (mvs hs ms).length = hs.length
  | [], _ => rfl
  | m :: r, hs => by
    show (mvs (hs.set (m.1.toNat - 1) m.2) r).length = _
    rw [mvs_len r, List.length_set]
theorem vld_tree : ∀ (ms : List (Int × Int)) (hs : List Int), IsTree hs → Vld hs ms → IsTree (mvs hs ms)
  | [], _, t, _ => t
  | m :: r, hs, t, v => vld_tree r _ (v.1.tree t) v.2
theorem vld_snoc : ∀ (ms : List (Int × Int)) (hs : List Int) (m : Int × Int), Vld hs ms → okMv (mvs hs ms) m.1 m.2 → Vld hs (ms ++ [m])
  | [], _, m, _, h => ⟨h, trivial⟩
  | n :: r, hs, m, v, h => ⟨v.1, vld_snoc r _ m v.2 h⟩
theorem mvs_snoc : ∀ (ms : List (Int × Int)) (hs : List Int) (m : Int × Int), mvs hs (ms ++ [m]) = (mvs hs ms).set (m.1.toNat - 1) m.2
  | [], _, m => rfl
  | n :: r, hs, m => mvs_snoc r _ m
theorem vld_due : ∀ (ms : List (Int × Int)) (hs : List Int) (i : Nat), Vld hs ms → dueF hs i (ms.map prD) = none
  | [], _, _, _ => rfl
  | m :: r, hs, i, v => by
    show (if isMv hs (prD m) = true then dueF (mvD hs (prD m)) (i + 1) (r.map prD) else some i) = none
    rw [if_pos (show isMv hs (prD m) = true from decide_eq_true v.1)]
    exact vld_due r _ (i + 1) v.2
theorem vld_take : ∀ (ms : List (Int × Int)) (hs : List Int) (k : Nat), Vld hs ms → Vld hs (ms.take k)
  | _, _, 0, _ => trivial
  | [], _, _ + 1, _ => trivial
  | m :: r, hs, k + 1, v => ⟨v.1, vld_take r _ k v.2⟩
theorem vld_at : ∀ (ms : List (Int × Int)) (hs : List Int) (k : Nat) (m : Int × Int), Vld hs ms → ms[k]? = some m → okMv (mvs hs (ms.take k)) m.1 m.2
  | [], _, _, _, _, e => by cases e
  | n :: r, hs, 0, m, v, e => by
    cases e
    exact v.1
  | n :: r, hs, k + 1, m, v, e => vld_at r _ k m v.2 e
theorem pl_moves {Cs : List Addr} {ms : List (Int × Int)} : PlA Cs (.tup (ms.map prD)) := .tup fun x m => by
  obtain ⟨n, _, rfl⟩ := List.mem_map.mp m
  exact .cons .int (.cons .int .tup0)
theorem a_I1 {x : Int} {g : Int → D} (h : K (.fr (g x))) : dU g (.int x) K := h
theorem atI_last {xs ys : List D} {x : D} (e : xs = ys ++ [x]) : atI xs (-1) = some x := by
  subst e
  have l : ixN (ys ++ [x]).length (-1) = some ys.length := by
    unfold ixN
    rw [if_neg (by decide), List.length_append, if_pos (by show -((ys.length + 1 : Nat) : Int) ≤ -1; omega)]
    exact congrArg some (by show ((-1 : Int) + ((ys.length + 1 : Nat) : Int)).toNat = ys.length; omega)
  unfold atI
  rw [l]
  show (ys ++ [x])[ys.length]? = some x
  rw [List.getElem?_append_right (Nat.le_refl _), Nat.sub_self]
  rfl
theorem e_along {ms : List (Int × Int)} (tr : IsTree hs) (v : Vld hs ms) (l : ms.length ≤ 100) (q : P (oL ((List.range (ms.length + 1)).map fun k => rowD (mvs hs (ms.take k)))) []) : D_trees_along c [.fr (rowD hs), .fr (.tup (ms.map prD))] P PE := by
  refine D_trees_along_in ?_
  unfold B_trees_along
  walk_at "dw"
  refine a_forI (fun i e => e = [S.un, .un, .ow (oL ((List.range (i + 1)).map fun k => rowD (mvs hs (ms.take k)))), .un, .un]) ?_ ?_ ?_
  · rfl
  · rintro i d0 e NX hd rfl nx
    rw [List.getElem?_map] at hd
    cases ex : ms[i]? with
    | none => rw [ex] at hd; cases hd
    | some m =>
      rw [ex] at hd
      cases hd
      have hi := (List.getElem?_eq_some_iff.mp ex).1
      have ok := vld_at ms hs i m v ex
      unfold prD
      walk_at "dw"
      refine a_I1 ?_
      refine a_asI ?_
      refine a_ixP (d := rowD (mvs hs (ms.take i))) rfl (atI_last (by
        rw [List.range_succ, List.map_append]
        rfl)) ?_
      walk_at "dw"
      refine e_with ok.1.1 ok.1.2 (by rw [mvs_len]; exact tr.2.1) ?_
      walk_at "dw"
      refine a_app rfl (by rw [List.length_map, List.length_range]; omega) ?_
      walk_at "dw"
      refine nx _ ?_
      have tk : ms.take (i + 1) = ms.take i ++ [m] := take_snoc ex
      have e5 : rowD ((mvs hs (ms.take i)).set (m.1.toNat - 1) m.2) = rowD (mvs hs (ms.take (i + 1))) := by rw [tk, mvs_snoc]
      rw [e5, List.range_succ (n := i + 1), List.map_append]
      rfl
  · rw [List.length_map]
    rintro e rfl
    walk_at "dw"
    exact q
theorem toPyL_prs : ∀ ps : List (Int × Int), toPyL (ps.map prD) = some (ps.map pairD)
  | [] => rfl
  | (a, b) :: r => by
    show (match toPy (prD (a, b)) with
      | some p => (match toPyL (r.map prD) with
        | some l => some (p :: l)
        | none => none)
      | none => none) = _
    rw [toPyL_prs r]
    rfl
theorem toPy_prs (ps : List (Int × Int)) : toPy (.tup (ps.map prD)) = some (.tuple (ps.map pairD)) := by
  show (match toPyL (ps.map prD) with
    | some l => some (PyData.tuple l)
    | none => none) = _
  rw [toPyL_prs]
theorem shaped_prs (ps : List (Int × Int)) : SeqAt.shaped (.tuple (ps.map pairD)) = true := by
  show (PyData.canLayAll0 (ps.map pairD) && decide (PyData.depthAll (ps.map pairD) + 1 ≤ 64)) = true
  rw [layAll_pairs]
  have := depthAll_pairs ps
  exact decide_eq_true (by omega)
theorem a_eqPrs {ps qs : List (Int × Int)} (q : K (.fr (.bl (decide (ps = qs))))) : dEq (.tup (ps.map prD)) (.tup (qs.map prD)) K := by
  show oth (toPy (.tup (ps.map prD))) fun a => oth (toPy (.tup (qs.map prD))) fun b => _
  rw [toPy_prs, toPy_prs]
  refine ⟨shaped_prs _, shaped_prs _, ?_⟩
  rw [show PyData.eqv (.tuple (ps.map pairD)) (.tuple (qs.map pairD)) = decide (ps = qs) from eqvAll_pairs ps qs]
  exact q
theorem a_nePrs {ps qs : List (Int × Int)} (q : K (.fr (.bl (!decide (ps = qs))))) : dNe (.tup (ps.map prD)) (.tup (qs.map prD)) K := by
  show oth (toPy (.tup (ps.map prD))) fun a => oth (toPy (.tup (qs.map prD))) fun b => _
  rw [toPy_prs, toPy_prs]
  refine ⟨shaped_prs _, shaped_prs _, ?_⟩
  rw [show PyData.eqv (.tuple (ps.map pairD)) (.tuple (qs.map pairD)) = decide (ps = qs) from eqvAll_pairs ps qs]
  exact q
theorem e_histNe (pd : PlA [c.Tree, c.History] d) (nh : d.cl ≠ some c.History) (q : P (.fr (.bl false)) []) : D_History_eq c [.fr (histD c hs x), .fr d] P PE := by
  refine D_History_eq_in ?_
  unfold B_History_eq
  walk_at "dw"
  refine e_isiC pd.plain (List.mem_cons_of_mem _ List.mem_cons_self) ?_
  rw [decide_eq_false nh]
  walk_at "dw"
  exact q
theorem e_histEq {ms ns : List (Int × Int)} (l : hs.length ≤ 40) (q : P (.fr (.bl (decide (ms = ns)))) []) : D_History_eq c [.fr (histD c hs (.tup (ms.map prD))), .fr (histD c hs (.tup (ns.map prD)))] P PE := by
  refine D_History_eq_in ?_
  unfold B_History_eq
  walk_at "dw"
  refine e_isiC (.inr ⟨c.History, List.mem_cons_of_mem _ List.mem_cons_self, rfl⟩) (List.mem_cons_of_mem _ List.mem_cons_self) ?_
  rw [show decide ((histD c hs (.tup (ns.map prD))).cl = some c.History) = true from decide_eq_true rfl]
  unfold histD
  walk_at "dw"
  refine ⟨[treeD c hs, .tup (ms.map prD)], [treeD c hs, .tup (ns.map prD)], [true, decide (ms = ns)], rfl, rfl, rfl, rfl, fun i x y b hx hy hb => ?_, ?_⟩
  · match i, hx, hy, hb with
    | 0, hx, hy, hb =>
      cases hx
      cases hy
      cases hb
      have nd : ∀ l : List Int, D.noDcL (l.map .int) = true := fun l => by
        induction l with
        | nil => rfl
        | cons a r ih =>
          show (true && D.noDcL (r.map .int)) = true
          rw [ih]
          rfl
      refine .inl ⟨rfl, rfl, ?_, e_treeEq l rfl, rfl⟩
      show (D.noDcL (hs.map .int) && true) = true
      rw [nd]
      rfl
    | 1, hx, hy, hb =>
      cases hx
      cases hy
      cases hb
      exact .inr ⟨_, _, toPy_prs _, toPy_prs _, shaped_prs _, shaped_prs _, (eqvAll_pairs ms ns).symm⟩
  · show P (.fr (.bl (true && (decide (ms = ns) && true)))) _
    rw [Bool.true_and, Bool.and_true]
    exact q
theorem e_now {ms : List (Int × Int)} (tr : IsTree hs) (v : Vld hs ms) (l : ms.length ≤ 100) (q : P (.ins c.Tree [("hung", .fr (rowD (mvs hs ms)))]) []) : D_now c [.fr (histD c hs (.tup (ms.map prD)))] P PE := by
  refine D_now_in ?_
  unfold B_now histD
  walk_at "dw"
  unfold treeD
  walk_at "dw"
  refine e_along tr v l ?_
  walk_at "dw"
  refine a_I1 ?_
  refine a_asI ?_
  refine a_ixN (a := dC .non) rfl (atI_last (by
    rw [List.range_succ, List.map_append]
    rfl)) ?_
  walk_at "dw"
  rw [List.take_of_length_le (Nat.le_refl _)]
  refine e_init (vld_tree ms hs tr v) ⟨rfl, a_one ?_⟩
  walk_at "dw"
  exact q
end
section
variable {P : R → DEnv → Prop} {DD : DEnds} {env : DEnv} {C : Addr} {f : Str} {i j : Nat} {db : DTS} {K : O → Prop}
theorem a_tryFst (h : db { DD with ex := fun e env1 => e.cls = .ref C ∧ env1[i]? = some .un ∧ oth (e.fs.bind fun gs => gs.lookup f) fun d => dName j (.fr d) env1 DD.nx DD.ex } env) : dTryFst C f i j db DD env := h
theorem a_inInts {neg : Bool} {z : Int} {ns : List Int} (q : K (.fr (.bl (if neg then !decide (z ∈ ns) else decide (z ∈ ns))))) : dIn neg (.int z) (.lst (ns.map .int)) K := by
  show oth (some (V.int z)) fun x => oth (flVs (ns.map D.int)) fun xs => K (.fr (.bl (if neg = true then !inV x xs else inV x xs)))
  rw [flVs_ints]
  show K (.fr (.bl (if neg = true then !inV (.int z) (ns.map V.int) else inV (.int z) (ns.map V.int))))
  rw [inV_ints']
  exact q
theorem oth_some {α : Type} {o : Option α} {x : α} {k : α → Prop} (e : o = some x) (h : k x) : oth o k := by
  subst e
  exact h
end

/-! ### the law's own judge -/
section
variable {c : Cl} {P : O → List O → Prop} {PE : DExc → List O → Prop} {hs ks : List Int} {p b : Int} {K : O → Prop} {d x y t : D} {xs ys : List D} {env : DEnv} {X : DX}
def lben (hs : List Int) (p : Int) : List Int := (blocks hs.length).filter (fun b => decide (p = b ∨ p ∈ wy hs b)) ++ (if p = 0 then [0] else [])
theorem mem_lben {z : Int} (z0 : 0 ≤ z) (z1 : z ≤ hs.length) (b0 : 1 ≤ b) : z ∈ lben hs b ↔ z = b ∨ b ∈ wy hs z := by
  unfold lben
  rw [if_neg (by omega), List.append_nil, List.mem_filter, blocks_mem, decide_eq_true_eq]
  constructor
  · rintro ⟨_, h | h⟩
    · exact .inl h.symm
    · exact .inr h
  · rintro (h | h)
    · subst h
      exact ⟨⟨b0, z1⟩, .inl rfl⟩
    · refine ⟨⟨?_, z1⟩, .inr h⟩
      rcases Int.lt_or_le z 1 with l | l
      · have : z = 0 := by omega
        subst this
        rw [wy_zero] at h
        cases h
      · exact l
theorem lben_len : (lben hs p).length ≤ hs.length + 1 := by
  unfold lben
  rw [List.length_append]
  have := List.length_filter_le (fun b => decide (p = b ∨ p ∈ wy hs b)) (blocks hs.length)
  rw [blocks_len] at this
  split <;> (simp only [List.length_cons, List.length_nil]; omega)
theorem e_lben (tr : IsTree hs) (p0 : 0 ≤ p) (p1 : p ≤ hs.length) (q : P (oL ((lben hs p).map .int)) []) : D_l_beneath c [.fr (rowD hs), .fr (.int p)] P PE := by
  refine D_l_beneath_in ?_
  unfold B_l_beneath
  have l40 := tr.2.1
  walk_at "dw"
  refine a_rgb2 (by rw [List.length_map]; omega) ?_
  refine a_lcF (blkF fun b => decide (p = b ∨ p ∈ wy hs b)) (by rw [rgD_len, List.length_map]; omega) (fun k d acc NX hk ha n1 n2 => ?_) ?_
  · obtain ⟨hl, rfl⟩ := rgD_at hk
    rw [List.length_map] at hl
    refine ⟨by rfl, ?_⟩
    walk_at "dw"
    refine e_row tr (by omega) (by omega) ?_
    walk_at "dw"
    refine a_addL (by have := way_len hs hs.length (1 + (k : Int)); unfold wy; rw [List.length_map]; show 1 + _ ≤ _; omega) ?_
    rw [show [D.int (1 + (k : Int))] ++ (wy hs (1 + (k : Int))).map D.int = ((1 + (k : Int)) :: wy hs (1 + (k : Int))).map D.int from rfl]
    walk_at "dw"
    refine a_inInts ?_
    walk_at "dw"
    refine v_ite (fun h => ?_) (fun h => ?_)
    · walk_at "dw"
      exact ⟨ha, n1 (decide_eq_true (List.mem_cons.mp h))⟩
    · exact n2 (decide_eq_false fun z => h (List.mem_cons.mpr z))
  · rw [filt_blk, List.length_map, show ((hs.length : Int) + 1 - 1).toNat = hs.length by omega]
    have ll := lben_len (hs := hs) (p := p)
    unfold lben at q ll
    generalize (blocks hs.length).filter (fun b => decide (p = b ∨ p ∈ wy hs b)) = bs at *
    walk_at "dw"
    refine a_mulL ⟨by split <;> decide, by split <;> decide, by decide⟩ ?_
    rw [rep_int]
    walk_at "dw"
    have e : List.replicate (if decide (p = 0) = true then (1 : Int) else 0).toNat (0 : Int) = if p = 0 then [0] else [] := by
      by_cases h : p = 0
      · rw [if_pos h, if_pos (decide_eq_true h)]
        rfl
      · rw [if_neg h, if_neg (by rw [decide_eq_false h]; decide)]
        rfl
    rw [e]
    rw [List.length_append] at ll
    refine a_addL (by rw [List.length_map, List.length_map]; omega) ?_
    rw [← List.map_append]
    walk_at "dw"
    exact q
theorem e_put (b0 : 1 ≤ b) (b1 : b ≤ hs.length) (l40 : hs.length ≤ 40) (q : P (.fr (rowD (hs.set (b.toNat - 1) p))) []) : D_l_put c [.fr (rowD hs), .fr (.int b), .fr (.int p)] P PE := by
  refine D_l_put_in ?_
  unfold B_l_put
  walk_at "dw"
  rw [show b - 1 = ((b.toNat - 1 : Nat) : Int) by omega, cutD_take]
  walk_at "dw"
  refine a_addT (by rw [List.length_map, List.length_take]; show _ + 1 ≤ _; omega) ?_
  walk_at "dw"
  rw [show b = ((b.toNat : Nat) : Int) by omega, cutD_drop]
  refine a_addT (by rw [List.length_append, List.length_map, List.length_take, List.length_map, List.length_drop]; show _ + 1 + _ ≤ _; omega) ?_
  have e : (hs.take (b.toNat - 1)).map D.int ++ [D.int p] ++ (hs.drop b.toNat).map D.int = (hs.set (b.toNat - 1) p).map D.int := by
    rw [List.set_eq_take_append_cons_drop, if_pos (by omega), List.map_append, List.map_cons, show b.toNat - 1 + 1 = b.toNat by omega, List.append_assoc]
    rfl
  rw [show (((b.toNat : Nat) : Int)).toNat = b.toNat by omega]
  walk_at "dw"
  rw [e]
  exact q
theorem e_whole {lo hi : Int} (hp : PlainD [c.Tree, c.History] d) (q : P (.fr (.bl (withinD lo hi d))) []) : D_l_is_whole c [.fr d, .fr (.int lo), .fr (.int hi)] P PE := by
  refine D_l_is_whole_in ?_
  unfold B_l_is_whole
  have e := @isKd_int d
  walk_at "dw"
  refine e_isi hp (.inl rfl) ?_
  walk_at "dw"
  cases h1 : isKd d "int" with
  | false =>
    have w : withinD lo hi d = false := by
      cases d <;> first | rfl | (rename_i t kvs; cases t <;> rfl) | cases h1
    rw [w] at q
    walk_at "dw"
    exact q
  | true =>
    walk_at "dw"
    refine e_isi hp (.inr (.inl rfl)) ?_
    rw [h1] at e
    cases h2 : isKd d "bool" with
    | true =>
      have w : withinD lo hi d = false := by
        cases d <;> first | rfl | (rename_i t kvs; cases t <;> rfl) | cases h2
      rw [w] at q
      walk_at "dw"
      exact q
    | false =>
      rw [h2] at e
      have : ∃ i, d = .int i := by
        cases d <;> first | exact ⟨_, rfl⟩ | cases e
      obtain ⟨i, rfl⟩ := this
      walk_at "dw"
      by_cases h : lo ≤ i
      · rw [decide_eq_true h]
        walk_at "dw"
        have e : withinD lo hi (.int i) = decide (i ≤ hi) := by
          show decide (lo ≤ i ∧ i ≤ hi) = _
          rw [Bool.eq_iff_iff]
          simp [h]
        rw [e] at q
        exact q
      · rw [decide_eq_false h]
        walk_at "dw"
        have e : withinD lo hi (.int i) = false := decide_eq_false fun z => h z.1
        rw [e] at q
        exact q
theorem e_due (tr : IsTree hs) (pd : PlA [c.Tree, c.History] d) (q : P (.fr ((due hs d).getD (.str "let"))) []) : D_l_due c [.fr (rowD hs), .fr d] P PE := by
  refine D_l_due_in ?_
  unfold B_l_due
  walk_at "dw"
  refine e_isi pd.plain (.inr (.inr (.inl rfl))) ?_
  walk_at "dw"
  cases h : isKd d "tuple" with
  | false =>
    have e : due hs d = some (.str "moves") := by
      unfold due
      split
      · cases h
      · rfl
    rw [e] at q
    walk_at "dw"
    exact q
  | true =>
    obtain ⟨xs, rfl⟩ := isKd_tup.mp h
    walk_at "dw"
    refine v_ite (fun l => ?_) (fun l => ?_)
    · walk_at "dw"
      have e : due hs (.tup xs) = some (.str "moves") := by
        show (if xs.length ≤ 100 then _ else _) = _
        rw [if_neg (by omega)]
      rw [e] at q
      exact q
    · have l' : xs.length ≤ 100 := by omega
      have e : due hs (.tup xs) = (dueF hs 0 xs).map (fun (k : Nat) => .int k) := by
        show (if xs.length ≤ 100 then _ else _) = _
        rw [if_pos l']
      rw [e] at q
      walk_at "dw"
      refine a_enumA ?_
      walk_at "dw"
      refine a_forI (fun i e => ∃ ks : List Int, IsTree ks ∧ dueF ks i (xs.drop i) = dueF hs 0 xs ∧ e = [S.ow (.fr (rowD ks)), .un, .un, .un]) ⟨hs, tr, rfl, rfl⟩ ?_ ?_
      · rintro i d0 e NX hd ⟨ks, tk, ed, rfl⟩ nx
        rw [enumD_at] at hd
        cases ex : xs[i]? with
        | none => rw [ex] at hd; cases hd
        | some x =>
          rw [ex] at hd
          cases hd
          have dr : xs.drop i = x :: xs.drop (i + 1) := by
            have hi := (List.getElem?_eq_some_iff.mp ex).1
            rw [List.drop_eq_getElem_cons hi, (List.getElem?_eq_some_iff.mp ex).2]
          rw [dr] at ed
          have px := pd.item (List.mem_of_getElem? ex)
          have no : isMv ks x = false → P (.fr (.int i)) [] := fun hm => by
            have ed2 : some i = dueF hs 0 xs := by
              rw [← ed]
              show _ = (if isMv ks x = true then _ else _)
              rw [hm]
              rfl
            rw [← ed2] at q
            exact q
          rw [Nat.zero_add]
          walk_at "dw"
          refine e_isi px.plain (.inr (.inr (.inl rfl))) ?_
          walk_at "dw"
          cases h2 : isKd x "tuple" with
          | false =>
            walk_at "dw"
            refine no ?_
            cases hm : isMv ks x with
            | false => rfl
            | true =>
              obtain ⟨b, p, rfl, _⟩ := isMv_inv hm
              cases h2
          | true =>
            obtain ⟨ws, rfl⟩ := isKd_tup.mp h2
            walk_at "dw"
            refine v_iteN (fun l2 => ?_) (fun l2 => ?_)
            · walk_at "dw"
              refine no (isMv_no ?_)
              cases hp : isPairD (.tup ws) with
              | false => rfl
              | true =>
                obtain ⟨u, v, e⟩ := isPair_inv hp
                cases e
                exact absurd rfl l2
            · obtain ⟨u, v, rfl⟩ : ∃ u v, ws = [u, v] := by
                match ws, l2 with
                | [u, v], _ => exact ⟨u, v, rfl⟩
                | [], h => cases h
                | [_], h => cases h
                | _ :: _ :: _ :: _, h => simp only [List.length_cons] at h; omega
              have pu := (px.item (x := u) List.mem_cons_self).plain
              have pv := (px.item (x := v) (List.mem_cons_of_mem _ List.mem_cons_self)).plain
              walk_at "dw"
              refine a_ixT (d := u) (atI_of (jj := 0) rfl rfl) ?_
              walk_at "dw"
              rw [List.length_map]
              refine e_whole pu ?_
              cases h3 : withinD 1 ks.length u with
              | false =>
                walk_at "dw"
                exact no (isMv_no1 h3)
              | true =>
                obtain ⟨b, rfl, b0, b1⟩ := within_inv h3
                walk_at "dw"
                refine a_ixT (d := v) (atI_of (jj := 1) rfl rfl) ?_
                walk_at "dw"
                rw [List.length_map]
                refine e_whole pv ?_
                cases h4 : withinD 0 ks.length v with
                | false =>
                  walk_at "dw"
                  exact no (isMv_no2 h4)
                | true =>
                  obtain ⟨p, rfl, p0, p1⟩ := within_inv h4
                  walk_at "dw"
                  refine a_ixT (d := .int p) (atI_of (jj := 1) rfl rfl) ?_
                  walk_at "dw"
                  refine a_ixT (d := .int b) (atI_of (jj := 0) rfl rfl) ?_
                  walk_at "dw"
                  refine e_lben tk (by omega) b1 ?_
                  walk_at "dw"
                  refine a_inInts ?_
                  walk_at "dw"
                  refine v_ite (fun h5 => ?_) (fun h5 => ?_)
                  · walk_at "dw"
                    refine no ?_
                    refine decide_eq_false fun ok => ?_
                    rcases (mem_lben p0 p1 b0).mp h5 with e | e
                    · exact ok.2.2.1 e
                    · exact ok.2.2.2 e
                  · have ok : okMv ks b p := ⟨⟨b0, b1⟩, ⟨p0, p1⟩, fun e => h5 ((mem_lben p0 p1 b0).mpr (.inl e)), fun e => h5 ((mem_lben p0 p1 b0).mpr (.inr e))⟩
                    have ed : dueF (ks.set (b.toNat - 1) p) (i + 1) (xs.drop (i + 1)) = dueF hs 0 xs := by
                      rw [← ed]
                      show _ = (if isMv ks _ = true then _ else _)
                      rw [show isMv ks (.tup [.int b, .int p]) = true from decide_eq_true ok]
                      rfl
                    walk_at "dw"
                    refine a_ixT (d := .int b) (atI_of (jj := 0) rfl rfl) ?_
                    walk_at "dw"
                    refine a_ixT (d := .int p) (atI_of (jj := 1) rfl rfl) ?_
                    walk_at "dw"
                    refine e_put b0 b1 tk.2.1 ?_
                    walk_at "dw"
                    exact nx _ ⟨_, ok.tree tk, ed, rfl⟩
      · rw [enumD_len]
        rintro e ⟨ks, tk, ed, rfl⟩
        rw [List.drop_eq_nil_of_le (Nat.le_refl _)] at ed
        have ed : none = dueF hs 0 xs := ed
        rw [← ed] at q
        walk_at "dw"
        exact q
theorem e_answer (tr : IsTree hs) (pd : PlA [c.Tree, c.History] d) (q : P (.fr ((due hs d).getD (.str "let"))) []) : D_l_answer c [.fr (treeD c hs), .fr d] P PE := by
  refine D_l_answer_in ?_
  unfold B_l_answer
  walk_at "dw"
  refine a_cut (fun e => ∃ x s0 s1, (due hs d).getD (.str "let") = x ∧ e = [s0, s1, S.ow (.fr x), .un]) (fun NX nx => ?_) ?_
  · refine a_tryFst ?_
    walk_at "dw"
    refine e_hist tr pd (fun h => ⟨rfl, a_one ?_⟩) (fun x h => ⟨rfl, rfl, rfl, ?_⟩)
    · walk_at "dw"
      exact nx _ ⟨_, _, _, by rw [h]; rfl, rfl⟩
    · refine oth_some (x := x) rfl ?_
      refine a_name ⟨_, rfl⟩ ?_
      exact nx _ ⟨_, _, _, by rw [h]; rfl, rfl⟩
  · rintro e ⟨x, s0, s1, rfl, rfl⟩
    walk_at "dw"
    exact q
theorem e_answerNo (pt : PlA [c.Tree, c.History] t) (nt : t.cl ≠ some c.Tree) (q : P (.fr (.str "tree")) []) : D_l_answer c [.fr t, .fr d] P PE := by
  refine D_l_answer_in ?_
  unfold B_l_answer
  walk_at "dw"
  refine a_cut (fun e => ∃ s0 s1, e = [s0, s1, S.ow (.fr (.str "tree")), .un]) (fun NX nx => ?_) ?_
  · refine a_tryFst ?_
    walk_at "dw"
    refine e_histNo pt nt ⟨rfl, rfl, rfl, ?_⟩
    refine oth_some (x := D.str "tree") rfl ?_
    refine a_name ⟨_, rfl⟩ ?_
    exact nx _ ⟨_, _, rfl⟩
  · rintro e ⟨s0, s1, rfl⟩
    walk_at "dw"
    exact q
end

/-! ### draws -/
section
variable {c : Cl} {P : O → List O → Prop} {PE : DExc → List O → Prop} {hs ks : List Int} {p b : Int} {K : O → Prop} {d x y t : D} {xs ys : List D} {env : DEnv} {X : DX}
theorem hand_mk {ns : List Int} {x y z u : Int} (l : ns.length ≤ 63) (h : 0 ≤ x) : HandOk (.lst [oL (ns.map .int), .fr (.int x), .fr (.int y), .fr (.int z), .fr (.int u)]) := ⟨ns, x, y, z, u, by unfold tapeO; rw [← oL_ints]; rfl, l, h⟩
theorem hand_eq {o : O} (h : HandOk o) : ∃ (ns : List Int) (x y z u : Int), o = .lst [oL (ns.map .int), .fr (.int x), .fr (.int y), .fr (.int z), .fr (.int u)] ∧ ns.length ≤ 63 ∧ 0 ≤ x := by
  obtain ⟨ns, x, y, z, u, rfl, l, h⟩ := h
  exact ⟨ns, x, y, z, u, by unfold tapeO; rw [← oL_ints]; rfl, l, h⟩
theorem e_draw {o : O} {m : Int} (ho : HandOk o) (h1 : 1 ≤ m) (h2 : m ≤ 1000000) (q : ∀ d o', HandOk o' → 0 ≤ d → d < m → P (.fr (.int d)) [o']) : D_l_draw c [o, .fr (.int m)] P PE := by
  obtain ⟨gs, x, y, z, u, rfl, lg, hx⟩ := hand_eq ho
  refine D_l_draw_in ?_
  unfold B_l_draw
  refine a_cut (fun e => ∃ (x y z : Int) (s : S), 0 ≤ x ∧ e = [S.bo (.lst [oL (gs.map .int), .fr (.int x), .fr (.int y), .fr (.int z), .fr (.int u)]), S.ow (.fr (.int m)), s, .un, .un]) (fun NX nx => ?_) ?_
  · walk_at "dw"
    refine v_ite (fun hy => ?_) (fun hy => ?_)
    · walk_at "dw"
      refine v_ite (fun hl => ?_) (fun hl => ?_)
      · rw [List.length_map] at hl
        have hlt : x.toNat < gs.length := by omega
        walk_at "dw"
        refine a_ixP rfl (atI_of (jj := x.toNat) (x := .int gs[x.toNat]) (by omega) (by rw [List.getElem?_map, List.getElem?_eq_getElem hlt]; rfl)) ?_
        walk_at "dw"
        refine ⟨.inr (by decide), ?_⟩
        walk_at "dw"
        refine a_I2 (by decide) ?_
        walk_at "dw"
        refine a_I2 (by unfold CPow; decide) ?_
        walk_at "dw"
        refine v_ite (fun hb => ?_) (fun hb => ?_)
        · walk_at "dw"
          exact nx _ ⟨_, _, _, _, by omega, rfl⟩
        · walk_at "dw"
          exact nx _ ⟨_, _, _, _, by omega, rfl⟩
      · walk_at "dw"
        exact nx _ ⟨x, y, z, _, hx, rfl⟩
    · walk_at "dw"
      exact nx _ ⟨x, y, z, _, hx, rfl⟩
  clear hx ho
  clear x y z
  rintro e ⟨x, y, z, s, hx, rfl⟩
  walk_at "dw"
  refine v_ite (fun hy => ?_) (fun hy => ?_)
  · walk_at "dw"
    refine a_I2 (by show (0 : Int) < m; omega) ?_
    walk_at "dw"
    refine a_I2 (by show m ≠ 0 ∧ m.natAbs < 1073741824; omega) ?_
    walk_at "dw"
    exact q _ _ (hand_mk lg hx) (Int.emod_nonneg _ (by omega)) (Int.emod_lt_of_pos _ (by omega))
  · walk_at "dw"
    refine ⟨.inl (by decide), ?_⟩
    walk_at "dw"
    refine ⟨.inr (by decide), ?_⟩
    walk_at "dw"
    refine a_I2 (by decide) ?_
    walk_at "dw"
    generalize hz : (z + 7919 * (u + 1)) * 48271 % 2147483647 = w
    have z0 := Int.emod_nonneg ((z + 7919 * (u + 1)) * 48271) (b := 2147483647) (by decide)
    have z1 := Int.emod_lt_of_pos ((z + 7919 * (u + 1)) * 48271) (b := 2147483647) (by decide)
    rw [hz] at z0 z1
    refine a_I2 ⟨by decide, by decide⟩ ?_
    walk_at "dw"
    refine ⟨.inl (by omega), ?_⟩
    walk_at "dw"
    refine a_I2 (by decide) ?_
    walk_at "dw"
    generalize hv : w * (w.fdiv 1009 + 69621) % 2147483647 = v
    have u0 := Int.emod_nonneg (w * (w.fdiv 1009 + 69621)) (b := 2147483647) (by decide)
    have u1 := Int.emod_lt_of_pos (w * (w.fdiv 1009 + 69621)) (b := 2147483647) (by decide)
    rw [hv] at u0 u1
    refine a_I2 ⟨by decide, by decide⟩ ?_
    walk_at "dw"
    refine ⟨.inl (by omega), ?_⟩
    walk_at "dw"
    refine a_I2 (by decide) ?_
    walk_at "dw"
    refine a_I2 ⟨by decide, by decide⟩ ?_
    walk_at "dw"
    refine a_I2 (by show (0 : Int) < m; omega) ?_
    walk_at "dw"
    exact q _ _ (hand_mk lg hx) (Int.emod_nonneg _ (by omega)) (Int.emod_lt_of_pos _ (by omega))
end

/-! ### drawn trees -/
section
variable {c : Cl} {P : O → List O → Prop} {PE : DExc → List O → Prop} {hs ks : List Int} {p b : Int} {K : O → Prop} {d x y t : D} {xs ys : List D} {env : DEnv} {X : DX}
theorem e_tree {o : O} {n : Nat} (ho : HandOk o) (h1 : 1 ≤ n) (h2 : n ≤ 40) (q : ∀ (hs : List Int) o', HandOk o' → hs.length = n → IsTree hs → P (.fr (rowD hs)) [o']) : D_l_tree c [o, .fr (.int n)] P PE := by
  refine D_l_tree_in ?_
  unfold B_l_tree
  walk_at "dw"
  refine ⟨⟨by omega, by omega⟩, ?_⟩
  dsimp only
  rw [show ((n : Int) + 1 - 1).toNat = n by omega, rgD_num, if_pos rfl]
  walk_at "dw"
  refine a_mulL ⟨by omega, by omega, by decide⟩ ?_
  rw [rep_int, show ((n : Int)).toNat = n by omega]
  walk_at "dw"
  refine a_while (m0 := n) (fun m e => ∃ (o : O) (ms left fs : List Int), HandOk o ∧ e = [S.bo o, .un, .ow (oL (left.map .int)), .ow (oL ((0 :: ms).map .int)), .ow (oL (fs.map .int)), .un] ∧ left.length = m ∧ ms.length + left.length = n ∧ (ms ++ left).Perm (numL n) ∧ fs.length = n ∧ (∀ h ∈ fs, 0 ≤ h ∧ h ≤ n) ∧
      ∀ (j : Nat) (x : Int), 1 ≤ j → (0 :: ms)[j]? = some x → ∃ (a : Nat) (y : Int), a < j ∧ (0 :: ms)[a]? = some y ∧ fs[(x - 1).toNat]? = some y)
    ⟨o, [], numL n, List.replicate n 0, ho, rfl, numL_len n, by rw [numL_len]; exact Nat.zero_add n, List.Perm.refl _, List.length_replicate, fun h hh => by rw [List.eq_of_mem_replicate hh]; omega, fun j x a b => by
      obtain ⟨k, rfl⟩ : ∃ k, j = k + 1 := ⟨j - 1, by omega⟩
      cases b⟩ ?_
  rintro m e NX ⟨o, ms, left, fs, ho, rfl, rfl, ln, pm, lf, pl, inv⟩ nx
  have nd : (ms ++ left).Nodup := pm.nodup_iff.mpr (numL_nodup n)
  have rg : ∀ z ∈ ms ++ left, 1 ≤ z ∧ z ≤ n := fun z hz => numL_in z (pm.mem_iff.mp hz)
  walk_at "dw"
  refine v_ite (fun h => ?_) (fun h => ?_)
  · rw [List.length_map] at h
    walk_at "dw"
    refine e_draw ho (by rw [List.length_map]; omega) (by rw [List.length_map]; omega) fun r o1 ho1 r0 r1 => ?_
    rw [List.length_map] at r1
    have hr : r.toNat < left.length := by omega
    walk_at "dw"
    refine a_popAt (ds := left.map .int) (j := r.toNat) (d := .int left[r.toNat]) rfl (by omega) (by rw [List.getElem?_map, List.getElem?_eq_getElem hr]; rfl) (by rw [List.length_map]; omega) ?_
    have hb : left[r.toNat] ∈ left := List.getElem_mem hr
    have hbr := rg _ (List.mem_append_right _ hb)
    have nin : left[r.toNat] ∉ ms := fun z => (List.nodup_append.mp nd).2.2 _ z _ hb rfl
    have pe := perm_erase left r.toNat hr
    generalize left[r.toNat] = B at *
    walk_at "dw"
    refine e_draw ho1 (by rw [List.length_map, List.length_cons]; omega) (by rw [List.length_map, List.length_cons]; omega) fun k o2 ho2 k0 k1 => ?_
    rw [List.length_map] at k1
    have hk : k.toNat < (0 :: ms).length := by omega
    walk_at "dw"
    refine a_ixP (d := .int (0 :: ms)[k.toNat]) rfl (atI_of (jj := k.toNat) (by omega) (by rw [List.getElem?_map, List.getElem?_eq_getElem hk]; rfl)) ?_
    have hy : (0 :: ms)[k.toNat]? = some (0 :: ms)[k.toNat] := List.getElem?_eq_getElem hk
    have hyr : 0 ≤ (0 :: ms)[k.toNat] ∧ (0 :: ms)[k.toNat] ≤ n := by
      rcases List.mem_cons.mp (List.getElem_mem hk) with e | hm
      · rw [e]; omega
      · have := rg _ (List.mem_append_left _ hm); omega
    generalize (0 :: ms)[k.toNat] = Y at *
    walk_at "dw"
    refine a_subK (os := (fs.map D.int).map .fr) (jj := (B - 1).toNat) rfl (ixN_of (by omega) (by rw [List.length_map, List.length_map]; omega)) ?_
    walk_at "dw"
    refine a_app (ds := (0 :: ms).map .int) rfl (by rw [List.length_map, List.length_cons]; omega) ?_
    refine nx (left.eraseIdx r.toNat).length _ (by rw [List.length_eraseIdx_of_lt hr]; omega) ⟨o2, ms ++ [B], left.eraseIdx r.toNat, fs.set (B - 1).toNat Y, ho2, ?_, rfl, by rw [List.length_append, List.length_eraseIdx_of_lt hr]; show ms.length + 1 + _ = n; omega, ?_, by rw [List.length_set]; exact lf, fun h hh => ?_, fun j x j1 hx => ?_⟩
    · have e3 : (0 :: (ms ++ [B])).map D.int = (0 :: ms).map D.int ++ [.int B] := by rw [← List.cons_append, List.map_append]; rfl
      rw [map_erase', e3]
      unfold oL
      rw [List.map_set, List.map_set]
      rfl
    · refine List.Perm.trans ?_ pm
      rw [List.append_assoc]
      exact List.Perm.append_left _ pe
    · rcases List.mem_or_eq_of_mem_set hh with hh | e
      · exact pl h hh
      · rw [e]; exact hyr
    · rw [← List.cons_append] at hx
      by_cases hj : j < (0 :: ms).length
      · rw [List.getElem?_append_left hj] at hx
        obtain ⟨a, y', ha, hya, hf⟩ := inv j x j1 hx
        refine ⟨a, y', ha, ?_, ?_⟩
        · rw [← List.cons_append, List.getElem?_append_left (by omega)]
          exact hya
        · have xm : x ∈ ms := by
            obtain ⟨i, rfl⟩ : ∃ i, j = i + 1 := ⟨j - 1, by omega⟩
            rw [List.getElem?_cons_succ] at hx
            exact List.mem_of_getElem? hx
          have xr := rg x (List.mem_append_left _ xm)
          have ne : x ≠ B := fun z => nin (z ▸ xm)
          rw [List.getElem?_set_ne (by omega)]
          exact hf
      · rw [List.getElem?_append_right (by omega)] at hx
        have j0 : j - (0 :: ms).length = 0 := by
          have := (List.getElem?_eq_some_iff.mp hx).1
          rw [List.length_singleton] at this
          omega
        rw [j0] at hx
        have ex : B = x := Option.some.inj hx
        refine ⟨k.toNat, Y, by omega, ?_, ?_⟩
        · rw [← List.cons_append, List.getElem?_append_left hk]
          exact hy
        · rw [← ex, List.getElem?_set_self (by omega)]
  · rw [List.length_map] at h
    have e0 : left = [] := List.eq_nil_of_length_eq_zero (by omega)
    subst e0
    rw [List.append_nil] at nd rg
    walk_at "dw"
    refine q fs o ho lf (tree_of_order (by simpa using ln) nd rg lf h1 h2 pl fun j x j1 jn hx => inv j x j1 hx)
end

/-! ### drawn moves and other things -/
section
theorem all_nil {α : Type} {Q : α → Prop} : ∀ y ∈ ([] : List α), Q y := fun _ h => nomatch h
theorem all_cons {α : Type} {Q : α → Prop} {x : α} {r : List α} (h : Q x) (t : ∀ y ∈ r, Q y) : ∀ y ∈ x :: r, Q y := fun y m => by
  rcases List.mem_cons.mp m with e | m
  · rw [e]; exact h
  · exact t y m
theorem all_app {α : Type} {Q : α → Prop} {l r : List α} (h : ∀ y ∈ l, Q y) (t : ∀ y ∈ r, Q y) : ∀ y ∈ l ++ r, Q y := fun y m => (List.mem_append.mp m).elim (h y) (t y)
variable {c : Cl} {P : O → List O → Prop} {PE : DExc → List O → Prop} {hs ks : List Int} {p b : Int} {K : O → Prop} {d x y t : D} {xs ys : List D} {env : DEnv} {X : DX} {PR : R → DEnv → Prop} {KD : D → DEnv → Prop} {tt : Bool}
theorem a_dct0 (h : PR (.o (.dct tt [])) env) : dDct0 tt env PR X := h
theorem a_forceDct (h : KD (.dct tt []) env) : force (.o (.dct tt [])) env KD := h
def plsL (ks : List Int) (b : Int) : List Int := ((List.range (ks.length + 1)).map fun (k : Nat) => (k : Int)).filter fun z => !decide (z ∈ lben ks b)
theorem plsL_ok {z : Int} (b0 : 1 ≤ b) (b1 : b ≤ ks.length) (h : z ∈ plsL ks b) : okMv ks b z := by
  unfold plsL at h
  obtain ⟨h1, h2⟩ := List.mem_filter.mp h
  obtain ⟨k, hk, rfl⟩ := List.mem_map.mp h1
  have hk := List.mem_range.mp hk
  have h2 : ((k : Int)) ∉ lben ks b := by simpa using h2
  rw [mem_lben (by omega) (by omega) b0] at h2
  exact ⟨⟨b0, b1⟩, ⟨by omega, by omega⟩, fun e => h2 (.inl e), fun e => h2 (.inr e)⟩
theorem plsL_zero (b0 : 1 ≤ b) : (0 : Int) ∈ plsL ks b := by
  unfold plsL
  refine List.mem_filter.mpr ⟨List.mem_map.mpr ⟨0, List.mem_range.mpr (by omega), rfl⟩, ?_⟩
  have : (0 : Int) ∉ lben ks b := by
    rw [mem_lben (by omega) (by omega) b0, wy_zero]
    rintro (h | h)
    · omega
    · cases h
  rw [decide_eq_false this]
  rfl
theorem plsL_len : (plsL ks b).length ≤ ks.length + 1 := by
  unfold plsL
  refine Nat.le_trans (List.length_filter_le _ _) ?_
  rw [List.length_map, List.length_range]
  exact Nat.le_refl _
theorem e_moves {o : O} {n : Nat} (ho : HandOk o) (tr : IsTree hs) (hn : n ≤ 100) (q : ∀ (ms : List (Int × Int)) o', HandOk o' → Vld hs ms → ms.length = n → P (.fr (.tup [.tup (ms.map prD), rowD (mvs hs ms)])) [o']) : D_l_moves c [o, .fr (rowD hs), .fr (.int n)] P PE := by
  refine D_l_moves_in ?_
  unfold B_l_moves
  have l40 := tr.2.1
  have l1 := tr.1
  walk_at "dw"
  refine a_rgb (by omega) ?_
  refine a_forI (fun i e => ∃ (o : O) (ms : List (Int × Int)), HandOk o ∧ ms.length = i ∧ Vld hs ms ∧ e = [S.bo o, .ow (.fr (rowD (mvs hs ms))), .un, .ow (.fr (.tup (ms.map prD))), .ow (.fr (rowD hs)), .un, .un, .un, .un, .un]) ⟨o, [], ho, rfl, trivial, rfl⟩ ?_ ?_
  · rintro i d e NX hd ⟨o, ms, ho, rfl, v, rfl⟩ nx
    obtain ⟨hi, rfl⟩ := rgD_at hd
    have tk := vld_tree ms hs tr v
    have lk := mvs_len ms hs
    have put : ∀ (b z : Int), okMv (mvs hs ms) b z → NX = NX → Vld hs (ms ++ [(b, z)]) ∧ mvs hs (ms ++ [(b, z)]) = (mvs hs ms).set (b.toNat - 1) z := fun b z ok _ => ⟨vld_snoc ms hs (b, z) v ok, mvs_snoc ms hs (b, z)⟩
    generalize mvs hs ms = ks at *
    walk_at "dw"
    refine e_draw ho (by rw [List.length_map]; omega) (by rw [List.length_map]; omega) fun r o1 ho1 r0 r1 => ?_
    rw [List.length_map] at r1
    walk_at "dw"
    refine e_lben tk (by omega) (by omega) ?_
    have b0 : (1 : Int) ≤ 1 + r := by omega
    have b1 : 1 + r ≤ (ks.length : Int) := by omega
    generalize (1 : Int) + r = b at *
    walk_at "dw"
    refine a_rgb (by rw [List.length_map]; omega) ?_
    refine a_lcF (blkF fun z => !decide (z ∈ lben ks b)) (by rw [rgD_len, List.length_map]; omega) (fun k d acc NX hk ha n1 n2 => ?_) ?_
    · obtain ⟨hl, rfl⟩ := rgD_at hk
      refine ⟨by rfl, ?_⟩
      walk_at "dw"
      refine a_inInts ?_
      walk_at "dw"
      refine v_iteB (fun h => ?_) (fun h => ?_)
      · walk_at "dw"
        exact ⟨ha, n1 h⟩
      · exact n2 h
    · rw [filt_blk0, List.length_map, show ((ks.length : Int) + 1).toNat = ks.length + 1 by omega]
      have pz := plsL_zero (ks := ks) (b := b) b0
      have pok : ∀ z ∈ plsL ks b, okMv ks b z := fun z hz => plsL_ok b0 b1 hz
      have pll := plsL_len (ks := ks) (b := b)
      change toO (.o (oL ((plsL ks b).map .int))) _ _
      generalize plsL ks b = pls at *
      have l0 : 0 < pls.length := List.length_pos_of_mem pz
      walk_at "dw"
      refine e_draw ho1 (by rw [List.length_map]; omega) (by rw [List.length_map]; omega) fun r o2 ho2 r0 r1 => ?_
      rw [List.length_map] at r1
      have hr : r.toNat < pls.length := by omega
      walk_at "dw"
      refine a_ixP (d := .int pls[r.toNat]) rfl (atI_of (jj := r.toNat) (by omega) (by rw [List.getElem?_map, List.getElem?_eq_getElem hr]; rfl)) ?_
      have okz := pok _ (List.getElem_mem hr)
      generalize pls[r.toNat] = z at *
      walk_at "dw"
      refine a_cut (fun e => ∃ (o : O) (z : Int), HandOk o ∧ okMv ks b z ∧ e = [S.bo o, .ow (.fr (rowD ks)), .un, .ow (.fr (.tup (ms.map prD))), .ow (.fr (rowD hs)), .un, .ow (.fr (.int b)), .un, .un, .ow (.fr (.int z))]) (fun NX2 nx2 => ?_) ?_
      · walk_at "dw"
        refine e_draw ho2 (by omega) (by omega) fun f o3 ho3 f0 f1 => ?_
        walk_at "dw"
        refine v_ite (fun hf => ?_) (fun hf => ?_)
        · walk_at "dw"
          refine a_ixT (getD (by omega) (by omega)) ?_
          walk_at "dw"
          refine a_inInts ?_
          walk_at "dw"
          refine v_ite (fun hi => ?_) (fun hi => ?_)
          · walk_at "dw"
            refine a_ixT (getD (by omega) (by omega)) ?_
            walk_at "dw"
            exact nx2 _ ⟨_, _, ho3, pok _ hi, rfl⟩
          · walk_at "dw"
            exact nx2 _ ⟨_, _, ho3, okz, rfl⟩
        · walk_at "dw"
          exact nx2 _ ⟨_, _, ho3, okz, rfl⟩
      · clear okz ho2
        clear z o2
        rintro e ⟨o2, z, ho2, okz, rfl⟩
        obtain ⟨v2, e2⟩ := put b z okz rfl
        walk_at "dw"
        refine a_addT (by rw [List.length_map]; show _ + 1 ≤ _; omega) ?_
        walk_at "dw"
        refine e_put b0 b1 (by omega) ?_
        walk_at "dw"
        refine nx _ ⟨o2, ms ++ [(b, z)], ho2, by rw [List.length_append]; rfl, v2, ?_⟩
        rw [e2, List.map_append]
        rfl
  · rw [rgD_len]
    rintro e ⟨o, ms, ho, lm, v, rfl⟩
    walk_at "dw"
    exact q ms o ho v (by omega)
theorem e_deep {k : Int} (k0 : 0 ≤ k) (k1 : k ≤ 2) (q : ∀ d, PlA [c.Tree, c.History] d → d.cl = none → P (.fr d) []) : D_l_deep c [.fr (.int k)] P PE := by
  refine D_l_deep_in ?_
  unfold B_l_deep
  walk_at "dw"
  refine a_rgb (by decide) ?_
  refine a_forI (fun i e => ∃ d, PlA [c.Tree, c.History] d ∧ d.cl = none ∧ e = [S.ow (.fr (.int k)), .ow (.fr d), .un]) ⟨.tup [], .tup0, rfl, rfl⟩ ?_ ?_
  · rintro i d e NX hd ⟨x, px, cx, rfl⟩ nx
    walk_at "dw"
    obtain rfl | rfl | rfl : k = 0 ∨ k = 1 ∨ k = 2 := by omega
    · refine a_ixN (a := dC .non) rfl (atI_of (jj := 0) rfl rfl) ?_
      walk_at "dw"
      exact nx _ ⟨_, .cons (.cons px .tup0) .tup0, rfl, rfl⟩
    · refine a_ixN (a := dC .non) rfl (atI_of (jj := 1) rfl rfl) ?_
      walk_at "dw"
      exact nx _ ⟨_, .lst, rfl, rfl⟩
    · refine a_ixN (a := dC .non) rfl (atI_of (jj := 2) rfl rfl) ?_
      walk_at "dw"
      exact nx _ ⟨_, .cons .str (.cons .lst .tup0), rfl, rfl⟩
  · rintro e ⟨x, px, cx, rfl⟩
    walk_at "dw"
    exact q x px cx
end

section
variable {c : Cl} {P : O → List O → Prop} {PE : DExc → List O → Prop} {hs ks : List Int} {p b : Int} {K : O → Prop} {d x y t : D} {xs ys : List D} {env : DEnv} {X : DX} {PR : R → DEnv → Prop} {KD : D → DEnv → Prop} {tt : Bool} {KR : R → Prop} {z : Int}
/-- an item of a list of things -/
theorem a_ixAny {Q : D → Prop} {m : Int} (z0 : 0 ≤ z) (z1 : z < m) (l : m ≤ xs.length) (h : ∀ x ∈ xs, Q x) (q : ∀ x, Q x → KR (.d x)) : ixR (.d (.lst xs)) z env KR := by
  have hz : z.toNat < xs.length := by omega
  exact a_ixL (atI_of (jj := z.toNat) (by omega) (List.getElem?_eq_getElem hz)) (q _ (h _ (List.getElem_mem hz)))
theorem e_odd {o : O} (ho : HandOk o) (pd : PlA [c.Tree, c.History] d) (q : ∀ (x : D) o', HandOk o' → PlA [c.Tree, c.History] x → x = d ∨ x.cl = none → P (.fr x) [o']) : D_l_odd c [o, .fr d] P PE := by
  refine D_l_odd_in ?_
  unfold B_l_odd
  walk_at "dw"
  refine a_I1 ?_
  walk_at "dw"
  refine a_dct0 (a_forceDct ?_)
  walk_at "dw"
  refine a_I2 (by unfold CPow; decide) ?_
  walk_at "dw"
  have a15 : ∀ x ∈ [D.non, .bl true, .bl false, .int 0, .int (-1), .str "0", .str "", .tup [], .lst [], .dct false [], .tup [.int 0], .tup [.tup [.int 0, .int 1]], .tup [.non], .int (10 ^ (39 : Int).toNat), d], PlA [c.Tree, c.History] x ∧ (x = d ∨ x.cl = none) :=
    all_cons ⟨.non, .inr rfl⟩ (all_cons ⟨.bl, .inr rfl⟩ (all_cons ⟨.bl, .inr rfl⟩ (all_cons ⟨.int, .inr rfl⟩ (all_cons ⟨.int, .inr rfl⟩ (all_cons ⟨.str, .inr rfl⟩ (all_cons ⟨.str, .inr rfl⟩ (all_cons ⟨.tup0, .inr rfl⟩ (all_cons ⟨.lst, .inr rfl⟩ (all_cons ⟨.dct, .inr rfl⟩
      (all_cons ⟨.cons .int .tup0, .inr rfl⟩ (all_cons ⟨.cons (.cons .int (.cons .int .tup0)) .tup0, .inr rfl⟩ (all_cons ⟨.cons .non .tup0, .inr rfl⟩ (all_cons ⟨.int, .inr rfl⟩ (all_cons ⟨pd, .inl rfl⟩ all_nil))))))))))))))
  generalize hL : [D.non, .bl true, .bl false, .int 0, .int (-1), .str "0", .str "", .tup [], .lst [], .dct false [], .tup [.int 0], .tup [.tup [.int 0, .int 1]], .tup [.non], .int (10 ^ (39 : Int).toNat), d] = L at *
  have lL : L.length = 15 := by rw [← hL]; rfl
  walk_at "dw"
  refine e_deep (k := 0) (by decide) (by decide) fun d0 p0 c0 => ?_
  walk_at "dw"
  refine e_deep (k := 1) (by decide) (by decide) fun d1 p1 c1 => ?_
  walk_at "dw"
  refine e_deep (k := 2) (by decide) (by decide) fun d2 p2 c2 => ?_
  walk_at "dw"
  refine a_addL (by rw [lL]; show 15 + 3 ≤ 1000; decide) ?_
  walk_at "dw"
  refine e_draw ho (by decide) (by decide) fun r o1 ho1 r0 r1 => ?_
  walk_at "dw"
  refine a_ixAny r0 r1 (by rw [List.length_append, lL]; show (18 : Int) ≤ ((15 + 3 : Nat) : Int); decide) (all_app a15 (all_cons ⟨p0, .inr c0⟩ (all_cons ⟨p1, .inr c1⟩ (all_cons ⟨p2, .inr c2⟩ all_nil)))) fun x hx => ?_
  walk_at "dw"
  exact q x o1 ho1 hx.1 hx.2
theorem share {A B : Prop} (h : A → B) (a : A) : B := h a
theorem pl_take {Cs : List Addr} {ds : List D} {lo hi : Option Int} (h : ∀ x ∈ ds, PlA Cs x) : ∀ x ∈ cutD ds lo hi, PlA Cs x := fun x m => by
  unfold cutD at m
  exact h x (List.mem_of_mem_drop (List.mem_of_mem_take m))
theorem cut_len {ds : List D} {lo hi : Option Int} : (cutD ds lo hi).length ≤ ds.length := by
  unfold cutD
  refine Nat.le_trans (List.length_take_le' _ _) ?_
  rw [List.length_drop]
  omega
end

section
variable {c : Cl} {P : O → List O → Prop} {PE : DExc → List O → Prop} {hs ks : List Int} {p b : Int} {K : O → Prop} {d x y t : D} {xs ys : List D} {env : DEnv} {X : DX} {PR : R → DEnv → Prop} {KD : D → DEnv → Prop} {tt : Bool} {KR : R → Prop} {z : Int}
theorem e_bent {o : O} {n : Nat} {ms : List (Int × Int)} (ho : HandOk o) (n1 : 1 ≤ n) (n2 : n ≤ 40) (lm : ms.length ≤ 100) (q : ∀ (x : D) o', HandOk o' → PlA [c.Tree, c.History] x → P (.fr x) [o']) : D_l_bent c [o, .fr (.int n), .fr (.tup (ms.map prD)), .fr (treeD c hs)] P PE := by
  refine D_l_bent_in ?_
  unfold B_l_bent
  have pm : ∀ x ∈ ms.map prD, PlA [c.Tree, c.History] x := fun x m => (pl_moves (ms := ms)).item m
  have pmT : PlA [c.Tree, c.History] (.tup (ms.map prD)) := pl_moves
  have lm' : (ms.map prD).length ≤ 100 := by rw [List.length_map]; exact lm
  have at' : ∀ (k : Nat), k < (ms.map prD).length → ∃ b p : Int, (ms.map prD)[k]? = some (.tup [.int b, .int p]) := fun k hk => by
    rw [List.length_map] at hk
    exact ⟨_, _, by rw [List.getElem?_map, List.getElem?_eq_getElem hk]; rfl⟩
  generalize ms.map prD = L at *
  walk_at "dw"
  refine e_draw ho (by decide) (by decide) fun r o1 ho1 r0 r1 => ?_
  walk_at "dw"
  refine share (A := ?A) (fun hA => ?g1) ?g2
  case g1 =>
    refine v_ite (fun h => ?_) (fun h => ?_)
    · refine v_iteT ?_
      exact hA
    · walk_at "dw"
      refine v_ite (fun h2 => ?_) (fun h2 => ?_)
      · exact hA
      · have l0 : 0 < L.length := by omega
        clear hA
        walk_at "dw"
        refine e_draw ho1 (by omega) (by omega) fun a o2 ho2 a0 a1 => ?_
        obtain ⟨b, p, ha⟩ := at' a.toNat (by omega)
        walk_at "dw"
        refine a_ixT (atI_of (jj := a.toNat) (by omega) ha) ?_
        walk_at "dw"
        refine a_cut (fun e => ∃ (o : O) (T : List D), HandOk o ∧ T.length = 4 ∧ (∀ x ∈ T, PlA [c.Tree, c.History] x) ∧ e = [S.bo o, .ow (.fr (.int n)), .ow (.fr (.tup L)), .ow (.fr (treeD c hs)), .un, .ow (.fr (.int a)), .ow (.fr (.int b)), .ow (.fr (.int p)), .ow (oL T), .un]) (fun NX nx => ?_) ?_
        · walk_at "dw"
          refine e_draw ho2 (by omega) (by omega) fun f o3 ho3 f0 f1 => ?_
          walk_at "dw"
          refine e_draw ho3 (by omega) (by omega) fun g o4 ho4 g0 g1 => ?_
          walk_at "dw"
          exact nx _ ⟨_, _, ho4, rfl, all_cons (.cons .int (.cons .int .tup0)) (all_cons (.cons .int (.cons .int .tup0)) (all_cons (.cons .int (.cons .int .tup0)) (all_cons (.cons .int (.cons .int .tup0)) all_nil))), rfl⟩
        clear ho2 o2
        rintro e ⟨o2, T, ho2, lT, pT, rfl⟩
        refine a_cut (fun e => ∃ (o : O) (T : List D), HandOk o ∧ T.length = 11 ∧ (∀ x ∈ T, PlA [c.Tree, c.History] x) ∧ e = [S.bo o, .un, .ow (.fr (.tup L)), .ow (.fr (treeD c hs)), .un, .ow (.fr (.int a)), .ow (.fr (.int b)), .ow (.fr (.int p)), .ow (oL T), .un]) (fun NX nx => ?_) ?_
        · walk_at "dw"
          refine a_I1 ?_
          walk_at "dw"
          refine a_addL (by rw [lT]; show 4 + 7 ≤ 1000; decide) ?_
          walk_at "dw"
          exact nx _ ⟨_, _, ho2, by rw [List.length_append, lT]; rfl, all_app pT (all_cons (.cons .int (.cons .int .tup0)) (all_cons (.cons .int (.cons .int .tup0)) (all_cons (.cons .bl (.cons .int .tup0)) (all_cons (.cons .int (.cons .bl .tup0)) (all_cons .lst (all_cons (.cons .int .tup0) (all_cons .non all_nil))))))), rfl⟩
        clear ho2 pT lT
        clear T o2
        rintro e ⟨o2, T, ho2, lT, pT, rfl⟩
        refine a_cut (fun e => ∃ (o : O) (x : D), HandOk o ∧ PlA [c.Tree, c.History] x ∧ e = [S.bo o, .un, .ow (.fr (.tup L)), .un, .un, .ow (.fr (.int a)), .un, .un, .un, .ow (.fr x)]) (fun NX nx => ?_) ?_
        · walk_at "dw"
          refine e_odd ho2 plTree fun x1 o5 ho5 p1 _ => ?_
          walk_at "dw"
          refine e_odd ho5 plTree fun x2 o6 ho6 p2 _ => ?_
          walk_at "dw"
          refine a_addL (by rw [lT]; show 11 + 4 ≤ 1000; decide) ?_
          walk_at "dw"
          refine e_draw ho6 (by decide) (by decide) fun r o7 ho7 r0 r1 => ?_
          walk_at "dw"
          refine a_ixAny r0 r1 (by rw [List.length_append, lT]; show (15 : Int) ≤ ((11 + 4 : Nat) : Int); decide) (all_app pT (all_cons (.cons .int (.cons .int (.cons .int .tup0))) (all_cons (.cons .int (.cons .str .tup0)) (all_cons p1 (all_cons (.cons p2 (.cons .int .tup0)) all_nil))))) fun x hx => ?_
          walk_at "dw"
          exact nx _ ⟨_, x, ho7, hx, rfl⟩
        clear ho2 pT lT
        clear T o2
        rintro e ⟨o2, x, ho2, hx, rfl⟩
        walk_at "dw"
        have c1 := cut_len (ds := L) (lo := none) (hi := some a)
        refine a_addT (by show _ + 1 ≤ 1000; omega) ?_
        walk_at "dw"
        have c2 := cut_len (ds := L) (lo := some (a + 1)) (hi := none)
        refine a_addT (by rw [List.length_append]; show _ + 1 + _ ≤ 1000; omega) ?_
        walk_at "dw"
        exact q _ o2 ho2 (.tup (all_app (all_app (pl_take pm) (all_cons hx all_nil)) (pl_take pm)))
  case g2 =>
    refine a_kill ?_
    refine a_cut (fun e => ∃ (o : O) (LL : List D), HandOk o ∧ PlA [c.Tree, c.History] (.tup LL) ∧ e = [S.bo o, .un, .ow (.fr (.tup L)), .ow (.fr (treeD c hs)), .ow (.fr (.tup LL)), .un, .un, .un, .un, .un]) (fun NX nx => ?_) ?_
    · walk_at "dw"
      refine e_draw ho1 (by decide) (by decide) fun f o2 ho2 f0 f1 => ?_
      walk_at "dw"
      refine a_mulT ⟨by simp, by omega, by omega, by decide⟩ ?_
      walk_at "dw"
      refine nx _ ⟨_, (List.replicate (100 + f).toNat [D.tup [.int 1, .int 0]]).flatten, ho2, .tup fun x m => ?_, rfl⟩
      obtain ⟨l, hl, hx⟩ := List.mem_flatten.mp m
      rw [List.eq_of_mem_replicate hl] at hx
      rw [List.mem_singleton.mp hx]
      exact .cons .int (.cons .int .tup0)
    clear ho1 o1
    rintro e ⟨o1, LL, ho1, pl, rfl⟩
    walk_at "dw"
    refine a_dct0 (a_forceDct ?_)
    walk_at "dw"
    refine e_odd ho1 plTree fun x1 o3 ho3 p1 _ => ?_
    walk_at "dw"
    refine e_draw ho3 (by decide) (by decide) fun r o7 ho7 r0 r1 => ?_
    walk_at "dw"
    refine a_ixAny r0 r1 (by show (9 : Int) ≤ ((9 : Nat) : Int); decide) (all_cons .lst (all_cons .non (all_cons .str (all_cons (.cons .non .tup0) (all_cons pl (all_cons (.cons pmT .tup0) (all_cons .dct (all_cons plTree (all_cons p1 all_nil))))))))) fun x hx => ?_
    walk_at "dw"
    exact q _ o7 ho7 hx
end

/-! ### the law -/
section
variable {c : Cl} {P : O → List O → Prop} {PE : DExc → List O → Prop} {hs ks : List Int} {d x y t : D} {K : O → Prop}
def lawE (PE : DExc → DEnv → Prop) : DEnds := ⟨fun _ => False, fun r _ => r = .fr (.bl true), fun _ => False, fun _ => False, PE⟩
def isStr : D → Bool
  | .str _ => true
  | _ => false
theorem due_kind {x : D} (h : due hs d = some x) : x = .str "moves" ∨ ∃ k : Nat, x = .int k := by
  unfold due at h
  split at h
  · split at h
    · rename_i xs l
      cases e : dueF hs 0 xs with
      | none => rw [e] at h; cases h
      | some k =>
        rw [e] at h
        cases h
        exact .inr ⟨k, rfl⟩
    · cases h
      exact .inl rfl
  · cases h
    exact .inl rfl
theorem told_kind : (due hs d).getD (.str "let") = .str "let" ∨ (due hs d).getD (.str "let") = .str "moves" ∨ ∃ k : Nat, (due hs d).getD (.str "let") = .int k := by
  cases h : due hs d with
  | none => exact .inl rfl
  | some x =>
    rcases due_kind h with rfl | ⟨k, rfl⟩
    · exact .inr (.inl rfl)
    · exact .inr (.inr ⟨k, rfl⟩)
theorem a_neSame {p : PyData} (e : toPy d = some p) (s : SeqAt.shaped p = true) (r : PyData.eqv p p = true) (q : K (.fr (.bl false))) : dNe d d K := by
  show oth (toPy d) fun a => oth (toPy d) fun b => _
  rw [e]
  refine ⟨s, s, ?_⟩
  rw [r]
  exact q
theorem a_force2 {KD : D → DEnv → Prop} {env : DEnv} {C : Addr} {gs : List (Str × O)} (h : KD (O.ins C gs).frz env) : force (.o (.ins C gs)) env KD := h
theorem a_opF {dr : D → D → (O → Prop) → Prop} {da db : DTE} {env : DEnv} {PR : R → DEnv → Prop} {X : DX} (h : da env (fun r1 env1 => force r1 env1 fun d1 env2 => db env2 (fun r2 env3 => force r2 env3 fun d2 env4 => dr d1 d2 fun o => PR (.o o) env4) X) X) : dOpF dr da db env PR X := h
theorem a_fldN {Cs : List Addr} {fl : Str} {C : Addr} {gs : List (Str × O)} {gd : List (Str × D)} {KR : R → Prop} {env : DEnv} (e : (O.ins C gs).flat = some (.ins C gd)) (hC : C ∈ Cs) (l : gd.lookup fl = some d) (q : KR (.d d)) : fldR Cs fl (.o (.ins C gs)) env KR := by
  unfold fldR
  rw [show peek (.o (.ins C gs)) env = some (.ins C gd) from e]
  show C ∈ Cs ∧ oth (gd.lookup fl) fun d => KR (.d d)
  rw [l]
  exact ⟨hC, q⟩
theorem eqv_str (s : Str) : PyData.eqv (.str s) (.str s) = true := by
  show (s == s) = true
  exact beq_self_eq_true s
theorem boolF {b : Bool} (h : K (.fr (.bl b))) : boolO K false (.fr (.bl b)) := by
  show K (.fr (.bl (if false = true then !b else b)))
  rw [if_neg (by decide)]
  exact h
theorem told_facts : let w := (due hs d).getD (.str "let"); w.kind.isSome = true ∧ isKd w "bool" = false ∧ ∃ p, toPy w = some p ∧ SeqAt.shaped p = true ∧ PyData.eqv p p = true := by
  intro w
  have h : w = .str "let" ∨ w = .str "moves" ∨ ∃ k : Nat, w = .int k := told_kind
  clear_value w
  rcases h with rfl | rfl | ⟨k, rfl⟩
  · exact ⟨rfl, rfl, _, rfl, by decide +kernel, eqv_str _⟩
  · exact ⟨rfl, rfl, _, rfl, by decide +kernel, eqv_str _⟩
  · refine ⟨rfl, rfl, _, rfl, by first | rfl | decide, ?_⟩
    show ((k : Int) == (k : Int)) = true
    exact beq_self_eq_true _
theorem e_law {o : O} {PE : DExc → DEnv → Prop} (ho : HandOk o) : D_law c (lawE PE) (.un :: .ow o :: List.replicate 10 .un) := by
  unfold D_law lawE
  walk_at "dw"
  refine a_rgb (by decide) ?_
  refine a_forI (fun _ e => ∃ o, HandOk o ∧ e = [.un, .ow o, .un, .un, .un, .un, .un, .un, .un, .un, .un, .un]) ⟨o, ho, rfl⟩ ?_ ?_
  · clear ho
    rintro k d e NX hd ⟨o, ho, rfl⟩ nx
    walk_at "dw"
    refine e_draw ho (by decide) (by decide) fun m o1 ho1 m0 m1 => ?_
    obtain ⟨n, en⟩ : ∃ n : Nat, 1 + m = (n : Int) := ⟨(1 + m).toNat, by omega⟩
    walk_at "dw"
    rw [en]
    refine e_tree ho1 (by omega) (by omega) fun hs o2 ho2 lh tr => ?_
    walk_at "dw"
    have l40 := tr.2.1
    refine a_cut (fun e => ∃ (o : O) (ms : List (Int × Int)), HandOk o ∧ Vld hs ms ∧ ms.length ≤ 100 ∧ e = [.un, .ow o, .un, .ow (.fr (.int n)), .ow (.fr (rowD hs)), .ow (.fr (.tup (ms.map prD))), .ow (.fr (rowD (mvs hs ms))), .un, .un, .un, .un, .un]) (fun NX2 nx2 => ?_) ?_
    · walk_at "dw"
      refine e_draw ho2 (by decide) (by decide) fun j o3 ho3 j0 j1 => ?_
      obtain ⟨i, ei⟩ : ∃ i : Nat, j = (i : Int) := ⟨j.toNat, by omega⟩
      subst ei
      walk_at "dw"
      refine e_moves ho3 tr (by omega) fun ms o4 ho4 v lm => ?_
      walk_at "dw"
      exact nx2 _ ⟨o4, ms, ho4, v, by omega, rfl⟩
    clear ho2 ho1 ho
    rintro e ⟨o2, ms, ho2, v, lm, rfl⟩
    have du : due hs (.tup (ms.map prD)) = none := by
      show (if (ms.map prD).length ≤ 100 then _ else _) = _
      rw [List.length_map, if_pos lm, vld_due ms hs 0 v]
      rfl
    have du0 : due hs (.tup []) = none := rfl
    have plM : PlA [c.Tree, c.History] (.tup (ms.map prD)) := pl_moves
    refine a_cut (fun e => e = [.un, .ow o2, .un, .ow (.fr (.int n)), .ow (.fr (rowD hs)), .ow (.fr (.tup (ms.map prD))), .ow (.fr (rowD (mvs hs ms))), .ow (.fr (histD c hs (.tup (ms.map prD)))), .ow (.fr (histD c hs (.tup (ms.map prD)))), .un, .un, .un]) (fun NX2 nx2 => ?_) ?_
    · walk_at "dw"
      refine e_init tr ⟨rfl, a_one ?_⟩
      refine a_force2 ?_
      walk_at "dw"
      refine e_hist tr plM (fun _ => ⟨rfl, a_one ?_⟩) fun x h => absurd h (by rw [du]; simp)
      refine a_force2 ?_
      walk_at "dw"
      refine e_init tr ⟨rfl, a_one ?_⟩
      refine a_force2 ?_
      walk_at "dw"
      refine e_hist tr plM (fun _ => ⟨rfl, a_one ?_⟩) fun x h => absurd h (by rw [du]; simp)
      refine a_force2 ?_
      walk_at "dw"
      exact nx2 _ rfl
    rintro e rfl
    refine a_cut (fun e => e = [.un, .ow o2, .un, .ow (.fr (.int n)), .ow (.fr (rowD hs)), .ow (.fr (.tup (ms.map prD))), .un, .ow (.fr (histD c hs (.tup (ms.map prD)))), .ow (.fr (histD c hs (.tup (ms.map prD)))), .un, .un, .un]) (fun NX2 nx2 => ?_) ?_
    · walk_at "dw"
      refine a_fldD (C := c.History) (gs := [("tree", treeD c hs), ("moves", .tup (ms.map prD))]) List.mem_cons_self rfl ?_
      refine a_fldD (C := c.Tree) (gs := [("hung", rowD hs)]) List.mem_cons_self rfl ?_
      walk_at "dw"
      refine a_neRow ?_
      rw [decide_eq_true rfl]
      walk_at "dw"
      refine a_fldD (C := c.History) (gs := [("tree", treeD c hs), ("moves", .tup (ms.map prD))]) List.mem_cons_self rfl ?_
      walk_at "dw"
      refine a_nePrs ?_
      rw [decide_eq_true rfl]
      walk_at "dw"
      refine e_now tr v lm ?_
      walk_at "dw"
      refine a_fldN rfl List.mem_cons_self rfl ?_
      walk_at "dw"
      refine a_neRow ?_
      rw [decide_eq_true rfl]
      walk_at "dw"
      refine a_opF ?_
      walk_at "dw"
      refine ⟨rfl, .inr rfl, e_histEq l40 ?_⟩
      rw [decide_eq_true rfl]
      show asB (R.o (.fr (.bl true))) _ _
      walk_at "dw"
      exact nx2 _ rfl
    rintro e rfl
    refine a_cut (fun e => e = [.un, .ow o2, .un, .ow (.fr (.int n)), .ow (.fr (rowD hs)), .ow (.fr (.tup (ms.map prD))), .un, .un, .un, .un, .un, .un]) (fun NX2 nx2 => ?_) ?_
    · walk_at "dw"
      refine a_opF ?_
      walk_at "dw"
      refine ⟨rfl, rfl, e_histEq l40 ?_⟩
      rw [decide_eq_true rfl]
      show asB (R.o (.fr (.bl false))) _ _
      walk_at "dw"
      refine a_opF ?_
      walk_at "dw"
      refine ⟨rfl, .inl rfl, e_histNe plM (fun z => nomatch z) ?_⟩
      show asB (R.o (.fr (.bl false))) _ _
      walk_at "dw"
      refine a_opF ?_
      walk_at "dw"
      refine e_init tr ⟨rfl, a_one ?_⟩
      refine a_force2 ?_
      walk_at "dw"
      refine ⟨rfl, .inl rfl, e_histNe (.cons plTree (.cons plM .tup0)) (fun z => nomatch z) ?_⟩
      show asB (R.o (.fr (.bl false))) _ _
      walk_at "dw"
      refine a_opF ?_
      walk_at "dw"
      refine e_init tr ⟨rfl, a_one ?_⟩
      refine a_force2 ?_
      walk_at "dw"
      refine e_hist tr .tup0 (fun _ => ⟨rfl, a_one ?_⟩) fun x h => absurd h (by rw [du0]; simp)
      refine a_force2 ?_
      refine ⟨rfl, .inr rfl, e_histEq (ns := []) l40 ?_⟩
      refine boolF ?_
      walk_at "dw"
      refine a_eqPrs (qs := []) ?_
      walk_at "dw"
      rw [decide_eq_true rfl]
      walk_at "dw"
      exact nx2 _ rfl
    rintro e rfl
    refine a_cut (fun e => ∃ (o : O) (x : D), HandOk o ∧ PlA [c.Tree, c.History] x ∧ e = [.un, .ow o, .un, .un, .ow (.fr (rowD hs)), .un, .un, .un, .un, .ow (.fr x), .un, .un]) (fun NX2 nx2 => ?_) ?_
    · walk_at "dw"
      refine e_init tr ⟨rfl, a_one ?_⟩
      refine a_force2 ?_
      walk_at "dw"
      refine e_bent ho2 (by omega) (by omega) lm fun x o3 ho3 px => ?_
      walk_at "dw"
      exact nx2 _ ⟨o3, x, ho3, px, rfl⟩
    clear ho2
    rintro e ⟨o2, x, ho2, px, rfl⟩
    refine a_cut (fun e => e = [.un, .ow o2, .un, .un, .ow (.fr (rowD hs)), .un, .un, .un, .un, .ow (.fr x), .ow (.fr ((due hs x).getD (.str "let"))), .ow (.fr ((due hs x).getD (.str "let")))]) (fun NX2 nx2 => ?_) ?_
    · walk_at "dw"
      refine e_due tr px ?_
      walk_at "dw"
      refine e_init tr ⟨rfl, a_one ?_⟩
      refine a_force2 ?_
      walk_at "dw"
      refine e_answer tr px ?_
      walk_at "dw"
      exact nx2 _ rfl
    rintro e rfl
    refine a_cut (fun e => e = [.un, .ow o2, .un, .un, .ow (.fr (rowD hs)), .un, .un, .un, .un, .ow (.fr x), .un, .un]) (fun NX2 nx2 => ?_) ?_
    · obtain ⟨k1, k2, p, t1, t2, t3⟩ := told_facts (hs := hs) (d := x)
      generalize (due hs x).getD (.str "let") = w at *
      have pw : PlainD [c.Tree, c.History] w := .inl k1
      walk_at "dw"
      refine e_isi pw (.inr (.inr (.inr (.inr (.inr rfl))))) ?_
      walk_at "dw"
      refine e_isi pw (.inr (.inr (.inr (.inr (.inr rfl))))) ?_
      walk_at "dw"
      rw [decide_eq_true rfl]
      walk_at "dw"
      refine e_isi pw (.inr (.inl rfl)) ?_
      rw [k2]
      walk_at "dw"
      refine a_neSame t1 t2 t3 ?_
      walk_at "dw"
      exact nx2 _ rfl
    rintro e rfl
    walk_at "dw"
    refine e_odd ho2 .ints fun x1 o3 ho3 p1 h1 => ?_
    have c1 : x1.cl = none := h1.elim (fun e => by rw [e]; rfl) id
    walk_at "dw"
    refine e_draw ho3 (by decide) (by decide) fun r o4 ho4 r0 r1 => ?_
    walk_at "dw"
    refine a_ixAny (Q := fun x => PlA [c.Tree, c.History] x ∧ x.cl = none) r0 r1 (by show (4 : Int) ≤ ((4 : Nat) : Int); decide) (all_cons ⟨.ints, rfl⟩ (all_cons ⟨.non, rfl⟩ (all_cons ⟨.lst, rfl⟩ (all_cons ⟨p1, c1⟩ all_nil)))) fun y hy => ?_
    walk_at "dw"
    refine e_answerNo hy.1 (by rw [hy.2]; exact fun z => nomatch z) ?_
    walk_at "dw"
    refine a_neSame (p := .str "tree") rfl (by decide +kernel) (eqv_str _) ?_
    walk_at "dw"
    exact nx _ ⟨o4, ho4, rfl⟩
  · rintro e ⟨o, ho, rfl⟩
    walk_at "dw"
end

theorem pure_law {K : PySem.W.Frag} {c : Cl} {vs : List V} {H : Hp} {Q : VK} {E : XK} (fa : Fa K c) (h : spLaw K vs H Q E) : u_law K c { nx := fun _ H' => Q .non H', rt := Q } (L2.start ["_law_script", "_law_hand_here", "_law_turn", "_law_many", "_law_hung", "_law_moves_here", "_law_last", "_law_made", "_law_again", "_law_thing", "_law_due_here", "_law_told"] vs) H :=
  law_ok (WO := fun _ _ _ _ => False) (n := 10) (N := ["_law_script", "_law_hand_here", "_law_turn", "_law_many", "_law_hung", "_law_moves_here", "_law_last", "_law_made", "_law_again", "_law_thing", "_law_due_here", "_law_told"]) rfl (sim_law fa) (fun o ho => e_law ho) h

def topS (i : Nat) : Stmt := PySem.Challenge.pw_foldervotes_k34_histories_judged.main.body.getD i (.Pass ⟨0, 0, 0, 0⟩)
abbrev s_BadTree_init : Stmt := (inClass (topS 2) 0)
abbrev N_BadTree_init : List Str := ["self", "part"]
theorem sc_BadTree_init : FnScope N_BadTree_init ["self", "part"] (defScope s_BadTree_init) := ⟨rfl, rfl, rfl, by decide +kernel, rfl, by decide +kernel, by decide +kernel⟩
abbrev s_BadHistory_init : Stmt := (inClass (topS 3) 0)
abbrev N_BadHistory_init : List Str := ["self", "part"]
theorem sc_BadHistory_init : FnScope N_BadHistory_init ["self", "part"] (defScope s_BadHistory_init) := ⟨rfl, rfl, rfl, by decide +kernel, rfl, by decide +kernel, by decide +kernel⟩
abbrev s_is_integer : Stmt := (topS 6)
abbrev N_is_integer : List Str := ["thing"]
theorem sc_is_integer : FnScope N_is_integer ["thing"] (defScope s_is_integer) := ⟨rfl, rfl, rfl, by decide +kernel, rfl, by decide +kernel, by decide +kernel⟩
abbrev s_is_within : Stmt := (topS 7)
abbrev N_is_within : List Str := ["thing", "least", "most"]
theorem sc_is_within : FnScope N_is_within ["thing", "least", "most"] (defScope s_is_within) := ⟨rfl, rfl, rfl, by decide +kernel, rfl, by decide +kernel, by decide +kernel⟩
abbrev s_is_pair : Stmt := (topS 8)
abbrev N_is_pair : List Str := ["thing"]
theorem sc_is_pair : FnScope N_is_pair ["thing"] (defScope s_is_pair) := ⟨rfl, rfl, rfl, by decide +kernel, rfl, by decide +kernel, by decide +kernel⟩
abbrev s_leads_home : Stmt := (topS 11)
abbrev N_leads_home : List Str := ["hung", "block", "here", "turn"]
theorem sc_leads_home : FnScope N_leads_home ["hung", "block"] (defScope s_leads_home) := ⟨rfl, rfl, rfl, by decide +kernel, rfl, by decide +kernel, by decide +kernel⟩
abbrev s_Tree_init : Stmt := (inClass (topS 12) 0)
abbrev N_Tree_init : List Str := ["self", "hung", "block"]
theorem sc_Tree_init : FnScope N_Tree_init ["self", "hung"] (defScope s_Tree_init) := ⟨rfl, rfl, rfl, by decide +kernel, rfl, by decide +kernel, by decide +kernel⟩
abbrev s_Tree_eq : Stmt := (inClass (topS 12) 1)
abbrev N_Tree_eq : List Str := ["self", "other"]
theorem sc_Tree_eq : FnScope N_Tree_eq ["self", "other"] (defScope s_Tree_eq) := ⟨rfl, rfl, rfl, by decide +kernel, rfl, by decide +kernel, by decide +kernel⟩
abbrev s_hanging : Stmt := (topS 13)
abbrev N_hanging : List Str := ["hung", "place", "block"]
theorem sc_hanging : FnScope N_hanging ["hung", "place"] (defScope s_hanging) := ⟨rfl, rfl, rfl, by decide +kernel, rfl, by decide +kernel, by decide +kernel⟩
abbrev s_beneath_in : Stmt := (topS 14)
abbrev N_beneath_in : List Str := ["hung", "place", "found", "waiting", "more"]
theorem sc_beneath_in : FnScope N_beneath_in ["hung", "place"] (defScope s_beneath_in) := ⟨rfl, rfl, rfl, by decide +kernel, rfl, by decide +kernel, by decide +kernel⟩
abbrev s_with_place : Stmt := (topS 15)
abbrev N_with_place : List Str := ["hung", "block", "place"]
theorem sc_with_place : FnScope N_with_place ["hung", "block", "place"] (defScope s_with_place) := ⟨rfl, rfl, rfl, by decide +kernel, rfl, by decide +kernel, by decide +kernel⟩
abbrev s_is_move : Stmt := (topS 18)
abbrev N_is_move : List Str := ["hung", "thing"]
theorem sc_is_move : FnScope N_is_move ["hung", "thing"] (defScope s_is_move) := ⟨rfl, rfl, rfl, by decide +kernel, rfl, by decide +kernel, by decide +kernel⟩
abbrev s_trees_along : Stmt := (topS 19)
abbrev N_trees_along : List Str := ["hung", "moves", "found", "block", "place"]
theorem sc_trees_along : FnScope N_trees_along ["hung", "moves"] (defScope s_trees_along) := ⟨rfl, rfl, rfl, by decide +kernel, rfl, by decide +kernel, by decide +kernel⟩
abbrev s_History_init : Stmt := (inClass (topS 20) 0)
abbrev N_History_init : List Str := ["self", "tree", "moves", "hung", "index", "move"]
theorem sc_History_init : FnScope N_History_init ["self", "tree", "moves"] (defScope s_History_init) := ⟨rfl, rfl, rfl, by decide +kernel, rfl, by decide +kernel, by decide +kernel⟩
abbrev s_History_eq : Stmt := (inClass (topS 20) 1)
abbrev N_History_eq : List Str := ["self", "other"]
theorem sc_History_eq : FnScope N_History_eq ["self", "other"] (defScope s_History_eq) := ⟨rfl, rfl, rfl, by decide +kernel, rfl, by decide +kernel, by decide +kernel⟩
abbrev s_now : Stmt := (topS 21)
abbrev N_now : List Str := ["history"]
theorem sc_now : FnScope N_now ["history"] (defScope s_now) := ⟨rfl, rfl, rfl, by decide +kernel, rfl, by decide +kernel, by decide +kernel⟩
abbrev s_l_hand : Stmt := (topS 23)
abbrev N_l_hand : List Str := ["_law_script", "_law_cells", "_law_cell"]
theorem sc_l_hand : FnScope N_l_hand ["_law_script"] (defScope s_l_hand) := ⟨rfl, rfl, rfl, by decide +kernel, rfl, by decide +kernel, by decide +kernel⟩
abbrev s_l_draw : Stmt := (topS 24)
abbrev N_l_draw : List Str := ["_law_hand_here", "_law_many", "_law_cell", "_law_digit", "_law_number"]
theorem sc_l_draw : FnScope N_l_draw ["_law_hand_here", "_law_many"] (defScope s_l_draw) := ⟨rfl, rfl, rfl, by decide +kernel, rfl, by decide +kernel, by decide +kernel⟩
abbrev s_l_tree : Stmt := (topS 25)
abbrev N_l_tree : List Str := ["_law_hand_here", "_law_many", "_law_left", "_law_places", "_law_found", "_law_block"]
theorem sc_l_tree : FnScope N_l_tree ["_law_hand_here", "_law_many"] (defScope s_l_tree) := ⟨rfl, rfl, rfl, by decide +kernel, rfl, by decide +kernel, by decide +kernel⟩
abbrev s_l_row : Stmt := (topS 26)
abbrev N_l_row : List Str := ["_law_hung", "_law_place", "_law_found", "_law_here"]
theorem sc_l_row : FnScope N_l_row ["_law_hung", "_law_place"] (defScope s_l_row) := ⟨rfl, rfl, rfl, by decide +kernel, rfl, by decide +kernel, by decide +kernel⟩
abbrev s_l_beneath : Stmt := (topS 29)
abbrev N_l_beneath : List Str := ["_law_hung", "_law_place", "_law_block"]
theorem sc_l_beneath : FnScope N_l_beneath ["_law_hung", "_law_place"] (defScope s_l_beneath) := ⟨rfl, rfl, rfl, by decide +kernel, rfl, by decide +kernel, by decide +kernel⟩
abbrev s_l_put : Stmt := (topS 30)
abbrev N_l_put : List Str := ["_law_hung", "_law_block", "_law_place"]
theorem sc_l_put : FnScope N_l_put ["_law_hung", "_law_block", "_law_place"] (defScope s_l_put) := ⟨rfl, rfl, rfl, by decide +kernel, rfl, by decide +kernel, by decide +kernel⟩
abbrev s_l_moves : Stmt := (topS 31)
abbrev N_l_moves : List Str := ["_law_hand_here", "_law_hung", "_law_many", "_law_moves_here", "_law_elder", "_law_turn", "_law_block", "_law_inner", "_law_places", "_law_place"]
theorem sc_l_moves : FnScope N_l_moves ["_law_hand_here", "_law_hung", "_law_many"] (defScope s_l_moves) := ⟨rfl, rfl, rfl, by decide +kernel, rfl, by decide +kernel, by decide +kernel⟩
abbrev s_l_deep : Stmt := (topS 34)
abbrev N_l_deep : List Str := ["_law_kind", "_law_thing", "_law_turn"]
theorem sc_l_deep : FnScope N_l_deep ["_law_kind"] (defScope s_l_deep) := ⟨rfl, rfl, rfl, by decide +kernel, rfl, by decide +kernel, by decide +kernel⟩
abbrev s_l_odd : Stmt := (topS 35)
abbrev N_l_odd : List Str := ["_law_hand_here", "_law_thing", "_law_odd_here"]
theorem sc_l_odd : FnScope N_l_odd ["_law_hand_here", "_law_thing"] (defScope s_l_odd) := ⟨rfl, rfl, rfl, by decide +kernel, rfl, by decide +kernel, by decide +kernel⟩
abbrev s_l_is_whole : Stmt := (topS 36)
abbrev N_l_is_whole : List Str := ["_law_thing", "_law_least", "_law_most"]
theorem sc_l_is_whole : FnScope N_l_is_whole ["_law_thing", "_law_least", "_law_most"] (defScope s_l_is_whole) := ⟨rfl, rfl, rfl, by decide +kernel, rfl, by decide +kernel, by decide +kernel⟩
abbrev s_l_due : Stmt := (topS 37)
abbrev N_l_due : List Str := ["_law_hung", "_law_moves_here", "_law_index", "_law_move"]
theorem sc_l_due : FnScope N_l_due ["_law_hung", "_law_moves_here"] (defScope s_l_due) := ⟨rfl, rfl, rfl, by decide +kernel, rfl, by decide +kernel, by decide +kernel⟩
abbrev s_l_answer : Stmt := (topS 38)
abbrev N_l_answer : List Str := ["_law_tree_here", "_law_moves_here", "_law_word", "e"]
theorem sc_l_answer : FnScope N_l_answer ["_law_tree_here", "_law_moves_here"] (defScope s_l_answer) := ⟨rfl, rfl, rfl, by decide +kernel, rfl, by decide +kernel, by decide +kernel⟩
abbrev s_l_bent : Stmt := (topS 39)
abbrev N_l_bent : List Str := ["_law_hand_here", "_law_many", "_law_moves_here", "_law_tree_here", "_law_long", "_law_at", "_law_block", "_law_place", "_law_things", "_law_new"]
theorem sc_l_bent : FnScope N_l_bent ["_law_hand_here", "_law_many", "_law_moves_here", "_law_tree_here"] (defScope s_l_bent) := ⟨rfl, rfl, rfl, by decide +kernel, rfl, by decide +kernel, by decide +kernel⟩
abbrev s_law : Stmt := (topS 40)
abbrev N_law : List Str := ["_law_script", "_law_hand_here", "_law_turn", "_law_many", "_law_hung", "_law_moves_here", "_law_last", "_law_made", "_law_again", "_law_thing", "_law_due_here", "_law_told"]
theorem sc_law : FnScope N_law ["_law_script"] (defScope s_law) := ⟨rfl, rfl, rfl, by decide +kernel, rfl, by decide +kernel, by decide +kernel⟩
structure Txt (K : PySem.W.Frag) (mg : Str → Option Value) where
  z_abs : mg "abs" = none
  z_bool : mg "bool" = none
  z_enumerate : mg "enumerate" = none
  z_int : mg "int" = none
  z_isinstance : mg "isinstance" = none
  z_len : mg "len" = none
  z_list : mg "list" = none
  z_range : mg "range" = none
  z_sorted : mg "sorted" = none
  z_str : mg "str" = none
  z_tuple : mg "tuple" = none
  k_HEAD : Tok
  c_HEAD : mg "HEAD" = some (.int 0 k_HEAD)
  k_MOST_BLOCKS : Tok
  c_MOST_BLOCKS : mg "MOST_BLOCKS" = some (.int 40 k_MOST_BLOCKS)
  k_MOST_MOVES : Tok
  c_MOST_MOVES : mg "MOST_MOVES" = some (.int 100 k_MOST_MOVES)
  C_Tree : Addr
  g_Tree : mg "Tree" = some (.ref C_Tree)
  C_History : Addr
  g_History : mg "History" = some (.ref C_History)
  C_BadTree : Addr
  g_BadTree : mg "BadTree" = some (.ref C_BadTree)
  C_BadHistory : Addr
  g_BadHistory : mg "BadHistory" = some (.ref C_BadHistory)
  f_BadTree_init : Addr
  fd_BadTree_init : FuncData
  F_BadTree_init : Fun K "__init__" "BadTree.__init__" s_BadTree_init f_BadTree_init fd_BadTree_init
  b_BadTree_init : Binds K fd_BadTree_init ["self", "part"] []
  f_BadHistory_init : Addr
  fd_BadHistory_init : FuncData
  F_BadHistory_init : Fun K "__init__" "BadHistory.__init__" s_BadHistory_init f_BadHistory_init fd_BadHistory_init
  b_BadHistory_init : Binds K fd_BadHistory_init ["self", "part"] []
  f_is_integer : Addr
  fd_is_integer : FuncData
  F_is_integer : Fun K "is_integer" "is_integer" s_is_integer f_is_integer fd_is_integer
  b_is_integer : Binds K fd_is_integer ["thing"] []
  g_is_integer : mg "is_integer" = some (.ref f_is_integer)
  f_is_within : Addr
  fd_is_within : FuncData
  F_is_within : Fun K "is_within" "is_within" s_is_within f_is_within fd_is_within
  b_is_within : Binds K fd_is_within ["thing", "least", "most"] []
  g_is_within : mg "is_within" = some (.ref f_is_within)
  f_is_pair : Addr
  fd_is_pair : FuncData
  F_is_pair : Fun K "is_pair" "is_pair" s_is_pair f_is_pair fd_is_pair
  b_is_pair : Binds K fd_is_pair ["thing"] []
  g_is_pair : mg "is_pair" = some (.ref f_is_pair)
  f_leads_home : Addr
  fd_leads_home : FuncData
  F_leads_home : Fun K "leads_home" "leads_home" s_leads_home f_leads_home fd_leads_home
  b_leads_home : Binds K fd_leads_home ["hung", "block"] []
  g_leads_home : mg "leads_home" = some (.ref f_leads_home)
  f_Tree_init : Addr
  fd_Tree_init : FuncData
  F_Tree_init : Fun K "__init__" "Tree.__init__" s_Tree_init f_Tree_init fd_Tree_init
  b_Tree_init : Binds K fd_Tree_init ["self", "hung"] []
  f_Tree_eq : Addr
  fd_Tree_eq : FuncData
  F_Tree_eq : Fun K "__eq__" "Tree.__eq__" s_Tree_eq f_Tree_eq fd_Tree_eq
  b_Tree_eq : Binds K fd_Tree_eq ["self", "other"] []
  f_hanging : Addr
  fd_hanging : FuncData
  F_hanging : Fun K "hanging" "hanging" s_hanging f_hanging fd_hanging
  b_hanging : Binds K fd_hanging ["hung", "place"] []
  g_hanging : mg "hanging" = some (.ref f_hanging)
  f_beneath_in : Addr
  fd_beneath_in : FuncData
  F_beneath_in : Fun K "beneath_in" "beneath_in" s_beneath_in f_beneath_in fd_beneath_in
  b_beneath_in : Binds K fd_beneath_in ["hung", "place"] []
  g_beneath_in : mg "beneath_in" = some (.ref f_beneath_in)
  f_with_place : Addr
  fd_with_place : FuncData
  F_with_place : Fun K "with_place" "with_place" s_with_place f_with_place fd_with_place
  b_with_place : Binds K fd_with_place ["hung", "block", "place"] []
  g_with_place : mg "with_place" = some (.ref f_with_place)
  f_is_move : Addr
  fd_is_move : FuncData
  F_is_move : Fun K "is_move" "is_move" s_is_move f_is_move fd_is_move
  b_is_move : Binds K fd_is_move ["hung", "thing"] []
  g_is_move : mg "is_move" = some (.ref f_is_move)
  f_trees_along : Addr
  fd_trees_along : FuncData
  F_trees_along : Fun K "trees_along" "trees_along" s_trees_along f_trees_along fd_trees_along
  b_trees_along : Binds K fd_trees_along ["hung", "moves"] []
  g_trees_along : mg "trees_along" = some (.ref f_trees_along)
  f_History_init : Addr
  fd_History_init : FuncData
  F_History_init : Fun K "__init__" "History.__init__" s_History_init f_History_init fd_History_init
  b_History_init : Binds K fd_History_init ["self", "tree", "moves"] []
  f_History_eq : Addr
  fd_History_eq : FuncData
  F_History_eq : Fun K "__eq__" "History.__eq__" s_History_eq f_History_eq fd_History_eq
  b_History_eq : Binds K fd_History_eq ["self", "other"] []
  f_now : Addr
  fd_now : FuncData
  F_now : Fun K "now" "now" s_now f_now fd_now
  b_now : Binds K fd_now ["history"] []
  g_now : mg "now" = some (.ref f_now)
  f_l_hand : Addr
  fd_l_hand : FuncData
  F_l_hand : Fun K "_law_hand" "_law_hand" s_l_hand f_l_hand fd_l_hand
  b_l_hand : Binds K fd_l_hand ["_law_script"] []
  g_l_hand : mg "_law_hand" = some (.ref f_l_hand)
  f_l_draw : Addr
  fd_l_draw : FuncData
  F_l_draw : Fun K "_law_draw" "_law_draw" s_l_draw f_l_draw fd_l_draw
  b_l_draw : Binds K fd_l_draw ["_law_hand_here", "_law_many"] []
  g_l_draw : mg "_law_draw" = some (.ref f_l_draw)
  f_l_tree : Addr
  fd_l_tree : FuncData
  F_l_tree : Fun K "_law_tree" "_law_tree" s_l_tree f_l_tree fd_l_tree
  b_l_tree : Binds K fd_l_tree ["_law_hand_here", "_law_many"] []
  g_l_tree : mg "_law_tree" = some (.ref f_l_tree)
  f_l_row : Addr
  fd_l_row : FuncData
  F_l_row : Fun K "_law_row" "_law_row" s_l_row f_l_row fd_l_row
  b_l_row : Binds K fd_l_row ["_law_hung", "_law_place"] []
  g_l_row : mg "_law_row" = some (.ref f_l_row)
  f_l_beneath : Addr
  fd_l_beneath : FuncData
  F_l_beneath : Fun K "_law_beneath" "_law_beneath" s_l_beneath f_l_beneath fd_l_beneath
  b_l_beneath : Binds K fd_l_beneath ["_law_hung", "_law_place"] []
  g_l_beneath : mg "_law_beneath" = some (.ref f_l_beneath)
  f_l_put : Addr
  fd_l_put : FuncData
  F_l_put : Fun K "_law_put" "_law_put" s_l_put f_l_put fd_l_put
  b_l_put : Binds K fd_l_put ["_law_hung", "_law_block", "_law_place"] []
  g_l_put : mg "_law_put" = some (.ref f_l_put)
  f_l_moves : Addr
  fd_l_moves : FuncData
  F_l_moves : Fun K "_law_moves" "_law_moves" s_l_moves f_l_moves fd_l_moves
  b_l_moves : Binds K fd_l_moves ["_law_hand_here", "_law_hung", "_law_many"] []
  g_l_moves : mg "_law_moves" = some (.ref f_l_moves)
  f_l_deep : Addr
  fd_l_deep : FuncData
  F_l_deep : Fun K "_law_deep" "_law_deep" s_l_deep f_l_deep fd_l_deep
  b_l_deep : Binds K fd_l_deep ["_law_kind"] []
  g_l_deep : mg "_law_deep" = some (.ref f_l_deep)
  f_l_odd : Addr
  fd_l_odd : FuncData
  F_l_odd : Fun K "_law_odd" "_law_odd" s_l_odd f_l_odd fd_l_odd
  b_l_odd : Binds K fd_l_odd ["_law_hand_here", "_law_thing"] []
  g_l_odd : mg "_law_odd" = some (.ref f_l_odd)
  f_l_is_whole : Addr
  fd_l_is_whole : FuncData
  F_l_is_whole : Fun K "_law_is_whole" "_law_is_whole" s_l_is_whole f_l_is_whole fd_l_is_whole
  b_l_is_whole : Binds K fd_l_is_whole ["_law_thing", "_law_least", "_law_most"] []
  g_l_is_whole : mg "_law_is_whole" = some (.ref f_l_is_whole)
  f_l_due : Addr
  fd_l_due : FuncData
  F_l_due : Fun K "_law_due" "_law_due" s_l_due f_l_due fd_l_due
  b_l_due : Binds K fd_l_due ["_law_hung", "_law_moves_here"] []
  g_l_due : mg "_law_due" = some (.ref f_l_due)
  f_l_answer : Addr
  fd_l_answer : FuncData
  F_l_answer : Fun K "_law_answer" "_law_answer" s_l_answer f_l_answer fd_l_answer
  b_l_answer : Binds K fd_l_answer ["_law_tree_here", "_law_moves_here"] []
  g_l_answer : mg "_law_answer" = some (.ref f_l_answer)
  f_l_bent : Addr
  fd_l_bent : FuncData
  F_l_bent : Fun K "_law_bent" "_law_bent" s_l_bent f_l_bent fd_l_bent
  b_l_bent : Binds K fd_l_bent ["_law_hand_here", "_law_many", "_law_moves_here", "_law_tree_here"] []
  g_l_bent : mg "_law_bent" = some (.ref f_l_bent)
  f_law : Addr
  fd_law : FuncData
  F_law : Fun K "law" "law" s_law f_law fd_law
  b_law : Binds K fd_law ["_law_script"] []
  g_law : mg "law" = some (.ref f_law)
  M_Tree : Mk K C_Tree f_Tree_init
  o_Tree : OwnC K C_Tree
  nf_Tree_hung : NoAttr K C_Tree "hung"
  kf_Tree : ∀ T, okTy T → PySem.W.kitOne K (.ref C_Tree) (.type T) = some false
  e_Tree : PySem.W.findIn K (.ref C_Tree) "__eq__" = some (some (.ref f_Tree_eq))
  ef_Tree : PySem.W.isFn K (.ref f_Tree_eq) = true
  M_History : Mk K C_History f_History_init
  o_History : OwnC K C_History
  nf_History_tree : NoAttr K C_History "tree"
  nf_History_moves : NoAttr K C_History "moves"
  kf_History : ∀ T, okTy T → PySem.W.kitOne K (.ref C_History) (.type T) = some false
  e_History : PySem.W.findIn K (.ref C_History) "__eq__" = some (some (.ref f_History_eq))
  ef_History : PySem.W.isFn K (.ref f_History_eq) = true
  ne_History : NeC K C_History f_History_eq
  xc_BadTree : XCls K C_BadTree
  te_BadTree : PySem.W.exmOne K (.ref C_BadTree) (.ref C_BadTree) = some true
  X_BadTree : OexC K C_BadTree
  i_BadTree : PySem.W.findIn K (.ref C_BadTree) "__init__" = some (some (.ref f_BadTree_init))
  ti_BadTree : PySem.W.typeIn K (.ref f_BadTree_init) = some (.type "function")
  nf_BadTree_part : PySem.W.findIn K (.ref C_BadTree) "part" = some none
  xc_BadHistory : XCls K C_BadHistory
  te_BadHistory : PySem.W.exmOne K (.ref C_BadHistory) (.ref C_BadHistory) = some true
  X_BadHistory : OexC K C_BadHistory
  i_BadHistory : PySem.W.findIn K (.ref C_BadHistory) "__init__" = some (some (.ref f_BadHistory_init))
  ti_BadHistory : PySem.W.typeIn K (.ref f_BadHistory_init) = some (.type "function")
  nf_BadHistory_part : PySem.W.findIn K (.ref C_BadHistory) "part" = some none
  kn_Tree_History : PySem.W.kitOne K (.ref C_Tree) (.ref C_History) = some false
  kn_History_Tree : PySem.W.kitOne K (.ref C_History) (.ref C_Tree) = some false
section
variable {P : Program} {w : World} {K : PySem.W.Frag} {mg : Str → Option Value} {base : Heap}
abbrev Txt.cl {K : PySem.W.Frag} {mg : Str → Option Value} (T : Txt K mg) : Cl := ⟨T.C_Tree, T.C_History, T.C_BadTree, T.C_BadHistory⟩
theorem ok_BadTree_init (T : Txt K mg)  : FnOk P w K mg base CX0 1 T.f_BadTree_init T.fd_BadTree_init ["self", "part"] (spX1 T.C_BadTree "part") := by
  refine T.F_BadTree_init.ok sc_BadTree_init (fun vs H Q E h => len_x1 h) (fun cdv A outer s H vs Q E hr h => ?_)
  have nd := sc_BadTree_init.nd
  exact ⟨tOst K "part" (tVar 0) (tVar 1), (pss_one (ps_ost (pv 0) (pv 1))), pure_x1 T.X_BadTree T.nf_BadTree_part h rfl⟩
theorem ok_BadHistory_init (T : Txt K mg)  : FnOk P w K mg base CX0 1 T.f_BadHistory_init T.fd_BadHistory_init ["self", "part"] (spX1 T.C_BadHistory "part") := by
  refine T.F_BadHistory_init.ok sc_BadHistory_init (fun vs H Q E h => len_x1 h) (fun cdv A outer s H vs Q E hr h => ?_)
  have nd := sc_BadHistory_init.nd
  exact ⟨tOst K "part" (tVar 0) (tVar 1), (pss_one (ps_ost (pv 0) (pv 1))), pure_x1 T.X_BadHistory T.nf_BadHistory_part h rfl⟩
theorem ok_is_integer (T : Txt K mg) (fa : Fa K T.cl)  : FnOk P w K mg base CX0 1 T.f_is_integer T.fd_is_integer ["thing"] (spD (vals 1) (D_is_integer T.cl)) := by
  refine T.F_is_integer.ok sc_is_integer (fun vs H Q E h => spD_len h) (fun cdv A outer s H vs Q E hr h => ?_)
  have nd := sc_is_integer.nd
  exact ⟨u_is_integer K T.cl, (pss_one (ps_ret (pe_and (pe_callB call_isiG (by rfl) T.z_isinstance (by decide +kernel) (pa_cons (pv 0) (pa_cons (pe_bltn (v := .ty "int") (by rfl) T.z_int (by decide +kernel) rfl) pa_nil))) (pe_one (pe_not (pe_callB call_isiG (by rfl) T.z_isinstance (by decide +kernel) (pa_cons (pv 0) (pa_cons (pe_bltn (v := .ty "bool") (by rfl) T.z_bool (by decide +kernel) rfl) pa_nil)))))))), fn_ok (N := N_is_integer) (t := fun E => u_is_integer K T.cl) rfl (fun E => sim_is_integer fa E) h⟩
theorem ok_is_within (T : Txt K mg) (fa : Fa K T.cl) (G_is_integer : FnOk P w K mg base CX0 1 T.f_is_integer T.fd_is_integer ["thing"] (spD (vals 1) (D_is_integer T.cl))) : FnOk P w K mg base CX0 2 T.f_is_within T.fd_is_within ["thing", "least", "most"] (spD (vals 3) (D_is_within T.cl)) := by
  refine T.F_is_within.ok sc_is_within (fun vs H Q E h => spD_len h) (fun cdv A outer s H vs Q E hr h => ?_)
  have nd := sc_is_within.nd
  exact ⟨u_is_within K T.cl, (pss_one (ps_ret (pe_and (pe_call G_is_integer (hr.mono (by decide)) (by rfl) T.g_is_integer T.F_is_integer.kp T.b_is_integer .nil pass0 (pa_cons (pv 0) pa_nil)) (pe_one (pe_chain op_le op_le (pv 1) (pv 0) (pv 2)))))), fn_ok (N := N_is_within) (t := fun E => u_is_within K T.cl) rfl (fun E => sim_is_within fa E) h⟩
theorem ok_is_pair (T : Txt K mg) (fa : Fa K T.cl)  : FnOk P w K mg base CX0 1 T.f_is_pair T.fd_is_pair ["thing"] (spD (vals 1) (D_is_pair T.cl)) := by
  refine T.F_is_pair.ok sc_is_pair (fun vs H Q E h => spD_len h) (fun cdv A outer s H vs Q E hr h => ?_)
  have nd := sc_is_pair.nd
  exact ⟨u_is_pair K T.cl, (pss_one (ps_ret (pe_and (pe_callB call_isiG (by rfl) T.z_isinstance (by decide +kernel) (pa_cons (pv 0) (pa_cons (pe_bltn (v := .ty "tuple") (by rfl) T.z_tuple (by decide +kernel) rfl) pa_nil))) (pe_one (pe_cmpR (op_eqD hr.units) (pe_callB call_lenG (by rfl) T.z_len PySem.boot_len (pa_cons (pv 0) pa_nil)) pe_int (nomark _)))))), fn_ok (N := N_is_pair) (t := fun E => u_is_pair K T.cl) rfl (fun E => sim_is_pair fa E) h⟩
theorem ok_leads_home (T : Txt K mg) (fa : Fa K T.cl)  : FnOk P w K mg base CX0 1 T.f_leads_home T.fd_leads_home ["hung", "block"] (spD (vals 2) (D_leads_home T.cl)) := by
  refine T.F_leads_home.ok sc_leads_home (fun vs H Q E h => spD_len h) (fun cdv A outer s H vs Q E hr h => ?_)
  have nd := sc_leads_home.nd
  exact ⟨u_leads_home K T.cl, (pss_cons (ps_set (i := 2) nd rfl (Or.inl rfl) (pv 1)) (pss_cons (ps_for PassesOwn.never rfl (pi_range1 (by rfl) T.z_range (pa_cons (pe_op op_addG (pe_callB call_lenG (by rfl) T.z_len PySem.boot_len (pa_cons (pv 0) pa_nil)) pe_int) pa_nil)) (pg_name (i := 3) nd rfl (Or.inl rfl)) (pss_cons (ps_if (pt_cmpR (op_eqD hr.units) (pv 2) (pe_glob (by rfl) T.c_HEAD ⟨_, rfl⟩) (nomark _)) (pss_one (ps_ret pe_bl)) pss_nil) (pss_one (ps_set (i := 2) nd rfl (Or.inl rfl) (pe_ix ix_seq (pv 0) (pe_op op_sub (pv 2) pe_int) (fun _ _ => rfl)))))) (pss_one (ps_ret pe_bl)))), fn_ok (N := N_leads_home) (t := fun E => u_leads_home K T.cl) rfl (fun E => sim_leads_home fa E) h⟩
theorem ok_Tree_init (T : Txt K mg) (fa : Fa K T.cl) (G_BadTree_init : FnOk P w K mg base CX0 1 T.f_BadTree_init T.fd_BadTree_init ["self", "part"] (spX1 T.C_BadTree "part")) (G_is_within : FnOk P w K mg base CX0 2 T.f_is_within T.fd_is_within ["thing", "least", "most"] (spD (vals 3) (D_is_within T.cl))) (G_leads_home : FnOk P w K mg base CX0 1 T.f_leads_home T.fd_leads_home ["hung", "block"] (spD (vals 2) (D_leads_home T.cl))) : FnOk P w K mg base (L2.CX P w) 3 T.f_Tree_init T.fd_Tree_init ["self", "hung"] (spD (true :: vals 1) (D_Tree_init T.cl)) := by
  refine T.F_Tree_init.okX sc_Tree_init (fun vs H Q E h => spD_len h) (fun cdv A outer s H vs Q E hr h => ?_)
  have nd := sc_Tree_init.nd
  exact ⟨u_Tree_init K T.cl E, (pss_cons (ps_if (PW.pt (pw_or (pt_not (pt_val (pe_callB call_isiG (by rfl) T.z_isinstance (by decide +kernel) (pa_cons (pv 1) (pa_cons (pe_bltn (v := .ty "tuple") (by rfl) T.z_tuple (by decide +kernel) rfl) pa_nil))))) (pw_or1 (pt_not (pt_chain op_le op_le pe_int (pe_callB call_lenG (by rfl) T.z_len PySem.boot_len (pa_cons (pv 1) pa_nil)) (pe_glob (by rfl) T.c_MOST_BLOCKS ⟨_, rfl⟩)))))) (pss_one (ps_raise rfl (takes_of rfl rfl rfl rfl) (pmk_oex T.X_BadTree T.i_BadTree T.ti_BadTree G_BadTree_init (hr.mono (by decide)) T.b_BadTree_init .nil pass0 (by rfl) T.g_BadTree (pa_cons pe_str pa_nil)))) pss_nil) (pss_cons (ps_for (passes_of rfl) rfl (pi_range2 (by rfl) T.z_range (pa_cons pe_int (pa_cons (pe_op op_addG (pe_callB call_lenG (by rfl) T.z_len PySem.boot_len (pa_cons (pv 1) pa_nil)) pe_int) pa_nil))) (pg_name (i := 2) nd rfl (Or.inl rfl)) (pss_one (ps_if (PW.pt (pw_or (pt_not (pt_val (pe_call G_is_within (hr.mono (by decide)) (by rfl) T.g_is_within T.F_is_within.kp T.b_is_within .nil pass0 (pa_cons (pe_ix ix_seq (pv 1) (pe_op op_sub (pv 2) pe_int) (fun _ _ => rfl)) (pa_cons pe_int (pa_cons (pe_callB call_lenG (by rfl) T.z_len PySem.boot_len (pa_cons (pv 1) pa_nil)) pa_nil)))))) (pw_or1 (pt_cmpR (op_eqD hr.units) (pe_ix ix_seq (pv 1) (pe_op op_sub (pv 2) pe_int) (fun _ _ => rfl)) (pv 2) (nomark _))))) (pss_one (ps_raise rfl (takes_of rfl rfl rfl rfl) (pmk_oex T.X_BadTree T.i_BadTree T.ti_BadTree G_BadTree_init (hr.mono (by decide)) T.b_BadTree_init .nil pass0 (by rfl) T.g_BadTree (pa_cons (pv 2) pa_nil)))) pss_nil))) (pss_cons (ps_for (passes_of rfl) rfl (pi_range2 (by rfl) T.z_range (pa_cons pe_int (pa_cons (pe_op op_addG (pe_callB call_lenG (by rfl) T.z_len PySem.boot_len (pa_cons (pv 1) pa_nil)) pe_int) pa_nil))) (pg_name (i := 2) nd rfl (Or.inl rfl)) (pss_one (ps_if (pt_not (pt_val (pe_call G_leads_home (hr.mono (by decide)) (by rfl) T.g_leads_home T.F_leads_home.kp T.b_leads_home .nil pass0 (pa_cons (pv 1) (pa_cons (pv 2) pa_nil))))) (pss_one (ps_raise rfl (takes_of rfl rfl rfl rfl) (pmk_oex T.X_BadTree T.i_BadTree T.ti_BadTree G_BadTree_init (hr.mono (by decide)) T.b_BadTree_init .nil pass0 (by rfl) T.g_BadTree (pa_cons (pe_tup (pa_cons pe_str (pa_cons (pv 2) pa_nil))) pa_nil)))) pss_nil))) (pss_one (ps_fld (pv 0) (pv 1) rfl))))), fn_ok (N := N_Tree_init) (t := fun E => u_Tree_init K T.cl E) rfl (fun E => sim_Tree_init fa E) h⟩
theorem ok_Tree_eq (T : Txt K mg) (fa : Fa K T.cl)  : FnOk P w K mg base CX0 1 T.f_Tree_eq T.fd_Tree_eq ["self", "other"] (spD (vals 2) (D_Tree_eq T.cl)) := by
  refine T.F_Tree_eq.ok sc_Tree_eq (fun vs H Q E h => spD_len h) (fun cdv A outer s H vs Q E hr h => ?_)
  have nd := sc_Tree_eq.nd
  exact ⟨u_Tree_eq K T.cl, (pss_one (ps_ret (pe_and (pe_callB call_isiG (by rfl) T.z_isinstance (by decide +kernel) (pa_cons (pv 1) (pa_cons (pe_glob (v := .ref T.C_Tree) (by rfl) T.g_Tree rfl) pa_nil))) (pe_one (pe_cmpR (op_eqD hr.units) (pe_fld (pv 0) rfl) (pe_fld (pv 1) rfl) (nomark _)))))), fn_ok (N := N_Tree_eq) (t := fun E => u_Tree_eq K T.cl) rfl (fun E => sim_Tree_eq fa E) h⟩
theorem ok_hanging (T : Txt K mg) (fa : Fa K T.cl)  : FnOk P w K mg base CX0 1 T.f_hanging T.fd_hanging ["hung", "place"] (spD (vals 2) (D_hanging T.cl)) := by
  refine T.F_hanging.ok sc_hanging (fun vs H Q E h => spD_len h) (fun cdv A outer s H vs Q E hr h => ?_)
  have nd := sc_hanging.nd
  exact ⟨u_hanging K T.cl, (pss_one (ps_ret (pe_lc (own := [("block", 2)]) (by rfl) nd (pi_range2 (by rfl) T.z_range (pa_cons pe_int (pa_cons (pe_op op_addG (pe_callB call_lenG (by rfl) T.z_len PySem.boot_len (pa_cons (pv 0) pa_nil)) pe_int) pa_nil))) (blkOk_by (N := N_hanging) (sc := defScope s_hanging) (by decide +kernel)) (fun _ _ _ _ _ => (pg_name (i := 2) nd rfl (Or.inl rfl))) (fun _ _ _ _ _ => (pts_one (pt_cmpR (op_eqD hr.units) (pe_ix ix_seq (pv 0) (pe_op op_sub (pv 2) pe_int) (fun _ _ => rfl)) (pv 1) (nomark _)))) (fun _ _ _ _ _ => (pv 2))))), fn_ok (N := N_hanging) (t := fun E => u_hanging K T.cl) rfl (fun E => sim_hanging fa E) h⟩
theorem ok_beneath_in (T : Txt K mg) (fa : Fa K T.cl) (G_hanging : FnOk P w K mg base CX0 1 T.f_hanging T.fd_hanging ["hung", "place"] (spD (vals 2) (D_hanging T.cl))) : FnOk P w K mg base CX0 2 T.f_beneath_in T.fd_beneath_in ["hung", "place"] (spD (vals 2) (D_beneath_in T.cl)) := by
  refine T.F_beneath_in.ok sc_beneath_in (fun vs H Q E h => spD_len h) (fun cdv A outer s H vs Q E hr h => ?_)
  have nd := sc_beneath_in.nd
  exact ⟨u_beneath_in K T.cl, (pss_cons (ps_set (i := 2) nd rfl (Or.inl rfl) (pe_lst pa_nil)) (pss_cons (ps_set (i := 3) nd rfl (Or.inl rfl) (pe_lst (pa_cons (pv 1) pa_nil))) (pss_cons (ps_while PassesOwn.never (pt_cmpR op_gt (pe_callB call_lenG (by rfl) T.z_len PySem.boot_len (pa_cons (pv 3) pa_nil)) pe_int (nomark _)) (pss_cons (ps_set (i := 4) nd rfl (Or.inl rfl) (pe_call G_hanging (hr.mono (by decide)) (by rfl) T.g_hanging T.F_hanging.kp T.b_hanging .nil pass0 (pa_cons (pv 0) (pa_cons (pe_bm0 PySem.F.plainAttrs_list PySem.F.slot_list_pop PySem.F.type_list_pop mt_pop (pv 3)) pa_nil)))) (pss_cons (ps_expr (pe_bm PySem.F.plainAttrs_list PySem.F.slot_list_extend PySem.F.type_list_extend mt_extend (pv 2) (pa_cons (pv 4) pa_nil))) (pss_one (ps_expr (pe_bm PySem.F.plainAttrs_list PySem.F.slot_list_extend PySem.F.type_list_extend mt_extend (pv 3) (pa_cons (pv 4) pa_nil))))))) (pss_one (ps_ret (pe_callTy call_tuple_of (by rfl) T.z_tuple (by decide +kernel) (pa_cons (pe_callB call_sortG (by rfl) T.z_sorted (by decide +kernel) (pa_cons (pv 2) pa_nil)) pa_nil))))))), fn_ok (N := N_beneath_in) (t := fun E => u_beneath_in K T.cl) rfl (fun E => sim_beneath_in fa E) h⟩
theorem ok_with_place (T : Txt K mg) (fa : Fa K T.cl)  : FnOk P w K mg base CX0 1 T.f_with_place T.fd_with_place ["hung", "block", "place"] (spD (vals 3) (D_with_place T.cl)) := by
  refine T.F_with_place.ok sc_with_place (fun vs H Q E h => spD_len h) (fun cdv A outer s H vs Q E hr h => ?_)
  have nd := sc_with_place.nd
  exact ⟨u_with_place K T.cl, (pss_one (ps_ret (pe_op op_addG (pe_op op_addG (pe_slice sl_G (pv 0) po_none (po_some (pe_op op_sub (pv 1) pe_int))) (pe_tup (pa_cons (pv 2) pa_nil))) (pe_slice sl_G (pv 0) (po_some (pv 1)) po_none)))), fn_ok (N := N_with_place) (t := fun E => u_with_place K T.cl) rfl (fun E => sim_with_place fa E) h⟩
theorem ok_is_move (T : Txt K mg) (fa : Fa K T.cl) (G_beneath_in : FnOk P w K mg base CX0 2 T.f_beneath_in T.fd_beneath_in ["hung", "place"] (spD (vals 2) (D_beneath_in T.cl))) (G_is_pair : FnOk P w K mg base CX0 1 T.f_is_pair T.fd_is_pair ["thing"] (spD (vals 1) (D_is_pair T.cl))) (G_is_within : FnOk P w K mg base CX0 2 T.f_is_within T.fd_is_within ["thing", "least", "most"] (spD (vals 3) (D_is_within T.cl))) : FnOk P w K mg base CX0 3 T.f_is_move T.fd_is_move ["hung", "thing"] (spD (vals 2) (D_is_move T.cl)) := by
  refine T.F_is_move.ok sc_is_move (fun vs H Q E h => spD_len h) (fun cdv A outer s H vs Q E hr h => ?_)
  have nd := sc_is_move.nd
  exact ⟨u_is_move K T.cl, (pss_cons (ps_if (PW.pt (pw_or (pt_not (pt_val (pe_call G_is_pair (hr.mono (by decide)) (by rfl) T.g_is_pair T.F_is_pair.kp T.b_is_pair .nil pass0 (pa_cons (pv 1) pa_nil)))) (pw_or (pt_not (pt_val (pe_call G_is_within (hr.mono (by decide)) (by rfl) T.g_is_within T.F_is_within.kp T.b_is_within .nil pass0 (pa_cons (pe_ix ix_seq (pv 1) pe_int (fun _ _ => rfl)) (pa_cons pe_int (pa_cons (pe_callB call_lenG (by rfl) T.z_len PySem.boot_len (pa_cons (pv 0) pa_nil)) pa_nil)))))) (pw_or1 (pt_not (pt_val (pe_call G_is_within (hr.mono (by decide)) (by rfl) T.g_is_within T.F_is_within.kp T.b_is_within .nil pass0 (pa_cons (pe_ix ix_seq (pv 1) pe_int (fun _ _ => rfl)) (pa_cons pe_int (pa_cons (pe_callB call_lenG (by rfl) T.z_len PySem.boot_len (pa_cons (pv 0) pa_nil)) pa_nil)))))))))) (pss_one (ps_ret pe_bl)) pss_nil) (pss_one (ps_ret (pe_and (pe_cmpR (op_neD hr.units) (pe_ix ix_seq (pv 1) pe_int (fun _ _ => rfl)) (pe_ix ix_seq (pv 1) pe_int (fun _ _ => rfl)) (nomark _)) (pe_one (pe_cmpR op_notIn_seq (pe_ix ix_seq (pv 1) pe_int (fun _ _ => rfl)) (pe_call G_beneath_in (hr.mono (by decide)) (by rfl) T.g_beneath_in T.F_beneath_in.kp T.b_beneath_in .nil pass0 (pa_cons (pv 0) (pa_cons (pe_ix ix_seq (pv 1) pe_int (fun _ _ => rfl)) pa_nil))) (by rfl))))))), fn_ok (N := N_is_move) (t := fun E => u_is_move K T.cl) rfl (fun E => sim_is_move fa E) h⟩
theorem ok_trees_along (T : Txt K mg) (fa : Fa K T.cl) (G_with_place : FnOk P w K mg base CX0 1 T.f_with_place T.fd_with_place ["hung", "block", "place"] (spD (vals 3) (D_with_place T.cl))) : FnOk P w K mg base CX0 2 T.f_trees_along T.fd_trees_along ["hung", "moves"] (spD (vals 2) (D_trees_along T.cl)) := by
  refine T.F_trees_along.ok sc_trees_along (fun vs H Q E h => spD_len h) (fun cdv A outer s H vs Q E hr h => ?_)
  have nd := sc_trees_along.nd
  exact ⟨u_trees_along K T.cl, (pss_cons (ps_set (i := 2) nd rfl (Or.inl rfl) (pe_lst (pa_cons (pv 0) pa_nil))) (pss_cons (ps_for PassesOwn.never rfl (pi_seq (pv 1)) (pg_tup rfl (pgs_cons (pg_name (i := 3) nd rfl (Or.inl rfl)) (pgs_cons (pg_name (i := 4) nd rfl (Or.inl rfl)) pgs_nil))) (pss_one (ps_expr (pe_bm PySem.F.plainAttrs_list PySem.F.slot_list_append PySem.F.type_list_append mt_append (pv 2) (pa_cons (pe_call G_with_place (hr.mono (by decide)) (by rfl) T.g_with_place T.F_with_place.kp T.b_with_place .nil pass0 (pa_cons (pe_ix ix_seq (pv 2) (pe_un un_neg pe_int) (fun _ _ => rfl)) (pa_cons (pv 3) (pa_cons (pv 4) pa_nil)))) pa_nil))))) (pss_one (ps_ret (pv 2))))), fn_ok (N := N_trees_along) (t := fun E => u_trees_along K T.cl) rfl (fun E => sim_trees_along fa E) h⟩
theorem ok_History_init (T : Txt K mg) (fa : Fa K T.cl) (G_BadHistory_init : FnOk P w K mg base CX0 1 T.f_BadHistory_init T.fd_BadHistory_init ["self", "part"] (spX1 T.C_BadHistory "part")) (G_is_move : FnOk P w K mg base CX0 3 T.f_is_move T.fd_is_move ["hung", "thing"] (spD (vals 2) (D_is_move T.cl))) (G_with_place : FnOk P w K mg base CX0 1 T.f_with_place T.fd_with_place ["hung", "block", "place"] (spD (vals 3) (D_with_place T.cl))) : FnOk P w K mg base (L2.CX P w) 4 T.f_History_init T.fd_History_init ["self", "tree", "moves"] (spD (true :: vals 2) (D_History_init T.cl)) := by
  refine T.F_History_init.okX sc_History_init (fun vs H Q E h => spD_len h) (fun cdv A outer s H vs Q E hr h => ?_)
  have nd := sc_History_init.nd
  exact ⟨u_History_init K T.cl E, (pss_cons (ps_if (pt_not (pt_val (pe_callB call_isiG (by rfl) T.z_isinstance (by decide +kernel) (pa_cons (pv 1) (pa_cons (pe_glob (v := .ref T.C_Tree) (by rfl) T.g_Tree rfl) pa_nil))))) (pss_one (ps_raise rfl (takes_of rfl rfl rfl rfl) (pmk_oex T.X_BadHistory T.i_BadHistory T.ti_BadHistory G_BadHistory_init (hr.mono (by decide)) T.b_BadHistory_init .nil pass0 (by rfl) T.g_BadHistory (pa_cons pe_str pa_nil)))) pss_nil) (pss_cons (ps_if (PW.pt (pw_or (pt_not (pt_val (pe_callB call_isiG (by rfl) T.z_isinstance (by decide +kernel) (pa_cons (pv 2) (pa_cons (pe_bltn (v := .ty "tuple") (by rfl) T.z_tuple (by decide +kernel) rfl) pa_nil))))) (pw_or1 (pt_cmpR op_gt (pe_callB call_lenG (by rfl) T.z_len PySem.boot_len (pa_cons (pv 2) pa_nil)) (pe_glob (by rfl) T.c_MOST_MOVES ⟨_, rfl⟩) (nomark _))))) (pss_one (ps_raise rfl (takes_of rfl rfl rfl rfl) (pmk_oex T.X_BadHistory T.i_BadHistory T.ti_BadHistory G_BadHistory_init (hr.mono (by decide)) T.b_BadHistory_init .nil pass0 (by rfl) T.g_BadHistory (pa_cons pe_str pa_nil)))) pss_nil) (pss_cons (ps_set (i := 3) nd rfl (Or.inl rfl) (pe_fld (pv 1) rfl)) (pss_cons (ps_for (passes_of rfl) rfl (pi_enumA (by rfl) T.z_enumerate (pa_cons (pv 2) pa_nil)) (pg_tup rfl (pgs_cons (pg_name (i := 4) nd rfl (Or.inl rfl)) (pgs_cons (pg_name (i := 5) nd rfl (Or.inl rfl)) pgs_nil))) (pss_cons (ps_if (pt_not (pt_val (pe_call G_is_move (hr.mono (by decide)) (by rfl) T.g_is_move T.F_is_move.kp T.b_is_move .nil pass0 (pa_cons (pv 3) (pa_cons (pv 5) pa_nil))))) (pss_one (ps_raise rfl (takes_of rfl rfl rfl rfl) (pmk_oex T.X_BadHistory T.i_BadHistory T.ti_BadHistory G_BadHistory_init (hr.mono (by decide)) T.b_BadHistory_init .nil pass0 (by rfl) T.g_BadHistory (pa_cons (pv 4) pa_nil)))) pss_nil) (pss_one (ps_set (i := 3) nd rfl (Or.inl rfl) (pe_call G_with_place (hr.mono (by decide)) (by rfl) T.g_with_place T.F_with_place.kp T.b_with_place .nil pass0 (pa_cons (pv 3) (pa_cons (pe_ix ix_seq (pv 5) pe_int (fun _ _ => rfl)) (pa_cons (pe_ix ix_seq (pv 5) pe_int (fun _ _ => rfl)) pa_nil)))))))) (pss_cons (ps_fld (pv 0) (pv 1) rfl) (pss_one (ps_fld (pv 0) (pv 2) rfl))))))), fn_ok (N := N_History_init) (t := fun E => u_History_init K T.cl E) rfl (fun E => sim_History_init fa E) h⟩
theorem ok_History_eq (T : Txt K mg) (fa : Fa K T.cl) (G_Tree_eq : FnOk P w K mg base CX0 1 T.f_Tree_eq T.fd_Tree_eq ["self", "other"] (spD (vals 2) (D_Tree_eq T.cl))) : FnOk P w K mg base CX0 3 T.f_History_eq T.fd_History_eq ["self", "other"] (spD (vals 2) (D_History_eq T.cl)) := by
  refine T.F_History_eq.ok sc_History_eq (fun vs H Q E h => spD_len h) (fun cdv A outer s H vs Q E hr h => ?_)
  have nd := sc_History_eq.nd
  exact ⟨u_History_eq K T.cl, (pss_one (ps_ret (pe_and (pe_callB call_isiG (by rfl) T.z_isinstance (by decide +kernel) (pa_cons (pv 1) (pa_cons (pe_glob (v := .ref T.C_History) (by rfl) T.g_History rfl) pa_nil))) (pe_one (pe_cmpR (op_eqTB G_Tree_eq T.e_Tree T.ef_Tree T.b_Tree_eq (hr.mono (by decide))) (pe_tup (pa_cons (pe_fld (pv 0) rfl) (pa_cons (pe_fld (pv 0) rfl) pa_nil))) (pe_tup (pa_cons (pe_fld (pv 1) rfl) (pa_cons (pe_fld (pv 1) rfl) pa_nil))) (nomark _)))))), fn_ok (N := N_History_eq) (t := fun E => u_History_eq K T.cl) rfl (fun E => sim_History_eq fa E) h⟩
theorem ok_now (T : Txt K mg) (fa : Fa K T.cl) (G_Tree_init : FnOk P w K mg base (L2.CX P w) 3 T.f_Tree_init T.fd_Tree_init ["self", "hung"] (spD (true :: vals 1) (D_Tree_init T.cl))) (G_trees_along : FnOk P w K mg base CX0 2 T.f_trees_along T.fd_trees_along ["hung", "moves"] (spD (vals 2) (D_trees_along T.cl))) : FnOk P w K mg base CX0 5 T.f_now T.fd_now ["history"] (spD (vals 1) (D_now T.cl)) := by
  refine T.F_now.ok sc_now (fun vs H Q E h => spD_len h) (fun cdv A outer s H vs Q E hr h => ?_)
  have nd := sc_now.nd
  exact ⟨u_now K T.cl, (pss_one (ps_ret (pe_make T.M_Tree G_Tree_init (hr.mono (by decide)) (by rfl) T.g_Tree T.b_Tree_init .nil passL (pa_cons (pe_ix ix_seq (pe_call G_trees_along (hr.mono (by decide)) (by rfl) T.g_trees_along T.F_trees_along.kp T.b_trees_along .nil pass0 (pa_cons (pe_fld (pe_fld (pv 0) rfl) rfl) (pa_cons (pe_fld (pv 0) rfl) pa_nil))) (pe_un un_neg pe_int) (fun _ _ => rfl)) pa_nil)))), fn_ok (N := N_now) (t := fun E => u_now K T.cl) rfl (fun E => sim_now fa E) h⟩
theorem ok_l_hand (T : Txt K mg)  : FnOk P w K mg base CX0 1 T.f_l_hand T.fd_l_hand ["_law_script"] (spHead K HandOk) := by
  refine T.F_l_hand.ok sc_l_hand (fun vs H Q E h => spHead_len h) (fun cdv A outer s H vs Q E hr h => ?_)
  have nd := sc_l_hand.nd
  exact ⟨_, (pss_cons (ps_setLc (i := 1) (own := [("_law_cell", 2)]) (by rfl) nd rfl rfl (sw_true rfl rfl rfl (by decide +kernel)) (pi_list (pe_slice sl_list (pv 0) po_none (po_some pe_int))) (blkOk_by (N := N_l_hand) (sc := defScope s_l_hand) (by decide +kernel)) (fun _ _ _ _ _ => (pg_name (i := 2) nd rfl (Or.inl rfl))) (fun _ _ _ _ _ => pts_nil) (fun _ _ _ _ _ => (pe_callB call_abs (by rfl) T.z_abs (by decide +kernel) (pa_cons (pe_callTy call_int1 (by rfl) T.z_int (by decide +kernel) (pa_cons (pv 2) pa_nil)) pa_nil)))) (pss_one (ps_ret (pe_lst (pa_cons (pv 1) (pa_cons pe_int (pa_cons pe_int (pa_cons (pe_op op_add pe_int (pe_callB call_len_seq (by rfl) T.z_len PySem.boot_len (pa_cons (pv 1) pa_nil))) (pa_cons pe_int pa_nil))))))))), pure_l_hand h⟩
theorem ok_l_draw (T : Txt K mg) (fa : Fa K T.cl)  : FnOk P w K mg base CX0 1 T.f_l_draw T.fd_l_draw ["_law_hand_here", "_law_many"] (spD (true :: vals 1) (D_l_draw T.cl)) := by
  refine T.F_l_draw.ok sc_l_draw (fun vs H Q E h => spD_len h) (fun cdv A outer s H vs Q E hr h => ?_)
  have nd := sc_l_draw.nd
  exact ⟨u_l_draw K T.cl, (pss_cons (ps_if (PW.pt (pw_and (pt_cmpR (op_eqD hr.units) (pe_ix ix_seq (pv 0) pe_int (fun _ _ => rfl)) pe_int (nomark _)) (pw_and1 (pt_cmpR (OpR.or op_lt (op_ltT hr.units0)) (pe_ix ix_seq (pv 0) pe_int (fun _ _ => rfl)) (pe_callB call_lenG (by rfl) T.z_len PySem.boot_len (pa_cons (pe_ix ix_seq (pv 0) pe_int (fun _ _ => rfl)) pa_nil)) (nomark _))))) (pss_cons (ps_set (i := 2) nd rfl (Or.inl rfl) (pe_ix ix_seq (pe_ix ix_seq (pv 0) pe_int (fun _ _ => rfl)) (pe_ix ix_seq (pv 0) pe_int (fun _ _ => rfl)) (fun _ _ => rfl))) (pss_cons (ps_asg (pe_op op_addG (pe_ix ix_seq (pv 0) pe_int (fun _ _ => rfl)) pe_int) (pg_sub (pv 0) pe_int set_list)) (pss_cons (ps_asg (pe_op op_mod (pe_callTy call_int1 (by rfl) T.z_int (by decide +kernel) (pa_cons (pe_op op_addG (pe_op op_addG (pe_op op_mulG (pe_ix ix_seq (pv 0) pe_int (fun _ _ => rfl)) pe_int) (pv 2)) pe_int) pa_nil)) pe_int) (pg_sub (pv 0) pe_int set_list)) (pss_one (ps_if (pt_cmpR op_ge (pv 2) (pe_op op_pow pe_int pe_int) (nomark _)) (pss_one (ps_asg (pv 2) (pg_sub (pv 0) pe_int set_list))) pss_nil))))) pss_nil) (pss_cons (ps_if (pt_cmpR op_gt (pe_ix ix_seq (pv 0) pe_int (fun _ _ => rfl)) pe_int (nomark _)) (pss_cons (ps_set (i := 3) nd rfl (Or.inl rfl) (pe_op op_mod (pe_callTy call_int1 (by rfl) T.z_int (by decide +kernel) (pa_cons (pe_ix ix_seq (pv 0) pe_int (fun _ _ => rfl)) pa_nil)) (pv 1))) (pss_cons (ps_asg (pe_op op_fdivN (pe_ix ix_seq (pv 0) pe_int (fun _ _ => rfl)) (pv 1)) (pg_sub (pv 0) pe_int set_list)) (pss_one (ps_ret (pv 3))))) pss_nil) (pss_cons (ps_asg (pe_op op_addG (pe_ix ix_seq (pv 0) pe_int (fun _ _ => rfl)) pe_int) (pg_sub (pv 0) pe_int set_list)) (pss_cons (ps_set (i := 4) nd rfl (Or.inl rfl) (pe_op op_mod (pe_callTy call_int1 (by rfl) T.z_int (by decide +kernel) (pa_cons (pe_op op_mulG (pe_callTy call_int1 (by rfl) T.z_int (by decide +kernel) (pa_cons (pe_op op_addG (pe_ix ix_seq (pv 0) pe_int (fun _ _ => rfl)) (pe_op op_mulG pe_int (pe_ix ix_seq (pv 0) pe_int (fun _ _ => rfl)))) pa_nil)) pe_int) pa_nil)) pe_int)) (pss_cons (ps_set (i := 4) nd rfl (Or.inl rfl) (pe_op op_mod (pe_callTy call_int1 (by rfl) T.z_int (by decide +kernel) (pa_cons (pe_op op_mulG (pv 4) (pe_op op_addG (pe_op op_fdivN (pv 4) pe_int) pe_int)) pa_nil)) pe_int)) (pss_cons (ps_set (i := 4) nd rfl (Or.inl rfl) (pe_op op_mod (pe_callTy call_int1 (by rfl) T.z_int (by decide +kernel) (pa_cons (pe_op op_mulG (pv 4) (pe_op op_addG (pe_op op_fdivN (pv 4) pe_int) pe_int)) pa_nil)) pe_int)) (pss_one (ps_ret (pe_op op_mod (pe_callTy call_int1 (by rfl) T.z_int (by decide +kernel) (pa_cons (pe_op op_fdivN (pv 4) pe_int) pa_nil)) (pv 1)))))))))), fn_ok (N := N_l_draw) (t := fun E => u_l_draw K T.cl) rfl (fun E => sim_l_draw fa E) h⟩
theorem ok_l_tree (T : Txt K mg) (fa : Fa K T.cl) (G_l_draw : FnOk P w K mg base CX0 1 T.f_l_draw T.fd_l_draw ["_law_hand_here", "_law_many"] (spD (true :: vals 1) (D_l_draw T.cl))) : FnOk P w K mg base CX0 2 T.f_l_tree T.fd_l_tree ["_law_hand_here", "_law_many"] (spD (true :: vals 1) (D_l_tree T.cl)) := by
  refine T.F_l_tree.ok sc_l_tree (fun vs H Q E h => spD_len h) (fun cdv A outer s H vs Q E hr h => ?_)
  have nd := sc_l_tree.nd
  exact ⟨u_l_tree K T.cl, (pss_cons (ps_set (i := 2) nd rfl (Or.inl rfl) (pe_listRg rfl (by rfl) T.z_list (prg_2 (by rfl) T.z_range pe_int (pe_op op_addG (pv 1) pe_int)))) (pss_cons (ps_set (i := 3) nd rfl (Or.inl rfl) (pe_lst (pa_cons pe_int pa_nil))) (pss_cons (ps_set (i := 4) nd rfl (Or.inl rfl) (pe_op op_mulG (pe_lst (pa_cons pe_int pa_nil)) (pv 1))) (pss_cons (ps_while PassesOwn.never (pt_cmpR op_gt (pe_callB call_lenG (by rfl) T.z_len PySem.boot_len (pa_cons (pv 2) pa_nil)) pe_int (nomark _)) (pss_cons (ps_set (i := 5) nd rfl (Or.inl rfl) (pe_bm PySem.F.plainAttrs_list PySem.F.slot_list_pop PySem.F.type_list_pop mt_popAt (pv 2) (pa_cons (pe_call G_l_draw (hr.mono (by decide)) (by rfl) T.g_l_draw T.F_l_draw.kp T.b_l_draw .nil pass0 (pa_cons (pv 0) (pa_cons (pe_callB call_lenG (by rfl) T.z_len PySem.boot_len (pa_cons (pv 2) pa_nil)) pa_nil))) pa_nil))) (pss_cons (ps_asg (pe_ix ix_seq (pv 3) (pe_call G_l_draw (hr.mono (by decide)) (by rfl) T.g_l_draw T.F_l_draw.kp T.b_l_draw .nil pass0 (pa_cons (pv 0) (pa_cons (pe_callB call_lenG (by rfl) T.z_len PySem.boot_len (pa_cons (pv 3) pa_nil)) pa_nil))) (fun _ _ => rfl)) (pg_sub (pv 4) (pe_op op_sub (pv 5) pe_int) set_list)) (pss_one (ps_expr (pe_bm PySem.F.plainAttrs_list PySem.F.slot_list_append PySem.F.type_list_append mt_append (pv 3) (pa_cons (pv 5) pa_nil))))))) (pss_one (ps_ret (pe_callTy call_tuple_of (by rfl) T.z_tuple (by decide +kernel) (pa_cons (pv 4) pa_nil)))))))), fn_ok (N := N_l_tree) (t := fun E => u_l_tree K T.cl) rfl (fun E => sim_l_tree fa E) h⟩
theorem ok_l_row (T : Txt K mg) (fa : Fa K T.cl)  : FnOk P w K mg base CX0 1 T.f_l_row T.fd_l_row ["_law_hung", "_law_place"] (spD (vals 2) (D_l_row T.cl)) := by
  refine T.F_l_row.ok sc_l_row (fun vs H Q E h => spD_len h) (fun cdv A outer s H vs Q E hr h => ?_)
  have nd := sc_l_row.nd
  exact ⟨u_l_row K T.cl, (pss_cons (ps_set (i := 2) nd rfl (Or.inl rfl) (pe_lst pa_nil)) (pss_cons (ps_set (i := 3) nd rfl (Or.inl rfl) (pv 1)) (pss_cons (ps_while PassesOwn.never (pt_cmpR (op_neD hr.units) (pv 3) pe_int (nomark _)) (pss_cons (ps_set (i := 3) nd rfl (Or.inl rfl) (pe_ix ix_seq (pv 0) (pe_op op_sub (pv 3) pe_int) (fun _ _ => rfl))) (pss_one (ps_expr (pe_bm PySem.F.plainAttrs_list PySem.F.slot_list_append PySem.F.type_list_append mt_append (pv 2) (pa_cons (pv 3) pa_nil)))))) (pss_one (ps_ret (pv 2)))))), fn_ok (N := N_l_row) (t := fun E => u_l_row K T.cl) rfl (fun E => sim_l_row fa E) h⟩
theorem ok_l_beneath (T : Txt K mg) (fa : Fa K T.cl) (G_l_row : FnOk P w K mg base CX0 1 T.f_l_row T.fd_l_row ["_law_hung", "_law_place"] (spD (vals 2) (D_l_row T.cl))) : FnOk P w K mg base CX0 2 T.f_l_beneath T.fd_l_beneath ["_law_hung", "_law_place"] (spD (vals 2) (D_l_beneath T.cl)) := by
  refine T.F_l_beneath.ok sc_l_beneath (fun vs H Q E h => spD_len h) (fun cdv A outer s H vs Q E hr h => ?_)
  have nd := sc_l_beneath.nd
  exact ⟨u_l_beneath K T.cl, (pss_one (ps_ret (pe_op op_addG (pe_lc (own := [("_law_block", 2)]) (by rfl) nd (pi_range2 (by rfl) T.z_range (pa_cons pe_int (pa_cons (pe_op op_addG (pe_callB call_lenG (by rfl) T.z_len PySem.boot_len (pa_cons (pv 0) pa_nil)) pe_int) pa_nil))) (blkOk_by (N := N_l_beneath) (sc := defScope s_l_beneath) (by decide +kernel)) (fun _ _ _ _ _ => (pg_name (i := 2) nd rfl (Or.inl rfl))) (fun _ _ _ _ _ => (pts_one (pt_cmpR op_in_seq (pv 1) (pe_op op_addG (pe_lst (pa_cons (pv 2) pa_nil)) (pe_call G_l_row (hr.mono (by decide)) (by rfl) T.g_l_row T.F_l_row.kp T.b_l_row .nil pass0 (pa_cons (pv 0) (pa_cons (pv 2) pa_nil)))) (by rfl)))) (fun _ _ _ _ _ => (pv 2))) (pe_op op_mulG (pe_lst (pa_cons pe_int pa_nil)) (pe_callTy call_int1 (by rfl) T.z_int (by decide +kernel) (pa_cons (pe_cmpR (op_eqD hr.units) (pv 1) pe_int (nomark _)) pa_nil)))))), fn_ok (N := N_l_beneath) (t := fun E => u_l_beneath K T.cl) rfl (fun E => sim_l_beneath fa E) h⟩
theorem ok_l_put (T : Txt K mg) (fa : Fa K T.cl)  : FnOk P w K mg base CX0 1 T.f_l_put T.fd_l_put ["_law_hung", "_law_block", "_law_place"] (spD (vals 3) (D_l_put T.cl)) := by
  refine T.F_l_put.ok sc_l_put (fun vs H Q E h => spD_len h) (fun cdv A outer s H vs Q E hr h => ?_)
  have nd := sc_l_put.nd
  exact ⟨u_l_put K T.cl, (pss_one (ps_ret (pe_op op_addG (pe_op op_addG (pe_slice sl_G (pv 0) po_none (po_some (pe_op op_sub (pv 1) pe_int))) (pe_tup (pa_cons (pv 2) pa_nil))) (pe_slice sl_G (pv 0) (po_some (pv 1)) po_none)))), fn_ok (N := N_l_put) (t := fun E => u_l_put K T.cl) rfl (fun E => sim_l_put fa E) h⟩
theorem ok_l_moves (T : Txt K mg) (fa : Fa K T.cl) (G_l_beneath : FnOk P w K mg base CX0 2 T.f_l_beneath T.fd_l_beneath ["_law_hung", "_law_place"] (spD (vals 2) (D_l_beneath T.cl))) (G_l_draw : FnOk P w K mg base CX0 1 T.f_l_draw T.fd_l_draw ["_law_hand_here", "_law_many"] (spD (true :: vals 1) (D_l_draw T.cl))) (G_l_put : FnOk P w K mg base CX0 1 T.f_l_put T.fd_l_put ["_law_hung", "_law_block", "_law_place"] (spD (vals 3) (D_l_put T.cl))) : FnOk P w K mg base CX0 3 T.f_l_moves T.fd_l_moves ["_law_hand_here", "_law_hung", "_law_many"] (spD (true :: vals 2) (D_l_moves T.cl)) := by
  refine T.F_l_moves.ok sc_l_moves (fun vs H Q E h => spD_len h) (fun cdv A outer s H vs Q E hr h => ?_)
  have nd := sc_l_moves.nd
  exact ⟨u_l_moves K T.cl, (pss_cons (ps_par (by rfl) nd rfl rfl (by decide) rfl rfl (pa_cons (pe_tup pa_nil) (pa_cons (pv 1) pa_nil)) (by rfl)) (pss_cons (ps_for PassesOwn.never rfl (pi_range1 (by rfl) T.z_range (pa_cons (pv 2) pa_nil)) (pg_name (i := 5) nd rfl (Or.inl rfl)) (pss_cons (ps_set (i := 6) nd rfl (Or.inl rfl) (pe_op op_addG pe_int (pe_call G_l_draw (hr.mono (by decide)) (by rfl) T.g_l_draw T.F_l_draw.kp T.b_l_draw .nil pass0 (pa_cons (pv 0) (pa_cons (pe_callB call_lenG (by rfl) T.z_len PySem.boot_len (pa_cons (pv 1) pa_nil)) pa_nil))))) (pss_cons (ps_set (i := 7) nd rfl (Or.inr rfl) (pe_call G_l_beneath (hr.mono (by decide)) (by rfl) T.g_l_beneath T.F_l_beneath.kp T.b_l_beneath .nil pass0 (pa_cons (pv 1) (pa_cons (pv 6) pa_nil)))) (pss_cons (ps_setLc (i := 8) (own := [("_law_place", 9)]) (by rfl) nd rfl rfl (sw_true rfl rfl rfl (by decide +kernel)) (pi_range1 (by rfl) T.z_range (pa_cons (pe_op op_addG (pe_callB call_lenG (by rfl) T.z_len PySem.boot_len (pa_cons (pv 1) pa_nil)) pe_int) pa_nil)) (blkOk_by (N := N_l_moves) (sc := defScope s_l_moves) (by decide +kernel)) (fun _ _ _ _ _ => (pg_name (i := 9) nd rfl (Or.inl rfl))) (fun _ _ _ _ _ => (pts_one (pt_cmpR op_notIn_seq (pv 9) (pv 7) (by rfl)))) (fun _ _ _ _ _ => (pv 9))) (pss_cons (ps_set (i := 9) nd rfl (Or.inl rfl) (pe_ix ix_seq (pv 8) (pe_call G_l_draw (hr.mono (by decide)) (by rfl) T.g_l_draw T.F_l_draw.kp T.b_l_draw .nil pass0 (pa_cons (pv 0) (pa_cons (pe_callB call_lenG (by rfl) T.z_len PySem.boot_len (pa_cons (pv 8) pa_nil)) pa_nil))) (fun _ _ => rfl))) (pss_cons (ps_if (PW.pt (pw_and (pt_cmpR (op_eqD hr.units) (pe_call G_l_draw (hr.mono (by decide)) (by rfl) T.g_l_draw T.F_l_draw.kp T.b_l_draw .nil pass0 (pa_cons (pv 0) (pa_cons pe_int pa_nil))) pe_int (nomark _)) (pw_and1 (pt_cmpR op_in_seq (pe_ix ix_seq (pv 4) (pe_op op_sub (pv 6) pe_int) (fun _ _ => rfl)) (pv 8) (by rfl))))) (pss_one (ps_set (i := 9) nd rfl (Or.inl rfl) (pe_ix ix_seq (pv 4) (pe_op op_sub (pv 6) pe_int) (fun _ _ => rfl)))) pss_nil) (pss_cons (ps_set (i := 3) nd rfl (Or.inl rfl) (pe_op op_addG (pv 3) (pe_tup (pa_cons (pe_tup (pa_cons (pv 6) (pa_cons (pv 9) pa_nil))) pa_nil)))) (pss_one (ps_set (i := 1) nd rfl (Or.inl rfl) (pe_call G_l_put (hr.mono (by decide)) (by rfl) T.g_l_put T.F_l_put.kp T.b_l_put .nil pass0 (pa_cons (pv 1) (pa_cons (pv 6) (pa_cons (pv 9) pa_nil))))))))))))) (pss_one (ps_ret (pe_tup (pa_cons (pv 3) (pa_cons (pv 1) pa_nil))))))), fn_ok (N := N_l_moves) (t := fun E => u_l_moves K T.cl) rfl (fun E => sim_l_moves fa E) h⟩
theorem ok_l_deep (T : Txt K mg) (fa : Fa K T.cl)  : FnOk P w K mg base CX0 1 T.f_l_deep T.fd_l_deep ["_law_kind"] (spD (vals 1) (D_l_deep T.cl)) := by
  refine T.F_l_deep.ok sc_l_deep (fun vs H Q E h => spD_len h) (fun cdv A outer s H vs Q E hr h => ?_)
  have nd := sc_l_deep.nd
  exact ⟨u_l_deep K T.cl, (pss_cons (ps_set (i := 1) nd rfl (Or.inl rfl) (pe_tup pa_nil)) (pss_cons (ps_for PassesOwn.never rfl (pi_range1 (by rfl) T.z_range (pa_cons pe_int pa_nil)) (pg_name (i := 2) nd rfl (Or.inl rfl)) (pss_one (ps_set (i := 1) nd rfl (Or.inl rfl) (pe_ix ix_seq (pe_lst (pa_cons (pe_tup (pa_cons (pe_tup (pa_cons (pv 1) pa_nil)) pa_nil)) (pa_cons (pe_lst (pa_cons (pe_lst (pa_cons (pv 1) pa_nil)) pa_nil)) (pa_cons (pe_tup (pa_cons pe_str (pa_cons (pe_lst (pa_cons (pv 1) pa_nil)) pa_nil))) pa_nil)))) (pv 0) (fun _ _ => rfl))))) (pss_one (ps_ret (pv 1))))), fn_ok (N := N_l_deep) (t := fun E => u_l_deep K T.cl) rfl (fun E => sim_l_deep fa E) h⟩
theorem ok_l_odd (T : Txt K mg) (fa : Fa K T.cl) (G_l_deep : FnOk P w K mg base CX0 1 T.f_l_deep T.fd_l_deep ["_law_kind"] (spD (vals 1) (D_l_deep T.cl))) (G_l_draw : FnOk P w K mg base CX0 1 T.f_l_draw T.fd_l_draw ["_law_hand_here", "_law_many"] (spD (true :: vals 1) (D_l_draw T.cl))) : FnOk P w K mg base CX0 2 T.f_l_odd T.fd_l_odd ["_law_hand_here", "_law_thing"] (spD (true :: vals 1) (D_l_odd T.cl)) := by
  refine T.F_l_odd.ok sc_l_odd (fun vs H Q E h => spD_len h) (fun cdv A outer s H vs Q E hr h => ?_)
  have nd := sc_l_odd.nd
  exact ⟨u_l_odd K T.cl, (pss_cons (ps_set (i := 2) nd rfl (Or.inl rfl) (pe_lst (pa_cons pe_non (pa_cons pe_bl (pa_cons pe_bl (pa_cons pe_int (pa_cons (pe_un un_neg pe_int) (pa_cons pe_str (pa_cons pe_str (pa_cons (pe_tup pa_nil) (pa_cons (pe_lst pa_nil) (pa_cons pe_dnewK (pa_cons (pe_tup (pa_cons pe_int pa_nil)) (pa_cons (pe_tup (pa_cons (pe_tup (pa_cons pe_int (pa_cons pe_int pa_nil))) pa_nil)) (pa_cons (pe_tup (pa_cons pe_non pa_nil)) (pa_cons (pe_op op_pow pe_int pe_int) (pa_cons (pv 1) pa_nil))))))))))))))))) (pss_one (ps_ret (pe_ix ix_seq (pe_op op_addG (pv 2) (pe_lst (pa_cons (pe_call G_l_deep (hr.mono (by decide)) (by rfl) T.g_l_deep T.F_l_deep.kp T.b_l_deep .nil pass0 (pa_cons pe_int pa_nil)) (pa_cons (pe_call G_l_deep (hr.mono (by decide)) (by rfl) T.g_l_deep T.F_l_deep.kp T.b_l_deep .nil pass0 (pa_cons pe_int pa_nil)) (pa_cons (pe_call G_l_deep (hr.mono (by decide)) (by rfl) T.g_l_deep T.F_l_deep.kp T.b_l_deep .nil pass0 (pa_cons pe_int pa_nil)) pa_nil))))) (pe_call G_l_draw (hr.mono (by decide)) (by rfl) T.g_l_draw T.F_l_draw.kp T.b_l_draw .nil pass0 (pa_cons (pv 0) (pa_cons pe_int pa_nil))) (fun _ _ => rfl))))), fn_ok (N := N_l_odd) (t := fun E => u_l_odd K T.cl) rfl (fun E => sim_l_odd fa E) h⟩
theorem ok_l_is_whole (T : Txt K mg) (fa : Fa K T.cl)  : FnOk P w K mg base CX0 1 T.f_l_is_whole T.fd_l_is_whole ["_law_thing", "_law_least", "_law_most"] (spD (vals 3) (D_l_is_whole T.cl)) := by
  refine T.F_l_is_whole.ok sc_l_is_whole (fun vs H Q E h => spD_len h) (fun cdv A outer s H vs Q E hr h => ?_)
  have nd := sc_l_is_whole.nd
  exact ⟨u_l_is_whole K T.cl, (pss_one (ps_ret (pe_and (pe_callB call_isiG (by rfl) T.z_isinstance (by decide +kernel) (pa_cons (pv 0) (pa_cons (pe_bltn (v := .ty "int") (by rfl) T.z_int (by decide +kernel) rfl) pa_nil))) (pe_and (pe_not (pe_callB call_isiG (by rfl) T.z_isinstance (by decide +kernel) (pa_cons (pv 0) (pa_cons (pe_bltn (v := .ty "bool") (by rfl) T.z_bool (by decide +kernel) rfl) pa_nil)))) (pe_one (pe_chain op_le op_le (pv 1) (pv 0) (pv 2))))))), fn_ok (N := N_l_is_whole) (t := fun E => u_l_is_whole K T.cl) rfl (fun E => sim_l_is_whole fa E) h⟩
theorem ok_l_due (T : Txt K mg) (fa : Fa K T.cl) (G_l_beneath : FnOk P w K mg base CX0 2 T.f_l_beneath T.fd_l_beneath ["_law_hung", "_law_place"] (spD (vals 2) (D_l_beneath T.cl))) (G_l_is_whole : FnOk P w K mg base CX0 1 T.f_l_is_whole T.fd_l_is_whole ["_law_thing", "_law_least", "_law_most"] (spD (vals 3) (D_l_is_whole T.cl))) (G_l_put : FnOk P w K mg base CX0 1 T.f_l_put T.fd_l_put ["_law_hung", "_law_block", "_law_place"] (spD (vals 3) (D_l_put T.cl))) : FnOk P w K mg base CX0 3 T.f_l_due T.fd_l_due ["_law_hung", "_law_moves_here"] (spD (vals 2) (D_l_due T.cl)) := by
  refine T.F_l_due.ok sc_l_due (fun vs H Q E h => spD_len h) (fun cdv A outer s H vs Q E hr h => ?_)
  have nd := sc_l_due.nd
  exact ⟨u_l_due K T.cl, (pss_cons (ps_if (PW.pt (pw_or (pt_not (pt_val (pe_callB call_isiG (by rfl) T.z_isinstance (by decide +kernel) (pa_cons (pv 1) (pa_cons (pe_bltn (v := .ty "tuple") (by rfl) T.z_tuple (by decide +kernel) rfl) pa_nil))))) (pw_or1 (pt_cmpR op_gt (pe_callB call_lenG (by rfl) T.z_len PySem.boot_len (pa_cons (pv 1) pa_nil)) pe_int (nomark _))))) (pss_one (ps_ret pe_str)) pss_nil) (pss_cons (ps_for PassesOwn.never rfl (pi_enumA (by rfl) T.z_enumerate (pa_cons (pv 1) pa_nil)) (pg_tup rfl (pgs_cons (pg_name (i := 2) nd rfl (Or.inl rfl)) (pgs_cons (pg_name (i := 3) nd rfl (Or.inl rfl)) pgs_nil))) (pss_cons (ps_if (PW.pt (pw_or (pt_not (pt_val (pe_callB call_isiG (by rfl) T.z_isinstance (by decide +kernel) (pa_cons (pv 3) (pa_cons (pe_bltn (v := .ty "tuple") (by rfl) T.z_tuple (by decide +kernel) rfl) pa_nil))))) (pw_or (pt_cmpR (op_neD hr.units) (pe_callB call_lenG (by rfl) T.z_len PySem.boot_len (pa_cons (pv 3) pa_nil)) pe_int (nomark _)) (pw_or1 (pt_not (pt_val (pe_call G_l_is_whole (hr.mono (by decide)) (by rfl) T.g_l_is_whole T.F_l_is_whole.kp T.b_l_is_whole .nil pass0 (pa_cons (pe_ix ix_seq (pv 3) pe_int (fun _ _ => rfl)) (pa_cons pe_int (pa_cons (pe_callB call_lenG (by rfl) T.z_len PySem.boot_len (pa_cons (pv 0) pa_nil)) pa_nil)))))))))) (pss_one (ps_ret (pv 2))) pss_nil) (pss_cons (ps_if (PW.pt (pw_or (pt_not (pt_val (pe_call G_l_is_whole (hr.mono (by decide)) (by rfl) T.g_l_is_whole T.F_l_is_whole.kp T.b_l_is_whole .nil pass0 (pa_cons (pe_ix ix_seq (pv 3) pe_int (fun _ _ => rfl)) (pa_cons pe_int (pa_cons (pe_callB call_lenG (by rfl) T.z_len PySem.boot_len (pa_cons (pv 0) pa_nil)) pa_nil)))))) (pw_or1 (pt_cmpR op_in_seq (pe_ix ix_seq (pv 3) pe_int (fun _ _ => rfl)) (pe_call G_l_beneath (hr.mono (by decide)) (by rfl) T.g_l_beneath T.F_l_beneath.kp T.b_l_beneath .nil pass0 (pa_cons (pv 0) (pa_cons (pe_ix ix_seq (pv 3) pe_int (fun _ _ => rfl)) pa_nil))) (by rfl))))) (pss_one (ps_ret (pv 2))) pss_nil) (pss_one (ps_set (i := 0) nd rfl (Or.inl rfl) (pe_call G_l_put (hr.mono (by decide)) (by rfl) T.g_l_put T.F_l_put.kp T.b_l_put .nil pass0 (pa_cons (pv 0) (pa_cons (pe_ix ix_seq (pv 3) pe_int (fun _ _ => rfl)) (pa_cons (pe_ix ix_seq (pv 3) pe_int (fun _ _ => rfl)) pa_nil))))))))) (pss_one (ps_ret pe_str)))), fn_ok (N := N_l_due) (t := fun E => u_l_due K T.cl) rfl (fun E => sim_l_due fa E) h⟩
theorem ok_l_answer (T : Txt K mg) (fa : Fa K T.cl) (G_History_init : FnOk P w K mg base (L2.CX P w) 4 T.f_History_init T.fd_History_init ["self", "tree", "moves"] (spD (true :: vals 2) (D_History_init T.cl))) : FnOk P w K mg base CX0 6 T.f_l_answer T.fd_l_answer ["_law_tree_here", "_law_moves_here"] (spD (vals 2) (D_l_answer T.cl)) := by
  refine T.F_l_answer.ok sc_l_answer (fun vs H Q E h => spD_len h) (fun cdv A outer s H vs Q E hr h => ?_)
  have nd := sc_l_answer.nd
  exact ⟨u_l_answer K T.cl, (pss_cons (ps_set (i := 2) nd rfl (Or.inl rfl) pe_str) (pss_cons (ps_try_first (i := 3) (tb := fun W => (tDrop (tMakeS T.cl.History (spD (true :: vals 2) (D_History_init T.cl)) (WE W) (tCons (tVar 0) (tCons (tVar 1) tNil))))) (ts := fun a cls d => tAsg (tXf a cls d T.cl.BadHistory "part" (tVar 3)) (gName 2)) rfl rfl nd rfl rfl ⟨rfl, by decide, Or.inl T.g_BadHistory⟩ (fun W pn xe tk po => (pss_one (ps_expr (pe_makeS T.M_History G_History_init (hr.mono (by decide)) (by rfl) T.g_History T.b_History_init (fun σ => passAt tk σ) (pa_cons (pv 0) (pa_cons (pv 1) pa_nil)))))) (fun a oe cls d pn hz hf => (pss_one (ps_set (i := 2) nd rfl (Or.inl rfl) (pe_xf T.xc_BadHistory.xf T.nf_BadHistory_part hz hf (pv 3)))))) (pss_one (ps_ret (pv 2))))), fn_ok (N := N_l_answer) (t := fun E => u_l_answer K T.cl) rfl (fun E => sim_l_answer fa E) h⟩
theorem ok_l_bent (T : Txt K mg) (fa : Fa K T.cl) (G_l_draw : FnOk P w K mg base CX0 1 T.f_l_draw T.fd_l_draw ["_law_hand_here", "_law_many"] (spD (true :: vals 1) (D_l_draw T.cl))) (G_l_odd : FnOk P w K mg base CX0 2 T.f_l_odd T.fd_l_odd ["_law_hand_here", "_law_thing"] (spD (true :: vals 1) (D_l_odd T.cl))) : FnOk P w K mg base CX0 3 T.f_l_bent T.fd_l_bent ["_law_hand_here", "_law_many", "_law_moves_here", "_law_tree_here"] (spD (true :: vals 3) (D_l_bent T.cl)) := by
  refine T.F_l_bent.ok sc_l_bent (fun vs H Q E h => spD_len h) (fun cdv A outer s H vs Q E hr h => ?_)
  have nd := sc_l_bent.nd
  exact ⟨u_l_bent K T.cl, (pss_cons (ps_if (PW.pt (pw_or (pt_cmpR (op_eqD hr.units) (pe_call G_l_draw (hr.mono (by decide)) (by rfl) T.g_l_draw T.F_l_draw.kp T.b_l_draw .nil pass0 (pa_cons (pv 0) (pa_cons pe_int pa_nil))) pe_int (nomark _)) (pw_or1 (pt_cmpR (op_eqD hr.units) (pe_callB call_lenG (by rfl) T.z_len PySem.boot_len (pa_cons (pv 2) pa_nil)) pe_int (nomark _))))) (pss_cons (ps_set (i := 4) nd rfl (Or.inl rfl) (pe_op op_mulG (pe_tup (pa_cons (pe_tup (pa_cons pe_int (pa_cons pe_int pa_nil))) pa_nil)) (pe_op op_addG pe_int (pe_call G_l_draw (hr.mono (by decide)) (by rfl) T.g_l_draw T.F_l_draw.kp T.b_l_draw .nil pass0 (pa_cons (pv 0) (pa_cons pe_int pa_nil)))))) (pss_one (ps_ret (pe_ix ix_seq (pe_lst (pa_cons (pe_callTy call_list_of (by rfl) T.z_list (by decide +kernel) (pa_cons (pv 2) pa_nil)) (pa_cons pe_non (pa_cons pe_str (pa_cons (pe_tup (pa_cons pe_non pa_nil)) (pa_cons (pv 4) (pa_cons (pe_tup (pa_cons (pv 2) pa_nil)) (pa_cons pe_dnewK (pa_cons (pv 3) (pa_cons (pe_call G_l_odd (hr.mono (by decide)) (by rfl) T.g_l_odd T.F_l_odd.kp T.b_l_odd .nil pass0 (pa_cons (pv 0) (pa_cons (pv 3) pa_nil))) pa_nil)))))))))) (pe_call G_l_draw (hr.mono (by decide)) (by rfl) T.g_l_draw T.F_l_draw.kp T.b_l_draw .nil pass0 (pa_cons (pv 0) (pa_cons pe_int pa_nil))) (fun _ _ => rfl))))) pss_nil) (pss_cons (ps_set (i := 5) nd rfl (Or.inl rfl) (pe_call G_l_draw (hr.mono (by decide)) (by rfl) T.g_l_draw T.F_l_draw.kp T.b_l_draw .nil pass0 (pa_cons (pv 0) (pa_cons (pe_callB call_lenG (by rfl) T.z_len PySem.boot_len (pa_cons (pv 2) pa_nil)) pa_nil)))) (pss_cons (ps_asg (pe_ix ix_seq (pv 2) (pv 5) (fun _ _ => rfl)) (pg_tup rfl (pgs_cons (pg_name (i := 6) nd rfl (Or.inl rfl)) (pgs_cons (pg_name (i := 7) nd rfl (Or.inl rfl)) pgs_nil)))) (pss_cons (ps_set (i := 8) nd rfl (Or.inl rfl) (pe_lst (pa_cons (pe_tup (pa_cons (pv 6) (pa_cons (pv 6) pa_nil))) (pa_cons (pe_tup (pa_cons (pe_op op_addG pe_int (pe_call G_l_draw (hr.mono (by decide)) (by rfl) T.g_l_draw T.F_l_draw.kp T.b_l_draw .nil pass0 (pa_cons (pv 0) (pa_cons (pv 1) pa_nil)))) (pa_cons (pe_call G_l_draw (hr.mono (by decide)) (by rfl) T.g_l_draw T.F_l_draw.kp T.b_l_draw .nil pass0 (pa_cons (pv 0) (pa_cons (pe_op op_addG (pv 1) pe_int) pa_nil))) pa_nil))) (pa_cons (pe_tup (pa_cons pe_int (pa_cons (pv 7) pa_nil))) (pa_cons (pe_tup (pa_cons (pe_op op_addG (pv 1) pe_int) (pa_cons (pv 7) pa_nil))) pa_nil)))))) (pss_cons (ps_set (i := 8) nd rfl (Or.inl rfl) (pe_op op_addG (pv 8) (pe_lst (pa_cons (pe_tup (pa_cons (pv 6) (pa_cons (pe_op op_addG (pv 1) pe_int) pa_nil))) (pa_cons (pe_tup (pa_cons (pv 6) (pa_cons (pe_un un_neg pe_int) pa_nil))) (pa_cons (pe_tup (pa_cons pe_bl (pa_cons (pv 7) pa_nil))) (pa_cons (pe_tup (pa_cons (pv 6) (pa_cons pe_bl pa_nil))) (pa_cons (pe_lst (pa_cons (pv 6) (pa_cons (pv 7) pa_nil))) (pa_cons (pe_tup (pa_cons (pv 6) pa_nil)) (pa_cons pe_non pa_nil)))))))))) (pss_cons (ps_set (i := 9) nd rfl (Or.inl rfl) (pe_ix ix_seq (pe_op op_addG (pv 8) (pe_lst (pa_cons (pe_tup (pa_cons (pv 6) (pa_cons (pv 7) (pa_cons pe_int pa_nil)))) (pa_cons (pe_tup (pa_cons (pv 6) (pa_cons pe_str pa_nil))) (pa_cons (pe_call G_l_odd (hr.mono (by decide)) (by rfl) T.g_l_odd T.F_l_odd.kp T.b_l_odd .nil pass0 (pa_cons (pv 0) (pa_cons (pv 3) pa_nil))) (pa_cons (pe_tup (pa_cons (pe_call G_l_odd (hr.mono (by decide)) (by rfl) T.g_l_odd T.F_l_odd.kp T.b_l_odd .nil pass0 (pa_cons (pv 0) (pa_cons (pv 3) pa_nil))) (pa_cons (pv 7) pa_nil))) pa_nil)))))) (pe_call G_l_draw (hr.mono (by decide)) (by rfl) T.g_l_draw T.F_l_draw.kp T.b_l_draw .nil pass0 (pa_cons (pv 0) (pa_cons pe_int pa_nil))) (fun _ _ => rfl))) (pss_one (ps_ret (pe_op op_addG (pe_op op_addG (pe_slice sl_G (pv 2) po_none (po_some (pv 5))) (pe_tup (pa_cons (pv 9) pa_nil))) (pe_slice sl_G (pv 2) (po_some (pe_op op_addG (pv 5) pe_int)) po_none)))))))))), fn_ok (N := N_l_bent) (t := fun E => u_l_bent K T.cl) rfl (fun E => sim_l_bent fa E) h⟩
theorem ok_law (T : Txt K mg) (fa : Fa K T.cl) (G_History_eq : FnOk P w K mg base CX0 3 T.f_History_eq T.fd_History_eq ["self", "other"] (spD (vals 2) (D_History_eq T.cl))) (G_History_init : FnOk P w K mg base (L2.CX P w) 4 T.f_History_init T.fd_History_init ["self", "tree", "moves"] (spD (true :: vals 2) (D_History_init T.cl))) (G_Tree_init : FnOk P w K mg base (L2.CX P w) 3 T.f_Tree_init T.fd_Tree_init ["self", "hung"] (spD (true :: vals 1) (D_Tree_init T.cl))) (G_l_answer : FnOk P w K mg base CX0 6 T.f_l_answer T.fd_l_answer ["_law_tree_here", "_law_moves_here"] (spD (vals 2) (D_l_answer T.cl))) (G_l_bent : FnOk P w K mg base CX0 3 T.f_l_bent T.fd_l_bent ["_law_hand_here", "_law_many", "_law_moves_here", "_law_tree_here"] (spD (true :: vals 3) (D_l_bent T.cl))) (G_l_draw : FnOk P w K mg base CX0 1 T.f_l_draw T.fd_l_draw ["_law_hand_here", "_law_many"] (spD (true :: vals 1) (D_l_draw T.cl))) (G_l_due : FnOk P w K mg base CX0 3 T.f_l_due T.fd_l_due ["_law_hung", "_law_moves_here"] (spD (vals 2) (D_l_due T.cl))) (G_l_hand : FnOk P w K mg base CX0 1 T.f_l_hand T.fd_l_hand ["_law_script"] (spHead K HandOk)) (G_l_moves : FnOk P w K mg base CX0 3 T.f_l_moves T.fd_l_moves ["_law_hand_here", "_law_hung", "_law_many"] (spD (true :: vals 2) (D_l_moves T.cl))) (G_l_odd : FnOk P w K mg base CX0 2 T.f_l_odd T.fd_l_odd ["_law_hand_here", "_law_thing"] (spD (true :: vals 1) (D_l_odd T.cl))) (G_l_tree : FnOk P w K mg base CX0 2 T.f_l_tree T.fd_l_tree ["_law_hand_here", "_law_many"] (spD (true :: vals 1) (D_l_tree T.cl))) (G_now : FnOk P w K mg base CX0 5 T.f_now T.fd_now ["history"] (spD (vals 1) (D_now T.cl))) : FnOk P w K mg base CX0 7 T.f_law T.fd_law ["_law_script"] (spLaw K) := by
  refine T.F_law.ok sc_law (fun vs H Q E h => len_law h) (fun cdv A outer s H vs Q E hr h => ?_)
  have nd := sc_law.nd
  exact ⟨u_law K T.cl, (pss_cons (ps_set (i := 1) nd rfl (Or.inl rfl) (pe_call G_l_hand (hr.mono (by decide)) (by rfl) T.g_l_hand T.F_l_hand.kp T.b_l_hand .nil pass0 (pa_cons (pv 0) pa_nil))) (pss_cons (ps_for PassesOwn.never rfl (pi_range1 (by rfl) T.z_range (pa_cons pe_int pa_nil)) (pg_name (i := 2) nd rfl (Or.inl rfl)) (pss_cons (ps_set (i := 3) nd rfl (Or.inl rfl) (pe_op op_addG pe_int (pe_call G_l_draw (hr.mono (by decide)) (by rfl) T.g_l_draw T.F_l_draw.kp T.b_l_draw .nil pass0 (pa_cons (pv 1) (pa_cons pe_int pa_nil))))) (pss_cons (ps_set (i := 4) nd rfl (Or.inl rfl) (pe_call G_l_tree (hr.mono (by decide)) (by rfl) T.g_l_tree T.F_l_tree.kp T.b_l_tree .nil pass0 (pa_cons (pv 1) (pa_cons (pv 3) pa_nil)))) (pss_cons (ps_asg (pe_call G_l_moves (hr.mono (by decide)) (by rfl) T.g_l_moves T.F_l_moves.kp T.b_l_moves .nil pass0 (pa_cons (pv 1) (pa_cons (pv 4) (pa_cons (pe_call G_l_draw (hr.mono (by decide)) (by rfl) T.g_l_draw T.F_l_draw.kp T.b_l_draw .nil pass0 (pa_cons (pv 1) (pa_cons pe_int pa_nil))) pa_nil)))) (pg_tup rfl (pgs_cons (pg_name (i := 5) nd rfl (Or.inl rfl)) (pgs_cons (pg_name (i := 6) nd rfl (Or.inl rfl)) pgs_nil)))) (pss_cons (ps_par (by rfl) nd rfl rfl (by decide) rfl rfl (pa_cons (pe_make T.M_History G_History_init (hr.mono (by decide)) (by rfl) T.g_History T.b_History_init .nil passL (pa_cons (pe_make T.M_Tree G_Tree_init (hr.mono (by decide)) (by rfl) T.g_Tree T.b_Tree_init .nil passL (pa_cons (pv 4) pa_nil)) (pa_cons (pv 5) pa_nil))) (pa_cons (pe_make T.M_History G_History_init (hr.mono (by decide)) (by rfl) T.g_History T.b_History_init .nil passL (pa_cons (pe_make T.M_Tree G_Tree_init (hr.mono (by decide)) (by rfl) T.g_Tree T.b_Tree_init .nil passL (pa_cons (pv 4) pa_nil)) (pa_cons (pv 5) pa_nil))) pa_nil)) (by rfl)) (pss_cons (ps_if (PW.pt (pw_or (pt_cmpR (op_neD hr.units) (pe_fld (pe_fld (pv 7) rfl) rfl) (pv 4) (nomark _)) (pw_or (pt_cmpR (op_neD hr.units) (pe_fld (pv 7) rfl) (pv 5) (nomark _)) (pw_or (pt_cmpR (op_neD hr.units) (pe_fld (pe_call G_now (hr.mono (by decide)) (by rfl) T.g_now T.F_now.kp T.b_now .nil pass0 (pa_cons (pv 7) pa_nil)) rfl) (pv 6) (nomark _)) (pw_or1 (pt_not (pt_cmpR (op_eqOwn G_History_eq (hr.mono (by decide)) T.e_History T.ef_History T.b_History_eq pass0) (pv 7) (pv 8) (nomark _)))))))) (pss_one (ps_ret pe_bl)) pss_nil) (pss_cons (ps_if (PW.pt (pw_or (pt_cmpR (op_neOwn G_History_eq (hr.mono (by decide)) T.ne_History T.b_History_eq pass0) (pv 7) (pv 8) (nomark _)) (pw_or (pt_cmpR (op_eqOwn G_History_eq (hr.mono (by decide)) T.e_History T.ef_History T.b_History_eq pass0) (pv 7) (pv 5) (nomark _)) (pw_or (pt_cmpR (op_eqOwn G_History_eq (hr.mono (by decide)) T.e_History T.ef_History T.b_History_eq pass0) (pv 7) (pe_tup (pa_cons (pe_make T.M_Tree G_Tree_init (hr.mono (by decide)) (by rfl) T.g_Tree T.b_Tree_init .nil passL (pa_cons (pv 4) pa_nil)) (pa_cons (pv 5) pa_nil))) (nomark _)) (pw_or1 (pt_cmpR (op_neD hr.units) (pe_cmpR (op_eqOwn G_History_eq (hr.mono (by decide)) T.e_History T.ef_History T.b_History_eq pass0) (pv 7) (pe_make T.M_History G_History_init (hr.mono (by decide)) (by rfl) T.g_History T.b_History_init .nil passL (pa_cons (pe_make T.M_Tree G_Tree_init (hr.mono (by decide)) (by rfl) T.g_Tree T.b_Tree_init .nil passL (pa_cons (pv 4) pa_nil)) (pa_cons (pe_tup pa_nil) pa_nil))) (nomark _)) (pe_cmpR (op_eqD hr.units) (pv 5) (pe_tup pa_nil) (nomark _)) (nomark _))))))) (pss_one (ps_ret pe_bl)) pss_nil) (pss_cons (ps_set (i := 9) nd rfl (Or.inl rfl) (pe_call G_l_bent (hr.mono (by decide)) (by rfl) T.g_l_bent T.F_l_bent.kp T.b_l_bent .nil pass0 (pa_cons (pv 1) (pa_cons (pv 3) (pa_cons (pv 5) (pa_cons (pe_make T.M_Tree G_Tree_init (hr.mono (by decide)) (by rfl) T.g_Tree T.b_Tree_init .nil passL (pa_cons (pv 4) pa_nil)) pa_nil)))))) (pss_cons (ps_par (by rfl) nd rfl rfl (by decide) rfl rfl (pa_cons (pe_call G_l_due (hr.mono (by decide)) (by rfl) T.g_l_due T.F_l_due.kp T.b_l_due .nil pass0 (pa_cons (pv 4) (pa_cons (pv 9) pa_nil))) (pa_cons (pe_call G_l_answer (hr.mono (by decide)) (by rfl) T.g_l_answer T.F_l_answer.kp T.b_l_answer .nil pass0 (pa_cons (pe_make T.M_Tree G_Tree_init (hr.mono (by decide)) (by rfl) T.g_Tree T.b_Tree_init .nil passL (pa_cons (pv 4) pa_nil)) (pa_cons (pv 9) pa_nil))) pa_nil)) (by rfl)) (pss_cons (ps_if (PW.pt (pw_or (pt_cmpR (op_neD hr.units) (pe_callB call_isiG (by rfl) T.z_isinstance (by decide +kernel) (pa_cons (pv 10) (pa_cons (pe_bltn (v := .ty "str") (by rfl) T.z_str (by decide +kernel) rfl) pa_nil))) (pe_callB call_isiG (by rfl) T.z_isinstance (by decide +kernel) (pa_cons (pv 11) (pa_cons (pe_bltn (v := .ty "str") (by rfl) T.z_str (by decide +kernel) rfl) pa_nil))) (nomark _)) (pw_or (pt_val (pe_callB call_isiG (by rfl) T.z_isinstance (by decide +kernel) (pa_cons (pv 11) (pa_cons (pe_bltn (v := .ty "bool") (by rfl) T.z_bool (by decide +kernel) rfl) pa_nil)))) (pw_or1 (pt_cmpR (op_neD hr.units) (pv 11) (pv 10) (nomark _)))))) (pss_one (ps_ret pe_bl)) pss_nil) (pss_one (ps_if (pt_cmpR (op_neD hr.units) (pe_call G_l_answer (hr.mono (by decide)) (by rfl) T.g_l_answer T.F_l_answer.kp T.b_l_answer .nil pass0 (pa_cons (pe_ix ix_seq (pe_lst (pa_cons (pv 4) (pa_cons pe_non (pa_cons (pe_callTy call_list_of (by rfl) T.z_list (by decide +kernel) (pa_cons (pv 4) pa_nil)) (pa_cons (pe_call G_l_odd (hr.mono (by decide)) (by rfl) T.g_l_odd T.F_l_odd.kp T.b_l_odd .nil pass0 (pa_cons (pv 1) (pa_cons (pv 4) pa_nil))) pa_nil))))) (pe_call G_l_draw (hr.mono (by decide)) (by rfl) T.g_l_draw T.F_l_draw.kp T.b_l_draw .nil pass0 (pa_cons (pv 1) (pa_cons pe_int pa_nil))) (fun _ _ => rfl)) (pa_cons (pv 9) pa_nil))) pe_str (nomark _)) (pss_one (ps_ret pe_bl)) pss_nil)))))))))))) (pss_one (ps_ret pe_bl)))), pure_law fa h⟩
end
def allStr (es : Array DictEntry) : Bool := es.toList.all fun e => match e.key with | .str _ _ => true | _ => false
theorem ns_ok {K : PySem.W.Frag} {N : Addr} {c : Value} {d : Option Addr} {es : Array DictEntry} {n : Nat} {sl : Array (Option Value)} (h : K.lookup N = some ⟨c, d, .dict es n, sl⟩) (q : allStr es = true) : PySem.W.nsOkIn K N = true := by
  unfold PySem.W.nsOkIn
  rw [h]
  unfold allStr at q
  rw [Array.all_toList] at q
  exact q
theorem all_mk {l : PySem.W.OpenLaw} {w : World} {K : PySem.W.Frag} {h : Heap} {mg : Str → Option Value} {fa : Addr} (X : K.In h) (G : h.Ns mainGlobals mg) (hfa : mg "law" = some (.ref fa))
    {k_HEAD : Tok}
    {k_MOST_BLOCKS : Tok}
    {k_MOST_MOVES : Tok}
    {C_Tree : Addr}
    {C_History : Addr}
    {C_BadTree : Addr}
    {C_BadHistory : Addr}
    {f_BadTree_init : Addr} {od_BadTree_init an_BadTree_init : Option Addr} {sl_BadTree_init : Array (Option Value)} {oc_BadTree_init kV_BadTree_init dc_BadTree_init pm_BadTree_init cd_BadTree_init ct_BadTree_init : Value}
    {f_BadHistory_init : Addr} {od_BadHistory_init an_BadHistory_init : Option Addr} {sl_BadHistory_init : Array (Option Value)} {oc_BadHistory_init kV_BadHistory_init dc_BadHistory_init pm_BadHistory_init cd_BadHistory_init ct_BadHistory_init : Value}
    {f_is_integer : Addr} {od_is_integer an_is_integer : Option Addr} {sl_is_integer : Array (Option Value)} {oc_is_integer kV_is_integer dc_is_integer pm_is_integer cd_is_integer ct_is_integer : Value}
    {f_is_within : Addr} {od_is_within an_is_within : Option Addr} {sl_is_within : Array (Option Value)} {oc_is_within kV_is_within dc_is_within pm_is_within cd_is_within ct_is_within : Value}
    {f_is_pair : Addr} {od_is_pair an_is_pair : Option Addr} {sl_is_pair : Array (Option Value)} {oc_is_pair kV_is_pair dc_is_pair pm_is_pair cd_is_pair ct_is_pair : Value}
    {f_leads_home : Addr} {od_leads_home an_leads_home : Option Addr} {sl_leads_home : Array (Option Value)} {oc_leads_home kV_leads_home dc_leads_home pm_leads_home cd_leads_home ct_leads_home : Value}
    {f_Tree_init : Addr} {od_Tree_init an_Tree_init : Option Addr} {sl_Tree_init : Array (Option Value)} {oc_Tree_init kV_Tree_init dc_Tree_init pm_Tree_init cd_Tree_init ct_Tree_init : Value}
    {f_Tree_eq : Addr} {od_Tree_eq an_Tree_eq : Option Addr} {sl_Tree_eq : Array (Option Value)} {oc_Tree_eq kV_Tree_eq dc_Tree_eq pm_Tree_eq cd_Tree_eq ct_Tree_eq : Value}
    {f_hanging : Addr} {od_hanging an_hanging : Option Addr} {sl_hanging : Array (Option Value)} {oc_hanging kV_hanging dc_hanging pm_hanging cd_hanging ct_hanging : Value}
    {f_beneath_in : Addr} {od_beneath_in an_beneath_in : Option Addr} {sl_beneath_in : Array (Option Value)} {oc_beneath_in kV_beneath_in dc_beneath_in pm_beneath_in cd_beneath_in ct_beneath_in : Value}
    {f_with_place : Addr} {od_with_place an_with_place : Option Addr} {sl_with_place : Array (Option Value)} {oc_with_place kV_with_place dc_with_place pm_with_place cd_with_place ct_with_place : Value}
    {f_is_move : Addr} {od_is_move an_is_move : Option Addr} {sl_is_move : Array (Option Value)} {oc_is_move kV_is_move dc_is_move pm_is_move cd_is_move ct_is_move : Value}
    {f_trees_along : Addr} {od_trees_along an_trees_along : Option Addr} {sl_trees_along : Array (Option Value)} {oc_trees_along kV_trees_along dc_trees_along pm_trees_along cd_trees_along ct_trees_along : Value}
    {f_History_init : Addr} {od_History_init an_History_init : Option Addr} {sl_History_init : Array (Option Value)} {oc_History_init kV_History_init dc_History_init pm_History_init cd_History_init ct_History_init : Value}
    {f_History_eq : Addr} {od_History_eq an_History_eq : Option Addr} {sl_History_eq : Array (Option Value)} { kV_History_eq dc_History_eq pm_History_eq cd_History_eq ct_History_eq : Value}
    {f_now : Addr} {od_now an_now : Option Addr} {sl_now : Array (Option Value)} {oc_now kV_now dc_now pm_now cd_now ct_now : Value}
    {f_l_hand : Addr} {od_l_hand an_l_hand : Option Addr} {sl_l_hand : Array (Option Value)} {oc_l_hand kV_l_hand dc_l_hand pm_l_hand cd_l_hand ct_l_hand : Value}
    {f_l_draw : Addr} {od_l_draw an_l_draw : Option Addr} {sl_l_draw : Array (Option Value)} {oc_l_draw kV_l_draw dc_l_draw pm_l_draw cd_l_draw ct_l_draw : Value}
    {f_l_tree : Addr} {od_l_tree an_l_tree : Option Addr} {sl_l_tree : Array (Option Value)} {oc_l_tree kV_l_tree dc_l_tree pm_l_tree cd_l_tree ct_l_tree : Value}
    {f_l_row : Addr} {od_l_row an_l_row : Option Addr} {sl_l_row : Array (Option Value)} {oc_l_row kV_l_row dc_l_row pm_l_row cd_l_row ct_l_row : Value}
    {f_l_beneath : Addr} {od_l_beneath an_l_beneath : Option Addr} {sl_l_beneath : Array (Option Value)} {oc_l_beneath kV_l_beneath dc_l_beneath pm_l_beneath cd_l_beneath ct_l_beneath : Value}
    {f_l_put : Addr} {od_l_put an_l_put : Option Addr} {sl_l_put : Array (Option Value)} {oc_l_put kV_l_put dc_l_put pm_l_put cd_l_put ct_l_put : Value}
    {f_l_moves : Addr} {od_l_moves an_l_moves : Option Addr} {sl_l_moves : Array (Option Value)} {oc_l_moves kV_l_moves dc_l_moves pm_l_moves cd_l_moves ct_l_moves : Value}
    {f_l_deep : Addr} {od_l_deep an_l_deep : Option Addr} {sl_l_deep : Array (Option Value)} {oc_l_deep kV_l_deep dc_l_deep pm_l_deep cd_l_deep ct_l_deep : Value}
    {f_l_odd : Addr} {od_l_odd an_l_odd : Option Addr} {sl_l_odd : Array (Option Value)} {oc_l_odd kV_l_odd dc_l_odd pm_l_odd cd_l_odd ct_l_odd : Value}
    {f_l_is_whole : Addr} {od_l_is_whole an_l_is_whole : Option Addr} {sl_l_is_whole : Array (Option Value)} {oc_l_is_whole kV_l_is_whole dc_l_is_whole pm_l_is_whole cd_l_is_whole ct_l_is_whole : Value}
    {f_l_due : Addr} {od_l_due an_l_due : Option Addr} {sl_l_due : Array (Option Value)} {oc_l_due kV_l_due dc_l_due pm_l_due cd_l_due ct_l_due : Value}
    {f_l_answer : Addr} {od_l_answer an_l_answer : Option Addr} {sl_l_answer : Array (Option Value)} {oc_l_answer kV_l_answer dc_l_answer pm_l_answer cd_l_answer ct_l_answer : Value}
    {f_l_bent : Addr} {od_l_bent an_l_bent : Option Addr} {sl_l_bent : Array (Option Value)} {oc_l_bent kV_l_bent dc_l_bent pm_l_bent cd_l_bent ct_l_bent : Value}
    {f_law : Addr} {od_law an_law : Option Addr} {sl_law : Array (Option Value)} {oc_law kV_law dc_law pm_law cd_law ct_law : Value}
    {nm_History qn_History : Str} {N_History : Addr} {bs_History sub_History : List Value} {sn_History : List Str} {ab_History hd0_History : Bool} {col_History : Option Bool} {dd_History : Option Addr} {m0_History m1_History m2_History m3_History m5_History : Option Value} {new_History : String}
    {nc_History : Value} {nd_History : Option Addr} {es_History : Array DictEntry} {en_History : Nat} {ns_History : Array (Option Value)}
    {nm_BadTree qn_BadTree : Str} {N_BadTree : Addr} {bs_BadTree sub_BadTree : List Value} {sn_BadTree : List Str} {ab_BadTree : Bool} {col_BadTree : Option Bool} {dd_BadTree : Option Addr} {m0_BadTree m1_BadTree m2_BadTree m3_BadTree m5_BadTree : Option Value}
    {nm_BadHistory qn_BadHistory : Str} {N_BadHistory : Addr} {bs_BadHistory sub_BadHistory : List Value} {sn_BadHistory : List Str} {ab_BadHistory : Bool} {col_BadHistory : Option Bool} {dd_BadHistory : Option Addr} {m0_BadHistory m1_BadHistory m2_BadHistory m3_BadHistory m5_BadHistory : Option Value}
    (z_abs : PySem.W.nsIn K mainGlobals "abs" = some none)
    (z_bool : PySem.W.nsIn K mainGlobals "bool" = some none)
    (z_enumerate : PySem.W.nsIn K mainGlobals "enumerate" = some none)
    (z_int : PySem.W.nsIn K mainGlobals "int" = some none)
    (z_isinstance : PySem.W.nsIn K mainGlobals "isinstance" = some none)
    (z_len : PySem.W.nsIn K mainGlobals "len" = some none)
    (z_list : PySem.W.nsIn K mainGlobals "list" = some none)
    (z_range : PySem.W.nsIn K mainGlobals "range" = some none)
    (z_sorted : PySem.W.nsIn K mainGlobals "sorted" = some none)
    (z_str : PySem.W.nsIn K mainGlobals "str" = some none)
    (z_tuple : PySem.W.nsIn K mainGlobals "tuple" = some none)
    (c_HEAD : PySem.W.nsIn K mainGlobals "HEAD" = some (some (.int 0 k_HEAD)))
    (c_MOST_BLOCKS : PySem.W.nsIn K mainGlobals "MOST_BLOCKS" = some (some (.int 40 k_MOST_BLOCKS)))
    (c_MOST_MOVES : PySem.W.nsIn K mainGlobals "MOST_MOVES" = some (some (.int 100 k_MOST_MOVES)))
    (a_Tree : PySem.W.nsIn K mainGlobals "Tree" = some (some (.ref C_Tree)))
    (a_History : PySem.W.nsIn K mainGlobals "History" = some (some (.ref C_History)))
    (a_BadTree : PySem.W.nsIn K mainGlobals "BadTree" = some (some (.ref C_BadTree)))
    (a_BadHistory : PySem.W.nsIn K mainGlobals "BadHistory" = some (some (.ref C_BadHistory)))
    (a_BadTree_init : PySem.W.findIn K (.ref C_BadTree) "__init__" = some (some (.ref f_BadTree_init)))
    (l_BadTree_init : K.lookup f_BadTree_init = some ⟨oc_BadTree_init, od_BadTree_init, .func (PySem.W.fnOf "__init__" "BadTree.__init__" (defArgs s_BadTree_init) (defBody s_BadTree_init) (defScope s_BadTree_init) .none kV_BadTree_init dc_BadTree_init pm_BadTree_init an_BadTree_init cd_BadTree_init ct_BadTree_init), sl_BadTree_init⟩)
    (d_BadTree_init : PySem.W.codeIn K cd_BadTree_init "BadTree.__init__" = true)
    (p_BadTree_init : PySem.W.keepIn K (.ref f_BadTree_init) = true)
    (a_BadHistory_init : PySem.W.findIn K (.ref C_BadHistory) "__init__" = some (some (.ref f_BadHistory_init)))
    (l_BadHistory_init : K.lookup f_BadHistory_init = some ⟨oc_BadHistory_init, od_BadHistory_init, .func (PySem.W.fnOf "__init__" "BadHistory.__init__" (defArgs s_BadHistory_init) (defBody s_BadHistory_init) (defScope s_BadHistory_init) .none kV_BadHistory_init dc_BadHistory_init pm_BadHistory_init an_BadHistory_init cd_BadHistory_init ct_BadHistory_init), sl_BadHistory_init⟩)
    (d_BadHistory_init : PySem.W.codeIn K cd_BadHistory_init "BadHistory.__init__" = true)
    (p_BadHistory_init : PySem.W.keepIn K (.ref f_BadHistory_init) = true)
    (a_is_integer : PySem.W.nsIn K mainGlobals "is_integer" = some (some (.ref f_is_integer)))
    (l_is_integer : K.lookup f_is_integer = some ⟨oc_is_integer, od_is_integer, .func (PySem.W.fnOf "is_integer" "is_integer" (defArgs s_is_integer) (defBody s_is_integer) (defScope s_is_integer) .none kV_is_integer dc_is_integer pm_is_integer an_is_integer cd_is_integer ct_is_integer), sl_is_integer⟩)
    (d_is_integer : PySem.W.codeIn K cd_is_integer "is_integer" = true)
    (p_is_integer : PySem.W.keepIn K (.ref f_is_integer) = true)
    (a_is_within : PySem.W.nsIn K mainGlobals "is_within" = some (some (.ref f_is_within)))
    (l_is_within : K.lookup f_is_within = some ⟨oc_is_within, od_is_within, .func (PySem.W.fnOf "is_within" "is_within" (defArgs s_is_within) (defBody s_is_within) (defScope s_is_within) .none kV_is_within dc_is_within pm_is_within an_is_within cd_is_within ct_is_within), sl_is_within⟩)
    (d_is_within : PySem.W.codeIn K cd_is_within "is_within" = true)
    (p_is_within : PySem.W.keepIn K (.ref f_is_within) = true)
    (a_is_pair : PySem.W.nsIn K mainGlobals "is_pair" = some (some (.ref f_is_pair)))
    (l_is_pair : K.lookup f_is_pair = some ⟨oc_is_pair, od_is_pair, .func (PySem.W.fnOf "is_pair" "is_pair" (defArgs s_is_pair) (defBody s_is_pair) (defScope s_is_pair) .none kV_is_pair dc_is_pair pm_is_pair an_is_pair cd_is_pair ct_is_pair), sl_is_pair⟩)
    (d_is_pair : PySem.W.codeIn K cd_is_pair "is_pair" = true)
    (p_is_pair : PySem.W.keepIn K (.ref f_is_pair) = true)
    (a_leads_home : PySem.W.nsIn K mainGlobals "leads_home" = some (some (.ref f_leads_home)))
    (l_leads_home : K.lookup f_leads_home = some ⟨oc_leads_home, od_leads_home, .func (PySem.W.fnOf "leads_home" "leads_home" (defArgs s_leads_home) (defBody s_leads_home) (defScope s_leads_home) .none kV_leads_home dc_leads_home pm_leads_home an_leads_home cd_leads_home ct_leads_home), sl_leads_home⟩)
    (d_leads_home : PySem.W.codeIn K cd_leads_home "leads_home" = true)
    (p_leads_home : PySem.W.keepIn K (.ref f_leads_home) = true)
    (a_Tree_init : PySem.W.findIn K (.ref C_Tree) "__init__" = some (some (.ref f_Tree_init)))
    (l_Tree_init : K.lookup f_Tree_init = some ⟨oc_Tree_init, od_Tree_init, .func (PySem.W.fnOf "__init__" "Tree.__init__" (defArgs s_Tree_init) (defBody s_Tree_init) (defScope s_Tree_init) .none kV_Tree_init dc_Tree_init pm_Tree_init an_Tree_init cd_Tree_init ct_Tree_init), sl_Tree_init⟩)
    (d_Tree_init : PySem.W.codeIn K cd_Tree_init "Tree.__init__" = true)
    (p_Tree_init : PySem.W.keepIn K (.ref f_Tree_init) = true)
    (a_Tree_eq : PySem.W.findIn K (.ref C_Tree) "__eq__" = some (some (.ref f_Tree_eq)))
    (l_Tree_eq : K.lookup f_Tree_eq = some ⟨oc_Tree_eq, od_Tree_eq, .func (PySem.W.fnOf "__eq__" "Tree.__eq__" (defArgs s_Tree_eq) (defBody s_Tree_eq) (defScope s_Tree_eq) .none kV_Tree_eq dc_Tree_eq pm_Tree_eq an_Tree_eq cd_Tree_eq ct_Tree_eq), sl_Tree_eq⟩)
    (d_Tree_eq : PySem.W.codeIn K cd_Tree_eq "Tree.__eq__" = true)
    (p_Tree_eq : PySem.W.keepIn K (.ref f_Tree_eq) = true)
    (a_hanging : PySem.W.nsIn K mainGlobals "hanging" = some (some (.ref f_hanging)))
    (l_hanging : K.lookup f_hanging = some ⟨oc_hanging, od_hanging, .func (PySem.W.fnOf "hanging" "hanging" (defArgs s_hanging) (defBody s_hanging) (defScope s_hanging) .none kV_hanging dc_hanging pm_hanging an_hanging cd_hanging ct_hanging), sl_hanging⟩)
    (d_hanging : PySem.W.codeIn K cd_hanging "hanging" = true)
    (p_hanging : PySem.W.keepIn K (.ref f_hanging) = true)
    (a_beneath_in : PySem.W.nsIn K mainGlobals "beneath_in" = some (some (.ref f_beneath_in)))
    (l_beneath_in : K.lookup f_beneath_in = some ⟨oc_beneath_in, od_beneath_in, .func (PySem.W.fnOf "beneath_in" "beneath_in" (defArgs s_beneath_in) (defBody s_beneath_in) (defScope s_beneath_in) .none kV_beneath_in dc_beneath_in pm_beneath_in an_beneath_in cd_beneath_in ct_beneath_in), sl_beneath_in⟩)
    (d_beneath_in : PySem.W.codeIn K cd_beneath_in "beneath_in" = true)
    (p_beneath_in : PySem.W.keepIn K (.ref f_beneath_in) = true)
    (a_with_place : PySem.W.nsIn K mainGlobals "with_place" = some (some (.ref f_with_place)))
    (l_with_place : K.lookup f_with_place = some ⟨oc_with_place, od_with_place, .func (PySem.W.fnOf "with_place" "with_place" (defArgs s_with_place) (defBody s_with_place) (defScope s_with_place) .none kV_with_place dc_with_place pm_with_place an_with_place cd_with_place ct_with_place), sl_with_place⟩)
    (d_with_place : PySem.W.codeIn K cd_with_place "with_place" = true)
    (p_with_place : PySem.W.keepIn K (.ref f_with_place) = true)
    (a_is_move : PySem.W.nsIn K mainGlobals "is_move" = some (some (.ref f_is_move)))
    (l_is_move : K.lookup f_is_move = some ⟨oc_is_move, od_is_move, .func (PySem.W.fnOf "is_move" "is_move" (defArgs s_is_move) (defBody s_is_move) (defScope s_is_move) .none kV_is_move dc_is_move pm_is_move an_is_move cd_is_move ct_is_move), sl_is_move⟩)
    (d_is_move : PySem.W.codeIn K cd_is_move "is_move" = true)
    (p_is_move : PySem.W.keepIn K (.ref f_is_move) = true)
    (a_trees_along : PySem.W.nsIn K mainGlobals "trees_along" = some (some (.ref f_trees_along)))
    (l_trees_along : K.lookup f_trees_along = some ⟨oc_trees_along, od_trees_along, .func (PySem.W.fnOf "trees_along" "trees_along" (defArgs s_trees_along) (defBody s_trees_along) (defScope s_trees_along) .none kV_trees_along dc_trees_along pm_trees_along an_trees_along cd_trees_along ct_trees_along), sl_trees_along⟩)
    (d_trees_along : PySem.W.codeIn K cd_trees_along "trees_along" = true)
    (p_trees_along : PySem.W.keepIn K (.ref f_trees_along) = true)
    (a_History_init : PySem.W.findIn K (.ref C_History) "__init__" = some (some (.ref f_History_init)))
    (l_History_init : K.lookup f_History_init = some ⟨oc_History_init, od_History_init, .func (PySem.W.fnOf "__init__" "History.__init__" (defArgs s_History_init) (defBody s_History_init) (defScope s_History_init) .none kV_History_init dc_History_init pm_History_init an_History_init cd_History_init ct_History_init), sl_History_init⟩)
    (d_History_init : PySem.W.codeIn K cd_History_init "History.__init__" = true)
    (p_History_init : PySem.W.keepIn K (.ref f_History_init) = true)
    (a_History_eq : PySem.W.findIn K (.ref C_History) "__eq__" = some (some (.ref f_History_eq)))
    (l_History_eq : K.lookup f_History_eq = some ⟨.type "function", od_History_eq, .func (PySem.W.fnOf "__eq__" "History.__eq__" (defArgs s_History_eq) (defBody s_History_eq) (defScope s_History_eq) .none kV_History_eq dc_History_eq pm_History_eq an_History_eq cd_History_eq ct_History_eq), sl_History_eq⟩)
    (d_History_eq : PySem.W.codeIn K cd_History_eq "History.__eq__" = true)
    (p_History_eq : PySem.W.keepIn K (.ref f_History_eq) = true)
    (a_now : PySem.W.nsIn K mainGlobals "now" = some (some (.ref f_now)))
    (l_now : K.lookup f_now = some ⟨oc_now, od_now, .func (PySem.W.fnOf "now" "now" (defArgs s_now) (defBody s_now) (defScope s_now) .none kV_now dc_now pm_now an_now cd_now ct_now), sl_now⟩)
    (d_now : PySem.W.codeIn K cd_now "now" = true)
    (p_now : PySem.W.keepIn K (.ref f_now) = true)
    (a_l_hand : PySem.W.nsIn K mainGlobals "_law_hand" = some (some (.ref f_l_hand)))
    (l_l_hand : K.lookup f_l_hand = some ⟨oc_l_hand, od_l_hand, .func (PySem.W.fnOf "_law_hand" "_law_hand" (defArgs s_l_hand) (defBody s_l_hand) (defScope s_l_hand) .none kV_l_hand dc_l_hand pm_l_hand an_l_hand cd_l_hand ct_l_hand), sl_l_hand⟩)
    (d_l_hand : PySem.W.codeIn K cd_l_hand "_law_hand" = true)
    (p_l_hand : PySem.W.keepIn K (.ref f_l_hand) = true)
    (a_l_draw : PySem.W.nsIn K mainGlobals "_law_draw" = some (some (.ref f_l_draw)))
    (l_l_draw : K.lookup f_l_draw = some ⟨oc_l_draw, od_l_draw, .func (PySem.W.fnOf "_law_draw" "_law_draw" (defArgs s_l_draw) (defBody s_l_draw) (defScope s_l_draw) .none kV_l_draw dc_l_draw pm_l_draw an_l_draw cd_l_draw ct_l_draw), sl_l_draw⟩)
    (d_l_draw : PySem.W.codeIn K cd_l_draw "_law_draw" = true)
    (p_l_draw : PySem.W.keepIn K (.ref f_l_draw) = true)
    (a_l_tree : PySem.W.nsIn K mainGlobals "_law_tree" = some (some (.ref f_l_tree)))
    (l_l_tree : K.lookup f_l_tree = some ⟨oc_l_tree, od_l_tree, .func (PySem.W.fnOf "_law_tree" "_law_tree" (defArgs s_l_tree) (defBody s_l_tree) (defScope s_l_tree) .none kV_l_tree dc_l_tree pm_l_tree an_l_tree cd_l_tree ct_l_tree), sl_l_tree⟩)
    (d_l_tree : PySem.W.codeIn K cd_l_tree "_law_tree" = true)
    (p_l_tree : PySem.W.keepIn K (.ref f_l_tree) = true)
    (a_l_row : PySem.W.nsIn K mainGlobals "_law_row" = some (some (.ref f_l_row)))
    (l_l_row : K.lookup f_l_row = some ⟨oc_l_row, od_l_row, .func (PySem.W.fnOf "_law_row" "_law_row" (defArgs s_l_row) (defBody s_l_row) (defScope s_l_row) .none kV_l_row dc_l_row pm_l_row an_l_row cd_l_row ct_l_row), sl_l_row⟩)
    (d_l_row : PySem.W.codeIn K cd_l_row "_law_row" = true)
    (p_l_row : PySem.W.keepIn K (.ref f_l_row) = true)
    (a_l_beneath : PySem.W.nsIn K mainGlobals "_law_beneath" = some (some (.ref f_l_beneath)))
    (l_l_beneath : K.lookup f_l_beneath = some ⟨oc_l_beneath, od_l_beneath, .func (PySem.W.fnOf "_law_beneath" "_law_beneath" (defArgs s_l_beneath) (defBody s_l_beneath) (defScope s_l_beneath) .none kV_l_beneath dc_l_beneath pm_l_beneath an_l_beneath cd_l_beneath ct_l_beneath), sl_l_beneath⟩)
    (d_l_beneath : PySem.W.codeIn K cd_l_beneath "_law_beneath" = true)
    (p_l_beneath : PySem.W.keepIn K (.ref f_l_beneath) = true)
    (a_l_put : PySem.W.nsIn K mainGlobals "_law_put" = some (some (.ref f_l_put)))
    (l_l_put : K.lookup f_l_put = some ⟨oc_l_put, od_l_put, .func (PySem.W.fnOf "_law_put" "_law_put" (defArgs s_l_put) (defBody s_l_put) (defScope s_l_put) .none kV_l_put dc_l_put pm_l_put an_l_put cd_l_put ct_l_put), sl_l_put⟩)
    (d_l_put : PySem.W.codeIn K cd_l_put "_law_put" = true)
    (p_l_put : PySem.W.keepIn K (.ref f_l_put) = true)
    (a_l_moves : PySem.W.nsIn K mainGlobals "_law_moves" = some (some (.ref f_l_moves)))
    (l_l_moves : K.lookup f_l_moves = some ⟨oc_l_moves, od_l_moves, .func (PySem.W.fnOf "_law_moves" "_law_moves" (defArgs s_l_moves) (defBody s_l_moves) (defScope s_l_moves) .none kV_l_moves dc_l_moves pm_l_moves an_l_moves cd_l_moves ct_l_moves), sl_l_moves⟩)
    (d_l_moves : PySem.W.codeIn K cd_l_moves "_law_moves" = true)
    (p_l_moves : PySem.W.keepIn K (.ref f_l_moves) = true)
    (a_l_deep : PySem.W.nsIn K mainGlobals "_law_deep" = some (some (.ref f_l_deep)))
    (l_l_deep : K.lookup f_l_deep = some ⟨oc_l_deep, od_l_deep, .func (PySem.W.fnOf "_law_deep" "_law_deep" (defArgs s_l_deep) (defBody s_l_deep) (defScope s_l_deep) .none kV_l_deep dc_l_deep pm_l_deep an_l_deep cd_l_deep ct_l_deep), sl_l_deep⟩)
    (d_l_deep : PySem.W.codeIn K cd_l_deep "_law_deep" = true)
    (p_l_deep : PySem.W.keepIn K (.ref f_l_deep) = true)
    (a_l_odd : PySem.W.nsIn K mainGlobals "_law_odd" = some (some (.ref f_l_odd)))
    (l_l_odd : K.lookup f_l_odd = some ⟨oc_l_odd, od_l_odd, .func (PySem.W.fnOf "_law_odd" "_law_odd" (defArgs s_l_odd) (defBody s_l_odd) (defScope s_l_odd) .none kV_l_odd dc_l_odd pm_l_odd an_l_odd cd_l_odd ct_l_odd), sl_l_odd⟩)
    (d_l_odd : PySem.W.codeIn K cd_l_odd "_law_odd" = true)
    (p_l_odd : PySem.W.keepIn K (.ref f_l_odd) = true)
    (a_l_is_whole : PySem.W.nsIn K mainGlobals "_law_is_whole" = some (some (.ref f_l_is_whole)))
    (l_l_is_whole : K.lookup f_l_is_whole = some ⟨oc_l_is_whole, od_l_is_whole, .func (PySem.W.fnOf "_law_is_whole" "_law_is_whole" (defArgs s_l_is_whole) (defBody s_l_is_whole) (defScope s_l_is_whole) .none kV_l_is_whole dc_l_is_whole pm_l_is_whole an_l_is_whole cd_l_is_whole ct_l_is_whole), sl_l_is_whole⟩)
    (d_l_is_whole : PySem.W.codeIn K cd_l_is_whole "_law_is_whole" = true)
    (p_l_is_whole : PySem.W.keepIn K (.ref f_l_is_whole) = true)
    (a_l_due : PySem.W.nsIn K mainGlobals "_law_due" = some (some (.ref f_l_due)))
    (l_l_due : K.lookup f_l_due = some ⟨oc_l_due, od_l_due, .func (PySem.W.fnOf "_law_due" "_law_due" (defArgs s_l_due) (defBody s_l_due) (defScope s_l_due) .none kV_l_due dc_l_due pm_l_due an_l_due cd_l_due ct_l_due), sl_l_due⟩)
    (d_l_due : PySem.W.codeIn K cd_l_due "_law_due" = true)
    (p_l_due : PySem.W.keepIn K (.ref f_l_due) = true)
    (a_l_answer : PySem.W.nsIn K mainGlobals "_law_answer" = some (some (.ref f_l_answer)))
    (l_l_answer : K.lookup f_l_answer = some ⟨oc_l_answer, od_l_answer, .func (PySem.W.fnOf "_law_answer" "_law_answer" (defArgs s_l_answer) (defBody s_l_answer) (defScope s_l_answer) .none kV_l_answer dc_l_answer pm_l_answer an_l_answer cd_l_answer ct_l_answer), sl_l_answer⟩)
    (d_l_answer : PySem.W.codeIn K cd_l_answer "_law_answer" = true)
    (p_l_answer : PySem.W.keepIn K (.ref f_l_answer) = true)
    (a_l_bent : PySem.W.nsIn K mainGlobals "_law_bent" = some (some (.ref f_l_bent)))
    (l_l_bent : K.lookup f_l_bent = some ⟨oc_l_bent, od_l_bent, .func (PySem.W.fnOf "_law_bent" "_law_bent" (defArgs s_l_bent) (defBody s_l_bent) (defScope s_l_bent) .none kV_l_bent dc_l_bent pm_l_bent an_l_bent cd_l_bent ct_l_bent), sl_l_bent⟩)
    (d_l_bent : PySem.W.codeIn K cd_l_bent "_law_bent" = true)
    (p_l_bent : PySem.W.keepIn K (.ref f_l_bent) = true)
    (a_law : PySem.W.nsIn K mainGlobals "law" = some (some (.ref f_law)))
    (l_law : K.lookup f_law = some ⟨oc_law, od_law, .func (PySem.W.fnOf "law" "law" (defArgs s_law) (defBody s_law) (defScope s_law) .none kV_law dc_law pm_law an_law cd_law ct_law), sl_law⟩)
    (d_law : PySem.W.codeIn K cd_law "law" = true)
    (p_law : PySem.W.keepIn K (.ref f_law) = true)
    (pg_Tree : PySem.W.plainGet K C_Tree Str.empty = true)
    (hd_Tree : PySem.W.hasDictIn K C_Tree = true)
    (po_Tree : PySem.W.plainOver K C_Tree = true)
    (sa_Tree : PySem.W.findIn K (.ref C_Tree) "__setattr__" = some (some (.builtin "object.__setattr__")))
    (mk_Tree : PySem.W.makesIn K C_Tree = true)
    (kc_Tree : PySem.W.keepIn K (.ref C_Tree) = true)
    (ha_Tree : PySem.W.findIn K (.ref C_Tree) "__class__" = some (some (.builtin "object.__class__")))
    (hn_Tree : PySem.W.specialIn K (.builtin "object.__class__") "__get__" = some (some (.builtin "getset_descriptor.__get__")))
    (ht_Tree : PySem.W.takesIn K (.builtin "object.__class__") = some true)
    (hm_Tree : PySem.W.mroIn K C_Tree (.type "object") = some true)
    (me_Tree : PySem.W.kitOne K (.ref C_Tree) (.ref C_Tree) = some true)
    (ktNoneType_Tree : PySem.W.kitOne K (.type "NoneType") (.ref C_Tree) = some false)
    (ntNoneType_Tree : PySem.W.notFirst K C_Tree (.type "NoneType") = true)
    (ktbool_Tree : PySem.W.kitOne K (.type "bool") (.ref C_Tree) = some false)
    (ntbool_Tree : PySem.W.notFirst K C_Tree (.type "bool") = true)
    (ktint_Tree : PySem.W.kitOne K (.type "int") (.ref C_Tree) = some false)
    (ntint_Tree : PySem.W.notFirst K C_Tree (.type "int") = true)
    (ktstr_Tree : PySem.W.kitOne K (.type "str") (.ref C_Tree) = some false)
    (ntstr_Tree : PySem.W.notFirst K C_Tree (.type "str") = true)
    (ktlist_Tree : PySem.W.kitOne K (.type "list") (.ref C_Tree) = some false)
    (ntlist_Tree : PySem.W.notFirst K C_Tree (.type "list") = true)
    (kttuple_Tree : PySem.W.kitOne K (.type "tuple") (.ref C_Tree) = some false)
    (nttuple_Tree : PySem.W.notFirst K C_Tree (.type "tuple") = true)
    (ktdict_Tree : PySem.W.kitOne K (.type "dict") (.ref C_Tree) = some false)
    (ntdict_Tree : PySem.W.notFirst K C_Tree (.type "dict") = true)
    (if_Tree : PySem.W.isFn K (.ref f_Tree_init) = true)
    (nf_Tree_hung : PySem.W.findIn K (.ref C_Tree) "hung" = some none)
    (kiint_Tree : PySem.W.kitOne K (.ref C_Tree) (.type "int") = some false)
    (kibool_Tree : PySem.W.kitOne K (.ref C_Tree) (.type "bool") = some false)
    (kituple_Tree : PySem.W.kitOne K (.ref C_Tree) (.type "tuple") = some false)
    (kilist_Tree : PySem.W.kitOne K (.ref C_Tree) (.type "list") = some false)
    (kidict_Tree : PySem.W.kitOne K (.ref C_Tree) (.type "dict") = some false)
    (kistr_Tree : PySem.W.kitOne K (.ref C_Tree) (.type "str") = some false)
    (ef_Tree : PySem.W.isFn K (.ref f_Tree_eq) = true)
    (pg_History : PySem.W.plainGet K C_History Str.empty = true)
    (hd_History : PySem.W.hasDictIn K C_History = true)
    (po_History : PySem.W.plainOver K C_History = true)
    (sa_History : PySem.W.findIn K (.ref C_History) "__setattr__" = some (some (.builtin "object.__setattr__")))
    (mk_History : PySem.W.makesIn K C_History = true)
    (kc_History : PySem.W.keepIn K (.ref C_History) = true)
    (ha_History : PySem.W.findIn K (.ref C_History) "__class__" = some (some (.builtin "object.__class__")))
    (hn_History : PySem.W.specialIn K (.builtin "object.__class__") "__get__" = some (some (.builtin "getset_descriptor.__get__")))
    (ht_History : PySem.W.takesIn K (.builtin "object.__class__") = some true)
    (hm_History : PySem.W.mroIn K C_History (.type "object") = some true)
    (me_History : PySem.W.kitOne K (.ref C_History) (.ref C_History) = some true)
    (ktNoneType_History : PySem.W.kitOne K (.type "NoneType") (.ref C_History) = some false)
    (ntNoneType_History : PySem.W.notFirst K C_History (.type "NoneType") = true)
    (ktbool_History : PySem.W.kitOne K (.type "bool") (.ref C_History) = some false)
    (ntbool_History : PySem.W.notFirst K C_History (.type "bool") = true)
    (ktint_History : PySem.W.kitOne K (.type "int") (.ref C_History) = some false)
    (ntint_History : PySem.W.notFirst K C_History (.type "int") = true)
    (ktstr_History : PySem.W.kitOne K (.type "str") (.ref C_History) = some false)
    (ntstr_History : PySem.W.notFirst K C_History (.type "str") = true)
    (ktlist_History : PySem.W.kitOne K (.type "list") (.ref C_History) = some false)
    (ntlist_History : PySem.W.notFirst K C_History (.type "list") = true)
    (kttuple_History : PySem.W.kitOne K (.type "tuple") (.ref C_History) = some false)
    (nttuple_History : PySem.W.notFirst K C_History (.type "tuple") = true)
    (ktdict_History : PySem.W.kitOne K (.type "dict") (.ref C_History) = some false)
    (ntdict_History : PySem.W.notFirst K C_History (.type "dict") = true)
    (if_History : PySem.W.isFn K (.ref f_History_init) = true)
    (nf_History_tree : PySem.W.findIn K (.ref C_History) "tree" = some none)
    (nf_History_moves : PySem.W.findIn K (.ref C_History) "moves" = some none)
    (kiint_History : PySem.W.kitOne K (.ref C_History) (.type "int") = some false)
    (kibool_History : PySem.W.kitOne K (.ref C_History) (.type "bool") = some false)
    (kituple_History : PySem.W.kitOne K (.ref C_History) (.type "tuple") = some false)
    (kilist_History : PySem.W.kitOne K (.ref C_History) (.type "list") = some false)
    (kidict_History : PySem.W.kitOne K (.ref C_History) (.type "dict") = some false)
    (kistr_History : PySem.W.kitOne K (.ref C_History) (.type "str") = some false)
    (ef_History : PySem.W.isFn K (.ref f_History_eq) = true)
    (xL_History : K.lookup C_History = some (excClassObj nm_History qn_History C_History N_History bs_History [.type "object"] hd0_History sn_History sub_History ab_History col_History dd_History m0_History m1_History m2_History m3_History m5_History new_History))
    (nL_History : K.lookup N_History = some ⟨nc_History, nd_History, .dict es_History en_History, ns_History⟩)
    (no_History : allStr es_History = true)
    (ne0_History : PySem.W.nsIn K N_History "__eq__" = some (some (.ref f_History_eq)))
    (ne1_History : PySem.W.nsIn K N_History "__ne__" = some none)
    (sa_BadTree : PySem.W.findIn K (.ref C_BadTree) "__setattr__" = some (some (.builtin "object.__setattr__")))
    (be_BadTree : PySem.W.subIn K (.ref C_BadTree) (.type "BaseException") = some true)
    (ty_BadTree : PySem.W.typeIn K (.ref C_BadTree) = some (.type "type"))
    (kc_BadTree : PySem.W.keepIn K (.ref C_BadTree) = true)
    (ic_BadTree : PySem.W.isClsIn K C_BadTree = true)
    (ss_BadTree : PySem.W.subIn K (.ref C_BadTree) (.ref C_BadTree) = some true)
    (ga_BadTree : PySem.W.findIn K (.ref C_BadTree) "__getattribute__" = some (some (.builtin "BaseException.__getattribute__")))
    (gt_BadTree : PySem.W.findIn K (.ref C_BadTree) "__getattr__" = some none)
    (hd_BadTree : PySem.W.hasDictIn K C_BadTree = true)
    (ha_BadTree : PySem.W.findIn K (.ref C_BadTree) "__class__" = some (some (.builtin "object.__class__")))
    (hn_BadTree : PySem.W.specialIn K (.builtin "object.__class__") "__get__" = some (some (.builtin "getset_descriptor.__get__")))
    (ht_BadTree : PySem.W.takesIn K (.builtin "object.__class__") = some true)
    (hm_BadTree : PySem.W.mroIn K C_BadTree (.type "object") = some true)
    (xL_BadTree : K.lookup C_BadTree = some (excClassObj nm_BadTree qn_BadTree C_BadTree N_BadTree bs_BadTree [.ref C_VoteError, .type "ValueError", .type "Exception", .type "BaseException", .type "object"] true sn_BadTree sub_BadTree ab_BadTree col_BadTree dd_BadTree m0_BadTree m1_BadTree m2_BadTree m3_BadTree m5_BadTree "ValueError.__new__"))
    (ti_BadTree : PySem.W.typeIn K (.ref f_BadTree_init) = some (.type "function"))
    (nf_BadTree_part : PySem.W.findIn K (.ref C_BadTree) "part" = some none)
    (sa_BadHistory : PySem.W.findIn K (.ref C_BadHistory) "__setattr__" = some (some (.builtin "object.__setattr__")))
    (be_BadHistory : PySem.W.subIn K (.ref C_BadHistory) (.type "BaseException") = some true)
    (ty_BadHistory : PySem.W.typeIn K (.ref C_BadHistory) = some (.type "type"))
    (kc_BadHistory : PySem.W.keepIn K (.ref C_BadHistory) = true)
    (ic_BadHistory : PySem.W.isClsIn K C_BadHistory = true)
    (ss_BadHistory : PySem.W.subIn K (.ref C_BadHistory) (.ref C_BadHistory) = some true)
    (ga_BadHistory : PySem.W.findIn K (.ref C_BadHistory) "__getattribute__" = some (some (.builtin "BaseException.__getattribute__")))
    (gt_BadHistory : PySem.W.findIn K (.ref C_BadHistory) "__getattr__" = some none)
    (hd_BadHistory : PySem.W.hasDictIn K C_BadHistory = true)
    (ha_BadHistory : PySem.W.findIn K (.ref C_BadHistory) "__class__" = some (some (.builtin "object.__class__")))
    (hn_BadHistory : PySem.W.specialIn K (.builtin "object.__class__") "__get__" = some (some (.builtin "getset_descriptor.__get__")))
    (ht_BadHistory : PySem.W.takesIn K (.builtin "object.__class__") = some true)
    (hm_BadHistory : PySem.W.mroIn K C_BadHistory (.type "object") = some true)
    (xL_BadHistory : K.lookup C_BadHistory = some (excClassObj nm_BadHistory qn_BadHistory C_BadHistory N_BadHistory bs_BadHistory [.ref C_VoteError, .type "ValueError", .type "Exception", .type "BaseException", .type "object"] true sn_BadHistory sub_BadHistory ab_BadHistory col_BadHistory dd_BadHistory m0_BadHistory m1_BadHistory m2_BadHistory m3_BadHistory m5_BadHistory "ValueError.__new__"))
    (ti_BadHistory : PySem.W.typeIn K (.ref f_BadHistory_init) = some (.type "function"))
    (nf_BadHistory_part : PySem.W.findIn K (.ref C_BadHistory) "part" = some none)
    (kn_Tree_History : PySem.W.kitOne K (.ref C_Tree) (.ref C_History) = some false)
    (kn_History_Tree : PySem.W.kitOne K (.ref C_History) (.ref C_Tree) = some false)
    : ∃ fd : FuncData, (∀ (s : Shared) (v : Value), BindsTo s fd ⟨[v], []⟩ [("_law_script", v)]) ∧ ∀ base : Heap, K.In base → base.Ns mainGlobals mg → FnOk l.prog w K mg base CX0 7 fa fd ["_law_script"] (spLaw K) := by
  have e := hfa.symm.trans (PySem.W.mg_of X G a_law)
  cases e
  have F_BadTree_init := fun_mk (st := s_BadTree_init) l_BadTree_init d_BadTree_init p_BadTree_init
  have b_BadTree_init := F_BadTree_init.binds (ps := ["self", "part"]) fun _ _ _ _ _ _ us hl => match us, hl with | [_, _], _ => rfl
  have F_BadHistory_init := fun_mk (st := s_BadHistory_init) l_BadHistory_init d_BadHistory_init p_BadHistory_init
  have b_BadHistory_init := F_BadHistory_init.binds (ps := ["self", "part"]) fun _ _ _ _ _ _ us hl => match us, hl with | [_, _], _ => rfl
  have F_is_integer := fun_mk (st := s_is_integer) l_is_integer d_is_integer p_is_integer
  have b_is_integer := F_is_integer.binds (ps := ["thing"]) fun _ _ _ _ _ _ us hl => match us, hl with | [_], _ => rfl
  have F_is_within := fun_mk (st := s_is_within) l_is_within d_is_within p_is_within
  have b_is_within := F_is_within.binds (ps := ["thing", "least", "most"]) fun _ _ _ _ _ _ us hl => match us, hl with | [_, _, _], _ => rfl
  have F_is_pair := fun_mk (st := s_is_pair) l_is_pair d_is_pair p_is_pair
  have b_is_pair := F_is_pair.binds (ps := ["thing"]) fun _ _ _ _ _ _ us hl => match us, hl with | [_], _ => rfl
  have F_leads_home := fun_mk (st := s_leads_home) l_leads_home d_leads_home p_leads_home
  have b_leads_home := F_leads_home.binds (ps := ["hung", "block"]) fun _ _ _ _ _ _ us hl => match us, hl with | [_, _], _ => rfl
  have F_Tree_init := fun_mk (st := s_Tree_init) l_Tree_init d_Tree_init p_Tree_init
  have b_Tree_init := F_Tree_init.binds (ps := ["self", "hung"]) fun _ _ _ _ _ _ us hl => match us, hl with | [_, _], _ => rfl
  have F_Tree_eq := fun_mk (st := s_Tree_eq) l_Tree_eq d_Tree_eq p_Tree_eq
  have b_Tree_eq := F_Tree_eq.binds (ps := ["self", "other"]) fun _ _ _ _ _ _ us hl => match us, hl with | [_, _], _ => rfl
  have F_hanging := fun_mk (st := s_hanging) l_hanging d_hanging p_hanging
  have b_hanging := F_hanging.binds (ps := ["hung", "place"]) fun _ _ _ _ _ _ us hl => match us, hl with | [_, _], _ => rfl
  have F_beneath_in := fun_mk (st := s_beneath_in) l_beneath_in d_beneath_in p_beneath_in
  have b_beneath_in := F_beneath_in.binds (ps := ["hung", "place"]) fun _ _ _ _ _ _ us hl => match us, hl with | [_, _], _ => rfl
  have F_with_place := fun_mk (st := s_with_place) l_with_place d_with_place p_with_place
  have b_with_place := F_with_place.binds (ps := ["hung", "block", "place"]) fun _ _ _ _ _ _ us hl => match us, hl with | [_, _, _], _ => rfl
  have F_is_move := fun_mk (st := s_is_move) l_is_move d_is_move p_is_move
  have b_is_move := F_is_move.binds (ps := ["hung", "thing"]) fun _ _ _ _ _ _ us hl => match us, hl with | [_, _], _ => rfl
  have F_trees_along := fun_mk (st := s_trees_along) l_trees_along d_trees_along p_trees_along
  have b_trees_along := F_trees_along.binds (ps := ["hung", "moves"]) fun _ _ _ _ _ _ us hl => match us, hl with | [_, _], _ => rfl
  have F_History_init := fun_mk (st := s_History_init) l_History_init d_History_init p_History_init
  have b_History_init := F_History_init.binds (ps := ["self", "tree", "moves"]) fun _ _ _ _ _ _ us hl => match us, hl with | [_, _, _], _ => rfl
  have F_History_eq := fun_mk (st := s_History_eq) l_History_eq d_History_eq p_History_eq
  have b_History_eq := F_History_eq.binds (ps := ["self", "other"]) fun _ _ _ _ _ _ us hl => match us, hl with | [_, _], _ => rfl
  have F_now := fun_mk (st := s_now) l_now d_now p_now
  have b_now := F_now.binds (ps := ["history"]) fun _ _ _ _ _ _ us hl => match us, hl with | [_], _ => rfl
  have F_l_hand := fun_mk (st := s_l_hand) l_l_hand d_l_hand p_l_hand
  have b_l_hand := F_l_hand.binds (ps := ["_law_script"]) fun _ _ _ _ _ _ us hl => match us, hl with | [_], _ => rfl
  have F_l_draw := fun_mk (st := s_l_draw) l_l_draw d_l_draw p_l_draw
  have b_l_draw := F_l_draw.binds (ps := ["_law_hand_here", "_law_many"]) fun _ _ _ _ _ _ us hl => match us, hl with | [_, _], _ => rfl
  have F_l_tree := fun_mk (st := s_l_tree) l_l_tree d_l_tree p_l_tree
  have b_l_tree := F_l_tree.binds (ps := ["_law_hand_here", "_law_many"]) fun _ _ _ _ _ _ us hl => match us, hl with | [_, _], _ => rfl
  have F_l_row := fun_mk (st := s_l_row) l_l_row d_l_row p_l_row
  have b_l_row := F_l_row.binds (ps := ["_law_hung", "_law_place"]) fun _ _ _ _ _ _ us hl => match us, hl with | [_, _], _ => rfl
  have F_l_beneath := fun_mk (st := s_l_beneath) l_l_beneath d_l_beneath p_l_beneath
  have b_l_beneath := F_l_beneath.binds (ps := ["_law_hung", "_law_place"]) fun _ _ _ _ _ _ us hl => match us, hl with | [_, _], _ => rfl
  have F_l_put := fun_mk (st := s_l_put) l_l_put d_l_put p_l_put
  have b_l_put := F_l_put.binds (ps := ["_law_hung", "_law_block", "_law_place"]) fun _ _ _ _ _ _ us hl => match us, hl with | [_, _, _], _ => rfl
  have F_l_moves := fun_mk (st := s_l_moves) l_l_moves d_l_moves p_l_moves
  have b_l_moves := F_l_moves.binds (ps := ["_law_hand_here", "_law_hung", "_law_many"]) fun _ _ _ _ _ _ us hl => match us, hl with | [_, _, _], _ => rfl
  have F_l_deep := fun_mk (st := s_l_deep) l_l_deep d_l_deep p_l_deep
  have b_l_deep := F_l_deep.binds (ps := ["_law_kind"]) fun _ _ _ _ _ _ us hl => match us, hl with | [_], _ => rfl
  have F_l_odd := fun_mk (st := s_l_odd) l_l_odd d_l_odd p_l_odd
  have b_l_odd := F_l_odd.binds (ps := ["_law_hand_here", "_law_thing"]) fun _ _ _ _ _ _ us hl => match us, hl with | [_, _], _ => rfl
  have F_l_is_whole := fun_mk (st := s_l_is_whole) l_l_is_whole d_l_is_whole p_l_is_whole
  have b_l_is_whole := F_l_is_whole.binds (ps := ["_law_thing", "_law_least", "_law_most"]) fun _ _ _ _ _ _ us hl => match us, hl with | [_, _, _], _ => rfl
  have F_l_due := fun_mk (st := s_l_due) l_l_due d_l_due p_l_due
  have b_l_due := F_l_due.binds (ps := ["_law_hung", "_law_moves_here"]) fun _ _ _ _ _ _ us hl => match us, hl with | [_, _], _ => rfl
  have F_l_answer := fun_mk (st := s_l_answer) l_l_answer d_l_answer p_l_answer
  have b_l_answer := F_l_answer.binds (ps := ["_law_tree_here", "_law_moves_here"]) fun _ _ _ _ _ _ us hl => match us, hl with | [_, _], _ => rfl
  have F_l_bent := fun_mk (st := s_l_bent) l_l_bent d_l_bent p_l_bent
  have b_l_bent := F_l_bent.binds (ps := ["_law_hand_here", "_law_many", "_law_moves_here", "_law_tree_here"]) fun _ _ _ _ _ _ us hl => match us, hl with | [_, _, _, _], _ => rfl
  have F_law := fun_mk (st := s_law) l_law d_law p_law
  have b_law := F_law.binds (ps := ["_law_script"]) fun _ _ _ _ _ _ us hl => match us, hl with | [_], _ => rfl
  have o_Tree : OwnC K C_Tree := ⟨⟨⟨pg_Tree, hd_Tree, po_Tree, sa_Tree⟩, ha_Tree, hn_Tree, ht_Tree, hm_Tree, me_Tree⟩, fun s hs => by
    rcases hs with rfl | rfl | rfl | rfl | rfl | rfl | rfl
    · exact ⟨ktNoneType_Tree, ntNoneType_Tree⟩
    · exact ⟨ktbool_Tree, ntbool_Tree⟩
    · exact ⟨ktint_Tree, ntint_Tree⟩
    · exact ⟨ktstr_Tree, ntstr_Tree⟩
    · exact ⟨ktlist_Tree, ntlist_Tree⟩
    · exact ⟨kttuple_Tree, nttuple_Tree⟩
    · exact ⟨ktdict_Tree, ntdict_Tree⟩⟩
  have kf_Tree : ∀ T, okTy T → PySem.W.kitOne K (.ref C_Tree) (.type T) = some false := fun T hT => by
    rcases hT with rfl | rfl | rfl | rfl | rfl | rfl
    · exact kiint_Tree
    · exact kibool_Tree
    · exact kituple_Tree
    · exact kilist_Tree
    · exact kidict_Tree
    · exact kistr_Tree
  have o_History : OwnC K C_History := ⟨⟨⟨pg_History, hd_History, po_History, sa_History⟩, ha_History, hn_History, ht_History, hm_History, me_History⟩, fun s hs => by
    rcases hs with rfl | rfl | rfl | rfl | rfl | rfl | rfl
    · exact ⟨ktNoneType_History, ntNoneType_History⟩
    · exact ⟨ktbool_History, ntbool_History⟩
    · exact ⟨ktint_History, ntint_History⟩
    · exact ⟨ktstr_History, ntstr_History⟩
    · exact ⟨ktlist_History, ntlist_History⟩
    · exact ⟨kttuple_History, nttuple_History⟩
    · exact ⟨ktdict_History, ntdict_History⟩⟩
  have kf_History : ∀ T, okTy T → PySem.W.kitOne K (.ref C_History) (.type T) = some false := fun T hT => by
    rcases hT with rfl | rfl | rfl | rfl | rfl | rfl
    · exact kiint_History
    · exact kibool_History
    · exact kituple_History
    · exact kilist_History
    · exact kidict_History
    · exact kistr_History
  let T : Txt K mg := {
    z_abs := PySem.W.mg_none_of X G z_abs
    z_bool := PySem.W.mg_none_of X G z_bool
    z_enumerate := PySem.W.mg_none_of X G z_enumerate
    z_int := PySem.W.mg_none_of X G z_int
    z_isinstance := PySem.W.mg_none_of X G z_isinstance
    z_len := PySem.W.mg_none_of X G z_len
    z_list := PySem.W.mg_none_of X G z_list
    z_range := PySem.W.mg_none_of X G z_range
    z_sorted := PySem.W.mg_none_of X G z_sorted
    z_str := PySem.W.mg_none_of X G z_str
    z_tuple := PySem.W.mg_none_of X G z_tuple
    k_HEAD := k_HEAD
    c_HEAD := PySem.W.mg_of X G c_HEAD
    k_MOST_BLOCKS := k_MOST_BLOCKS
    c_MOST_BLOCKS := PySem.W.mg_of X G c_MOST_BLOCKS
    k_MOST_MOVES := k_MOST_MOVES
    c_MOST_MOVES := PySem.W.mg_of X G c_MOST_MOVES
    C_Tree := C_Tree
    g_Tree := PySem.W.mg_of X G a_Tree
    C_History := C_History
    g_History := PySem.W.mg_of X G a_History
    C_BadTree := C_BadTree
    g_BadTree := PySem.W.mg_of X G a_BadTree
    C_BadHistory := C_BadHistory
    g_BadHistory := PySem.W.mg_of X G a_BadHistory
    f_BadTree_init := f_BadTree_init
    fd_BadTree_init := PySem.W.fnOf "__init__" "BadTree.__init__" (defArgs s_BadTree_init) (defBody s_BadTree_init) (defScope s_BadTree_init) .none kV_BadTree_init dc_BadTree_init pm_BadTree_init an_BadTree_init cd_BadTree_init ct_BadTree_init
    F_BadTree_init := F_BadTree_init
    b_BadTree_init := b_BadTree_init
    f_BadHistory_init := f_BadHistory_init
    fd_BadHistory_init := PySem.W.fnOf "__init__" "BadHistory.__init__" (defArgs s_BadHistory_init) (defBody s_BadHistory_init) (defScope s_BadHistory_init) .none kV_BadHistory_init dc_BadHistory_init pm_BadHistory_init an_BadHistory_init cd_BadHistory_init ct_BadHistory_init
    F_BadHistory_init := F_BadHistory_init
    b_BadHistory_init := b_BadHistory_init
    f_is_integer := f_is_integer
    fd_is_integer := PySem.W.fnOf "is_integer" "is_integer" (defArgs s_is_integer) (defBody s_is_integer) (defScope s_is_integer) .none kV_is_integer dc_is_integer pm_is_integer an_is_integer cd_is_integer ct_is_integer
    F_is_integer := F_is_integer
    b_is_integer := b_is_integer
    g_is_integer := PySem.W.mg_of X G a_is_integer
    f_is_within := f_is_within
    fd_is_within := PySem.W.fnOf "is_within" "is_within" (defArgs s_is_within) (defBody s_is_within) (defScope s_is_within) .none kV_is_within dc_is_within pm_is_within an_is_within cd_is_within ct_is_within
    F_is_within := F_is_within
    b_is_within := b_is_within
    g_is_within := PySem.W.mg_of X G a_is_within
    f_is_pair := f_is_pair
    fd_is_pair := PySem.W.fnOf "is_pair" "is_pair" (defArgs s_is_pair) (defBody s_is_pair) (defScope s_is_pair) .none kV_is_pair dc_is_pair pm_is_pair an_is_pair cd_is_pair ct_is_pair
    F_is_pair := F_is_pair
    b_is_pair := b_is_pair
    g_is_pair := PySem.W.mg_of X G a_is_pair
    f_leads_home := f_leads_home
    fd_leads_home := PySem.W.fnOf "leads_home" "leads_home" (defArgs s_leads_home) (defBody s_leads_home) (defScope s_leads_home) .none kV_leads_home dc_leads_home pm_leads_home an_leads_home cd_leads_home ct_leads_home
    F_leads_home := F_leads_home
    b_leads_home := b_leads_home
    g_leads_home := PySem.W.mg_of X G a_leads_home
    f_Tree_init := f_Tree_init
    fd_Tree_init := PySem.W.fnOf "__init__" "Tree.__init__" (defArgs s_Tree_init) (defBody s_Tree_init) (defScope s_Tree_init) .none kV_Tree_init dc_Tree_init pm_Tree_init an_Tree_init cd_Tree_init ct_Tree_init
    F_Tree_init := F_Tree_init
    b_Tree_init := b_Tree_init
    f_Tree_eq := f_Tree_eq
    fd_Tree_eq := PySem.W.fnOf "__eq__" "Tree.__eq__" (defArgs s_Tree_eq) (defBody s_Tree_eq) (defScope s_Tree_eq) .none kV_Tree_eq dc_Tree_eq pm_Tree_eq an_Tree_eq cd_Tree_eq ct_Tree_eq
    F_Tree_eq := F_Tree_eq
    b_Tree_eq := b_Tree_eq
    f_hanging := f_hanging
    fd_hanging := PySem.W.fnOf "hanging" "hanging" (defArgs s_hanging) (defBody s_hanging) (defScope s_hanging) .none kV_hanging dc_hanging pm_hanging an_hanging cd_hanging ct_hanging
    F_hanging := F_hanging
    b_hanging := b_hanging
    g_hanging := PySem.W.mg_of X G a_hanging
    f_beneath_in := f_beneath_in
    fd_beneath_in := PySem.W.fnOf "beneath_in" "beneath_in" (defArgs s_beneath_in) (defBody s_beneath_in) (defScope s_beneath_in) .none kV_beneath_in dc_beneath_in pm_beneath_in an_beneath_in cd_beneath_in ct_beneath_in
    F_beneath_in := F_beneath_in
    b_beneath_in := b_beneath_in
    g_beneath_in := PySem.W.mg_of X G a_beneath_in
    f_with_place := f_with_place
    fd_with_place := PySem.W.fnOf "with_place" "with_place" (defArgs s_with_place) (defBody s_with_place) (defScope s_with_place) .none kV_with_place dc_with_place pm_with_place an_with_place cd_with_place ct_with_place
    F_with_place := F_with_place
    b_with_place := b_with_place
    g_with_place := PySem.W.mg_of X G a_with_place
    f_is_move := f_is_move
    fd_is_move := PySem.W.fnOf "is_move" "is_move" (defArgs s_is_move) (defBody s_is_move) (defScope s_is_move) .none kV_is_move dc_is_move pm_is_move an_is_move cd_is_move ct_is_move
    F_is_move := F_is_move
    b_is_move := b_is_move
    g_is_move := PySem.W.mg_of X G a_is_move
    f_trees_along := f_trees_along
    fd_trees_along := PySem.W.fnOf "trees_along" "trees_along" (defArgs s_trees_along) (defBody s_trees_along) (defScope s_trees_along) .none kV_trees_along dc_trees_along pm_trees_along an_trees_along cd_trees_along ct_trees_along
    F_trees_along := F_trees_along
    b_trees_along := b_trees_along
    g_trees_along := PySem.W.mg_of X G a_trees_along
    f_History_init := f_History_init
    fd_History_init := PySem.W.fnOf "__init__" "History.__init__" (defArgs s_History_init) (defBody s_History_init) (defScope s_History_init) .none kV_History_init dc_History_init pm_History_init an_History_init cd_History_init ct_History_init
    F_History_init := F_History_init
    b_History_init := b_History_init
    f_History_eq := f_History_eq
    fd_History_eq := PySem.W.fnOf "__eq__" "History.__eq__" (defArgs s_History_eq) (defBody s_History_eq) (defScope s_History_eq) .none kV_History_eq dc_History_eq pm_History_eq an_History_eq cd_History_eq ct_History_eq
    F_History_eq := F_History_eq
    b_History_eq := b_History_eq
    f_now := f_now
    fd_now := PySem.W.fnOf "now" "now" (defArgs s_now) (defBody s_now) (defScope s_now) .none kV_now dc_now pm_now an_now cd_now ct_now
    F_now := F_now
    b_now := b_now
    g_now := PySem.W.mg_of X G a_now
    f_l_hand := f_l_hand
    fd_l_hand := PySem.W.fnOf "_law_hand" "_law_hand" (defArgs s_l_hand) (defBody s_l_hand) (defScope s_l_hand) .none kV_l_hand dc_l_hand pm_l_hand an_l_hand cd_l_hand ct_l_hand
    F_l_hand := F_l_hand
    b_l_hand := b_l_hand
    g_l_hand := PySem.W.mg_of X G a_l_hand
    f_l_draw := f_l_draw
    fd_l_draw := PySem.W.fnOf "_law_draw" "_law_draw" (defArgs s_l_draw) (defBody s_l_draw) (defScope s_l_draw) .none kV_l_draw dc_l_draw pm_l_draw an_l_draw cd_l_draw ct_l_draw
    F_l_draw := F_l_draw
    b_l_draw := b_l_draw
    g_l_draw := PySem.W.mg_of X G a_l_draw
    f_l_tree := f_l_tree
    fd_l_tree := PySem.W.fnOf "_law_tree" "_law_tree" (defArgs s_l_tree) (defBody s_l_tree) (defScope s_l_tree) .none kV_l_tree dc_l_tree pm_l_tree an_l_tree cd_l_tree ct_l_tree
    F_l_tree := F_l_tree
    b_l_tree := b_l_tree
    g_l_tree := PySem.W.mg_of X G a_l_tree
    f_l_row := f_l_row
    fd_l_row := PySem.W.fnOf "_law_row" "_law_row" (defArgs s_l_row) (defBody s_l_row) (defScope s_l_row) .none kV_l_row dc_l_row pm_l_row an_l_row cd_l_row ct_l_row
    F_l_row := F_l_row
    b_l_row := b_l_row
    g_l_row := PySem.W.mg_of X G a_l_row
    f_l_beneath := f_l_beneath
    fd_l_beneath := PySem.W.fnOf "_law_beneath" "_law_beneath" (defArgs s_l_beneath) (defBody s_l_beneath) (defScope s_l_beneath) .none kV_l_beneath dc_l_beneath pm_l_beneath an_l_beneath cd_l_beneath ct_l_beneath
    F_l_beneath := F_l_beneath
    b_l_beneath := b_l_beneath
    g_l_beneath := PySem.W.mg_of X G a_l_beneath
    f_l_put := f_l_put
    fd_l_put := PySem.W.fnOf "_law_put" "_law_put" (defArgs s_l_put) (defBody s_l_put) (defScope s_l_put) .none kV_l_put dc_l_put pm_l_put an_l_put cd_l_put ct_l_put
    F_l_put := F_l_put
    b_l_put := b_l_put
    g_l_put := PySem.W.mg_of X G a_l_put
    f_l_moves := f_l_moves
    fd_l_moves := PySem.W.fnOf "_law_moves" "_law_moves" (defArgs s_l_moves) (defBody s_l_moves) (defScope s_l_moves) .none kV_l_moves dc_l_moves pm_l_moves an_l_moves cd_l_moves ct_l_moves
    F_l_moves := F_l_moves
    b_l_moves := b_l_moves
    g_l_moves := PySem.W.mg_of X G a_l_moves
    f_l_deep := f_l_deep
    fd_l_deep := PySem.W.fnOf "_law_deep" "_law_deep" (defArgs s_l_deep) (defBody s_l_deep) (defScope s_l_deep) .none kV_l_deep dc_l_deep pm_l_deep an_l_deep cd_l_deep ct_l_deep
    F_l_deep := F_l_deep
    b_l_deep := b_l_deep
    g_l_deep := PySem.W.mg_of X G a_l_deep
    f_l_odd := f_l_odd
    fd_l_odd := PySem.W.fnOf "_law_odd" "_law_odd" (defArgs s_l_odd) (defBody s_l_odd) (defScope s_l_odd) .none kV_l_odd dc_l_odd pm_l_odd an_l_odd cd_l_odd ct_l_odd
    F_l_odd := F_l_odd
    b_l_odd := b_l_odd
    g_l_odd := PySem.W.mg_of X G a_l_odd
    f_l_is_whole := f_l_is_whole
    fd_l_is_whole := PySem.W.fnOf "_law_is_whole" "_law_is_whole" (defArgs s_l_is_whole) (defBody s_l_is_whole) (defScope s_l_is_whole) .none kV_l_is_whole dc_l_is_whole pm_l_is_whole an_l_is_whole cd_l_is_whole ct_l_is_whole
    F_l_is_whole := F_l_is_whole
    b_l_is_whole := b_l_is_whole
    g_l_is_whole := PySem.W.mg_of X G a_l_is_whole
    f_l_due := f_l_due
    fd_l_due := PySem.W.fnOf "_law_due" "_law_due" (defArgs s_l_due) (defBody s_l_due) (defScope s_l_due) .none kV_l_due dc_l_due pm_l_due an_l_due cd_l_due ct_l_due
    F_l_due := F_l_due
    b_l_due := b_l_due
    g_l_due := PySem.W.mg_of X G a_l_due
    f_l_answer := f_l_answer
    fd_l_answer := PySem.W.fnOf "_law_answer" "_law_answer" (defArgs s_l_answer) (defBody s_l_answer) (defScope s_l_answer) .none kV_l_answer dc_l_answer pm_l_answer an_l_answer cd_l_answer ct_l_answer
    F_l_answer := F_l_answer
    b_l_answer := b_l_answer
    g_l_answer := PySem.W.mg_of X G a_l_answer
    f_l_bent := f_l_bent
    fd_l_bent := PySem.W.fnOf "_law_bent" "_law_bent" (defArgs s_l_bent) (defBody s_l_bent) (defScope s_l_bent) .none kV_l_bent dc_l_bent pm_l_bent an_l_bent cd_l_bent ct_l_bent
    F_l_bent := F_l_bent
    b_l_bent := b_l_bent
    g_l_bent := PySem.W.mg_of X G a_l_bent
    f_law := fa
    fd_law := PySem.W.fnOf "law" "law" (defArgs s_law) (defBody s_law) (defScope s_law) .none kV_law dc_law pm_law an_law cd_law ct_law
    F_law := F_law
    b_law := b_law
    g_law := PySem.W.mg_of X G a_law
    M_Tree := ⟨mk_Tree, a_Tree_init, if_Tree, kc_Tree⟩
    o_Tree := o_Tree
    nf_Tree_hung := nf_Tree_hung
    kf_Tree := kf_Tree
    e_Tree := a_Tree_eq
    ef_Tree := ef_Tree
    M_History := ⟨mk_History, a_History_init, if_History, kc_History⟩
    o_History := o_History
    nf_History_tree := nf_History_tree
    nf_History_moves := nf_History_moves
    kf_History := kf_History
    e_History := a_History_eq
    ef_History := ef_History
    ne_History := ⟨⟨_, _, _, _, _, _, _, _, _, _, _, _, _, _, _, _, xL_History, ns_ok nL_History no_History, ne0_History, ne1_History⟩, ⟨_, l_History_eq, rfl⟩⟩
    xc_BadTree := ⟨ic_BadTree, ga_BadTree, gt_BadTree, be_BadTree, hd_BadTree, ha_BadTree, hn_BadTree, ht_BadTree, hm_BadTree⟩
    te_BadTree := PySem.W.exm_ref be_BadTree hd_BadTree ty_BadTree ss_BadTree
    X_BadTree := ⟨⟨_, _, _, _, _, _, _, _, _, _, _, _, _, _, _, xL_BadTree, by rfl⟩, sa_BadTree, be_BadTree, ty_BadTree, kc_BadTree⟩
    i_BadTree := a_BadTree_init
    ti_BadTree := ti_BadTree
    nf_BadTree_part := nf_BadTree_part
    xc_BadHistory := ⟨ic_BadHistory, ga_BadHistory, gt_BadHistory, be_BadHistory, hd_BadHistory, ha_BadHistory, hn_BadHistory, ht_BadHistory, hm_BadHistory⟩
    te_BadHistory := PySem.W.exm_ref be_BadHistory hd_BadHistory ty_BadHistory ss_BadHistory
    X_BadHistory := ⟨⟨_, _, _, _, _, _, _, _, _, _, _, _, _, _, _, xL_BadHistory, by rfl⟩, sa_BadHistory, be_BadHistory, ty_BadHistory, kc_BadHistory⟩
    i_BadHistory := a_BadHistory_init
    ti_BadHistory := ti_BadHistory
    nf_BadHistory_part := nf_BadHistory_part
    kn_Tree_History := kn_Tree_History
    kn_History_Tree := kn_History_Tree
  }
  refine ⟨PySem.W.fnOf "law" "law" (defArgs s_law) (defBody s_law) (defScope s_law) .none kV_law dc_law pm_law an_law cd_law ct_law, fun s v => .of_eq rfl, fun base _ _ => ?_⟩
  have fa : Fa K T.cl := ⟨⟨fun C hC => by simp only [List.mem_cons, List.not_mem_nil, or_false] at hC; exact (by (rcases hC with rfl | rfl <;> first | exact T.o_Tree | exact T.o_History)), fun C hC U hU => by simp only [List.mem_cons, List.not_mem_nil, or_false] at hC; exact (by (rcases hC with rfl | rfl <;> first | exact T.kf_Tree U hU | exact T.kf_History U hU)), fun C hC C' hC' ne => by simp only [List.mem_cons, List.not_mem_nil, or_false] at hC hC'; exact (by (rcases hC with rfl | rfl <;> rcases hC' with rfl | rfl <;> first | exact absurd rfl ne | exact T.kn_Tree_History | exact T.kn_History_Tree))⟩, fun C hC => by simp only [List.mem_cons, List.not_mem_nil, or_false] at hC; exact (by (subst hC; exact ⟨T.o_Tree.ic.cl, T.nf_Tree_hung⟩)), fun C hC => by simp only [List.mem_cons, List.not_mem_nil, or_false] at hC; exact (by (subst hC; exact ⟨T.o_History.ic.cl, T.nf_History_tree⟩)), fun C hC => by simp only [List.mem_cons, List.not_mem_nil, or_false] at hC; exact (by (subst hC; exact ⟨T.o_History.ic.cl, T.nf_History_moves⟩)), T.te_BadHistory⟩
  have G_BadTree_init := ok_BadTree_init (P := l.prog) (w := w) (base := base) T 
  have G_BadHistory_init := ok_BadHistory_init (P := l.prog) (w := w) (base := base) T 
  have G_is_integer := ok_is_integer (P := l.prog) (w := w) (base := base) T fa 
  have G_is_within := ok_is_within (P := l.prog) (w := w) (base := base) T fa G_is_integer
  have G_is_pair := ok_is_pair (P := l.prog) (w := w) (base := base) T fa 
  have G_leads_home := ok_leads_home (P := l.prog) (w := w) (base := base) T fa 
  have G_Tree_init := ok_Tree_init (P := l.prog) (w := w) (base := base) T fa G_BadTree_init G_is_within G_leads_home
  have G_Tree_eq := ok_Tree_eq (P := l.prog) (w := w) (base := base) T fa 
  have G_hanging := ok_hanging (P := l.prog) (w := w) (base := base) T fa 
  have G_beneath_in := ok_beneath_in (P := l.prog) (w := w) (base := base) T fa G_hanging
  have G_with_place := ok_with_place (P := l.prog) (w := w) (base := base) T fa 
  have G_is_move := ok_is_move (P := l.prog) (w := w) (base := base) T fa G_beneath_in G_is_pair G_is_within
  have G_trees_along := ok_trees_along (P := l.prog) (w := w) (base := base) T fa G_with_place
  have G_History_init := ok_History_init (P := l.prog) (w := w) (base := base) T fa G_BadHistory_init G_is_move G_with_place
  have G_History_eq := ok_History_eq (P := l.prog) (w := w) (base := base) T fa G_Tree_eq
  have G_now := ok_now (P := l.prog) (w := w) (base := base) T fa G_Tree_init G_trees_along
  have G_l_hand := ok_l_hand (P := l.prog) (w := w) (base := base) T 
  have G_l_draw := ok_l_draw (P := l.prog) (w := w) (base := base) T fa 
  have G_l_tree := ok_l_tree (P := l.prog) (w := w) (base := base) T fa G_l_draw
  have G_l_row := ok_l_row (P := l.prog) (w := w) (base := base) T fa 
  have G_l_beneath := ok_l_beneath (P := l.prog) (w := w) (base := base) T fa G_l_row
  have G_l_put := ok_l_put (P := l.prog) (w := w) (base := base) T fa 
  have G_l_moves := ok_l_moves (P := l.prog) (w := w) (base := base) T fa G_l_beneath G_l_draw G_l_put
  have G_l_deep := ok_l_deep (P := l.prog) (w := w) (base := base) T fa 
  have G_l_odd := ok_l_odd (P := l.prog) (w := w) (base := base) T fa G_l_deep G_l_draw
  have G_l_is_whole := ok_l_is_whole (P := l.prog) (w := w) (base := base) T fa 
  have G_l_due := ok_l_due (P := l.prog) (w := w) (base := base) T fa G_l_beneath G_l_is_whole G_l_put
  have G_l_answer := ok_l_answer (P := l.prog) (w := w) (base := base) T fa G_History_init
  have G_l_bent := ok_l_bent (P := l.prog) (w := w) (base := base) T fa G_l_draw G_l_odd
  exact ok_law (P := l.prog) (w := w) (base := base) T fa G_History_eq G_History_init G_Tree_init G_l_answer G_l_bent G_l_draw G_l_due G_l_hand G_l_moves G_l_odd G_l_tree G_now
end Fv
open PySem PySem.W PyProof.Rows
set_option maxHeartbeats 0 in
theorem PySem.Challenge.cw_foldervotes_k34_histories_judged_holds : PySem.Challenge.rw_foldervotes_k34_histories_judged.Holds := by
  w_on; o_law; k_head; (case hw => w_witness2)
  k_fill
  refine L2.walk_of (l := PySem.Challenge.rw_foldervotes_k34_histories_judged) (n := 63) (k := 7) (x := "_law_script") (CX := fun _ => L2.CX0) (sp := fun w => Fv.spLaw _) rfl (by decide) rfl ⟨rfl, by decide, by decide⟩ (fun w h Y => PySem.W.kIn_of Y) ?F (fun _ _ a ns hl _ hS => ⟨a, ns, rfl, hS, hl, fun _ => rfl⟩) (fun _ _ _ _ _ h => h)
  case F =>
    intro w mg fa h KX G hmg
    refine' Fv.all_mk KX G hmg ?z_abs ?z_bool ?z_enumerate ?z_int ?z_isinstance ?z_len ?z_list ?z_range ?z_sorted ?z_str ?z_tuple ?c_HEAD ?c_MOST_BLOCKS ?c_MOST_MOVES ?a_Tree ?a_History ?a_BadTree ?a_BadHistory ?a_BadTree_init ?l_BadTree_init ?d_BadTree_init ?p_BadTree_init ?a_BadHistory_init ?l_BadHistory_init ?d_BadHistory_init ?p_BadHistory_init ?a_is_integer ?l_is_integer ?d_is_integer ?p_is_integer ?a_is_within ?l_is_within ?d_is_within ?p_is_within ?a_is_pair ?l_is_pair ?d_is_pair ?p_is_pair ?a_leads_home ?l_leads_home ?d_leads_home ?p_leads_home ?a_Tree_init ?l_Tree_init ?d_Tree_init ?p_Tree_init ?a_Tree_eq ?l_Tree_eq ?d_Tree_eq ?p_Tree_eq ?a_hanging ?l_hanging ?d_hanging ?p_hanging ?a_beneath_in ?l_beneath_in ?d_beneath_in ?p_beneath_in ?a_with_place ?l_with_place ?d_with_place ?p_with_place ?a_is_move ?l_is_move ?d_is_move ?p_is_move ?a_trees_along ?l_trees_along ?d_trees_along ?p_trees_along ?a_History_init ?l_History_init ?d_History_init ?p_History_init ?a_History_eq ?l_History_eq ?d_History_eq ?p_History_eq ?a_now ?l_now ?d_now ?p_now ?a_l_hand ?l_l_hand ?d_l_hand ?p_l_hand ?a_l_draw ?l_l_draw ?d_l_draw ?p_l_draw ?a_l_tree ?l_l_tree ?d_l_tree ?p_l_tree ?a_l_row ?l_l_row ?d_l_row ?p_l_row ?a_l_beneath ?l_l_beneath ?d_l_beneath ?p_l_beneath ?a_l_put ?l_l_put ?d_l_put ?p_l_put ?a_l_moves ?l_l_moves ?d_l_moves ?p_l_moves ?a_l_deep ?l_l_deep ?d_l_deep ?p_l_deep ?a_l_odd ?l_l_odd ?d_l_odd ?p_l_odd ?a_l_is_whole ?l_l_is_whole ?d_l_is_whole ?p_l_is_whole ?a_l_due ?l_l_due ?d_l_due ?p_l_due ?a_l_answer ?l_l_answer ?d_l_answer ?p_l_answer ?a_l_bent ?l_l_bent ?d_l_bent ?p_l_bent ?a_law ?l_law ?d_law ?p_law ?pg_Tree ?hd_Tree ?po_Tree ?sa_Tree ?mk_Tree ?kc_Tree ?ha_Tree ?hn_Tree ?ht_Tree ?hm_Tree ?me_Tree ?ktNoneType_Tree ?ntNoneType_Tree ?ktbool_Tree ?ntbool_Tree ?ktint_Tree ?ntint_Tree ?ktstr_Tree ?ntstr_Tree ?ktlist_Tree ?ntlist_Tree ?kttuple_Tree ?nttuple_Tree ?ktdict_Tree ?ntdict_Tree ?if_Tree ?nf_Tree_hung ?kiint_Tree ?kibool_Tree ?kituple_Tree ?kilist_Tree ?kidict_Tree ?kistr_Tree ?ef_Tree ?pg_History ?hd_History ?po_History ?sa_History ?mk_History ?kc_History ?ha_History ?hn_History ?ht_History ?hm_History ?me_History ?ktNoneType_History ?ntNoneType_History ?ktbool_History ?ntbool_History ?ktint_History ?ntint_History ?ktstr_History ?ntstr_History ?ktlist_History ?ntlist_History ?kttuple_History ?nttuple_History ?ktdict_History ?ntdict_History ?if_History ?nf_History_tree ?nf_History_moves ?kiint_History ?kibool_History ?kituple_History ?kilist_History ?kidict_History ?kistr_History ?ef_History ?xL_History ?nL_History ?no_History ?ne0_History ?ne1_History ?sa_BadTree ?be_BadTree ?ty_BadTree ?kc_BadTree ?ic_BadTree ?ss_BadTree ?ga_BadTree ?gt_BadTree ?hd_BadTree ?ha_BadTree ?hn_BadTree ?ht_BadTree ?hm_BadTree ?xL_BadTree ?ti_BadTree ?nf_BadTree_part ?sa_BadHistory ?be_BadHistory ?ty_BadHistory ?kc_BadHistory ?ic_BadHistory ?ss_BadHistory ?ga_BadHistory ?gt_BadHistory ?hd_BadHistory ?ha_BadHistory ?hn_BadHistory ?ht_BadHistory ?hm_BadHistory ?xL_BadHistory ?ti_BadHistory ?nf_BadHistory_part ?kn_Tree_History ?kn_History_Tree
    (case z_abs => k_is)
    (case z_bool => k_is)
    (case z_enumerate => k_is)
    (case z_int => k_is)
    (case z_isinstance => k_is)
    (case z_len => k_is)
    (case z_list => k_is)
    (case z_range => k_is)
    (case z_sorted => k_is)
    (case z_str => k_is)
    (case z_tuple => k_is)
    (case c_HEAD => k_is)
    (case c_MOST_BLOCKS => k_is)
    (case c_MOST_MOVES => k_is)
    (case a_Tree => k_is)
    (case a_History => k_is)
    (case a_BadTree => k_is)
    (case a_BadHistory => k_is)
    (case a_BadTree_init => k_is)
    (case l_BadTree_init => k_is)
    (case d_BadTree_init => k_is)
    (case p_BadTree_init => k_is)
    (case a_BadHistory_init => k_is)
    (case l_BadHistory_init => k_is)
    (case d_BadHistory_init => k_is)
    (case p_BadHistory_init => k_is)
    (case a_is_integer => k_is)
    (case l_is_integer => k_is)
    (case d_is_integer => k_is)
    (case p_is_integer => k_is)
    (case a_is_within => k_is)
    (case l_is_within => k_is)
    (case d_is_within => k_is)
    (case p_is_within => k_is)
    (case a_is_pair => k_is)
    (case l_is_pair => k_is)
    (case d_is_pair => k_is)
    (case p_is_pair => k_is)
    (case a_leads_home => k_is)
    (case l_leads_home => k_is)
    (case d_leads_home => k_is)
    (case p_leads_home => k_is)
    (case a_Tree_init => k_is)
    (case l_Tree_init => k_is)
    (case d_Tree_init => k_is)
    (case p_Tree_init => k_is)
    (case a_Tree_eq => k_is)
    (case l_Tree_eq => k_is)
    (case d_Tree_eq => k_is)
    (case p_Tree_eq => k_is)
    (case a_hanging => k_is)
    (case l_hanging => k_is)
    (case d_hanging => k_is)
    (case p_hanging => k_is)
    (case a_beneath_in => k_is)
    (case l_beneath_in => k_is)
    (case d_beneath_in => k_is)
    (case p_beneath_in => k_is)
    (case a_with_place => k_is)
    (case l_with_place => k_is)
    (case d_with_place => k_is)
    (case p_with_place => k_is)
    (case a_is_move => k_is)
    (case l_is_move => k_is)
    (case d_is_move => k_is)
    (case p_is_move => k_is)
    (case a_trees_along => k_is)
    (case l_trees_along => k_is)
    (case d_trees_along => k_is)
    (case p_trees_along => k_is)
    (case a_History_init => k_is)
    (case l_History_init => k_is)
    (case d_History_init => k_is)
    (case p_History_init => k_is)
    (case a_History_eq => k_is)
    (case l_History_eq => k_is)
    (case d_History_eq => k_is)
    (case p_History_eq => k_is)
    (case a_now => k_is)
    (case l_now => k_is)
    (case d_now => k_is)
    (case p_now => k_is)
    (case a_l_hand => k_is)
    (case l_l_hand => k_is)
    (case d_l_hand => k_is)
    (case p_l_hand => k_is)
    (case a_l_draw => k_is)
    (case l_l_draw => k_is)
    (case d_l_draw => k_is)
    (case p_l_draw => k_is)
    (case a_l_tree => k_is)
    (case l_l_tree => k_is)
    (case d_l_tree => k_is)
    (case p_l_tree => k_is)
    (case a_l_row => k_is)
    (case l_l_row => k_is)
    (case d_l_row => k_is)
    (case p_l_row => k_is)
    (case a_l_beneath => k_is)
    (case l_l_beneath => k_is)
    (case d_l_beneath => k_is)
    (case p_l_beneath => k_is)
    (case a_l_put => k_is)
    (case l_l_put => k_is)
    (case d_l_put => k_is)
    (case p_l_put => k_is)
    (case a_l_moves => k_is)
    (case l_l_moves => k_is)
    (case d_l_moves => k_is)
    (case p_l_moves => k_is)
    (case a_l_deep => k_is)
    (case l_l_deep => k_is)
    (case d_l_deep => k_is)
    (case p_l_deep => k_is)
    (case a_l_odd => k_is)
    (case l_l_odd => k_is)
    (case d_l_odd => k_is)
    (case p_l_odd => k_is)
    (case a_l_is_whole => k_is)
    (case l_l_is_whole => k_is)
    (case d_l_is_whole => k_is)
    (case p_l_is_whole => k_is)
    (case a_l_due => k_is)
    (case l_l_due => k_is)
    (case d_l_due => k_is)
    (case p_l_due => k_is)
    (case a_l_answer => k_is)
    (case l_l_answer => k_is)
    (case d_l_answer => k_is)
    (case p_l_answer => k_is)
    (case a_l_bent => k_is)
    (case l_l_bent => k_is)
    (case d_l_bent => k_is)
    (case p_l_bent => k_is)
    (case a_law => k_is)
    (case l_law => k_is)
    (case d_law => k_is)
    (case p_law => k_is)
    (case pg_Tree => k_is)
    (case hd_Tree => k_is)
    (case po_Tree => k_is)
    (case sa_Tree => k_is)
    (case mk_Tree => k_is)
    (case kc_Tree => k_is)
    (case ha_Tree => k_is)
    (case hn_Tree => k_is)
    (case ht_Tree => k_is)
    (case hm_Tree => k_is)
    (case me_Tree => kit_is)
    (case ktNoneType_Tree => kit_is)
    (case ntNoneType_Tree => k_is)
    (case ktbool_Tree => kit_is)
    (case ntbool_Tree => k_is)
    (case ktint_Tree => kit_is)
    (case ntint_Tree => k_is)
    (case ktstr_Tree => kit_is)
    (case ntstr_Tree => k_is)
    (case ktlist_Tree => kit_is)
    (case ntlist_Tree => k_is)
    (case kttuple_Tree => kit_is)
    (case nttuple_Tree => k_is)
    (case ktdict_Tree => kit_is)
    (case ntdict_Tree => k_is)
    (case if_Tree => k_is)
    (case nf_Tree_hung => k_is)
    (case kiint_Tree => kit_is)
    (case kibool_Tree => kit_is)
    (case kituple_Tree => kit_is)
    (case kilist_Tree => kit_is)
    (case kidict_Tree => kit_is)
    (case kistr_Tree => kit_is)
    (case ef_Tree => k_is)
    (case pg_History => k_is)
    (case hd_History => k_is)
    (case po_History => k_is)
    (case sa_History => k_is)
    (case mk_History => k_is)
    (case kc_History => k_is)
    (case ha_History => k_is)
    (case hn_History => k_is)
    (case ht_History => k_is)
    (case hm_History => k_is)
    (case me_History => kit_is)
    (case ktNoneType_History => kit_is)
    (case ntNoneType_History => k_is)
    (case ktbool_History => kit_is)
    (case ntbool_History => k_is)
    (case ktint_History => kit_is)
    (case ntint_History => k_is)
    (case ktstr_History => kit_is)
    (case ntstr_History => k_is)
    (case ktlist_History => kit_is)
    (case ntlist_History => k_is)
    (case kttuple_History => kit_is)
    (case nttuple_History => k_is)
    (case ktdict_History => kit_is)
    (case ntdict_History => k_is)
    (case if_History => k_is)
    (case nf_History_tree => k_is)
    (case nf_History_moves => k_is)
    (case kiint_History => kit_is)
    (case kibool_History => kit_is)
    (case kituple_History => kit_is)
    (case kilist_History => kit_is)
    (case kidict_History => kit_is)
    (case kistr_History => kit_is)
    (case ef_History => k_is)
    (case xL_History => k_is)
    (case nL_History => k_is)
    (case no_History => rfl)
    (case ne0_History => k_is)
    (case ne1_History => k_is)
    (case sa_BadTree => k_is)
    (case be_BadTree => k_is)
    (case ty_BadTree => k_is)
    (case kc_BadTree => k_is)
    (case ic_BadTree => k_is)
    (case ss_BadTree => first | rfl | k_is)
    (case ga_BadTree => k_is)
    (case gt_BadTree => k_is)
    (case hd_BadTree => k_is)
    (case ha_BadTree => k_is)
    (case hn_BadTree => k_is)
    (case ht_BadTree => k_is)
    (case hm_BadTree => k_is)
    (case xL_BadTree => k_is)
    (case ti_BadTree => k_is)
    (case nf_BadTree_part => k_is)
    (case sa_BadHistory => k_is)
    (case be_BadHistory => k_is)
    (case ty_BadHistory => k_is)
    (case kc_BadHistory => k_is)
    (case ic_BadHistory => k_is)
    (case ss_BadHistory => first | rfl | k_is)
    (case ga_BadHistory => k_is)
    (case gt_BadHistory => k_is)
    (case hd_BadHistory => k_is)
    (case ha_BadHistory => k_is)
    (case hn_BadHistory => k_is)
    (case ht_BadHistory => k_is)
    (case hm_BadHistory => k_is)
    (case xL_BadHistory => k_is)
    (case ti_BadHistory => k_is)
    (case nf_BadHistory_part => k_is)
    (case kn_Tree_History => kit_is)
    (case kn_History_Tree => kit_is)

import PyProof.Rows.All
import Wide.All
import OpenK.AllK
import Wide.FinOn
import HandS.ForMost
import HandS.ForExc
import HandS.ExcInit
import HandS.ExcField
import HandS.ExcIs
import HandS.IsInst
import HandS.Conv
import HandS.TupAny
import HandS.TupMul
import HandS.SortInts
import HandS.OwnEq
import HandS.Codes
import KE.KExcIs
import KE.RegKIsAll
import PySem.Challenge.RW_foldervotes_k01_trees_judged
set_option Elab.async false
set_option linter.all false
set_option maxRecDepth 100000
set_option maxHeartbeats 4000000
namespace Fv
open PySem PySem.Spec PyProof.Rows L2


/-! ### readings in short -/
abbrev xAdd : R2 := rI0 fun i j => .int (i + j)
abbrev xSub : R2 := rI0 fun i j => .int (i - j)
abbrev xMul : R2 := rI CMul fun i j => .int (i * j)
abbrev xDiv : R2 := rI CDivN fun i j => .int (i.fdiv j)
abbrev xMod : R2 := rI (fun _ j => 0 < j) fun i j => .int (i % j)
abbrev xPow : R2 := rI CPow fun i j => .int (i ^ j.toNat)
abbrev xLt : R2 := rI0 fun i j => .bl (decide (i < j))
abbrev xLe : R2 := rI0 fun i j => .bl (decide (i ≤ j))
abbrev xGt : R2 := rI0 fun i j => .bl (decide (j < i))
abbrev xGe : R2 := rI0 fun i j => .bl (decide (j ≤ i))
abbrev xNeg : V → Hp → VK → Prop := rU fun i => .int (-i)
def xIsN : R2 := fun x y H Q => y = .non ∧ Q (.bl (decide (x = .non))) H
def xNotN : R2 := fun x y H Q => y = .non ∧ Q (.bl (!decide (x = .non))) H
def xAddStr : R2 := fun x y H Q => ∃ i j, x = .str i ∧ y = .str j ∧ i.length + j.length ≤ sizeLine ∧ Q (.str (i ++ j)) H
def xAbs : List V → Hp → VK → Prop := fun xs H Q => ∃ i, xs = [.int i] ∧ Q (.int (if i < 0 then -i else i)) H
def xInt : List V → Hp → VK → Prop := fun xs H Q => (∃ i, xs = [.int i] ∧ Q (.int i) H) ∨ ∃ k, xs = [.bl k] ∧ Q (.int (if k then 1 else 0)) H
def xLen (K : PySem.W.Frag) : List V → Hp → VK → Prop := fun xs H Q => ∃ p ys, xs = [.ref p] ∧ (SqL K H p ys ∨ SqT K H p ys) ∧ Q (.int ys.length) H
def xLenD : List V → Hp → VK → Prop := fun xs H Q => ∃ a kvs, xs = [V.ref a] ∧ H a = some (.dK kvs) ∧ Q (.int kvs.length) H
def xLenS : List V → Hp → VK → Prop := fun xs H Q => ∃ z, xs = [.str z] ∧ z.length ≤ sizeLine ∧ Q (.int z.length) H
def xListOf (K : PySem.W.Frag) : List V → Hp → VK → Prop := fun xs H Q => ∃ p ys, xs = [.ref p] ∧ (SqL K H p ys ∨ SqT K H p ys) ∧ ∀ l, H l = none → Q (.ref l) (upd H l (.lst ys))
def xTupleOf (K : PySem.W.Frag) : List V → Hp → VK → Prop := fun xs H Q => ∃ p ys, xs = [.ref p] ∧ ((SqL K H p ys ∧ ∀ l, H l = none → Q (.ref l) (upd H l (.tup ys))) ∨ (SqT K H p ys ∧ Q (.ref p) H))

/-! ### steps -/
section
variable {K : PySem.W.Frag} {σ : L2.St} {H : Hp} {Q : VK} {D : Ends} {ta tb te tc : TE} {t u : TS} {tt tu : TT} {r r' : R2} {i j : Int} {x y v : V} {a : Addr} {xs : List V}
theorem v_seq (h : t { D with nx := u D } σ H) : tSeq t u D σ H := h
theorem v_cut (Mid : L2.St → Hp → Prop) (h : t { D with nx := Mid } σ H) (k : ∀ σ' H', Mid σ' H' → u D σ' H') : C8.tCut t u D σ H := ⟨Mid, h, k⟩
theorem v_next (h : D.nx σ H) : tNext D σ H := h
theorem v_ret (h : te σ H D.rt) : tRet te D σ H := h
theorem v_retN (h : D.rt .non H) : tRetN D σ H := h
theorem v_drop (h : te σ H fun _ H1 => D.nx σ H1) : tDrop te D σ H := h
theorem v_asg {g : TG} (h : te σ H fun x H1 => g x σ H1 D.nx) : tAsg te g D σ H := h
theorem v_ifs (h : tt σ H fun b H1 => if b = true then t D σ H1 else u D σ H1) : tIfS tt t u D σ H := h
theorem v_name {k : Nat} {R : L2.St → Hp → Prop} (h : R (σ.set k (some v)) H) : gName k v σ H R := h
theorem v_sub {to ti : TE} {s : V → V → V → Hp → (Hp → Prop) → Prop} {R : L2.St → Hp → Prop} (h : to σ H fun o H1 => ti σ H1 fun i H2 => s o i v H2 fun H3 => R σ H3) : gSub to ti s v σ H R := h
theorem v_setL {k : Int} {j : Nat} {R : Hp → Prop} (h : H a = some (.lst xs)) (hj : ixN xs.length k = some j) (q : R (upd H a (.lst (xs.set j v)))) : rSetL (.ref a) (.int k) v H R := ⟨a, xs, k, j, rfl, rfl, h, hj, q⟩
theorem v_var {k : Nat} (h : σ[k]? = some (some v)) (q : Q v H) : tVar k σ H Q := ⟨v, h, q⟩
theorem v_c (q : Q v H) : tC v σ H Q := q
theorem v_op (h : ta σ H fun x H1 => tb σ H1 fun y H2 => r x y H2 Q) : tOp r ta tb σ H Q := h
theorem v_un {f : V → Hp → VK → Prop} (h : ta σ H fun x H1 => f x H1 Q) : tUn f ta σ H Q := h
theorem v_I0 {g : Int → Int → V} (q : Q (g i j) H) : rI0 g (.int i) (.int j) H Q := ⟨i, j, rfl, rfl, q⟩
theorem v_I {C : Int → Int → Prop} {g : Int → Int → V} (c : C i j) (q : Q (g i j) H) : rI C g (.int i) (.int j) H Q := ⟨i, j, rfl, rfl, c, q⟩
theorem v_U {g : Int → V} (q : Q (g i) H) : rU g (.int i) H Q := ⟨i, rfl, q⟩
theorem v_eqI (q : Q (.bl (decide (i = j))) H) : rEq (.int i) (.int j) H Q := ⟨rfl, by
  have e : decide (V.int i = V.int j) = decide (i = j) := by rw [Bool.eq_iff_iff]; simp
  rw [e]; exact q⟩
theorem v_neI (q : Q (.bl (!decide (i = j))) H) : rNe (.int i) (.int j) H Q := ⟨rfl, by
  have e : decide (V.int i = V.int j) = decide (i = j) := by rw [Bool.eq_iff_iff]; simp
  rw [e]; exact q⟩
theorem v_eqB {b c : Bool} (q : Q (.bl (decide (b = c))) H) : rEq (.bl b) (.bl c) H Q := ⟨rfl, by
  have e : decide (V.bl b = V.bl c) = decide (b = c) := by rw [Bool.eq_iff_iff]; simp
  rw [e]; exact q⟩
theorem v_neB {b c : Bool} (q : Q (.bl (!decide (b = c))) H) : rNe (.bl b) (.bl c) H Q := ⟨rfl, by
  have e : decide (V.bl b = V.bl c) = decide (b = c) := by rw [Bool.eq_iff_iff]; simp
  rw [e]; exact q⟩
theorem v_isN (q : Q (.bl (decide (x = .non))) H) : xIsN x .non H Q := ⟨rfl, q⟩
theorem v_notN (q : Q (.bl (!decide (x = .non))) H) : xNotN x .non H Q := ⟨rfl, q⟩
theorem v_ixL {n : Int} (h : SqL K H a xs) (ha : atI xs n = some v) (q : Q v H) : rIxL K (.ref a) (.int n) H Q := ⟨a, xs, n, v, rfl, rfl, h, ha, q⟩
theorem v_ixT {n : Int} (h : SqT K H a xs) (ha : atI xs n = some v) (q : Q v H) : rIxT K (.ref a) (.int n) H Q := ⟨a, xs, n, v, rfl, rfl, h, ha, q⟩
theorem v_cb {f : List V → Hp → VK → Prop} {tx : TA} (h : tx σ H fun vs H1 => f vs H1 Q) : tCB f tx σ H Q := h
theorem v_call {sp : Sp} {dvs : List V} {E : XK} {tx : TA} (h : tx σ H fun vs H1 => sp (vs ++ dvs) H1 Q E) : tCall sp dvs E tx σ H Q := h
theorem v_nil {R : List V → Hp → Prop} (h : R [] H) : tNil σ H R := h
theorem v_cons {tr : TA} {R : List V → Hp → Prop} (h : ta σ H fun x H1 => tr σ H1 fun xs H2 => R (x :: xs) H2) : tCons ta tr σ H R := h
theorem v_abs (q : Q (.int (if i < 0 then -i else i)) H) : xAbs [.int i] H Q := ⟨i, rfl, q⟩
theorem v_int (q : Q (.int i) H) : xInt [.int i] H Q := .inl ⟨i, rfl, q⟩
theorem v_lenL (h : SqL K H a xs) (q : Q (.int xs.length) H) : xLen K [.ref a] H Q := ⟨a, xs, rfl, .inl h, q⟩
theorem v_lenT (h : SqT K H a xs) (q : Q (.int xs.length) H) : xLen K [.ref a] H Q := ⟨a, xs, rfl, .inr h, q⟩
theorem v_lst {tx : TA} (h : tx σ H fun xs H1 => xs.length ≤ sizeLine ∧ ∀ p, H1 p = none → Q (.ref p) (upd H1 p (.lst xs))) : tLst tx σ H Q := h
theorem v_tup {tx : TA} (h : tx σ H fun xs H1 => xs.length ≤ sizeLine ∧ ∀ p, H1 p = none → Q (.ref p) (upd H1 p (.tup xs))) : tTup tx σ H Q := h
theorem v_bound {n : Nat} {A : Prop} (h : n ≤ 1000) (q : A) : n ≤ sizeLine ∧ A := ⟨Nat.le_of_lt (small1000 h), q⟩
theorem v_sl {f : V → Option Int → Option Int → Hp → VK → Prop} {tl th : TO} (h : te σ H fun x H1 => tl σ H1 fun l H2 => th σ H2 fun u H3 => f x l u H3 Q) : tSl f te tl th σ H Q := h
theorem v_nopart {R : Option Int → Hp → Prop} (h : R none H) : tNoPart σ H R := h
theorem v_part {R : Option Int → Hp → Prop} (h : te σ H fun x H1 => ∃ i, x = .int i ∧ R (some i) H1) : tPart te σ H R := h
theorem v_partI {R : Int → Prop} (q : R i) : ∃ k, V.int i = .int k ∧ R k := ⟨i, rfl, q⟩
theorem v_slL {lo hi : Option Int} (h : SqL K H a xs) (q : ∀ p, H p = none → Q (.ref p) (upd H p (.lst (cutV xs lo hi)))) : rSlL K (.ref a) lo hi H Q := ⟨a, xs, rfl, h, q⟩
theorem v_cat {b : Addr} {ys : List V} (h : H a = some (.lst xs)) (h' : H b = some (.lst ys)) (l : xs.length + ys.length ≤ 1000) (q : ∀ p, H p = none → Q (.ref p) (upd H p (.lst (xs ++ ys)))) : rCat (.ref a) (.ref b) H Q :=
  ⟨a, b, xs, ys, rfl, rfl, h, h', Nat.le_of_lt (small1000 l), q⟩
theorem v_if (h : tt σ H fun c H1 => if c = true then ta σ H1 Q else tb σ H1 Q) : tIf tt ta tb σ H Q := h
theorem v_chain (h : ta σ H fun x H1 => tb σ H1 fun y H2 => r x y H2 fun z H3 => ∃ k, z = .bl k ∧ (if k = true then tc σ H3 fun w' H4 => r' y w' H4 Q else Q (.bl false) H3)) : tChain r r' ta tb tc σ H Q := h
theorem v_andV (h : ta σ H fun x H1 => ∃ c, x = .bl c ∧ if c = true then tb σ H1 Q else Q (.bl false) H1) : tAndV ta tb σ H Q := h
theorem v_orV (h : ta σ H fun x H1 => ∃ c, x = .bl c ∧ if c = true then Q (.bl true) H1 else tb σ H1 Q) : tOrV ta tb σ H Q := h
theorem v_notV (h : ta σ H fun x H1 => ∃ c, x = .bl c ∧ Q (.bl (!c)) H1) : tNotV ta σ H Q := h
theorem v_bl {b : Bool} {A : Bool → Prop} (q : A b) : ∃ c, V.bl b = .bl c ∧ A c := ⟨b, rfl, q⟩
theorem v_and {R : Bool → Hp → Prop} (h : tt σ H fun c H1 => if c = true then tu σ H1 R else R false H1) : tAnd tt tu σ H R := h
theorem v_or {R : Bool → Hp → Prop} (h : tt σ H fun c H1 => if c = true then R true H1 else tu σ H1 R) : tOr tt tu σ H R := h
theorem v_not {R : Bool → Hp → Prop} (h : tt σ H fun c H1 => R (!c) H1) : tNot tt σ H R := h
theorem v_test {R : Bool → Hp → Prop} (h : ta σ H fun x H1 => ∃ k, x = .bl k ∧ R k H1) : tTest ta σ H R := h
theorem v_B {R : Bool → Hp → Prop} (h : ta σ H fun x H1 => ∃ k, x = .bl k ∧ R k H1) : tB ta σ H R := h
theorem v_yes {R : Bool → Hp → Prop} (h : R true H) : tYes σ H R := h
theorem v_dnew (q : ∀ p, H p = none → Q (.ref p) (upd H p (.dK []))) : tDNewK σ H Q := q
end
section
variable {A B : Prop}
theorem v_iteT (h : A) : if true = true then A else B := by rw [if_pos rfl]; exact h
theorem v_iteF (h : B) : if false = true then A else B := by rw [if_neg Bool.false_ne_true]; exact h
theorem v_iteNT (h : B) : if (!true) = true then A else B := v_iteF h
theorem v_iteNF (h : A) : if (!false) = true then A else B := v_iteT h
theorem v_ite {P : Prop} {dP : Decidable P} (h1 : P → A) (h2 : ¬ P → B) : if decide P = true then A else B := by
  by_cases h : P
  · rw [if_pos (decide_eq_true h)]; exact h1 h
  · rw [if_neg (by rw [decide_eq_false h]; decide)]; exact h2 h
theorem v_iteN {P : Prop} {dP : Decidable P} (h1 : ¬ P → A) (h2 : P → B) : if (!decide P) = true then A else B := by
  by_cases h : P
  · rw [if_neg (by rw [decide_eq_true h]; decide)]; exact h2 h
  · rw [if_pos (by rw [decide_eq_false h]; decide)]; exact h1 h
theorem v_iteB {b : Bool} (h1 : b = true → A) (h2 : b = false → B) : if b = true then A else B := by
  cases b with
  | true => rw [if_pos rfl]; exact h1 rfl
  | false => rw [if_neg Bool.false_ne_true]; exact h2 rfl
end


/-! ### loops -/
def LoopG (J : It) (g : TG) (tb : TS) (D : Ends) (σ : L2.St) (H : Hp) : Prop := ∃ W : Nat → Nat → L2.St → Hp → Prop, (∃ m, W 0 m σ H) ∧ ∀ i m σ H, W i m σ H →
  (J.stop i H ∧ D.nx σ H) ∨ (J.go i H ∧ ∃ N : L2.St → Hp → Prop, (∀ σ' H', N σ' H' → ∃ m', m' < m ∧ W (i + 1) m' σ' H') ∧ ∀ x H', J.yld i H x H' → g x σ H' fun σ2 H2 => tb { D with nx := N, ct := N, bk := D.nx } σ2 H2)
def LcG (J : It) (g : TG) (tt : TT) (te : TE) (vs : List Nat) (σ : L2.St) (H1 : Hp) (Q : VK) : Prop := ∀ D, H1 D = none → ∃ W : Nat → Nat → Hp → Prop, (∃ m, W 0 m (upd H1 D (.lst []))) ∧ ∀ i m H, W i m H →
  (J.stop i H ∧ Q (.ref D) H) ∨ (J.go i H ∧ ∃ Nx : Hp → Prop, (∀ H', Nx H' → ∃ m', m' < m ∧ W (i + 1) m' H') ∧ ∀ x H', J.yld i H x H' → g x (wipe σ vs) H' fun σ2 H2 => wipe σ2 vs = wipe σ vs ∧ tt σ2 H2 fun b H3 =>
    if b = true then te σ2 H3 fun y H4 => ∃ acc, H4 D = some (.lst acc) ∧ acc.length < sizeLine ∧ Nx (upd H4 D (.lst (acc ++ [y]))) else Nx H3)
def Rg1K (vs : List V) (R : It → Hp → Prop) (H : Hp) : Prop := ∃ j : Int, vs = [.int j] ∧ -(2 ^ 62) ≤ j ∧ j < 2 ^ 62 ∧ R (Itr 0 j.toNat) H
def Rg2K (vs : List V) (R : It → Hp → Prop) (H : Hp) : Prop := ∃ i j : Int, vs = [.int i, .int j] ∧ (-(2 ^ 62) ≤ i ∧ i < 2 ^ 62 ∧ -(2 ^ 62) ≤ j ∧ j < 2 ^ 62) ∧ R (Itr i (j - i).toNat) H
def ItLK (K : PySem.W.Frag) (x : V) (R : It → Hp → Prop) (H : Hp) : Prop := ∃ a, x = .ref a ∧ (∃ xs, SqL K H a xs) ∧ R (Itl K a) H
def ItTK (K : PySem.W.Frag) (x : V) (R : It → Hp → Prop) (H : Hp) : Prop := ∃ a, x = .ref a ∧ (∃ xs, SqT K H a xs) ∧ R (Itt K a) H
section
variable {K : PySem.W.Frag} {σ : L2.St} {H : Hp} {D : Ends} {ta : TA} {te : TE} {tt : TT} {tb : TS} {g : TG} {wi : TI} {R : It → Hp → Prop} {Q : VK} {a : Addr} {xs : List V} {vs : List Nat}
theorem v_for (h : wi σ H fun J H1 => LoopG J g tb D σ H1) : tFor wi g tb D σ H := h
theorem v_lc (h : wi σ H fun J H1 => LcG J g tt te vs σ H1 Q) : tLc wi g tt te vs σ H Q := h
theorem v_iR1 (h : ta σ H fun vs H1 => Rg1K vs R H1) : iRng1 ta σ H R := h
theorem v_iR2 (h : ta σ H fun vs H1 => Rg2K vs R H1) : iRng2 ta σ H R := h
theorem v_iL (h : te σ H fun x H1 => ItLK K x R H1) : iList K te σ H R := h
theorem v_iT (h : te σ H fun x H1 => ItTK K x R H1) : iTup K te σ H R := h
theorem v_rg1 {e : Int} (b : -1000000 ≤ e ∧ e ≤ 1000000) (q : R (Itr 0 e.toNat) H) : Rg1K [.int e] R H := ⟨e, rfl, by omega, by omega, q⟩
theorem v_rg2 {lo e : Int} (b : -1000000 ≤ lo ∧ lo ≤ 1000000 ∧ -1000000 ≤ e ∧ e ≤ 1000000) (q : R (Itr lo (e - lo).toNat) H) : Rg2K [.int lo, .int e] R H := ⟨lo, e, rfl, ⟨by omega, by omega, by omega, by omega⟩, q⟩
theorem v_itL (h : SqL K H a xs) (q : R (Itl K a) H) : ItLK K (.ref a) R H := ⟨a, rfl, ⟨xs, h⟩, q⟩
theorem v_itT (h : SqT K H a xs) (q : R (Itt K a) H) : ItTK K (.ref a) R H := ⟨a, rfl, ⟨xs, h⟩, q⟩
/-- for i in range(e): W says what holds ahead of turn i -/
theorem v_loop0 {e : Int} (W : Nat → L2.St → Hp → Prop) (h0 : W 0 σ H) (hs : ∀ (i : Nat) σ' H', (i : Int) < e → W i σ' H' → g (.int i) σ' H' fun σ2 H2 => tb { D with nx := W (i + 1), ct := W (i + 1), bk := D.nx } σ2 H2)
    (hd : ∀ σ' H', W e.toNat σ' H' → D.nx σ' H') : LoopG (Itr 0 e.toNat) g tb D σ H := for_range (lo := 0) (n := e.toNat) W h0 (fun i σ' H' hi w => by
      have z : (0 : Int) + (i : Int) = (i : Int) := Int.zero_add _
      rw [z]
      exact hs i σ' H' (by omega) w) hd
theorem v_loop2 {lo e : Int} (W : Nat → L2.St → Hp → Prop) (h0 : W 0 σ H) (hs : ∀ (i : Nat) σ' H', lo + (i : Int) < e → W i σ' H' → g (.int (lo + i)) σ' H' fun σ2 H2 => tb { D with nx := W (i + 1), ct := W (i + 1), bk := D.nx } σ2 H2)
    (hd : ∀ σ' H', W (e - lo).toNat σ' H' → D.nx σ' H') : LoopG (Itr lo (e - lo).toNat) g tb D σ H := for_range (lo := lo) (n := (e - lo).toNat) W h0 (fun i σ' H' hi w => hs i σ' H' (by omega) w) hd
theorem v_loopL (W : Nat → L2.St → Hp → Prop) (h0 : W 0 σ H) (hl : ∀ i σ H, i ≤ xs.length → W i σ H → SqL K H a xs)
    (hs : ∀ i x σ' H', xs[i]? = some x → W i σ' H' → g x σ' H' fun σ2 H2 => tb { D with nx := W (i + 1), ct := W (i + 1), bk := D.nx } σ2 H2) (hd : ∀ σ' H', W xs.length σ' H' → D.nx σ' H') : LoopG (Itl K a) g tb D σ H := for_list W h0 hl hs hd
theorem v_loopT (W : Nat → L2.St → Hp → Prop) (h0 : W 0 σ H) (hl : ∀ i σ H, i ≤ xs.length → W i σ H → SqT K H a xs)
    (hs : ∀ i x σ' H', xs[i]? = some x → W i σ' H' → g x σ' H' fun σ2 H2 => tb { D with nx := W (i + 1), ct := W (i + 1), bk := D.nx } σ2 H2) (hd : ∀ σ' H', W xs.length σ' H' → D.nx σ' H') : LoopG (Itt K a) g tb D σ H := for_tup W h0 hl hs hd
/-- a comprehension's turn: what is made so far stands at A -/
def LcT (g : TG) (tt : TT) (te : TE) (vs : List Nat) (σ : L2.St) (A : Addr) (x : V) (H : Hp) (N : Hp → Prop) : Prop := g x (wipe σ vs) H fun σ2 H2 => wipe σ2 vs = wipe σ vs ∧ tt σ2 H2 fun b H3 =>
  if b = true then te σ2 H3 fun y H4 => ∃ acc, H4 A = some (.lst acc) ∧ acc.length < sizeLine ∧ N (upd H4 A (.lst (acc ++ [y]))) else N H3
theorem v_lc0 {e : Int} (W : Addr → Nat → Hp → Prop) (h0 : ∀ A, H A = none → W A 0 (upd H A (.lst []))) (hs : ∀ A (i : Nat) H', H A = none → (i : Int) < e → W A i H' → LcT g tt te vs σ A (.int i) H' (W A (i + 1)))
    (hd : ∀ A H', H A = none → W A e.toNat H' → Q (.ref A) H') : LcG (Itr 0 e.toNat) g tt te vs σ H Q := fun A nA => lc_range (lo := 0) (n := e.toNat) (W A) (h0 A nA) (fun i H' hi w => by
      have z : (0 : Int) + (i : Int) = (i : Int) := Int.zero_add _
      rw [z]
      exact hs A i H' nA (by omega) w) fun H' w => hd A H' nA w
theorem v_lc2 {lo e : Int} (W : Addr → Nat → Hp → Prop) (h0 : ∀ A, H A = none → W A 0 (upd H A (.lst []))) (hs : ∀ A (i : Nat) H', H A = none → lo + (i : Int) < e → W A i H' → LcT g tt te vs σ A (.int (lo + i)) H' (W A (i + 1)))
    (hd : ∀ A H', H A = none → W A (e - lo).toNat H' → Q (.ref A) H') : LcG (Itr lo (e - lo).toNat) g tt te vs σ H Q := fun A nA => lc_range (lo := lo) (n := (e - lo).toNat) (W A) (h0 A nA) (fun i H' hi w => hs A i H' nA (by omega) w) fun H' w => hd A H' nA w
theorem v_lcL (W : Addr → Nat → Hp → Prop) (h0 : ∀ A, H A = none → W A 0 (upd H A (.lst []))) (hl : ∀ A i H', H A = none → i ≤ xs.length → W A i H' → SqL K H' a xs)
    (hs : ∀ A i x H', H A = none → xs[i]? = some x → W A i H' → LcT g tt te vs σ A x H' (W A (i + 1))) (hd : ∀ A H', H A = none → W A xs.length H' → Q (.ref A) H') : LcG (Itl K a) g tt te vs σ H Q := fun A nA =>
  lc_list (xs := xs) (W A) (h0 A nA) (fun i H' hi w => hl A i H' nA hi w) (fun i x H' hx w => hs A i x H' nA hx w) fun H' w => hd A H' nA w
theorem v_lcT (W : Addr → Nat → Hp → Prop) (h0 : ∀ A, H A = none → W A 0 (upd H A (.lst []))) (hl : ∀ A i H', H A = none → i ≤ xs.length → W A i H' → SqT K H' a xs)
    (hs : ∀ A i x H', H A = none → xs[i]? = some x → W A i H' → LcT g tt te vs σ A x H' (W A (i + 1))) (hd : ∀ A H', H A = none → W A xs.length H' → Q (.ref A) H') : LcG (Itt K a) g tt te vs σ H Q := fun A nA =>
  lc_tup (xs := xs) (W A) (h0 A nA) (fun i H' hi w => hl A i H' nA hi w) (fun i x H' hx w => hs A i x H' nA hx w) fun H' w => hd A H' nA w
/-- a turn of a comprehension with one name in slot i -/
theorem v_turn {i : Nat} {A : Addr} {x : V} {N : Hp → Prop} (e : wipe ((wipe σ vs).set i (some x)) vs = wipe σ vs) (h : tt ((wipe σ vs).set i (some x)) H fun b H3 =>
    if b = true then te ((wipe σ vs).set i (some x)) H3 fun y H4 => ∃ acc, H4 A = some (.lst acc) ∧ acc.length < sizeLine ∧ N (upd H4 A (.lst (acc ++ [y]))) else N H3) : LcT (gName i) tt te vs σ A x H N := ⟨e, h⟩
end

/-! ### methods, ranges as lists, products -/
def BmK (K : PySem.W.Frag) (T : String) (r : V → List V → Hp → VK → Prop) (t : TA) (σ : L2.St) (x : V) (H : Hp) (Q : VK) : Prop := tyV K T x H ∧ t σ H fun xs H2 => r x xs H2 Q
def Bm0K (K : PySem.W.Frag) (T : String) (r : V → List V → Hp → VK → Prop) (x : V) (H : Hp) (Q : VK) : Prop := tyV K T x H ∧ r x [] H Q
def Rg2E (x y : V) (R : Int → Int → Hp → Prop) (H : Hp) : Prop := ∃ i j, x = .int i ∧ y = .int j ∧ R i j H
def Rg1E (x : V) (R : Int → Int → Hp → Prop) (H : Hp) : Prop := ∃ j, x = .int j ∧ R 0 j H
def LRgK (i j : Int) (H : Hp) (Q : VK) : Prop := RgOk i j ∧ ∀ q, H q = none → Q (.ref q) (upd H q (.lst (rgV i j)))
def TRgK (i j : Int) (H : Hp) (Q : VK) : Prop := RgOk i j ∧ ∀ q, H q = none → Q (.ref q) (upd H q (.tup (rgV i j)))
section
variable {K : PySem.W.Frag} {σ : L2.St} {H : Hp} {Q : VK} {to ta tb : TE} {t : TA} {T : String} {r : V → List V → Hp → VK → Prop} {a : Addr} {xs ys : List V} {x y v : V} {i j : Int} {R : Int → Int → Hp → Prop} {te : L2.St → Hp → (Int → Int → Hp → Prop) → Prop}
theorem v_bm (h : to σ H fun x H1 => BmK K T r t σ x H1 Q) : tBM K T r to t σ H Q := h
theorem v_bm0 (h : to σ H fun x H1 => Bm0K K T r x H1 Q) : tBM0 K T r to σ H Q := h
theorem v_bmL (h : H a = some (.lst xs)) (q : t σ H fun vs H2 => r (.ref a) vs H2 Q) : BmK K "list" r t σ (.ref a) H Q := ⟨.inl ⟨rfl, xs, SqL.of h⟩, q⟩
theorem v_bm0L (h : H a = some (.lst xs)) (q : r (.ref a) [] H Q) : Bm0K K "list" r (.ref a) H Q := ⟨.inl ⟨rfl, xs, SqL.of h⟩, q⟩
theorem v_append (h : H a = some (.lst xs)) (l : xs.length ≤ 1000) (q : Q .non (upd H a (.lst (xs ++ [y])))) : rAppend (.ref a) [y] H Q := ⟨a, xs, y, rfl, rfl, h, small1000 l, q⟩
theorem v_popAt (h : H a = some (.lst xs)) (h0 : 0 ≤ i) (h1 : i < xs.length) (l : xs.length ≤ 1000) (hy : xs[i.toNat]? = some y) (q : Q y (upd H a (.lst (xs.eraseIdx i.toNat)))) : rPopAt (.ref a) [.int i] H Q := by
  refine ⟨a, xs, i, i.toNat, y, rfl, rfl, h, by omega, by omega, ?_, hy, q⟩
  have e : (if i < 0 then i + (xs.length : Int) else i) = i := if_neg (by omega)
  show (if (decide (0 ≤ (if i < 0 then i + (xs.length : Int) else i)) && decide ((if i < 0 then i + (xs.length : Int) else i) < (xs.length : Int))) = true then some (if i < 0 then i + (xs.length : Int) else i).toNat else none) = some i.toNat
  rw [e, decide_eq_true h0, decide_eq_true h1]
  rfl
theorem v_pop {y : V} (h : H a = some (.lst xs)) (hy : xs[xs.length - 1]? = some y) (q : Q y (upd H a (.lst xs.dropLast))) : rPop (.ref a) [] H Q := ⟨a, xs, y, rfl, rfl, h, hy, q⟩
theorem v_extend {b : Addr} (h : H a = some (.lst xs)) (h' : H b = some (.lst ys)) (l : xs.length + ys.length ≤ 1000) (q : Q .non (upd H a (.lst (xs ++ ys)))) : rExtend (.ref a) [.ref b] H Q := ⟨a, b, xs, ys, rfl, rfl, h, h', Nat.le_of_lt (small1000 l), q⟩
theorem v_tRg2 (h : ta σ H fun x H1 => tb σ H1 fun y H2 => Rg2E x y R H2) : tRg2 ta tb σ H R := h
theorem v_tRg1 (h : ta σ H fun x H1 => Rg1E x R H1) : tRg1 ta σ H R := h
theorem v_rg2e (q : R i j H) : Rg2E (.int i) (.int j) R H := ⟨i, j, rfl, rfl, q⟩
theorem v_rg1e (q : R 0 j H) : Rg1E (.int j) R H := ⟨j, rfl, q⟩
theorem v_lstRg (h : te σ H fun i j H1 => LRgK i j H1 Q) : tLstRg te σ H Q := h
theorem v_tupRg (h : te σ H fun i j H1 => TRgK i j H1 Q) : tTupRg te σ H Q := h
theorem v_lrg (b : 0 ≤ i ∧ i ≤ 10000 ∧ 0 ≤ j ∧ j ≤ 10000) (q : ∀ p, H p = none → Q (.ref p) (upd H p (.lst (rgV i j)))) : LRgK i j H Q := ⟨RgOk.of_le b.1 (by omega) (by omega) b.2.2.1, q⟩
theorem v_rep {n : Int} (h : H a = some (.lst xs)) (h0 : 0 ≤ n ∧ n ≤ 1000) (l : xs.length ≤ 1000) (q : ∀ p, H p = none → Q (.ref p) (upd H p (.lst (List.replicate n.toNat xs).flatten))) : rRep (.ref a) (.int n) H Q := by
  refine ⟨a, n, xs, rfl, rfl, h, by omega, by omega, ?_, q⟩
  have e : xs.length * n.toNat ≤ 1000 * 1000 := Nat.mul_le_mul l (by omega)
  exact Nat.le_trans e (by decide)
theorem v_tupOfL (h : H a = some (.lst xs)) (q : ∀ p, H p = none → Q (.ref p) (upd H p (.tup xs))) : xTupleOf K [.ref a] H Q := ⟨a, xs, rfl, .inl ⟨SqL.of h, q⟩⟩
theorem v_tupOfT (h : H a = some (.tup xs)) (q : Q (.ref a) H) : xTupleOf K [.ref a] H Q := ⟨a, xs, rfl, .inr ⟨SqT.of h, q⟩⟩
theorem v_lstOfL (h : H a = some (.lst xs)) (q : ∀ p, H p = none → Q (.ref p) (upd H p (.lst xs))) : xListOf K [.ref a] H Q := ⟨a, xs, rfl, .inl (SqL.of h), q⟩
theorem v_lstOfT (h : H a = some (.tup xs)) (q : ∀ p, H p = none → Q (.ref p) (upd H p (.lst xs))) : xListOf K [.ref a] H Q := ⟨a, xs, rfl, .inr (SqT.of h), q⟩
theorem v_catA {b : Addr} (h : H a = some (.tup xs)) (h' : H b = some (.tup ys)) (l : xs.length + ys.length ≤ 1000) (n1 : xs ≠ []) (n2 : ys ≠ []) (q : ∀ p, H p = none → Q (.ref p) (upd H p (.tup (xs ++ ys)))) : rCatA K (.ref a) (.ref b) H Q :=
  ⟨a, b, xs, ys, rfl, rfl, SqT.of h, SqT.of h', Nat.le_of_lt (small1000 l), fun e => absurd e n1, fun _ e => absurd e n2, fun _ _ => q⟩
theorem v_repT {n : Int} (h : H a = some (.tup xs)) (h0 : 2 ≤ n ∧ n ≤ 1000) (l : xs.length ≤ 1000) (n1 : xs ≠ []) (q : ∀ p, H p = none → Q (.ref p) (upd H p (.tup (List.replicate n.toNat xs).flatten))) : rRepT K (.ref a) (.int n) H Q :=
  ⟨a, n, xs, rfl, rfl, SqT.of h, n1, h0.1, h0.2, l, q⟩
end
theorem flat_one {α : Type} (n : Nat) (x : α) : (List.replicate n [x]).flatten = List.replicate n x := by
  induction n with
  | zero => rfl
  | succ n ih =>
    rw [List.replicate_succ, List.replicate_succ, List.flatten_cons, ih]
    rfl
theorem rgV_map (i j : Int) : rgV i j = ((List.range (j - i).toNat).map fun k => i + ((k : Nat) : Int)).map V.int := by
  unfold rgV
  rw [List.map_map]
  rfl
theorem ixN_of {n j : Nat} {z : Int} (e : z = (j : Int)) (h : j < n) : ixN n z = some j := by
  unfold ixN
  rw [if_pos (by omega), if_pos (by omega), e]
  rfl
theorem upd_get {H : Hp} {a q : Addr} {o u : HO} (n : H q = none) (h : H a = some o) : upd H q u a = some o := by
  rw [upd_ne (ne_of_none h n)]
  exact h
theorem upd_at {H : Hp} {a q : Addr} {o u : HO} (n : a ≠ q) (h : H a = some o) : upd H q u a = some o := by
  rw [upd_ne n]
  exact h
theorem v_ixL' {K : PySem.W.Frag} {H : Hp} {Q : VK} {a : Addr} {xs : List V} {n : Int} {v : V} (h : H a = some (.lst xs)) (ha : atI xs n = some v) (q : Q v H) : rIxL K (.ref a) (.int n) H Q := v_ixL (SqL.of h) ha q
theorem v_ixT' {K : PySem.W.Frag} {H : Hp} {Q : VK} {a : Addr} {xs : List V} {n : Int} {v : V} (h : H a = some (.tup xs)) (ha : atI xs n = some v) (q : Q v H) : rIxT K (.ref a) (.int n) H Q := v_ixT (SqT.of h) ha q
theorem v_lenL' {K : PySem.W.Frag} {H : Hp} {Q : VK} {a : Addr} {xs : List V} (h : H a = some (.lst xs)) (q : Q (.int xs.length) H) : xLen K [.ref a] H Q := v_lenL (SqL.of h) q
theorem v_lenT' {K : PySem.W.Frag} {H : Hp} {Q : VK} {a : Addr} {xs : List V} (h : H a = some (.tup xs)) (q : Q (.int xs.length) H) : xLen K [.ref a] H Q := v_lenT (SqT.of h) q

/-! ### the walk over readings -/

/-! ### what the pool owns; what stays -/
def Owned (H : Hp) (p a : Addr) : Prop := a = p ∨ ∃ xs, H p = some (.lst xs) ∧ V.ref a ∈ xs
def Af (H : Hp) (p a : Addr) (o : HO) : Prop := H a = some o ∧ ¬ Owned H p a
/-- what is not the pool's stays; what is there stays there -/
structure Mo (p : Addr) (H H' : Hp) : Prop where
  at_ : ∀ a o, Af H p a o → Af H' p a o
  free : ∀ a, H' a = none → H a = none
instance {p : Addr} {H H' : Hp} : CoeFun (Mo p H H') (fun _ => ∀ a o, Af H p a o → Af H' p a o) := ⟨Mo.at_⟩
theorem upd_none {H : Hp} {q a : Addr} {o : HO} (h : upd H q o a = none) : a ≠ q ∧ H a = none := by
  have n : a ≠ q := fun z => by rw [z, upd_same] at h; cases h
  rw [upd_ne n] at h
  exact ⟨n, h⟩
def Pool (H : Hp) (p : Addr) : Prop := ∃ (g s : Addr) (gs ss : List Int) (x y : Int), H p = some (.lst [.ref g, .ref s, .int x, .int y]) ∧ H g = some (.lst (gs.map V.int)) ∧ H s = some (.lst (ss.map V.int)) ∧
  g ≠ p ∧ s ≠ p ∧ gs.length ≤ 63 ∧ ss.length ≤ 63
theorem Mo.refl (p : Addr) (H : Hp) : Mo p H H := ⟨fun _ _ h => h, fun _ h => h⟩
theorem Mo.trans {p : Addr} {H H1 H2 : Hp} (a : Mo p H H1) (b : Mo p H1 H2) : Mo p H H2 := ⟨fun x o h => b.at_ x o (a.at_ x o h), fun x h => a.free x (b.free x h)⟩
theorem owned_pool {H : Hp} {p g s a : Addr} {x y : Int} (h : H p = some (.lst [.ref g, .ref s, .int x, .int y])) : Owned H p a ↔ a = p ∨ a = g ∨ a = s := by
  constructor
  · rintro (e | ⟨xs, e, hm⟩)
    · exact .inl e
    · rw [h] at e
      cases e
      simp at hm
      exact .inr hm
  · rintro (e | e | e)
    · exact .inl e
    · exact .inr ⟨_, h, by simp [e]⟩
    · exact .inr ⟨_, h, by simp [e]⟩
theorem same_upd {H : Hp} {q : Addr} {o : HO} (h : H q = none) : Same H (upd H q o) := fun b x e => by
  rw [upd_ne (ne_of_none e h)]
  exact e
theorem Pool.same {H H' : Hp} {p : Addr} (h : Pool H p) (e : Same H H') : Pool H' p := by
  obtain ⟨g, s, gs, ss, x, y, h1, h2, h3, r⟩ := h
  exact ⟨g, s, gs, ss, x, y, e _ _ h1, e _ _ h2, e _ _ h3, r⟩
theorem Pool.upd {H : Hp} {p q : Addr} {o : HO} (h : Pool H p) (n : H q = none) : Pool (upd H q o) p := h.same (same_upd n)
theorem Mo.same {H H' : Hp} {p : Addr} (h : Pool H p) (e : Same H H') : Mo p H H' := by
  refine ⟨fun a o ⟨h1, h2⟩ => ?_, fun a z => e.free z⟩
  obtain ⟨g, s, gs, ss, x, y, q1, _⟩ := h
  refine ⟨e _ _ h1, ?_⟩
  rw [owned_pool (e _ _ q1)]
  rw [owned_pool q1] at h2
  exact h2
theorem Mo.upd {H : Hp} {p q : Addr} {o : HO} (h : Pool H p) (n : H q = none) : Mo p H (upd H q o) := .same h (same_upd n)
/-- a new object is not the pool's -/
theorem Af.new {H H' : Hp} {p q : Addr} {o : HO} (h : Pool H p) (n : H q = none) (e : Same H H') (hq : H' q = some o) : Af H' p q o := by
  obtain ⟨g, s, gs, ss, x, y, q1, q2, q3, _⟩ := h
  refine ⟨hq, ?_⟩
  rw [owned_pool (e _ _ q1)]
  rintro (z | z | z)
  · rw [z, q1] at n; cases n
  · rw [z, q2] at n; cases n
  · rw [z, q3] at n; cases n
theorem Af.upd {H : Hp} {p q : Addr} {o : HO} (h : Pool H p) (n : H q = none) : Af (L2.upd H q o) p q o := .new h n (same_upd n) upd_same
/-- an object of the caller's is changed -/
theorem Pool.mut {H : Hp} {p a : Addr} {o o' : HO} (h : Pool H p) (f : Af H p a o) : Pool (L2.upd H a o') p := by
  obtain ⟨g, s, gs, ss, x, y, q1, q2, q3, r⟩ := h
  have hn := f.2
  rw [owned_pool q1] at hn
  refine ⟨g, s, gs, ss, x, y, ?_, ?_, ?_, r⟩
  · rw [upd_ne (fun z => hn (.inl z.symm))]; exact q1
  · rw [upd_ne (fun z => hn (.inr (.inl z.symm)))]; exact q2
  · rw [upd_ne (fun z => hn (.inr (.inr z.symm)))]; exact q3
theorem Af.mut {H : Hp} {p a b : Addr} {o o' u : HO} (h : Pool H p) (f : Af H p a o) (hb : Af H p b u) (ne : b ≠ a) : Af (L2.upd H a o') p b u := by
  obtain ⟨g, s, gs, ss, x, y, q1, q2, q3, r⟩ := h
  have hn := f.2
  have hbn := hb.2
  rw [owned_pool q1] at hn hbn
  refine ⟨by rw [upd_ne ne]; exact hb.1, ?_⟩
  rw [owned_pool (g := g) (s := s) (x := x) (y := y) (by rw [upd_ne (fun z => hn (.inl z.symm))]; exact q1)]
  exact hbn
theorem Af.self {H : Hp} {p a : Addr} {o o' : HO} (h : Pool H p) (f : Af H p a o) : Af (L2.upd H a o') p a o' := by
  obtain ⟨g, s, gs, ss, x, y, q1, q2, q3, r⟩ := h
  have hn := f.2
  rw [owned_pool q1] at hn
  refine ⟨upd_same, ?_⟩
  rw [owned_pool (g := g) (s := s) (x := x) (y := y) (by rw [upd_ne (fun z => hn (.inl z.symm))]; exact q1)]
  exact hn
/-- an object that was new at H, changed at H' -/
theorem Mo.mut {H H' : Hp} {p a : Addr} {o o' : HO} (m : Mo p H H') (h : Pool H' p) (n : H a = none) (f : Af H' p a o) : Mo p H (L2.upd H' a o') :=
  ⟨fun b u hb => Af.mut h f (m.at_ b u hb) (ne_of_none hb.1 n), fun b e => m.free b (upd_none e).2⟩

/-! ### promises of the draws -/
/-- a number below m -/
def spDraw : Sp := fun vs H Q _ => ∃ (p : Addr) (m : Int), vs = [.ref p, .int m] ∧ Pool H p ∧ 1 ≤ m ∧ m ≤ 1000000 ∧ ∀ d H', 0 ≤ d → d < m → Pool H' p → Mo p H H' → Q (.int d) H'
def spPool (K : PySem.W.Frag) : Sp := fun vs H Q _ => ∃ (a : Addr) (ns : List Int), vs = [.ref a] ∧ SqL K H a (ns.map V.int) ∧ ns.length ≤ 63 ∧ ∀ p H', Pool H' p → Q (.ref p) H'
theorem len_l_draw {vs : List V} {H : Hp} {Q : VK} {E : XK} (h : spDraw vs H Q E) : vs.length = 2 := by
  obtain ⟨p, m, rfl, _⟩ := h
  rfl
theorem len_l_pool {K : PySem.W.Frag} {vs : List V} {H : Hp} {Q : VK} {E : XK} (h : spPool K vs H Q E) : vs.length = 1 := by
  obtain ⟨p, m, rfl, _⟩ := h
  rfl
def t_l_pool (K : PySem.W.Frag) : TS :=
  (tSeq (tAsg (tLc (iList K (tSl (rSlL K) (tVar 0) tNoPart (tPart (tC (.int 63))))) (gName 3) (tTest (tOp xGe (tCB xAbs (tCons (tVar 3) tNil)) (tOp xPow (tC (.int 10)) (tC (.int 18))))) (tCB xAbs (tCons (tVar 3) tNil)) [3]) (gName 1)) (tSeq (tAsg (tLc (iList K (tSl (rSlL K) (tVar 0) tNoPart (tPart (tC (.int 63))))) (gName 3) (tTest (tOp xLt (tCB xAbs (tCons (tVar 3) tNil)) (tOp xPow (tC (.int 10)) (tC (.int 18))))) (tOp xMod (tCB xInt (tCons (tVar 3) tNil)) (tC (.int 1000003))) [3]) (gName 2)) (tRet (tLst (tCons (tVar 1) (tCons (tVar 2) (tCons (tC (.int 0)) (tCons (tC (.int 0)) tNil))))))))
def t_l_draw (K : PySem.W.Frag) : TS :=
  (C8.tCut (tIfS (tAnd (tTest (tOp xLe (tOp (rIxL K) (tVar 0) (tC (.int 2))) (tC (.int 1)))) (tTest (tOp xGt (tCB (xLen K) (tCons (tOp (rIxL K) (tVar 0) (tC (.int 0))) tNil)) (tC (.int 0))))) (tSeq (tAsg (tOp (rIxL K) (tOp (rIxL K) (tVar 0) (tC (.int 0))) (tC (.int 0))) (gSub (tVar 0) (tC (.int 2)) rSetL)) (tAsg (tSl (rSlL K) (tOp (rIxL K) (tVar 0) (tC (.int 0))) (tPart (tC (.int 1))) tNoPart) (gSub (tVar 0) (tC (.int 0)) rSetL))) tNext) (tSeq (tIfS (tTest (tOp xGt (tOp (rIxL K) (tVar 0) (tC (.int 2))) (tC (.int 1)))) (tSeq (tAsg (tOp xMod (tCB xInt (tCons (tOp (rIxL K) (tVar 0) (tC (.int 2))) tNil)) (tVar 1)) (gName 2)) (tSeq (tAsg (tOp xDiv (tOp (rIxL K) (tVar 0) (tC (.int 2))) (tVar 1)) (gSub (tVar 0) (tC (.int 2)) rSetL)) (tRet (tVar 2)))) tNext) (tSeq (tAsg (tOp xAdd (tOp (rIxL K) (tVar 0) (tC (.int 3))) (tC (.int 1))) (gSub (tVar 0) (tC (.int 3)) rSetL)) (tSeq (tAsg (tC (.int 0)) (gName 3)) (C8.tCut (tIfS (tTest (tOp xGt (tCB (xLen K) (tCons (tOp (rIxL K) (tVar 0) (tC (.int 1))) tNil)) (tC (.int 0)))) (tAsg (tOp (rIxL K) (tOp (rIxL K) (tVar 0) (tC (.int 1))) (tOp xMod (tCB xInt (tCons (tOp (rIxL K) (tVar 0) (tC (.int 3))) tNil)) (tCB (xLen K) (tCons (tOp (rIxL K) (tVar 0) (tC (.int 1))) tNil)))) (gName 3)) tNext) (tSeq (tAsg (tOp xMod (tCB xInt (tCons (tOp xMul (tOp xAdd (tOp xAdd (tVar 3) (tOp xMul (tC (.int 7919)) (tOp (rIxL K) (tVar 0) (tC (.int 3))))) (tC (.int 1))) (tC (.int 48271))) tNil)) (tC (.int 2147483647))) (gName 4)) (tSeq (tAsg (tOp xMod (tCB xInt (tCons (tOp xMul (tVar 4) (tOp xAdd (tOp xDiv (tVar 4) (tC (.int 1009))) (tC (.int 69621)))) tNil)) (tC (.int 2147483647))) (gName 4)) (tSeq (tAsg (tOp xMod (tCB xInt (tCons (tOp xMul (tVar 4) (tOp xAdd (tOp xDiv (tVar 4) (tC (.int 2003))) (tC (.int 40692)))) tNil)) (tC (.int 2147483399))) (gName 4)) (tRet (tOp xMod (tCB xInt (tCons (tOp xDiv (tVar 4) (tC (.int 16))) tNil)) (tVar 1)))))))))))


theorem Af.keep {H : Hp} {p q a : Addr} {o u : HO} (h : Pool H p) (n : H q = none) (f : Af H p a o) : Af (L2.upd H q u) p a o := Mo.upd h n a o f
theorem Af.mo {H H' : Hp} {p a : Addr} {o : HO} (m : Mo p H H') (f : Af H p a o) : Af H' p a o := m a o f
/-! ### a == b by an own __eq__ that tells a bool -/
def rEqOwn (K : PySem.W.Frag) (C : Addr) (sp : Sp) (E : XK) : R2 := fun x y H Q => ∃ (a dx : Addr) (fs : List (Str × V)) (t : Value), x = .ref a ∧ H a = some (.ins C dx fs) ∧ TyX K H y t ∧ PySem.W.notFirst K C t = true ∧
  sp [x, y] H (fun v H' => ∃ k, v = .bl k ∧ Q v H') E
section
variable {X : Cx} {CX : CXT} {C f : Addr} {fd : FuncData} {ps : List Str} {sp : Sp} {E : XK} {n : Nat}
theorem op_eqOwn (F : FnOk X.prog X.w X.K X.mg X.base CX n f fd ps sp) (hr : Room n X.A)
    (hs : PySem.W.findIn X.K (.ref C) "__eq__" = some (some (.ref f))) (hf : PySem.W.isFn X.K (.ref f) = true) (hb : Binds X.K fd ps []) (hx : Passes CX X E) : OpR X (compareOp .Eq) (rEqOwn X.K C sp E) := by
  intro pins s σ H x y u v Q I rx ry d
  obtain ⟨a, dx, fs, t, rfl, ha, ty, hn, hsp⟩ := d
  cases rx
  obtain ⟨mA, J, _⟩ := ins_get I.hok ha
  obtain ⟨od, J, _⟩ := J.look
  obtain ⟨P, Z, p, _⟩ := kit_of I ry ty
  obtain ⟨m, hF⟩ := I.fr
  show wpAny (model X.prog X.w) X.A (richCompare .Eq (.ref a) v) (EP X pins σ Q) X.xe s
  refine PySem.W.cmp_K (op := .Eq) (tb := t) hr.units0 hF I.ok.mod.kin J (Z.ty _ _ I.kIn p) hn hs hf ?_
  have e0 : Env0 X.prog X.w X.K X.mg X.base X.A X.stack s H := I.env0
  have hl := F.len _ _ _ _ hsp
  have r2 : Vals [V.ref a, y] [Value.ref a, v] := .cons rfl (.cons ry .nil)
  refine wpAny_call (codeAny_mono (F.run X.A X.stack s H ⟨[.ref a, v], []⟩ [.ref a, v] [.ref a, y] _ E hr e0 (by
    have := hb s [.ref a, v] I.kIn (by simpa using hl)
    simpa using this) r2 hsp) fun r s' hq => ?_)
  cases r with
  | error e => exact hx pins σ H s e s' I hq
  | ok fl =>
    cases fl with
    | ret w =>
      obtain ⟨z, H', I', rz, k, ez, q⟩ := I.after hq
      subst ez
      cases rz
      exact ⟨.bl k, H', I', rfl, q⟩
    | next => exact False.elim hq
    | brk => exact False.elim hq
    | cont => exact False.elim hq
end
/-! ### exceptions with fields -/
/-- what an exception's class must say, so that isinstance asks its instances rightly -/
structure XCls (K : PySem.W.Frag) (D : Addr) : Prop where
  cl : (PySem.W.clsIn K D).isSome = true
  ga : PySem.W.findIn K (.ref D) "__getattribute__" = some (some (.builtin "BaseException.__getattribute__"))
  gt : PySem.W.findIn K (.ref D) "__getattr__" = some none
  be : PySem.W.subIn K (.ref D) (.type "BaseException") = some true
  hd : PySem.W.hasDictIn K D = true
  ha : PySem.W.findIn K (.ref D) "__class__" = some (some (.builtin "object.__class__"))
  hn : PySem.W.specialIn K (.builtin "object.__class__") "__get__" = some (some (.builtin "getset_descriptor.__get__"))
  ht : PySem.W.takesIn K (.builtin "object.__class__") = some true
  hm : PySem.W.mroIn K D (.type "object") = some true
theorem XCls.xf {K : PySem.W.Frag} {D : Addr} (h : XCls K D) : XfC K D := ⟨h.ga, h.gt, h.be, h.hd⟩
/-- isinstance(e, c) within the suite that holds e -/
def rIsX (K : PySem.W.Frag) (cls : Value) (d : Option Addr) (a : Addr) : List V → Hp → VK → Prop := fun xs H Q => ∃ (c : V) (cv : Value) (b : Bool) (D dd : Addr) (fs : List (Str × V)),
  xs = [.ref a, c] ∧ cls = .ref D ∧ d = some dd ∧ H dd = some (.xd fs) ∧ XCls K D ∧ ClsV c cv ∧ PySem.W.kitOne K (.ref D) cv = some b ∧ Q (.bl b) H
theorem call_isX {X : Cx} {a : Addr} {oe : Obj} {cls : Value} {d : Option Addr} {pn : List (Addr × Obj)} (hz : Zc cls d oe) (hf : ∃ vs, oe.data = .fields vs) : CallR (X.suite a ((a, oe) :: pn)) (.builtin "isinstance") (rIsX X.K cls d a) := by
  intro pins s σ H xs us Q I r h
  obtain ⟨c, cv, b, D, dd, fs, rfl, rfl, rfl, ed, T, hc, e, q⟩ := h
  obtain ⟨u1, u2, rfl, r1, r2⟩ := vals2 r
  obtain rfl : u1 = Value.ref a := r1
  have e2 := hc.eq r2
  subst e2
  obtain ⟨hget, _⟩ := I.pin (a, oe) (List.mem_append.mpr (.inl List.mem_cons_self))
  obtain ⟨vs, hv⟩ := hf
  obtain ⟨mA, hns, _⟩ := (show ObjOk X.prog X.w H s.heap dd (.xd fs) from I.hok dd _ ed)
  obtain ⟨od, ho, _⟩ := lookIn_ns hns
  have J : PySem.W.InstAt s.heap a oe D (some od) := ⟨hget, hz.1, by unfold PySem.W.notCls; rw [hv] <;> rfl, by rw [hz.2]; exact ho⟩
  exact PySem.W.kia_one (PySem.W.kitx_exc T.cl T.ga T.gt T.be T.ha T.hn T.ht T.hm) I.kIn J e (fun z => nomatch z) fun tk => ⟨.bl b, H, I.kept (t' := tk) fun _ _ z => z, rfl, q⟩
/-- C(e, ..) where what __init__ raises is wished for at the caller's slots -/
def tMakeS (C : Addr) (sp : Sp) (E : L2.St → XK) (t : TA) : TE := fun σ H Q => t σ H fun vs H1 => ∀ x dx, H1 x = none → H1 dx = none → dx ≠ x →
  sp (.ref x :: vs) (upd (upd H1 dx (.own x)) x (.ins C dx [])) (fun v H2 => v = .non ∧ Q (.ref x) H2) (E σ)
section
variable {X : Cx} {CX : CXT} {k : Nat} {f C : Addr} {fd : FuncData} {ps : List Str} {sp : Sp} {E : L2.St → XK} {x : Str} {p pos : Pos} {e : Expr} {es : List Expr} {t : TA}
theorem pe_makeS (M : Mk X.K C f) (F : FnOk X.prog X.w X.K X.mg X.base CX k f fd ps sp) (hr : Room (k + 1) X.A) (hg : Gl X x) (hm : X.mg x = some (.ref C)) (hb : Binds X.K fd ps []) (hx : ∀ σ, PassesAt CX X σ (E σ)) (ha : PA X (e :: es) t)
    (hdb : (x == ("__debug__" : Str)) = false := by decide) (he : starEach (e :: es) X.env = (false, eval e X.env) :: starEach es X.env := by rfl) (hpl : (backTo pos (starEach es X.env)).any (·.1) = false := by rfl) :
    PE X (.Call (.Name x p) (e :: es) [] pos) (tMakeS C sp E t) := by
  refine ⟨fun pins s σ H Q I h => ?_⟩
  refine wpAny_Call_Name_kw (ld_glob I hg hm ?_ hdb)
  refine PySem.W.callWith_K (h₀ := X.base) I.ok.mod.kin M.kp (thn (ha.run pos pins s σ H _ I h) fun us s1 ⟨vs, H1, I1, r, q⟩ => ⟨I1.kIn, ?_⟩) he hpl
  have hq := q (s1.heap.objs.size + 1) s1.heap.objs.size (I1.hok.fresh (Nat.le_succ _)) (I1.hok.fresh (Nat.le_refl _)) (Nat.ne_of_lt (Nat.lt_succ_self _))
  have I2 := Inv.made (C := C) I1
  have r2 : Vals (V.ref (s1.heap.objs.size + 1) :: vs) (Value.ref (s1.heap.objs.size + 1) :: us) := .cons rfl r
  have hl : (Value.ref (s1.heap.objs.size + 1) :: us).length = ps.length := r2.length.symm.trans (F.len _ _ _ _ hq)
  have hbd := hb _ (Value.ref (s1.heap.objs.size + 1) :: us) I2.kIn (by simpa using hl)
  rw [List.append_nil] at hbd
  refine wpAny_call (make_map (f := f) I1.kIn M.makes M.init (beq_iff_eq.mp M.fn) (codeAny_mono (F.run _ X.stack _ _ ⟨_, []⟩ _ _ _ (E σ) (hr.make C us []) (I2.env0.make C us []) hbd r2 hq) fun r s' hq' => ?_))
  cases r with
  | error e => exact hx σ pins _ _ e s' I2 hq'
  | ok fl =>
    cases fl with
    | ret u =>
      obtain ⟨v, H', I3, rv, ev, q3⟩ := I2.after hq'
      subst ev
      exact ⟨rv, ⟨V.ref (s1.heap.objs.size + 1), H', I3, rfl, q3⟩⟩
    | next => exact False.elim hq'
    | brk => exact False.elim hq'
    | cont => exact False.elim hq'
end
theorem v_makeS {C : Addr} {sp : Sp} {E : L2.St → XK} {t : TA} {σ : L2.St} {H : Hp} {Q : VK} (h : t σ H fun vs H1 => ∀ x dx, H1 x = none → H1 dx = none → dx ≠ x →
  sp (.ref x :: vs) (upd (upd H1 dx (.own x)) x (.ins C dx [])) (fun v H2 => v = .non ∧ Q (.ref x) H2) (E σ)) : tMakeS C sp E t σ H Q := h
theorem v_make {C : Addr} {sp : Sp} {E : XK} {t : TA} {dvs : List V} {σ : L2.St} {H : Hp} {Q : VK} (h : t σ H fun vs H1 => ∀ x dx, H1 x = none → H1 dx = none → dx ≠ x →
  sp (.ref x :: (vs ++ dvs)) (upd (upd H1 dx (.own x)) x (.ins C dx [])) (fun v H2 => v = .non ∧ Q (.ref x) H2) E) : tMake C sp dvs E t σ H Q := h
theorem v_xf {a : Addr} {cls : Value} {d : Option Addr} {C : Addr} {f : Str} {te : TE} {σ : L2.St} {H : Hp} {Q : VK} (h : te σ H fun x H1 => x = .ref a ∧ cls = .ref C ∧ ∃ (dd : Addr) (fs : List (Str × V)) (v : V), d = some dd ∧ H1 dd = some (.xd fs) ∧ fs.lookup f = some v ∧ Q v H1) : tXf a cls d C f te σ H Q := h
/-- __init__ of an error that keeps one thing as f -/
def spX1 (C : Addr) (f : Str) : Sp := fun vs H Q _ => ∃ (a : Addr) (y : V), vs = [.ref a, y] ∧ H a = some (exo a C none) ∧ ∀ dx, H dx = none → dx ≠ a → Q .non (upd (upd H dx (exd dx [(f, y)])) a (exo a C (some dx)))
theorem len_x1 {C : Addr} {f : Str} {vs : List V} {H : Hp} {Q : VK} {E : XK} (h : spX1 C f vs H Q E) : vs.length = 2 := by
  obtain ⟨a, y, rfl, _⟩ := h
  rfl
def wE (E : XK) : WX := fun cls d _ H => E cls d H
/-- raise C(e, ..) -/
def tRaiseO (C : Addr) (sp : Sp) (ta : TA) (W : WX) : TS := fun _ σ H => tMkO C sp [] ta σ H fun cls d H' => W cls d σ H'
section
variable {K : PySem.W.Frag} {σ : L2.St} {H : Hp} {te : TE} {C : Addr} {f : Str} {W : WX} {D : Ends}
def RaiseK (C : Addr) (sp : Sp) (vs : List V) (W : WX) (σ : L2.St) (H : Hp) : Prop := vs.length ≤ 1000 ∧ ∀ a, H a = none → sp (.ref a :: (vs ++ [])) (upd H a (exo a C none))
  (fun v H2 => v = .non ∧ ∃ (d : Addr) (fs : List (Str × V)), H2 a = some (exo a C (some d)) ∧ H2 d = some (exd d fs) ∧ H d = none ∧ W (.ref C) (some d) σ (upd (del H2 a) d (.xd fs))) (fun _ _ _ => False)
theorem v_raiseO {sp : Sp} {ta : TA} (h : ta σ H fun vs H1 => RaiseK C sp vs W σ H1) : tRaiseO C sp ta W D σ H := h
theorem v_raise1 {y : V} (h : ∀ d, H d = none → W (.ref C) (some d) σ (upd H d (.xd [(f, y)]))) : RaiseK C (spX1 C f) [y] W σ H := by
  refine ⟨by show 1 ≤ 1000; decide, fun a na => ?_⟩
  refine ⟨a, y, rfl, upd_same, fun dx nd ne => ⟨rfl, dx, _, upd_same, by rw [upd_ne ne, upd_same], by rw [upd_ne ne] at nd; exact nd, ?_⟩⟩
  have nd1 : H dx = none := by rw [upd_ne ne] at nd; exact nd
  have e : upd (del (upd (upd (upd H a (exo a C none)) dx (exd dx [(f, y)])) a (exo a C (some dx))) a) dx (.xd [(f, y)]) = upd H dx (.xd [(f, y)]) := by
    funext b
    by_cases h1 : b = dx
    · rw [h1, upd_same, upd_same]
    · rw [upd_ne h1, upd_ne h1]
      by_cases h2 : b = a
      · rw [h2, del_same, na]
      · rw [del_ne h2, upd_ne h2, upd_ne h1, upd_ne h2]
  rw [e]
  exact h dx nd1
theorem pure_x1 (T : OexC K C) (hn : PySem.W.findIn K (.ref C) f = some none) {vs : List V} {H : Hp} {Q : VK} {E : XK} {N : List Str} (h : spX1 C f vs H Q E) (hN : N.length = 2) : tOst K f (tVar 0) (tVar 1) { nx := fun _ H' => Q .non H', rt := Q } (start N vs) H := by
  obtain ⟨a, y, rfl, e, q⟩ := h
  have es : start N [.ref a, y] = [some (.ref a), some y] := by
    unfold L2.start
    rw [hN]
    rfl
  rw [es]
  exact ⟨y, rfl, .ref a, rfl, a, C, rfl, T, hn, .inl ⟨e, q⟩⟩
end
/-- raise C(), C without fields -/
def tRaise0 (cls : Value) (W : WX) : TS := fun _ σ H => W cls none σ H
/-! ### kinds of things -/
/-- what a thing is: the name of its built-in class -/
inductive Kind (H : Hp) : V → String → Prop where
  | non : Kind H .non "NoneType"
  | bl (b : Bool) : Kind H (.bl b) "bool"
  | int (i : Int) : Kind H (.int i) "int"
  | str (s : Str) : Kind H (.str s) "str"
  | lst {a : Addr} {xs : List V} (h : H a = some (.lst xs)) : Kind H (.ref a) "list"
  | tup {a : Addr} {xs : List V} (h : H a = some (.tup xs)) : Kind H (.ref a) "tuple"
  | dK {a : Addr} {kvs : List (Key × V)} (h : H a = some (.dK kvs)) : Kind H (.ref a) "dict"
theorem Kind.tyx {K : PySem.W.Frag} {H : Hp} {x : V} {s : String} (h : Kind H x s) : TyX K H x (.type s) := by
  cases h with
  | non => exact .base .non
  | bl b => exact .base (.bl b)
  | int i => exact .base (.int i)
  | str z => exact .base (.str z)
  | lst h => exact .base (.lst h)
  | tup h => exact .base (.tup h)
  | dK h => exact .base (.dK h)
theorem Kind.same {H H' : Hp} {x : V} {s : String} (h : Kind H x s) (e : Same H H') : Kind H' x s := by
  cases h with
  | non => exact .non
  | bl b => exact .bl b
  | int i => exact .int i
  | str z => exact .str z
  | lst h => exact .lst (e _ _ h)
  | tup h => exact .tup (e _ _ h)
  | dK h => exact .dK (e _ _ h)
/-- isinstance's answers for these -/
def isA (s T : String) : Bool := (s == T) || (s == "bool" && T == "int")
theorem kit_kind {K : PySem.W.Frag} {H : Hp} {x : V} {s T : String} (h : Kind H x s) (hT : T = "int" ∨ T = "bool" ∨ T = "tuple" ∨ T = "list" ∨ T = "dict") : PySem.W.kitOne K (.type s) (.type T) = some (isA s T) := by
  cases h <;> (rcases hT with rfl | rfl | rfl | rfl | rfl <;> exact kit_ty (by decide +kernel))
section
variable {K : PySem.W.Frag} {H : Hp} {Q : VK} {x : V} {s T : String} {tp : Addr}
theorem v_isi (h : Kind H x s) (hT : T = "int" ∨ T = "bool" ∨ T = "tuple" ∨ T = "list" ∨ T = "dict") (q : Q (.bl (isA s T)) H) : rIsi K [x, .ty T] H Q :=
  ⟨x, .ty T, .type s, .type T, _, rfl, .ty T, h.tyx, kit_kind h hT, q⟩
theorem v_isiT {S T : String} (h : Kind H x s) (ht : H tp = some (.tup [.ty S, .ty T])) (hS : S = "int" ∨ S = "bool" ∨ S = "tuple" ∨ S = "list" ∨ S = "dict") (hT : T = "int" ∨ T = "bool" ∨ T = "tuple" ∨ T = "list" ∨ T = "dict")
    (q : Q (.bl (isA s S || isA s T)) H) : rIsiT K [x, .ref tp] H Q := by
  refine ⟨x, tp, [.ty S, .ty T], .type s, [.type S, .type T], _, rfl, ht, .cons (.ty S) (.cons (.ty T) .nil), h.tyx, ?_, q⟩
  refine kitAny_cons (kit_kind h hS) (fun e => kitAny_cons (kit_kind h hT) (fun e' => ?_) fun e' => ?_) fun e => ?_
  · rw [e, e']; exact kitAny_nil
  · rw [e, e']; rfl
  · rw [e]; rfl
end
/-! ### classes of the program -/
/-- what is known of an own class, so that isinstance tells -/
structure OwnC (K : PySem.W.Frag) (C : Addr) : Prop where
  ic : C8.InsC K C
  kt : ∀ s : String, s = "NoneType" ∨ s = "bool" ∨ s = "int" ∨ s = "str" ∨ s = "list" ∨ s = "tuple" ∨ s = "dict" → PySem.W.kitOne K (.type s) (.ref C) = some false ∧ PySem.W.notFirst K C (.type s) = true
theorem Kind.name {H : Hp} {x : V} {s : String} (h : Kind H x s) : s = "NoneType" ∨ s = "bool" ∨ s = "int" ∨ s = "str" ∨ s = "list" ∨ s = "tuple" ∨ s = "dict" := by cases h <;> simp
theorem OwnC.tyx {K : PySem.W.Frag} {C : Addr} (h : OwnC K C) {H : Hp} {a dx : Addr} {fs : List (Str × V)} (e : H a = some (.ins C dx fs)) : TyX K H (.ref a) (.ref C) := .base (.ins e h.ic.cl h.ic.ha h.ic.hn h.ic.htk h.ic.hm)
section
variable {K : PySem.W.Frag} {H : Hp} {Q : VK} {x : V} {s : String} {a dx C : Addr} {fs : List (Str × V)} {f : Str} {v : V}
/-- isinstance(x, C), x of a built-in kind -/
theorem v_isiK (o : OwnC K C) (h : Kind H x s) (q : Q (.bl false) H) : rIsi K [x, .ref C] H Q := ⟨x, .ref C, .type s, .ref C, false, rfl, .own C, h.tyx, (o.kt s h.name).1, q⟩
/-- .. x an instance of it -/
theorem v_isiO (o : OwnC K C) (h : H a = some (.ins C dx fs)) (q : Q (.bl true) H) : rIsi K [.ref a, .ref C] H Q := ⟨.ref a, .ref C, .ref C, .ref C, true, rfl, .own C, o.tyx h, o.ic.me, q⟩
def FldK (K : PySem.W.Frag) (f : Str) (x : V) (H : Hp) (Q : VK) : Prop := ∃ a C dx fs v, x = .ref a ∧ H a = some (.ins C dx fs) ∧ Cls K C ∧ NoAttr K C f ∧ fs.lookup f = some v ∧ Q v H
theorem v_fld {ta : TE} {σ : L2.St} (h : ta σ H fun x H1 => FldK K f x H1 Q) : tFld K ta f σ H Q := h
theorem v_fldK (o : OwnC K C) (nf : NoAttr K C f) (h : H a = some (.ins C dx fs)) (l : fs.lookup f = some v) (q : Q v H) : FldK K f (.ref a) H Q := ⟨a, C, dx, fs, v, rfl, h, o.ic.cl, nf, l, q⟩
def StK (K : PySem.W.Frag) (f : Str) (x y : V) (H : Hp) (R : Hp → Prop) : Prop := ∃ a C dx fs, x = .ref a ∧ H a = some (.ins C dx fs) ∧ Cls K C ∧ NoAttr K C f ∧ fs.length < 1000 ∧ R (upd H a (.ins C dx (putF f y fs)))
theorem v_stf {ta tv : TE} {σ : L2.St} {D : Ends} (h : tv σ H fun y H1 => ta σ H1 fun x H2 => StK K f x y H2 fun H3 => D.nx σ H3) : sFld K ta tv f D σ H := h
theorem v_stK {y : V} {R : Hp → Prop} (o : OwnC K C) (nf : NoAttr K C f) (h : H a = some (.ins C dx fs)) (l : fs.length < 1000) (q : R (upd H a (.ins C dx (putF f y fs)))) : StK K f (.ref a) y H R := ⟨a, C, dx, fs, rfl, h, o.ic.cl, nf, l, q⟩
end
/-! ### things in a heap with a pool -/
/-- a thing whose kind stays whatever is drawn -/
def AK (H : Hp) (p : Addr) : V → Prop
  | .non => True
  | .bl _ => True
  | .int _ => True
  | .str _ => True
  | .ref a => (∃ xs, Af H p a (.lst xs)) ∨ (∃ xs, Af H p a (.tup xs)) ∨ ∃ kvs, Af H p a (.dK kvs)
  | _ => False
theorem AK.mo {H H' : Hp} {p : Addr} {x : V} (h : AK H p x) (m : Mo p H H') : AK H' p x := by
  cases x with
  | ref a =>
    rcases h with ⟨xs, h⟩ | ⟨xs, h⟩ | ⟨xs, h⟩
    · exact .inl ⟨xs, m _ _ h⟩
    · exact .inr (.inl ⟨xs, m _ _ h⟩)
    · exact .inr (.inr ⟨xs, m _ _ h⟩)
  | byt b => exact h.elim
  | flt b => exact h.elim
  | ty b => exact h.elim
  | _ => trivial
theorem AK.kind {H : Hp} {p : Addr} {x : V} (h : AK H p x) : ∃ s, Kind H x s := by
  cases x with
  | non => exact ⟨_, .non⟩
  | bl b => exact ⟨_, .bl b⟩
  | int i => exact ⟨_, .int i⟩
  | str z => exact ⟨_, .str z⟩
  | ref a =>
    rcases h with ⟨xs, h⟩ | ⟨xs, h⟩ | ⟨xs, h⟩
    · exact ⟨_, .lst h.1⟩
    · exact ⟨_, .tup h.1⟩
    · exact ⟨_, .dK h.1⟩
  | byt b => exact h.elim
  | flt b => exact h.elim
  | ty b => exact h.elim
local macro_rules | `(tactic| walk_at "pl") => `(tactic| first
  | assumption
  | ((with_reducible refine' Pool.upd ?k1 ?k2); (case k2 => assumption); (case k1 => walk_at "pl")))
local macro_rules | `(tactic| walk_at "af") => `(tactic| first
  | assumption
  | ((with_reducible refine' Af.upd ?k1 ?k2); (case k2 => assumption); (case k1 => walk_at "pl"))
  | ((with_reducible refine' Af.keep ?k1 ?k2 ?k3); (case k2 => assumption); (case k1 => walk_at "pl"); (case k3 => walk_at "af"))
  | ((with_reducible refine' Af.mo (by assumption) ?_); walk_at "af"))
local macro_rules | `(tactic| walk_at "ne") => `(tactic| first | assumption | (refine Ne.symm ?_; assumption))
local macro_rules | `(tactic| walk_at "hp") => `(tactic| first
  | assumption
  | exact upd_same
  | ((with_reducible refine' upd_get (by assumption) ?_); walk_at "hp")
  | ((with_reducible refine' upd_at ?k1 ?_); (case k1 => walk_at "ne"); walk_at "hp"))
local macro_rules | `(tactic| walk_at "vc1") => `(tactic| first
  | (with_reducible refine' v_seq ?_)
  | (with_reducible refine' v_asg ?_)
  | ((with_reducible refine' v_var ?k1 ?_); (case k1 => exact rfl))
  | (with_reducible refine' v_c ?_)
  | (with_reducible refine' v_op ?_)
  | (with_reducible refine' v_I0 ?_)
  | (with_reducible refine' v_name ?_)
  | (with_reducible refine' v_cons ?_)
  | (with_reducible refine' v_nil ?_)
  | (with_reducible refine' v_cb ?_)
  | (with_reducible refine' v_int ?_)
  | (with_reducible refine' v_abs ?_)
  | (with_reducible refine' v_ifs ?_)
  | (with_reducible refine' v_test ?_)
  | (with_reducible refine' v_B ?_)
  | (with_reducible refine' v_bl ?_)
  | (with_reducible refine' v_and ?_)
  | (with_reducible refine' v_or ?_)
  | (with_reducible refine' v_not ?_)
  | (with_reducible refine' v_eqI ?_)
  | (with_reducible refine' v_neI ?_)
  | (with_reducible refine' v_ret ?_)
  | (with_reducible refine' v_retN ?_)
  | (with_reducible refine' v_next ?_)
  | (with_reducible refine' v_drop ?_)
  | (with_reducible refine' v_call ?_)
  | (with_reducible refine' v_sub ?_)
  | (with_reducible refine' v_lst ?_)
  | (with_reducible refine' v_tup ?_)
  | (with_reducible refine' v_sl ?_)
  | (with_reducible refine' v_nopart ?_)
  | (with_reducible refine' v_part ?_)
  | (with_reducible refine' v_partI ?_)
  | (with_reducible refine' v_if ?_)
  | (with_reducible refine' v_chain ?_)
  | (with_reducible refine' v_andV ?_)
  | (with_reducible refine' v_orV ?_)
  | (with_reducible refine' v_notV ?_)
  | (with_reducible refine' v_un ?_)
  | (with_reducible refine' v_U ?_)
  | (with_reducible refine' v_isN ?_)
  | (with_reducible refine' v_notN ?_)
  | (with_reducible refine' v_eqB ?_)
  | (with_reducible refine' v_neB ?_)
  | (with_reducible refine' v_yes ?_)
  | (with_reducible refine' v_dnew ?_)
  | (with_reducible refine' v_iteT ?_)
  | (with_reducible refine' v_iteF ?_)
  | (with_reducible refine' v_iteNT ?_)
  | (with_reducible refine' v_iteNF ?_)
  | (with_reducible refine' v_for ?_)
  | (with_reducible refine' v_lc ?_)
  | (with_reducible refine' v_iR1 ?_)
  | (with_reducible refine' v_iR2 ?_)
  | (with_reducible refine' v_iL ?_)
  | (with_reducible refine' v_iT ?_)
  | (with_reducible refine' v_bm ?_)
  | (with_reducible refine' v_bm0 ?_)
  | (with_reducible refine' v_tRg2 ?_)
  | (with_reducible refine' v_tRg1 ?_)
  | (with_reducible refine' v_rg2e ?_)
  | (with_reducible refine' v_rg1e ?_)
  | (with_reducible refine' v_lstRg ?_)
  | (with_reducible refine' v_tupRg ?_)
  | ((with_reducible refine' v_bmL ?k1 ?_); (case k1 => walk_at "hp"))
  | ((with_reducible refine' v_bm0L ?k1 ?_); (case k1 => walk_at "hp"))
  | (with_reducible refine' v_fld ?_)
  | (with_reducible refine' v_makeS ?_)
  | (with_reducible refine' v_make ?_)
  | (with_reducible refine' v_xf ?_)
  | (with_reducible refine' v_stf ?_)
  | (with_reducible refine' v_raiseO ?_)
  | ((with_reducible refine' v_ixL' ?k1 ?k2 ?_); (case k1 => walk_at "hp"); (case k2 => exact rfl))
  | ((with_reducible refine' v_ixT' ?k1 ?k2 ?_); (case k1 => walk_at "hp"); (case k2 => exact rfl))
  | ((with_reducible refine' v_setL ?k1 ?k2 ?_); (case k1 => walk_at "hp"); (case k2 => exact rfl))
  | ((with_reducible refine' v_lenL' ?k1 ?_); (case k1 => walk_at "hp"))
  | ((with_reducible refine' v_lenT' ?k1 ?_); (case k1 => walk_at "hp"))
  | ((with_reducible refine' v_bound ?k1 ?_); (case k1 => (first | decide | omega | (simp only [List.length_cons, List.length_nil]; omega)))))
local macro_rules | `(tactic| walk_at "vc") => `(tactic| repeat (walk_at "vc1"))
/-! ### the draw -/
section
variable {K : PySem.W.Frag}
theorem v_slL' {H : Hp} {Q : VK} {a : Addr} {xs : List V} {lo hi : Option Int} (h : H a = some (.lst xs)) (q : ∀ p, H p = none → Q (.ref p) (upd H p (.lst (cutV xs lo hi)))) : rSlL K (.ref a) lo hi H Q := v_slL (SqL.of h) q
theorem cut1 (xs : List V) : cutV xs (some 1) none = xs.drop 1 := by
  unfold cutV
  rw [show HT.sIx xs.length 0 (some 1) = min 1 xs.length from HT.sIx_nat xs.length 0 1, HT.sIx_none]
  cases xs with
  | nil => rfl
  | cons x r =>
    rw [show min 1 (x :: r).length = 1 by
      rw [List.length_cons]
      omega]
    show (List.take ((x :: r).length - 1) r) = r
    rw [List.length_cons, Nat.add_sub_cancel]
    exact List.take_length
theorem pure_l_draw {vs : List V} {H : Hp} {Q : VK} {E : XK} (h : spDraw vs H Q E) : t_l_draw K { nx := fun _ H' => Q .non H', rt := Q } (start ["_law_pool_here", "_law_many_here", "_law_digit", "_law_cell", "_law_number"] vs) H := by
  obtain ⟨p, m, rfl, hp, h1, h2, q⟩ := h
  unfold t_l_draw
  refine v_cut (fun σ' H' => σ' = [some (.ref p), some (.int m), none, none, none] ∧ Pool H' p ∧ Mo p H H') ?_ ?_
  · obtain ⟨g, s, gs, ss, x, y, hP, hG, hS, ng, ns, lg, ls⟩ := hp
    have hp : Pool H p := ⟨g, s, gs, ss, x, y, hP, hG, hS, ng, ns, lg, ls⟩
    walk_at "vc"
    refine v_ite (fun hx => ?_) (fun hx => ?_)
    · walk_at "vc"
      refine v_ite (fun hl => ?_) (fun hl => ?_)
      · obtain ⟨n, gs', rfl⟩ : ∃ n gs', gs = n :: gs' := by
          cases gs with
          | nil => exact absurd hl (by simp)
          | cons n r => exact ⟨n, r, rfl⟩
        walk_at "vc"
        refine v_ixL' hG (atI_nat (j := 0) rfl) ?_
        walk_at "vc"
        refine v_slL' (by walk_at "hp") fun g' ng' => ?_
        walk_at "vc"
        have npp : g' ≠ p := fun z => by rw [z, upd_same] at ng'; cases ng'
        have npg : g' ≠ g := fun z => by rw [z, upd_ne ng, hG] at ng'; cases ng'
        have nps : g' ≠ s := fun z => by rw [z, upd_ne ns, hS] at ng'; cases ng'
        have hP' : (upd (upd (upd H p (.lst [.ref g, .ref s, .int n, .int y])) g' (.lst (cutV (List.map V.int (n :: gs')) (some 1) none))) p (.lst [.ref g', .ref s, .int n, .int y])) p = some (.lst [.ref g', .ref s, .int n, .int y]) := upd_same
        refine ⟨rfl, ⟨g', s, gs', ss, n, y, hP', ?_, ?_, npp, ns, ?_, ls⟩, ⟨fun b o hb => ?_, fun b e => (upd_none (upd_none (upd_none e).2).2).2⟩⟩
        · rw [upd_ne npp, upd_same, cut1]; rfl
        · rw [upd_ne ns, upd_ne nps.symm, upd_ne ns]; exact hS
        · rw [List.length_cons] at lg; omega
        · have hn := hb.2
          rw [owned_pool hP] at hn
          have nb : b ≠ g' := fun z => by
            have e := hb.1
            have ng'' := ng'
            rw [upd_ne npp, ← z, e] at ng''
            cases ng''
          refine ⟨?_, ?_⟩
          · rw [upd_ne (fun z => hn (.inl z)), upd_ne nb, upd_ne (fun z => hn (.inl z))]; exact hb.1
          · refine fun ow => ?_
            rcases (owned_pool hP').mp ow with z | z | z
            · exact hn (.inl z)
            · exact nb z
            · exact hn (.inr (.inr z))
      · walk_at "vc"
        exact ⟨rfl, hp, .refl _ _⟩
    · walk_at "vc"
      exact ⟨rfl, hp, .refl _ _⟩
  · rintro σ' H1 ⟨rfl, hp1, m1⟩
    obtain ⟨g, s, gs, ss, x, y, hP, hG, hS, ng, ns, lg, ls⟩ := hp1
    have hp1 : Pool H1 p := ⟨g, s, gs, ss, x, y, hP, hG, hS, ng, ns, lg, ls⟩
    have ch : ∀ x' y' : Int, Pool (upd H1 p (.lst [.ref g, .ref s, .int x', .int y'])) p ∧ Mo p H (upd H1 p (.lst [.ref g, .ref s, .int x', .int y'])) := fun x' y' => by
      refine ⟨⟨g, s, gs, ss, x', y', upd_same, by rw [upd_ne ng]; exact hG, by rw [upd_ne ns]; exact hS, ng, ns, lg, ls⟩, m1.trans ⟨fun b o hb => ?_, fun b e => (upd_none e).2⟩⟩
      have hn := hb.2
      rw [owned_pool hP] at hn
      refine ⟨by rw [upd_ne (fun z => hn (.inl z))]; exact hb.1, ?_⟩
      rw [owned_pool upd_same]
      exact hn
    walk_at "vc"
    refine v_ite (fun hx => ?_) (fun hx => ?_)
    · walk_at "vc"
      refine v_I (by show (0 : Int) < m; omega) ?_
      walk_at "vc"
      refine v_I (by show m ≠ 0 ∧ m.natAbs < 1073741824; omega) ?_
      walk_at "vc"
      exact q _ _ (Int.emod_nonneg _ (by omega)) (Int.emod_lt_of_pos _ (by omega)) (ch _ _).1 (ch _ _).2
    · walk_at "vc"
      refine v_cut (fun σ' H' => ∃ c : Int, σ' = [some (.ref p), some (.int m), none, some (.int c), none] ∧ H' = upd H1 p (.lst [.ref g, .ref s, .int x, .int (y + 1)])) ?_ ?_
      · walk_at "vc"
        refine v_ite (fun hl => ?_) (fun hl => ?_)
        · walk_at "vc"
          have hlen : (0 : Int) < ((ss.map V.int).length : Nat) := hl
          refine v_I hlen ?_
          have hlt : ((y + 1) % ((ss.map V.int).length : Nat)).toNat < ss.length := by
            have e1 := Int.emod_nonneg (y + 1) (b := ((ss.map V.int).length : Nat)) (by omega)
            have e2 := Int.emod_lt_of_pos (y + 1) hlen
            rw [List.length_map] at e1 e2 ⊢
            omega
          refine v_ixL' (v := .int ss[((y + 1) % ((ss.map V.int).length : Nat)).toNat]) (by walk_at "hp") (at_of (j := ((y + 1) % ((ss.map V.int).length : Nat)).toNat) (by
            have e1 := Int.emod_nonneg (y + 1) (b := ((ss.map V.int).length : Nat)) (by omega)
            omega) ?_) ?_
          · rw [List.getElem?_map, List.getElem?_eq_getElem hlt]; rfl
          · walk_at "vc"
            exact ⟨_, rfl, rfl⟩
        · walk_at "vc"
          exact ⟨_, rfl, rfl⟩
      · rintro σ' H2 ⟨c, rfl, rfl⟩
        walk_at "vc"
        refine v_I (.inl (by decide)) ?_
        walk_at "vc"
        refine v_I (.inr (by decide)) ?_
        walk_at "vc"
        refine v_I (by first | exact ⟨by decide, by decide⟩ | decide) ?_
        walk_at "vc"
        generalize hz : (c + 7919 * (y + 1) + 1) * 48271 % 2147483647 = z
        have z0 := Int.emod_nonneg ((c + 7919 * (y + 1) + 1) * 48271) (b := 2147483647) (by decide)
        have z1 := Int.emod_lt_of_pos ((c + 7919 * (y + 1) + 1) * 48271) (b := 2147483647) (by decide)
        rw [hz] at z0 z1
        refine v_I (by first | exact ⟨by decide, by decide⟩ | decide) ?_
        walk_at "vc"
        refine v_I (.inl (by omega)) ?_
        walk_at "vc"
        refine v_I (by first | exact ⟨by decide, by decide⟩ | decide) ?_
        walk_at "vc"
        generalize hu : z * (z.fdiv 1009 + 69621) % 2147483647 = u
        have u0 := Int.emod_nonneg (z * (z.fdiv 1009 + 69621)) (b := 2147483647) (by decide)
        have u1 := Int.emod_lt_of_pos (z * (z.fdiv 1009 + 69621)) (b := 2147483647) (by decide)
        rw [hu] at u0 u1
        refine v_I (by first | exact ⟨by decide, by decide⟩ | decide) ?_
        walk_at "vc"
        refine v_I (.inl (by omega)) ?_
        walk_at "vc"
        refine v_I (by first | exact ⟨by decide, by decide⟩ | decide) ?_
        walk_at "vc"
        refine v_I (by first | exact ⟨by decide, by decide⟩ | decide) ?_
        walk_at "vc"
        refine v_I (by show (0 : Int) < m; omega) ?_
        walk_at "vc"
        exact q _ _ (Int.emod_nonneg _ (by omega)) (Int.emod_lt_of_pos _ (by omega)) (ch _ _).1 (ch _ _).2
/-! ### the pool's making -/
theorem take_snoc {α : Type} : ∀ {l : List α} {i : Nat} {x : α}, l[i]? = some x → l.take (i + 1) = l.take i ++ [x]
  | [], i, x, h => by simp at h
  | a :: l, 0, x, h => by
    have e : a = x := Option.some.inj h
    subst e
    rfl
  | a :: l, i + 1, x, h => by
    have ih := take_snoc (l := l) (i := i) (x := x) h
    show a :: l.take (i + 1) = a :: l.take i ++ [x]
    rw [ih]
    rfl
theorem cut_map (ns : List Int) (lo hi : Option Int) : ∃ ms : List Int, cutV (ns.map V.int) lo hi = ms.map V.int ∧ ms.length ≤ ns.length := by
  unfold cutV
  refine ⟨(ns.drop (HT.sIx (ns.map V.int).length 0 lo)).take (HT.sIx (ns.map V.int).length (ns.map V.int).length hi - HT.sIx (ns.map V.int).length 0 lo), ?_, ?_⟩
  · rw [List.map_take, List.map_drop]
  · rw [List.length_take, List.length_drop]
    omega
theorem map_get {ns : List Int} {i : Nat} {x : V} (h : (ns.map V.int)[i]? = some x) : ∃ n : Int, x = .int n := by
  rw [List.getElem?_map] at h
  cases e : ns[i]? with
  | none => rw [e] at h; cases h
  | some z => rw [e] at h; exact ⟨z, (Option.some.inj h).symm⟩
theorem pure_l_pool {vs : List V} {H : Hp} {Q : VK} {E : XK} (h : spPool K vs H Q E) : t_l_pool K { nx := fun _ H' => Q .non H', rt := Q } (start ["_law_script", "_law_great", "_law_small", "_law_cell"] vs) H := by
  obtain ⟨a, ns, rfl, hS, hl, q⟩ := h
  unfold t_l_pool
  walk_at "vc"
  obtain ⟨ms, em, hml⟩ := cut_map ns none (some 63)


  walk_at "vc"
  refine v_slL hS fun l nl => ?_
  refine ⟨l, rfl, ⟨_, SqL.of upd_same⟩, fun D nD => ?_⟩
  have s1 : Same H (upd H l (.lst (cutV (ns.map V.int) none (some 63)))) := same_upd nl
  have hl1 : (upd H l (.lst (cutV (ns.map V.int) none (some 63)))) l = some (.lst (cutV (ns.map V.int) none (some 63))) := upd_same
  generalize upd H l (.lst (cutV (ns.map V.int) none (some 63))) = H1 at *
  rw [em] at hl1
  refine lc_list (xs := ms.map V.int) (fun i H' => ∃ acc : List Int, H' D = some (.lst (acc.map V.int)) ∧ acc.length ≤ i ∧ Same H1 H') ⟨[], upd_same, Nat.le_refl _, same_upd nD⟩ (fun i H' _ ⟨_, _, _, s⟩ => SqL.of (s _ _ hl1)) ?_ ?_
  · rintro i x H2 hx ⟨acc, hacc, hal, s2⟩
    obtain ⟨n, rfl⟩ := map_get hx
    have hi : i < ms.length := by
      have := (List.getElem?_eq_some_iff.mp hx).1
      rw [List.length_map] at this
      exact this
    walk_at "vc"
    refine ⟨rfl, ?_⟩
    walk_at "vc"
    refine v_I ⟨by decide, by decide, by decide⟩ ?_
    walk_at "vc"
    refine v_ite (fun c => ?_) (fun c => ?_)
    · walk_at "vc"
      refine ⟨_, hacc, by rw [List.length_map]; exact small1000 (by omega), acc ++ [if n < 0 then -n else n], by rw [upd_same, List.map_append]; rfl, by rw [List.length_append]; show acc.length + 1 ≤ i + 1; omega, fun b o e => ?_⟩
      rw [upd_ne (ne_of_none e nD)]
      exact s2 _ _ e
    · exact ⟨acc, hacc, by omega, s2⟩
  · rintro H2 ⟨gs, hgs, hgl, s2⟩
    rw [List.length_map] at hgl
    walk_at "vc"


    walk_at "vc"
    refine v_slL ((s1.trans s2).seq hS) fun l2 nl2 => ?_
    refine ⟨l2, rfl, ⟨_, SqL.of upd_same⟩, fun D2 nD2 => ?_⟩
    have hg3 : (upd H2 l2 (.lst (cutV (ns.map V.int) none (some 63)))) D = some (.lst (gs.map V.int)) := by walk_at "hp"
    have hl3 : (upd H2 l2 (.lst (cutV (ns.map V.int) none (some 63)))) l2 = some (.lst (cutV (ns.map V.int) none (some 63))) := upd_same
    generalize upd H2 l2 (.lst (cutV (ns.map V.int) none (some 63))) = H3 at *
    rw [em] at hl3
    refine lc_list (xs := ms.map V.int) (fun i H' => ∃ acc : List Int, H' D2 = some (.lst (acc.map V.int)) ∧ acc.length ≤ i ∧ Same H3 H') ⟨[], upd_same, Nat.le_refl _, same_upd nD2⟩ (fun i H' _ ⟨_, _, _, s⟩ => SqL.of (s _ _ hl3)) ?_ ?_
    · rintro i x H4 hx ⟨acc, hacc, hal, s4⟩
      obtain ⟨n, rfl⟩ := map_get hx
      have hi : i < ms.length := by
        have := (List.getElem?_eq_some_iff.mp hx).1
        rw [List.length_map] at this
        exact this
      walk_at "vc"
      refine ⟨rfl, ?_⟩
      walk_at "vc"
      refine v_I ⟨by decide, by decide, by decide⟩ ?_
      walk_at "vc"
      refine v_ite (fun c => ?_) (fun c => ?_)
      · walk_at "vc"
        refine v_I (by decide) ?_
        refine ⟨_, hacc, by rw [List.length_map]; exact small1000 (by omega), acc ++ [n % 1000003], by rw [upd_same, List.map_append]; rfl, by rw [List.length_append]; show acc.length + 1 ≤ i + 1; omega, fun b o e => ?_⟩
        rw [upd_ne (ne_of_none e nD2)]
        exact s4 _ _ e
      · exact ⟨acc, hacc, by omega, s4⟩
    · rintro H4 ⟨ss, hss, hsl, s4⟩
      rw [List.length_map] at hsl
      walk_at "vc"
      intro p np
      have hg4 := s4 _ _ hg3
      refine q p _ ⟨D, D2, gs, ss, 0, 0, upd_same, by walk_at "hp", by walk_at "hp", fun z => ?_, fun z => ?_, by omega, by omega⟩
      · rw [z, np] at hg4; cases hg4
      · rw [z, np] at hss; cases hss
end

/-! ### trees: the mathematics -/
theorem pigeon : ∀ (n : Nat) (f : Nat → Nat), (∀ k, k ≤ n → f k < n) → ∃ i j, i < j ∧ j ≤ n ∧ f i = f j
  | 0, f, h => absurd (h 0 (Nat.le_refl _)) (by omega)
  | n + 1, f, h => by
    by_cases e : ∃ i, i ≤ n ∧ f i = f (n + 1)
    · obtain ⟨i, hi, e⟩ := e
      exact ⟨i, n + 1, by omega, Nat.le_refl _, e⟩
    · have ne : ∀ i, i ≤ n → f i ≠ f (n + 1) := fun i hi z => e ⟨i, hi, z⟩
      have hl := h (n + 1) (Nat.le_refl _)
      obtain ⟨i, j, hij, hj, g⟩ := pigeon n (fun k => if f k = n then f (n + 1) else f k) fun k hk => by
        have h1 := h k (by omega)
        have h2 := ne k hk
        by_cases q : f k = n
        · simp only [q, if_true]; omega
        · simp only [q, if_false]; omega
      refine ⟨i, j, hij, by omega, ?_⟩
      have h1 := ne i (by omega)
      have h2 := ne j hj
      by_cases q1 : f i = n
      · by_cases q2 : f j = n
        · rw [q1, q2]
        · simp only [q1, q2, if_true, if_false] at g
          exact absurd g.symm h2
      · by_cases q2 : f j = n
        · simp only [q1, q2, if_true, if_false] at g
          exact absurd g h1
        · simp only [q1, q2, if_false] at g
          exact g
/-- one step up; many -/
def stp (hs : List Int) (h : Int) : Int := if h = 0 then 0 else hs.getD (h.toNat - 1) 0
def up (hs : List Int) : Nat → Int → Int
  | 0, h => h
  | k + 1, h => up hs k (stp hs h)
theorem up_add (hs : List Int) : ∀ (a b : Nat) (h : Int), up hs (a + b) h = up hs b (up hs a h)
  | 0, b, h => by rw [Nat.zero_add]; rfl
  | a + 1, b, h => by
    rw [show a + 1 + b = (a + b) + 1 by omega]
    exact up_add hs a b (stp hs h)
theorem up_succ (hs : List Int) (k : Nat) (h : Int) : up hs (k + 1) h = stp hs (up hs k h) := up_add hs k 1 h
theorem up_zero (hs : List Int) : ∀ k : Nat, up hs k 0 = 0
  | 0 => rfl
  | k + 1 => up_zero hs k
theorem up_past {hs : List Int} {i j : Nat} {h : Int} (e : up hs i h = 0) (l : i ≤ j) : up hs j h = 0 := by
  rw [show j = i + (j - i) by omega, up_add, e, up_zero]
/-- all are places -/
def Pls (hs : List Int) : Prop := ∀ h ∈ hs, 0 ≤ h ∧ h ≤ hs.length
theorem Pls.at {hs : List Int} (p : Pls hs) (i : Nat) : 0 ≤ hs.getD i 0 ∧ hs.getD i 0 ≤ hs.length := by
  by_cases hi : i < hs.length
  · rw [List.getD_eq_getElem?_getD, List.getElem?_eq_getElem hi]
    exact p _ (List.getElem_mem hi)
  · rw [List.getD_eq_getElem?_getD, List.getElem?_eq_none (by omega)]
    exact ⟨Int.le_refl _, Int.natCast_nonneg _⟩
theorem up_in {hs : List Int} (p : Pls hs) : ∀ (k : Nat) (h : Int), 0 ≤ h → h ≤ hs.length → 0 ≤ up hs k h ∧ up hs k h ≤ hs.length
  | 0, h, a, b => ⟨a, b⟩
  | k + 1, h, a, b => by
    refine up_in p k (stp hs h) ?_ ?_
    · unfold stp
      split
      · exact Int.le_refl _
      · exact (p.at _).1
    · unfold stp
      split
      · exact Int.natCast_nonneg _
      · exact (p.at _).2
def leads (hs : List Int) (b : Int) : Bool := (List.range (hs.length + 1)).any fun k => decide (up hs k b = 0)
theorem leads_true {hs : List Int} {b : Int} {k : Nat} (hk : k ≤ hs.length) (e : up hs k b = 0) : leads hs b = true :=
  List.any_eq_true.mpr ⟨k, List.mem_range.mpr (by omega), decide_eq_true e⟩
theorem leads_false {hs : List Int} {b : Int} (h : ∀ k, k ≤ hs.length → up hs k b ≠ 0) : leads hs b = false := by
  cases e : leads hs b with
  | false => rfl
  | true =>
    obtain ⟨k, hk, q⟩ := List.any_eq_true.mp e
    exact absurd (of_decide_eq_true q) (h k (by have := List.mem_range.mp hk; omega))
theorem of_leads {hs : List Int} {b : Int} (h : leads hs b = true) : ∃ k, k ≤ hs.length ∧ up hs k b = 0 := by
  obtain ⟨k, hk, q⟩ := List.any_eq_true.mp h
  exact ⟨k, by have := List.mem_range.mp hk; omega, of_decide_eq_true q⟩
/-- one turn more tells nothing new -/
theorem leads_iff {hs : List Int} (p : Pls hs) {b : Int} (h0 : 0 ≤ b) (h1 : b ≤ hs.length) : leads hs b = decide (up hs (hs.length + 1) b = 0) := by
  by_cases e : up hs (hs.length + 1) b = 0
  · rw [decide_eq_true e]
    by_cases q : ∃ k, k ≤ hs.length ∧ up hs k b = 0
    · obtain ⟨k, hk, q⟩ := q
      exact leads_true hk q
    · exfalso
      have nz : ∀ k, k ≤ hs.length → up hs k b ≠ 0 := fun k hk z => q ⟨k, hk, z⟩
      obtain ⟨i, j, hij, hj, g⟩ := pigeon hs.length (fun k => (up hs k b).toNat - 1) fun k hk => by
        have := up_in p k b h0 h1
        have := nz k hk
        omega
      have e1 : up hs i b = up hs j b := by
        have := up_in p i b h0 h1
        have := up_in p j b h0 h1
        have := nz i (by omega)
        have := nz j hj
        have g' : (up hs i b).toNat - 1 = (up hs j b).toNat - 1 := g
        omega
      refine nz (i + (hs.length + 1 - j)) (by omega) ?_
      rw [up_add, e1, ← up_add, show j + (hs.length + 1 - j) = hs.length + 1 by omega]
      exact e
  · rw [decide_eq_false e]
    exact leads_false fun k hk z => e (up_past z (by omega))

/-! ### what is due for a thing -/
inductive Part where
  | hung
  | blk (k : Nat)
  | ring (k : Nat)
def badAt (xs : List V) (k : Nat) : Bool := match xs[k]? with
  | some (.int i) => !(decide (0 ≤ i ∧ i ≤ xs.length)) || decide (i = k + 1)
  | _ => true
def nums (xs : List V) : List Int := xs.map fun x => match x with
  | .int i => i
  | _ => 0
theorem nums_map (ns : List Int) : nums (ns.map V.int) = ns := by
  unfold nums
  rw [List.map_map]
  exact List.map_id' ns
def partT (xs : List V) : Option Part := if xs.length = 0 ∨ 40 < xs.length then some .hung else match (List.range xs.length).find? (badAt xs) with
  | some k => some (.blk (k + 1))
  | none => match (List.range xs.length).find? (fun (k : Nat) => !leads (nums xs) ((k : Int) + 1)) with
    | some k => some (.ring (k + 1))
    | none => none
theorem find_first {n k : Nat} {f : Nat → Bool} (hk : k < n) (h : f k = true) (l : ∀ j, j < k → f j = false) : (List.range n).find? f = some k := by
  rw [List.find?_range_eq_some]
  exact ⟨h, List.mem_range.mpr hk, fun j hj => by rw [l j hj]; rfl⟩
theorem find_no {n : Nat} {f : Nat → Bool} (l : ∀ j, j < n → f j = false) : (List.range n).find? f = none := by
  rw [List.find?_eq_none]
  intro j hj
  rw [l j (List.mem_range.mp hj)]
  exact Bool.false_ne_true
theorem partT_hung {xs : List V} (h : xs.length = 0 ∨ 40 < xs.length) : partT xs = some .hung := if_pos h
theorem partT_blk {xs : List V} {k : Nat} (h : ¬ (xs.length = 0 ∨ 40 < xs.length)) (hk : k < xs.length) (b : badAt xs k = true) (l : ∀ j, j < k → badAt xs j = false) : partT xs = some (.blk (k + 1)) := by
  unfold partT
  rw [if_neg h, find_first hk b l]
theorem partT_ring {xs : List V} {k : Nat} (h : ¬ (xs.length = 0 ∨ 40 < xs.length)) (g : ∀ j, j < xs.length → badAt xs j = false) (hk : k < xs.length) (b : leads (nums xs) (k + 1) = false) (l : ∀ j : Nat, j < k → leads (nums xs) (j + 1) = true) : partT xs = some (.ring (k + 1)) := by
  unfold partT
  rw [if_neg h, find_no g, find_first hk (by rw [b]; rfl) fun j hj => by rw [l j hj]; rfl]
theorem partT_none {xs : List V} (h : ¬ (xs.length = 0 ∨ 40 < xs.length)) (g : ∀ j, j < xs.length → badAt xs j = false) (l : ∀ j : Nat, j < xs.length → leads (nums xs) (j + 1) = true) : partT xs = none := by
  unfold partT
  rw [if_neg h, find_no g, find_no fun j hj => by rw [l j hj]; rfl]
/-- items of which none is bad are places -/
theorem good_nums {xs : List V} (g : ∀ j, j < xs.length → badAt xs j = false) : xs = (nums xs).map V.int ∧ Pls (nums xs) ∧ (nums xs).length = xs.length := by
  have hl : (nums xs).length = xs.length := List.length_map _
  have at_ : ∀ (j : Nat) (x : V), xs[j]? = some x → ∃ i : Int, x = .int i ∧ 0 ≤ i ∧ i ≤ xs.length ∧ i ≠ j + 1 := fun j x e => by
    have q := g j (List.getElem?_eq_some_iff.mp e).1
    unfold badAt at q
    rw [e] at q
    cases x with
    | int i =>
      simp only [Bool.or_eq_false_iff, Bool.not_eq_false', decide_eq_true_eq, decide_eq_false_iff_not] at q
      exact ⟨i, rfl, q.1.1, q.1.2, q.2⟩
    | _ => exact absurd q (by simp)
  refine ⟨?_, ?_, hl⟩
  · refine List.ext_getElem? fun j => ?_
    unfold nums
    rw [List.map_map, List.getElem?_map]
    cases e : xs[j]? with
    | none => rfl
    | some x =>
      obtain ⟨i, rfl, _⟩ := at_ j x e
      rfl
  · intro h hm
    rw [hl]
    unfold nums at hm
    obtain ⟨x, hx, e⟩ := List.mem_map.mp hm
    obtain ⟨j, hj⟩ := List.mem_iff_getElem?.mp hx
    obtain ⟨i, rfl, h0, h1, _⟩ := at_ j x hj
    have e' : i = h := e
    exact ⟨by omega, by omega⟩
/-- a tree's row: places, none the block's own, each leads home -/
def IsTree (hs : List Int) : Prop := 1 ≤ hs.length ∧ hs.length ≤ 40 ∧ Pls hs ∧ (∀ (k : Nat) (h : Int), hs[k]? = some h → h ≠ k + 1) ∧ ∀ b : Nat, b < hs.length → leads hs (b + 1) = true
theorem IsTree.part {hs : List Int} (t : IsTree hs) : partT (hs.map V.int) = none := by
  obtain ⟨h1, h2, p, ns, l⟩ := t
  have hl : (hs.map V.int).length = hs.length := List.length_map _
  refine partT_none (by rw [hl]; omega) (fun j hj => ?_) fun j hj => ?_
  · rw [hl] at hj
    unfold badAt
    rw [List.getElem?_map, List.getElem?_eq_getElem hj, hl]
    have q := p _ (List.getElem_mem hj)
    have n := ns j _ (List.getElem?_eq_getElem hj)
    show (!decide (0 ≤ hs[j] ∧ hs[j] ≤ (hs.length : Int)) || decide (hs[j] = (j : Int) + 1)) = false
    rw [decide_eq_true q, decide_eq_false n]
    rfl
  · rw [hl] at hj
    rw [nums_map]
    exact l j hj

theorem partT_inv {xs : List V} (h : partT xs = none) : ∃ hs : List Int, xs = hs.map V.int ∧ IsTree hs := by
  unfold partT at h
  split at h
  · cases h
  · rename_i hl
    split at h
    · cases h
    · rename_i hf
      split at h
      · cases h
      · rename_i hg
        have g : ∀ j, j < xs.length → badAt xs j = false := fun j hj => by
          have := List.find?_eq_none.mp hf j (List.mem_range.mpr hj)
          simpa using this
        obtain ⟨en, pl, ln⟩ := good_nums g
        refine ⟨nums xs, en, by omega, by omega, pl, fun k z hk => ?_, fun b hb => ?_⟩
        · have hk' : k < xs.length := by rw [← ln]; exact (List.getElem?_eq_some_iff.mp hk).1
          have q := g k hk'
          unfold badAt at q
          rw [en, List.getElem?_map, hk] at q
          have q' : (!decide (0 ≤ z ∧ z ≤ ((((nums xs).map V.int).length : Nat) : Int)) || decide (z = (k : Int) + 1)) = false := q
          simp only [Bool.or_eq_false_iff, decide_eq_false_iff_not] at q'
          exact q'.2
        · have := List.find?_eq_none.mp hg b (List.mem_range.mpr (by omega))
          simpa using this
/-! ### things and parts in a heap -/
def Thing (H : Hp) (x : V) (r : Option Part) : Prop := (∃ s, Kind H x s ∧ s ≠ "tuple" ∧ r = some .hung) ∨ ∃ (a : Addr) (xs : List V), x = .ref a ∧ H a = some (.tup xs) ∧ (∀ y ∈ xs, ∃ s, Kind H y s) ∧ r = partT xs
def Enc (H : Hp) (x : V) : Option Part → Prop
  | none => x = .non
  | some .hung => x = .str "hung"
  | some (.blk k) => x = .int k
  | some (.ring k) => ∃ t, x = .ref t ∧ H t = some (.tup [.str "ring", .int k])
theorem Thing.same {H H' : Hp} {x : V} {r : Option Part} (h : Thing H x r) (e : Same H H') : Thing H' x r := by
  rcases h with ⟨s, k, n, q⟩ | ⟨a, xs, q, ha, k, z⟩
  · exact .inl ⟨s, k.same e, n, q⟩
  · exact .inr ⟨a, xs, q, e _ _ ha, fun y hy => let ⟨s, h⟩ := k y hy; ⟨s, h.same e⟩, z⟩
theorem Enc.same {H H' : Hp} {x : V} {r : Option Part} (h : Enc H x r) (e : Same H H') : Enc H' x r := by
  cases r with
  | none => exact h
  | some p =>
    cases p with
    | hung => exact h
    | blk k => exact h
    | ring k =>
      obtain ⟨t, q, ht⟩ := h
      exact ⟨t, q, e _ _ ht⟩

/-! ### equality of tuples of ints -/
theorem dpAll_ints {K : PySem.W.Frag} {H : Hp} : ∀ hs : List Int, DpAll K H (hs.map V.int) (hs.map PyData.int)
  | [] => .nil
  | h :: r => .cons (.int h) (dpAll_ints r)
theorem eqvAll_ints : ∀ hs ks : List Int, PyData.eqvAll (hs.map PyData.int) (ks.map PyData.int) = decide (hs = ks)
  | [], [] => rfl
  | [], _ :: _ => rfl
  | _ :: _, [] => rfl
  | h :: r, k :: s => by
    show (h == k && PyData.eqvAll (r.map PyData.int) (s.map PyData.int)) = _
    rw [eqvAll_ints r s, Bool.eq_iff_iff]
    simp
theorem layAll_ints : ∀ hs : List Int, PyData.canLayAll0 (hs.map PyData.int) = true
  | [] => rfl
  | h :: r => by
    show (PyData.canLay0 (.int h) && PyData.canLayAll0 (r.map PyData.int)) = true
    rw [layAll_ints r]
    rfl
theorem depthAll_ints : ∀ hs : List Int, PyData.depthAll (hs.map PyData.int) = 0
  | [] => rfl
  | h :: r => by
    show max 0 (PyData.depthAll (r.map PyData.int)) = 0
    rw [depthAll_ints r]
    rfl
theorem shaped_ints (hs : List Int) : SeqAt.shaped (.tuple (hs.map PyData.int)) = true := by
  show (PyData.canLayAll0 (hs.map PyData.int) && decide (PyData.depthAll (hs.map PyData.int) + 1 ≤ 64)) = true
  rw [layAll_ints, depthAll_ints]
  rfl
theorem v_eqTI {K : PySem.W.Frag} {H : Hp} {Q : VK} {a b : Addr} {hs ks : List Int} (h1 : H a = some (.tup (hs.map V.int))) (h2 : H b = some (.tup (ks.map V.int))) (q : Q (.bl (decide (hs = ks))) H) : rEqD K (.ref a) (.ref b) H Q := by
  refine ⟨_, _, .tup (SqT.of h1) (dpAll_ints hs), .tup (SqT.of h2) (dpAll_ints ks), shaped_ints hs, shaped_ints ks, ?_⟩
  show Q (.bl (PyData.eqvAll (hs.map PyData.int) (ks.map PyData.int))) H
  rw [eqvAll_ints]
  exact q

/-! ### promises -/
def within : V → Int → Int → Bool
  | .int i, lo, hi => decide (lo ≤ i ∧ i ≤ hi)
  | _, _, _ => false
def spInteger : Sp := fun vs H Q _ => ∃ (x : V) (s : String), vs = [x] ∧ Kind H x s ∧ Q (.bl (decide (s = "int"))) H
def spWithin : Sp := fun vs H Q _ => ∃ (x : V) (lo hi : Int) (s : String), vs = [x, .int lo, .int hi] ∧ Kind H x s ∧ Q (.bl (within x lo hi)) H
def spLeads : Sp := fun vs H Q _ => ∃ (a : Addr) (hs : List Int) (b : Int), vs = [.ref a, .int b] ∧ H a = some (.tup (hs.map V.int)) ∧ Pls hs ∧ 0 ≤ b ∧ b ≤ hs.length ∧ hs.length ≤ 1000 ∧ Q (.bl (leads hs b)) H
def spTree (cB cT : Addr) : Sp := fun vs H Q E => ∃ (self dx : Addr) (x : V) (r : Option Part), vs = [.ref self, x] ∧ H self = some (.ins cT dx []) ∧ Thing H x r ∧
  (r = none → Q .non (upd H self (.ins cT dx [("hung", x)]))) ∧ ∀ part, r = some part → ∀ d v H', Same H H' → H' d = some (.xd [("part", v)]) → Enc H' v (some part) → E (.ref cB) (some d) H'
def TreeAt (cT : Addr) (H : Hp) (x : V) (hs : List Int) : Prop := ∃ a dx h, x = .ref a ∧ H a = some (.ins cT dx [("hung", .ref h)]) ∧ H h = some (.tup (hs.map V.int))
def spTreeEq (cT : Addr) : Sp := fun vs H Q _ => ∃ (x y : V) (hs : List Int), vs = [x, y] ∧ TreeAt cT H x hs ∧ ((∃ ks, TreeAt cT H y ks ∧ Q (.bl (decide (hs = ks))) H) ∨ ((∃ s, Kind H y s) ∧ Q (.bl false) H))
def spPick : Sp := fun vs H Q _ => ∃ (p l : Addr) (xs : List V), vs = [.ref p, .ref l] ∧ Pool H p ∧ Af H p l (.lst xs) ∧ 1 ≤ xs.length ∧ xs.length ≤ 1000 ∧ ∀ x H', x ∈ xs → Pool H' p → Mo p H H' → Q x H'
def Scal : V → Prop
  | .non => True
  | .bl _ => True
  | .int _ => True
  | .str _ => True
  | _ => False
/-- things that are alike through and through, d deep -/
def Alike : Nat → Hp → V → V → Prop
  | 0, _, x, y => Scal x ∧ x = y
  | d + 1, H, x, y => (Scal x ∧ x = y) ∨ ∃ (a b : Addr) (xs ys : List V), x = .ref a ∧ y = .ref b ∧ ((H a = some (.tup xs) ∧ H b = some (.tup ys)) ∨ (H a = some (.lst xs) ∧ H b = some (.lst ys))) ∧ xs.length ≤ 1000 ∧ xs.length = ys.length ∧
      ∀ (i : Nat) (u v : V), xs[i]? = some u → ys[i]? = some v → Alike d H u v
theorem Alike.same : ∀ {d : Nat} {H H' : Hp} {x y : V}, Alike d H x y → Same H H' → Alike d H' x y
  | 0, _, _, _, _, h, _ => h
  | d + 1, H, H', x, y, h, e => by
    rcases h with h | ⟨a, b, xs, ys, e1, e2, h, hl, he, hi⟩
    · exact .inl h
    · refine .inr ⟨a, b, xs, ys, e1, e2, ?_, hl, he, fun i u v hu hv => (hi i u v hu hv).same e⟩
      rcases h with ⟨h1, h2⟩ | ⟨h1, h2⟩
      · exact .inl ⟨e _ _ h1, e _ _ h2⟩
      · exact .inr ⟨e _ _ h1, e _ _ h2⟩
def spIsN : Nat → Sp
  | 0 => fun _ _ _ _ => False
  | d + 1 => fun vs H Q _ => ∃ x y, vs = [x, y] ∧ Alike d H x y ∧ ∀ H', Same H H' → Q (.bl true) H'
def spDeep : Sp := fun vs H Q _ => vs = [] ∧ ∀ a xs H', Same H H' → H a = none → H' a = some (.lst xs) → Q (.ref a) H'
def spMixed : Sp := fun vs H Q _ => ∃ (p : Addr) (n : Nat), vs = [.ref p, .int n] ∧ Pool H p ∧ 1 ≤ n ∧ n ≤ 1000 ∧
  ∀ (a : Addr) (ms : List Int) H', Pool H' p → Mo p H H' → H a = none → Af H' p a (.lst (ms.map V.int)) → ms.length = n → ms.Nodup → (∀ m ∈ ms, 1 ≤ m ∧ m ≤ n) → Q (.ref a) H'
def spHung : Sp := fun vs H Q _ => ∃ (p : Addr) (n : Nat), vs = [.ref p, .int n] ∧ Pool H p ∧ 1 ≤ n ∧ n ≤ 40 ∧
  ∀ (a : Addr) (hs : List Int) H', Pool H' p → Mo p H H' → Af H' p a (.tup (hs.map V.int)) → hs.length = n → IsTree hs → Q (.ref a) H'
def spMany : Sp := fun vs H Q _ => ∃ (p : Addr), vs = [.ref p] ∧ Pool H p ∧ ∀ (n : Nat) H', Pool H' p → Mo p H H' → 1 ≤ n → n ≤ 40 → Q (.int n) H'
def spOdd : Sp := fun vs H Q _ => ∃ (p : Addr) (m : Int), vs = [.ref p, .int m] ∧ Pool H p ∧ ∀ x H', Pool H' p → Mo p H H' → AK H' p x → Q x H'
def spDue : Sp := fun vs H Q _ => ∃ (x : V) (r : Option Part), vs = [x] ∧ Thing H x r ∧ ∀ v H', Same H H' → Enc H' v r → Q v H'
def spLaw (K : PySem.W.Frag) : Sp := fun vs H Q _ => ∃ (a : Addr) (ns : List Int), vs = [.ref a] ∧ SqL K H a (ns.map V.int) ∧ ns.length ≤ 63 ∧ ∀ H', Q (.bl true) H'
theorem len_is_integer {vs : List V} {H : Hp} {Q : VK} {E : XK} (h : spInteger vs H Q E) : vs.length = 1 := by obtain ⟨_, _, rfl, _⟩ := h; rfl
theorem len_is_within {vs : List V} {H : Hp} {Q : VK} {E : XK} (h : spWithin vs H Q E) : vs.length = 3 := by obtain ⟨_, _, _, _, rfl, _⟩ := h; rfl
theorem len_leads_home {vs : List V} {H : Hp} {Q : VK} {E : XK} (h : spLeads vs H Q E) : vs.length = 2 := by obtain ⟨_, _, _, rfl, _⟩ := h; rfl
theorem len_Tree_init {cB cT : Addr} {vs : List V} {H : Hp} {Q : VK} {E : XK} (h : spTree cB cT vs H Q E) : vs.length = 2 := by obtain ⟨_, _, _, _, rfl, _⟩ := h; rfl
theorem len_Tree_eq {cT : Addr} {vs : List V} {H : Hp} {Q : VK} {E : XK} (h : spTreeEq cT vs H Q E) : vs.length = 2 := by obtain ⟨_, _, _, rfl, _⟩ := h; rfl
theorem len_l_pick {vs : List V} {H : Hp} {Q : VK} {E : XK} (h : spPick vs H Q E) : vs.length = 2 := by obtain ⟨_, _, _, rfl, _⟩ := h; rfl
theorem len_l_is {d : Nat} {vs : List V} {H : Hp} {Q : VK} {E : XK} (h : spIsN d vs H Q E) : vs.length = 2 := by
  cases d with
  | zero => exact h.elim
  | succ d => obtain ⟨_, _, rfl, _⟩ := h; rfl
theorem len_l_deep {vs : List V} {H : Hp} {Q : VK} {E : XK} (h : spDeep vs H Q E) : vs.length = 0 := by obtain ⟨rfl, _⟩ := h; rfl
theorem len_l_mixed {vs : List V} {H : Hp} {Q : VK} {E : XK} (h : spMixed vs H Q E) : vs.length = 2 := by obtain ⟨_, _, rfl, _⟩ := h; rfl
theorem len_l_hung {vs : List V} {H : Hp} {Q : VK} {E : XK} (h : spHung vs H Q E) : vs.length = 2 := by obtain ⟨_, _, rfl, _⟩ := h; rfl
theorem len_l_many {vs : List V} {H : Hp} {Q : VK} {E : XK} (h : spMany vs H Q E) : vs.length = 1 := by obtain ⟨_, rfl, _⟩ := h; rfl
theorem len_l_odd {vs : List V} {H : Hp} {Q : VK} {E : XK} (h : spOdd vs H Q E) : vs.length = 2 := by obtain ⟨_, _, rfl, _⟩ := h; rfl
theorem len_l_tree_due {vs : List V} {H : Hp} {Q : VK} {E : XK} (h : spDue vs H Q E) : vs.length = 1 := by obtain ⟨_, _, rfl, _⟩ := h; rfl
theorem len_law {K : PySem.W.Frag} {vs : List V} {H : Hp} {Q : VK} {E : XK} (h : spLaw K vs H Q E) : vs.length = 1 := by obtain ⟨_, _, rfl, _⟩ := h; rfl


/-- try: .. except c as n: .. (n in slot i) -/
def tTryAs (K : PySem.W.Frag) (c : Value) (i : Nat) (tb : WX → TS) (ts : Addr → Value → Option Addr → TS) : TS := fun D σ H => tb (wAs K c i ts (fun _ _ _ _ => False) D) D σ H
def t_BadTree_init (K : PySem.W.Frag) : TS :=
  (tOst K "part" (tVar 0) (tVar 1))
def t_is_integer (K : PySem.W.Frag) : TS :=
  (tRet (tAndV (tCB (rIsi K) (tCons (tVar 0) (tCons (tC (.ty "int")) tNil))) (tNotV (tCB (rIsi K) (tCons (tVar 0) (tCons (tC (.ty "bool")) tNil))))))
def t_is_within (K : PySem.W.Frag) : TS :=
  (tRet (tAndV (tCall spInteger [] E0 (tCons (tVar 0) tNil)) (tChain xLe xLe (tVar 1) (tVar 0) (tVar 2))))
def t_leads_home (K : PySem.W.Frag) : TS :=
  (tSeq (tAsg (tVar 1) (gName 2)) (tSeq (tFor (iRng1 (tCons (tOp xAdd (tCB (xLen K) (tCons (tVar 0) tNil)) (tC (.int 1))) tNil)) (gName 3) (tSeq (tIfS (tTest (tOp rEq (tVar 2) (tC (.int 0)))) (tRet (tC (.bl true))) tNext) (tAsg (tOp (rIxT K) (tVar 0) (tOp xSub (tVar 2) (tC (.int 1)))) (gName 2)))) (tRet (tC (.bl false)))))
def t_Tree_init (K : PySem.W.Frag) (cBadTree : Addr) (E : XK) : TS :=
  (tSeq (tIfS (tOr (tNot (tB (tCB (rIsi K) (tCons (tVar 1) (tCons (tC (.ty "tuple")) tNil))))) (tNot (tTest (tChain xLe xLe (tC (.int 1)) (tCB (xLen K) (tCons (tVar 1) tNil)) (tC (.int 40)))))) (tRaiseO cBadTree (spX1 cBadTree "part") (tCons (tC (.str "hung")) tNil) (wE E)) tNext) (tSeq (tFor (iRng2 (tCons (tC (.int 1)) (tCons (tOp xAdd (tCB (xLen K) (tCons (tVar 1) tNil)) (tC (.int 1))) tNil))) (gName 2) (tIfS (tOr (tNot (tB (tCall spWithin [] E0 (tCons (tOp (rIxT K) (tVar 1) (tOp xSub (tVar 2) (tC (.int 1)))) (tCons (tC (.int 0)) (tCons (tCB (xLen K) (tCons (tVar 1) tNil)) tNil)))))) (tTest (tOp rEq (tOp (rIxT K) (tVar 1) (tOp xSub (tVar 2) (tC (.int 1)))) (tVar 2)))) (tRaiseO cBadTree (spX1 cBadTree "part") (tCons (tVar 2) tNil) (wE E)) tNext)) (tSeq (tFor (iRng2 (tCons (tC (.int 1)) (tCons (tOp xAdd (tCB (xLen K) (tCons (tVar 1) tNil)) (tC (.int 1))) tNil))) (gName 2) (tIfS (tNot (tB (tCall spLeads [] E0 (tCons (tVar 1) (tCons (tVar 2) tNil))))) (tRaiseO cBadTree (spX1 cBadTree "part") (tCons (tTup (tCons (tC (.str "ring")) (tCons (tVar 2) tNil))) tNil) (wE E)) tNext)) (sFld K (tVar 0) (tVar 1) "hung"))))
def t_Tree_eq (K : PySem.W.Frag) (cTree : Addr) : TS :=
  (tRet (tAndV (tCB (rIsi K) (tCons (tVar 1) (tCons (tC (.ref cTree)) tNil))) (tOp (rEqD K) (tFld K (tVar 0) "hung") (tFld K (tVar 1) "hung"))))
def t_l_pick (K : PySem.W.Frag) : TS :=
  (tRet (tOp (rIxL K) (tVar 1) (tCall spDraw [] E0 (tCons (tVar 0) (tCons (tCB (xLen K) (tCons (tVar 1) tNil)) tNil)))))
def t_l_is (K : PySem.W.Frag) (d : Nat) : TS :=
  (tSeq (tIfS (tB (tCB (rIsiT K) (tCons (tVar 1) (tCons (tTup (tCons (tC (.ty "tuple")) (tCons (tC (.ty "list")) tNil))) tNil)))) (tSeq (tIfS (tOr (tTest (tOp rNe (tCB (rIsi K) (tCons (tVar 0) (tCons (tC (.ty "tuple")) tNil))) (tCB (rIsi K) (tCons (tVar 1) (tCons (tC (.ty "tuple")) tNil))))) (tTest (tOp rNe (tCB (rIsi K) (tCons (tVar 0) (tCons (tC (.ty "list")) tNil))) (tCB (rIsi K) (tCons (tVar 1) (tCons (tC (.ty "list")) tNil)))))) (tRet (tC (.bl false))) tNext) (tRet (tAndV (tOp rEq (tCB (xLen K) (tCons (tVar 0) tNil)) (tCB (xLen K) (tCons (tVar 1) tNil))) (tCB (rAll K) (tCons (tLc (iRng1 (tCons (tCB (xLen K) (tCons (tVar 1) tNil)) tNil)) (gName 2) tYes (tCall (spIsN d) [] E0 (tCons (tOp (rIx K) (tVar 0) (tVar 2)) (tCons (tOp (rIx K) (tVar 1) (tVar 2)) tNil))) [2]) tNil))))) tNext) (tSeq (tIfS (tB (tCB (rIsi K) (tCons (tVar 1) (tCons (tC (.ty "dict")) tNil)))) tNever tNext) (tSeq (tIfS (tTest (tOp xIsN (tVar 1) (tC .non))) (tRet (tOp xIsN (tVar 0) (tC .non))) tNext) (tRet (tAndV (tOp rEq (tCB (rIsi K) (tCons (tVar 0) (tCons (tC (.ty "bool")) tNil))) (tCB (rIsi K) (tCons (tVar 1) (tCons (tC (.ty "bool")) tNil)))) (tAndV (tOp xNotN (tVar 0) (tC .non)) (tOp rEq (tVar 0) (tVar 1))))))))
def t_l_deep (K : PySem.W.Frag) : TS :=
  (tSeq (tAsg (tLst (tCons (tC .non) tNil)) (gName 0)) (tSeq (tFor (iRng1 (tCons (tC (.int 32)) tNil)) (gName 1) (tAsg (tIf (tTest (tOp rEq (tOp xMod (tCB xInt (tCons (tVar 1) tNil)) (tC (.int 2))) (tC (.int 0)))) (tTup (tCons (tVar 0) tNil)) (tLst (tCons (tVar 0) tNil))) (gName 0))) (tRet (tVar 0))))
def t_l_is_number (K : PySem.W.Frag) : TS :=
  (tRet (tAndV (tCB (rIsi K) (tCons (tVar 0) (tCons (tC (.ty "int")) tNil))) (tAndV (tNotV (tCB (rIsi K) (tCons (tVar 0) (tCons (tC (.ty "bool")) tNil)))) (tChain xLe xLe (tVar 1) (tVar 0) (tVar 2)))))
def t_l_mixed (K : PySem.W.Frag) : TS :=
  (tSeq (tAsg (tLstRg (tRg2 (tC (.int 1)) (tOp xAdd (tVar 1) (tC (.int 1))))) (gName 2)) (tRet (tLc (iRng1 (tCons (tVar 1) tNil)) (gName 3) tYes (tBM K "list" rPopAt (tVar 2) (tCons (tCall spDraw [] E0 (tCons (tVar 0) (tCons (tCB (xLen K) (tCons (tVar 2) tNil)) tNil))) tNil)) [3])))
def t_l_hung (K : PySem.W.Frag) : TS :=
  (tSeq (tAsg (tCall spDraw [] E0 (tCons (tVar 0) (tCons (tC (.int 4)) tNil))) (gName 2)) (tSeq (tAsg (tOp rCat (tLst (tCons (tC (.int 0)) tNil)) (tCall spMixed [] E0 (tCons (tVar 0) (tCons (tVar 1) tNil)))) (gName 3)) (tSeq (tAsg (tOp rRep (tLst (tCons (tC (.int 0)) tNil)) (tVar 1)) (gName 4)) (tSeq (tFor (iRng2 (tCons (tC (.int 1)) (tCons (tOp xAdd (tVar 1) (tC (.int 1))) tNil))) (gName 5) (tSeq (tAsg (tCall spDraw [] E0 (tCons (tVar 0) (tCons (tVar 5) tNil))) (gName 6)) (C8.tCut (tIfS (tOr (tTest (tOp rEq (tVar 2) (tC (.int 0)))) (tAnd (tTest (tOp rEq (tVar 2) (tC (.int 1)))) (tTest (tOp xGt (tCall spDraw [] E0 (tCons (tVar 0) (tCons (tC (.int 3)) tNil))) (tC (.int 0)))))) (tAsg (tOp xSub (tVar 5) (tC (.int 1))) (gName 6)) tNext) (C8.tCut (tIfS (tAnd (tTest (tOp rEq (tVar 2) (tC (.int 2)))) (tTest (tOp rEq (tCall spDraw [] E0 (tCons (tVar 0) (tCons (tC (.int 2)) tNil))) (tC (.int 0))))) (tAsg (tC (.int 0)) (gName 6)) tNext) (tAsg (tOp (rIxL K) (tVar 3) (tVar 6)) (gSub (tVar 4) (tOp xSub (tOp (rIxL K) (tVar 3) (tVar 5)) (tC (.int 1))) rSetL)))))) (tRet (tCB (xTupleOf K) (tCons (tVar 4) tNil)))))))
def t_l_many (K : PySem.W.Frag) : TS :=
  (tRet (tOp xAdd (tC (.int 1)) (tCall spDraw [] E0 (tCons (tVar 0) (tCons (tIf (tTest (tOp rEq (tCall spDraw [] E0 (tCons (tVar 0) (tCons (tC (.int 8)) tNil))) (tC (.int 0)))) (tC (.int 40)) (tC (.int 9))) tNil)))))
def t_l_odd (K : PySem.W.Frag) : TS :=
  (tRet (tCall spPick [] E0 (tCons (tVar 0) (tCons (tLst (tCons (tUn xNeg (tC (.int 1))) (tCons (tOp xAdd (tVar 1) (tC (.int 1))) (tCons (tC (.bl true)) (tCons (tC (.bl false)) (tCons (tC .non) (tCons (tC (.str "1")) (tCons (tTup (tCons (tC (.int 1)) tNil)) (tCons (tLst (tCons (tC (.int 1)) tNil)) (tCons tDNewK (tCons (tOp xPow (tC (.int 10)) (tC (.int 40))) (tCons (tCall spDeep [] E0 tNil) (tCons (tVar 1) (tCons (tC (.int 0)) (tCons (tC (.int 1)) tNil))))))))))))))) tNil))))
def t_l_tree_due (K : PySem.W.Frag) : TS :=
  (tSeq (tIfS (tOr (tNot (tB (tCB (rIsi K) (tCons (tVar 0) (tCons (tC (.ty "tuple")) tNil))))) (tNot (tTest (tChain xLe xLe (tC (.int 1)) (tCB (xLen K) (tCons (tVar 0) tNil)) (tC (.int 40)))))) (tRet (tC (.str "hung"))) tNext) (tSeq (tFor (iRng2 (tCons (tC (.int 1)) (tCons (tOp xAdd (tCB (xLen K) (tCons (tVar 0) tNil)) (tC (.int 1))) tNil))) (gName 1) (tIfS (tOr (tNot (tB (tCall spWithin [] E0 (tCons (tOp (rIxT K) (tVar 0) (tOp xSub (tVar 1) (tC (.int 1)))) (tCons (tC (.int 0)) (tCons (tCB (xLen K) (tCons (tVar 0) tNil)) tNil)))))) (tTest (tOp rEq (tOp (rIxT K) (tVar 0) (tOp xSub (tVar 1) (tC (.int 1)))) (tVar 1)))) (tRet (tVar 1)) tNext)) (tSeq (tFor (iRng2 (tCons (tC (.int 1)) (tCons (tOp xAdd (tCB (xLen K) (tCons (tVar 0) tNil)) (tC (.int 1))) tNil))) (gName 1) (tSeq (tAsg (tVar 1) (gName 2)) (tSeq (tFor (iRng1 (tCons (tOp xAdd (tCB (xLen K) (tCons (tVar 0) tNil)) (tC (.int 1))) tNil)) (gName 3) (tAsg (tIf (tTest (tOp rEq (tVar 2) (tC (.int 0)))) (tVar 2) (tOp (rIxT K) (tVar 0) (tOp xSub (tVar 2) (tC (.int 1))))) (gName 2))) (tIfS (tTest (tOp rNe (tVar 2) (tC (.int 0)))) (tRet (tTup (tCons (tC (.str "ring")) (tCons (tVar 1) tNil)))) tNext)))) (tRet (tC .non)))))
def t_l_tree_word (K : PySem.W.Frag) (cBadTree cTree cVoteError : Addr) : TS :=
  (tSeq (tAsg (tC (.str "other")) (gName 1)) (tSeq (tTryAs K (.ref cBadTree) 3 (fun W => (tSeq (tAsg (tMakeS cTree (spTree cBadTree cTree) (WE W) (tCons (tVar 0) tNil)) (gName 2)) (tAsg (tIf (tB (tCall (spIsN 2) [] E0 (tCons (tFld K (tVar 2) "hung") (tCons (tVar 0) tNil)))) (tC .non) (tC (.str "other"))) (gName 1)))) (fun a cls d => (tAsg (tIf (tB (tCB (rIsX K cls d a) (tCons (tVar 3) (tCons (tC (.ref cVoteError)) tNil)))) (tXf a cls d cBadTree "part" (tVar 3)) (tC (.str "other"))) (gName 1)))) (tRet (tVar 1))))
def t_law (K : PySem.W.Frag) (cBadTree cTree : Addr) : TS :=
  (tSeq (tAsg (tCall (spPool K) [] E0 (tCons (tVar 0) tNil)) (gName 1)) (tSeq (tFor (iRng1 (tCons (tC (.int 5)) tNil)) (gName 2) (tSeq (tAsg (tCall spMany [] E0 (tCons (tVar 1) tNil)) (gName 3)) (tSeq (tAsg (tCall spHung [] E0 (tCons (tVar 1) (tCons (tVar 3) tNil))) (gName 4)) (tSeq (tAsg (tCB (xListOf K) (tCons (tVar 4) tNil)) (gName 5)) (tSeq (tFor (iRng1 (tCons (tCall spDraw [] E0 (tCons (tVar 1) (tCons (tC (.int 4)) tNil))) tNil)) (gName 6) (tSeq (tAsg (tCall spDraw [] E0 (tCons (tVar 1) (tCons (tVar 3) tNil))) (gName 7)) (tAsg (tIf (tTest (tOp rEq (tCall spDraw [] E0 (tCons (tVar 1) (tCons (tC (.int 3)) tNil))) (tC (.int 0)))) (tCall spOdd [] E0 (tCons (tVar 1) (tCons (tVar 3) tNil))) (tCall spDraw [] E0 (tCons (tVar 1) (tCons (tOp xAdd (tVar 3) (tC (.int 1))) tNil)))) (gSub (tVar 5) (tVar 7) rSetL)))) (tSeq (tAsg (tCB (xTupleOf K) (tCons (tVar 5) tNil)) (gName 5)) (C8.tCut (tIfS (tTest (tOp rEq (tCall spDraw [] E0 (tCons (tVar 1) (tCons (tC (.int 8)) tNil))) (tC (.int 0)))) (tSeq (tAsg (tLst (tCons (tC .non) (tCons (tC (.int 0)) (tCons (tC (.str "hung")) (tCons (tTup tNil) (tCons (tLst (tCons (tC (.int 0)) tNil)) (tCons tDNewK (tCons (tCall spDeep [] E0 tNil) (tCons (tOp (rRepT K) (tTup (tCons (tC (.int 0)) tNil)) (tC (.int 40))) (tCons (tOp (rRepT K) (tTup (tCons (tC (.int 0)) tNil)) (tC (.int 41))) (tCons (tCB (xListOf K) (tCons (tVar 4) tNil)) (tCons (tTup (tCons (tVar 4) tNil)) (tCons (tOp (rCatA K) (tVar 4) (tTup (tCons (tC (.int 0)) tNil))) tNil))))))))))))) (gName 8)) (tAsg (tCall spPick [] E0 (tCons (tVar 1) (tCons (tVar 8) tNil))) (gName 5))) tNext) (tSeq (tIfS (tNot (tB (tCall (spIsN 3) [] E0 (tCons (tLst (tCons (tCall spDue [] E0 (tCons (tVar 5) tNil)) tNil)) (tCons (tLst (tCons (tCall spDue [] E0 (tCons (tVar 5) tNil)) tNil)) tNil))))) (tRet (tC (.bl false))) tNext) (tSeq (tAsg (tCall spHung [] E0 (tCons (tVar 1) (tCons (tVar 3) tNil))) (gName 9)) (tIfS (tOr (tTest (tOp rNe (tOp (rEqOwn K cTree (spTreeEq cTree) E0) (tMake cTree (spTree cBadTree cTree) [] E0 (tCons (tVar 4) tNil)) (tMake cTree (spTree cBadTree cTree) [] E0 (tCons (tVar 9) tNil))) (tOp (rEqD K) (tVar 4) (tVar 9)))) (tOr (tTest (tOp (rEqOwn K cTree (spTreeEq cTree) E0) (tMake cTree (spTree cBadTree cTree) [] E0 (tCons (tVar 4) tNil)) (tVar 4))) (tNot (tTest (tOp (rEqOwn K cTree (spTreeEq cTree) E0) (tMake cTree (spTree cBadTree cTree) [] E0 (tCons (tVar 4) tNil)) (tMake cTree (spTree cBadTree cTree) [] E0 (tCons (tVar 4) tNil))))))) (tRet (tC (.bl false))) tNext)))))))))) (tRet (tC (.bl true)))))
section
variable {K : PySem.W.Frag} {H : Hp} {Q : VK} {E : XK} {vs : List V}
theorem pure_is_integer (h : spInteger vs H Q E) : t_is_integer K { nx := fun _ H' => Q .non H', rt := Q } (start ["thing"] vs) H := by
  obtain ⟨x, s, rfl, k, q⟩ := h
  unfold t_is_integer
  walk_at "vc"
  refine v_isi k (.inl rfl) ?_
  walk_at "vc"
  have e : (isA s "int" && !isA s "bool") = decide (s = "int") := by cases k <;> decide
  refine v_iteB (fun h1 => ?_) (fun h1 => ?_)
  · walk_at "vc"
    refine v_isi k (.inr (.inl rfl)) ?_
    walk_at "vc"
    rw [h1, Bool.true_and] at e
    rw [e]
    exact q
  · rw [h1, Bool.false_and] at e
    rw [e]
    exact q
theorem pure_is_within (h : spWithin vs H Q E) : t_is_within K { nx := fun _ H' => Q .non H', rt := Q } (start ["thing", "least", "most"] vs) H := by
  obtain ⟨x, lo, hi, s, rfl, k, q⟩ := h
  unfold t_is_within
  walk_at "vc"
  refine ⟨x, s, rfl, k, ?_⟩
  walk_at "vc"
  refine v_ite (fun h1 => ?_) (fun h1 => ?_)
  · cases k with
    | int i =>
      walk_at "vc"
      refine v_ite (fun h2 => ?_) (fun h2 => ?_)
      · walk_at "vc"
        have e : within (.int i) lo hi = decide (i ≤ hi) := by
          show decide (lo ≤ i ∧ i ≤ hi) = decide (i ≤ hi)
          rw [Bool.eq_iff_iff]
          simp [h2]
        rw [← e]
        exact q
      · have e : within (.int i) lo hi = false := decide_eq_false fun z => h2 z.1
        rw [← e]
        exact q
    | _ => exact absurd h1 (by decide)
  · have e : within x lo hi = false := by
      cases k with
      | int i => exact absurd rfl h1
      | _ => rfl
    rw [← e]
    exact q
theorem pure_l_is_number (h : spWithin vs H Q E) : t_l_is_number K { nx := fun _ H' => Q .non H', rt := Q } (start ["_law_thing", "_law_least", "_law_most"] vs) H := by
  obtain ⟨x, lo, hi, s, rfl, k, q⟩ := h
  unfold t_l_is_number
  walk_at "vc"
  refine v_isi k (.inl rfl) ?_
  walk_at "vc"
  have e : (isA s "int" && !isA s "bool") = decide (s = "int") := by cases k <;> decide
  refine v_iteB (fun h1 => ?_) (fun h1 => ?_)
  · walk_at "vc"
    refine v_isi k (.inr (.inl rfl)) ?_
    walk_at "vc"
    rw [h1, Bool.true_and] at e
    rw [e]
    refine v_ite (fun h2 => ?_) (fun h2 => ?_)
    · cases k with
      | int i =>
        walk_at "vc"
        refine v_ite (fun h3 => ?_) (fun h3 => ?_)
        · walk_at "vc"
          have e : within (.int i) lo hi = decide (i ≤ hi) := by
            show decide (lo ≤ i ∧ i ≤ hi) = decide (i ≤ hi)
            rw [Bool.eq_iff_iff]
            simp [h3]
          rw [← e]
          exact q
        · have e : within (.int i) lo hi = false := decide_eq_false fun z => h3 z.1
          rw [← e]
          exact q
      | _ => exact absurd h2 (by decide)
    · have e : within x lo hi = false := by
        cases k with
        | int i => exact absurd rfl h2
        | _ => rfl
      rw [← e]
      exact q
  · have e : within x lo hi = false := by
      cases k with
      | int i => exact absurd h1 (by decide)
      | _ => rfl
    rw [← e]
    exact q
theorem getI {hs : List Int} {h : Int} (p : Pls hs) (h0 : h ≠ 0) (h1 : 0 ≤ h) (h2 : h ≤ hs.length) : atI (hs.map V.int) (h - 1) = some (.int (stp hs h)) := by
  have hl : h.toNat - 1 < hs.length := by omega
  refine at_of (j := h.toNat - 1) (by omega) ?_
  unfold stp
  rw [if_neg h0, List.getElem?_map, List.getD_eq_getElem?_getD, List.getElem?_eq_getElem hl]
  rfl
theorem pure_leads_home (h : spLeads vs H Q E) : t_leads_home K { nx := fun _ H' => Q .non H', rt := Q } (start ["hung", "block", "here", "turn"] vs) H := by
  obtain ⟨a, hs, b, rfl, ha, p, b0, b1, hl, q⟩ := h
  unfold t_leads_home
  walk_at "vc"
  rw [List.length_map]
  refine v_rg1 (by omega) ?_
  refine v_loop0 (fun i σ' H' => H' = H ∧ (∃ v, σ' = [some (.ref a), some (.int b), some (.int (up hs i b)), v]) ∧ ∀ k, k < i → up hs k b ≠ 0) ⟨rfl, ⟨none, rfl⟩, fun k hk => absurd hk (Nat.not_lt_zero _)⟩ ?_ ?_
  · rintro i σ' H' hi ⟨rfl, ⟨v, rfl⟩, nz⟩
    walk_at "vc"
    refine v_ite (fun h1 => ?_) (fun h1 => ?_)
    · walk_at "vc"
      rw [leads_true (k := i) (by omega) h1] at q
      exact q
    · walk_at "vc"
      have u := up_in p i b b0 b1
      refine v_ixT' ha (getI p h1 u.1 u.2) ?_
      walk_at "vc"
      refine ⟨rfl, ⟨some (.int i), by rw [up_succ]; rfl⟩, fun k hk => ?_⟩
      by_cases e : k = i
      · rw [e]; exact h1
      · exact nz k (by omega)
  · rintro σ' H' ⟨rfl, ⟨v, rfl⟩, nz⟩
    walk_at "vc"
    rw [leads_false fun k hk => nz k (by omega)] at q
    exact q
end

section
variable {K : PySem.W.Frag} {H : Hp} {Q : VK} {E : XK} {vs : List V} {cBadTree cTree : Addr}
theorem badAt_int {xs : List V} {k : Nat} {i : Int} (hx : xs[k]? = some (.int i)) : badAt xs k = (!within (.int i) 0 xs.length || decide (i = k + 1)) := by
  unfold badAt
  rw [hx]
  rfl
theorem badAt_other {xs : List V} {k : Nat} {x : V} (hx : xs[k]? = some x) (h : within x 0 xs.length = false) : badAt xs k = true := by
  unfold badAt
  rw [hx]
  cases x with
  | int i =>
    have e : decide (0 ≤ i ∧ i ≤ (xs.length : Int)) = false := h
    show (!decide (0 ≤ i ∧ i ≤ (xs.length : Int)) || decide (i = (k : Int) + 1)) = true
    rw [e]
    rfl
  | _ => rfl
theorem pure_Tree_init (o : OwnC K cTree) (nf : NoAttr K cTree "hung") (h : spTree cBadTree cTree vs H Q E) : t_Tree_init K cBadTree E { nx := fun _ H' => Q .non H', rt := Q } (start ["self", "hung", "block"] vs) H := by
  obtain ⟨self, dx, x, r, rfl, hs, th, q0, q1⟩ := h
  unfold t_Tree_init
  rcases th with ⟨s, k, ns, rfl⟩ | ⟨a, xs, rfl, ha, hk, rfl⟩
  · walk_at "vc"
    refine v_isi k (.inr (.inr (.inl rfl))) ?_
    walk_at "vc"
    have e : isA s "tuple" = false := by cases k <;> first | rfl | exact absurd rfl ns
    rw [e]
    walk_at "vc"
    refine v_raise1 fun d nd => ?_
    exact q1 .hung rfl d _ _ (same_upd nd) upd_same rfl
  · walk_at "vc"
    refine v_isi (.tup ha) (.inr (.inr (.inl rfl))) ?_
    walk_at "vc"
    rw [show isA "tuple" "tuple" = true from rfl]
    walk_at "vc"
    have bad : (xs.length = 0 ∨ 40 < xs.length) → RaiseK cBadTree (spX1 cBadTree "part") [V.str "hung"] (wE E) [some (.ref self), some (.ref a), none] H := fun hl =>
      v_raise1 fun d nd => q1 .hung (partT_hung hl) d _ _ (same_upd nd) upd_same rfl
    refine v_ite (fun h1 => ?_) (fun h1 => ?_)
    · walk_at "vc"
      refine v_iteN (fun h2 => ?_) (fun h2 => ?_)
      · walk_at "vc"
        exact bad (by omega)
      · walk_at "vc"
        have ok : ¬ (xs.length = 0 ∨ 40 < xs.length) := by omega
        refine v_rg2 (by omega) ?_
        refine v_loop2 (fun i σ' H' => H' = H ∧ (∃ v, σ' = [some (.ref self), some (.ref a), v]) ∧ ∀ j, j < i → badAt xs j = false) ⟨rfl, ⟨none, rfl⟩, fun j hj => absurd hj (Nat.not_lt_zero _)⟩ ?_ ?_
        · rintro i σ' H' hi ⟨rfl, ⟨v, rfl⟩, g⟩
          have hi' : i < xs.length := by omega
          obtain ⟨x, hx⟩ : ∃ x, xs[i]? = some x := ⟨_, List.getElem?_eq_getElem hi'⟩
          have hat : atI xs (1 + (i : Int) - 1) = some x := at_of (j := i) (by omega) hx
          obtain ⟨s, kx⟩ := hk x (List.mem_of_getElem? hx)
          have out : badAt xs i = true → RaiseK cBadTree (spX1 cBadTree "part") [V.int (1 + (i : Int))] (wE E) [some (.ref self), some (.ref a), some (.int (1 + (i : Int)))] H' := fun b =>
            v_raise1 fun d nd => q1 (.blk (i + 1)) (partT_blk ok hi' b g) d _ _ (same_upd nd) upd_same (by show V.int (1 + (i : Int)) = V.int ((i + 1 : Nat) : Int); congr 1; omega)
          walk_at "vc"
          refine v_ixT' ha hat ?_
          walk_at "vc"
          refine ⟨x, 0, xs.length, s, rfl, kx, ?_⟩
          walk_at "vc"
          cases hw : within x 0 xs.length with
          | false =>
            walk_at "vc"
            exact out (badAt_other hx hw)
          | true =>
            walk_at "vc"
            refine v_ixT' ha hat ?_
            walk_at "vc"
            cases x with
            | int z =>
              walk_at "vc"
              refine v_ite (fun h3 => ?_) (fun h3 => ?_)
              · walk_at "vc"
                refine out ?_
                rw [badAt_int hx, hw, decide_eq_true (by omega)]
                rfl
              · walk_at "vc"
                refine ⟨rfl, ⟨_, rfl⟩, fun j hj => ?_⟩
                by_cases e : j = i
                · rw [e, badAt_int hx, hw, decide_eq_false (by omega)]
                  rfl
                · exact g j (by omega)
            | _ => exact absurd hw (by simp [within])
        · rintro σ' H' ⟨rfl, ⟨v, rfl⟩, g⟩
          have g' : ∀ j, j < xs.length → badAt xs j = false := fun j hj => g j (by omega)
          obtain ⟨en, pl, ln⟩ := good_nums g'
          have ha' : H' a = some (.tup ((nums xs).map V.int)) := by rw [← en]; exact ha
          have hlm : ((nums xs).map V.int).length = xs.length := by rw [List.length_map, ln]
          walk_at "vc"
          refine v_rg2 (by omega) ?_
          refine v_loop2 (fun i σ'' H'' => H'' = H' ∧ (∃ v, σ'' = [some (.ref self), some (.ref a), v]) ∧ ∀ j : Nat, j < i → leads (nums xs) (j + 1) = true) ⟨rfl, ⟨v, rfl⟩, fun j hj => absurd hj (Nat.not_lt_zero _)⟩ ?_ ?_
          · rintro i σ'' H'' hi ⟨rfl, ⟨v, rfl⟩, l⟩
            walk_at "vc"
            refine ⟨a, nums xs, 1 + (i : Int), rfl, ha', pl, by omega, by omega, by omega, ?_⟩
            walk_at "vc"
            cases hb : leads (nums xs) (1 + (i : Int)) with
            | false =>
              walk_at "vc"
              intro t nt
              walk_at "vc"
              refine v_raise1 fun d nd => ?_
              have s1 : Same H'' (upd H'' t (.tup [.str "ring", .int (1 + (i : Int))])) := same_upd nt
              have s2 := same_upd (o := HO.xd [("part", V.ref t)]) nd
              refine q1 (.ring (i + 1)) (partT_ring ok g' (by omega) (by rw [← hb]; congr 1; omega) l) d _ _ (s1.trans s2) upd_same ⟨t, rfl, ?_⟩
              rw [show ((i + 1 : Nat) : Int) = 1 + (i : Int) by omega]
              exact s2 _ _ upd_same
            | true =>
              walk_at "vc"
              refine ⟨rfl, ⟨_, rfl⟩, fun j hj => ?_⟩
              by_cases e : j = i
              · rw [e, ← hb]
                congr 1
                omega
              · exact l j (by omega)
          · rintro σ'' H'' ⟨rfl, ⟨v, rfl⟩, l⟩
            walk_at "vc"
            refine v_stK o nf hs (by show (0 : Nat) < 1000; decide) ?_
            exact q0 (partT_none ok g' fun j hj => l j (by omega))
    · walk_at "vc"
      walk_at "vc"
      exact bad (by omega)
end

section
variable {K : PySem.W.Frag} {H : Hp} {Q : VK} {E : XK} {vs : List V} {cTree : Addr}
theorem pure_Tree_eq (o : OwnC K cTree) (nf : NoAttr K cTree "hung") (h : spTreeEq cTree vs H Q E) : t_Tree_eq K cTree { nx := fun _ H' => Q .non H', rt := Q } (start ["self", "other"] vs) H := by
  obtain ⟨x, y, hs, rfl, ⟨a, dx, t, rfl, ha, ht⟩, h⟩ := h
  unfold t_Tree_eq
  walk_at "vc"
  rcases h with ⟨ks, ⟨b, dy, u, rfl, hb, hu⟩, q⟩ | ⟨⟨s, k⟩, q⟩
  · refine v_isiO o hb ?_
    walk_at "vc"
    refine v_fldK o nf ha rfl ?_
    walk_at "vc"
    refine v_fldK o nf hb rfl ?_
    exact v_eqTI ht hu q
  · refine v_isiK o k ?_
    walk_at "vc"
    exact q
theorem pure_l_pick (h : spPick vs H Q E) : t_l_pick K { nx := fun _ H' => Q .non H', rt := Q } (start ["_law_pool_here", "_law_things"] vs) H := by
  obtain ⟨p, l, xs, rfl, hp, hl, h1, h2, q⟩ := h
  unfold t_l_pick
  walk_at "vc"
  refine v_lenL (SqL.of hl.1) ?_
  walk_at "vc"
  refine ⟨p, xs.length, rfl, hp, by omega, by omega, fun d H1 d0 d1 hp1 m1 => ?_⟩
  have hd : d.toNat < xs.length := by omega
  refine v_ixL (SqL.of (m1 _ _ hl).1) (at_of (j := d.toNat) (by omega) (List.getElem?_eq_getElem hd)) ?_
  exact q _ _ (List.getElem_mem hd) hp1 m1
theorem pure_l_deep (h : spDeep vs H Q E) : t_l_deep K { nx := fun _ H' => Q .non H', rt := Q } (start ["_law_thing", "_law_turn"] vs) H := by
  obtain ⟨rfl, q⟩ := h
  unfold t_l_deep
  walk_at "vc"
  intro l nl
  walk_at "vc"
  refine v_rg1 (by decide) ?_
  refine v_loop0 (fun i σ' H' => ∃ (a : Addr) (xs : List V) (v : Option V), σ' = [some (.ref a), v] ∧ Same H H' ∧ H a = none ∧ (i % 2 = 0 → H' a = some (.lst xs))) ⟨l, _, none, rfl, same_upd nl, nl, fun _ => upd_same⟩ ?_ ?_
  · rintro i σ' H' hi ⟨a, xs, v, rfl, s1, na, _⟩
    walk_at "vc"
    refine v_I (by decide) ?_
    walk_at "vc"
    refine v_ite (fun h1 => ?_) (fun h1 => ?_)
    · walk_at "vc"
      intro t nt
      walk_at "vc"
      refine ⟨t, [], _, rfl, s1.trans (same_upd nt), s1.free nt, fun z => absurd z (by omega)⟩
    · walk_at "vc"
      intro t nt
      walk_at "vc"
      exact ⟨t, _, _, rfl, s1.trans (same_upd nt), s1.free nt, fun _ => upd_same⟩
  · rintro σ' H' ⟨a, xs, v, rfl, s1, na, ha⟩
    walk_at "vc"
    exact q a xs H' s1 na (ha rfl)
end

section
variable {K : PySem.W.Frag} {H : Hp} {Q : VK} {E : XK} {vs : List V}
theorem v_lenE {a : Addr} {xs : List V} (h : SqL K H a xs ∨ SqT K H a xs) (q : Q (.int xs.length) H) : xLen K [.ref a] H Q := ⟨a, xs, rfl, h, q⟩
theorem v_ixE {a : Addr} {xs : List V} {n : Int} {v : V} (h : SqL K H a xs ∨ SqT K H a xs) (ha : atI xs n = some v) (q : Q v H) : rIx K (.ref a) (.int n) H Q := by
  rcases h with h | h
  · exact .inl ⟨a, xs, n, v, rfl, rfl, h, ha, q⟩
  · exact .inr (.inl ⟨a, xs, n, v, rfl, rfl, h, ha, q⟩)
theorem pure_l_is {d : Nat} (h : spIsN (d + 1) vs H Q E) : t_l_is K d { nx := fun _ H' => Q .non H', rt := Q } (start ["_law_told", "_law_due", "_law_at", "_law_key"] vs) H := by
  obtain ⟨x, y, rfl, al, q⟩ := h
  unfold t_l_is
  have key : (Scal x ∧ x = y) ∨ ∃ (e : Nat) (a b : Addr) (xs ys : List V) (s : String), d = e + 1 ∧ x = .ref a ∧ y = .ref b ∧ Kind H x s ∧ Kind H y s ∧ (s = "tuple" ∨ s = "list") ∧ (∀ H', Same H H' → (SqL K H' a xs ∨ SqT K H' a xs) ∧ (SqL K H' b ys ∨ SqT K H' b ys)) ∧ xs.length ≤ 1000 ∧
      xs.length = ys.length ∧ ∀ (i : Nat) (u v : V), xs[i]? = some u → ys[i]? = some v → Alike e H u v := by
    cases d with
    | zero => exact .inl al
    | succ e =>
      rcases al with al | ⟨a, b, xs, ys, rfl, rfl, ⟨h1, h2⟩ | ⟨h1, h2⟩, hl, he, hi⟩
      · exact .inl al
      · exact .inr ⟨e, a, b, xs, ys, "tuple", rfl, rfl, rfl, .tup h1, .tup h2, .inl rfl, fun H' s => ⟨.inr (SqT.of (s _ _ h1)), .inr (SqT.of (s _ _ h2))⟩, hl, he, hi⟩
      · exact .inr ⟨e, a, b, xs, ys, "list", rfl, rfl, rfl, .lst h1, .lst h2, .inr rfl, fun H' s => ⟨.inl (SqL.of (s _ _ h1)), .inl (SqL.of (s _ _ h2))⟩, hl, he, hi⟩
  rcases key with ⟨sc, rfl⟩ | ⟨e, a, b, xs, ys, s, rfl, rfl, rfl, kx, ky, hs, hsq, hl, he, hi⟩
  · obtain ⟨s, k, hs⟩ : ∃ s, Kind H x s ∧ (isA s "tuple" || isA s "list") = false ∧ isA s "dict" = false ∧ scal x x = true := by
      cases x with
      | non => exact ⟨_, .non, rfl, rfl, rfl⟩
      | bl b => exact ⟨_, .bl b, rfl, rfl, rfl⟩
      | int b => exact ⟨_, .int b, rfl, rfl, rfl⟩
      | str b => exact ⟨_, .str b, rfl, rfl, rfl⟩
      | _ => exact sc.elim
    walk_at "vc"
    intro tp ntp
    have s1 := same_upd (o := HO.tup [.ty "tuple", .ty "list"]) ntp
    have k1 := k.same s1
    walk_at "vc"
    refine v_isiT k1 upd_same (.inr (.inr (.inl rfl))) (.inr (.inr (.inr (.inl rfl)))) ?_
    rw [hs.1]
    walk_at "vc"
    refine v_isi k1 (.inr (.inr (.inr (.inr rfl)))) ?_
    rw [hs.2.1]
    walk_at "vc"
    refine v_ite (fun h1 => ?_) (fun h1 => ?_)
    · walk_at "vc"
      rw [decide_eq_true h1]
      exact q _ s1
    · walk_at "vc"
      refine v_isi k1 (.inr (.inl rfl)) ?_
      walk_at "vc"
      refine v_isi k1 (.inr (.inl rfl)) ?_
      walk_at "vc"
      refine v_ite (fun _ => ?_) (fun z => absurd rfl z)
      walk_at "vc"
      refine v_iteN (fun _ => ?_) (fun z => absurd z h1)
      walk_at "vc"
      refine ⟨hs.2.2, ?_⟩
      rw [decide_eq_true rfl]
      exact q _ s1
  · walk_at "vc"
    intro tp ntp
    have s1 := same_upd (o := HO.tup [.ty "tuple", .ty "list"]) ntp
    have kx1 := kx.same s1
    have ky1 := ky.same s1
    have h1 := hsq _ s1
    walk_at "vc"
    refine v_isiT ky1 upd_same (.inr (.inr (.inl rfl))) (.inr (.inr (.inr (.inl rfl)))) ?_
    rw [show (isA s "tuple" || isA s "list") = true by rcases hs with rfl | rfl <;> rfl]
    walk_at "vc"
    refine v_isi kx1 (.inr (.inr (.inl rfl))) ?_
    walk_at "vc"
    refine v_isi ky1 (.inr (.inr (.inl rfl))) ?_
    walk_at "vc"
    refine v_iteN (fun z => absurd rfl z) (fun _ => ?_)
    walk_at "vc"
    refine v_isi kx1 (.inr (.inr (.inr (.inl rfl)))) ?_
    walk_at "vc"
    refine v_isi ky1 (.inr (.inr (.inr (.inl rfl)))) ?_
    walk_at "vc"
    refine v_iteN (fun z => absurd rfl z) (fun _ => ?_)
    walk_at "vc"
    refine v_lenE h1.1 ?_
    walk_at "vc"
    refine v_lenE h1.2 ?_
    walk_at "vc"
    refine v_ite (fun _ => ?_) (fun z => absurd (by rw [he]) z)
    walk_at "vc"
    refine v_lenE h1.2 ?_
    walk_at "vc"
    refine v_rg1 (by omega) ?_
    refine v_lc0 (fun A i H' => H' A = some (.lst ((List.replicate i true).map V.bl)) ∧ Same H H') (fun A nA => ⟨upd_same, s1.trans (same_upd nA)⟩) ?_ ?_
    · rintro A i H' nA hi' ⟨hA, s2⟩
      have hx : i < xs.length := by omega
      have hy : i < ys.length := by omega
      have h2 := hsq _ s2
      refine v_turn rfl ?_
      walk_at "vc"
      refine v_ixE h2.1 (at_of (j := i) rfl (List.getElem?_eq_getElem hx)) ?_
      walk_at "vc"
      refine v_ixE h2.2 (at_of (j := i) rfl (List.getElem?_eq_getElem hy)) ?_
      walk_at "vc"
      refine ⟨_, _, rfl, (hi i _ _ (List.getElem?_eq_getElem hx) (List.getElem?_eq_getElem hy)).same s2, fun H3 s3 => ?_⟩
      refine ⟨_, s3 _ _ hA, by rw [List.length_map, List.length_replicate]; exact small1000 (by omega), ?_, ?_⟩
      · rw [upd_same, List.replicate_succ', List.map_append]
        rfl
      · intro c o hc
        have nc : c ≠ A := ne_of_none (s1 _ _ hc) nA
        rw [upd_ne nc]
        exact s3 _ _ (s2 _ _ hc)
    · rintro A H' nA ⟨hA, s2⟩
      refine ⟨A, _, rfl, SqL.of hA, ?_⟩
      rw [show (List.replicate ((ys.length : Int)).toNat true).all id = true by simp]
      exact q _ s2
end

/-! ### drawn orders and trees: the mathematics -/
theorem nodup_at {l : List Int} (h : l.Nodup) {i j : Nat} {x : Int} (a : l[i]? = some x) (b : l[j]? = some x) : i = j := by
  obtain ⟨h1, e1⟩ := List.getElem?_eq_some_iff.mp a
  obtain ⟨h2, e2⟩ := List.getElem?_eq_some_iff.mp b
  exact (List.getElem_inj h).mp (e1.trans e2.symm)
theorem cover {n : Nat} {ms : List Int} (lm : ms.length = n) (nd : ms.Nodup) (rg : ∀ m ∈ ms, 1 ≤ m ∧ m ≤ n) {b : Int} (b0 : 1 ≤ b) (b1 : b ≤ n) : ∃ j : Nat, ms[j]? = some b := by
  by_cases hb : b ∈ ms
  · exact List.mem_iff_getElem?.mp hb
  · exfalso
    have nd2 : (b :: ms).Nodup := List.nodup_cons.mpr ⟨hb, nd⟩
    have rg2 : ∀ m ∈ b :: ms, 1 ≤ m ∧ m ≤ n := fun m hm => by
      rcases List.mem_cons.mp hm with e | hm
      · rw [e]; exact ⟨b0, b1⟩
      · exact rg m hm
    have at2 : ∀ k, k ≤ n → ∃ x, (b :: ms)[k]? = some x := fun k hk => ⟨_, List.getElem?_eq_getElem (by rw [List.length_cons]; omega)⟩
    obtain ⟨i, j, hij, hj, g⟩ := pigeon n (fun k => ((b :: ms).getD k 0).toNat - 1) fun k hk => by
      obtain ⟨x, hx⟩ := at2 k hk
      have := rg2 x (List.mem_of_getElem? hx)
      show ((b :: ms).getD k 0).toNat - 1 < n
      rw [List.getD_eq_getElem?_getD, hx]
      show x.toNat - 1 < n
      omega
    obtain ⟨x, hx⟩ := at2 i (by omega)
    obtain ⟨y, hy⟩ := at2 j hj
    have hx' := rg2 x (List.mem_of_getElem? hx)
    have hy' := rg2 y (List.mem_of_getElem? hy)
    have g' : ((b :: ms).getD i 0).toNat - 1 = ((b :: ms).getD j 0).toNat - 1 := g
    rw [List.getD_eq_getElem?_getD, hx, List.getD_eq_getElem?_getD, hy] at g'
    have g2 : x.toNat - 1 = y.toNat - 1 := g'
    have e : x = y := by omega
    rw [e] at hx
    exact absurd (nodup_at nd2 hx hy) (by omega)
theorem tree_of_order {n : Nat} {ms fs : List Int} (lm : ms.length = n) (nd : ms.Nodup) (rg : ∀ m ∈ ms, 1 ≤ m ∧ m ≤ n) (lf : fs.length = n) (h1 : 1 ≤ n) (h40 : n ≤ 40) (pl : ∀ h ∈ fs, 0 ≤ h ∧ h ≤ n)
    (inv : ∀ (j : Nat) (x : Int), 1 ≤ j → j ≤ n → (0 :: ms)[j]? = some x → ∃ (a : Nat) (y : Int), a < j ∧ (0 :: ms)[a]? = some y ∧ fs[(x - 1).toNat]? = some y) : IsTree fs := by
  have nd0 : (0 :: ms).Nodup := List.nodup_cons.mpr ⟨fun h => absurd (rg 0 h).1 (by decide), nd⟩
  have block : ∀ k : Nat, k < n → ∃ j : Nat, 1 ≤ j ∧ j ≤ n ∧ (0 :: ms)[j]? = some ((k : Int) + 1) := fun k hk => by
    obtain ⟨j, hj⟩ := cover lm nd rg (b := (k : Int) + 1) (by omega) (by omega)
    refine ⟨j + 1, by omega, ?_, by rw [List.getElem?_cons_succ]; exact hj⟩
    have := (List.getElem?_eq_some_iff.mp hj).1
    omega
  have home : ∀ (m j : Nat) (x : Int), j ≤ m → j ≤ n → (0 :: ms)[j]? = some x → ∃ k, k ≤ j ∧ up fs k x = 0 := by
    intro m
    induction m with
    | zero =>
      intro j x hj _ hx
      have e : j = 0 := by omega
      subst e
      exact ⟨0, Nat.le_refl _, (Option.some.inj hx).symm⟩
    | succ m ih =>
      intro j x hj hn hx
      by_cases j0 : j = 0
      · subst j0
        exact ⟨0, Nat.le_refl _, (Option.some.inj hx).symm⟩
      · obtain ⟨a, y, ha, hy, hf⟩ := inv j x (by omega) hn hx
        obtain ⟨k, hk, hu⟩ := ih a y (by omega) (by omega) hy
        have xp : 1 ≤ x := by
          obtain ⟨i, e⟩ : ∃ i, j = i + 1 := ⟨j - 1, by omega⟩
          rw [e, List.getElem?_cons_succ] at hx
          exact (rg x (List.mem_of_getElem? hx)).1
        refine ⟨k + 1, by omega, ?_⟩
        show up fs k (stp fs x) = 0
        have e : stp fs x = y := by
          unfold stp
          rw [if_neg (by omega), List.getD_eq_getElem?_getD, show x.toNat - 1 = (x - 1).toNat by omega, hf]
          rfl
        rw [e]
        exact hu
  refine ⟨by omega, by omega, fun h hh => by rw [lf]; exact pl h hh, fun k h hk => ?_, fun b hb => ?_⟩
  · have hk' : k < n := by rw [← lf]; exact (List.getElem?_eq_some_iff.mp hk).1
    obtain ⟨j, hj1, hjn, hj⟩ := block k hk'
    obtain ⟨a, y, ha, hy, hf⟩ := inv j _ hj1 hjn hj
    rw [show (((k : Int) + 1) - 1).toNat = k by omega, hk] at hf
    have e := Option.some.inj hf
    intro z
    rw [← e, z] at hy
    exact absurd (nodup_at nd0 hy hj) (by omega)
  · obtain ⟨j, hj1, hjn, hj⟩ := block b (by omega)
    obtain ⟨k, hk, hu⟩ := home j j _ (Nat.le_refl _) hjn hj
    exact leads_true (k := k) (by omega) hu

section
variable {K : PySem.W.Frag} {H : Hp} {Q : VK} {E : XK} {vs : List V}
theorem pure_l_many (h : spMany vs H Q E) : t_l_many K { nx := fun _ H' => Q .non H', rt := Q } (start ["_law_pool_here"] vs) H := by
  obtain ⟨p, rfl, hp, q⟩ := h
  unfold t_l_many
  walk_at "vc"
  refine ⟨p, 8, rfl, hp, by decide, by decide, fun d H1 d0 d1 hp1 m1 => ?_⟩
  walk_at "vc"
  have fin : ∀ c : Int, 1 ≤ c → c ≤ 40 → spDraw ([.ref p, .int c] ++ []) H1 (fun x H2 => xAdd (.int 1) x H2 Q) E0 := fun c c0 c1 => by
    refine ⟨p, c, rfl, hp1, c0, by omega, fun e H2 e0 e1 hp2 m2 => ?_⟩
    walk_at "vc"
    have := q (1 + e).toNat H2 hp2 (m1.trans m2) (by omega) (by omega)
    rw [show (((1 + e).toNat : Nat) : Int) = 1 + e by omega] at this
    exact this
  refine v_ite (fun h1 => ?_) (fun h1 => ?_)
  · walk_at "vc"
    exact fin 40 (by decide) (by decide)
  · walk_at "vc"
    exact fin 9 (by decide) (by decide)
theorem pure_l_odd (h : spOdd vs H Q E) : t_l_odd K { nx := fun _ H' => Q .non H', rt := Q } (start ["_law_pool_here", "_law_most"] vs) H := by
  obtain ⟨p, m, rfl, hp, q⟩ := h
  unfold t_l_odd
  walk_at "vc"
  intro t1 n1
  have hp1 := hp.upd (o := .tup [.int 1]) n1
  have f1 : Af _ p t1 _ := Af.upd (o := .tup [.int 1]) hp n1
  have m1 := Mo.upd (o := .tup [.int 1]) hp n1
  generalize upd H t1 (.tup [.int 1]) = H1 at *
  walk_at "vc"
  intro l1 n2
  have hp2 := hp1.upd (o := .lst [.int 1]) n2
  have f2 : Af _ p l1 _ := Af.upd (o := .lst [.int 1]) hp1 n2
  have m2 := Mo.upd (o := .lst [.int 1]) hp1 n2
  generalize upd H1 l1 (.lst [.int 1]) = H2 at *
  walk_at "vc"
  intro d1 n3
  have hp3 := hp2.upd (o := .dK []) n3
  have f3 : Af _ p d1 _ := Af.upd (o := .dK []) hp2 n3
  have m3 := Mo.upd (o := .dK []) hp2 n3
  generalize upd H2 d1 (.dK []) = H3 at *
  walk_at "vc"
  refine v_I ⟨by decide, by decide, by decide⟩ ?_
  walk_at "vc"
  refine ⟨rfl, fun l2 xs H4 s4 n4 h4 => ?_⟩
  have hp4 := hp3.same s4
  have f4 : Af H4 p l2 (.lst xs) := Af.new hp3 n4 s4 h4
  have m4 := Mo.same hp3 s4
  walk_at "vc"
  intro l nl
  walk_at "vc"
  have hp5 := hp4.upd (o := .lst [.int (-1), .int (m + 1), .bl true, .bl false, .non, .str "1", .ref t1, .ref l1, .ref d1, .int (10 ^ (40 : Int).toNat), .ref l2, .int m, .int 0, .int 1]) nl
  have m5 := Mo.upd (o := .lst [.int (-1), .int (m + 1), .bl true, .bl false, .non, .str "1", .ref t1, .ref l1, .ref d1, .int (10 ^ (40 : Int).toNat), .ref l2, .int m, .int 0, .int 1]) hp4 nl
  refine ⟨p, l, _, rfl, hp5, Af.upd hp4 nl, by show 1 ≤ 14; decide, by show 14 ≤ 1000; decide, fun x H6 hx hp6 m6 => ?_⟩
  have mm : Mo p H4 H6 := m5.trans m6
  refine q x H6 hp6 (m1.trans (m2.trans (m3.trans (m4.trans mm)))) ?_
  have k1 : Af H6 p t1 (.tup [.int 1]) := mm _ _ (m4 _ _ (m3 _ _ (m2 _ _ f1)))
  have k2 : Af H6 p l1 (.lst [.int 1]) := mm _ _ (m4 _ _ (m3 _ _ f2))
  have k3 : Af H6 p d1 (.dK []) := mm _ _ (m4 _ _ f3)
  have k4 : Af H6 p l2 (.lst xs) := mm _ _ f4
  simp only [List.mem_cons, List.not_mem_nil, or_false] at hx
  rcases hx with rfl | rfl | rfl | rfl | rfl | rfl | rfl | rfl | rfl | rfl | rfl | rfl | rfl | rfl
  all_goals first | trivial | exact .inr (.inl ⟨_, k1⟩) | exact .inl ⟨_, k2⟩ | exact .inr (.inr ⟨_, k3⟩) | exact .inl ⟨_, k4⟩
end

theorem map_erase : ∀ (l : List Int) (i : Nat), (l.map V.int).eraseIdx i = (l.eraseIdx i).map V.int
  | [], _ => rfl
  | _ :: _, 0 => rfl
  | a :: l, i + 1 => by
    show V.int a :: (l.map V.int).eraseIdx i = V.int a :: (l.eraseIdx i).map V.int
    rw [map_erase l i]
theorem perm_erase : ∀ (l : List Int) (i : Nat) (h : i < l.length), (l[i] :: l.eraseIdx i).Perm l
  | [], _, h => absurd h (Nat.not_lt_zero _)
  | _ :: _, 0, _ => List.Perm.refl _
  | a :: l, i + 1, h => by
    have ih := perm_erase l i (Nat.lt_of_succ_lt_succ h)
    show (l[i]'(Nat.lt_of_succ_lt_succ h) :: a :: l.eraseIdx i).Perm (a :: l)
    exact (List.Perm.swap _ _ _).trans (List.Perm.cons a ih)
section
variable {K : PySem.W.Frag} {H : Hp} {Q : VK} {E : XK} {vs : List V}
theorem pure_l_mixed (h : spMixed vs H Q E) : t_l_mixed K { nx := fun _ H' => Q .non H', rt := Q } (start ["_law_pool_here", "_law_many_here", "_law_left", "_law_turn"] vs) H := by
  obtain ⟨p, n, rfl, hp, h1, h2, q⟩ := h
  unfold t_l_mixed
  walk_at "vc"
  refine v_lrg (by omega) fun l nl => ?_
  have hpl := hp.upd (o := .lst (rgV 1 ((n : Int) + 1))) nl
  have fl : Af _ p l _ := Af.upd (o := .lst (rgV 1 ((n : Int) + 1))) hp nl
  have ml := Mo.upd (o := .lst (rgV 1 ((n : Int) + 1))) hp nl
  have sl := same_upd (o := .lst (rgV 1 ((n : Int) + 1))) nl
  generalize upd H l (.lst (rgV 1 ((n : Int) + 1))) = H1 at *
  rw [rgV_map] at fl
  have el : (((n : Int) + 1) - 1).toNat = n := by omega
  rw [el] at fl
  generalize hnum : ((List.range n).map fun k => (1 : Int) + ((k : Nat) : Int)) = num at *
  have lnum : num.length = n := by rw [← hnum, List.length_map, List.length_range]
  have nnum : num.Nodup := by
    rw [← hnum]
    refine List.Pairwise.map _ ?_ List.nodup_range
    intro a b hab z
    have z' : (1 : Int) + (a : Int) = 1 + (b : Int) := z
    exact hab (by omega)
  have rnum : ∀ m ∈ num, 1 ≤ m ∧ m ≤ n := fun m hm => by
    rw [← hnum] at hm
    obtain ⟨k, hk, rfl⟩ := List.mem_map.mp hm
    have := List.mem_range.mp hk
    omega
  walk_at "vc"
  refine v_rg1 (by omega) ?_
  refine v_lc0 (fun A i H' => ∃ acc left : List Int, Pool H' p ∧ Mo p H H' ∧ Af H' p A (.lst (acc.map V.int)) ∧ Af H' p l (.lst (left.map V.int)) ∧ A ≠ l ∧ acc.length = i ∧ left.length + i = n ∧ (acc ++ left).Perm num)
    (fun A nA => ⟨[], num, hpl.upd nA, ml.trans (Mo.upd hpl nA), Af.upd hpl nA, Af.keep hpl nA fl, (ne_of_none fl.1 nA).symm, rfl, by rw [lnum]; rfl, List.Perm.refl _⟩) ?_ ?_
  · rintro A i H' nA hi ⟨acc, left, hp', m', fA, fL, ne, la, ll, pm⟩
    refine v_turn rfl ?_
    walk_at "vc"
    refine v_bmL fL.1 ?_
    walk_at "vc"
    refine v_lenL (SqL.of fL.1) ?_
    walk_at "vc"
    rw [List.length_map]
    refine ⟨p, left.length, rfl, hp', by omega, by omega, fun d H2 d0 d1 hp2 m2 => ?_⟩
    walk_at "vc"
    have fA2 := m2 _ _ fA
    have fL2 := m2 _ _ fL
    have hd : d.toNat < left.length := by omega
    refine v_popAt fL2.1 d0 (by rw [List.length_map]; exact d1) (by rw [List.length_map]; omega) (y := .int left[d.toNat]) (by rw [List.getElem?_map, List.getElem?_eq_getElem hd]; rfl) ?_
    have fA3 := Af.mut (o' := .lst ((left.map V.int).eraseIdx d.toNat)) hp2 fL2 fA2 ne
    have fL3 := Af.self (o' := .lst ((left.map V.int).eraseIdx d.toNat)) hp2 fL2
    have hp3 := hp2.mut (o' := .lst ((left.map V.int).eraseIdx d.toNat)) fL2
    have m3 := Mo.mut (o' := .lst ((left.map V.int).eraseIdx d.toNat)) (m'.trans m2) hp2 nl fL2
    generalize upd H2 l (.lst ((left.map V.int).eraseIdx d.toNat)) = H3 at *
    refine ⟨_, fA3.1, by rw [List.length_map]; exact small1000 (by omega), acc ++ [left[d.toNat]], left.eraseIdx d.toNat, hp3.mut fA3, ?_, ?_, ?_, ne, ?_, ?_, ?_⟩
    · have nA0 : H A = none := sl.free nA
      exact Mo.mut m3 hp3 nA0 fA3
    · rw [List.map_append]
      exact Af.self hp3 fA3
    · rw [← map_erase]
      exact Af.mut hp3 fA3 fL3 ne.symm
    · rw [List.length_append, la]
      rfl
    · rw [List.length_eraseIdx_of_lt hd]
      omega
    · refine List.Perm.trans ?_ pm
      rw [List.append_assoc]
      exact List.Perm.append_left _ (perm_erase left d.toNat hd)
  · rintro A H' nA ⟨acc, left, hp', m', fA, fL, ne, la, ll, pm⟩
    have e0 : left = [] := List.eq_nil_of_length_eq_zero (by omega)
    rw [e0, List.append_nil] at pm
    refine q A acc H' hp' m' (sl.free nA) fA (by omega) (pm.nodup_iff.mpr nnum) fun m hm => ?_
    exact rnum m (pm.mem_iff.mp hm)
end

section
variable {K : PySem.W.Frag} {H : Hp} {Q : VK} {E : XK} {vs : List V}
theorem rep_map (n : Nat) (x : Int) : List.replicate n (V.int x) = (List.replicate n x).map V.int := by rw [List.map_replicate]
theorem pure_l_hung (h : spHung vs H Q E) : t_l_hung K { nx := fun _ H' => Q .non H', rt := Q } (start ["_law_pool_here", "_law_many_here", "_law_kind", "_law_order", "_law_found", "_law_at", "_law_above"] vs) H := by
  obtain ⟨p, n, rfl, hp, h1, h2, q⟩ := h
  unfold t_l_hung
  walk_at "vc"
  refine ⟨p, 4, rfl, hp, by decide, by decide, fun kd H1 k0 k1 hp1 m1 => ?_⟩
  walk_at "vc"
  intro l nl
  walk_at "vc"
  refine ⟨p, n, rfl, hp1.upd nl, h1, by omega, fun b ms H2 hp2 m2 nb hb lm nd rg => ?_⟩
  have hl := m2 _ _ (Af.upd hp1 nl)
  have m12 := m1.trans ((Mo.upd hp1 nl).trans m2)
  refine v_cat hl.1 hb.1 (by rw [List.length_map]; show 1 + ms.length ≤ 1000; omega) fun o no => ?_
  have hp3 := hp2.upd (o := .lst ([V.int 0] ++ ms.map V.int)) no
  have fo : Af _ p o (.lst ((0 :: ms).map V.int)) := Af.upd (o := .lst ([V.int 0] ++ ms.map V.int)) hp2 no
  have m3 := m12.trans (Mo.upd (o := .lst ([V.int 0] ++ ms.map V.int)) hp2 no)
  generalize upd H2 o (.lst ([V.int 0] ++ ms.map V.int)) = H3 at *
  walk_at "vc"
  intro l2 nl2
  walk_at "vc"
  refine v_rep upd_same (by omega) (by show 1 ≤ 1000; decide) fun f nf => ?_
  have hp4 := hp3.upd (o := .lst [V.int 0]) nl2
  have fo4 := Af.keep (u := .lst [V.int 0]) hp3 nl2 fo
  have m4 := m3.trans (Mo.upd (o := .lst [V.int 0]) hp3 nl2)
  generalize upd H3 l2 (.lst [V.int 0]) = H4 at *
  rw [flat_one, rep_map, show ((n : Int)).toNat = n by omega]
  have hp5 := hp4.upd (o := .lst ((List.replicate n (0 : Int)).map V.int)) nf
  have fo5 := Af.keep (u := .lst ((List.replicate n (0 : Int)).map V.int)) hp4 nf fo4
  have ff5 : Af _ p f _ := Af.upd (o := .lst ((List.replicate n (0 : Int)).map V.int)) hp4 nf
  have m5 := m4.trans (Mo.upd (o := .lst ((List.replicate n (0 : Int)).map V.int)) hp4 nf)
  have nof : o ≠ f := ne_of_none fo4.1 nf
  have nf0 : H f = none := m4.free f nf
  generalize upd H4 f (.lst ((List.replicate n (0 : Int)).map V.int)) = H5 at *
  have rg0 : ∀ (j : Nat) (x : Int), (0 :: ms)[j]? = some x → 0 ≤ x ∧ x ≤ n := fun j x hx => by
    rcases List.mem_cons.mp (List.mem_of_getElem? hx) with e | hm
    · rw [e]; omega
    · have := rg x hm; omega
  have nd0 : (0 :: ms).Nodup := List.nodup_cons.mpr ⟨fun h => absurd (rg 0 h).1 (by decide), nd⟩
  walk_at "vc"
  refine v_rg2 (by omega) ?_
  refine v_loop2 (fun i σ' H' => ∃ (fs : List Int) (v5 v6 : Option V), σ' = [some (.ref p), some (.int n), some (.int kd), some (.ref o), some (.ref f), v5, v6] ∧ Pool H' p ∧ Mo p H H' ∧ Af H' p o (.lst ((0 :: ms).map V.int)) ∧ Af H' p f (.lst (fs.map V.int)) ∧ fs.length = n ∧ (∀ h ∈ fs, 0 ≤ h ∧ h ≤ n) ∧
      ∀ (j : Nat) (x : Int), 1 ≤ j → j ≤ i → (0 :: ms)[j]? = some x → ∃ (a : Nat) (y : Int), a < j ∧ (0 :: ms)[a]? = some y ∧ fs[(x - 1).toNat]? = some y)
    ⟨List.replicate n 0, none, none, rfl, hp5, m5, fo5, ff5, List.length_replicate, fun h hh => by rw [List.eq_of_mem_replicate hh]; omega, fun j x a b => absurd (Nat.le_trans a b) (by decide)⟩ ?_ ?_
  · rintro i σ' H' hi ⟨fs, v5, v6, rfl, hp', m', fo', ff, lf, pl, inv⟩
    walk_at "vc"
    refine ⟨p, 1 + (i : Int), rfl, hp', by omega, by omega, fun ab H6 a0 a1 hp6 m6 => ?_⟩
    walk_at "vc"
    refine v_cut (fun σ' H'' => ∃ ab : Int, σ' = [some (.ref p), some (.int n), some (.int kd), some (.ref o), some (.ref f), some (.int (1 + (i : Int))), some (.int ab)] ∧ 0 ≤ ab ∧ ab < 1 + (i : Int) ∧ Pool H'' p ∧ Mo p H' H'') ?_ ?_
    · walk_at "vc"
      refine v_ite (fun c1 => ?_) (fun c1 => ?_)
      · walk_at "vc"
        exact ⟨_, rfl, by omega, by omega, hp6, m6⟩
      · walk_at "vc"
        refine v_ite (fun c2 => ?_) (fun c2 => ?_)
        · walk_at "vc"
          refine ⟨p, 3, rfl, hp6, by decide, by decide, fun z H7 z0 z1 hp7 m7 => ?_⟩
          walk_at "vc"
          refine v_ite (fun c3 => ?_) (fun c3 => ?_)
          · walk_at "vc"
            exact ⟨_, rfl, by omega, by omega, hp7, m6.trans m7⟩
          · walk_at "vc"
            exact ⟨_, rfl, a0, a1, hp7, m6.trans m7⟩
        · walk_at "vc"
          exact ⟨_, rfl, a0, a1, hp6, m6⟩
    · rintro σ' H7 ⟨ab, rfl, a0, a1, hp7, m7⟩
      refine v_cut (fun σ' H'' => ∃ ab : Int, σ' = [some (.ref p), some (.int n), some (.int kd), some (.ref o), some (.ref f), some (.int (1 + (i : Int))), some (.int ab)] ∧ 0 ≤ ab ∧ ab < 1 + (i : Int) ∧ Pool H'' p ∧ Mo p H' H'') ?_ ?_
      · walk_at "vc"
        refine v_ite (fun c2 => ?_) (fun c2 => ?_)
        · walk_at "vc"
          refine ⟨p, 2, rfl, hp7, by decide, by decide, fun z H8 z0 z1 hp8 m8 => ?_⟩
          walk_at "vc"
          refine v_ite (fun c3 => ?_) (fun c3 => ?_)
          · walk_at "vc"
            exact ⟨_, rfl, by omega, by omega, hp8, m7.trans m8⟩
          · walk_at "vc"
            exact ⟨_, rfl, a0, a1, hp8, m7.trans m8⟩
        · walk_at "vc"
          exact ⟨_, rfl, a0, a1, hp7, m7⟩
      · rintro σ' H8 ⟨ab, rfl, a0, a1, hp8, m8⟩
        have fo8 := m8 _ _ fo'
        have ff8 := m8 _ _ ff
        have la : ab.toNat < (0 :: ms).length := by rw [List.length_cons]; omega
        have li : i + 1 < (0 :: ms).length := by rw [List.length_cons]; omega
        obtain ⟨y, hy⟩ : ∃ y, (0 :: ms)[ab.toNat]? = some y := ⟨_, List.getElem?_eq_getElem la⟩
        obtain ⟨x, hx⟩ : ∃ x, (0 :: ms)[i + 1]? = some x := ⟨_, List.getElem?_eq_getElem li⟩
        have hxp : 1 ≤ x ∧ x ≤ n := by
          rw [List.getElem?_cons_succ] at hx
          exact rg x (List.mem_of_getElem? hx)
        walk_at "vc"
        refine v_ixL (SqL.of fo8.1) (at_of (j := ab.toNat) (by omega) (by rw [List.getElem?_map, hy]; rfl)) ?_
        walk_at "vc"
        refine v_ixL (SqL.of fo8.1) (at_of (j := i + 1) (by omega) (by rw [List.getElem?_map, hx]; rfl)) ?_
        walk_at "vc"
        refine v_setL ff8.1 (ixN_of (j := (x - 1).toNat) (by omega) (by rw [List.length_map]; omega)) ?_
        rw [← List.map_set]
        refine ⟨fs.set (x - 1).toNat y, _, _, rfl, hp8.mut ff8, Mo.mut (m'.trans m8) hp8 nf0 ff8, Af.mut hp8 ff8 fo8 nof, Af.self hp8 ff8, by rw [List.length_set]; exact lf, fun h hh => ?_, fun j x' j1 ji hx' => ?_⟩
        · rcases List.mem_or_eq_of_mem_set hh with hh | e
          · exact pl h hh
          · rw [e]
            exact rg0 _ _ hy
        · by_cases e : j = i + 1
          · rw [e, hx] at hx'
            have ex := Option.some.inj hx'
            refine ⟨ab.toNat, y, by omega, hy, ?_⟩
            rw [← ex, List.getElem?_set_self (by omega)]
          · obtain ⟨a, y', ha, hya, hf⟩ := inv j x' j1 (by omega) hx'
            refine ⟨a, y', ha, hya, ?_⟩
            have ne : x' ≠ x := fun z => by
              rw [z] at hx'
              exact e (nodup_at nd0 hx' hx)
            have xp : 1 ≤ x' := by
              obtain ⟨k, ek⟩ : ∃ k, j = k + 1 := ⟨j - 1, by omega⟩
              rw [ek, List.getElem?_cons_succ] at hx'
              exact (rg x' (List.mem_of_getElem? hx')).1
            rw [List.getElem?_set_ne (by omega)]
            exact hf
  · rintro σ' H' ⟨fs, v5, v6, rfl, hp', m', fo', ff, lf, pl, inv⟩
    walk_at "vc"
    refine v_tupOfL ff.1 fun t nt => ?_
    refine q t fs _ (hp'.upd nt) (m'.trans (Mo.upd hp' nt)) (Af.upd hp' nt) lf ?_
    exact tree_of_order lm nd rg lf h1 h2 pl fun j x j1 jn hx => inv j x j1 (by omega) hx
end

theorem badAt_int' {xs : List V} {k : Nat} {i : Int} (hx : xs[k]? = some (.int i)) : badAt xs k = (!within (.int i) 0 xs.length || decide (i = k + 1)) := by
  unfold badAt
  rw [hx]
  rfl
theorem badAt_other' {xs : List V} {k : Nat} {x : V} (hx : xs[k]? = some x) (h : within x 0 xs.length = false) : badAt xs k = true := by
  unfold badAt
  rw [hx]
  cases x with
  | int i =>
    have e : decide (0 ≤ i ∧ i ≤ (xs.length : Int)) = false := h
    show (!decide (0 ≤ i ∧ i ≤ (xs.length : Int)) || decide (i = (k : Int) + 1)) = true
    rw [e]
    rfl
  | _ => rfl
theorem getI' {hs : List Int} {h : Int} (p : Pls hs) (h0 : h ≠ 0) (h1 : 0 ≤ h) (h2 : h ≤ hs.length) : atI (hs.map V.int) (h - 1) = some (.int (stp hs h)) := by
  have hl : h.toNat - 1 < hs.length := by omega
  refine at_of (j := h.toNat - 1) (by omega) ?_
  unfold stp
  rw [if_neg h0, List.getElem?_map, List.getD_eq_getElem?_getD, List.getElem?_eq_getElem hl]
  rfl
section
variable {K : PySem.W.Frag} {H : Hp} {Q : VK} {E : XK} {vs : List V}
theorem pure_l_tree_due (h : spDue vs H Q E) : t_l_tree_due K { nx := fun _ H' => Q .non H', rt := Q } (start ["_law_thing", "_law_block", "_law_here", "_law_turn"] vs) H := by
  obtain ⟨x, r, rfl, th, q⟩ := h
  unfold t_l_tree_due
  rcases th with ⟨s, k, ns, rfl⟩ | ⟨a, xs, rfl, ha, hk, rfl⟩
  · walk_at "vc"
    refine v_isi k (.inr (.inr (.inl rfl))) ?_
    walk_at "vc"
    have e : isA s "tuple" = false := by cases k <;> first | rfl | exact absurd rfl ns
    rw [e]
    walk_at "vc"
    exact q _ _ (Same.refl _) rfl
  · walk_at "vc"
    refine v_isi (.tup ha) (.inr (.inr (.inl rfl))) ?_
    walk_at "vc"
    rw [show isA "tuple" "tuple" = true from rfl]
    walk_at "vc"
    have bad : (xs.length = 0 ∨ 40 < xs.length) → Q (.str "hung") H := fun hl => q _ _ (Same.refl _) (by rw [partT_hung hl]; rfl)
    refine v_ite (fun h1 => ?_) (fun h1 => ?_)
    · walk_at "vc"
      refine v_iteN (fun h2 => ?_) (fun h2 => ?_)
      · walk_at "vc"
        exact bad (by omega)
      · walk_at "vc"
        have ok : ¬ (xs.length = 0 ∨ 40 < xs.length) := by omega
        refine v_rg2 (by omega) ?_
        refine v_loop2 (fun i σ' H' => H' = H ∧ (∃ v, σ' = [some (.ref a), v, none, none]) ∧ ∀ j, j < i → badAt xs j = false) ⟨rfl, ⟨none, rfl⟩, fun j hj => absurd hj (Nat.not_lt_zero _)⟩ ?_ ?_
        · rintro i σ' H' hi ⟨rfl, ⟨v, rfl⟩, g⟩
          have hi' : i < xs.length := by omega
          obtain ⟨x, hx⟩ : ∃ x, xs[i]? = some x := ⟨_, List.getElem?_eq_getElem hi'⟩
          have hat : atI xs (1 + (i : Int) - 1) = some x := at_of (j := i) (by omega) hx
          obtain ⟨s, kx⟩ := hk x (List.mem_of_getElem? hx)
          have out : badAt xs i = true → Q (.int (1 + (i : Int))) H' := fun b => q _ _ (Same.refl _) (by
            rw [partT_blk ok hi' b g]
            show V.int (1 + (i : Int)) = V.int ((i + 1 : Nat) : Int)
            congr 1
            omega)
          walk_at "vc"
          refine v_ixT' ha hat ?_
          walk_at "vc"
          refine ⟨x, 0, xs.length, s, rfl, kx, ?_⟩
          walk_at "vc"
          cases hw : within x 0 xs.length with
          | false =>
            walk_at "vc"
            exact out (badAt_other' hx hw)
          | true =>
            walk_at "vc"
            refine v_ixT' ha hat ?_
            walk_at "vc"
            cases x with
            | int z =>
              walk_at "vc"
              refine v_ite (fun h3 => ?_) (fun h3 => ?_)
              · walk_at "vc"
                refine out ?_
                rw [badAt_int' hx, hw, decide_eq_true (by omega)]
                rfl
              · walk_at "vc"
                refine ⟨rfl, ⟨_, rfl⟩, fun j hj => ?_⟩
                by_cases e : j = i
                · rw [e, badAt_int' hx, hw, decide_eq_false (by omega)]
                  rfl
                · exact g j (by omega)
            | _ => exact absurd hw (by simp [within])
        · rintro σ' H' ⟨rfl, ⟨v, rfl⟩, g⟩
          have g' : ∀ j, j < xs.length → badAt xs j = false := fun j hj => g j (by omega)
          obtain ⟨en, pl, ln⟩ := good_nums g'
          have ha' : H' a = some (.tup ((nums xs).map V.int)) := by rw [← en]; exact ha
          have hlm : ((nums xs).map V.int).length = xs.length := by rw [List.length_map, ln]
          walk_at "vc"
          refine v_rg2 (by omega) ?_
          refine v_loop2 (fun i σ'' H'' => H'' = H' ∧ (∃ v w u, σ'' = [some (.ref a), v, w, u]) ∧ ∀ j : Nat, j < i → leads (nums xs) (j + 1) = true) ⟨rfl, ⟨v, none, none, rfl⟩, fun j hj => absurd hj (Nat.not_lt_zero _)⟩ ?_ ?_
          · rintro i σ'' H'' hi ⟨rfl, ⟨v, w, u, rfl⟩, l⟩
            have b0 : (0 : Int) ≤ 1 + (i : Int) := by omega
            have b1 : 1 + (i : Int) ≤ ((nums xs).length : Int) := by omega
            walk_at "vc"
            refine v_rg1 (by omega) ?_
            refine v_loop0 (fun k σ₃ H₃ => H₃ = H'' ∧ ∃ u, σ₃ = [some (.ref a), some (.int (1 + (i : Int))), some (.int (up (nums xs) k (1 + (i : Int)))), u]) ⟨rfl, u, rfl⟩ ?_ ?_
            · rintro k σ₃ H₃ hk ⟨rfl, u, rfl⟩
              have uin := up_in pl k _ b0 b1
              walk_at "vc"
              refine v_ite (fun z0 => ?_) (fun z0 => ?_)
              · walk_at "vc"
                refine ⟨rfl, some (.int k), ?_⟩
                rw [up_succ, z0] <;> rfl
              · walk_at "vc"
                refine v_ixT' ha' (getI' pl z0 uin.1 uin.2) ?_
                walk_at "vc"
                refine ⟨rfl, some (.int k), ?_⟩
                rw [up_succ] <;> rfl
            · rintro σ₃ H₃ ⟨rfl, u, rfl⟩
              have el : (((((nums xs).map V.int).length : Nat) : Int) + 1).toNat = (nums xs).length + 1 := by omega
              rw [el]
              have li := leads_iff pl b0 b1
              walk_at "vc"
              refine v_iteN (fun z0 => ?_) (fun z0 => ?_)
              · rw [decide_eq_false z0] at li
                walk_at "vc"
                intro t nt
                have e : ((i + 1 : Nat) : Int) = 1 + (i : Int) := by omega
                refine q _ _ (same_upd nt) ?_
                rw [partT_ring ok g' (by omega : i < xs.length) (by rw [show ((i : Int) + 1) = 1 + (i : Int) by omega]; exact li) l]
                refine ⟨t, rfl, ?_⟩
                rw [e]
                exact upd_same
              · rw [decide_eq_true z0] at li
                walk_at "vc"
                refine ⟨rfl, ⟨_, _, _, rfl⟩, fun j hj => ?_⟩
                by_cases e : j = i
                · rw [e, ← li]
                  congr 1
                  omega
                · exact l j (by omega)
          · rintro σ'' H'' ⟨rfl, ⟨v, w, u, rfl⟩, l⟩
            walk_at "vc"
            exact q _ _ (Same.refl _) (by rw [partT_none ok g' fun j hj => l j (by omega)]; rfl)
    · walk_at "vc"
      exact bad (by omega)
end

section
variable {K : PySem.W.Frag} {H : Hp} {Q : VK} {E : XK} {vs : List V} {cBadTree cTree cVoteError : Addr}
/-- what is known of the errors' classes -/
structure ErrT (K : PySem.W.Frag) (cB cV : Addr) : Prop where
  xc : XCls K cB
  te : PySem.W.exmOne K (.ref cB) (.ref cB) = some true
  kv : PySem.W.kitOne K (.ref cB) (.ref cV) = some true
theorem alike_ints {H : Hp} {a : Addr} {hs : List Int} (h : H a = some (.tup (hs.map V.int))) (l : hs.length ≤ 1000) : Alike 1 H (.ref a) (.ref a) :=
  .inr ⟨a, a, _, _, rfl, rfl, .inl ⟨h, h⟩, by rw [List.length_map]; exact l, rfl, fun i u v hu hv => by
    rw [hu] at hv
    cases hv
    obtain ⟨n, rfl⟩ := map_get hu
    exact ⟨trivial, rfl⟩⟩
theorem pure_l_tree_word (o : OwnC K cTree) (nf : NoAttr K cTree "hung") (er : ErrT K cBadTree cVoteError) (h : spDue vs H Q E) :
    t_l_tree_word K cBadTree cTree cVoteError { nx := fun _ H' => Q .non H', rt := Q } (start ["_law_thing", "_law_told", "_law_made", "e"] vs) H := by
  obtain ⟨x, r, rfl, th, q⟩ := h
  unfold t_l_tree_word
  walk_at "vc"
  unfold tTryAs
  walk_at "vc"
  intro s dx ns nd ne
  have s1 : Same H (upd H dx (.own s)) := same_upd nd
  have ns1 : (upd H dx (.own s)) s = none := by rw [upd_ne (fun z => ne z.symm)]; exact ns
  have s2 : Same H (upd (upd H dx (.own s)) s (.ins cTree dx [])) := s1.trans (same_upd ns1)
  refine ⟨s, dx, x, r, rfl, upd_same, th.same s2, fun r0 => ⟨rfl, ?_⟩, fun part e d v H' s' hd enc => ?_⟩
  · rw [upd_upd]
    have s3 : Same H (upd (upd H dx (.own s)) s (.ins cTree dx [("hung", x)])) := s1.trans (same_upd ns1)
    have hs : (upd (upd H dx (.own s)) s (.ins cTree dx [("hung", x)])) s = some (.ins cTree dx [("hung", x)]) := upd_same
    generalize upd (upd H dx (.own s)) s (.ins cTree dx [("hung", x)]) = H1 at *
    walk_at "vc"
    refine v_fldK o nf hs rfl ?_
    walk_at "vc"
    subst r0
    obtain ⟨a, xs, rfl, ha, _, e⟩ : ∃ a xs, x = .ref a ∧ H a = some (.tup xs) ∧ (∀ y ∈ xs, ∃ s, Kind H y s) ∧ none = partT xs := by
      rcases th with ⟨_, _, _, z⟩ | z
      · cases z
      · exact z
    obtain ⟨ks, rfl, tr⟩ := partT_inv e.symm
    refine ⟨_, _, rfl, (alike_ints ha (Nat.le_trans tr.2.1 (by decide))).same s3, fun H2 s4 => ?_⟩
    walk_at "vc"
    exact q _ _ (s3.trans s4) rfl
  · subst e
    refine ⟨true, er.te, fun _ a na => ?_, fun z => nomatch z⟩
    walk_at "vc"
    refine ⟨.ref cVoteError, .ref cVoteError, true, cBadTree, d, _, rfl, rfl, rfl, hd, er.xc, .own _, er.kv, ?_⟩
    walk_at "vc"
    refine ⟨rfl, rfl, d, _, v, rfl, hd, rfl, ?_⟩
    walk_at "vc"
    exact q _ _ (s2.trans s') enc
end

section
variable {K : PySem.W.Frag} {H : Hp} {Q : VK} {E : XK} {vs : List V} {cBadTree cTree : Addr}
/-- a thing of which all is known, whatever is drawn -/
def TK (H : Hp) (p : Addr) (x : V) : Prop := ((∃ s, Kind H x s ∧ s ≠ "tuple") ∧ AK H p x) ∨ ∃ a xs, x = .ref a ∧ Af H p a (.tup xs) ∧ ∀ y ∈ xs, AK H p y
theorem AK.kindN {H H' : Hp} {p : Addr} {x : V} {s : String} (m : Mo p H H') (k : Kind H x s) (ak : AK H p x) : Kind H' x s := by
  cases k with
  | non => exact .non
  | bl b => exact .bl b
  | int i => exact .int i
  | str z => exact .str z
  | lst h =>
    rcases ak with ⟨_, f⟩ | ⟨_, f⟩ | ⟨_, f⟩
    · exact .lst (m _ _ f).1
    · rw [f.1] at h; cases h
    · rw [f.1] at h; cases h
  | tup h =>
    rcases ak with ⟨_, f⟩ | ⟨_, f⟩ | ⟨_, f⟩
    · rw [f.1] at h; cases h
    · exact .tup (m _ _ f).1
    · rw [f.1] at h; cases h
  | dK h =>
    rcases ak with ⟨_, f⟩ | ⟨_, f⟩ | ⟨_, f⟩
    · rw [f.1] at h; cases h
    · rw [f.1] at h; cases h
    · exact .dK (m _ _ f).1
theorem TK.mo {H H' : Hp} {p : Addr} {x : V} (h : TK H p x) (m : Mo p H H') : TK H' p x := by
  rcases h with ⟨⟨s, k, n⟩, ak⟩ | ⟨a, xs, e, f, h⟩
  · exact .inl ⟨⟨s, ak.kindN m k, n⟩, ak.mo m⟩
  · exact .inr ⟨a, xs, e, m _ _ f, fun y hy => (h y hy).mo m⟩
theorem TK.thing {H : Hp} {p : Addr} {x : V} (h : TK H p x) : ∃ r, Thing H x r := by
  rcases h with ⟨⟨s, k, n⟩, ak⟩ | ⟨a, xs, e, f, h⟩
  · exact ⟨_, .inl ⟨s, k, n, rfl⟩⟩
  · exact ⟨_, .inr ⟨a, xs, e, f.1, fun y hy => (h y hy).kind, rfl⟩⟩
theorem AK.mut {H : Hp} {p t : Addr} {xs ys : List V} {y : V} (hp : Pool H p) (f : Af H p t (.lst xs)) (h : AK H p y) : AK (upd H t (.lst ys)) p y := by
  cases y with
  | ref b =>
    by_cases e : b = t
    · rw [e]
      exact .inl ⟨ys, Af.self hp f⟩
    · rcases h with ⟨_, h⟩ | ⟨_, h⟩ | ⟨_, h⟩
      · exact .inl ⟨_, Af.mut hp f h e⟩
      · exact .inr (.inl ⟨_, Af.mut hp f h e⟩)
      · exact .inr (.inr ⟨_, Af.mut hp f h e⟩)
  | byt b => exact h.elim
  | flt b => exact h.elim
  | ty b => exact h.elim
  | _ => trivial
theorem enc_alike {H : Hp} {u v : V} {r : Option Part} (a : Enc H u r) (b : Enc H v r) : Alike 1 H u v := by
  cases r with
  | none => rw [a, b]; exact .inl ⟨trivial, rfl⟩
  | some r =>
    cases r with
    | hung => rw [a, b]; exact .inl ⟨trivial, rfl⟩
    | blk k => rw [a, b]; exact .inl ⟨trivial, rfl⟩
    | ring k =>
      obtain ⟨t, rfl, ht⟩ := a
      obtain ⟨s, rfl, hs⟩ := b
      refine .inr ⟨t, s, _, _, rfl, rfl, .inl ⟨ht, hs⟩, by show 2 ≤ 1000; decide, rfl, fun i x y hx hy => ?_⟩
      rw [hx] at hy
      cases hy
      match i, hx with
      | 0, hx => cases hx; exact ⟨trivial, rfl⟩
      | 1, hx => cases hx; exact ⟨trivial, rfl⟩
theorem mk_tree {R : Addr → Hp → Prop} {hs : List Int} {h : Addr} (t : IsTree hs) (hh : H h = some (.tup (hs.map V.int))) (k : ∀ x H', Same H H' → TreeAt cTree H' (.ref x) hs → R x H') : ∀ x dx, H x = none → H dx = none → dx ≠ x →
    spTree cBadTree cTree (.ref x :: ([.ref h] ++ [])) (upd (upd H dx (.own x)) x (.ins cTree dx [])) (fun v H2 => v = .non ∧ R x H2) E0 := by
  intro s dx ns nd ne
  have s1 : Same H (upd H dx (.own s)) := same_upd nd
  have ns1 : (upd H dx (.own s)) s = none := by rw [upd_ne (fun z => ne z.symm)]; exact ns
  have th : Thing H (.ref h) none := .inr ⟨h, _, rfl, hh, fun y hy => by
    obtain ⟨i, _, rfl⟩ := List.mem_map.mp hy
    exact ⟨_, .int i⟩, t.part.symm⟩
  refine ⟨s, dx, .ref h, none, rfl, upd_same, th.same (s1.trans (same_upd ns1)), fun _ => ⟨rfl, ?_⟩, fun part e => nomatch e⟩
  rw [upd_upd]
  have s3 : Same H (upd (upd H dx (.own s)) s (.ins cTree dx [("hung", .ref h)])) := s1.trans (same_upd ns1)
  exact k _ _ s3 ⟨s, dx, h, rfl, upd_same, s3 _ _ hh⟩
theorem TreeAt.same {H H' : Hp} {x : V} {hs : List Int} (h : TreeAt cTree H x hs) (e : Same H H') : TreeAt cTree H' x hs := by
  obtain ⟨a, dx, t, rfl, h1, h2⟩ := h
  exact ⟨a, dx, t, rfl, e _ _ h1, e _ _ h2⟩
theorem v_eqTT (o : OwnC K cTree) {x y : V} {hs ks : List Int} (a : TreeAt cTree H x hs) (b : TreeAt cTree H y ks) (q : Q (.bl (decide (hs = ks))) H) : rEqOwn K cTree (spTreeEq cTree) E0 x y H Q := by
  obtain ⟨ax, dx, tx, rfl, h1, h2⟩ := id a
  obtain ⟨ay, dy, ty, rfl, h3, h4⟩ := id b
  exact ⟨ax, dx, _, .ref cTree, rfl, h1, o.tyx h3, by unfold PySem.W.notFirst; rw [beq_self_eq_true]; rfl, .ref ax, .ref ay, hs, rfl, a, .inl ⟨ks, b, _, rfl, q⟩⟩
theorem v_eqTK (o : OwnC K cTree) {x y : V} {hs : List Int} {s : String} (a : TreeAt cTree H x hs) (k : Kind H y s) (q : Q (.bl false) H) : rEqOwn K cTree (spTreeEq cTree) E0 x y H Q := by
  obtain ⟨ax, dx, tx, rfl, h1, h2⟩ := id a
  exact ⟨ax, dx, _, .type s, rfl, h1, k.tyx, (o.kt s k.name).2, .ref ax, y, hs, rfl, a, .inr ⟨⟨s, k⟩, _, rfl, q⟩⟩
end

section
variable {K : PySem.W.Frag} {H : Hp} {Q : VK} {E : XK} {vs : List V} {cBadTree cTree : Addr}
theorem pure_law (o : OwnC K cTree) (h : spLaw K vs H Q E) : t_law K cBadTree cTree { nx := fun _ H' => Q .non H', rt := Q } (start ["_law_script", "_law_pool_here", "_law_turn", "_law_many_here", "_law_hung_here", "_law_thing", "_law_change", "_law_at", "_law_odd_here", "_law_other"] vs) H := by
  obtain ⟨a, ns, rfl, hS, hl, q⟩ := h
  unfold t_law
  walk_at "vc"
  refine ⟨a, ns, rfl, hS, hl, fun p H1 hp1 => ?_⟩
  walk_at "vc"
  refine v_rg1 (by decide) ?_
  refine v_loop0 (fun i σ' H' => Pool H' p ∧ ∃ v2 v3 v4 v5 v6 v7 v8 v9 : Option V, σ' = [some (.ref a), some (.ref p), v2, v3, v4, v5, v6, v7, v8, v9]) ⟨hp1, none, none, none, none, none, none, none, none, rfl⟩ ?_ ?_
  rotate_left
  · rintro σ' H' ⟨hp', v2, v3, v4, v5, v6, v7, v8, v9, rfl⟩
    walk_at "vc"
    exact q _
  rintro i σ' H' hi ⟨hp', v2, v3, v4, v5, v6, v7, v8, v9, rfl⟩
  walk_at "vc"
  refine ⟨p, rfl, hp', fun n H2 hp2 m2 n1 n40 => ?_⟩
  walk_at "vc"
  refine ⟨p, n, rfl, hp2, n1, n40, fun th hs H3 hp3 m3 fh lh tr => ?_⟩
  walk_at "vc"
  refine v_lstOfT fh.1 fun t nt => ?_
  have hp4 := hp3.upd (o := .lst (hs.map V.int)) nt
  have fh4 := Af.keep (u := .lst (hs.map V.int)) hp3 nt fh
  have ft4 : Af _ p t _ := Af.upd (o := .lst (hs.map V.int)) hp3 nt
  generalize upd H3 t (.lst (hs.map V.int)) = H4 at *
  have nht : th ≠ t := ne_of_none fh.1 nt
  walk_at "vc"
  refine ⟨p, 4, rfl, hp4, by decide, by decide, fun c H5 c0 c1 hp5 m5 => ?_⟩
  walk_at "vc"
  refine v_rg1 (by omega) ?_
  refine v_loop0 (fun j σ' H' => ∃ (xs : List V) (u6 u7 : Option V), σ' = [some (.ref a), some (.ref p), some (.int i), some (.int n), some (.ref th), some (.ref t), u6, u7, v8, v9] ∧ Pool H' p ∧ Af H' p th (.tup (hs.map V.int)) ∧ Af H' p t (.lst xs) ∧ xs.length = n ∧ ∀ y ∈ xs, AK H' p y)
    ⟨hs.map V.int, _, _, rfl, hp5, m5 _ _ fh4, m5 _ _ ft4, by rw [List.length_map, lh], fun y hy => by
      obtain ⟨z, _, rfl⟩ := List.mem_map.mp hy
      trivial⟩ ?_ ?_
  · rintro j σ' H6 hj ⟨xs, u6, u7, rfl, hp6, fh6, ft6, lx, ak⟩
    walk_at "vc"
    refine ⟨p, n, rfl, hp6, by omega, by omega, fun at' H7 t0 t1 hp7 m7 => ?_⟩
    walk_at "vc"
    refine ⟨p, 3, rfl, hp7, by decide, by decide, fun d H8 d0 d1 hp8 m8 => ?_⟩
    walk_at "vc"
    have put : ∀ (y : V) H9, Pool H9 p → Mo p H8 H9 → AK H9 p y → Af H9 p t (.lst xs) ∧ (Pool (upd H9 t (.lst (xs.set at'.toNat y))) p ∧ Af (upd H9 t (.lst (xs.set at'.toNat y))) p th (.tup (hs.map V.int)) ∧
        Af (upd H9 t (.lst (xs.set at'.toNat y))) p t (.lst (xs.set at'.toNat y)) ∧ (xs.set at'.toNat y).length = n ∧ ∀ z ∈ xs.set at'.toNat y, AK (upd H9 t (.lst (xs.set at'.toNat y))) p z) := fun y H9 hp9 m9 ay => by
      have m69 := m7.trans (m8.trans m9)
      have ft9 := m69 _ _ ft6
      refine ⟨ft9, hp9.mut ft9, Af.mut hp9 ft9 (m69 _ _ fh6) nht, Af.self hp9 ft9, by rw [List.length_set]; exact lx, fun z hz => ?_⟩
      rcases List.mem_or_eq_of_mem_set hz with hz | e
      · exact AK.mut hp9 ft9 ((ak z hz).mo m69)
      · rw [e]
        exact AK.mut hp9 ft9 ay
    refine v_ite (fun h0 => ?_) (fun h0 => ?_)
    · walk_at "vc"
      refine ⟨p, n, rfl, hp8, fun y H9 hp9 m9 ay => ?_⟩
      obtain ⟨f9, w⟩ := put y H9 hp9 m9 ay
      walk_at "vc"
      refine v_setL f9.1 (ixN_of (j := at'.toNat) (by omega) (by omega)) ?_
      exact ⟨_, _, _, rfl, w⟩
    · walk_at "vc"
      refine ⟨p, n + 1, rfl, hp8, by omega, by omega, fun y H9 y0 y1 hp9 m9 => ?_⟩
      obtain ⟨f9, w⟩ := put (.int y) H9 hp9 m9 trivial
      walk_at "vc"
      refine v_setL f9.1 (ixN_of (j := at'.toNat) (by omega) (by omega)) ?_
      exact ⟨_, _, _, rfl, w⟩
  · rintro σ' H6 ⟨xs, u6, u7, rfl, hp6, fh6, ft6, lx, ak⟩
    walk_at "vc"
    refine v_tupOfL ft6.1 fun u nu => ?_
    have hp7 := hp6.upd (o := .tup xs) nu
    have fh7 := Af.keep (u := .tup xs) hp6 nu fh6
    have fu7 : Af _ p u _ := Af.upd (o := .tup xs) hp6 nu
    have ak7 : ∀ y ∈ xs, AK _ p y := fun y hy => (ak y hy).mo (Mo.upd (o := .tup xs) hp6 nu)
    generalize upd H6 u (.tup xs) = H7 at *
    walk_at "vc"
    refine v_cut (fun σ' H' => ∃ (x : V) (u8 : Option V), σ' = [some (.ref a), some (.ref p), some (.int i), some (.int n), some (.ref th), some x, u6, u7, u8, v9] ∧ Pool H' p ∧ Af H' p th (.tup (hs.map V.int)) ∧ TK H' p x) ?_ ?_
    · walk_at "vc"
      refine ⟨p, 8, rfl, hp7, by decide, by decide, fun d H8 d0 d1 hp8 m8 => ?_⟩
      walk_at "vc"
      have fh8 := m8 _ _ fh7
      refine v_ite (fun h0 => ?_) (fun h0 => ?_)
      · walk_at "vc"
        intro e1 ne1
        have hp20 := hp8.upd (o := .tup []) ne1
        have fe1 : Af _ p e1 _ := Af.upd (o := .tup []) hp8 ne1
        have m20 := Mo.upd (o := .tup []) hp8 ne1
        generalize upd H8 e1 (.tup []) = H20 at *
        walk_at "vc"
        intro e2 ne2
        have hp21 := hp20.upd (o := .lst [.int 0]) ne2
        have fe2 : Af _ p e2 _ := Af.upd (o := .lst [.int 0]) hp20 ne2
        have m21 := Mo.upd (o := .lst [.int 0]) hp20 ne2
        generalize upd H20 e2 (.lst [.int 0]) = H21 at *
        walk_at "vc"
        intro e3 ne3
        have hp22 := hp21.upd (o := .dK []) ne3
        have fe3 : Af _ p e3 _ := Af.upd (o := .dK []) hp21 ne3
        have m22 := Mo.upd (o := .dK []) hp21 ne3
        generalize upd H21 e3 (.dK []) = H22 at *
        walk_at "vc"
        refine ⟨rfl, fun e4 xs4 H23 s23 n4 h4 => ?_⟩
        have hp23 := hp22.same s23
        have f4 : Af H23 p e4 (.lst xs4) := Af.new hp22 n4 s23 h4
        have m23 := Mo.same hp22 s23
        walk_at "vc"
        intro e5 ne5
        have hp24 := hp23.upd (o := .tup [.int 0]) ne5
        have fe5 : Af _ p e5 _ := Af.upd (o := .tup [.int 0]) hp23 ne5
        have m24 := Mo.upd (o := .tup [.int 0]) hp23 ne5
        generalize upd H23 e5 (.tup [.int 0]) = H24 at *
        walk_at "vc"
        refine v_repT fe5.1 (by decide) (by decide) (List.cons_ne_nil _ _) ?_
        intro e6 ne6
        have hp25 := hp24.upd (o := .tup (List.replicate ((40 : Int)).toNat [V.int 0]).flatten) ne6
        have fe6 : Af _ p e6 _ := Af.upd (o := .tup (List.replicate ((40 : Int)).toNat [V.int 0]).flatten) hp24 ne6
        have m25 := Mo.upd (o := .tup (List.replicate ((40 : Int)).toNat [V.int 0]).flatten) hp24 ne6
        generalize upd H24 e6 (.tup (List.replicate ((40 : Int)).toNat [V.int 0]).flatten) = H25 at *
        walk_at "vc"
        intro e7 ne7
        have hp26 := hp25.upd (o := .tup [.int 0]) ne7
        have fe7 : Af _ p e7 _ := Af.upd (o := .tup [.int 0]) hp25 ne7
        have m26 := Mo.upd (o := .tup [.int 0]) hp25 ne7
        generalize upd H25 e7 (.tup [.int 0]) = H26 at *
        walk_at "vc"
        refine v_repT fe7.1 (by decide) (by decide) (List.cons_ne_nil _ _) ?_
        intro e8 ne8
        have hp27 := hp26.upd (o := .tup (List.replicate ((41 : Int)).toNat [V.int 0]).flatten) ne8
        have fe8 : Af _ p e8 _ := Af.upd (o := .tup (List.replicate ((41 : Int)).toNat [V.int 0]).flatten) hp26 ne8
        have m27 := Mo.upd (o := .tup (List.replicate ((41 : Int)).toNat [V.int 0]).flatten) hp26 ne8
        generalize upd H26 e8 (.tup (List.replicate ((41 : Int)).toNat [V.int 0]).flatten) = H27 at *
        walk_at "vc"
        have fh27 : Af H27 p th (.tup (hs.map V.int)) := by walk_at "af"
        refine v_lstOfT fh27.1 ?_
        intro e9 ne9
        have hp28 := hp27.upd (o := .lst (hs.map V.int)) ne9
        have fe9 : Af _ p e9 _ := Af.upd (o := .lst (hs.map V.int)) hp27 ne9
        have m28 := Mo.upd (o := .lst (hs.map V.int)) hp27 ne9
        generalize upd H27 e9 (.lst (hs.map V.int)) = H28 at *
        walk_at "vc"
        intro ea nea
        have hp29 := hp28.upd (o := .tup [.ref th]) nea
        have fea : Af _ p ea _ := Af.upd (o := .tup [.ref th]) hp28 nea
        have m29 := Mo.upd (o := .tup [.ref th]) hp28 nea
        generalize upd H28 ea (.tup [.ref th]) = H29 at *
        walk_at "vc"
        intro eb neb
        have hp30 := hp29.upd (o := .tup [.int 0]) neb
        have feb : Af _ p eb _ := Af.upd (o := .tup [.int 0]) hp29 neb
        have m30 := Mo.upd (o := .tup [.int 0]) hp29 neb
        generalize upd H29 eb (.tup [.int 0]) = H30 at *
        walk_at "vc"
        have fh30 : Af H30 p th (.tup (hs.map V.int)) := by walk_at "af"
        refine v_catA fh30.1 feb.1 (by rw [List.length_map]; show hs.length + 1 ≤ 1000; omega) (fun z => by
          have z' := congrArg List.length z
          rw [List.length_map] at z'
          have z2 : hs.length = 0 := z'
          omega) (List.cons_ne_nil _ _) ?_
        intro ec nec
        have hp31 := hp30.upd (o := .tup (hs.map V.int ++ [.int 0])) nec
        have fec : Af _ p ec _ := Af.upd (o := .tup (hs.map V.int ++ [.int 0])) hp30 nec
        have m31 := Mo.upd (o := .tup (hs.map V.int ++ [.int 0])) hp30 nec
        generalize upd H30 ec (.tup (hs.map V.int ++ [.int 0])) = H31 at *
        walk_at "vc"
        intro l nl
        have hp32 := hp31.upd (o := .lst [.non, .int 0, .str "hung", .ref e1, .ref e2, .ref e3, .ref e4, .ref e6, .ref e8, .ref e9, .ref ea, .ref ec]) nl
        have fl : Af _ p l _ := Af.upd (o := .lst [.non, .int 0, .str "hung", .ref e1, .ref e2, .ref e3, .ref e4, .ref e6, .ref e8, .ref e9, .ref ea, .ref ec]) hp31 nl
        have m32 := Mo.upd (o := .lst [.non, .int 0, .str "hung", .ref e1, .ref e2, .ref e3, .ref e4, .ref e6, .ref e8, .ref e9, .ref ea, .ref ec]) hp31 nl
        generalize upd H31 l (.lst [.non, .int 0, .str "hung", .ref e1, .ref e2, .ref e3, .ref e4, .ref e6, .ref e8, .ref e9, .ref ea, .ref ec]) = H32 at *
        walk_at "vc"
        refine ⟨p, l, _, rfl, hp32, fl, (by show 1 ≤ 12; decide), (by show 12 ≤ 1000; decide), fun x H33 hx hp33 m33 => ?_⟩
        walk_at "vc"
        have k1 : Af H33 p e1 (.tup []) := by walk_at "af"
        have k2 : Af H33 p e2 (.lst [.int 0]) := by walk_at "af"
        have k3 : Af H33 p e3 (.dK []) := by walk_at "af"
        have k4 : Af H33 p e4 (.lst xs4) := by walk_at "af"
        have k6 : Af H33 p e6 (.tup (List.replicate ((40 : Int)).toNat [V.int 0]).flatten) := by walk_at "af"
        have k8 : Af H33 p e8 (.tup (List.replicate ((41 : Int)).toNat [V.int 0]).flatten) := by walk_at "af"
        have k9 : Af H33 p e9 (.lst (hs.map V.int)) := by walk_at "af"
        have ka : Af H33 p ea (.tup [.ref th]) := by walk_at "af"
        have kc : Af H33 p ec (.tup (hs.map V.int ++ [.int 0])) := by walk_at "af"
        have kh : Af H33 p th (.tup (hs.map V.int)) := by walk_at "af"
        have zs : ∀ (m : Nat) (y : V), y ∈ (List.replicate m [V.int 0]).flatten → AK H33 p y := fun m y hy => by
          rw [flat_one] at hy
          rw [List.eq_of_mem_replicate hy]
          trivial
        refine ⟨x, _, rfl, hp33, kh, ?_⟩
        simp only [List.mem_cons, List.not_mem_nil, or_false] at hx
        rcases hx with rfl | rfl | rfl | rfl | rfl | rfl | rfl | rfl | rfl | rfl | rfl | rfl
        · exact .inl ⟨⟨_, .non, by decide⟩, trivial⟩
        · exact .inl ⟨⟨_, .int 0, by decide⟩, trivial⟩
        · exact .inl ⟨⟨_, .str _, by decide⟩, trivial⟩
        · exact .inr ⟨_, _, rfl, k1, fun y hy => absurd hy List.not_mem_nil⟩
        · exact .inl ⟨⟨_, .lst k2.1, by decide⟩, .inl ⟨_, k2⟩⟩
        · exact .inl ⟨⟨_, .dK k3.1, by decide⟩, .inr (.inr ⟨_, k3⟩)⟩
        · exact .inl ⟨⟨_, .lst k4.1, by decide⟩, .inl ⟨_, k4⟩⟩
        · exact .inr ⟨_, _, rfl, k6, zs _⟩
        · exact .inr ⟨_, _, rfl, k8, zs _⟩
        · exact .inl ⟨⟨_, .lst k9.1, by decide⟩, .inl ⟨_, k9⟩⟩
        · refine .inr ⟨_, _, rfl, ka, fun y hy => ?_⟩
          rw [List.mem_singleton.mp hy]
          exact .inr (.inl ⟨_, kh⟩)
        · refine .inr ⟨_, _, rfl, kc, fun y hy => ?_⟩
          rcases List.mem_append.mp hy with hy | hy
          · obtain ⟨z, _, rfl⟩ := List.mem_map.mp hy
            trivial
          · rw [List.mem_singleton.mp hy]
            trivial
      · walk_at "vc"
        exact ⟨_, _, rfl, hp8, fh8, .inr ⟨u, xs, rfl, m8 _ _ fu7, fun y hy => (ak7 y hy).mo m8⟩⟩
    · rintro σ' H8 ⟨x, u8, rfl, hp8, fh8, tk⟩
      obtain ⟨r, th8⟩ := tk.thing
      walk_at "vc"
      refine ⟨x, r, rfl, th8, fun w1 H9 s9 e1 => ?_⟩
      walk_at "vc"
      intro l1 nl1
      walk_at "vc"
      have s10 := s9.trans (same_upd (o := .lst [w1]) nl1)
      have el1 := e1.same (same_upd (o := .lst [w1]) nl1)
      have hl1 : (upd H9 l1 (.lst [w1])) l1 = some (.lst [w1]) := upd_same
      generalize upd H9 l1 (.lst [w1]) = H10 at *
      refine ⟨x, r, rfl, th8.same s10, fun w2 H11 s11 e2 => ?_⟩
      walk_at "vc"
      intro l2 nl2
      walk_at "vc"
      have s12 := s11.trans (same_upd (o := .lst [w2]) nl2)
      have el2 := e2.same (same_upd (o := .lst [w2]) nl2)
      have el1' := el1.same s12
      have hl1' := s12 _ _ hl1
      have hl2 : (upd H11 l2 (.lst [w2])) l2 = some (.lst [w2]) := upd_same
      generalize upd H11 l2 (.lst [w2]) = H12 at *
      refine ⟨.ref l1, .ref l2, rfl, .inr ⟨l1, l2, _, _, rfl, rfl, .inr ⟨hl1', hl2⟩, by show 1 ≤ 1000; decide, rfl, fun k y z hy hz => ?_⟩, fun H13 s13 => ?_⟩
      · match k, hy, hz with
        | 0, hy, hz =>
          cases hy
          cases hz
          exact enc_alike el1' el2
      · walk_at "vc"
        have s813 := s10.trans (s12.trans s13)
        have hp13 := hp8.same s813
        have fh13 := Mo.same hp8 s813 _ _ fh8
        refine ⟨p, n, rfl, hp13, n1, n40, fun ot os H14 hp14 m14 fo lo tro => ?_⟩
        have fh14 := m14 _ _ fh13
        walk_at "vc"
        refine mk_tree tr fh14.1 fun x1 H15 s15 t1 => ?_
        walk_at "vc"
        refine mk_tree tro (s15 _ _ fo.1) fun x2 H16 s16 t2 => ?_
        refine v_eqTT o (t1.same s16) t2 ?_
        walk_at "vc"
        refine v_eqTI ((s15.trans s16) _ _ fh14.1) ((s15.trans s16) _ _ fo.1) ?_
        walk_at "vc"
        refine v_iteN (fun z => absurd rfl z) (fun _ => ?_)
        walk_at "vc"
        refine mk_tree tr ((s15.trans s16) _ _ fh14.1) fun x3 H17 s17 t3 => ?_
        have s1417 := s15.trans (s16.trans s17)
        walk_at "vc"
        refine v_eqTK o t3 (.tup (s1417 _ _ fh14.1)) ?_
        walk_at "vc"
        refine mk_tree tr (s1417 _ _ fh14.1) fun x4 H18 s18 t4 => ?_
        walk_at "vc"
        refine mk_tree tr (s18 _ _ (s1417 _ _ fh14.1)) fun x5 H19 s19 t5 => ?_
        refine v_eqTT o (t4.same s19) t5 ?_
        walk_at "vc"
        rw [decide_eq_true rfl]
        walk_at "vc"
        exact ⟨hp14.same (s1417.trans (s18.trans s19)), _, _, _, _, _, _, _, _, rfl⟩
end

def topS (i : Nat) : Stmt := PySem.Challenge.pw_foldervotes_k01_trees_judged.main.body.getD i (.Pass ⟨0, 0, 0, 0⟩)
abbrev s_BadTree_init : Stmt := (inClass (topS 2) 0)
abbrev N_BadTree_init : List Str := ["self", "part"]
theorem sc_BadTree_init : FnScope N_BadTree_init ["self", "part"] (defScope s_BadTree_init) := ⟨rfl, rfl, rfl, by decide +kernel, rfl, by decide +kernel, by decide +kernel⟩
abbrev s_is_integer : Stmt := (topS 5)
abbrev N_is_integer : List Str := ["thing"]
theorem sc_is_integer : FnScope N_is_integer ["thing"] (defScope s_is_integer) := ⟨rfl, rfl, rfl, by decide +kernel, rfl, by decide +kernel, by decide +kernel⟩
abbrev s_is_within : Stmt := (topS 6)
abbrev N_is_within : List Str := ["thing", "least", "most"]
theorem sc_is_within : FnScope N_is_within ["thing", "least", "most"] (defScope s_is_within) := ⟨rfl, rfl, rfl, by decide +kernel, rfl, by decide +kernel, by decide +kernel⟩
abbrev s_leads_home : Stmt := (topS 9)
abbrev N_leads_home : List Str := ["hung", "block", "here", "turn"]
theorem sc_leads_home : FnScope N_leads_home ["hung", "block"] (defScope s_leads_home) := ⟨rfl, rfl, rfl, by decide +kernel, rfl, by decide +kernel, by decide +kernel⟩
abbrev s_Tree_init : Stmt := (inClass (topS 10) 0)
abbrev N_Tree_init : List Str := ["self", "hung", "block"]
theorem sc_Tree_init : FnScope N_Tree_init ["self", "hung"] (defScope s_Tree_init) := ⟨rfl, rfl, rfl, by decide +kernel, rfl, by decide +kernel, by decide +kernel⟩
abbrev s_Tree_eq : Stmt := (inClass (topS 10) 1)
abbrev N_Tree_eq : List Str := ["self", "other"]
theorem sc_Tree_eq : FnScope N_Tree_eq ["self", "other"] (defScope s_Tree_eq) := ⟨rfl, rfl, rfl, by decide +kernel, rfl, by decide +kernel, by decide +kernel⟩
abbrev s_l_pool : Stmt := (topS 12)
abbrev N_l_pool : List Str := ["_law_script", "_law_great", "_law_small", "_law_cell"]
theorem sc_l_pool : FnScope N_l_pool ["_law_script"] (defScope s_l_pool) := ⟨rfl, rfl, rfl, by decide +kernel, rfl, by decide +kernel, by decide +kernel⟩
abbrev s_l_draw : Stmt := (topS 13)
abbrev N_l_draw : List Str := ["_law_pool_here", "_law_many_here", "_law_digit", "_law_cell", "_law_number"]
theorem sc_l_draw : FnScope N_l_draw ["_law_pool_here", "_law_many_here"] (defScope s_l_draw) := ⟨rfl, rfl, rfl, by decide +kernel, rfl, by decide +kernel, by decide +kernel⟩
abbrev s_l_pick : Stmt := (topS 14)
abbrev N_l_pick : List Str := ["_law_pool_here", "_law_things"]
theorem sc_l_pick : FnScope N_l_pick ["_law_pool_here", "_law_things"] (defScope s_l_pick) := ⟨rfl, rfl, rfl, by decide +kernel, rfl, by decide +kernel, by decide +kernel⟩
abbrev s_l_is : Stmt := (topS 15)
abbrev N_l_is : List Str := ["_law_told", "_law_due", "_law_at", "_law_key"]
theorem sc_l_is : FnScope N_l_is ["_law_told", "_law_due"] (defScope s_l_is) := ⟨rfl, rfl, rfl, by decide +kernel, rfl, by decide +kernel, by decide +kernel⟩
abbrev s_l_deep : Stmt := (topS 16)
abbrev N_l_deep : List Str := ["_law_thing", "_law_turn"]
theorem sc_l_deep : FnScope N_l_deep [] (defScope s_l_deep) := ⟨rfl, rfl, rfl, by decide +kernel, rfl, by decide +kernel, by decide +kernel⟩
abbrev s_l_is_number : Stmt := (topS 17)
abbrev N_l_is_number : List Str := ["_law_thing", "_law_least", "_law_most"]
theorem sc_l_is_number : FnScope N_l_is_number ["_law_thing", "_law_least", "_law_most"] (defScope s_l_is_number) := ⟨rfl, rfl, rfl, by decide +kernel, rfl, by decide +kernel, by decide +kernel⟩
abbrev s_l_mixed : Stmt := (topS 18)
abbrev N_l_mixed : List Str := ["_law_pool_here", "_law_many_here", "_law_left", "_law_turn"]
theorem sc_l_mixed : FnScope N_l_mixed ["_law_pool_here", "_law_many_here"] (defScope s_l_mixed) := ⟨rfl, rfl, rfl, by decide +kernel, rfl, by decide +kernel, by decide +kernel⟩
abbrev s_l_hung : Stmt := (topS 19)
abbrev N_l_hung : List Str := ["_law_pool_here", "_law_many_here", "_law_kind", "_law_order", "_law_found", "_law_at", "_law_above"]
theorem sc_l_hung : FnScope N_l_hung ["_law_pool_here", "_law_many_here"] (defScope s_l_hung) := ⟨rfl, rfl, rfl, by decide +kernel, rfl, by decide +kernel, by decide +kernel⟩
abbrev s_l_many : Stmt := (topS 20)
abbrev N_l_many : List Str := ["_law_pool_here"]
theorem sc_l_many : FnScope N_l_many ["_law_pool_here"] (defScope s_l_many) := ⟨rfl, rfl, rfl, by decide +kernel, rfl, by decide +kernel, by decide +kernel⟩
abbrev s_l_odd : Stmt := (topS 21)
abbrev N_l_odd : List Str := ["_law_pool_here", "_law_most"]
theorem sc_l_odd : FnScope N_l_odd ["_law_pool_here", "_law_most"] (defScope s_l_odd) := ⟨rfl, rfl, rfl, by decide +kernel, rfl, by decide +kernel, by decide +kernel⟩
abbrev s_l_tree_due : Stmt := (topS 22)
abbrev N_l_tree_due : List Str := ["_law_thing", "_law_block", "_law_here", "_law_turn"]
theorem sc_l_tree_due : FnScope N_l_tree_due ["_law_thing"] (defScope s_l_tree_due) := ⟨rfl, rfl, rfl, by decide +kernel, rfl, by decide +kernel, by decide +kernel⟩
abbrev s_l_tree_word : Stmt := (topS 23)
abbrev N_l_tree_word : List Str := ["_law_thing", "_law_told", "_law_made", "e"]
theorem sc_l_tree_word : FnScope N_l_tree_word ["_law_thing"] (defScope s_l_tree_word) := ⟨rfl, rfl, rfl, by decide +kernel, rfl, by decide +kernel, by decide +kernel⟩
abbrev s_law : Stmt := (topS 24)
abbrev N_law : List Str := ["_law_script", "_law_pool_here", "_law_turn", "_law_many_here", "_law_hung_here", "_law_thing", "_law_change", "_law_at", "_law_odd_here", "_law_other"]
theorem sc_law : FnScope N_law ["_law_script"] (defScope s_law) := ⟨rfl, rfl, rfl, by decide +kernel, rfl, by decide +kernel, by decide +kernel⟩
structure Txt (K : PySem.W.Frag) (mg : Str → Option Value) where
  z_abs : mg "abs" = none
  z_all : mg "all" = none
  z_bool : mg "bool" = none
  z_dict : mg "dict" = none
  z_int : mg "int" = none
  z_isinstance : mg "isinstance" = none
  z_len : mg "len" = none
  z_list : mg "list" = none
  z_range : mg "range" = none
  z_tuple : mg "tuple" = none
  k_HEAD : Tok
  c_HEAD : mg "HEAD" = some (.int 0 k_HEAD)
  k_MOST_BLOCKS : Tok
  c_MOST_BLOCKS : mg "MOST_BLOCKS" = some (.int 40 k_MOST_BLOCKS)
  C_Tree : Addr
  g_Tree : mg "Tree" = some (.ref C_Tree)
  C_BadTree : Addr
  g_BadTree : mg "BadTree" = some (.ref C_BadTree)
  C_VoteError : Addr
  g_VoteError : mg "VoteError" = some (.ref C_VoteError)
  f_BadTree_init : Addr
  fd_BadTree_init : FuncData
  F_BadTree_init : Fun K "__init__" "BadTree.__init__" s_BadTree_init f_BadTree_init fd_BadTree_init
  b_BadTree_init : Binds K fd_BadTree_init ["self", "part"] []
  f_is_integer : Addr
  fd_is_integer : FuncData
  F_is_integer : Fun K "is_integer" "is_integer" s_is_integer f_is_integer fd_is_integer
  b_is_integer : Binds K fd_is_integer ["thing"] []
  g_is_integer : mg "is_integer" = some (.ref f_is_integer)
  f_is_within : Addr
  fd_is_within : FuncData
  F_is_within : Fun K "is_within" "is_within" s_is_within f_is_within fd_is_within
  b_is_within : Binds K fd_is_within ["thing", "least", "most"] []
  g_is_within : mg "is_within" = some (.ref f_is_within)
  f_leads_home : Addr
  fd_leads_home : FuncData
  F_leads_home : Fun K "leads_home" "leads_home" s_leads_home f_leads_home fd_leads_home
  b_leads_home : Binds K fd_leads_home ["hung", "block"] []
  g_leads_home : mg "leads_home" = some (.ref f_leads_home)
  f_Tree_init : Addr
  fd_Tree_init : FuncData
  F_Tree_init : Fun K "__init__" "Tree.__init__" s_Tree_init f_Tree_init fd_Tree_init
  b_Tree_init : Binds K fd_Tree_init ["self", "hung"] []
  f_Tree_eq : Addr
  fd_Tree_eq : FuncData
  F_Tree_eq : Fun K "__eq__" "Tree.__eq__" s_Tree_eq f_Tree_eq fd_Tree_eq
  b_Tree_eq : Binds K fd_Tree_eq ["self", "other"] []
  f_l_pool : Addr
  fd_l_pool : FuncData
  F_l_pool : Fun K "_law_pool" "_law_pool" s_l_pool f_l_pool fd_l_pool
  b_l_pool : Binds K fd_l_pool ["_law_script"] []
  g_l_pool : mg "_law_pool" = some (.ref f_l_pool)
  f_l_draw : Addr
  fd_l_draw : FuncData
  F_l_draw : Fun K "_law_draw" "_law_draw" s_l_draw f_l_draw fd_l_draw
  b_l_draw : Binds K fd_l_draw ["_law_pool_here", "_law_many_here"] []
  g_l_draw : mg "_law_draw" = some (.ref f_l_draw)
  f_l_pick : Addr
  fd_l_pick : FuncData
  F_l_pick : Fun K "_law_pick" "_law_pick" s_l_pick f_l_pick fd_l_pick
  b_l_pick : Binds K fd_l_pick ["_law_pool_here", "_law_things"] []
  g_l_pick : mg "_law_pick" = some (.ref f_l_pick)
  f_l_is : Addr
  fd_l_is : FuncData
  F_l_is : Fun K "_law_is" "_law_is" s_l_is f_l_is fd_l_is
  b_l_is : Binds K fd_l_is ["_law_told", "_law_due"] []
  g_l_is : mg "_law_is" = some (.ref f_l_is)
  f_l_deep : Addr
  fd_l_deep : FuncData
  F_l_deep : Fun K "_law_deep" "_law_deep" s_l_deep f_l_deep fd_l_deep
  b_l_deep : Binds K fd_l_deep [] []
  g_l_deep : mg "_law_deep" = some (.ref f_l_deep)
  f_l_is_number : Addr
  fd_l_is_number : FuncData
  F_l_is_number : Fun K "_law_is_number" "_law_is_number" s_l_is_number f_l_is_number fd_l_is_number
  b_l_is_number : Binds K fd_l_is_number ["_law_thing", "_law_least", "_law_most"] []
  g_l_is_number : mg "_law_is_number" = some (.ref f_l_is_number)
  f_l_mixed : Addr
  fd_l_mixed : FuncData
  F_l_mixed : Fun K "_law_mixed" "_law_mixed" s_l_mixed f_l_mixed fd_l_mixed
  b_l_mixed : Binds K fd_l_mixed ["_law_pool_here", "_law_many_here"] []
  g_l_mixed : mg "_law_mixed" = some (.ref f_l_mixed)
  f_l_hung : Addr
  fd_l_hung : FuncData
  F_l_hung : Fun K "_law_hung" "_law_hung" s_l_hung f_l_hung fd_l_hung
  b_l_hung : Binds K fd_l_hung ["_law_pool_here", "_law_many_here"] []
  g_l_hung : mg "_law_hung" = some (.ref f_l_hung)
  f_l_many : Addr
  fd_l_many : FuncData
  F_l_many : Fun K "_law_many" "_law_many" s_l_many f_l_many fd_l_many
  b_l_many : Binds K fd_l_many ["_law_pool_here"] []
  g_l_many : mg "_law_many" = some (.ref f_l_many)
  f_l_odd : Addr
  fd_l_odd : FuncData
  F_l_odd : Fun K "_law_odd" "_law_odd" s_l_odd f_l_odd fd_l_odd
  b_l_odd : Binds K fd_l_odd ["_law_pool_here", "_law_most"] []
  g_l_odd : mg "_law_odd" = some (.ref f_l_odd)
  f_l_tree_due : Addr
  fd_l_tree_due : FuncData
  F_l_tree_due : Fun K "_law_tree_due" "_law_tree_due" s_l_tree_due f_l_tree_due fd_l_tree_due
  b_l_tree_due : Binds K fd_l_tree_due ["_law_thing"] []
  g_l_tree_due : mg "_law_tree_due" = some (.ref f_l_tree_due)
  f_l_tree_word : Addr
  fd_l_tree_word : FuncData
  F_l_tree_word : Fun K "_law_tree_word" "_law_tree_word" s_l_tree_word f_l_tree_word fd_l_tree_word
  b_l_tree_word : Binds K fd_l_tree_word ["_law_thing"] []
  g_l_tree_word : mg "_law_tree_word" = some (.ref f_l_tree_word)
  f_law : Addr
  fd_law : FuncData
  F_law : Fun K "law" "law" s_law f_law fd_law
  b_law : Binds K fd_law ["_law_script"] []
  g_law : mg "law" = some (.ref f_law)
  M_Tree : Mk K C_Tree f_Tree_init
  o_Tree : OwnC K C_Tree
  nf_Tree_hung : NoAttr K C_Tree "hung"
  e_Tree : PySem.W.findIn K (.ref C_Tree) "__eq__" = some (some (.ref f_Tree_eq))
  ef_Tree : PySem.W.isFn K (.ref f_Tree_eq) = true
  xc_BadTree : XCls K C_BadTree
  te_BadTree : PySem.W.exmOne K (.ref C_BadTree) (.ref C_BadTree) = some true
  X_BadTree : OexC K C_BadTree
  i_BadTree : PySem.W.findIn K (.ref C_BadTree) "__init__" = some (some (.ref f_BadTree_init))
  ti_BadTree : PySem.W.typeIn K (.ref f_BadTree_init) = some (.type "function")
  nf_BadTree_part : PySem.W.findIn K (.ref C_BadTree) "part" = some none
  xc_VoteError : XCls K C_VoteError
  te_VoteError : PySem.W.exmOne K (.ref C_VoteError) (.ref C_VoteError) = some true
  X_VoteError : OexC K C_VoteError
  kv_BadTree_VoteError : PySem.W.kitOne K (.ref C_BadTree) (.ref C_VoteError) = some true
section
variable {P : Program} {w : World} {K : PySem.W.Frag} {mg : Str → Option Value} {base : Heap}
theorem ok_BadTree_init (T : Txt K mg)   : FnOk P w K mg base CX0 1 T.f_BadTree_init T.fd_BadTree_init ["self", "part"] (spX1 T.C_BadTree "part") := by
  refine T.F_BadTree_init.ok sc_BadTree_init (fun vs H Q E h => len_x1 h) (fun cdv A outer s H vs Q E hr h => ?_)
  have nd := sc_BadTree_init.nd
  exact ⟨t_BadTree_init K, (pss_one (ps_ost (pv 0) (pv 1))), pure_x1 T.X_BadTree T.nf_BadTree_part  h rfl⟩
theorem ok_is_integer (T : Txt K mg)   : FnOk P w K mg base CX0 1 T.f_is_integer T.fd_is_integer ["thing"] spInteger := by
  refine T.F_is_integer.ok sc_is_integer (fun vs H Q E h => len_is_integer h) (fun cdv A outer s H vs Q E hr h => ?_)
  have nd := sc_is_integer.nd
  exact ⟨t_is_integer K, (pss_one (ps_ret (pe_and (pe_callB call_isi (by rfl) T.z_isinstance (by decide +kernel) (pa_cons (pv 0) (pa_cons (pe_bltn (v := .ty "int") (by rfl) T.z_int (by decide +kernel) rfl) pa_nil))) (pe_one (pe_not (pe_callB call_isi (by rfl) T.z_isinstance (by decide +kernel) (pa_cons (pv 0) (pa_cons (pe_bltn (v := .ty "bool") (by rfl) T.z_bool (by decide +kernel) rfl) pa_nil)))))))), pure_is_integer  h⟩
theorem ok_is_within (T : Txt K mg)  (G_is_integer : FnOk P w K mg base CX0 1 T.f_is_integer T.fd_is_integer ["thing"] spInteger) : FnOk P w K mg base CX0 2 T.f_is_within T.fd_is_within ["thing", "least", "most"] spWithin := by
  refine T.F_is_within.ok sc_is_within (fun vs H Q E h => len_is_within h) (fun cdv A outer s H vs Q E hr h => ?_)
  have nd := sc_is_within.nd
  exact ⟨t_is_within K, (pss_one (ps_ret (pe_and (pe_call G_is_integer (hr.mono (by decide)) (by rfl) T.g_is_integer T.F_is_integer.kp T.b_is_integer .nil pass0 (pa_cons (pv 0) pa_nil)) (pe_one (pe_chain op_le op_le (pv 1) (pv 0) (pv 2)))))), pure_is_within  h⟩
theorem ok_leads_home (T : Txt K mg)   : FnOk P w K mg base CX0 1 T.f_leads_home T.fd_leads_home ["hung", "block"] spLeads := by
  refine T.F_leads_home.ok sc_leads_home (fun vs H Q E h => len_leads_home h) (fun cdv A outer s H vs Q E hr h => ?_)
  have nd := sc_leads_home.nd
  exact ⟨t_leads_home K, (pss_cons (ps_set (i := 2) nd rfl (Or.inl rfl) (pv 1)) (pss_cons (ps_for PassesOwn.never rfl (pi_range1 (by rfl) T.z_range (pa_cons (pe_op op_add (pe_callB call_len_seq (by rfl) T.z_len PySem.boot_len (pa_cons (pv 0) pa_nil)) pe_int) pa_nil)) (pg_name (i := 3) nd rfl (Or.inl rfl)) (pss_cons (ps_if (pt_cmpR op_eq (pv 2) (pe_glob (by rfl) T.c_HEAD ⟨_, rfl⟩) (nomark _)) (pss_one (ps_ret pe_bl)) pss_nil) (pss_one (ps_set (i := 2) nd rfl (Or.inl rfl) (pe_ix ix_tup (pv 0) (pe_op op_sub (pv 2) pe_int) (fun _ _ => rfl)))))) (pss_one (ps_ret pe_bl)))), pure_leads_home  h⟩
theorem ok_Tree_init (T : Txt K mg)  (G_BadTree_init : FnOk P w K mg base CX0 1 T.f_BadTree_init T.fd_BadTree_init ["self", "part"] (spX1 T.C_BadTree "part")) (G_is_within : FnOk P w K mg base CX0 2 T.f_is_within T.fd_is_within ["thing", "least", "most"] spWithin) (G_leads_home : FnOk P w K mg base CX0 1 T.f_leads_home T.fd_leads_home ["hung", "block"] spLeads) : FnOk P w K mg base (L2.CX P w) 3 T.f_Tree_init T.fd_Tree_init ["self", "hung"] (spTree T.C_BadTree T.C_Tree) := by
  refine T.F_Tree_init.okX sc_Tree_init (fun vs H Q E h => len_Tree_init h) (fun cdv A outer s H vs Q E hr h => ?_)
  have nd := sc_Tree_init.nd
  exact ⟨t_Tree_init K T.C_BadTree E, (pss_cons (ps_if (PW.pt (pw_or (pt_not (pt_val (pe_callB call_isi (by rfl) T.z_isinstance (by decide +kernel) (pa_cons (pv 1) (pa_cons (pe_bltn (v := .ty "tuple") (by rfl) T.z_tuple (by decide +kernel) rfl) pa_nil))))) (pw_or1 (pt_not (pt_chain op_le op_le pe_int (pe_callB call_len_seq (by rfl) T.z_len PySem.boot_len (pa_cons (pv 1) pa_nil)) (pe_glob (by rfl) T.c_MOST_BLOCKS ⟨_, rfl⟩)))))) (pss_one (ps_raise rfl (takes_of rfl rfl rfl rfl) (pmk_oex T.X_BadTree T.i_BadTree T.ti_BadTree G_BadTree_init (hr.mono (by decide)) T.b_BadTree_init .nil pass0 (by rfl) T.g_BadTree (pa_cons pe_str pa_nil)))) pss_nil) (pss_cons (ps_for (passes_of rfl) rfl (pi_range2 (by rfl) T.z_range (pa_cons pe_int (pa_cons (pe_op op_add (pe_callB call_len_seq (by rfl) T.z_len PySem.boot_len (pa_cons (pv 1) pa_nil)) pe_int) pa_nil))) (pg_name (i := 2) nd rfl (Or.inl rfl)) (pss_one (ps_if (PW.pt (pw_or (pt_not (pt_val (pe_call G_is_within (hr.mono (by decide)) (by rfl) T.g_is_within T.F_is_within.kp T.b_is_within .nil pass0 (pa_cons (pe_ix ix_tup (pv 1) (pe_op op_sub (pv 2) pe_int) (fun _ _ => rfl)) (pa_cons pe_int (pa_cons (pe_callB call_len_seq (by rfl) T.z_len PySem.boot_len (pa_cons (pv 1) pa_nil)) pa_nil)))))) (pw_or1 (pt_cmpR op_eq (pe_ix ix_tup (pv 1) (pe_op op_sub (pv 2) pe_int) (fun _ _ => rfl)) (pv 2) (nomark _))))) (pss_one (ps_raise rfl (takes_of rfl rfl rfl rfl) (pmk_oex T.X_BadTree T.i_BadTree T.ti_BadTree G_BadTree_init (hr.mono (by decide)) T.b_BadTree_init .nil pass0 (by rfl) T.g_BadTree (pa_cons (pv 2) pa_nil)))) pss_nil))) (pss_cons (ps_for (passes_of rfl) rfl (pi_range2 (by rfl) T.z_range (pa_cons pe_int (pa_cons (pe_op op_add (pe_callB call_len_seq (by rfl) T.z_len PySem.boot_len (pa_cons (pv 1) pa_nil)) pe_int) pa_nil))) (pg_name (i := 2) nd rfl (Or.inl rfl)) (pss_one (ps_if (pt_not (pt_val (pe_call G_leads_home (hr.mono (by decide)) (by rfl) T.g_leads_home T.F_leads_home.kp T.b_leads_home .nil pass0 (pa_cons (pv 1) (pa_cons (pv 2) pa_nil))))) (pss_one (ps_raise rfl (takes_of rfl rfl rfl rfl) (pmk_oex T.X_BadTree T.i_BadTree T.ti_BadTree G_BadTree_init (hr.mono (by decide)) T.b_BadTree_init .nil pass0 (by rfl) T.g_BadTree (pa_cons (pe_tup (pa_cons pe_str (pa_cons (pv 2) pa_nil))) pa_nil)))) pss_nil))) (pss_one (ps_fld (pv 0) (pv 1) rfl))))), pure_Tree_init T.o_Tree T.nf_Tree_hung h⟩
theorem ok_Tree_eq (T : Txt K mg)   : FnOk P w K mg base CX0 1 T.f_Tree_eq T.fd_Tree_eq ["self", "other"] (spTreeEq T.C_Tree) := by
  refine T.F_Tree_eq.ok sc_Tree_eq (fun vs H Q E h => len_Tree_eq h) (fun cdv A outer s H vs Q E hr h => ?_)
  have nd := sc_Tree_eq.nd
  exact ⟨t_Tree_eq K T.C_Tree, (pss_one (ps_ret (pe_and (pe_callB call_isi (by rfl) T.z_isinstance (by decide +kernel) (pa_cons (pv 1) (pa_cons (pe_glob (v := .ref T.C_Tree) (by rfl) T.g_Tree rfl) pa_nil))) (pe_one (pe_cmpR (op_eqD hr.units) (pe_fld (pv 0) rfl) (pe_fld (pv 1) rfl) (nomark _)))))), pure_Tree_eq T.o_Tree T.nf_Tree_hung h⟩
theorem ok_l_pool (T : Txt K mg)   : FnOk P w K mg base CX0 1 T.f_l_pool T.fd_l_pool ["_law_script"] (spPool K) := by
  refine T.F_l_pool.ok sc_l_pool (fun vs H Q E h => len_l_pool h) (fun cdv A outer s H vs Q E hr h => ?_)
  have nd := sc_l_pool.nd
  exact ⟨t_l_pool K, (pss_cons (ps_setLc (i := 1) (own := [("_law_cell", 3)]) (by rfl) nd rfl rfl (sw_true rfl rfl rfl (by decide +kernel)) (pi_list (pe_slice sl_list (pv 0) po_none (po_some pe_int))) (blkOk_by (N := N_l_pool) (sc := defScope s_l_pool) (by decide +kernel)) (fun _ _ _ _ _ => (pg_name (i := 3) nd rfl (Or.inl rfl))) (fun _ _ _ _ _ => (pts_one (pt_cmpR op_ge (pe_callB call_abs (by rfl) T.z_abs (by decide +kernel) (pa_cons (pv 3) pa_nil)) (pe_op op_pow pe_int pe_int) (nomark _)))) (fun _ _ _ _ _ => (pe_callB call_abs (by rfl) T.z_abs (by decide +kernel) (pa_cons (pv 3) pa_nil)))) (pss_cons (ps_setLc (i := 2) (own := [("_law_cell", 3)]) (by rfl) nd rfl rfl (sw_true rfl rfl rfl (by decide +kernel)) (pi_list (pe_slice sl_list (pv 0) po_none (po_some pe_int))) (blkOk_by (N := N_l_pool) (sc := defScope s_l_pool) (by decide +kernel)) (fun _ _ _ _ _ => (pg_name (i := 3) nd rfl (Or.inl rfl))) (fun _ _ _ _ _ => (pts_one (pt_cmpR op_lt (pe_callB call_abs (by rfl) T.z_abs (by decide +kernel) (pa_cons (pv 3) pa_nil)) (pe_op op_pow pe_int pe_int) (nomark _)))) (fun _ _ _ _ _ => (pe_op op_mod (pe_callTy call_int1 (by rfl) T.z_int (by decide +kernel) (pa_cons (pv 3) pa_nil)) pe_int))) (pss_one (ps_ret (pe_lst (pa_cons (pv 1) (pa_cons (pv 2) (pa_cons pe_int (pa_cons pe_int pa_nil))))))))), pure_l_pool  h⟩
theorem ok_l_draw (T : Txt K mg)   : FnOk P w K mg base CX0 1 T.f_l_draw T.fd_l_draw ["_law_pool_here", "_law_many_here"] spDraw := by
  refine T.F_l_draw.ok sc_l_draw (fun vs H Q E h => len_l_draw h) (fun cdv A outer s H vs Q E hr h => ?_)
  have nd := sc_l_draw.nd
  exact ⟨t_l_draw K, (C8.pss_cut (ps_if (PW.pt (pw_and (pt_cmpR op_le (pe_ix ix_list (pv 0) pe_int (fun _ _ => rfl)) pe_int (nomark _)) (pw_and1 (pt_cmpR op_gt (pe_callB call_len_seq (by rfl) T.z_len PySem.boot_len (pa_cons (pe_ix ix_list (pv 0) pe_int (fun _ _ => rfl)) pa_nil)) pe_int (nomark _))))) (pss_cons (ps_asg (pe_ix ix_list (pe_ix ix_list (pv 0) pe_int (fun _ _ => rfl)) pe_int (fun _ _ => rfl)) (pg_sub (pv 0) pe_int set_list)) (pss_one (ps_asg (pe_slice sl_list (pe_ix ix_list (pv 0) pe_int (fun _ _ => rfl)) (po_some pe_int) po_none) (pg_sub (pv 0) pe_int set_list)))) pss_nil) (pss_cons (ps_if (pt_cmpR op_gt (pe_ix ix_list (pv 0) pe_int (fun _ _ => rfl)) pe_int (nomark _)) (pss_cons (ps_set (i := 2) nd rfl (Or.inl rfl) (pe_op op_mod (pe_callTy call_int1 (by rfl) T.z_int (by decide +kernel) (pa_cons (pe_ix ix_list (pv 0) pe_int (fun _ _ => rfl)) pa_nil)) (pv 1))) (pss_cons (ps_asg (pe_op op_fdivN (pe_ix ix_list (pv 0) pe_int (fun _ _ => rfl)) (pv 1)) (pg_sub (pv 0) pe_int set_list)) (pss_one (ps_ret (pv 2))))) pss_nil) (pss_cons (ps_asg (pe_op op_add (pe_ix ix_list (pv 0) pe_int (fun _ _ => rfl)) pe_int) (pg_sub (pv 0) pe_int set_list)) (pss_cons (ps_set (i := 3) nd rfl (Or.inl rfl) pe_int) (C8.pss_cut (ps_if (pt_cmpR op_gt (pe_callB call_len_seq (by rfl) T.z_len PySem.boot_len (pa_cons (pe_ix ix_list (pv 0) pe_int (fun _ _ => rfl)) pa_nil)) pe_int (nomark _)) (pss_one (ps_set (i := 3) nd rfl (Or.inl rfl) (pe_ix ix_list (pe_ix ix_list (pv 0) pe_int (fun _ _ => rfl)) (pe_op op_mod (pe_callTy call_int1 (by rfl) T.z_int (by decide +kernel) (pa_cons (pe_ix ix_list (pv 0) pe_int (fun _ _ => rfl)) pa_nil)) (pe_callB call_len_seq (by rfl) T.z_len PySem.boot_len (pa_cons (pe_ix ix_list (pv 0) pe_int (fun _ _ => rfl)) pa_nil))) (fun _ _ => rfl)))) pss_nil) (pss_cons (ps_set (i := 4) nd rfl (Or.inl rfl) (pe_op op_mod (pe_callTy call_int1 (by rfl) T.z_int (by decide +kernel) (pa_cons (pe_op op_mul (pe_op op_add (pe_op op_add (pv 3) (pe_op op_mul pe_int (pe_ix ix_list (pv 0) pe_int (fun _ _ => rfl)))) pe_int) pe_int) pa_nil)) pe_int)) (pss_cons (ps_set (i := 4) nd rfl (Or.inl rfl) (pe_op op_mod (pe_callTy call_int1 (by rfl) T.z_int (by decide +kernel) (pa_cons (pe_op op_mul (pv 4) (pe_op op_add (pe_op op_fdivN (pv 4) pe_int) pe_int)) pa_nil)) pe_int)) (pss_cons (ps_set (i := 4) nd rfl (Or.inl rfl) (pe_op op_mod (pe_callTy call_int1 (by rfl) T.z_int (by decide +kernel) (pa_cons (pe_op op_mul (pv 4) (pe_op op_add (pe_op op_fdivN (pv 4) pe_int) pe_int)) pa_nil)) pe_int)) (pss_one (ps_ret (pe_op op_mod (pe_callTy call_int1 (by rfl) T.z_int (by decide +kernel) (pa_cons (pe_op op_fdivN (pv 4) pe_int) pa_nil)) (pv 1)))))))))))), pure_l_draw  h⟩
theorem ok_l_pick (T : Txt K mg)  (G_l_draw : FnOk P w K mg base CX0 1 T.f_l_draw T.fd_l_draw ["_law_pool_here", "_law_many_here"] spDraw) : FnOk P w K mg base CX0 2 T.f_l_pick T.fd_l_pick ["_law_pool_here", "_law_things"] spPick := by
  refine T.F_l_pick.ok sc_l_pick (fun vs H Q E h => len_l_pick h) (fun cdv A outer s H vs Q E hr h => ?_)
  have nd := sc_l_pick.nd
  exact ⟨t_l_pick K, (pss_one (ps_ret (pe_ix ix_list (pv 1) (pe_call G_l_draw (hr.mono (by decide)) (by rfl) T.g_l_draw T.F_l_draw.kp T.b_l_draw .nil pass0 (pa_cons (pv 0) (pa_cons (pe_callB call_len_seq (by rfl) T.z_len PySem.boot_len (pa_cons (pv 1) pa_nil)) pa_nil))) (fun _ _ => rfl)))), pure_l_pick  h⟩
theorem ok_l_is (T : Txt K mg)  (d : Nat) (G_l_is : FnOk P w K mg base CX0 d T.f_l_is T.fd_l_is ["_law_told", "_law_due"] (spIsN d)) : FnOk P w K mg base CX0 (d + 1) T.f_l_is T.fd_l_is ["_law_told", "_law_due"] (spIsN (d + 1)) := by
  refine T.F_l_is.ok sc_l_is (fun vs H Q E h => len_l_is h) (fun cdv A outer s H vs Q E hr h => ?_)
  have nd := sc_l_is.nd
  exact ⟨t_l_is K d, (pss_cons (ps_if (pt_val (pe_callB call_isiT (by rfl) T.z_isinstance (by decide +kernel) (pa_cons (pv 1) (pa_cons (pe_tup (pa_cons (pe_bltn (v := .ty "tuple") (by rfl) T.z_tuple (by decide +kernel) rfl) (pa_cons (pe_bltn (v := .ty "list") (by rfl) T.z_list (by decide +kernel) rfl) pa_nil))) pa_nil)))) (pss_cons (ps_if (PW.pt (pw_or (pt_cmpR op_ne (pe_callB call_isi (by rfl) T.z_isinstance (by decide +kernel) (pa_cons (pv 0) (pa_cons (pe_bltn (v := .ty "tuple") (by rfl) T.z_tuple (by decide +kernel) rfl) pa_nil))) (pe_callB call_isi (by rfl) T.z_isinstance (by decide +kernel) (pa_cons (pv 1) (pa_cons (pe_bltn (v := .ty "tuple") (by rfl) T.z_tuple (by decide +kernel) rfl) pa_nil))) (nomark _)) (pw_or1 (pt_cmpR op_ne (pe_callB call_isi (by rfl) T.z_isinstance (by decide +kernel) (pa_cons (pv 0) (pa_cons (pe_bltn (v := .ty "list") (by rfl) T.z_list (by decide +kernel) rfl) pa_nil))) (pe_callB call_isi (by rfl) T.z_isinstance (by decide +kernel) (pa_cons (pv 1) (pa_cons (pe_bltn (v := .ty "list") (by rfl) T.z_list (by decide +kernel) rfl) pa_nil))) (nomark _))))) (pss_one (ps_ret pe_bl)) pss_nil) (pss_one (ps_ret (pe_and (pe_cmpR op_eq (pe_callB call_len_seq (by rfl) T.z_len PySem.boot_len (pa_cons (pv 0) pa_nil)) (pe_callB call_len_seq (by rfl) T.z_len PySem.boot_len (pa_cons (pv 1) pa_nil)) (nomark _)) (pe_one (pe_callB (cr_all rfl) (by rfl) T.z_all (by decide +kernel) (pa_cons (pe_lc (own := [("_law_at", 2)]) (by rfl) nd (pi_range1 (by rfl) T.z_range (pa_cons (pe_callB call_len_seq (by rfl) T.z_len PySem.boot_len (pa_cons (pv 1) pa_nil)) pa_nil)) (blkOk_by (N := N_l_is) (sc := defScope s_l_is) (by decide +kernel)) (fun _ _ _ _ _ => (pg_name (i := 2) nd rfl (Or.inl rfl))) (fun _ _ _ _ _ => pts_nil) (fun _ _ _ _ _ => (pe_call G_l_is hr (by rfl) T.g_l_is T.F_l_is.kp T.b_l_is .nil pass0 (pa_cons (pe_ix ix_seq (pv 0) (pv 2) (fun _ _ => rfl)) (pa_cons (pe_ix ix_seq (pv 1) (pv 2) (fun _ _ => rfl)) pa_nil))))) pa_nil))))))) pss_nil) (pss_cons (ps_if (pt_val (pe_callB call_isi (by rfl) T.z_isinstance (by decide +kernel) (pa_cons (pv 1) (pa_cons (pe_bltn (v := .ty "dict") (by rfl) T.z_dict (by decide +kernel) rfl) pa_nil)))) pss_never pss_nil) (pss_cons (ps_if (pt_cmpR op_isN (pv 1) pe_non (nomark _)) (pss_one (ps_ret (pe_cmpR op_isN (pv 0) pe_non (nomark _)))) pss_nil) (pss_one (ps_ret (pe_and (pe_cmpR op_eq (pe_callB call_isi (by rfl) T.z_isinstance (by decide +kernel) (pa_cons (pv 0) (pa_cons (pe_bltn (v := .ty "bool") (by rfl) T.z_bool (by decide +kernel) rfl) pa_nil))) (pe_callB call_isi (by rfl) T.z_isinstance (by decide +kernel) (pa_cons (pv 1) (pa_cons (pe_bltn (v := .ty "bool") (by rfl) T.z_bool (by decide +kernel) rfl) pa_nil))) (nomark _)) (pe_and (pe_cmpR op_notN (pv 0) pe_non (nomark _)) (pe_one (pe_cmpR op_eq (pv 0) (pv 1) (nomark _)))))))))), pure_l_is  h⟩
theorem ok_l_deep (T : Txt K mg)   : FnOk P w K mg base CX0 1 T.f_l_deep T.fd_l_deep [] spDeep := by
  refine T.F_l_deep.ok sc_l_deep (fun vs H Q E h => len_l_deep h) (fun cdv A outer s H vs Q E hr h => ?_)
  have nd := sc_l_deep.nd
  exact ⟨t_l_deep K, (pss_cons (ps_set (i := 0) nd rfl (Or.inl rfl) (pe_lst (pa_cons pe_non pa_nil))) (pss_cons (ps_for PassesOwn.never rfl (pi_range1 (by rfl) T.z_range (pa_cons pe_int pa_nil)) (pg_name (i := 1) nd rfl (Or.inl rfl)) (pss_one (ps_set (i := 0) nd rfl (Or.inl rfl) (pe_ifExp (pt_cmpR op_eq (pe_op op_mod (pe_callTy call_int1 (by rfl) T.z_int (by decide +kernel) (pa_cons (pv 1) pa_nil)) pe_int) pe_int (nomark _)) (pe_tup (pa_cons (pv 0) pa_nil)) (pe_lst (pa_cons (pv 0) pa_nil)))))) (pss_one (ps_ret (pv 0))))), pure_l_deep  h⟩
theorem ok_l_is_number (T : Txt K mg)   : FnOk P w K mg base CX0 1 T.f_l_is_number T.fd_l_is_number ["_law_thing", "_law_least", "_law_most"] spWithin := by
  refine T.F_l_is_number.ok sc_l_is_number (fun vs H Q E h => len_is_within h) (fun cdv A outer s H vs Q E hr h => ?_)
  have nd := sc_l_is_number.nd
  exact ⟨t_l_is_number K, (pss_one (ps_ret (pe_and (pe_callB call_isi (by rfl) T.z_isinstance (by decide +kernel) (pa_cons (pv 0) (pa_cons (pe_bltn (v := .ty "int") (by rfl) T.z_int (by decide +kernel) rfl) pa_nil))) (pe_and (pe_not (pe_callB call_isi (by rfl) T.z_isinstance (by decide +kernel) (pa_cons (pv 0) (pa_cons (pe_bltn (v := .ty "bool") (by rfl) T.z_bool (by decide +kernel) rfl) pa_nil)))) (pe_one (pe_chain op_le op_le (pv 1) (pv 0) (pv 2))))))), pure_l_is_number  h⟩
theorem ok_l_mixed (T : Txt K mg)  (G_l_draw : FnOk P w K mg base CX0 1 T.f_l_draw T.fd_l_draw ["_law_pool_here", "_law_many_here"] spDraw) : FnOk P w K mg base CX0 2 T.f_l_mixed T.fd_l_mixed ["_law_pool_here", "_law_many_here"] spMixed := by
  refine T.F_l_mixed.ok sc_l_mixed (fun vs H Q E h => len_l_mixed h) (fun cdv A outer s H vs Q E hr h => ?_)
  have nd := sc_l_mixed.nd
  exact ⟨t_l_mixed K, (pss_cons (ps_set (i := 2) nd rfl (Or.inr rfl) (pe_listRg rfl (by rfl) T.z_list (prg_2 (by rfl) T.z_range pe_int (pe_op op_add (pv 1) pe_int)))) (pss_one (ps_ret (pe_lc (own := [("_law_turn", 3)]) (by rfl) nd (pi_range1 (by rfl) T.z_range (pa_cons (pv 1) pa_nil)) (blkOk_by (N := N_l_mixed) (sc := defScope s_l_mixed) (by decide +kernel)) (fun _ _ _ _ _ => (pg_name (i := 3) nd rfl (Or.inl rfl))) (fun _ _ _ _ _ => pts_nil) (fun _ _ _ _ _ => (pe_bm PySem.F.plainAttrs_list PySem.F.slot_list_pop PySem.F.type_list_pop mt_popAt (pv 2) (pa_cons (pe_call G_l_draw (hr.mono (by decide)) (by rfl) T.g_l_draw T.F_l_draw.kp T.b_l_draw .nil pass0 (pa_cons (pv 0) (pa_cons (pe_callB call_len_seq (by rfl) T.z_len PySem.boot_len (pa_cons (pv 2) pa_nil)) pa_nil))) pa_nil))))))), pure_l_mixed  h⟩
theorem ok_l_hung (T : Txt K mg)  (G_l_draw : FnOk P w K mg base CX0 1 T.f_l_draw T.fd_l_draw ["_law_pool_here", "_law_many_here"] spDraw) (G_l_mixed : FnOk P w K mg base CX0 2 T.f_l_mixed T.fd_l_mixed ["_law_pool_here", "_law_many_here"] spMixed) : FnOk P w K mg base CX0 3 T.f_l_hung T.fd_l_hung ["_law_pool_here", "_law_many_here"] spHung := by
  refine T.F_l_hung.ok sc_l_hung (fun vs H Q E h => len_l_hung h) (fun cdv A outer s H vs Q E hr h => ?_)
  have nd := sc_l_hung.nd
  exact ⟨t_l_hung K, (pss_cons (ps_set (i := 2) nd rfl (Or.inl rfl) (pe_call G_l_draw (hr.mono (by decide)) (by rfl) T.g_l_draw T.F_l_draw.kp T.b_l_draw .nil pass0 (pa_cons (pv 0) (pa_cons pe_int pa_nil)))) (pss_cons (ps_set (i := 3) nd rfl (Or.inl rfl) (pe_op op_cat (pe_lst (pa_cons pe_int pa_nil)) (pe_call G_l_mixed (hr.mono (by decide)) (by rfl) T.g_l_mixed T.F_l_mixed.kp T.b_l_mixed .nil pass0 (pa_cons (pv 0) (pa_cons (pv 1) pa_nil))))) (pss_cons (ps_set (i := 4) nd rfl (Or.inl rfl) (pe_op op_rep (pe_lst (pa_cons pe_int pa_nil)) (pv 1))) (pss_cons (ps_for PassesOwn.never rfl (pi_range2 (by rfl) T.z_range (pa_cons pe_int (pa_cons (pe_op op_add (pv 1) pe_int) pa_nil))) (pg_name (i := 5) nd rfl (Or.inl rfl)) (pss_cons (ps_set (i := 6) nd rfl (Or.inl rfl) (pe_call G_l_draw (hr.mono (by decide)) (by rfl) T.g_l_draw T.F_l_draw.kp T.b_l_draw .nil pass0 (pa_cons (pv 0) (pa_cons (pv 5) pa_nil)))) (C8.pss_cut (ps_if (PW.pt (pw_or (pt_cmpR op_eq (pv 2) pe_int (nomark _)) (pw_or1 (PW.pt (pw_and (pt_cmpR op_eq (pv 2) pe_int (nomark _)) (pw_and1 (pt_cmpR op_gt (pe_call G_l_draw (hr.mono (by decide)) (by rfl) T.g_l_draw T.F_l_draw.kp T.b_l_draw .nil pass0 (pa_cons (pv 0) (pa_cons pe_int pa_nil))) pe_int (nomark _)))))))) (pss_one (ps_set (i := 6) nd rfl (Or.inl rfl) (pe_op op_sub (pv 5) pe_int))) pss_nil) (C8.pss_cut (ps_if (PW.pt (pw_and (pt_cmpR op_eq (pv 2) pe_int (nomark _)) (pw_and1 (pt_cmpR op_eq (pe_call G_l_draw (hr.mono (by decide)) (by rfl) T.g_l_draw T.F_l_draw.kp T.b_l_draw .nil pass0 (pa_cons (pv 0) (pa_cons pe_int pa_nil))) pe_int (nomark _))))) (pss_one (ps_set (i := 6) nd rfl (Or.inl rfl) pe_int)) pss_nil) (pss_one (ps_asg (pe_ix ix_list (pv 3) (pv 6) (fun _ _ => rfl)) (pg_sub (pv 4) (pe_op op_sub (pe_ix ix_list (pv 3) (pv 5) (fun _ _ => rfl)) pe_int) set_list))))))) (pss_one (ps_ret (pe_callTy call_tuple_of (by rfl) T.z_tuple (by decide +kernel) (pa_cons (pv 4) pa_nil)))))))), pure_l_hung  h⟩
theorem ok_l_many (T : Txt K mg)  (G_l_draw : FnOk P w K mg base CX0 1 T.f_l_draw T.fd_l_draw ["_law_pool_here", "_law_many_here"] spDraw) : FnOk P w K mg base CX0 2 T.f_l_many T.fd_l_many ["_law_pool_here"] spMany := by
  refine T.F_l_many.ok sc_l_many (fun vs H Q E h => len_l_many h) (fun cdv A outer s H vs Q E hr h => ?_)
  have nd := sc_l_many.nd
  exact ⟨t_l_many K, (pss_one (ps_ret (pe_op op_add pe_int (pe_call G_l_draw (hr.mono (by decide)) (by rfl) T.g_l_draw T.F_l_draw.kp T.b_l_draw .nil pass0 (pa_cons (pv 0) (pa_cons (pe_ifExp (pt_cmpR op_eq (pe_call G_l_draw (hr.mono (by decide)) (by rfl) T.g_l_draw T.F_l_draw.kp T.b_l_draw .nil pass0 (pa_cons (pv 0) (pa_cons pe_int pa_nil))) pe_int (nomark _)) pe_int pe_int) pa_nil)))))), pure_l_many  h⟩
theorem ok_l_odd (T : Txt K mg)  (G_l_deep : FnOk P w K mg base CX0 1 T.f_l_deep T.fd_l_deep [] spDeep) (G_l_pick : FnOk P w K mg base CX0 2 T.f_l_pick T.fd_l_pick ["_law_pool_here", "_law_things"] spPick) : FnOk P w K mg base CX0 3 T.f_l_odd T.fd_l_odd ["_law_pool_here", "_law_most"] spOdd := by
  refine T.F_l_odd.ok sc_l_odd (fun vs H Q E h => len_l_odd h) (fun cdv A outer s H vs Q E hr h => ?_)
  have nd := sc_l_odd.nd
  exact ⟨t_l_odd K, (pss_one (ps_ret (pe_call G_l_pick (hr.mono (by decide)) (by rfl) T.g_l_pick T.F_l_pick.kp T.b_l_pick .nil pass0 (pa_cons (pv 0) (pa_cons (pe_lst (pa_cons (pe_un un_neg pe_int) (pa_cons (pe_op op_add (pv 1) pe_int) (pa_cons pe_bl (pa_cons pe_bl (pa_cons pe_non (pa_cons pe_str (pa_cons (pe_tup (pa_cons pe_int pa_nil)) (pa_cons (pe_lst (pa_cons pe_int pa_nil)) (pa_cons pe_dnewK (pa_cons (pe_op op_pow pe_int pe_int) (pa_cons (pe_call0 G_l_deep (hr.mono (by decide)) (by rfl) T.g_l_deep T.F_l_deep.kp T.b_l_deep .nil pass0) (pa_cons (pv 1) (pa_cons pe_int (pa_cons pe_int pa_nil))))))))))))))) pa_nil))))), pure_l_odd  h⟩
theorem ok_l_tree_due (T : Txt K mg)  (G_l_is_number : FnOk P w K mg base CX0 1 T.f_l_is_number T.fd_l_is_number ["_law_thing", "_law_least", "_law_most"] spWithin) : FnOk P w K mg base CX0 2 T.f_l_tree_due T.fd_l_tree_due ["_law_thing"] spDue := by
  refine T.F_l_tree_due.ok sc_l_tree_due (fun vs H Q E h => len_l_tree_due h) (fun cdv A outer s H vs Q E hr h => ?_)
  have nd := sc_l_tree_due.nd
  exact ⟨t_l_tree_due K, (pss_cons (ps_if (PW.pt (pw_or (pt_not (pt_val (pe_callB call_isi (by rfl) T.z_isinstance (by decide +kernel) (pa_cons (pv 0) (pa_cons (pe_bltn (v := .ty "tuple") (by rfl) T.z_tuple (by decide +kernel) rfl) pa_nil))))) (pw_or1 (pt_not (pt_chain op_le op_le pe_int (pe_callB call_len_seq (by rfl) T.z_len PySem.boot_len (pa_cons (pv 0) pa_nil)) pe_int))))) (pss_one (ps_ret pe_str)) pss_nil) (pss_cons (ps_for PassesOwn.never rfl (pi_range2 (by rfl) T.z_range (pa_cons pe_int (pa_cons (pe_op op_add (pe_callB call_len_seq (by rfl) T.z_len PySem.boot_len (pa_cons (pv 0) pa_nil)) pe_int) pa_nil))) (pg_name (i := 1) nd rfl (Or.inl rfl)) (pss_one (ps_if (PW.pt (pw_or (pt_not (pt_val (pe_call G_l_is_number (hr.mono (by decide)) (by rfl) T.g_l_is_number T.F_l_is_number.kp T.b_l_is_number .nil pass0 (pa_cons (pe_ix ix_tup (pv 0) (pe_op op_sub (pv 1) pe_int) (fun _ _ => rfl)) (pa_cons pe_int (pa_cons (pe_callB call_len_seq (by rfl) T.z_len PySem.boot_len (pa_cons (pv 0) pa_nil)) pa_nil)))))) (pw_or1 (pt_cmpR op_eq (pe_ix ix_tup (pv 0) (pe_op op_sub (pv 1) pe_int) (fun _ _ => rfl)) (pv 1) (nomark _))))) (pss_one (ps_ret (pv 1))) pss_nil))) (pss_cons (ps_for PassesOwn.never rfl (pi_range2 (by rfl) T.z_range (pa_cons pe_int (pa_cons (pe_op op_add (pe_callB call_len_seq (by rfl) T.z_len PySem.boot_len (pa_cons (pv 0) pa_nil)) pe_int) pa_nil))) (pg_name (i := 1) nd rfl (Or.inl rfl)) (pss_cons (ps_set (i := 2) nd rfl (Or.inl rfl) (pv 1)) (pss_cons (ps_for PassesOwn.never rfl (pi_range1 (by rfl) T.z_range (pa_cons (pe_op op_add (pe_callB call_len_seq (by rfl) T.z_len PySem.boot_len (pa_cons (pv 0) pa_nil)) pe_int) pa_nil)) (pg_name (i := 3) nd rfl (Or.inl rfl)) (pss_one (ps_set (i := 2) nd rfl (Or.inl rfl) (pe_ifExp (pt_cmpR op_eq (pv 2) pe_int (nomark _)) (pv 2) (pe_ix ix_tup (pv 0) (pe_op op_sub (pv 2) pe_int) (fun _ _ => rfl)))))) (pss_one (ps_if (pt_cmpR op_ne (pv 2) pe_int (nomark _)) (pss_one (ps_ret (pe_tup (pa_cons pe_str (pa_cons (pv 1) pa_nil))))) pss_nil))))) (pss_one (ps_ret pe_non))))), pure_l_tree_due  h⟩
theorem ok_l_tree_word (T : Txt K mg)  (G_Tree_init : FnOk P w K mg base (L2.CX P w) 3 T.f_Tree_init T.fd_Tree_init ["self", "hung"] (spTree T.C_BadTree T.C_Tree)) (G_l_is : FnOk P w K mg base CX0 2 T.f_l_is T.fd_l_is ["_law_told", "_law_due"] (spIsN 2)) : FnOk P w K mg base CX0 5 T.f_l_tree_word T.fd_l_tree_word ["_law_thing"] spDue := by
  refine T.F_l_tree_word.ok sc_l_tree_word (fun vs H Q E h => len_l_tree_due h) (fun cdv A outer s H vs Q E hr h => ?_)
  have nd := sc_l_tree_word.nd
  exact ⟨t_l_tree_word K T.C_BadTree T.C_Tree T.C_VoteError, (pss_cons (ps_set (i := 1) nd rfl (Or.inl rfl) pe_str) (pss_cons (ps_try_as (i := 3) (tb := fun W => (tSeq (tAsg (tMakeS T.C_Tree (spTree T.C_BadTree T.C_Tree) (WE W) (tCons (tVar 0) tNil)) (gName 2)) (tAsg (tIf (tB (tCall (spIsN 2) [] E0 (tCons (tFld K (tVar 2) "hung") (tCons (tVar 0) tNil)))) (tC .non) (tC (.str "other"))) (gName 1)))) (ts := fun a cls d => (tAsg (tIf (tB (tCB (rIsX K cls d a) (tCons (tVar 3) (tCons (tC (.ref T.C_VoteError)) tNil)))) (tXf a cls d T.C_BadTree "part" (tVar 3)) (tC (.str "other"))) (gName 1))) (Wout := fun _ _ _ _ => False) rfl rfl nd rfl rfl ⟨rfl, by decide, Or.inl T.g_BadTree⟩ takes0 (fun W pn xe tk po => (pss_cons (ps_set (i := 2) nd rfl (Or.inl rfl) (pe_makeS T.M_Tree G_Tree_init (hr.mono (by decide)) (by rfl) T.g_Tree T.b_Tree_init (fun σ => passAt tk σ) (pa_cons (pv 0) pa_nil))) (pss_one (ps_set (i := 1) nd rfl (Or.inl rfl) (pe_ifExp (pt_val (pe_call G_l_is (hr.mono (by decide)) (by rfl) T.g_l_is T.F_l_is.kp T.b_l_is .nil pass0 (pa_cons (pe_fld (pv 2) rfl) (pa_cons (pv 0) pa_nil)))) pe_non pe_str))))) (fun a oe cls d pn hz hf => (pss_one (ps_set (i := 1) nd rfl (Or.inl rfl) (pe_ifExp (pt_val (pe_callB (call_isX hz hf) (by rfl) T.z_isinstance (by decide +kernel) (pa_cons (pv 3) (pa_cons (pe_glob (v := .ref T.C_VoteError) (by rfl) T.g_VoteError rfl) pa_nil)))) (pe_xf T.xc_BadTree.xf T.nf_BadTree_part hz hf (pv 3)) pe_str))))) (pss_one (ps_ret (pv 1))))), pure_l_tree_word T.o_Tree T.nf_Tree_hung ⟨T.xc_BadTree, T.te_BadTree, T.kv_BadTree_VoteError⟩ h⟩
theorem ok_law (T : Txt K mg)  (G_Tree_eq : FnOk P w K mg base CX0 1 T.f_Tree_eq T.fd_Tree_eq ["self", "other"] (spTreeEq T.C_Tree)) (G_Tree_init : FnOk P w K mg base (L2.CX P w) 3 T.f_Tree_init T.fd_Tree_init ["self", "hung"] (spTree T.C_BadTree T.C_Tree)) (G_l_deep : FnOk P w K mg base CX0 1 T.f_l_deep T.fd_l_deep [] spDeep) (G_l_draw : FnOk P w K mg base CX0 1 T.f_l_draw T.fd_l_draw ["_law_pool_here", "_law_many_here"] spDraw) (G_l_hung : FnOk P w K mg base CX0 3 T.f_l_hung T.fd_l_hung ["_law_pool_here", "_law_many_here"] spHung) (G_l_is : FnOk P w K mg base CX0 3 T.f_l_is T.fd_l_is ["_law_told", "_law_due"] (spIsN 3)) (G_l_many : FnOk P w K mg base CX0 2 T.f_l_many T.fd_l_many ["_law_pool_here"] spMany) (G_l_odd : FnOk P w K mg base CX0 3 T.f_l_odd T.fd_l_odd ["_law_pool_here", "_law_most"] spOdd) (G_l_pick : FnOk P w K mg base CX0 2 T.f_l_pick T.fd_l_pick ["_law_pool_here", "_law_things"] spPick) (G_l_pool : FnOk P w K mg base CX0 1 T.f_l_pool T.fd_l_pool ["_law_script"] (spPool K)) (G_l_tree_due : FnOk P w K mg base CX0 2 T.f_l_tree_due T.fd_l_tree_due ["_law_thing"] spDue) (G_l_tree_word : FnOk P w K mg base CX0 5 T.f_l_tree_word T.fd_l_tree_word ["_law_thing"] spDue) : FnOk P w K mg base CX0 6 T.f_law T.fd_law ["_law_script"] (spLaw K) := by
  refine T.F_law.ok sc_law (fun vs H Q E h => len_law h) (fun cdv A outer s H vs Q E hr h => ?_)
  have nd := sc_law.nd
  exact ⟨t_law K T.C_BadTree T.C_Tree, (pss_cons (ps_set (i := 1) nd rfl (Or.inl rfl) (pe_call G_l_pool (hr.mono (by decide)) (by rfl) T.g_l_pool T.F_l_pool.kp T.b_l_pool .nil pass0 (pa_cons (pv 0) pa_nil))) (pss_cons (ps_for PassesOwn.never rfl (pi_range1 (by rfl) T.z_range (pa_cons pe_int pa_nil)) (pg_name (i := 2) nd rfl (Or.inl rfl)) (pss_cons (ps_set (i := 3) nd rfl (Or.inl rfl) (pe_call G_l_many (hr.mono (by decide)) (by rfl) T.g_l_many T.F_l_many.kp T.b_l_many .nil pass0 (pa_cons (pv 1) pa_nil))) (pss_cons (ps_set (i := 4) nd rfl (Or.inl rfl) (pe_call G_l_hung (hr.mono (by decide)) (by rfl) T.g_l_hung T.F_l_hung.kp T.b_l_hung .nil pass0 (pa_cons (pv 1) (pa_cons (pv 3) pa_nil)))) (pss_cons (ps_set (i := 5) nd rfl (Or.inl rfl) (pe_callTy call_list_of (by rfl) T.z_list (by decide +kernel) (pa_cons (pv 4) pa_nil))) (pss_cons (ps_for PassesOwn.never rfl (pi_range1 (by rfl) T.z_range (pa_cons (pe_call G_l_draw (hr.mono (by decide)) (by rfl) T.g_l_draw T.F_l_draw.kp T.b_l_draw .nil pass0 (pa_cons (pv 1) (pa_cons pe_int pa_nil))) pa_nil)) (pg_name (i := 6) nd rfl (Or.inl rfl)) (pss_cons (ps_set (i := 7) nd rfl (Or.inl rfl) (pe_call G_l_draw (hr.mono (by decide)) (by rfl) T.g_l_draw T.F_l_draw.kp T.b_l_draw .nil pass0 (pa_cons (pv 1) (pa_cons (pv 3) pa_nil)))) (pss_one (ps_asg (pe_ifExp (pt_cmpR op_eq (pe_call G_l_draw (hr.mono (by decide)) (by rfl) T.g_l_draw T.F_l_draw.kp T.b_l_draw .nil pass0 (pa_cons (pv 1) (pa_cons pe_int pa_nil))) pe_int (nomark _)) (pe_call G_l_odd (hr.mono (by decide)) (by rfl) T.g_l_odd T.F_l_odd.kp T.b_l_odd .nil pass0 (pa_cons (pv 1) (pa_cons (pv 3) pa_nil))) (pe_call G_l_draw (hr.mono (by decide)) (by rfl) T.g_l_draw T.F_l_draw.kp T.b_l_draw .nil pass0 (pa_cons (pv 1) (pa_cons (pe_op op_add (pv 3) pe_int) pa_nil)))) (pg_sub (pv 5) (pv 7) set_list))))) (pss_cons (ps_set (i := 5) nd rfl (Or.inl rfl) (pe_callTy call_tuple_of (by rfl) T.z_tuple (by decide +kernel) (pa_cons (pv 5) pa_nil))) (C8.pss_cut (ps_if (pt_cmpR op_eq (pe_call G_l_draw (hr.mono (by decide)) (by rfl) T.g_l_draw T.F_l_draw.kp T.b_l_draw .nil pass0 (pa_cons (pv 1) (pa_cons pe_int pa_nil))) pe_int (nomark _)) (pss_cons (ps_set (i := 8) nd rfl (Or.inl rfl) (pe_lst (pa_cons pe_non (pa_cons pe_int (pa_cons pe_str (pa_cons (pe_tup pa_nil) (pa_cons (pe_lst (pa_cons pe_int pa_nil)) (pa_cons pe_dnewK (pa_cons (pe_call0 G_l_deep (hr.mono (by decide)) (by rfl) T.g_l_deep T.F_l_deep.kp T.b_l_deep .nil pass0) (pa_cons (pe_op op_repT (pe_tup (pa_cons pe_int pa_nil)) pe_int) (pa_cons (pe_op op_repT (pe_tup (pa_cons pe_int pa_nil)) pe_int) (pa_cons (pe_callTy call_list_of (by rfl) T.z_list (by decide +kernel) (pa_cons (pv 4) pa_nil)) (pa_cons (pe_tup (pa_cons (pv 4) pa_nil)) (pa_cons (pe_op op_catA (pv 4) (pe_tup (pa_cons pe_int pa_nil))) pa_nil)))))))))))))) (pss_one (ps_set (i := 5) nd rfl (Or.inl rfl) (pe_call G_l_pick (hr.mono (by decide)) (by rfl) T.g_l_pick T.F_l_pick.kp T.b_l_pick .nil pass0 (pa_cons (pv 1) (pa_cons (pv 8) pa_nil)))))) pss_nil) (pss_cons (ps_if (pt_not (pt_val (pe_call G_l_is (hr.mono (by decide)) (by rfl) T.g_l_is T.F_l_is.kp T.b_l_is .nil pass0 (pa_cons (pe_lst (pa_cons (pe_call G_l_tree_word (hr.mono (by decide)) (by rfl) T.g_l_tree_word T.F_l_tree_word.kp T.b_l_tree_word .nil pass0 (pa_cons (pv 5) pa_nil)) pa_nil)) (pa_cons (pe_lst (pa_cons (pe_call G_l_tree_due (hr.mono (by decide)) (by rfl) T.g_l_tree_due T.F_l_tree_due.kp T.b_l_tree_due .nil pass0 (pa_cons (pv 5) pa_nil)) pa_nil)) pa_nil))))) (pss_one (ps_ret pe_bl)) pss_nil) (pss_cons (ps_set (i := 9) nd rfl (Or.inl rfl) (pe_call G_l_hung (hr.mono (by decide)) (by rfl) T.g_l_hung T.F_l_hung.kp T.b_l_hung .nil pass0 (pa_cons (pv 1) (pa_cons (pv 3) pa_nil)))) (pss_one (ps_if (PW.pt (pw_or (pt_cmpR op_ne (pe_cmpR (op_eqOwn G_Tree_eq (hr.mono (by decide)) T.e_Tree T.ef_Tree T.b_Tree_eq pass0) (pe_make T.M_Tree G_Tree_init (hr.mono (by decide)) (by rfl) T.g_Tree T.b_Tree_init .nil passL (pa_cons (pv 4) pa_nil)) (pe_make T.M_Tree G_Tree_init (hr.mono (by decide)) (by rfl) T.g_Tree T.b_Tree_init .nil passL (pa_cons (pv 9) pa_nil)) (nomark _)) (pe_cmpR (op_eqD hr.units) (pv 4) (pv 9) (nomark _)) (nomark _)) (pw_or (pt_cmpR (op_eqOwn G_Tree_eq (hr.mono (by decide)) T.e_Tree T.ef_Tree T.b_Tree_eq pass0) (pe_make T.M_Tree G_Tree_init (hr.mono (by decide)) (by rfl) T.g_Tree T.b_Tree_init .nil passL (pa_cons (pv 4) pa_nil)) (pv 4) (nomark _)) (pw_or1 (pt_not (pt_cmpR (op_eqOwn G_Tree_eq (hr.mono (by decide)) T.e_Tree T.ef_Tree T.b_Tree_eq pass0) (pe_make T.M_Tree G_Tree_init (hr.mono (by decide)) (by rfl) T.g_Tree T.b_Tree_init .nil passL (pa_cons (pv 4) pa_nil)) (pe_make T.M_Tree G_Tree_init (hr.mono (by decide)) (by rfl) T.g_Tree T.b_Tree_init .nil passL (pa_cons (pv 4) pa_nil)) (nomark _))))))) (pss_one (ps_ret pe_bl)) pss_nil))))))))))) (pss_one (ps_ret pe_bl)))), pure_law T.o_Tree h⟩
end
theorem all_mk {l : PySem.W.OpenLaw} {w : World} {K : PySem.W.Frag} {h : Heap} {mg : Str → Option Value} {fa : Addr} (X : K.In h) (G : h.Ns mainGlobals mg) (hfa : mg "law" = some (.ref fa))
    {k_HEAD : Tok}
    {k_MOST_BLOCKS : Tok}
    {C_Tree : Addr}
    {C_BadTree : Addr}
    {C_VoteError : Addr}
    {f_BadTree_init : Addr} {od_BadTree_init an_BadTree_init : Option Addr} {sl_BadTree_init : Array (Option Value)} {oc_BadTree_init kV_BadTree_init dc_BadTree_init pm_BadTree_init cd_BadTree_init ct_BadTree_init : Value}
    {f_is_integer : Addr} {od_is_integer an_is_integer : Option Addr} {sl_is_integer : Array (Option Value)} {oc_is_integer kV_is_integer dc_is_integer pm_is_integer cd_is_integer ct_is_integer : Value}
    {f_is_within : Addr} {od_is_within an_is_within : Option Addr} {sl_is_within : Array (Option Value)} {oc_is_within kV_is_within dc_is_within pm_is_within cd_is_within ct_is_within : Value}
    {f_leads_home : Addr} {od_leads_home an_leads_home : Option Addr} {sl_leads_home : Array (Option Value)} {oc_leads_home kV_leads_home dc_leads_home pm_leads_home cd_leads_home ct_leads_home : Value}
    {f_Tree_init : Addr} {od_Tree_init an_Tree_init : Option Addr} {sl_Tree_init : Array (Option Value)} {oc_Tree_init kV_Tree_init dc_Tree_init pm_Tree_init cd_Tree_init ct_Tree_init : Value}
    {f_Tree_eq : Addr} {od_Tree_eq an_Tree_eq : Option Addr} {sl_Tree_eq : Array (Option Value)} {oc_Tree_eq kV_Tree_eq dc_Tree_eq pm_Tree_eq cd_Tree_eq ct_Tree_eq : Value}
    {f_l_pool : Addr} {od_l_pool an_l_pool : Option Addr} {sl_l_pool : Array (Option Value)} {oc_l_pool kV_l_pool dc_l_pool pm_l_pool cd_l_pool ct_l_pool : Value}
    {f_l_draw : Addr} {od_l_draw an_l_draw : Option Addr} {sl_l_draw : Array (Option Value)} {oc_l_draw kV_l_draw dc_l_draw pm_l_draw cd_l_draw ct_l_draw : Value}
    {f_l_pick : Addr} {od_l_pick an_l_pick : Option Addr} {sl_l_pick : Array (Option Value)} {oc_l_pick kV_l_pick dc_l_pick pm_l_pick cd_l_pick ct_l_pick : Value}
    {f_l_is : Addr} {od_l_is an_l_is : Option Addr} {sl_l_is : Array (Option Value)} {oc_l_is kV_l_is dc_l_is pm_l_is cd_l_is ct_l_is : Value}
    {f_l_deep : Addr} {od_l_deep an_l_deep : Option Addr} {sl_l_deep : Array (Option Value)} {oc_l_deep kV_l_deep dc_l_deep pm_l_deep cd_l_deep ct_l_deep : Value}
    {f_l_is_number : Addr} {od_l_is_number an_l_is_number : Option Addr} {sl_l_is_number : Array (Option Value)} {oc_l_is_number kV_l_is_number dc_l_is_number pm_l_is_number cd_l_is_number ct_l_is_number : Value}
    {f_l_mixed : Addr} {od_l_mixed an_l_mixed : Option Addr} {sl_l_mixed : Array (Option Value)} {oc_l_mixed kV_l_mixed dc_l_mixed pm_l_mixed cd_l_mixed ct_l_mixed : Value}
    {f_l_hung : Addr} {od_l_hung an_l_hung : Option Addr} {sl_l_hung : Array (Option Value)} {oc_l_hung kV_l_hung dc_l_hung pm_l_hung cd_l_hung ct_l_hung : Value}
    {f_l_many : Addr} {od_l_many an_l_many : Option Addr} {sl_l_many : Array (Option Value)} {oc_l_many kV_l_many dc_l_many pm_l_many cd_l_many ct_l_many : Value}
    {f_l_odd : Addr} {od_l_odd an_l_odd : Option Addr} {sl_l_odd : Array (Option Value)} {oc_l_odd kV_l_odd dc_l_odd pm_l_odd cd_l_odd ct_l_odd : Value}
    {f_l_tree_due : Addr} {od_l_tree_due an_l_tree_due : Option Addr} {sl_l_tree_due : Array (Option Value)} {oc_l_tree_due kV_l_tree_due dc_l_tree_due pm_l_tree_due cd_l_tree_due ct_l_tree_due : Value}
    {f_l_tree_word : Addr} {od_l_tree_word an_l_tree_word : Option Addr} {sl_l_tree_word : Array (Option Value)} {oc_l_tree_word kV_l_tree_word dc_l_tree_word pm_l_tree_word cd_l_tree_word ct_l_tree_word : Value}
    {f_law : Addr} {od_law an_law : Option Addr} {sl_law : Array (Option Value)} {oc_law kV_law dc_law pm_law cd_law ct_law : Value}
    {nm_BadTree qn_BadTree : Str} {N_BadTree : Addr} {bs_BadTree sub_BadTree : List Value} {sn_BadTree : List Str} {ab_BadTree : Bool} {col_BadTree : Option Bool} {dd_BadTree : Option Addr} {m0_BadTree m1_BadTree m2_BadTree m3_BadTree m5_BadTree : Option Value}
    {nm_VoteError qn_VoteError : Str} {N_VoteError : Addr} {bs_VoteError sub_VoteError : List Value} {sn_VoteError : List Str} {ab_VoteError : Bool} {col_VoteError : Option Bool} {dd_VoteError : Option Addr} {m0_VoteError m1_VoteError m2_VoteError m3_VoteError m5_VoteError : Option Value}
    (z_abs : PySem.W.nsIn K mainGlobals "abs" = some none)
    (z_all : PySem.W.nsIn K mainGlobals "all" = some none)
    (z_bool : PySem.W.nsIn K mainGlobals "bool" = some none)
    (z_dict : PySem.W.nsIn K mainGlobals "dict" = some none)
    (z_int : PySem.W.nsIn K mainGlobals "int" = some none)
    (z_isinstance : PySem.W.nsIn K mainGlobals "isinstance" = some none)
    (z_len : PySem.W.nsIn K mainGlobals "len" = some none)
    (z_list : PySem.W.nsIn K mainGlobals "list" = some none)
    (z_range : PySem.W.nsIn K mainGlobals "range" = some none)
    (z_tuple : PySem.W.nsIn K mainGlobals "tuple" = some none)
    (c_HEAD : PySem.W.nsIn K mainGlobals "HEAD" = some (some (.int 0 k_HEAD)))
    (c_MOST_BLOCKS : PySem.W.nsIn K mainGlobals "MOST_BLOCKS" = some (some (.int 40 k_MOST_BLOCKS)))
    (a_Tree : PySem.W.nsIn K mainGlobals "Tree" = some (some (.ref C_Tree)))
    (a_BadTree : PySem.W.nsIn K mainGlobals "BadTree" = some (some (.ref C_BadTree)))
    (a_VoteError : PySem.W.nsIn K mainGlobals "VoteError" = some (some (.ref C_VoteError)))
    (a_BadTree_init : PySem.W.findIn K (.ref C_BadTree) "__init__" = some (some (.ref f_BadTree_init)))
    (l_BadTree_init : K.lookup f_BadTree_init = some ⟨oc_BadTree_init, od_BadTree_init, .func (PySem.W.fnOf "__init__" "BadTree.__init__" (defArgs s_BadTree_init) (defBody s_BadTree_init) (defScope s_BadTree_init) .none kV_BadTree_init dc_BadTree_init pm_BadTree_init an_BadTree_init cd_BadTree_init ct_BadTree_init), sl_BadTree_init⟩)
    (d_BadTree_init : PySem.W.codeIn K cd_BadTree_init "BadTree.__init__" = true)
    (p_BadTree_init : PySem.W.keepIn K (.ref f_BadTree_init) = true)
    (a_is_integer : PySem.W.nsIn K mainGlobals "is_integer" = some (some (.ref f_is_integer)))
    (l_is_integer : K.lookup f_is_integer = some ⟨oc_is_integer, od_is_integer, .func (PySem.W.fnOf "is_integer" "is_integer" (defArgs s_is_integer) (defBody s_is_integer) (defScope s_is_integer) .none kV_is_integer dc_is_integer pm_is_integer an_is_integer cd_is_integer ct_is_integer), sl_is_integer⟩)
    (d_is_integer : PySem.W.codeIn K cd_is_integer "is_integer" = true)
    (p_is_integer : PySem.W.keepIn K (.ref f_is_integer) = true)
    (a_is_within : PySem.W.nsIn K mainGlobals "is_within" = some (some (.ref f_is_within)))
    (l_is_within : K.lookup f_is_within = some ⟨oc_is_within, od_is_within, .func (PySem.W.fnOf "is_within" "is_within" (defArgs s_is_within) (defBody s_is_within) (defScope s_is_within) .none kV_is_within dc_is_within pm_is_within an_is_within cd_is_within ct_is_within), sl_is_within⟩)
    (d_is_within : PySem.W.codeIn K cd_is_within "is_within" = true)
    (p_is_within : PySem.W.keepIn K (.ref f_is_within) = true)
    (a_leads_home : PySem.W.nsIn K mainGlobals "leads_home" = some (some (.ref f_leads_home)))
    (l_leads_home : K.lookup f_leads_home = some ⟨oc_leads_home, od_leads_home, .func (PySem.W.fnOf "leads_home" "leads_home" (defArgs s_leads_home) (defBody s_leads_home) (defScope s_leads_home) .none kV_leads_home dc_leads_home pm_leads_home an_leads_home cd_leads_home ct_leads_home), sl_leads_home⟩)
    (d_leads_home : PySem.W.codeIn K cd_leads_home "leads_home" = true)
    (p_leads_home : PySem.W.keepIn K (.ref f_leads_home) = true)
    (a_Tree_init : PySem.W.findIn K (.ref C_Tree) "__init__" = some (some (.ref f_Tree_init)))
    (l_Tree_init : K.lookup f_Tree_init = some ⟨oc_Tree_init, od_Tree_init, .func (PySem.W.fnOf "__init__" "Tree.__init__" (defArgs s_Tree_init) (defBody s_Tree_init) (defScope s_Tree_init) .none kV_Tree_init dc_Tree_init pm_Tree_init an_Tree_init cd_Tree_init ct_Tree_init), sl_Tree_init⟩)
    (d_Tree_init : PySem.W.codeIn K cd_Tree_init "Tree.__init__" = true)
    (p_Tree_init : PySem.W.keepIn K (.ref f_Tree_init) = true)
    (a_Tree_eq : PySem.W.findIn K (.ref C_Tree) "__eq__" = some (some (.ref f_Tree_eq)))
    (l_Tree_eq : K.lookup f_Tree_eq = some ⟨oc_Tree_eq, od_Tree_eq, .func (PySem.W.fnOf "__eq__" "Tree.__eq__" (defArgs s_Tree_eq) (defBody s_Tree_eq) (defScope s_Tree_eq) .none kV_Tree_eq dc_Tree_eq pm_Tree_eq an_Tree_eq cd_Tree_eq ct_Tree_eq), sl_Tree_eq⟩)
    (d_Tree_eq : PySem.W.codeIn K cd_Tree_eq "Tree.__eq__" = true)
    (p_Tree_eq : PySem.W.keepIn K (.ref f_Tree_eq) = true)
    (a_l_pool : PySem.W.nsIn K mainGlobals "_law_pool" = some (some (.ref f_l_pool)))
    (l_l_pool : K.lookup f_l_pool = some ⟨oc_l_pool, od_l_pool, .func (PySem.W.fnOf "_law_pool" "_law_pool" (defArgs s_l_pool) (defBody s_l_pool) (defScope s_l_pool) .none kV_l_pool dc_l_pool pm_l_pool an_l_pool cd_l_pool ct_l_pool), sl_l_pool⟩)
    (d_l_pool : PySem.W.codeIn K cd_l_pool "_law_pool" = true)
    (p_l_pool : PySem.W.keepIn K (.ref f_l_pool) = true)
    (a_l_draw : PySem.W.nsIn K mainGlobals "_law_draw" = some (some (.ref f_l_draw)))
    (l_l_draw : K.lookup f_l_draw = some ⟨oc_l_draw, od_l_draw, .func (PySem.W.fnOf "_law_draw" "_law_draw" (defArgs s_l_draw) (defBody s_l_draw) (defScope s_l_draw) .none kV_l_draw dc_l_draw pm_l_draw an_l_draw cd_l_draw ct_l_draw), sl_l_draw⟩)
    (d_l_draw : PySem.W.codeIn K cd_l_draw "_law_draw" = true)
    (p_l_draw : PySem.W.keepIn K (.ref f_l_draw) = true)
    (a_l_pick : PySem.W.nsIn K mainGlobals "_law_pick" = some (some (.ref f_l_pick)))
    (l_l_pick : K.lookup f_l_pick = some ⟨oc_l_pick, od_l_pick, .func (PySem.W.fnOf "_law_pick" "_law_pick" (defArgs s_l_pick) (defBody s_l_pick) (defScope s_l_pick) .none kV_l_pick dc_l_pick pm_l_pick an_l_pick cd_l_pick ct_l_pick), sl_l_pick⟩)
    (d_l_pick : PySem.W.codeIn K cd_l_pick "_law_pick" = true)
    (p_l_pick : PySem.W.keepIn K (.ref f_l_pick) = true)
    (a_l_is : PySem.W.nsIn K mainGlobals "_law_is" = some (some (.ref f_l_is)))
    (l_l_is : K.lookup f_l_is = some ⟨oc_l_is, od_l_is, .func (PySem.W.fnOf "_law_is" "_law_is" (defArgs s_l_is) (defBody s_l_is) (defScope s_l_is) .none kV_l_is dc_l_is pm_l_is an_l_is cd_l_is ct_l_is), sl_l_is⟩)
    (d_l_is : PySem.W.codeIn K cd_l_is "_law_is" = true)
    (p_l_is : PySem.W.keepIn K (.ref f_l_is) = true)
    (a_l_deep : PySem.W.nsIn K mainGlobals "_law_deep" = some (some (.ref f_l_deep)))
    (l_l_deep : K.lookup f_l_deep = some ⟨oc_l_deep, od_l_deep, .func (PySem.W.fnOf "_law_deep" "_law_deep" (defArgs s_l_deep) (defBody s_l_deep) (defScope s_l_deep) .none kV_l_deep dc_l_deep pm_l_deep an_l_deep cd_l_deep ct_l_deep), sl_l_deep⟩)
    (d_l_deep : PySem.W.codeIn K cd_l_deep "_law_deep" = true)
    (p_l_deep : PySem.W.keepIn K (.ref f_l_deep) = true)
    (a_l_is_number : PySem.W.nsIn K mainGlobals "_law_is_number" = some (some (.ref f_l_is_number)))
    (l_l_is_number : K.lookup f_l_is_number = some ⟨oc_l_is_number, od_l_is_number, .func (PySem.W.fnOf "_law_is_number" "_law_is_number" (defArgs s_l_is_number) (defBody s_l_is_number) (defScope s_l_is_number) .none kV_l_is_number dc_l_is_number pm_l_is_number an_l_is_number cd_l_is_number ct_l_is_number), sl_l_is_number⟩)
    (d_l_is_number : PySem.W.codeIn K cd_l_is_number "_law_is_number" = true)
    (p_l_is_number : PySem.W.keepIn K (.ref f_l_is_number) = true)
    (a_l_mixed : PySem.W.nsIn K mainGlobals "_law_mixed" = some (some (.ref f_l_mixed)))
    (l_l_mixed : K.lookup f_l_mixed = some ⟨oc_l_mixed, od_l_mixed, .func (PySem.W.fnOf "_law_mixed" "_law_mixed" (defArgs s_l_mixed) (defBody s_l_mixed) (defScope s_l_mixed) .none kV_l_mixed dc_l_mixed pm_l_mixed an_l_mixed cd_l_mixed ct_l_mixed), sl_l_mixed⟩)
    (d_l_mixed : PySem.W.codeIn K cd_l_mixed "_law_mixed" = true)
    (p_l_mixed : PySem.W.keepIn K (.ref f_l_mixed) = true)
    (a_l_hung : PySem.W.nsIn K mainGlobals "_law_hung" = some (some (.ref f_l_hung)))
    (l_l_hung : K.lookup f_l_hung = some ⟨oc_l_hung, od_l_hung, .func (PySem.W.fnOf "_law_hung" "_law_hung" (defArgs s_l_hung) (defBody s_l_hung) (defScope s_l_hung) .none kV_l_hung dc_l_hung pm_l_hung an_l_hung cd_l_hung ct_l_hung), sl_l_hung⟩)
    (d_l_hung : PySem.W.codeIn K cd_l_hung "_law_hung" = true)
    (p_l_hung : PySem.W.keepIn K (.ref f_l_hung) = true)
    (a_l_many : PySem.W.nsIn K mainGlobals "_law_many" = some (some (.ref f_l_many)))
    (l_l_many : K.lookup f_l_many = some ⟨oc_l_many, od_l_many, .func (PySem.W.fnOf "_law_many" "_law_many" (defArgs s_l_many) (defBody s_l_many) (defScope s_l_many) .none kV_l_many dc_l_many pm_l_many an_l_many cd_l_many ct_l_many), sl_l_many⟩)
    (d_l_many : PySem.W.codeIn K cd_l_many "_law_many" = true)
    (p_l_many : PySem.W.keepIn K (.ref f_l_many) = true)
    (a_l_odd : PySem.W.nsIn K mainGlobals "_law_odd" = some (some (.ref f_l_odd)))
    (l_l_odd : K.lookup f_l_odd = some ⟨oc_l_odd, od_l_odd, .func (PySem.W.fnOf "_law_odd" "_law_odd" (defArgs s_l_odd) (defBody s_l_odd) (defScope s_l_odd) .none kV_l_odd dc_l_odd pm_l_odd an_l_odd cd_l_odd ct_l_odd), sl_l_odd⟩)
    (d_l_odd : PySem.W.codeIn K cd_l_odd "_law_odd" = true)
    (p_l_odd : PySem.W.keepIn K (.ref f_l_odd) = true)
    (a_l_tree_due : PySem.W.nsIn K mainGlobals "_law_tree_due" = some (some (.ref f_l_tree_due)))
    (l_l_tree_due : K.lookup f_l_tree_due = some ⟨oc_l_tree_due, od_l_tree_due, .func (PySem.W.fnOf "_law_tree_due" "_law_tree_due" (defArgs s_l_tree_due) (defBody s_l_tree_due) (defScope s_l_tree_due) .none kV_l_tree_due dc_l_tree_due pm_l_tree_due an_l_tree_due cd_l_tree_due ct_l_tree_due), sl_l_tree_due⟩)
    (d_l_tree_due : PySem.W.codeIn K cd_l_tree_due "_law_tree_due" = true)
    (p_l_tree_due : PySem.W.keepIn K (.ref f_l_tree_due) = true)
    (a_l_tree_word : PySem.W.nsIn K mainGlobals "_law_tree_word" = some (some (.ref f_l_tree_word)))
    (l_l_tree_word : K.lookup f_l_tree_word = some ⟨oc_l_tree_word, od_l_tree_word, .func (PySem.W.fnOf "_law_tree_word" "_law_tree_word" (defArgs s_l_tree_word) (defBody s_l_tree_word) (defScope s_l_tree_word) .none kV_l_tree_word dc_l_tree_word pm_l_tree_word an_l_tree_word cd_l_tree_word ct_l_tree_word), sl_l_tree_word⟩)
    (d_l_tree_word : PySem.W.codeIn K cd_l_tree_word "_law_tree_word" = true)
    (p_l_tree_word : PySem.W.keepIn K (.ref f_l_tree_word) = true)
    (a_law : PySem.W.nsIn K mainGlobals "law" = some (some (.ref f_law)))
    (l_law : K.lookup f_law = some ⟨oc_law, od_law, .func (PySem.W.fnOf "law" "law" (defArgs s_law) (defBody s_law) (defScope s_law) .none kV_law dc_law pm_law an_law cd_law ct_law), sl_law⟩)
    (d_law : PySem.W.codeIn K cd_law "law" = true)
    (p_law : PySem.W.keepIn K (.ref f_law) = true)
    (pg_Tree : PySem.W.plainGet K C_Tree Str.empty = true)
    (hd_Tree : PySem.W.hasDictIn K C_Tree = true)
    (po_Tree : PySem.W.plainOver K C_Tree = true)
    (sa_Tree : PySem.W.findIn K (.ref C_Tree) "__setattr__" = some (some (.builtin "object.__setattr__")))
    (mk_Tree : PySem.W.makesIn K C_Tree = true)
    (kc_Tree : PySem.W.keepIn K (.ref C_Tree) = true)
    (ha_Tree : PySem.W.findIn K (.ref C_Tree) "__class__" = some (some (.builtin "object.__class__")))
    (hn_Tree : PySem.W.specialIn K (.builtin "object.__class__") "__get__" = some (some (.builtin "getset_descriptor.__get__")))
    (ht_Tree : PySem.W.takesIn K (.builtin "object.__class__") = some true)
    (hm_Tree : PySem.W.mroIn K C_Tree (.type "object") = some true)
    (me_Tree : PySem.W.kitOne K (.ref C_Tree) (.ref C_Tree) = some true)
    (ktNoneType_Tree : PySem.W.kitOne K (.type "NoneType") (.ref C_Tree) = some false)
    (ntNoneType_Tree : PySem.W.notFirst K C_Tree (.type "NoneType") = true)
    (ktbool_Tree : PySem.W.kitOne K (.type "bool") (.ref C_Tree) = some false)
    (ntbool_Tree : PySem.W.notFirst K C_Tree (.type "bool") = true)
    (ktint_Tree : PySem.W.kitOne K (.type "int") (.ref C_Tree) = some false)
    (ntint_Tree : PySem.W.notFirst K C_Tree (.type "int") = true)
    (ktstr_Tree : PySem.W.kitOne K (.type "str") (.ref C_Tree) = some false)
    (ntstr_Tree : PySem.W.notFirst K C_Tree (.type "str") = true)
    (ktlist_Tree : PySem.W.kitOne K (.type "list") (.ref C_Tree) = some false)
    (ntlist_Tree : PySem.W.notFirst K C_Tree (.type "list") = true)
    (kttuple_Tree : PySem.W.kitOne K (.type "tuple") (.ref C_Tree) = some false)
    (nttuple_Tree : PySem.W.notFirst K C_Tree (.type "tuple") = true)
    (ktdict_Tree : PySem.W.kitOne K (.type "dict") (.ref C_Tree) = some false)
    (ntdict_Tree : PySem.W.notFirst K C_Tree (.type "dict") = true)
    (if_Tree : PySem.W.isFn K (.ref f_Tree_init) = true)
    (nf_Tree_hung : PySem.W.findIn K (.ref C_Tree) "hung" = some none)
    (ef_Tree : PySem.W.isFn K (.ref f_Tree_eq) = true)
    (sa_BadTree : PySem.W.findIn K (.ref C_BadTree) "__setattr__" = some (some (.builtin "object.__setattr__")))
    (be_BadTree : PySem.W.subIn K (.ref C_BadTree) (.type "BaseException") = some true)
    (ty_BadTree : PySem.W.typeIn K (.ref C_BadTree) = some (.type "type"))
    (kc_BadTree : PySem.W.keepIn K (.ref C_BadTree) = true)
    (ic_BadTree : PySem.W.isClsIn K C_BadTree = true)
    (ss_BadTree : PySem.W.subIn K (.ref C_BadTree) (.ref C_BadTree) = some true)
    (ga_BadTree : PySem.W.findIn K (.ref C_BadTree) "__getattribute__" = some (some (.builtin "BaseException.__getattribute__")))
    (gt_BadTree : PySem.W.findIn K (.ref C_BadTree) "__getattr__" = some none)
    (hd_BadTree : PySem.W.hasDictIn K C_BadTree = true)
    (ha_BadTree : PySem.W.findIn K (.ref C_BadTree) "__class__" = some (some (.builtin "object.__class__")))
    (hn_BadTree : PySem.W.specialIn K (.builtin "object.__class__") "__get__" = some (some (.builtin "getset_descriptor.__get__")))
    (ht_BadTree : PySem.W.takesIn K (.builtin "object.__class__") = some true)
    (hm_BadTree : PySem.W.mroIn K C_BadTree (.type "object") = some true)
    (xL_BadTree : K.lookup C_BadTree = some (excClassObj nm_BadTree qn_BadTree C_BadTree N_BadTree bs_BadTree [.ref C_VoteError, .type "ValueError", .type "Exception", .type "BaseException", .type "object"] true sn_BadTree sub_BadTree ab_BadTree col_BadTree dd_BadTree m0_BadTree m1_BadTree m2_BadTree m3_BadTree m5_BadTree "ValueError.__new__"))
    (ti_BadTree : PySem.W.typeIn K (.ref f_BadTree_init) = some (.type "function"))
    (nf_BadTree_part : PySem.W.findIn K (.ref C_BadTree) "part" = some none)
    (sa_VoteError : PySem.W.findIn K (.ref C_VoteError) "__setattr__" = some (some (.builtin "object.__setattr__")))
    (be_VoteError : PySem.W.subIn K (.ref C_VoteError) (.type "BaseException") = some true)
    (ty_VoteError : PySem.W.typeIn K (.ref C_VoteError) = some (.type "type"))
    (kc_VoteError : PySem.W.keepIn K (.ref C_VoteError) = true)
    (ic_VoteError : PySem.W.isClsIn K C_VoteError = true)
    (ss_VoteError : PySem.W.subIn K (.ref C_VoteError) (.ref C_VoteError) = some true)
    (ga_VoteError : PySem.W.findIn K (.ref C_VoteError) "__getattribute__" = some (some (.builtin "BaseException.__getattribute__")))
    (gt_VoteError : PySem.W.findIn K (.ref C_VoteError) "__getattr__" = some none)
    (hd_VoteError : PySem.W.hasDictIn K C_VoteError = true)
    (ha_VoteError : PySem.W.findIn K (.ref C_VoteError) "__class__" = some (some (.builtin "object.__class__")))
    (hn_VoteError : PySem.W.specialIn K (.builtin "object.__class__") "__get__" = some (some (.builtin "getset_descriptor.__get__")))
    (ht_VoteError : PySem.W.takesIn K (.builtin "object.__class__") = some true)
    (hm_VoteError : PySem.W.mroIn K C_VoteError (.type "object") = some true)
    (xL_VoteError : K.lookup C_VoteError = some (excClassObj nm_VoteError qn_VoteError C_VoteError N_VoteError bs_VoteError [.type "ValueError", .type "Exception", .type "BaseException", .type "object"] true sn_VoteError sub_VoteError ab_VoteError col_VoteError dd_VoteError m0_VoteError m1_VoteError m2_VoteError m3_VoteError m5_VoteError "ValueError.__new__"))
    (kv_BadTree_VoteError : PySem.W.kitOne K (.ref C_BadTree) (.ref C_VoteError) = some true)
    : ∃ fd : FuncData, (∀ (s : Shared) (v : Value), BindsTo s fd ⟨[v], []⟩ [("_law_script", v)]) ∧ ∀ base : Heap, K.In base → base.Ns mainGlobals mg → FnOk l.prog w K mg base CX0 6 fa fd ["_law_script"] (spLaw K) := by
  have e := hfa.symm.trans (PySem.W.mg_of X G a_law)
  cases e
  have F_BadTree_init := fun_mk (st := s_BadTree_init) l_BadTree_init d_BadTree_init p_BadTree_init
  have b_BadTree_init := F_BadTree_init.binds (ps := ["self", "part"]) fun _ _ _ _ _ _ us hl => match us, hl with | [_, _], _ => rfl
  have F_is_integer := fun_mk (st := s_is_integer) l_is_integer d_is_integer p_is_integer
  have b_is_integer := F_is_integer.binds (ps := ["thing"]) fun _ _ _ _ _ _ us hl => match us, hl with | [_], _ => rfl
  have F_is_within := fun_mk (st := s_is_within) l_is_within d_is_within p_is_within
  have b_is_within := F_is_within.binds (ps := ["thing", "least", "most"]) fun _ _ _ _ _ _ us hl => match us, hl with | [_, _, _], _ => rfl
  have F_leads_home := fun_mk (st := s_leads_home) l_leads_home d_leads_home p_leads_home
  have b_leads_home := F_leads_home.binds (ps := ["hung", "block"]) fun _ _ _ _ _ _ us hl => match us, hl with | [_, _], _ => rfl
  have F_Tree_init := fun_mk (st := s_Tree_init) l_Tree_init d_Tree_init p_Tree_init
  have b_Tree_init := F_Tree_init.binds (ps := ["self", "hung"]) fun _ _ _ _ _ _ us hl => match us, hl with | [_, _], _ => rfl
  have F_Tree_eq := fun_mk (st := s_Tree_eq) l_Tree_eq d_Tree_eq p_Tree_eq
  have b_Tree_eq := F_Tree_eq.binds (ps := ["self", "other"]) fun _ _ _ _ _ _ us hl => match us, hl with | [_, _], _ => rfl
  have F_l_pool := fun_mk (st := s_l_pool) l_l_pool d_l_pool p_l_pool
  have b_l_pool := F_l_pool.binds (ps := ["_law_script"]) fun _ _ _ _ _ _ us hl => match us, hl with | [_], _ => rfl
  have F_l_draw := fun_mk (st := s_l_draw) l_l_draw d_l_draw p_l_draw
  have b_l_draw := F_l_draw.binds (ps := ["_law_pool_here", "_law_many_here"]) fun _ _ _ _ _ _ us hl => match us, hl with | [_, _], _ => rfl
  have F_l_pick := fun_mk (st := s_l_pick) l_l_pick d_l_pick p_l_pick
  have b_l_pick := F_l_pick.binds (ps := ["_law_pool_here", "_law_things"]) fun _ _ _ _ _ _ us hl => match us, hl with | [_, _], _ => rfl
  have F_l_is := fun_mk (st := s_l_is) l_l_is d_l_is p_l_is
  have b_l_is := F_l_is.binds (ps := ["_law_told", "_law_due"]) fun _ _ _ _ _ _ us hl => match us, hl with | [_, _], _ => rfl
  have F_l_deep := fun_mk (st := s_l_deep) l_l_deep d_l_deep p_l_deep
  have b_l_deep := F_l_deep.binds (ps := []) fun _ _ _ _ _ _ us hl => match us, hl with | [], _ => rfl
  have F_l_is_number := fun_mk (st := s_l_is_number) l_l_is_number d_l_is_number p_l_is_number
  have b_l_is_number := F_l_is_number.binds (ps := ["_law_thing", "_law_least", "_law_most"]) fun _ _ _ _ _ _ us hl => match us, hl with | [_, _, _], _ => rfl
  have F_l_mixed := fun_mk (st := s_l_mixed) l_l_mixed d_l_mixed p_l_mixed
  have b_l_mixed := F_l_mixed.binds (ps := ["_law_pool_here", "_law_many_here"]) fun _ _ _ _ _ _ us hl => match us, hl with | [_, _], _ => rfl
  have F_l_hung := fun_mk (st := s_l_hung) l_l_hung d_l_hung p_l_hung
  have b_l_hung := F_l_hung.binds (ps := ["_law_pool_here", "_law_many_here"]) fun _ _ _ _ _ _ us hl => match us, hl with | [_, _], _ => rfl
  have F_l_many := fun_mk (st := s_l_many) l_l_many d_l_many p_l_many
  have b_l_many := F_l_many.binds (ps := ["_law_pool_here"]) fun _ _ _ _ _ _ us hl => match us, hl with | [_], _ => rfl
  have F_l_odd := fun_mk (st := s_l_odd) l_l_odd d_l_odd p_l_odd
  have b_l_odd := F_l_odd.binds (ps := ["_law_pool_here", "_law_most"]) fun _ _ _ _ _ _ us hl => match us, hl with | [_, _], _ => rfl
  have F_l_tree_due := fun_mk (st := s_l_tree_due) l_l_tree_due d_l_tree_due p_l_tree_due
  have b_l_tree_due := F_l_tree_due.binds (ps := ["_law_thing"]) fun _ _ _ _ _ _ us hl => match us, hl with | [_], _ => rfl
  have F_l_tree_word := fun_mk (st := s_l_tree_word) l_l_tree_word d_l_tree_word p_l_tree_word
  have b_l_tree_word := F_l_tree_word.binds (ps := ["_law_thing"]) fun _ _ _ _ _ _ us hl => match us, hl with | [_], _ => rfl
  have F_law := fun_mk (st := s_law) l_law d_law p_law
  have b_law := F_law.binds (ps := ["_law_script"]) fun _ _ _ _ _ _ us hl => match us, hl with | [_], _ => rfl
  have o_Tree : OwnC K C_Tree := ⟨⟨⟨pg_Tree, hd_Tree, po_Tree, sa_Tree⟩, ha_Tree, hn_Tree, ht_Tree, hm_Tree, me_Tree⟩, fun s hs => by
    rcases hs with rfl | rfl | rfl | rfl | rfl | rfl | rfl
    · exact ⟨ktNoneType_Tree, ntNoneType_Tree⟩
    · exact ⟨ktbool_Tree, ntbool_Tree⟩
    · exact ⟨ktint_Tree, ntint_Tree⟩
    · exact ⟨ktstr_Tree, ntstr_Tree⟩
    · exact ⟨ktlist_Tree, ntlist_Tree⟩
    · exact ⟨kttuple_Tree, nttuple_Tree⟩
    · exact ⟨ktdict_Tree, ntdict_Tree⟩⟩
  let T : Txt K mg := {
    z_abs := PySem.W.mg_none_of X G z_abs
    z_all := PySem.W.mg_none_of X G z_all
    z_bool := PySem.W.mg_none_of X G z_bool
    z_dict := PySem.W.mg_none_of X G z_dict
    z_int := PySem.W.mg_none_of X G z_int
    z_isinstance := PySem.W.mg_none_of X G z_isinstance
    z_len := PySem.W.mg_none_of X G z_len
    z_list := PySem.W.mg_none_of X G z_list
    z_range := PySem.W.mg_none_of X G z_range
    z_tuple := PySem.W.mg_none_of X G z_tuple
    k_HEAD := k_HEAD
    c_HEAD := PySem.W.mg_of X G c_HEAD
    k_MOST_BLOCKS := k_MOST_BLOCKS
    c_MOST_BLOCKS := PySem.W.mg_of X G c_MOST_BLOCKS
    C_Tree := C_Tree
    g_Tree := PySem.W.mg_of X G a_Tree
    C_BadTree := C_BadTree
    g_BadTree := PySem.W.mg_of X G a_BadTree
    C_VoteError := C_VoteError
    g_VoteError := PySem.W.mg_of X G a_VoteError
    f_BadTree_init := f_BadTree_init
    fd_BadTree_init := PySem.W.fnOf "__init__" "BadTree.__init__" (defArgs s_BadTree_init) (defBody s_BadTree_init) (defScope s_BadTree_init) .none kV_BadTree_init dc_BadTree_init pm_BadTree_init an_BadTree_init cd_BadTree_init ct_BadTree_init
    F_BadTree_init := F_BadTree_init
    b_BadTree_init := b_BadTree_init
    f_is_integer := f_is_integer
    fd_is_integer := PySem.W.fnOf "is_integer" "is_integer" (defArgs s_is_integer) (defBody s_is_integer) (defScope s_is_integer) .none kV_is_integer dc_is_integer pm_is_integer an_is_integer cd_is_integer ct_is_integer
    F_is_integer := F_is_integer
    b_is_integer := b_is_integer
    g_is_integer := PySem.W.mg_of X G a_is_integer
    f_is_within := f_is_within
    fd_is_within := PySem.W.fnOf "is_within" "is_within" (defArgs s_is_within) (defBody s_is_within) (defScope s_is_within) .none kV_is_within dc_is_within pm_is_within an_is_within cd_is_within ct_is_within
    F_is_within := F_is_within
    b_is_within := b_is_within
    g_is_within := PySem.W.mg_of X G a_is_within
    f_leads_home := f_leads_home
    fd_leads_home := PySem.W.fnOf "leads_home" "leads_home" (defArgs s_leads_home) (defBody s_leads_home) (defScope s_leads_home) .none kV_leads_home dc_leads_home pm_leads_home an_leads_home cd_leads_home ct_leads_home
    F_leads_home := F_leads_home
    b_leads_home := b_leads_home
    g_leads_home := PySem.W.mg_of X G a_leads_home
    f_Tree_init := f_Tree_init
    fd_Tree_init := PySem.W.fnOf "__init__" "Tree.__init__" (defArgs s_Tree_init) (defBody s_Tree_init) (defScope s_Tree_init) .none kV_Tree_init dc_Tree_init pm_Tree_init an_Tree_init cd_Tree_init ct_Tree_init
    F_Tree_init := F_Tree_init
    b_Tree_init := b_Tree_init
    f_Tree_eq := f_Tree_eq
    fd_Tree_eq := PySem.W.fnOf "__eq__" "Tree.__eq__" (defArgs s_Tree_eq) (defBody s_Tree_eq) (defScope s_Tree_eq) .none kV_Tree_eq dc_Tree_eq pm_Tree_eq an_Tree_eq cd_Tree_eq ct_Tree_eq
    F_Tree_eq := F_Tree_eq
    b_Tree_eq := b_Tree_eq
    f_l_pool := f_l_pool
    fd_l_pool := PySem.W.fnOf "_law_pool" "_law_pool" (defArgs s_l_pool) (defBody s_l_pool) (defScope s_l_pool) .none kV_l_pool dc_l_pool pm_l_pool an_l_pool cd_l_pool ct_l_pool
    F_l_pool := F_l_pool
    b_l_pool := b_l_pool
    g_l_pool := PySem.W.mg_of X G a_l_pool
    f_l_draw := f_l_draw
    fd_l_draw := PySem.W.fnOf "_law_draw" "_law_draw" (defArgs s_l_draw) (defBody s_l_draw) (defScope s_l_draw) .none kV_l_draw dc_l_draw pm_l_draw an_l_draw cd_l_draw ct_l_draw
    F_l_draw := F_l_draw
    b_l_draw := b_l_draw
    g_l_draw := PySem.W.mg_of X G a_l_draw
    f_l_pick := f_l_pick
    fd_l_pick := PySem.W.fnOf "_law_pick" "_law_pick" (defArgs s_l_pick) (defBody s_l_pick) (defScope s_l_pick) .none kV_l_pick dc_l_pick pm_l_pick an_l_pick cd_l_pick ct_l_pick
    F_l_pick := F_l_pick
    b_l_pick := b_l_pick
    g_l_pick := PySem.W.mg_of X G a_l_pick
    f_l_is := f_l_is
    fd_l_is := PySem.W.fnOf "_law_is" "_law_is" (defArgs s_l_is) (defBody s_l_is) (defScope s_l_is) .none kV_l_is dc_l_is pm_l_is an_l_is cd_l_is ct_l_is
    F_l_is := F_l_is
    b_l_is := b_l_is
    g_l_is := PySem.W.mg_of X G a_l_is
    f_l_deep := f_l_deep
    fd_l_deep := PySem.W.fnOf "_law_deep" "_law_deep" (defArgs s_l_deep) (defBody s_l_deep) (defScope s_l_deep) .none kV_l_deep dc_l_deep pm_l_deep an_l_deep cd_l_deep ct_l_deep
    F_l_deep := F_l_deep
    b_l_deep := b_l_deep
    g_l_deep := PySem.W.mg_of X G a_l_deep
    f_l_is_number := f_l_is_number
    fd_l_is_number := PySem.W.fnOf "_law_is_number" "_law_is_number" (defArgs s_l_is_number) (defBody s_l_is_number) (defScope s_l_is_number) .none kV_l_is_number dc_l_is_number pm_l_is_number an_l_is_number cd_l_is_number ct_l_is_number
    F_l_is_number := F_l_is_number
    b_l_is_number := b_l_is_number
    g_l_is_number := PySem.W.mg_of X G a_l_is_number
    f_l_mixed := f_l_mixed
    fd_l_mixed := PySem.W.fnOf "_law_mixed" "_law_mixed" (defArgs s_l_mixed) (defBody s_l_mixed) (defScope s_l_mixed) .none kV_l_mixed dc_l_mixed pm_l_mixed an_l_mixed cd_l_mixed ct_l_mixed
    F_l_mixed := F_l_mixed
    b_l_mixed := b_l_mixed
    g_l_mixed := PySem.W.mg_of X G a_l_mixed
    f_l_hung := f_l_hung
    fd_l_hung := PySem.W.fnOf "_law_hung" "_law_hung" (defArgs s_l_hung) (defBody s_l_hung) (defScope s_l_hung) .none kV_l_hung dc_l_hung pm_l_hung an_l_hung cd_l_hung ct_l_hung
    F_l_hung := F_l_hung
    b_l_hung := b_l_hung
    g_l_hung := PySem.W.mg_of X G a_l_hung
    f_l_many := f_l_many
    fd_l_many := PySem.W.fnOf "_law_many" "_law_many" (defArgs s_l_many) (defBody s_l_many) (defScope s_l_many) .none kV_l_many dc_l_many pm_l_many an_l_many cd_l_many ct_l_many
    F_l_many := F_l_many
    b_l_many := b_l_many
    g_l_many := PySem.W.mg_of X G a_l_many
    f_l_odd := f_l_odd
    fd_l_odd := PySem.W.fnOf "_law_odd" "_law_odd" (defArgs s_l_odd) (defBody s_l_odd) (defScope s_l_odd) .none kV_l_odd dc_l_odd pm_l_odd an_l_odd cd_l_odd ct_l_odd
    F_l_odd := F_l_odd
    b_l_odd := b_l_odd
    g_l_odd := PySem.W.mg_of X G a_l_odd
    f_l_tree_due := f_l_tree_due
    fd_l_tree_due := PySem.W.fnOf "_law_tree_due" "_law_tree_due" (defArgs s_l_tree_due) (defBody s_l_tree_due) (defScope s_l_tree_due) .none kV_l_tree_due dc_l_tree_due pm_l_tree_due an_l_tree_due cd_l_tree_due ct_l_tree_due
    F_l_tree_due := F_l_tree_due
    b_l_tree_due := b_l_tree_due
    g_l_tree_due := PySem.W.mg_of X G a_l_tree_due
    f_l_tree_word := f_l_tree_word
    fd_l_tree_word := PySem.W.fnOf "_law_tree_word" "_law_tree_word" (defArgs s_l_tree_word) (defBody s_l_tree_word) (defScope s_l_tree_word) .none kV_l_tree_word dc_l_tree_word pm_l_tree_word an_l_tree_word cd_l_tree_word ct_l_tree_word
    F_l_tree_word := F_l_tree_word
    b_l_tree_word := b_l_tree_word
    g_l_tree_word := PySem.W.mg_of X G a_l_tree_word
    f_law := fa
    fd_law := PySem.W.fnOf "law" "law" (defArgs s_law) (defBody s_law) (defScope s_law) .none kV_law dc_law pm_law an_law cd_law ct_law
    F_law := F_law
    b_law := b_law
    g_law := PySem.W.mg_of X G a_law
    M_Tree := ⟨mk_Tree, a_Tree_init, if_Tree, kc_Tree⟩
    o_Tree := o_Tree
    nf_Tree_hung := nf_Tree_hung
    e_Tree := a_Tree_eq
    ef_Tree := ef_Tree
    xc_BadTree := ⟨ic_BadTree, ga_BadTree, gt_BadTree, be_BadTree, hd_BadTree, ha_BadTree, hn_BadTree, ht_BadTree, hm_BadTree⟩
    te_BadTree := PySem.W.exm_ref be_BadTree hd_BadTree ty_BadTree ss_BadTree
    X_BadTree := ⟨⟨_, _, _, _, _, _, _, _, _, _, _, _, _, _, _, xL_BadTree, by rfl⟩, sa_BadTree, be_BadTree, ty_BadTree, kc_BadTree⟩
    i_BadTree := a_BadTree_init
    ti_BadTree := ti_BadTree
    nf_BadTree_part := nf_BadTree_part
    xc_VoteError := ⟨ic_VoteError, ga_VoteError, gt_VoteError, be_VoteError, hd_VoteError, ha_VoteError, hn_VoteError, ht_VoteError, hm_VoteError⟩
    te_VoteError := PySem.W.exm_ref be_VoteError hd_VoteError ty_VoteError ss_VoteError
    X_VoteError := ⟨⟨_, _, _, _, _, _, _, _, _, _, _, _, _, _, _, xL_VoteError, by rfl⟩, sa_VoteError, be_VoteError, ty_VoteError, kc_VoteError⟩
    kv_BadTree_VoteError := kv_BadTree_VoteError
  }
  refine ⟨PySem.W.fnOf "law" "law" (defArgs s_law) (defBody s_law) (defScope s_law) .none kV_law dc_law pm_law an_law cd_law ct_law, fun s v => .of_eq rfl, fun base _ _ => ?_⟩
  have G_BadTree_init := ok_BadTree_init (P := l.prog) (w := w) (base := base) T 
  have G_is_integer := ok_is_integer (P := l.prog) (w := w) (base := base) T 
  have G_is_within := ok_is_within (P := l.prog) (w := w) (base := base) T G_is_integer
  have G_leads_home := ok_leads_home (P := l.prog) (w := w) (base := base) T 
  have G_Tree_init := ok_Tree_init (P := l.prog) (w := w) (base := base) T G_BadTree_init G_is_within G_leads_home
  have G_Tree_eq := ok_Tree_eq (P := l.prog) (w := w) (base := base) T 
  have G_l_pool := ok_l_pool (P := l.prog) (w := w) (base := base) T 
  have G_l_draw := ok_l_draw (P := l.prog) (w := w) (base := base) T 
  have G_l_pick := ok_l_pick (P := l.prog) (w := w) (base := base) T G_l_draw
  have Gis : ∀ d, FnOk l.prog w K mg base CX0 d T.f_l_is T.fd_l_is ["_law_told", "_law_due"] (spIsN d) := fun d => by
    induction d with
    | zero => exact ⟨fun _ _ _ _ h => h.elim, fun _ _ _ _ _ _ _ _ _ _ _ _ _ h => h.elim⟩
    | succ d ih => exact ok_l_is T d ih
  have G_l_deep := ok_l_deep (P := l.prog) (w := w) (base := base) T 
  have G_l_is_number := ok_l_is_number (P := l.prog) (w := w) (base := base) T 
  have G_l_mixed := ok_l_mixed (P := l.prog) (w := w) (base := base) T G_l_draw
  have G_l_hung := ok_l_hung (P := l.prog) (w := w) (base := base) T G_l_draw G_l_mixed
  have G_l_many := ok_l_many (P := l.prog) (w := w) (base := base) T G_l_draw
  have G_l_odd := ok_l_odd (P := l.prog) (w := w) (base := base) T G_l_deep G_l_pick
  have G_l_tree_due := ok_l_tree_due (P := l.prog) (w := w) (base := base) T G_l_is_number
  have G_l_tree_word := ok_l_tree_word (P := l.prog) (w := w) (base := base) T G_Tree_init (Gis 2)
  exact ok_law (P := l.prog) (w := w) (base := base) T G_Tree_eq G_Tree_init G_l_deep G_l_draw G_l_hung (Gis 3) G_l_many G_l_odd G_l_pick G_l_pool G_l_tree_due G_l_tree_word
end Fv
open PySem PySem.W PyProof.Rows
set_option maxHeartbeats 0 in
theorem PySem.Challenge.cw_foldervotes_k01_trees_judged_holds : PySem.Challenge.rw_foldervotes_k01_trees_judged.Holds := by
  w_on; o_law; k_head; (case hw => w_witness2)
  k_fill
  refine L2.walk_of (l := PySem.Challenge.rw_foldervotes_k01_trees_judged) (n := 63) (k := 6) (x := "_law_script") (CX := fun _ => L2.CX0) (sp := fun w => Fv.spLaw _) rfl (by decide) rfl ⟨rfl, by decide, by decide⟩ (fun w h Y => PySem.W.kIn_of Y) ?F (fun _ _ a ns hl _ hS => ⟨a, ns, rfl, hS, hl, fun _ => rfl⟩) (fun _ _ _ _ _ h => h)
  case F =>
    intro w mg fa h KX G hmg
    refine' Fv.all_mk KX G hmg ?z_abs ?z_all ?z_bool ?z_dict ?z_int ?z_isinstance ?z_len ?z_list ?z_range ?z_tuple ?c_HEAD ?c_MOST_BLOCKS ?a_Tree ?a_BadTree ?a_VoteError ?a_BadTree_init ?l_BadTree_init ?d_BadTree_init ?p_BadTree_init ?a_is_integer ?l_is_integer ?d_is_integer ?p_is_integer ?a_is_within ?l_is_within ?d_is_within ?p_is_within ?a_leads_home ?l_leads_home ?d_leads_home ?p_leads_home ?a_Tree_init ?l_Tree_init ?d_Tree_init ?p_Tree_init ?a_Tree_eq ?l_Tree_eq ?d_Tree_eq ?p_Tree_eq ?a_l_pool ?l_l_pool ?d_l_pool ?p_l_pool ?a_l_draw ?l_l_draw ?d_l_draw ?p_l_draw ?a_l_pick ?l_l_pick ?d_l_pick ?p_l_pick ?a_l_is ?l_l_is ?d_l_is ?p_l_is ?a_l_deep ?l_l_deep ?d_l_deep ?p_l_deep ?a_l_is_number ?l_l_is_number ?d_l_is_number ?p_l_is_number ?a_l_mixed ?l_l_mixed ?d_l_mixed ?p_l_mixed ?a_l_hung ?l_l_hung ?d_l_hung ?p_l_hung ?a_l_many ?l_l_many ?d_l_many ?p_l_many ?a_l_odd ?l_l_odd ?d_l_odd ?p_l_odd ?a_l_tree_due ?l_l_tree_due ?d_l_tree_due ?p_l_tree_due ?a_l_tree_word ?l_l_tree_word ?d_l_tree_word ?p_l_tree_word ?a_law ?l_law ?d_law ?p_law ?pg_Tree ?hd_Tree ?po_Tree ?sa_Tree ?mk_Tree ?kc_Tree ?ha_Tree ?hn_Tree ?ht_Tree ?hm_Tree ?me_Tree ?ktNoneType_Tree ?ntNoneType_Tree ?ktbool_Tree ?ntbool_Tree ?ktint_Tree ?ntint_Tree ?ktstr_Tree ?ntstr_Tree ?ktlist_Tree ?ntlist_Tree ?kttuple_Tree ?nttuple_Tree ?ktdict_Tree ?ntdict_Tree ?if_Tree ?nf_Tree_hung ?ef_Tree ?sa_BadTree ?be_BadTree ?ty_BadTree ?kc_BadTree ?ic_BadTree ?ss_BadTree ?ga_BadTree ?gt_BadTree ?hd_BadTree ?ha_BadTree ?hn_BadTree ?ht_BadTree ?hm_BadTree ?xL_BadTree ?ti_BadTree ?nf_BadTree_part ?sa_VoteError ?be_VoteError ?ty_VoteError ?kc_VoteError ?ic_VoteError ?ss_VoteError ?ga_VoteError ?gt_VoteError ?hd_VoteError ?ha_VoteError ?hn_VoteError ?ht_VoteError ?hm_VoteError ?xL_VoteError ?kv_BadTree_VoteError
    (case z_abs => k_is)
    (case z_all => k_is)
    (case z_bool => k_is)
    (case z_dict => k_is)
    (case z_int => k_is)
    (case z_isinstance => k_is)
    (case z_len => k_is)
    (case z_list => k_is)
    (case z_range => k_is)
    (case z_tuple => k_is)
    (case c_HEAD => k_is)
    (case c_MOST_BLOCKS => k_is)
    (case a_Tree => k_is)
    (case a_BadTree => k_is)
    (case a_VoteError => k_is)
    (case a_BadTree_init => k_is)
    (case l_BadTree_init => k_is)
    (case d_BadTree_init => k_is)
    (case p_BadTree_init => k_is)
    (case a_is_integer => k_is)
    (case l_is_integer => k_is)
    (case d_is_integer => k_is)
    (case p_is_integer => k_is)
    (case a_is_within => k_is)
    (case l_is_within => k_is)
    (case d_is_within => k_is)
    (case p_is_within => k_is)
    (case a_leads_home => k_is)
    (case l_leads_home => k_is)
    (case d_leads_home => k_is)
    (case p_leads_home => k_is)
    (case a_Tree_init => k_is)
    (case l_Tree_init => k_is)
    (case d_Tree_init => k_is)
    (case p_Tree_init => k_is)
    (case a_Tree_eq => k_is)
    (case l_Tree_eq => k_is)
    (case d_Tree_eq => k_is)
    (case p_Tree_eq => k_is)
    (case a_l_pool => k_is)
    (case l_l_pool => k_is)
    (case d_l_pool => k_is)
    (case p_l_pool => k_is)
    (case a_l_draw => k_is)
    (case l_l_draw => k_is)
    (case d_l_draw => k_is)
    (case p_l_draw => k_is)
    (case a_l_pick => k_is)
    (case l_l_pick => k_is)
    (case d_l_pick => k_is)
    (case p_l_pick => k_is)
    (case a_l_is => k_is)
    (case l_l_is => k_is)
    (case d_l_is => k_is)
    (case p_l_is => k_is)
    (case a_l_deep => k_is)
    (case l_l_deep => k_is)
    (case d_l_deep => k_is)
    (case p_l_deep => k_is)
    (case a_l_is_number => k_is)
    (case l_l_is_number => k_is)
    (case d_l_is_number => k_is)
    (case p_l_is_number => k_is)
    (case a_l_mixed => k_is)
    (case l_l_mixed => k_is)
    (case d_l_mixed => k_is)
    (case p_l_mixed => k_is)
    (case a_l_hung => k_is)
    (case l_l_hung => k_is)
    (case d_l_hung => k_is)
    (case p_l_hung => k_is)
    (case a_l_many => k_is)
    (case l_l_many => k_is)
    (case d_l_many => k_is)
    (case p_l_many => k_is)
    (case a_l_odd => k_is)
    (case l_l_odd => k_is)
    (case d_l_odd => k_is)
    (case p_l_odd => k_is)
    (case a_l_tree_due => k_is)
    (case l_l_tree_due => k_is)
    (case d_l_tree_due => k_is)
    (case p_l_tree_due => k_is)
    (case a_l_tree_word => k_is)
    (case l_l_tree_word => k_is)
    (case d_l_tree_word => k_is)
    (case p_l_tree_word => k_is)
    (case a_law => k_is)
    (case l_law => k_is)
    (case d_law => k_is)
    (case p_law => k_is)
    (case pg_Tree => k_is)
    (case hd_Tree => k_is)
    (case po_Tree => k_is)
    (case sa_Tree => k_is)
    (case mk_Tree => k_is)
    (case kc_Tree => k_is)
    (case ha_Tree => k_is)
    (case hn_Tree => k_is)
    (case ht_Tree => k_is)
    (case hm_Tree => k_is)
    (case me_Tree => kit_is)
    (case ktNoneType_Tree => kit_is)
    (case ntNoneType_Tree => k_is)
    (case ktbool_Tree => kit_is)
    (case ntbool_Tree => k_is)
    (case ktint_Tree => kit_is)
    (case ntint_Tree => k_is)
    (case ktstr_Tree => kit_is)
    (case ntstr_Tree => k_is)
    (case ktlist_Tree => kit_is)
    (case ntlist_Tree => k_is)
    (case kttuple_Tree => kit_is)
    (case nttuple_Tree => k_is)
    (case ktdict_Tree => kit_is)
    (case ntdict_Tree => k_is)
    (case if_Tree => k_is)
    (case nf_Tree_hung => k_is)
    (case ef_Tree => k_is)
    (case sa_BadTree => k_is)
    (case be_BadTree => k_is)
    (case ty_BadTree => k_is)
    (case kc_BadTree => k_is)
    (case ic_BadTree => k_is)
    (case ss_BadTree => first | rfl | k_is)
    (case ga_BadTree => k_is)
    (case gt_BadTree => k_is)
    (case hd_BadTree => k_is)
    (case ha_BadTree => k_is)
    (case hn_BadTree => k_is)
    (case ht_BadTree => k_is)
    (case hm_BadTree => k_is)
    (case xL_BadTree => k_is)
    (case ti_BadTree => k_is)
    (case nf_BadTree_part => k_is)
    (case sa_VoteError => k_is)
    (case be_VoteError => k_is)
    (case ty_VoteError => k_is)
    (case kc_VoteError => k_is)
    (case ic_VoteError => k_is)
    (case ss_VoteError => first | rfl | k_is)
    (case ga_VoteError => k_is)
    (case gt_VoteError => k_is)
    (case hd_VoteError => k_is)
    (case ha_VoteError => k_is)
    (case hn_VoteError => k_is)
    (case ht_VoteError => k_is)
    (case hm_VoteError => k_is)
    (case xL_VoteError => k_is)
    (case kv_BadTree_VoteError => kit_is)

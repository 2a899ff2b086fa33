import PyProof.Rows.All
import Wide.All
import OpenK.AllK
import Wide.FinOn
import HandS.ForMost
import HandS.ForExc
import HandS.ExcInit
import HandS.ExcField
import HandS.ExcIs
import HandS.IsInst
import HandS.Conv
import HandS.TupAny
import HandS.TupMul
import HandS.SortInts
import HandS.OwnEq
import HandS.Codes
import KE.KExcIs
import HandS.ExcValue
import HandS.Strs
import HandS.SortInts
import PyProof.InstNe
import PyProof.TupleOfSeq
import HandS.SortRule
import KE.RegKIsAll
import PySem.Challenge.RW_foldervotes_k03_whole_tellings_by_own_wa
set_option Elab.async false
set_option linter.all false
set_option maxRecDepth 100000
set_option maxHeartbeats 4000000
namespace Fv
open PySem PySem.Spec PyProof.Rows L2


/-! ### readings in short -/
abbrev xAdd : R2 := rI0 fun i j => .int (i + j)
abbrev xSub : R2 := rI0 fun i j => .int (i - j)
abbrev xMul : R2 := rI CMul fun i j => .int (i * j)
abbrev xDiv : R2 := rI CDivN fun i j => .int (i.fdiv j)
abbrev xMod : R2 := rI (fun _ j => 0 < j) fun i j => .int (i % j)
abbrev xPow : R2 := rI CPow fun i j => .int (i ^ j.toNat)
abbrev xLt : R2 := rI0 fun i j => .bl (decide (i < j))
abbrev xLe : R2 := rI0 fun i j => .bl (decide (i ≤ j))
abbrev xGt : R2 := rI0 fun i j => .bl (decide (j < i))
abbrev xGe : R2 := rI0 fun i j => .bl (decide (j ≤ i))
abbrev xNeg : V → Hp → VK → Prop := rU fun i => .int (-i)
def xIsN : R2 := fun x y H Q => y = .non ∧ Q (.bl (decide (x = .non))) H
def xNotN : R2 := fun x y H Q => y = .non ∧ Q (.bl (!decide (x = .non))) H
def xAddStr : R2 := fun x y H Q => ∃ i j, x = .str i ∧ y = .str j ∧ i.length + j.length ≤ sizeLine ∧ Q (.str (i ++ j)) H
def xAbs : List V → Hp → VK → Prop := fun xs H Q => ∃ i, xs = [.int i] ∧ Q (.int (if i < 0 then -i else i)) H
def xInt : List V → Hp → VK → Prop := fun xs H Q => (∃ i, xs = [.int i] ∧ Q (.int i) H) ∨ ∃ k, xs = [.bl k] ∧ Q (.int (if k then 1 else 0)) H
def xLen (K : PySem.W.Frag) : List V → Hp → VK → Prop := fun xs H Q => ∃ p ys, xs = [.ref p] ∧ (SqL K H p ys ∨ SqT K H p ys) ∧ Q (.int ys.length) H
def xLenD : List V → Hp → VK → Prop := fun xs H Q => ∃ a kvs, xs = [V.ref a] ∧ H a = some (.dK kvs) ∧ Q (.int kvs.length) H
def xLenS : List V → Hp → VK → Prop := fun xs H Q => ∃ z, xs = [.str z] ∧ z.length ≤ sizeLine ∧ Q (.int z.length) H
def xListOf (K : PySem.W.Frag) : List V → Hp → VK → Prop := fun xs H Q => ∃ p ys, xs = [.ref p] ∧ (SqL K H p ys ∨ SqT K H p ys) ∧ ∀ l, H l = none → Q (.ref l) (upd H l (.lst ys))
def xTupleOf (K : PySem.W.Frag) : List V → Hp → VK → Prop := fun xs H Q => ∃ p ys, xs = [.ref p] ∧ ((SqL K H p ys ∧ ∀ l, H l = none → Q (.ref l) (upd H l (.tup ys))) ∨ (SqT K H p ys ∧ Q (.ref p) H))

/-! ### steps -/
section
variable {K : PySem.W.Frag} {σ : L2.St} {H : Hp} {Q : VK} {D : Ends} {ta tb te tc : TE} {t u : TS} {tt tu : TT} {r r' : R2} {i j : Int} {x y v : V} {a : Addr} {xs : List V}
theorem v_seq (h : t { D with nx := u D } σ H) : tSeq t u D σ H := h
theorem v_cut (Mid : L2.St → Hp → Prop) (h : t { D with nx := Mid } σ H) (k : ∀ σ' H', Mid σ' H' → u D σ' H') : C8.tCut t u D σ H := ⟨Mid, h, k⟩
theorem v_next (h : D.nx σ H) : tNext D σ H := h
theorem v_ret (h : te σ H D.rt) : tRet te D σ H := h
theorem v_retN (h : D.rt .non H) : tRetN D σ H := h
theorem v_drop (h : te σ H fun _ H1 => D.nx σ H1) : tDrop te D σ H := h
theorem v_asg {g : TG} (h : te σ H fun x H1 => g x σ H1 D.nx) : tAsg te g D σ H := h
theorem v_ifs (h : tt σ H fun b H1 => if b = true then t D σ H1 else u D σ H1) : tIfS tt t u D σ H := h
theorem v_name {k : Nat} {R : L2.St → Hp → Prop} (h : R (σ.set k (some v)) H) : gName k v σ H R := h
theorem v_sub {to ti : TE} {s : V → V → V → Hp → (Hp → Prop) → Prop} {R : L2.St → Hp → Prop} (h : to σ H fun o H1 => ti σ H1 fun i H2 => s o i v H2 fun H3 => R σ H3) : gSub to ti s v σ H R := h
theorem v_setL {k : Int} {j : Nat} {R : Hp → Prop} (h : H a = some (.lst xs)) (hj : ixN xs.length k = some j) (q : R (upd H a (.lst (xs.set j v)))) : rSetL (.ref a) (.int k) v H R := ⟨a, xs, k, j, rfl, rfl, h, hj, q⟩
theorem v_var {k : Nat} (h : σ[k]? = some (some v)) (q : Q v H) : tVar k σ H Q := ⟨v, h, q⟩
theorem v_c (q : Q v H) : tC v σ H Q := q
theorem v_op (h : ta σ H fun x H1 => tb σ H1 fun y H2 => r x y H2 Q) : tOp r ta tb σ H Q := h
theorem v_un {f : V → Hp → VK → Prop} (h : ta σ H fun x H1 => f x H1 Q) : tUn f ta σ H Q := h
theorem v_I0 {g : Int → Int → V} (q : Q (g i j) H) : rI0 g (.int i) (.int j) H Q := ⟨i, j, rfl, rfl, q⟩
theorem v_I {C : Int → Int → Prop} {g : Int → Int → V} (c : C i j) (q : Q (g i j) H) : rI C g (.int i) (.int j) H Q := ⟨i, j, rfl, rfl, c, q⟩
theorem v_U {g : Int → V} (q : Q (g i) H) : rU g (.int i) H Q := ⟨i, rfl, q⟩
theorem v_eqI (q : Q (.bl (decide (i = j))) H) : rEq (.int i) (.int j) H Q := ⟨rfl, by
  have e : decide (V.int i = V.int j) = decide (i = j) := by rw [Bool.eq_iff_iff]; simp
  rw [e]; exact q⟩
theorem v_neI (q : Q (.bl (!decide (i = j))) H) : rNe (.int i) (.int j) H Q := ⟨rfl, by
  have e : decide (V.int i = V.int j) = decide (i = j) := by rw [Bool.eq_iff_iff]; simp
  rw [e]; exact q⟩
theorem v_eqB {b c : Bool} (q : Q (.bl (decide (b = c))) H) : rEq (.bl b) (.bl c) H Q := ⟨rfl, by
  have e : decide (V.bl b = V.bl c) = decide (b = c) := by rw [Bool.eq_iff_iff]; simp
  rw [e]; exact q⟩
theorem v_neB {b c : Bool} (q : Q (.bl (!decide (b = c))) H) : rNe (.bl b) (.bl c) H Q := ⟨rfl, by
  have e : decide (V.bl b = V.bl c) = decide (b = c) := by rw [Bool.eq_iff_iff]; simp
  rw [e]; exact q⟩
theorem v_isN (q : Q (.bl (decide (x = .non))) H) : xIsN x .non H Q := ⟨rfl, q⟩
theorem v_notN (q : Q (.bl (!decide (x = .non))) H) : xNotN x .non H Q := ⟨rfl, q⟩
theorem v_ixL {n : Int} (h : SqL K H a xs) (ha : atI xs n = some v) (q : Q v H) : rIxL K (.ref a) (.int n) H Q := ⟨a, xs, n, v, rfl, rfl, h, ha, q⟩
theorem v_ixT {n : Int} (h : SqT K H a xs) (ha : atI xs n = some v) (q : Q v H) : rIxT K (.ref a) (.int n) H Q := ⟨a, xs, n, v, rfl, rfl, h, ha, q⟩
theorem v_cb {f : List V → Hp → VK → Prop} {tx : TA} (h : tx σ H fun vs H1 => f vs H1 Q) : tCB f tx σ H Q := h
theorem v_call {sp : Sp} {dvs : List V} {E : XK} {tx : TA} (h : tx σ H fun vs H1 => sp (vs ++ dvs) H1 Q E) : tCall sp dvs E tx σ H Q := h
theorem v_nil {R : List V → Hp → Prop} (h : R [] H) : tNil σ H R := h
theorem v_cons {tr : TA} {R : List V → Hp → Prop} (h : ta σ H fun x H1 => tr σ H1 fun xs H2 => R (x :: xs) H2) : tCons ta tr σ H R := h
theorem v_abs (q : Q (.int (if i < 0 then -i else i)) H) : xAbs [.int i] H Q := ⟨i, rfl, q⟩
theorem v_int (q : Q (.int i) H) : xInt [.int i] H Q := .inl ⟨i, rfl, q⟩
theorem v_lenL (h : SqL K H a xs) (q : Q (.int xs.length) H) : xLen K [.ref a] H Q := ⟨a, xs, rfl, .inl h, q⟩
theorem v_lenT (h : SqT K H a xs) (q : Q (.int xs.length) H) : xLen K [.ref a] H Q := ⟨a, xs, rfl, .inr h, q⟩
theorem v_lst {tx : TA} (h : tx σ H fun xs H1 => xs.length ≤ sizeLine ∧ ∀ p, H1 p = none → Q (.ref p) (upd H1 p (.lst xs))) : tLst tx σ H Q := h
theorem v_tup {tx : TA} (h : tx σ H fun xs H1 => xs.length ≤ sizeLine ∧ ∀ p, H1 p = none → Q (.ref p) (upd H1 p (.tup xs))) : tTup tx σ H Q := h
theorem v_bound {n : Nat} {A : Prop} (h : n ≤ 1000) (q : A) : n ≤ sizeLine ∧ A := ⟨Nat.le_of_lt (small1000 h), q⟩
theorem v_sl {f : V → Option Int → Option Int → Hp → VK → Prop} {tl th : TO} (h : te σ H fun x H1 => tl σ H1 fun l H2 => th σ H2 fun u H3 => f x l u H3 Q) : tSl f te tl th σ H Q := h
theorem v_nopart {R : Option Int → Hp → Prop} (h : R none H) : tNoPart σ H R := h
theorem v_part {R : Option Int → Hp → Prop} (h : te σ H fun x H1 => ∃ i, x = .int i ∧ R (some i) H1) : tPart te σ H R := h
theorem v_partI {R : Int → Prop} (q : R i) : ∃ k, V.int i = .int k ∧ R k := ⟨i, rfl, q⟩
theorem v_slL {lo hi : Option Int} (h : SqL K H a xs) (q : ∀ p, H p = none → Q (.ref p) (upd H p (.lst (cutV xs lo hi)))) : rSlL K (.ref a) lo hi H Q := ⟨a, xs, rfl, h, q⟩
theorem v_cat {b : Addr} {ys : List V} (h : H a = some (.lst xs)) (h' : H b = some (.lst ys)) (l : xs.length + ys.length ≤ 1000) (q : ∀ p, H p = none → Q (.ref p) (upd H p (.lst (xs ++ ys)))) : rCat (.ref a) (.ref b) H Q :=
  ⟨a, b, xs, ys, rfl, rfl, h, h', Nat.le_of_lt (small1000 l), q⟩
theorem v_if (h : tt σ H fun c H1 => if c = true then ta σ H1 Q else tb σ H1 Q) : tIf tt ta tb σ H Q := h
theorem v_chain (h : ta σ H fun x H1 => tb σ H1 fun y H2 => r x y H2 fun z H3 => ∃ k, z = .bl k ∧ (if k = true then tc σ H3 fun w' H4 => r' y w' H4 Q else Q (.bl false) H3)) : tChain r r' ta tb tc σ H Q := h
theorem v_andV (h : ta σ H fun x H1 => ∃ c, x = .bl c ∧ if c = true then tb σ H1 Q else Q (.bl false) H1) : tAndV ta tb σ H Q := h
theorem v_orV (h : ta σ H fun x H1 => ∃ c, x = .bl c ∧ if c = true then Q (.bl true) H1 else tb σ H1 Q) : tOrV ta tb σ H Q := h
theorem v_notV (h : ta σ H fun x H1 => ∃ c, x = .bl c ∧ Q (.bl (!c)) H1) : tNotV ta σ H Q := h
theorem v_bl {b : Bool} {A : Bool → Prop} (q : A b) : ∃ c, V.bl b = .bl c ∧ A c := ⟨b, rfl, q⟩
theorem v_and {R : Bool → Hp → Prop} (h : tt σ H fun c H1 => if c = true then tu σ H1 R else R false H1) : tAnd tt tu σ H R := h
theorem v_or {R : Bool → Hp → Prop} (h : tt σ H fun c H1 => if c = true then R true H1 else tu σ H1 R) : tOr tt tu σ H R := h
theorem v_not {R : Bool → Hp → Prop} (h : tt σ H fun c H1 => R (!c) H1) : tNot tt σ H R := h
theorem v_test {R : Bool → Hp → Prop} (h : ta σ H fun x H1 => ∃ k, x = .bl k ∧ R k H1) : tTest ta σ H R := h
theorem v_B {R : Bool → Hp → Prop} (h : ta σ H fun x H1 => ∃ k, x = .bl k ∧ R k H1) : tB ta σ H R := h
theorem v_yes {R : Bool → Hp → Prop} (h : R true H) : tYes σ H R := h
theorem v_dnew (q : ∀ p, H p = none → Q (.ref p) (upd H p (.dK []))) : tDNewK σ H Q := q
end
section
variable {A B : Prop}
theorem v_iteT (h : A) : if true = true then A else B := by rw [if_pos rfl]; exact h
theorem v_iteF (h : B) : if false = true then A else B := by rw [if_neg Bool.false_ne_true]; exact h
theorem v_iteNT (h : B) : if (!true) = true then A else B := v_iteF h
theorem v_iteNF (h : A) : if (!false) = true then A else B := v_iteT h
theorem v_ite {P : Prop} {dP : Decidable P} (h1 : P → A) (h2 : ¬ P → B) : if decide P = true then A else B := by
  by_cases h : P
  · rw [if_pos (decide_eq_true h)]; exact h1 h
  · rw [if_neg (by rw [decide_eq_false h]; decide)]; exact h2 h
theorem v_iteN {P : Prop} {dP : Decidable P} (h1 : ¬ P → A) (h2 : P → B) : if (!decide P) = true then A else B := by
  by_cases h : P
  · rw [if_neg (by rw [decide_eq_true h]; decide)]; exact h2 h
  · rw [if_pos (by rw [decide_eq_false h]; decide)]; exact h1 h
theorem v_iteB {b : Bool} (h1 : b = true → A) (h2 : b = false → B) : if b = true then A else B := by
  cases b with
  | true => rw [if_pos rfl]; exact h1 rfl
  | false => rw [if_neg Bool.false_ne_true]; exact h2 rfl
end


/-! ### loops -/
def LoopG (J : It) (g : TG) (tb : TS) (D : Ends) (σ : L2.St) (H : Hp) : Prop := ∃ W : Nat → Nat → L2.St → Hp → Prop, (∃ m, W 0 m σ H) ∧ ∀ i m σ H, W i m σ H →
  (J.stop i H ∧ D.nx σ H) ∨ (J.go i H ∧ ∃ N : L2.St → Hp → Prop, (∀ σ' H', N σ' H' → ∃ m', m' < m ∧ W (i + 1) m' σ' H') ∧ ∀ x H', J.yld i H x H' → g x σ H' fun σ2 H2 => tb { D with nx := N, ct := N, bk := D.nx } σ2 H2)
def LcG (J : It) (g : TG) (tt : TT) (te : TE) (vs : List Nat) (σ : L2.St) (H1 : Hp) (Q : VK) : Prop := ∀ D, H1 D = none → ∃ W : Nat → Nat → Hp → Prop, (∃ m, W 0 m (upd H1 D (.lst []))) ∧ ∀ i m H, W i m H →
  (J.stop i H ∧ Q (.ref D) H) ∨ (J.go i H ∧ ∃ Nx : Hp → Prop, (∀ H', Nx H' → ∃ m', m' < m ∧ W (i + 1) m' H') ∧ ∀ x H', J.yld i H x H' → g x (wipe σ vs) H' fun σ2 H2 => wipe σ2 vs = wipe σ vs ∧ tt σ2 H2 fun b H3 =>
    if b = true then te σ2 H3 fun y H4 => ∃ acc, H4 D = some (.lst acc) ∧ acc.length < sizeLine ∧ Nx (upd H4 D (.lst (acc ++ [y]))) else Nx H3)
def Rg1K (vs : List V) (R : It → Hp → Prop) (H : Hp) : Prop := ∃ j : Int, vs = [.int j] ∧ -(2 ^ 62) ≤ j ∧ j < 2 ^ 62 ∧ R (Itr 0 j.toNat) H
def Rg2K (vs : List V) (R : It → Hp → Prop) (H : Hp) : Prop := ∃ i j : Int, vs = [.int i, .int j] ∧ (-(2 ^ 62) ≤ i ∧ i < 2 ^ 62 ∧ -(2 ^ 62) ≤ j ∧ j < 2 ^ 62) ∧ R (Itr i (j - i).toNat) H
def ItLK (K : PySem.W.Frag) (x : V) (R : It → Hp → Prop) (H : Hp) : Prop := ∃ a, x = .ref a ∧ (∃ xs, SqL K H a xs) ∧ R (Itl K a) H
def ItTK (K : PySem.W.Frag) (x : V) (R : It → Hp → Prop) (H : Hp) : Prop := ∃ a, x = .ref a ∧ (∃ xs, SqT K H a xs) ∧ R (Itt K a) H
section
variable {K : PySem.W.Frag} {σ : L2.St} {H : Hp} {D : Ends} {ta : TA} {te : TE} {tt : TT} {tb : TS} {g : TG} {wi : TI} {R : It → Hp → Prop} {Q : VK} {a : Addr} {xs : List V} {vs : List Nat}
theorem v_for (h : wi σ H fun J H1 => LoopG J g tb D σ H1) : tFor wi g tb D σ H := h
theorem v_lc (h : wi σ H fun J H1 => LcG J g tt te vs σ H1 Q) : tLc wi g tt te vs σ H Q := h
theorem v_iR1 (h : ta σ H fun vs H1 => Rg1K vs R H1) : iRng1 ta σ H R := h
theorem v_iR2 (h : ta σ H fun vs H1 => Rg2K vs R H1) : iRng2 ta σ H R := h
theorem v_iL (h : te σ H fun x H1 => ItLK K x R H1) : iList K te σ H R := h
theorem v_iT (h : te σ H fun x H1 => ItTK K x R H1) : iTup K te σ H R := h
theorem v_rg1 {e : Int} (b : -1000000 ≤ e ∧ e ≤ 1000000) (q : R (Itr 0 e.toNat) H) : Rg1K [.int e] R H := ⟨e, rfl, by omega, by omega, q⟩
theorem v_rg2 {lo e : Int} (b : -1000000 ≤ lo ∧ lo ≤ 1000000 ∧ -1000000 ≤ e ∧ e ≤ 1000000) (q : R (Itr lo (e - lo).toNat) H) : Rg2K [.int lo, .int e] R H := ⟨lo, e, rfl, ⟨by omega, by omega, by omega, by omega⟩, q⟩
theorem v_itL (h : SqL K H a xs) (q : R (Itl K a) H) : ItLK K (.ref a) R H := ⟨a, rfl, ⟨xs, h⟩, q⟩
theorem v_itT (h : SqT K H a xs) (q : R (Itt K a) H) : ItTK K (.ref a) R H := ⟨a, rfl, ⟨xs, h⟩, q⟩
/-- for i in range(e): W says what holds ahead of turn i -/
theorem v_loop0 {e : Int} (W : Nat → L2.St → Hp → Prop) (h0 : W 0 σ H) (hs : ∀ (i : Nat) σ' H', (i : Int) < e → W i σ' H' → g (.int i) σ' H' fun σ2 H2 => tb { D with nx := W (i + 1), ct := W (i + 1), bk := D.nx } σ2 H2)
    (hd : ∀ σ' H', W e.toNat σ' H' → D.nx σ' H') : LoopG (Itr 0 e.toNat) g tb D σ H := for_range (lo := 0) (n := e.toNat) W h0 (fun i σ' H' hi w => by
      have z : (0 : Int) + (i : Int) = (i : Int) := Int.zero_add _
      rw [z]
      exact hs i σ' H' (by omega) w) hd
theorem v_loop2 {lo e : Int} (W : Nat → L2.St → Hp → Prop) (h0 : W 0 σ H) (hs : ∀ (i : Nat) σ' H', lo + (i : Int) < e → W i σ' H' → g (.int (lo + i)) σ' H' fun σ2 H2 => tb { D with nx := W (i + 1), ct := W (i + 1), bk := D.nx } σ2 H2)
    (hd : ∀ σ' H', W (e - lo).toNat σ' H' → D.nx σ' H') : LoopG (Itr lo (e - lo).toNat) g tb D σ H := for_range (lo := lo) (n := (e - lo).toNat) W h0 (fun i σ' H' hi w => hs i σ' H' (by omega) w) hd
theorem v_loopL (W : Nat → L2.St → Hp → Prop) (h0 : W 0 σ H) (hl : ∀ i σ H, i ≤ xs.length → W i σ H → SqL K H a xs)
    (hs : ∀ i x σ' H', xs[i]? = some x → W i σ' H' → g x σ' H' fun σ2 H2 => tb { D with nx := W (i + 1), ct := W (i + 1), bk := D.nx } σ2 H2) (hd : ∀ σ' H', W xs.length σ' H' → D.nx σ' H') : LoopG (Itl K a) g tb D σ H := for_list W h0 hl hs hd
theorem v_loopT (W : Nat → L2.St → Hp → Prop) (h0 : W 0 σ H) (hl : ∀ i σ H, i ≤ xs.length → W i σ H → SqT K H a xs)
    (hs : ∀ i x σ' H', xs[i]? = some x → W i σ' H' → g x σ' H' fun σ2 H2 => tb { D with nx := W (i + 1), ct := W (i + 1), bk := D.nx } σ2 H2) (hd : ∀ σ' H', W xs.length σ' H' → D.nx σ' H') : LoopG (Itt K a) g tb D σ H := for_tup W h0 hl hs hd
/-- a comprehension's turn: what is made so far stands at A -/
def LcT (g : TG) (tt : TT) (te : TE) (vs : List Nat) (σ : L2.St) (A : Addr) (x : V) (H : Hp) (N : Hp → Prop) : Prop := g x (wipe σ vs) H fun σ2 H2 => wipe σ2 vs = wipe σ vs ∧ tt σ2 H2 fun b H3 =>
  if b = true then te σ2 H3 fun y H4 => ∃ acc, H4 A = some (.lst acc) ∧ acc.length < sizeLine ∧ N (upd H4 A (.lst (acc ++ [y]))) else N H3
theorem v_lc0 {e : Int} (W : Addr → Nat → Hp → Prop) (h0 : ∀ A, H A = none → W A 0 (upd H A (.lst []))) (hs : ∀ A (i : Nat) H', H A = none → (i : Int) < e → W A i H' → LcT g tt te vs σ A (.int i) H' (W A (i + 1)))
    (hd : ∀ A H', H A = none → W A e.toNat H' → Q (.ref A) H') : LcG (Itr 0 e.toNat) g tt te vs σ H Q := fun A nA => lc_range (lo := 0) (n := e.toNat) (W A) (h0 A nA) (fun i H' hi w => by
      have z : (0 : Int) + (i : Int) = (i : Int) := Int.zero_add _
      rw [z]
      exact hs A i H' nA (by omega) w) fun H' w => hd A H' nA w
theorem v_lc2 {lo e : Int} (W : Addr → Nat → Hp → Prop) (h0 : ∀ A, H A = none → W A 0 (upd H A (.lst []))) (hs : ∀ A (i : Nat) H', H A = none → lo + (i : Int) < e → W A i H' → LcT g tt te vs σ A (.int (lo + i)) H' (W A (i + 1)))
    (hd : ∀ A H', H A = none → W A (e - lo).toNat H' → Q (.ref A) H') : LcG (Itr lo (e - lo).toNat) g tt te vs σ H Q := fun A nA => lc_range (lo := lo) (n := (e - lo).toNat) (W A) (h0 A nA) (fun i H' hi w => hs A i H' nA (by omega) w) fun H' w => hd A H' nA w
theorem v_lcL (W : Addr → Nat → Hp → Prop) (h0 : ∀ A, H A = none → W A 0 (upd H A (.lst []))) (hl : ∀ A i H', H A = none → i ≤ xs.length → W A i H' → SqL K H' a xs)
    (hs : ∀ A i x H', H A = none → xs[i]? = some x → W A i H' → LcT g tt te vs σ A x H' (W A (i + 1))) (hd : ∀ A H', H A = none → W A xs.length H' → Q (.ref A) H') : LcG (Itl K a) g tt te vs σ H Q := fun A nA =>
  lc_list (xs := xs) (W A) (h0 A nA) (fun i H' hi w => hl A i H' nA hi w) (fun i x H' hx w => hs A i x H' nA hx w) fun H' w => hd A H' nA w
theorem v_lcT (W : Addr → Nat → Hp → Prop) (h0 : ∀ A, H A = none → W A 0 (upd H A (.lst []))) (hl : ∀ A i H', H A = none → i ≤ xs.length → W A i H' → SqT K H' a xs)
    (hs : ∀ A i x H', H A = none → xs[i]? = some x → W A i H' → LcT g tt te vs σ A x H' (W A (i + 1))) (hd : ∀ A H', H A = none → W A xs.length H' → Q (.ref A) H') : LcG (Itt K a) g tt te vs σ H Q := fun A nA =>
  lc_tup (xs := xs) (W A) (h0 A nA) (fun i H' hi w => hl A i H' nA hi w) (fun i x H' hx w => hs A i x H' nA hx w) fun H' w => hd A H' nA w
/-- a turn of a comprehension with one name in slot i -/
theorem v_turn {i : Nat} {A : Addr} {x : V} {N : Hp → Prop} (e : wipe ((wipe σ vs).set i (some x)) vs = wipe σ vs) (h : tt ((wipe σ vs).set i (some x)) H fun b H3 =>
    if b = true then te ((wipe σ vs).set i (some x)) H3 fun y H4 => ∃ acc, H4 A = some (.lst acc) ∧ acc.length < sizeLine ∧ N (upd H4 A (.lst (acc ++ [y]))) else N H3) : LcT (gName i) tt te vs σ A x H N := ⟨e, h⟩
end

/-! ### methods, ranges as lists, products -/
def BmK (K : PySem.W.Frag) (T : String) (r : V → List V → Hp → VK → Prop) (t : TA) (σ : L2.St) (x : V) (H : Hp) (Q : VK) : Prop := tyV K T x H ∧ t σ H fun xs H2 => r x xs H2 Q
def Bm0K (K : PySem.W.Frag) (T : String) (r : V → List V → Hp → VK → Prop) (x : V) (H : Hp) (Q : VK) : Prop := tyV K T x H ∧ r x [] H Q
def Rg2E (x y : V) (R : Int → Int → Hp → Prop) (H : Hp) : Prop := ∃ i j, x = .int i ∧ y = .int j ∧ R i j H
def Rg1E (x : V) (R : Int → Int → Hp → Prop) (H : Hp) : Prop := ∃ j, x = .int j ∧ R 0 j H
def LRgK (i j : Int) (H : Hp) (Q : VK) : Prop := RgOk i j ∧ ∀ q, H q = none → Q (.ref q) (upd H q (.lst (rgV i j)))
def TRgK (i j : Int) (H : Hp) (Q : VK) : Prop := RgOk i j ∧ ∀ q, H q = none → Q (.ref q) (upd H q (.tup (rgV i j)))
section
variable {K : PySem.W.Frag} {σ : L2.St} {H : Hp} {Q : VK} {to ta tb : TE} {t : TA} {T : String} {r : V → List V → Hp → VK → Prop} {a : Addr} {xs ys : List V} {x y v : V} {i j : Int} {R : Int → Int → Hp → Prop} {te : L2.St → Hp → (Int → Int → Hp → Prop) → Prop}
theorem v_bm (h : to σ H fun x H1 => BmK K T r t σ x H1 Q) : tBM K T r to t σ H Q := h
theorem v_bm0 (h : to σ H fun x H1 => Bm0K K T r x H1 Q) : tBM0 K T r to σ H Q := h
theorem v_bmL (h : H a = some (.lst xs)) (q : t σ H fun vs H2 => r (.ref a) vs H2 Q) : BmK K "list" r t σ (.ref a) H Q := ⟨.inl ⟨rfl, xs, SqL.of h⟩, q⟩
theorem v_bm0L (h : H a = some (.lst xs)) (q : r (.ref a) [] H Q) : Bm0K K "list" r (.ref a) H Q := ⟨.inl ⟨rfl, xs, SqL.of h⟩, q⟩
theorem v_append (h : H a = some (.lst xs)) (l : xs.length ≤ 1000) (q : Q .non (upd H a (.lst (xs ++ [y])))) : rAppend (.ref a) [y] H Q := ⟨a, xs, y, rfl, rfl, h, small1000 l, q⟩
theorem v_popAt (h : H a = some (.lst xs)) (h0 : 0 ≤ i) (h1 : i < xs.length) (l : xs.length ≤ 1000) (hy : xs[i.toNat]? = some y) (q : Q y (upd H a (.lst (xs.eraseIdx i.toNat)))) : rPopAt (.ref a) [.int i] H Q := by
  refine ⟨a, xs, i, i.toNat, y, rfl, rfl, h, by omega, by omega, ?_, hy, q⟩
  have e : (if i < 0 then i + (xs.length : Int) else i) = i := if_neg (by omega)
  show (if (decide (0 ≤ (if i < 0 then i + (xs.length : Int) else i)) && decide ((if i < 0 then i + (xs.length : Int) else i) < (xs.length : Int))) = true then some (if i < 0 then i + (xs.length : Int) else i).toNat else none) = some i.toNat
  rw [e, decide_eq_true h0, decide_eq_true h1]
  rfl
theorem v_pop {y : V} (h : H a = some (.lst xs)) (hy : xs[xs.length - 1]? = some y) (q : Q y (upd H a (.lst xs.dropLast))) : rPop (.ref a) [] H Q := ⟨a, xs, y, rfl, rfl, h, hy, q⟩
theorem v_extend {b : Addr} (h : H a = some (.lst xs)) (h' : H b = some (.lst ys)) (l : xs.length + ys.length ≤ 1000) (q : Q .non (upd H a (.lst (xs ++ ys)))) : rExtend (.ref a) [.ref b] H Q := ⟨a, b, xs, ys, rfl, rfl, h, h', Nat.le_of_lt (small1000 l), q⟩
theorem v_tRg2 (h : ta σ H fun x H1 => tb σ H1 fun y H2 => Rg2E x y R H2) : tRg2 ta tb σ H R := h
theorem v_tRg1 (h : ta σ H fun x H1 => Rg1E x R H1) : tRg1 ta σ H R := h
theorem v_rg2e (q : R i j H) : Rg2E (.int i) (.int j) R H := ⟨i, j, rfl, rfl, q⟩
theorem v_rg1e (q : R 0 j H) : Rg1E (.int j) R H := ⟨j, rfl, q⟩
theorem v_lstRg (h : te σ H fun i j H1 => LRgK i j H1 Q) : tLstRg te σ H Q := h
theorem v_tupRg (h : te σ H fun i j H1 => TRgK i j H1 Q) : tTupRg te σ H Q := h
theorem v_lrg (b : 0 ≤ i ∧ i ≤ 10000 ∧ 0 ≤ j ∧ j ≤ 10000) (q : ∀ p, H p = none → Q (.ref p) (upd H p (.lst (rgV i j)))) : LRgK i j H Q := ⟨RgOk.of_le b.1 (by omega) (by omega) b.2.2.1, q⟩
theorem v_rep {n : Int} (h : H a = some (.lst xs)) (h0 : 0 ≤ n ∧ n ≤ 1000) (l : xs.length ≤ 1000) (q : ∀ p, H p = none → Q (.ref p) (upd H p (.lst (List.replicate n.toNat xs).flatten))) : rRep (.ref a) (.int n) H Q := by
  refine ⟨a, n, xs, rfl, rfl, h, by omega, by omega, ?_, q⟩
  have e : xs.length * n.toNat ≤ 1000 * 1000 := Nat.mul_le_mul l (by omega)
  exact Nat.le_trans e (by decide)
theorem v_tupOfL (h : H a = some (.lst xs)) (q : ∀ p, H p = none → Q (.ref p) (upd H p (.tup xs))) : xTupleOf K [.ref a] H Q := ⟨a, xs, rfl, .inl ⟨SqL.of h, q⟩⟩
theorem v_tupOfT (h : H a = some (.tup xs)) (q : Q (.ref a) H) : xTupleOf K [.ref a] H Q := ⟨a, xs, rfl, .inr ⟨SqT.of h, q⟩⟩
theorem v_lstOfL (h : H a = some (.lst xs)) (q : ∀ p, H p = none → Q (.ref p) (upd H p (.lst xs))) : xListOf K [.ref a] H Q := ⟨a, xs, rfl, .inl (SqL.of h), q⟩
theorem v_lstOfT (h : H a = some (.tup xs)) (q : ∀ p, H p = none → Q (.ref p) (upd H p (.lst xs))) : xListOf K [.ref a] H Q := ⟨a, xs, rfl, .inr (SqT.of h), q⟩
theorem v_catA {b : Addr} (h : H a = some (.tup xs)) (h' : H b = some (.tup ys)) (l : xs.length + ys.length ≤ 1000) (n1 : xs ≠ []) (n2 : ys ≠ []) (q : ∀ p, H p = none → Q (.ref p) (upd H p (.tup (xs ++ ys)))) : rCatA K (.ref a) (.ref b) H Q :=
  ⟨a, b, xs, ys, rfl, rfl, SqT.of h, SqT.of h', Nat.le_of_lt (small1000 l), fun e => absurd e n1, fun _ e => absurd e n2, fun _ _ => q⟩
theorem v_repT {n : Int} (h : H a = some (.tup xs)) (h0 : 2 ≤ n ∧ n ≤ 1000) (l : xs.length ≤ 1000) (n1 : xs ≠ []) (q : ∀ p, H p = none → Q (.ref p) (upd H p (.tup (List.replicate n.toNat xs).flatten))) : rRepT K (.ref a) (.int n) H Q :=
  ⟨a, n, xs, rfl, rfl, SqT.of h, n1, h0.1, h0.2, l, q⟩
end
theorem flat_one {α : Type} (n : Nat) (x : α) : (List.replicate n [x]).flatten = List.replicate n x := by
  induction n with
  | zero => rfl
  | succ n ih =>
    rw [List.replicate_succ, List.replicate_succ, List.flatten_cons, ih]
    rfl
theorem rgV_map (i j : Int) : rgV i j = ((List.range (j - i).toNat).map fun k => i + ((k : Nat) : Int)).map V.int := by
  unfold rgV
  rw [List.map_map]
  rfl
theorem ixN_of {n j : Nat} {z : Int} (e : z = (j : Int)) (h : j < n) : ixN n z = some j := by
  unfold ixN
  rw [if_pos (by omega), if_pos (by omega), e]
  rfl
theorem upd_get {H : Hp} {a q : Addr} {o u : HO} (n : H q = none) (h : H a = some o) : upd H q u a = some o := by
  rw [upd_ne (ne_of_none h n)]
  exact h
theorem upd_at {H : Hp} {a q : Addr} {o u : HO} (n : a ≠ q) (h : H a = some o) : upd H q u a = some o := by
  rw [upd_ne n]
  exact h
theorem v_ixL' {K : PySem.W.Frag} {H : Hp} {Q : VK} {a : Addr} {xs : List V} {n : Int} {v : V} (h : H a = some (.lst xs)) (ha : atI xs n = some v) (q : Q v H) : rIxL K (.ref a) (.int n) H Q := v_ixL (SqL.of h) ha q
theorem v_ixT' {K : PySem.W.Frag} {H : Hp} {Q : VK} {a : Addr} {xs : List V} {n : Int} {v : V} (h : H a = some (.tup xs)) (ha : atI xs n = some v) (q : Q v H) : rIxT K (.ref a) (.int n) H Q := v_ixT (SqT.of h) ha q
theorem v_lenL' {K : PySem.W.Frag} {H : Hp} {Q : VK} {a : Addr} {xs : List V} (h : H a = some (.lst xs)) (q : Q (.int xs.length) H) : xLen K [.ref a] H Q := v_lenL (SqL.of h) q
theorem v_lenT' {K : PySem.W.Frag} {H : Hp} {Q : VK} {a : Addr} {xs : List V} (h : H a = some (.tup xs)) (q : Q (.int xs.length) H) : xLen K [.ref a] H Q := v_lenT (SqT.of h) q

/-! ### the walk over readings -/

/-! ### what the pool owns; what stays -/
def Owned (H : Hp) (p a : Addr) : Prop := a = p ∨ ∃ xs, H p = some (.lst xs) ∧ V.ref a ∈ xs
def Af (H : Hp) (p a : Addr) (o : HO) : Prop := H a = some o ∧ ¬ Owned H p a
/-- what is not the pool's stays; what is there stays there -/
structure Mo (p : Addr) (H H' : Hp) : Prop where
  at_ : ∀ a o, Af H p a o → Af H' p a o
  free : ∀ a, H' a = none → H a = none
instance {p : Addr} {H H' : Hp} : CoeFun (Mo p H H') (fun _ => ∀ a o, Af H p a o → Af H' p a o) := ⟨Mo.at_⟩
theorem upd_none {H : Hp} {q a : Addr} {o : HO} (h : upd H q o a = none) : a ≠ q ∧ H a = none := by
  have n : a ≠ q := fun z => by rw [z, upd_same] at h; cases h
  rw [upd_ne n] at h
  exact ⟨n, h⟩
def Pool (H : Hp) (p : Addr) : Prop := ∃ (g s : Addr) (gs ss : List Int) (x y : Int), H p = some (.lst [.ref g, .ref s, .int x, .int y]) ∧ H g = some (.lst (gs.map V.int)) ∧ H s = some (.lst (ss.map V.int)) ∧
  g ≠ p ∧ s ≠ p ∧ gs.length ≤ 63 ∧ ss.length ≤ 63
theorem Mo.refl (p : Addr) (H : Hp) : Mo p H H := ⟨fun _ _ h => h, fun _ h => h⟩
theorem Mo.trans {p : Addr} {H H1 H2 : Hp} (a : Mo p H H1) (b : Mo p H1 H2) : Mo p H H2 := ⟨fun x o h => b.at_ x o (a.at_ x o h), fun x h => a.free x (b.free x h)⟩
theorem owned_pool {H : Hp} {p g s a : Addr} {x y : Int} (h : H p = some (.lst [.ref g, .ref s, .int x, .int y])) : Owned H p a ↔ a = p ∨ a = g ∨ a = s := by
  constructor
  · rintro (e | ⟨xs, e, hm⟩)
    · exact .inl e
    · rw [h] at e
      cases e
      simp at hm
      exact .inr hm
  · rintro (e | e | e)
    · exact .inl e
    · exact .inr ⟨_, h, by simp [e]⟩
    · exact .inr ⟨_, h, by simp [e]⟩
theorem same_upd {H : Hp} {q : Addr} {o : HO} (h : H q = none) : Same H (upd H q o) := fun b x e => by
  rw [upd_ne (ne_of_none e h)]
  exact e
theorem Pool.same {H H' : Hp} {p : Addr} (h : Pool H p) (e : Same H H') : Pool H' p := by
  obtain ⟨g, s, gs, ss, x, y, h1, h2, h3, r⟩ := h
  exact ⟨g, s, gs, ss, x, y, e _ _ h1, e _ _ h2, e _ _ h3, r⟩
theorem Pool.upd {H : Hp} {p q : Addr} {o : HO} (h : Pool H p) (n : H q = none) : Pool (upd H q o) p := h.same (same_upd n)
theorem Mo.same {H H' : Hp} {p : Addr} (h : Pool H p) (e : Same H H') : Mo p H H' := by
  refine ⟨fun a o ⟨h1, h2⟩ => ?_, fun a z => e.free z⟩
  obtain ⟨g, s, gs, ss, x, y, q1, _⟩ := h
  refine ⟨e _ _ h1, ?_⟩
  rw [owned_pool (e _ _ q1)]
  rw [owned_pool q1] at h2
  exact h2
theorem Mo.upd {H : Hp} {p q : Addr} {o : HO} (h : Pool H p) (n : H q = none) : Mo p H (upd H q o) := .same h (same_upd n)
/-- a new object is not the pool's -/
theorem Af.new {H H' : Hp} {p q : Addr} {o : HO} (h : Pool H p) (n : H q = none) (e : Same H H') (hq : H' q = some o) : Af H' p q o := by
  obtain ⟨g, s, gs, ss, x, y, q1, q2, q3, _⟩ := h
  refine ⟨hq, ?_⟩
  rw [owned_pool (e _ _ q1)]
  rintro (z | z | z)
  · rw [z, q1] at n; cases n
  · rw [z, q2] at n; cases n
  · rw [z, q3] at n; cases n
theorem Af.upd {H : Hp} {p q : Addr} {o : HO} (h : Pool H p) (n : H q = none) : Af (L2.upd H q o) p q o := .new h n (same_upd n) upd_same
/-- an object of the caller's is changed -/
theorem Pool.mut {H : Hp} {p a : Addr} {o o' : HO} (h : Pool H p) (f : Af H p a o) : Pool (L2.upd H a o') p := by
  obtain ⟨g, s, gs, ss, x, y, q1, q2, q3, r⟩ := h
  have hn := f.2
  rw [owned_pool q1] at hn
  refine ⟨g, s, gs, ss, x, y, ?_, ?_, ?_, r⟩
  · rw [upd_ne (fun z => hn (.inl z.symm))]; exact q1
  · rw [upd_ne (fun z => hn (.inr (.inl z.symm)))]; exact q2
  · rw [upd_ne (fun z => hn (.inr (.inr z.symm)))]; exact q3
theorem Af.mut {H : Hp} {p a b : Addr} {o o' u : HO} (h : Pool H p) (f : Af H p a o) (hb : Af H p b u) (ne : b ≠ a) : Af (L2.upd H a o') p b u := by
  obtain ⟨g, s, gs, ss, x, y, q1, q2, q3, r⟩ := h
  have hn := f.2
  have hbn := hb.2
  rw [owned_pool q1] at hn hbn
  refine ⟨by rw [upd_ne ne]; exact hb.1, ?_⟩
  rw [owned_pool (g := g) (s := s) (x := x) (y := y) (by rw [upd_ne (fun z => hn (.inl z.symm))]; exact q1)]
  exact hbn
theorem Af.self {H : Hp} {p a : Addr} {o o' : HO} (h : Pool H p) (f : Af H p a o) : Af (L2.upd H a o') p a o' := by
  obtain ⟨g, s, gs, ss, x, y, q1, q2, q3, r⟩ := h
  have hn := f.2
  rw [owned_pool q1] at hn
  refine ⟨upd_same, ?_⟩
  rw [owned_pool (g := g) (s := s) (x := x) (y := y) (by rw [upd_ne (fun z => hn (.inl z.symm))]; exact q1)]
  exact hn
/-- an object that was new at H, changed at H' -/
theorem Mo.mut {H H' : Hp} {p a : Addr} {o o' : HO} (m : Mo p H H') (h : Pool H' p) (n : H a = none) (f : Af H' p a o) : Mo p H (L2.upd H' a o') :=
  ⟨fun b u hb => Af.mut h f (m.at_ b u hb) (ne_of_none hb.1 n), fun b e => m.free b (upd_none e).2⟩

/-! ### promises of the draws -/
/-- a number below m -/
def spDraw : Sp := fun vs H Q _ => ∃ (p : Addr) (m : Int), vs = [.ref p, .int m] ∧ Pool H p ∧ 1 ≤ m ∧ m ≤ 1000000 ∧ ∀ d H', 0 ≤ d → d < m → Pool H' p → Mo p H H' → Q (.int d) H'
def spPool (K : PySem.W.Frag) : Sp := fun vs H Q _ => ∃ (a : Addr) (ns : List Int), vs = [.ref a] ∧ SqL K H a (ns.map V.int) ∧ ns.length ≤ 63 ∧ ∀ p H', Pool H' p → Q (.ref p) H'
theorem len_l_draw {vs : List V} {H : Hp} {Q : VK} {E : XK} (h : spDraw vs H Q E) : vs.length = 2 := by
  obtain ⟨p, m, rfl, _⟩ := h
  rfl
theorem len_l_pool {K : PySem.W.Frag} {vs : List V} {H : Hp} {Q : VK} {E : XK} (h : spPool K vs H Q E) : vs.length = 1 := by
  obtain ⟨p, m, rfl, _⟩ := h
  rfl
def t_l_pool (K : PySem.W.Frag) : TS :=
  (tSeq (tAsg (tLc (iList K (tSl (rSlL K) (tVar 0) tNoPart (tPart (tC (.int 63))))) (gName 3) (tTest (tOp xGe (tCB xAbs (tCons (tVar 3) tNil)) (tOp xPow (tC (.int 10)) (tC (.int 18))))) (tCB xAbs (tCons (tVar 3) tNil)) [3]) (gName 1)) (tSeq (tAsg (tLc (iList K (tSl (rSlL K) (tVar 0) tNoPart (tPart (tC (.int 63))))) (gName 3) (tTest (tOp xLt (tCB xAbs (tCons (tVar 3) tNil)) (tOp xPow (tC (.int 10)) (tC (.int 18))))) (tOp xMod (tCB xInt (tCons (tVar 3) tNil)) (tC (.int 1000003))) [3]) (gName 2)) (tRet (tLst (tCons (tVar 1) (tCons (tVar 2) (tCons (tC (.int 0)) (tCons (tC (.int 0)) tNil))))))))
def t_l_draw (K : PySem.W.Frag) : TS :=
  (C8.tCut (tIfS (tAnd (tTest (tOp xLe (tOp (rIxL K) (tVar 0) (tC (.int 2))) (tC (.int 1)))) (tTest (tOp xGt (tCB (xLen K) (tCons (tOp (rIxL K) (tVar 0) (tC (.int 0))) tNil)) (tC (.int 0))))) (tSeq (tAsg (tOp (rIxL K) (tOp (rIxL K) (tVar 0) (tC (.int 0))) (tC (.int 0))) (gSub (tVar 0) (tC (.int 2)) rSetL)) (tAsg (tSl (rSlL K) (tOp (rIxL K) (tVar 0) (tC (.int 0))) (tPart (tC (.int 1))) tNoPart) (gSub (tVar 0) (tC (.int 0)) rSetL))) tNext) (tSeq (tIfS (tTest (tOp xGt (tOp (rIxL K) (tVar 0) (tC (.int 2))) (tC (.int 1)))) (tSeq (tAsg (tOp xMod (tCB xInt (tCons (tOp (rIxL K) (tVar 0) (tC (.int 2))) tNil)) (tVar 1)) (gName 2)) (tSeq (tAsg (tOp xDiv (tOp (rIxL K) (tVar 0) (tC (.int 2))) (tVar 1)) (gSub (tVar 0) (tC (.int 2)) rSetL)) (tRet (tVar 2)))) tNext) (tSeq (tAsg (tOp xAdd (tOp (rIxL K) (tVar 0) (tC (.int 3))) (tC (.int 1))) (gSub (tVar 0) (tC (.int 3)) rSetL)) (tSeq (tAsg (tC (.int 0)) (gName 3)) (C8.tCut (tIfS (tTest (tOp xGt (tCB (xLen K) (tCons (tOp (rIxL K) (tVar 0) (tC (.int 1))) tNil)) (tC (.int 0)))) (tAsg (tOp (rIxL K) (tOp (rIxL K) (tVar 0) (tC (.int 1))) (tOp xMod (tCB xInt (tCons (tOp (rIxL K) (tVar 0) (tC (.int 3))) tNil)) (tCB (xLen K) (tCons (tOp (rIxL K) (tVar 0) (tC (.int 1))) tNil)))) (gName 3)) tNext) (tSeq (tAsg (tOp xMod (tCB xInt (tCons (tOp xMul (tOp xAdd (tOp xAdd (tVar 3) (tOp xMul (tC (.int 7919)) (tOp (rIxL K) (tVar 0) (tC (.int 3))))) (tC (.int 1))) (tC (.int 48271))) tNil)) (tC (.int 2147483647))) (gName 4)) (tSeq (tAsg (tOp xMod (tCB xInt (tCons (tOp xMul (tVar 4) (tOp xAdd (tOp xDiv (tVar 4) (tC (.int 1009))) (tC (.int 69621)))) tNil)) (tC (.int 2147483647))) (gName 4)) (tSeq (tAsg (tOp xMod (tCB xInt (tCons (tOp xMul (tVar 4) (tOp xAdd (tOp xDiv (tVar 4) (tC (.int 2003))) (tC (.int 40692)))) tNil)) (tC (.int 2147483399))) (gName 4)) (tRet (tOp xMod (tCB xInt (tCons (tOp xDiv (tVar 4) (tC (.int 16))) tNil)) (tVar 1)))))))))))


theorem Af.keep {H : Hp} {p q a : Addr} {o u : HO} (h : Pool H p) (n : H q = none) (f : Af H p a o) : Af (L2.upd H q u) p a o := Mo.upd h n a o f
theorem Af.mo {H H' : Hp} {p a : Addr} {o : HO} (m : Mo p H H') (f : Af H p a o) : Af H' p a o := m a o f
/-! ### a == b by an own __eq__ that tells a bool -/
def rEqOwn (K : PySem.W.Frag) (C : Addr) (sp : Sp) (E : XK) : R2 := fun x y H Q => ∃ (a dx : Addr) (fs : List (Str × V)) (t : Value), x = .ref a ∧ H a = some (.ins C dx fs) ∧ TyX K H y t ∧ PySem.W.notFirst K C t = true ∧
  sp [x, y] H (fun v H' => ∃ k, v = .bl k ∧ Q v H') E
section
variable {X : Cx} {CX : CXT} {C f : Addr} {fd : FuncData} {ps : List Str} {sp : Sp} {E : XK} {n : Nat}
theorem op_eqOwn (F : FnOk X.prog X.w X.K X.mg X.base CX n f fd ps sp) (hr : Room n X.A)
    (hs : PySem.W.findIn X.K (.ref C) "__eq__" = some (some (.ref f))) (hf : PySem.W.isFn X.K (.ref f) = true) (hb : Binds X.K fd ps []) (hx : Passes CX X E) : OpR X (compareOp .Eq) (rEqOwn X.K C sp E) := by
  intro pins s σ H x y u v Q I rx ry d
  obtain ⟨a, dx, fs, t, rfl, ha, ty, hn, hsp⟩ := d
  cases rx
  obtain ⟨mA, J, _⟩ := ins_get I.hok ha
  obtain ⟨od, J, _⟩ := J.look
  obtain ⟨P, Z, p, _⟩ := kit_of I ry ty
  obtain ⟨m, hF⟩ := I.fr
  show wpAny (model X.prog X.w) X.A (richCompare .Eq (.ref a) v) (EP X pins σ Q) X.xe s
  refine PySem.W.cmp_K (op := .Eq) (tb := t) hr.units0 hF I.ok.mod.kin J (Z.ty _ _ I.kIn p) hn hs hf ?_
  have e0 : Env0 X.prog X.w X.K X.mg X.base X.A X.stack s H := I.env0
  have hl := F.len _ _ _ _ hsp
  have r2 : Vals [V.ref a, y] [Value.ref a, v] := .cons rfl (.cons ry .nil)
  refine wpAny_call (codeAny_mono (F.run X.A X.stack s H ⟨[.ref a, v], []⟩ [.ref a, v] [.ref a, y] _ E hr e0 (by
    have := hb s [.ref a, v] I.kIn (by simpa using hl)
    simpa using this) r2 hsp) fun r s' hq => ?_)
  cases r with
  | error e => exact hx pins σ H s e s' I hq
  | ok fl =>
    cases fl with
    | ret w =>
      obtain ⟨z, H', I', rz, k, ez, q⟩ := I.after hq
      subst ez
      cases rz
      exact ⟨.bl k, H', I', rfl, q⟩
    | next => exact False.elim hq
    | brk => exact False.elim hq
    | cont => exact False.elim hq
end
/-! ### exceptions with fields -/
/-- what an exception's class must say, so that isinstance asks its instances rightly -/
structure XCls (K : PySem.W.Frag) (D : Addr) : Prop where
  cl : (PySem.W.clsIn K D).isSome = true
  ga : PySem.W.findIn K (.ref D) "__getattribute__" = some (some (.builtin "BaseException.__getattribute__"))
  gt : PySem.W.findIn K (.ref D) "__getattr__" = some none
  be : PySem.W.subIn K (.ref D) (.type "BaseException") = some true
  hd : PySem.W.hasDictIn K D = true
  ha : PySem.W.findIn K (.ref D) "__class__" = some (some (.builtin "object.__class__"))
  hn : PySem.W.specialIn K (.builtin "object.__class__") "__get__" = some (some (.builtin "getset_descriptor.__get__"))
  ht : PySem.W.takesIn K (.builtin "object.__class__") = some true
  hm : PySem.W.mroIn K D (.type "object") = some true
theorem XCls.xf {K : PySem.W.Frag} {D : Addr} (h : XCls K D) : XfC K D := ⟨h.ga, h.gt, h.be, h.hd⟩
/-- isinstance(e, c) within the suite that holds e -/
def rIsX (K : PySem.W.Frag) (cls : Value) (d : Option Addr) (a : Addr) : List V → Hp → VK → Prop := fun xs H Q => ∃ (c : V) (cv : Value) (b : Bool) (D dd : Addr) (fs : List (Str × V)),
  xs = [.ref a, c] ∧ cls = .ref D ∧ d = some dd ∧ H dd = some (.xd fs) ∧ XCls K D ∧ ClsV c cv ∧ PySem.W.kitOne K (.ref D) cv = some b ∧ Q (.bl b) H
theorem call_isX {X : Cx} {a : Addr} {oe : Obj} {cls : Value} {d : Option Addr} {pn : List (Addr × Obj)} (hz : Zc cls d oe) (hf : ∃ vs, oe.data = .fields vs) : CallR (X.suite a ((a, oe) :: pn)) (.builtin "isinstance") (rIsX X.K cls d a) := by
  intro pins s σ H xs us Q I r h
  obtain ⟨c, cv, b, D, dd, fs, rfl, rfl, rfl, ed, T, hc, e, q⟩ := h
  obtain ⟨u1, u2, rfl, r1, r2⟩ := vals2 r
  obtain rfl : u1 = Value.ref a := r1
  have e2 := hc.eq r2
  subst e2
  obtain ⟨hget, _⟩ := I.pin (a, oe) (List.mem_append.mpr (.inl List.mem_cons_self))
  obtain ⟨vs, hv⟩ := hf
  obtain ⟨mA, hns, _⟩ := (show ObjOk X.prog X.w H s.heap dd (.xd fs) from I.hok dd _ ed)
  obtain ⟨od, ho, _⟩ := lookIn_ns hns
  have J : PySem.W.InstAt s.heap a oe D (some od) := ⟨hget, hz.1, by unfold PySem.W.notCls; rw [hv] <;> rfl, by rw [hz.2]; exact ho⟩
  exact PySem.W.kia_one (PySem.W.kitx_exc T.cl T.ga T.gt T.be T.ha T.hn T.ht T.hm) I.kIn J e (fun z => nomatch z) fun tk => ⟨.bl b, H, I.kept (t' := tk) fun _ _ z => z, rfl, q⟩
/-- C(e, ..) where what __init__ raises is wished for at the caller's slots -/
def tMakeS (C : Addr) (sp : Sp) (E : L2.St → XK) (t : TA) : TE := fun σ H Q => t σ H fun vs H1 => ∀ x dx, H1 x = none → H1 dx = none → dx ≠ x →
  sp (.ref x :: vs) (upd (upd H1 dx (.own x)) x (.ins C dx [])) (fun v H2 => v = .non ∧ Q (.ref x) H2) (E σ)
section
variable {X : Cx} {CX : CXT} {k : Nat} {f C : Addr} {fd : FuncData} {ps : List Str} {sp : Sp} {E : L2.St → XK} {x : Str} {p pos : Pos} {e : Expr} {es : List Expr} {t : TA}
theorem pe_makeS (M : Mk X.K C f) (F : FnOk X.prog X.w X.K X.mg X.base CX k f fd ps sp) (hr : Room (k + 1) X.A) (hg : Gl X x) (hm : X.mg x = some (.ref C)) (hb : Binds X.K fd ps []) (hx : ∀ σ, PassesAt CX X σ (E σ)) (ha : PA X (e :: es) t)
    (hdb : (x == ("__debug__" : Str)) = false := by decide) (he : starEach (e :: es) X.env = (false, eval e X.env) :: starEach es X.env := by rfl) (hpl : (backTo pos (starEach es X.env)).any (·.1) = false := by rfl) :
    PE X (.Call (.Name x p) (e :: es) [] pos) (tMakeS C sp E t) := by
  refine ⟨fun pins s σ H Q I h => ?_⟩
  refine wpAny_Call_Name_kw (ld_glob I hg hm ?_ hdb)
  refine PySem.W.callWith_K (h₀ := X.base) I.ok.mod.kin M.kp (thn (ha.run pos pins s σ H _ I h) fun us s1 ⟨vs, H1, I1, r, q⟩ => ⟨I1.kIn, ?_⟩) he hpl
  have hq := q (s1.heap.objs.size + 1) s1.heap.objs.size (I1.hok.fresh (Nat.le_succ _)) (I1.hok.fresh (Nat.le_refl _)) (Nat.ne_of_lt (Nat.lt_succ_self _))
  have I2 := Inv.made (C := C) I1
  have r2 : Vals (V.ref (s1.heap.objs.size + 1) :: vs) (Value.ref (s1.heap.objs.size + 1) :: us) := .cons rfl r
  have hl : (Value.ref (s1.heap.objs.size + 1) :: us).length = ps.length := r2.length.symm.trans (F.len _ _ _ _ hq)
  have hbd := hb _ (Value.ref (s1.heap.objs.size + 1) :: us) I2.kIn (by simpa using hl)
  rw [List.append_nil] at hbd
  refine wpAny_call (make_map (f := f) I1.kIn M.makes M.init (beq_iff_eq.mp M.fn) (codeAny_mono (F.run _ X.stack _ _ ⟨_, []⟩ _ _ _ (E σ) (hr.make C us []) (I2.env0.make C us []) hbd r2 hq) fun r s' hq' => ?_))
  cases r with
  | error e => exact hx σ pins _ _ e s' I2 hq'
  | ok fl =>
    cases fl with
    | ret u =>
      obtain ⟨v, H', I3, rv, ev, q3⟩ := I2.after hq'
      subst ev
      exact ⟨rv, ⟨V.ref (s1.heap.objs.size + 1), H', I3, rfl, q3⟩⟩
    | next => exact False.elim hq'
    | brk => exact False.elim hq'
    | cont => exact False.elim hq'
end
theorem v_makeS {C : Addr} {sp : Sp} {E : L2.St → XK} {t : TA} {σ : L2.St} {H : Hp} {Q : VK} (h : t σ H fun vs H1 => ∀ x dx, H1 x = none → H1 dx = none → dx ≠ x →
  sp (.ref x :: vs) (upd (upd H1 dx (.own x)) x (.ins C dx [])) (fun v H2 => v = .non ∧ Q (.ref x) H2) (E σ)) : tMakeS C sp E t σ H Q := h
theorem v_make {C : Addr} {sp : Sp} {E : XK} {t : TA} {dvs : List V} {σ : L2.St} {H : Hp} {Q : VK} (h : t σ H fun vs H1 => ∀ x dx, H1 x = none → H1 dx = none → dx ≠ x →
  sp (.ref x :: (vs ++ dvs)) (upd (upd H1 dx (.own x)) x (.ins C dx [])) (fun v H2 => v = .non ∧ Q (.ref x) H2) E) : tMake C sp dvs E t σ H Q := h
theorem v_xf {a : Addr} {cls : Value} {d : Option Addr} {C : Addr} {f : Str} {te : TE} {σ : L2.St} {H : Hp} {Q : VK} (h : te σ H fun x H1 => x = .ref a ∧ cls = .ref C ∧ ∃ (dd : Addr) (fs : List (Str × V)) (v : V), d = some dd ∧ H1 dd = some (.xd fs) ∧ fs.lookup f = some v ∧ Q v H1) : tXf a cls d C f te σ H Q := h
/-- __init__ of an error that keeps one thing as f -/
def spX1 (C : Addr) (f : Str) : Sp := fun vs H Q _ => ∃ (a : Addr) (y : V), vs = [.ref a, y] ∧ H a = some (exo a C none) ∧ ∀ dx, H dx = none → dx ≠ a → Q .non (upd (upd H dx (exd dx [(f, y)])) a (exo a C (some dx)))
theorem len_x1 {C : Addr} {f : Str} {vs : List V} {H : Hp} {Q : VK} {E : XK} (h : spX1 C f vs H Q E) : vs.length = 2 := by
  obtain ⟨a, y, rfl, _⟩ := h
  rfl
def wE (E : XK) : WX := fun cls d _ H => E cls d H
/-- raise C(e, ..) -/
def tRaiseO (C : Addr) (sp : Sp) (ta : TA) (W : WX) : TS := fun _ σ H => tMkO C sp [] ta σ H fun cls d H' => W cls d σ H'
section
variable {K : PySem.W.Frag} {σ : L2.St} {H : Hp} {te : TE} {C : Addr} {f : Str} {W : WX} {D : Ends}
def RaiseK (C : Addr) (sp : Sp) (vs : List V) (W : WX) (σ : L2.St) (H : Hp) : Prop := vs.length ≤ 1000 ∧ ∀ a, H a = none → sp (.ref a :: (vs ++ [])) (upd H a (exo a C none))
  (fun v H2 => v = .non ∧ ∃ (d : Addr) (fs : List (Str × V)), H2 a = some (exo a C (some d)) ∧ H2 d = some (exd d fs) ∧ H d = none ∧ W (.ref C) (some d) σ (upd (del H2 a) d (.xd fs))) (fun _ _ _ => False)
theorem v_raiseO {sp : Sp} {ta : TA} (h : ta σ H fun vs H1 => RaiseK C sp vs W σ H1) : tRaiseO C sp ta W D σ H := h
theorem v_raise1 {y : V} (h : ∀ d, H d = none → W (.ref C) (some d) σ (upd H d (.xd [(f, y)]))) : RaiseK C (spX1 C f) [y] W σ H := by
  refine ⟨by show 1 ≤ 1000; decide, fun a na => ?_⟩
  refine ⟨a, y, rfl, upd_same, fun dx nd ne => ⟨rfl, dx, _, upd_same, by rw [upd_ne ne, upd_same], by rw [upd_ne ne] at nd; exact nd, ?_⟩⟩
  have nd1 : H dx = none := by rw [upd_ne ne] at nd; exact nd
  have e : upd (del (upd (upd (upd H a (exo a C none)) dx (exd dx [(f, y)])) a (exo a C (some dx))) a) dx (.xd [(f, y)]) = upd H dx (.xd [(f, y)]) := by
    funext b
    by_cases h1 : b = dx
    · rw [h1, upd_same, upd_same]
    · rw [upd_ne h1, upd_ne h1]
      by_cases h2 : b = a
      · rw [h2, del_same, na]
      · rw [del_ne h2, upd_ne h2, upd_ne h1, upd_ne h2]
  rw [e]
  exact h dx nd1
theorem pure_x1 (T : OexC K C) (hn : PySem.W.findIn K (.ref C) f = some none) {vs : List V} {H : Hp} {Q : VK} {E : XK} {N : List Str} (h : spX1 C f vs H Q E) (hN : N.length = 2) : tOst K f (tVar 0) (tVar 1) { nx := fun _ H' => Q .non H', rt := Q } (start N vs) H := by
  obtain ⟨a, y, rfl, e, q⟩ := h
  have es : start N [.ref a, y] = [some (.ref a), some y] := by
    unfold L2.start
    rw [hN]
    rfl
  rw [es]
  exact ⟨y, rfl, .ref a, rfl, a, C, rfl, T, hn, .inl ⟨e, q⟩⟩
end
/-- raise C(), C without fields -/
def tRaise0 (cls : Value) (W : WX) : TS := fun _ σ H => W cls none σ H
/-! ### kinds of things -/
/-- what a thing is: the name of its built-in class -/
inductive Kind (H : Hp) : V → String → Prop where
  | non : Kind H .non "NoneType"
  | bl (b : Bool) : Kind H (.bl b) "bool"
  | int (i : Int) : Kind H (.int i) "int"
  | str (s : Str) : Kind H (.str s) "str"
  | lst {a : Addr} {xs : List V} (h : H a = some (.lst xs)) : Kind H (.ref a) "list"
  | tup {a : Addr} {xs : List V} (h : H a = some (.tup xs)) : Kind H (.ref a) "tuple"
  | dK {a : Addr} {kvs : List (Key × V)} (h : H a = some (.dK kvs)) : Kind H (.ref a) "dict"
theorem Kind.tyx {K : PySem.W.Frag} {H : Hp} {x : V} {s : String} (h : Kind H x s) : TyX K H x (.type s) := by
  cases h with
  | non => exact .base .non
  | bl b => exact .base (.bl b)
  | int i => exact .base (.int i)
  | str z => exact .base (.str z)
  | lst h => exact .base (.lst h)
  | tup h => exact .base (.tup h)
  | dK h => exact .base (.dK h)
theorem Kind.same {H H' : Hp} {x : V} {s : String} (h : Kind H x s) (e : Same H H') : Kind H' x s := by
  cases h with
  | non => exact .non
  | bl b => exact .bl b
  | int i => exact .int i
  | str z => exact .str z
  | lst h => exact .lst (e _ _ h)
  | tup h => exact .tup (e _ _ h)
  | dK h => exact .dK (e _ _ h)
/-- isinstance's answers for these -/
def isA (s T : String) : Bool := (s == T) || (s == "bool" && T == "int")
theorem kit_kind {K : PySem.W.Frag} {H : Hp} {x : V} {s T : String} (h : Kind H x s) (hT : T = "int" ∨ T = "bool" ∨ T = "tuple" ∨ T = "list" ∨ T = "dict") : PySem.W.kitOne K (.type s) (.type T) = some (isA s T) := by
  cases h <;> (rcases hT with rfl | rfl | rfl | rfl | rfl <;> exact kit_ty (by decide +kernel))
section
variable {K : PySem.W.Frag} {H : Hp} {Q : VK} {x : V} {s T : String} {tp : Addr}
theorem v_isi (h : Kind H x s) (hT : T = "int" ∨ T = "bool" ∨ T = "tuple" ∨ T = "list" ∨ T = "dict") (q : Q (.bl (isA s T)) H) : rIsi K [x, .ty T] H Q :=
  ⟨x, .ty T, .type s, .type T, _, rfl, .ty T, h.tyx, kit_kind h hT, q⟩
theorem v_isiT {S T : String} (h : Kind H x s) (ht : H tp = some (.tup [.ty S, .ty T])) (hS : S = "int" ∨ S = "bool" ∨ S = "tuple" ∨ S = "list" ∨ S = "dict") (hT : T = "int" ∨ T = "bool" ∨ T = "tuple" ∨ T = "list" ∨ T = "dict")
    (q : Q (.bl (isA s S || isA s T)) H) : rIsiT K [x, .ref tp] H Q := by
  refine ⟨x, tp, [.ty S, .ty T], .type s, [.type S, .type T], _, rfl, ht, .cons (.ty S) (.cons (.ty T) .nil), h.tyx, ?_, q⟩
  refine kitAny_cons (kit_kind h hS) (fun e => kitAny_cons (kit_kind h hT) (fun e' => ?_) fun e' => ?_) fun e => ?_
  · rw [e, e']; exact kitAny_nil
  · rw [e, e']; rfl
  · rw [e]; rfl
end
/-! ### classes of the program -/
/-- what is known of an own class, so that isinstance tells -/
structure OwnC (K : PySem.W.Frag) (C : Addr) : Prop where
  ic : C8.InsC K C
  kt : ∀ s : String, s = "NoneType" ∨ s = "bool" ∨ s = "int" ∨ s = "str" ∨ s = "list" ∨ s = "tuple" ∨ s = "dict" → PySem.W.kitOne K (.type s) (.ref C) = some false ∧ PySem.W.notFirst K C (.type s) = true
theorem Kind.name {H : Hp} {x : V} {s : String} (h : Kind H x s) : s = "NoneType" ∨ s = "bool" ∨ s = "int" ∨ s = "str" ∨ s = "list" ∨ s = "tuple" ∨ s = "dict" := by cases h <;> simp
theorem OwnC.tyx {K : PySem.W.Frag} {C : Addr} (h : OwnC K C) {H : Hp} {a dx : Addr} {fs : List (Str × V)} (e : H a = some (.ins C dx fs)) : TyX K H (.ref a) (.ref C) := .base (.ins e h.ic.cl h.ic.ha h.ic.hn h.ic.htk h.ic.hm)
section
variable {K : PySem.W.Frag} {H : Hp} {Q : VK} {x : V} {s : String} {a dx C : Addr} {fs : List (Str × V)} {f : Str} {v : V}
/-- isinstance(x, C), x of a built-in kind -/
theorem v_isiK (o : OwnC K C) (h : Kind H x s) (q : Q (.bl false) H) : rIsi K [x, .ref C] H Q := ⟨x, .ref C, .type s, .ref C, false, rfl, .own C, h.tyx, (o.kt s h.name).1, q⟩
/-- .. x an instance of it -/
theorem v_isiO (o : OwnC K C) (h : H a = some (.ins C dx fs)) (q : Q (.bl true) H) : rIsi K [.ref a, .ref C] H Q := ⟨.ref a, .ref C, .ref C, .ref C, true, rfl, .own C, o.tyx h, o.ic.me, q⟩
def FldK (K : PySem.W.Frag) (f : Str) (x : V) (H : Hp) (Q : VK) : Prop := ∃ a C dx fs v, x = .ref a ∧ H a = some (.ins C dx fs) ∧ Cls K C ∧ NoAttr K C f ∧ fs.lookup f = some v ∧ Q v H
theorem v_fld {ta : TE} {σ : L2.St} (h : ta σ H fun x H1 => FldK K f x H1 Q) : tFld K ta f σ H Q := h
theorem v_fldK (o : OwnC K C) (nf : NoAttr K C f) (h : H a = some (.ins C dx fs)) (l : fs.lookup f = some v) (q : Q v H) : FldK K f (.ref a) H Q := ⟨a, C, dx, fs, v, rfl, h, o.ic.cl, nf, l, q⟩
def StK (K : PySem.W.Frag) (f : Str) (x y : V) (H : Hp) (R : Hp → Prop) : Prop := ∃ a C dx fs, x = .ref a ∧ H a = some (.ins C dx fs) ∧ Cls K C ∧ NoAttr K C f ∧ fs.length < 1000 ∧ R (upd H a (.ins C dx (putF f y fs)))
theorem v_stf {ta tv : TE} {σ : L2.St} {D : Ends} (h : tv σ H fun y H1 => ta σ H1 fun x H2 => StK K f x y H2 fun H3 => D.nx σ H3) : sFld K ta tv f D σ H := h
theorem v_stK {y : V} {R : Hp → Prop} (o : OwnC K C) (nf : NoAttr K C f) (h : H a = some (.ins C dx fs)) (l : fs.length < 1000) (q : R (upd H a (.ins C dx (putF f y fs)))) : StK K f (.ref a) y H R := ⟨a, C, dx, fs, rfl, h, o.ic.cl, nf, l, q⟩
end
/-! ### things in a heap with a pool -/
/-- a thing whose kind stays whatever is drawn -/
def AK (H : Hp) (p : Addr) : V → Prop
  | .non => True
  | .bl _ => True
  | .int _ => True
  | .str _ => True
  | .ref a => (∃ xs, Af H p a (.lst xs)) ∨ (∃ xs, Af H p a (.tup xs)) ∨ ∃ kvs, Af H p a (.dK kvs)
  | _ => False
theorem AK.mo {H H' : Hp} {p : Addr} {x : V} (h : AK H p x) (m : Mo p H H') : AK H' p x := by
  cases x with
  | ref a =>
    rcases h with ⟨xs, h⟩ | ⟨xs, h⟩ | ⟨xs, h⟩
    · exact .inl ⟨xs, m _ _ h⟩
    · exact .inr (.inl ⟨xs, m _ _ h⟩)
    · exact .inr (.inr ⟨xs, m _ _ h⟩)
  | byt b => exact h.elim
  | flt b => exact h.elim
  | ty b => exact h.elim
  | _ => trivial
theorem AK.kind {H : Hp} {p : Addr} {x : V} (h : AK H p x) : ∃ s, Kind H x s := by
  cases x with
  | non => exact ⟨_, .non⟩
  | bl b => exact ⟨_, .bl b⟩
  | int i => exact ⟨_, .int i⟩
  | str z => exact ⟨_, .str z⟩
  | ref a =>
    rcases h with ⟨xs, h⟩ | ⟨xs, h⟩ | ⟨xs, h⟩
    · exact ⟨_, .lst h.1⟩
    · exact ⟨_, .tup h.1⟩
    · exact ⟨_, .dK h.1⟩
  | byt b => exact h.elim
  | flt b => exact h.elim
  | ty b => exact h.elim
local macro_rules | `(tactic| walk_at "pl") => `(tactic| first
  | assumption
  | ((with_reducible refine' Pool.upd ?k1 ?k2); (case k2 => assumption); (case k1 => walk_at "pl")))
local macro_rules | `(tactic| walk_at "af") => `(tactic| first
  | assumption
  | ((with_reducible refine' Af.upd ?k1 ?k2); (case k2 => assumption); (case k1 => walk_at "pl"))
  | ((with_reducible refine' Af.keep ?k1 ?k2 ?k3); (case k2 => assumption); (case k1 => walk_at "pl"); (case k3 => walk_at "af"))
  | ((with_reducible refine' Af.mo (by assumption) ?_); walk_at "af"))
local macro_rules | `(tactic| walk_at "ne") => `(tactic| first | assumption | (refine Ne.symm ?_; assumption))
local macro_rules | `(tactic| walk_at "hp") => `(tactic| first
  | assumption
  | exact upd_same
  | ((with_reducible refine' upd_get (by assumption) ?_); walk_at "hp")
  | ((with_reducible refine' upd_at ?k1 ?_); (case k1 => walk_at "ne"); walk_at "hp"))
local macro_rules | `(tactic| walk_at "vc1") => `(tactic| first
  | (with_reducible refine' v_seq ?_)
  | (with_reducible refine' v_asg ?_)
  | ((with_reducible refine' v_var ?k1 ?_); (case k1 => exact rfl))
  | (with_reducible refine' v_c ?_)
  | (with_reducible refine' v_op ?_)
  | (with_reducible refine' v_I0 ?_)
  | (with_reducible refine' v_name ?_)
  | (with_reducible refine' v_cons ?_)
  | (with_reducible refine' v_nil ?_)
  | (with_reducible refine' v_cb ?_)
  | (with_reducible refine' v_int ?_)
  | (with_reducible refine' v_abs ?_)
  | (with_reducible refine' v_ifs ?_)
  | (with_reducible refine' v_test ?_)
  | (with_reducible refine' v_B ?_)
  | (with_reducible refine' v_bl ?_)
  | (with_reducible refine' v_and ?_)
  | (with_reducible refine' v_or ?_)
  | (with_reducible refine' v_not ?_)
  | (with_reducible refine' v_eqI ?_)
  | (with_reducible refine' v_neI ?_)
  | (with_reducible refine' v_ret ?_)
  | (with_reducible refine' v_retN ?_)
  | (with_reducible refine' v_next ?_)
  | (with_reducible refine' v_drop ?_)
  | (with_reducible refine' v_call ?_)
  | (with_reducible refine' v_sub ?_)
  | (with_reducible refine' v_lst ?_)
  | (with_reducible refine' v_tup ?_)
  | (with_reducible refine' v_sl ?_)
  | (with_reducible refine' v_nopart ?_)
  | (with_reducible refine' v_part ?_)
  | (with_reducible refine' v_partI ?_)
  | (with_reducible refine' v_if ?_)
  | (with_reducible refine' v_chain ?_)
  | (with_reducible refine' v_andV ?_)
  | (with_reducible refine' v_orV ?_)
  | (with_reducible refine' v_notV ?_)
  | (with_reducible refine' v_un ?_)
  | (with_reducible refine' v_U ?_)
  | (with_reducible refine' v_isN ?_)
  | (with_reducible refine' v_notN ?_)
  | (with_reducible refine' v_eqB ?_)
  | (with_reducible refine' v_neB ?_)
  | (with_reducible refine' v_yes ?_)
  | (with_reducible refine' v_dnew ?_)
  | (with_reducible refine' v_iteT ?_)
  | (with_reducible refine' v_iteF ?_)
  | (with_reducible refine' v_iteNT ?_)
  | (with_reducible refine' v_iteNF ?_)
  | (with_reducible refine' v_for ?_)
  | (with_reducible refine' v_lc ?_)
  | (with_reducible refine' v_iR1 ?_)
  | (with_reducible refine' v_iR2 ?_)
  | (with_reducible refine' v_iL ?_)
  | (with_reducible refine' v_iT ?_)
  | (with_reducible refine' v_bm ?_)
  | (with_reducible refine' v_bm0 ?_)
  | (with_reducible refine' v_tRg2 ?_)
  | (with_reducible refine' v_tRg1 ?_)
  | (with_reducible refine' v_rg2e ?_)
  | (with_reducible refine' v_rg1e ?_)
  | (with_reducible refine' v_lstRg ?_)
  | (with_reducible refine' v_tupRg ?_)
  | ((with_reducible refine' v_bmL ?k1 ?_); (case k1 => walk_at "hp"))
  | ((with_reducible refine' v_bm0L ?k1 ?_); (case k1 => walk_at "hp"))
  | (with_reducible refine' v_fld ?_)
  | (with_reducible refine' v_makeS ?_)
  | (with_reducible refine' v_make ?_)
  | (with_reducible refine' v_xf ?_)
  | (with_reducible refine' v_stf ?_)
  | (with_reducible refine' v_raiseO ?_)
  | (with_reducible refine' v_raise0 ?_)
  | (with_reducible refine' v_callS ?_)
  | (with_reducible refine' v_par ?_)
  | (with_reducible refine' v_parK ?_)
  | ((with_reducible refine' v_ixL' ?k1 ?k2 ?_); (case k1 => walk_at "hp"); (case k2 => exact rfl))
  | ((with_reducible refine' v_ixT' ?k1 ?k2 ?_); (case k1 => walk_at "hp"); (case k2 => exact rfl))
  | ((with_reducible refine' v_setL ?k1 ?k2 ?_); (case k1 => walk_at "hp"); (case k2 => exact rfl))
  | ((with_reducible refine' v_lenL' ?k1 ?_); (case k1 => walk_at "hp"))
  | ((with_reducible refine' v_lenT' ?k1 ?_); (case k1 => walk_at "hp"))
  | ((with_reducible refine' v_bound ?k1 ?_); (case k1 => (first | decide | omega | (simp only [List.length_cons, List.length_nil]; omega)))))
local macro_rules | `(tactic| walk_at "vc") => `(tactic| repeat (walk_at "vc1"))
/-! ### the draw -/
section
variable {K : PySem.W.Frag}
theorem v_slL' {H : Hp} {Q : VK} {a : Addr} {xs : List V} {lo hi : Option Int} (h : H a = some (.lst xs)) (q : ∀ p, H p = none → Q (.ref p) (upd H p (.lst (cutV xs lo hi)))) : rSlL K (.ref a) lo hi H Q := v_slL (SqL.of h) q
theorem cut1 (xs : List V) : cutV xs (some 1) none = xs.drop 1 := by
  unfold cutV
  rw [show HT.sIx xs.length 0 (some 1) = min 1 xs.length from HT.sIx_nat xs.length 0 1, HT.sIx_none]
  cases xs with
  | nil => rfl
  | cons x r =>
    rw [show min 1 (x :: r).length = 1 by
      rw [List.length_cons]
      omega]
    show (List.take ((x :: r).length - 1) r) = r
    rw [List.length_cons, Nat.add_sub_cancel]
    exact List.take_length
theorem pure_l_draw {vs : List V} {H : Hp} {Q : VK} {E : XK} (h : spDraw vs H Q E) : t_l_draw K { nx := fun _ H' => Q .non H', rt := Q } (start ["_law_pool_here", "_law_many_here", "_law_digit", "_law_cell", "_law_number"] vs) H := by
  obtain ⟨p, m, rfl, hp, h1, h2, q⟩ := h
  unfold t_l_draw
  refine v_cut (fun σ' H' => σ' = [some (.ref p), some (.int m), none, none, none] ∧ Pool H' p ∧ Mo p H H') ?_ ?_
  · obtain ⟨g, s, gs, ss, x, y, hP, hG, hS, ng, ns, lg, ls⟩ := hp
    have hp : Pool H p := ⟨g, s, gs, ss, x, y, hP, hG, hS, ng, ns, lg, ls⟩
    walk_at "vc"
    refine v_ite (fun hx => ?_) (fun hx => ?_)
    · walk_at "vc"
      refine v_ite (fun hl => ?_) (fun hl => ?_)
      · obtain ⟨n, gs', rfl⟩ : ∃ n gs', gs = n :: gs' := by
          cases gs with
          | nil => exact absurd hl (by simp)
          | cons n r => exact ⟨n, r, rfl⟩
        walk_at "vc"
        refine v_ixL' hG (atI_nat (j := 0) rfl) ?_
        walk_at "vc"
        refine v_slL' (by walk_at "hp") fun g' ng' => ?_
        walk_at "vc"
        have npp : g' ≠ p := fun z => by rw [z, upd_same] at ng'; cases ng'
        have npg : g' ≠ g := fun z => by rw [z, upd_ne ng, hG] at ng'; cases ng'
        have nps : g' ≠ s := fun z => by rw [z, upd_ne ns, hS] at ng'; cases ng'
        have hP' : (upd (upd (upd H p (.lst [.ref g, .ref s, .int n, .int y])) g' (.lst (cutV (List.map V.int (n :: gs')) (some 1) none))) p (.lst [.ref g', .ref s, .int n, .int y])) p = some (.lst [.ref g', .ref s, .int n, .int y]) := upd_same
        refine ⟨rfl, ⟨g', s, gs', ss, n, y, hP', ?_, ?_, npp, ns, ?_, ls⟩, ⟨fun b o hb => ?_, fun b e => (upd_none (upd_none (upd_none e).2).2).2⟩⟩
        · rw [upd_ne npp, upd_same, cut1]; rfl
        · rw [upd_ne ns, upd_ne nps.symm, upd_ne ns]; exact hS
        · rw [List.length_cons] at lg; omega
        · have hn := hb.2
          rw [owned_pool hP] at hn
          have nb : b ≠ g' := fun z => by
            have e := hb.1
            have ng'' := ng'
            rw [upd_ne npp, ← z, e] at ng''
            cases ng''
          refine ⟨?_, ?_⟩
          · rw [upd_ne (fun z => hn (.inl z)), upd_ne nb, upd_ne (fun z => hn (.inl z))]; exact hb.1
          · refine fun ow => ?_
            rcases (owned_pool hP').mp ow with z | z | z
            · exact hn (.inl z)
            · exact nb z
            · exact hn (.inr (.inr z))
      · walk_at "vc"
        exact ⟨rfl, hp, .refl _ _⟩
    · walk_at "vc"
      exact ⟨rfl, hp, .refl _ _⟩
  · rintro σ' H1 ⟨rfl, hp1, m1⟩
    obtain ⟨g, s, gs, ss, x, y, hP, hG, hS, ng, ns, lg, ls⟩ := hp1
    have hp1 : Pool H1 p := ⟨g, s, gs, ss, x, y, hP, hG, hS, ng, ns, lg, ls⟩
    have ch : ∀ x' y' : Int, Pool (upd H1 p (.lst [.ref g, .ref s, .int x', .int y'])) p ∧ Mo p H (upd H1 p (.lst [.ref g, .ref s, .int x', .int y'])) := fun x' y' => by
      refine ⟨⟨g, s, gs, ss, x', y', upd_same, by rw [upd_ne ng]; exact hG, by rw [upd_ne ns]; exact hS, ng, ns, lg, ls⟩, m1.trans ⟨fun b o hb => ?_, fun b e => (upd_none e).2⟩⟩
      have hn := hb.2
      rw [owned_pool hP] at hn
      refine ⟨by rw [upd_ne (fun z => hn (.inl z))]; exact hb.1, ?_⟩
      rw [owned_pool upd_same]
      exact hn
    walk_at "vc"
    refine v_ite (fun hx => ?_) (fun hx => ?_)
    · walk_at "vc"
      refine v_I (by show (0 : Int) < m; omega) ?_
      walk_at "vc"
      refine v_I (by show m ≠ 0 ∧ m.natAbs < 1073741824; omega) ?_
      walk_at "vc"
      exact q _ _ (Int.emod_nonneg _ (by omega)) (Int.emod_lt_of_pos _ (by omega)) (ch _ _).1 (ch _ _).2
    · walk_at "vc"
      refine v_cut (fun σ' H' => ∃ c : Int, σ' = [some (.ref p), some (.int m), none, some (.int c), none] ∧ H' = upd H1 p (.lst [.ref g, .ref s, .int x, .int (y + 1)])) ?_ ?_
      · walk_at "vc"
        refine v_ite (fun hl => ?_) (fun hl => ?_)
        · walk_at "vc"
          have hlen : (0 : Int) < ((ss.map V.int).length : Nat) := hl
          refine v_I hlen ?_
          have hlt : ((y + 1) % ((ss.map V.int).length : Nat)).toNat < ss.length := by
            have e1 := Int.emod_nonneg (y + 1) (b := ((ss.map V.int).length : Nat)) (by omega)
            have e2 := Int.emod_lt_of_pos (y + 1) hlen
            rw [List.length_map] at e1 e2 ⊢
            omega
          refine v_ixL' (v := .int ss[((y + 1) % ((ss.map V.int).length : Nat)).toNat]) (by walk_at "hp") (at_of (j := ((y + 1) % ((ss.map V.int).length : Nat)).toNat) (by
            have e1 := Int.emod_nonneg (y + 1) (b := ((ss.map V.int).length : Nat)) (by omega)
            omega) ?_) ?_
          · rw [List.getElem?_map, List.getElem?_eq_getElem hlt]; rfl
          · walk_at "vc"
            exact ⟨_, rfl, rfl⟩
        · walk_at "vc"
          exact ⟨_, rfl, rfl⟩
      · rintro σ' H2 ⟨c, rfl, rfl⟩
        walk_at "vc"
        refine v_I (.inl (by decide)) ?_
        walk_at "vc"
        refine v_I (.inr (by decide)) ?_
        walk_at "vc"
        refine v_I (by first | exact ⟨by decide, by decide⟩ | decide) ?_
        walk_at "vc"
        generalize hz : (c + 7919 * (y + 1) + 1) * 48271 % 2147483647 = z
        have z0 := Int.emod_nonneg ((c + 7919 * (y + 1) + 1) * 48271) (b := 2147483647) (by decide)
        have z1 := Int.emod_lt_of_pos ((c + 7919 * (y + 1) + 1) * 48271) (b := 2147483647) (by decide)
        rw [hz] at z0 z1
        refine v_I (by first | exact ⟨by decide, by decide⟩ | decide) ?_
        walk_at "vc"
        refine v_I (.inl (by omega)) ?_
        walk_at "vc"
        refine v_I (by first | exact ⟨by decide, by decide⟩ | decide) ?_
        walk_at "vc"
        generalize hu : z * (z.fdiv 1009 + 69621) % 2147483647 = u
        have u0 := Int.emod_nonneg (z * (z.fdiv 1009 + 69621)) (b := 2147483647) (by decide)
        have u1 := Int.emod_lt_of_pos (z * (z.fdiv 1009 + 69621)) (b := 2147483647) (by decide)
        rw [hu] at u0 u1
        refine v_I (by first | exact ⟨by decide, by decide⟩ | decide) ?_
        walk_at "vc"
        refine v_I (.inl (by omega)) ?_
        walk_at "vc"
        refine v_I (by first | exact ⟨by decide, by decide⟩ | decide) ?_
        walk_at "vc"
        refine v_I (by first | exact ⟨by decide, by decide⟩ | decide) ?_
        walk_at "vc"
        refine v_I (by show (0 : Int) < m; omega) ?_
        walk_at "vc"
        exact q _ _ (Int.emod_nonneg _ (by omega)) (Int.emod_lt_of_pos _ (by omega)) (ch _ _).1 (ch _ _).2
/-! ### the pool's making -/
theorem take_snoc {α : Type} : ∀ {l : List α} {i : Nat} {x : α}, l[i]? = some x → l.take (i + 1) = l.take i ++ [x]
  | [], i, x, h => by simp at h
  | a :: l, 0, x, h => by
    have e : a = x := Option.some.inj h
    subst e
    rfl
  | a :: l, i + 1, x, h => by
    have ih := take_snoc (l := l) (i := i) (x := x) h
    show a :: l.take (i + 1) = a :: l.take i ++ [x]
    rw [ih]
    rfl
theorem cut_map (ns : List Int) (lo hi : Option Int) : ∃ ms : List Int, cutV (ns.map V.int) lo hi = ms.map V.int ∧ ms.length ≤ ns.length := by
  unfold cutV
  refine ⟨(ns.drop (HT.sIx (ns.map V.int).length 0 lo)).take (HT.sIx (ns.map V.int).length (ns.map V.int).length hi - HT.sIx (ns.map V.int).length 0 lo), ?_, ?_⟩
  · rw [List.map_take, List.map_drop]
  · rw [List.length_take, List.length_drop]
    omega
theorem map_get {ns : List Int} {i : Nat} {x : V} (h : (ns.map V.int)[i]? = some x) : ∃ n : Int, x = .int n := by
  rw [List.getElem?_map] at h
  cases e : ns[i]? with
  | none => rw [e] at h; cases h
  | some z => rw [e] at h; exact ⟨z, (Option.some.inj h).symm⟩
theorem pure_l_pool {vs : List V} {H : Hp} {Q : VK} {E : XK} (h : spPool K vs H Q E) : t_l_pool K { nx := fun _ H' => Q .non H', rt := Q } (start ["_law_script", "_law_great", "_law_small", "_law_cell"] vs) H := by
  obtain ⟨a, ns, rfl, hS, hl, q⟩ := h
  unfold t_l_pool
  walk_at "vc"
  obtain ⟨ms, em, hml⟩ := cut_map ns none (some 63)


  walk_at "vc"
  refine v_slL hS fun l nl => ?_
  refine ⟨l, rfl, ⟨_, SqL.of upd_same⟩, fun D nD => ?_⟩
  have s1 : Same H (upd H l (.lst (cutV (ns.map V.int) none (some 63)))) := same_upd nl
  have hl1 : (upd H l (.lst (cutV (ns.map V.int) none (some 63)))) l = some (.lst (cutV (ns.map V.int) none (some 63))) := upd_same
  generalize upd H l (.lst (cutV (ns.map V.int) none (some 63))) = H1 at *
  rw [em] at hl1
  refine lc_list (xs := ms.map V.int) (fun i H' => ∃ acc : List Int, H' D = some (.lst (acc.map V.int)) ∧ acc.length ≤ i ∧ Same H1 H') ⟨[], upd_same, Nat.le_refl _, same_upd nD⟩ (fun i H' _ ⟨_, _, _, s⟩ => SqL.of (s _ _ hl1)) ?_ ?_
  · rintro i x H2 hx ⟨acc, hacc, hal, s2⟩
    obtain ⟨n, rfl⟩ := map_get hx
    have hi : i < ms.length := by
      have := (List.getElem?_eq_some_iff.mp hx).1
      rw [List.length_map] at this
      exact this
    walk_at "vc"
    refine ⟨rfl, ?_⟩
    walk_at "vc"
    refine v_I ⟨by decide, by decide, by decide⟩ ?_
    walk_at "vc"
    refine v_ite (fun c => ?_) (fun c => ?_)
    · walk_at "vc"
      refine ⟨_, hacc, by rw [List.length_map]; exact small1000 (by omega), acc ++ [if n < 0 then -n else n], by rw [upd_same, List.map_append]; rfl, by rw [List.length_append]; show acc.length + 1 ≤ i + 1; omega, fun b o e => ?_⟩
      rw [upd_ne (ne_of_none e nD)]
      exact s2 _ _ e
    · exact ⟨acc, hacc, by omega, s2⟩
  · rintro H2 ⟨gs, hgs, hgl, s2⟩
    rw [List.length_map] at hgl
    walk_at "vc"


    walk_at "vc"
    refine v_slL ((s1.trans s2).seq hS) fun l2 nl2 => ?_
    refine ⟨l2, rfl, ⟨_, SqL.of upd_same⟩, fun D2 nD2 => ?_⟩
    have hg3 : (upd H2 l2 (.lst (cutV (ns.map V.int) none (some 63)))) D = some (.lst (gs.map V.int)) := by walk_at "hp"
    have hl3 : (upd H2 l2 (.lst (cutV (ns.map V.int) none (some 63)))) l2 = some (.lst (cutV (ns.map V.int) none (some 63))) := upd_same
    generalize upd H2 l2 (.lst (cutV (ns.map V.int) none (some 63))) = H3 at *
    rw [em] at hl3
    refine lc_list (xs := ms.map V.int) (fun i H' => ∃ acc : List Int, H' D2 = some (.lst (acc.map V.int)) ∧ acc.length ≤ i ∧ Same H3 H') ⟨[], upd_same, Nat.le_refl _, same_upd nD2⟩ (fun i H' _ ⟨_, _, _, s⟩ => SqL.of (s _ _ hl3)) ?_ ?_
    · rintro i x H4 hx ⟨acc, hacc, hal, s4⟩
      obtain ⟨n, rfl⟩ := map_get hx
      have hi : i < ms.length := by
        have := (List.getElem?_eq_some_iff.mp hx).1
        rw [List.length_map] at this
        exact this
      walk_at "vc"
      refine ⟨rfl, ?_⟩
      walk_at "vc"
      refine v_I ⟨by decide, by decide, by decide⟩ ?_
      walk_at "vc"
      refine v_ite (fun c => ?_) (fun c => ?_)
      · walk_at "vc"
        refine v_I (by decide) ?_
        refine ⟨_, hacc, by rw [List.length_map]; exact small1000 (by omega), acc ++ [n % 1000003], by rw [upd_same, List.map_append]; rfl, by rw [List.length_append]; show acc.length + 1 ≤ i + 1; omega, fun b o e => ?_⟩
        rw [upd_ne (ne_of_none e nD2)]
        exact s4 _ _ e
      · exact ⟨acc, hacc, by omega, s4⟩
    · rintro H4 ⟨ss, hss, hsl, s4⟩
      rw [List.length_map] at hsl
      walk_at "vc"
      intro p np
      have hg4 := s4 _ _ hg3
      refine q p _ ⟨D, D2, gs, ss, 0, 0, upd_same, by walk_at "hp", by walk_at "hp", fun z => ?_, fun z => ?_, by omega, by omega⟩
      · rw [z, np] at hg4; cases hg4
      · rw [z, np] at hss; cases hss
end

/-! ### trees: the mathematics -/
theorem pigeon : ∀ (n : Nat) (f : Nat → Nat), (∀ k, k ≤ n → f k < n) → ∃ i j, i < j ∧ j ≤ n ∧ f i = f j
  | 0, f, h => absurd (h 0 (Nat.le_refl _)) (by omega)
  | n + 1, f, h => by
    by_cases e : ∃ i, i ≤ n ∧ f i = f (n + 1)
    · obtain ⟨i, hi, e⟩ := e
      exact ⟨i, n + 1, by omega, Nat.le_refl _, e⟩
    · have ne : ∀ i, i ≤ n → f i ≠ f (n + 1) := fun i hi z => e ⟨i, hi, z⟩
      have hl := h (n + 1) (Nat.le_refl _)
      obtain ⟨i, j, hij, hj, g⟩ := pigeon n (fun k => if f k = n then f (n + 1) else f k) fun k hk => by
        have h1 := h k (by omega)
        have h2 := ne k hk
        by_cases q : f k = n
        · simp only [q, if_true]; omega
        · simp only [q, if_false]; omega
      refine ⟨i, j, hij, by omega, ?_⟩
      have h1 := ne i (by omega)
      have h2 := ne j hj
      by_cases q1 : f i = n
      · by_cases q2 : f j = n
        · rw [q1, q2]
        · simp only [q1, q2, if_true, if_false] at g
          exact absurd g.symm h2
      · by_cases q2 : f j = n
        · simp only [q1, q2, if_true, if_false] at g
          exact absurd g h1
        · simp only [q1, q2, if_false] at g
          exact g
/-- one step up; many -/
def stp (hs : List Int) (h : Int) : Int := if h = 0 then 0 else hs.getD (h.toNat - 1) 0
def up (hs : List Int) : Nat → Int → Int
  | 0, h => h
  | k + 1, h => up hs k (stp hs h)
theorem up_add (hs : List Int) : ∀ (a b : Nat) (h : Int), up hs (a + b) h = up hs b (up hs a h)
  | 0, b, h => by rw [Nat.zero_add]; rfl
  | a + 1, b, h => by
    rw [show a + 1 + b = (a + b) + 1 by omega]
    exact up_add hs a b (stp hs h)
theorem up_succ (hs : List Int) (k : Nat) (h : Int) : up hs (k + 1) h = stp hs (up hs k h) := up_add hs k 1 h
theorem up_zero (hs : List Int) : ∀ k : Nat, up hs k 0 = 0
  | 0 => rfl
  | k + 1 => up_zero hs k
theorem up_past {hs : List Int} {i j : Nat} {h : Int} (e : up hs i h = 0) (l : i ≤ j) : up hs j h = 0 := by
  rw [show j = i + (j - i) by omega, up_add, e, up_zero]
/-- all are places -/
def Pls (hs : List Int) : Prop := ∀ h ∈ hs, 0 ≤ h ∧ h ≤ hs.length
theorem Pls.at {hs : List Int} (p : Pls hs) (i : Nat) : 0 ≤ hs.getD i 0 ∧ hs.getD i 0 ≤ hs.length := by
  by_cases hi : i < hs.length
  · rw [List.getD_eq_getElem?_getD, List.getElem?_eq_getElem hi]
    exact p _ (List.getElem_mem hi)
  · rw [List.getD_eq_getElem?_getD, List.getElem?_eq_none (by omega)]
    exact ⟨Int.le_refl _, Int.natCast_nonneg _⟩
theorem up_in {hs : List Int} (p : Pls hs) : ∀ (k : Nat) (h : Int), 0 ≤ h → h ≤ hs.length → 0 ≤ up hs k h ∧ up hs k h ≤ hs.length
  | 0, h, a, b => ⟨a, b⟩
  | k + 1, h, a, b => by
    refine up_in p k (stp hs h) ?_ ?_
    · unfold stp
      split
      · exact Int.le_refl _
      · exact (p.at _).1
    · unfold stp
      split
      · exact Int.natCast_nonneg _
      · exact (p.at _).2
def leads (hs : List Int) (b : Int) : Bool := (List.range (hs.length + 1)).any fun k => decide (up hs k b = 0)
theorem leads_true {hs : List Int} {b : Int} {k : Nat} (hk : k ≤ hs.length) (e : up hs k b = 0) : leads hs b = true :=
  List.any_eq_true.mpr ⟨k, List.mem_range.mpr (by omega), decide_eq_true e⟩
theorem leads_false {hs : List Int} {b : Int} (h : ∀ k, k ≤ hs.length → up hs k b ≠ 0) : leads hs b = false := by
  cases e : leads hs b with
  | false => rfl
  | true =>
    obtain ⟨k, hk, q⟩ := List.any_eq_true.mp e
    exact absurd (of_decide_eq_true q) (h k (by have := List.mem_range.mp hk; omega))
theorem of_leads {hs : List Int} {b : Int} (h : leads hs b = true) : ∃ k, k ≤ hs.length ∧ up hs k b = 0 := by
  obtain ⟨k, hk, q⟩ := List.any_eq_true.mp h
  exact ⟨k, by have := List.mem_range.mp hk; omega, of_decide_eq_true q⟩
/-- one turn more tells nothing new -/
theorem leads_iff {hs : List Int} (p : Pls hs) {b : Int} (h0 : 0 ≤ b) (h1 : b ≤ hs.length) : leads hs b = decide (up hs (hs.length + 1) b = 0) := by
  by_cases e : up hs (hs.length + 1) b = 0
  · rw [decide_eq_true e]
    by_cases q : ∃ k, k ≤ hs.length ∧ up hs k b = 0
    · obtain ⟨k, hk, q⟩ := q
      exact leads_true hk q
    · exfalso
      have nz : ∀ k, k ≤ hs.length → up hs k b ≠ 0 := fun k hk z => q ⟨k, hk, z⟩
      obtain ⟨i, j, hij, hj, g⟩ := pigeon hs.length (fun k => (up hs k b).toNat - 1) fun k hk => by
        have := up_in p k b h0 h1
        have := nz k hk
        omega
      have e1 : up hs i b = up hs j b := by
        have := up_in p i b h0 h1
        have := up_in p j b h0 h1
        have := nz i (by omega)
        have := nz j hj
        have g' : (up hs i b).toNat - 1 = (up hs j b).toNat - 1 := g
        omega
      refine nz (i + (hs.length + 1 - j)) (by omega) ?_
      rw [up_add, e1, ← up_add, show j + (hs.length + 1 - j) = hs.length + 1 by omega]
      exact e
  · rw [decide_eq_false e]
    exact leads_false fun k hk z => e (up_past z (by omega))

/-! ### what is due for a thing -/
inductive Part where
  | hung
  | blk (k : Nat)
  | ring (k : Nat)
def badAt (xs : List V) (k : Nat) : Bool := match xs[k]? with
  | some (.int i) => !(decide (0 ≤ i ∧ i ≤ xs.length)) || decide (i = k + 1)
  | _ => true
def nums (xs : List V) : List Int := xs.map fun x => match x with
  | .int i => i
  | _ => 0
theorem nums_map (ns : List Int) : nums (ns.map V.int) = ns := by
  unfold nums
  rw [List.map_map]
  exact List.map_id' ns
def partT (xs : List V) : Option Part := if xs.length = 0 ∨ 40 < xs.length then some .hung else match (List.range xs.length).find? (badAt xs) with
  | some k => some (.blk (k + 1))
  | none => match (List.range xs.length).find? (fun (k : Nat) => !leads (nums xs) ((k : Int) + 1)) with
    | some k => some (.ring (k + 1))
    | none => none
theorem find_first {n k : Nat} {f : Nat → Bool} (hk : k < n) (h : f k = true) (l : ∀ j, j < k → f j = false) : (List.range n).find? f = some k := by
  rw [List.find?_range_eq_some]
  exact ⟨h, List.mem_range.mpr hk, fun j hj => by rw [l j hj]; rfl⟩
theorem find_no {n : Nat} {f : Nat → Bool} (l : ∀ j, j < n → f j = false) : (List.range n).find? f = none := by
  rw [List.find?_eq_none]
  intro j hj
  rw [l j (List.mem_range.mp hj)]
  exact Bool.false_ne_true
theorem partT_hung {xs : List V} (h : xs.length = 0 ∨ 40 < xs.length) : partT xs = some .hung := if_pos h
theorem partT_blk {xs : List V} {k : Nat} (h : ¬ (xs.length = 0 ∨ 40 < xs.length)) (hk : k < xs.length) (b : badAt xs k = true) (l : ∀ j, j < k → badAt xs j = false) : partT xs = some (.blk (k + 1)) := by
  unfold partT
  rw [if_neg h, find_first hk b l]
theorem partT_ring {xs : List V} {k : Nat} (h : ¬ (xs.length = 0 ∨ 40 < xs.length)) (g : ∀ j, j < xs.length → badAt xs j = false) (hk : k < xs.length) (b : leads (nums xs) (k + 1) = false) (l : ∀ j : Nat, j < k → leads (nums xs) (j + 1) = true) : partT xs = some (.ring (k + 1)) := by
  unfold partT
  rw [if_neg h, find_no g, find_first hk (by rw [b]; rfl) fun j hj => by rw [l j hj]; rfl]
theorem partT_none {xs : List V} (h : ¬ (xs.length = 0 ∨ 40 < xs.length)) (g : ∀ j, j < xs.length → badAt xs j = false) (l : ∀ j : Nat, j < xs.length → leads (nums xs) (j + 1) = true) : partT xs = none := by
  unfold partT
  rw [if_neg h, find_no g, find_no fun j hj => by rw [l j hj]; rfl]
/-- items of which none is bad are places -/
theorem good_nums {xs : List V} (g : ∀ j, j < xs.length → badAt xs j = false) : xs = (nums xs).map V.int ∧ Pls (nums xs) ∧ (nums xs).length = xs.length := by
  have hl : (nums xs).length = xs.length := List.length_map _
  have at_ : ∀ (j : Nat) (x : V), xs[j]? = some x → ∃ i : Int, x = .int i ∧ 0 ≤ i ∧ i ≤ xs.length ∧ i ≠ j + 1 := fun j x e => by
    have q := g j (List.getElem?_eq_some_iff.mp e).1
    unfold badAt at q
    rw [e] at q
    cases x with
    | int i =>
      simp only [Bool.or_eq_false_iff, Bool.not_eq_false', decide_eq_true_eq, decide_eq_false_iff_not] at q
      exact ⟨i, rfl, q.1.1, q.1.2, q.2⟩
    | _ => exact absurd q (by simp)
  refine ⟨?_, ?_, hl⟩
  · refine List.ext_getElem? fun j => ?_
    unfold nums
    rw [List.map_map, List.getElem?_map]
    cases e : xs[j]? with
    | none => rfl
    | some x =>
      obtain ⟨i, rfl, _⟩ := at_ j x e
      rfl
  · intro h hm
    rw [hl]
    unfold nums at hm
    obtain ⟨x, hx, e⟩ := List.mem_map.mp hm
    obtain ⟨j, hj⟩ := List.mem_iff_getElem?.mp hx
    obtain ⟨i, rfl, h0, h1, _⟩ := at_ j x hj
    have e' : i = h := e
    exact ⟨by omega, by omega⟩
/-- a tree's row: places, none the block's own, each leads home -/
def IsTree (hs : List Int) : Prop := 1 ≤ hs.length ∧ hs.length ≤ 40 ∧ Pls hs ∧ (∀ (k : Nat) (h : Int), hs[k]? = some h → h ≠ k + 1) ∧ ∀ b : Nat, b < hs.length → leads hs (b + 1) = true
theorem IsTree.part {hs : List Int} (t : IsTree hs) : partT (hs.map V.int) = none := by
  obtain ⟨h1, h2, p, ns, l⟩ := t
  have hl : (hs.map V.int).length = hs.length := List.length_map _
  refine partT_none (by rw [hl]; omega) (fun j hj => ?_) fun j hj => ?_
  · rw [hl] at hj
    unfold badAt
    rw [List.getElem?_map, List.getElem?_eq_getElem hj, hl]
    have q := p _ (List.getElem_mem hj)
    have n := ns j _ (List.getElem?_eq_getElem hj)
    show (!decide (0 ≤ hs[j] ∧ hs[j] ≤ (hs.length : Int)) || decide (hs[j] = (j : Int) + 1)) = false
    rw [decide_eq_true q, decide_eq_false n]
    rfl
  · rw [hl] at hj
    rw [nums_map]
    exact l j hj

theorem partT_inv {xs : List V} (h : partT xs = none) : ∃ hs : List Int, xs = hs.map V.int ∧ IsTree hs := by
  unfold partT at h
  split at h
  · cases h
  · rename_i hl
    split at h
    · cases h
    · rename_i hf
      split at h
      · cases h
      · rename_i hg
        have g : ∀ j, j < xs.length → badAt xs j = false := fun j hj => by
          have := List.find?_eq_none.mp hf j (List.mem_range.mpr hj)
          simpa using this
        obtain ⟨en, pl, ln⟩ := good_nums g
        refine ⟨nums xs, en, by omega, by omega, pl, fun k z hk => ?_, fun b hb => ?_⟩
        · have hk' : k < xs.length := by rw [← ln]; exact (List.getElem?_eq_some_iff.mp hk).1
          have q := g k hk'
          unfold badAt at q
          rw [en, List.getElem?_map, hk] at q
          have q' : (!decide (0 ≤ z ∧ z ≤ ((((nums xs).map V.int).length : Nat) : Int)) || decide (z = (k : Int) + 1)) = false := q
          simp only [Bool.or_eq_false_iff, decide_eq_false_iff_not] at q'
          exact q'.2
        · have := List.find?_eq_none.mp hg b (List.mem_range.mpr (by omega))
          simpa using this
/-! ### things and parts in a heap -/
def Thing (H : Hp) (x : V) (r : Option Part) : Prop := (∃ s, Kind H x s ∧ s ≠ "tuple" ∧ r = some .hung) ∨ ∃ (a : Addr) (xs : List V), x = .ref a ∧ H a = some (.tup xs) ∧ (∀ y ∈ xs, ∃ s, Kind H y s) ∧ r = partT xs
def Enc (H : Hp) (x : V) : Option Part → Prop
  | none => x = .non
  | some .hung => x = .str "hung"
  | some (.blk k) => x = .int k
  | some (.ring k) => ∃ t, x = .ref t ∧ H t = some (.tup [.str "ring", .int k])
theorem Thing.same {H H' : Hp} {x : V} {r : Option Part} (h : Thing H x r) (e : Same H H') : Thing H' x r := by
  rcases h with ⟨s, k, n, q⟩ | ⟨a, xs, q, ha, k, z⟩
  · exact .inl ⟨s, k.same e, n, q⟩
  · exact .inr ⟨a, xs, q, e _ _ ha, fun y hy => let ⟨s, h⟩ := k y hy; ⟨s, h.same e⟩, z⟩
theorem Enc.same {H H' : Hp} {x : V} {r : Option Part} (h : Enc H x r) (e : Same H H') : Enc H' x r := by
  cases r with
  | none => exact h
  | some p =>
    cases p with
    | hung => exact h
    | blk k => exact h
    | ring k =>
      obtain ⟨t, q, ht⟩ := h
      exact ⟨t, q, e _ _ ht⟩

/-! ### X(), X an own exception class without own __init__ -/
section
variable {X : Cx}
theorem pmk_own0 {C : Addr} {bmB : List Value} {B newId initId : String} {x : Str} {p pos : Pos} (F : ExcBaseFacts B newId initId bmB) (q : PySem.W.excIn X.K C bmB newId = true) (gC : X.mg x = some (.ref C)) (kC : PySem.W.keepIn X.K (.ref C) = true) (r : Raises X (.ref C)) (hg : Gl X x)
    (hdb : (x == ("__debug__" : Str)) = false := by decide) : PMk X (.Call (.Name x p) [] [] pos) (fun _ H Q => Q (.ref C) none H) := by
  intro pins s σ H Q I h
  refine wpAny_Call_Name_kw (ld_glob I hg gC ?_ hdb)
  refine PySem.W.callWith_K0 I.kIn kC ?_
  show wpAny _ _ (call (.ref C) []) _ _ _
  obtain ⟨bm, N, nm, qn, bs, hdct, sn, sub, ab, col, dd, k0, k1, k2, k3, k5, mN, hC, hN, hni, T⟩ := exc_obj I.kIn q
  obtain ⟨hp1, g1, d1, tk1, os1⟩ := s
  refine wpAny_call_exc_subT F T hC hN hni (fun h' e hm => ?_) (Nat.zero_le _)
  exact mk_of I hm r h (I.hok.gone hm.new)
end
/-! ### a != b by an own __eq__ -/
theorem ns_some {K : PySem.W.Frag} {h : Heap} {N : Addr} {mg : Str → Option Value} {n : Str} {v : Value} (X : K.In h) (G : h.Ns N mg) (q : PySem.W.nsIn K N n = some (some v)) : mg n = some v := by
  obtain ⟨ob, ents, ep, hob, hdat, _, hfind⟩ := G
  unfold PySem.W.nsIn at q
  split at q
  · rename_i hl
    have e1 := X _ _ hl
    rw [hob] at e1
    cases e1
    cases hdat
    split at q
    · rename_i hx
      cases q
      rw [← hfind]
      unfold nsFind findBy
      rw [← Array.find?_toList, hx]
      rfl
    · split at q <;> cases q
  · cases q
structure NeC (K : PySem.W.Frag) (C f : Addr) : Prop where
  cls : ∃ nm q N bs sn sub ab col dd k0 k1 k2 k3 k5 hdct newId, K.lookup C = some (excClassObj nm q C N bs [.type "object"] hdct sn sub ab col dd k0 k1 k2 k3 k5 newId) ∧ PySem.W.nsOkIn K N = true ∧ PySem.W.nsIn K N "__eq__" = some (some (.ref f)) ∧ PySem.W.nsIn K N "__ne__" = some none
  fn : ∃ of, K.lookup f = some of ∧ of.cls = .type "function"
def rNeOwn (K : PySem.W.Frag) (C : Addr) (sp : Sp) (E : XK) : R2 := fun x y H Q => ∃ (a b dx dy : Addr) (fs gs : List (Str × V)), x = .ref a ∧ y = .ref b ∧ H a = some (.ins C dx fs) ∧ H b = some (.ins C dy gs) ∧
  sp [x, y] H (fun v H' => ∃ k, v = .bl k ∧ Q (.bl (!k)) H') E
section
variable {X : Cx} {CX : CXT} {C f : Addr} {fd : FuncData} {ps : List Str} {sp : Sp} {E : XK} {n : Nat}
theorem op_neOwn (F : FnOk X.prog X.w X.K X.mg X.base CX n f fd ps sp) (hr : Room (n + 1) X.A) (N : NeC X.K C f) (hb : Binds X.K fd ps []) (hx : Passes CX X E) : OpR X (compareOp .NotEq) (rNeOwn X.K C sp E) := by
  intro pins s σ H x y u v Q I rx ry d
  obtain ⟨a, b, dx, dy, fs, gs, rfl, rfl, ha, hb', hsp⟩ := d
  cases rx
  cases ry
  obtain ⟨⟨nm, q, Nn, bs, sn, sub, ab, col, dd, k0, k1, k2, k3, k5, hdct, newId, hC, hN, he, hne⟩, ⟨of, hof, hofc⟩⟩ := N
  obtain ⟨mA, J, _⟩ := ins_get I.hok ha
  obtain ⟨oda, Ja, _⟩ := J.look
  obtain ⟨mB, J2, _⟩ := ins_get I.hok hb'
  obtain ⟨odb, Jb, _⟩ := J2.look
  have hu := hr.units
  have e0 : Env0 X.prog X.w X.K X.mg X.base X.A.in1 X.stack s H := I.env0.in1
  have hl := F.len _ _ _ _ hsp
  have r2 : Vals [V.ref a, V.ref b] [Value.ref a, Value.ref b] := .cons rfl (.cons rfl .nil)
  have hcall : wpAny (model X.prog X.w) X.A.in1 (call (.ref f) [.ref a, .ref b]) (fun v s' => ∃ b, v = .bool b ∧ EP X pins σ Q (.bool (!b)) s') X.xe s :=
    wpAny_call (codeAny_mono (F.run X.A.in1 X.stack s H ⟨[.ref a, .ref b], []⟩ [.ref a, .ref b] [.ref a, .ref b] _ E hr.in1 e0 (by
      have := hb s [.ref a, .ref b] I.kIn (by simpa using hl)
      simpa using this) r2 hsp) fun r s' hq => by
    cases r with
    | error e => exact hx pins σ H s e s' I hq
    | ok fl =>
      cases fl with
      | ret w =>
        obtain ⟨z, H', I', rz, k, ez, q⟩ := I.after hq
        subst ez
        cases rz
        exact ⟨k, rfl, .bl (!k), H', I', rfl, q⟩
      | next => exact False.elim hq
      | brk => exact False.elim hq
      | cont => exact False.elim hq)
  obtain ⟨hp1, g1, d1, tk1, os1⟩ := s
  have X1 : hp1.OwnEqNoNe a C f "object" [.type "object"] := by
    refine ⟨_, of, nm, q, Nn, bs, hdct, sn, sub, ab, col, dd, k0, k1, k2, k3, k5, newId, hp1.nsMap Nn, _, Ja.1, Ja.cls, I.kIn _ _ hC, .of_isNs (PySem.W.isNs_of_in I.kIn hN), ns_some I.kIn (.of_isNs (PySem.W.isNs_of_in I.kIn hN)) he, I.kIn _ _ hof, hofc, PySem.F.cmp_object.mro, PySem.F.cmp_object.eq.lookup, PySem.W.nsMap_none_of_in I.kIn hN hne⟩
  exact compareOp_ne_ownEq PySem.F.cmp_object X1 Jb.1 Jb.cls (by omega) hcall
end
/-! ### tuple.index of whole numbers -/
def rTIndexI (K : PySem.W.Frag) : V → List V → Hp → VK → Prop := fun x xs H Q => ∃ (p : Addr) (ys : List Int) (z : Int) (j : Nat), x = .ref p ∧ xs = [.int z] ∧ SqT K H p (ys.map V.int) ∧ ys[j]? = some z ∧ (∀ m, m < j → ys[m]? ≠ some z) ∧ Q (.int (j : Nat)) H
theorem flat_ints (ys : List Int) : (ys.map V.int).all flatV = true := by
  rw [List.all_map]
  exact List.all_eq_true.mpr fun _ _ => rfl
section
variable {X : Cx}
theorem mt_tup_indexI : MtR X "tuple.index" (rTIndexI X.K) := by
  intro pins s σ H x xs v us Q I rx rs h
  obtain ⟨p, ys, z, j, rfl, rfl, hq, hy, hno, q⟩ := h
  cases rx
  obtain ⟨u, rfl, t, rfl⟩ := vals1 rs
  obtain ⟨its, r, pl, hz⟩ := I.tuple hq
  obtain ⟨⟨cls, dd, dt, sl⟩, ho, hc, n, hd⟩ := pl
  simp only at hc hd
  subst hc
  subst hd
  have hl : its.toArray.size = ys.length := by rw [List.size_toArray, ← r.length, List.length_map]
  have hj : j < its.toArray.size := by rw [hl]; exact (List.getElem?_eq_some_iff.mp hy).1
  have at' : ∀ (m : Nat) (hm : m < its.toArray.size), ∃ y t', ys[m]? = some y ∧ its.toArray[m] = Value.int y t' := fun m hm => by
    have hm' : m < ys.length := by rw [← hl]; exact hm
    obtain ⟨w, hw, t', hw'⟩ := r.get (i := m) (x := .int ys[m]) (by simp [hm'])
    refine ⟨ys[m], t', List.getElem?_eq_getElem hm', ?_⟩
    have e := (List.getElem?_eq_some_iff.mp hw).2
    rw [← hw', ← e]
    simp
  refine call_meets PySem.F.slot_tuple_index ⟨_, ho, rfl⟩ PySem.F.entry_tuple_index (PySem.F.args_tuple_index_2 _ _) (TI.tuple_indexAt p its.toArray n dd sl (.int z t) (eqU (.int z)) j hj ?_ ?_)
    ⟨ho, fun w hw => mem_eqAt (x := .int z) ⟨t, rfl⟩ rfl r (flat_ints ys) w (by simpa using hw), ⟨.int (j : Nat), H, I.tok _, ⟨_, rfl⟩, q⟩⟩
  · obtain ⟨y, t', h1, h2⟩ := at' j hj
    rw [hy] at h1
    cases h1
    rw [h2]
    show (z == z) = true
    exact beq_self_eq_true z
  · intro m hm hmj
    obtain ⟨y, t', h1, h2⟩ := at' m hm
    rw [h2]
    show (y == z) = false
    have e := hno m hmj
    rw [h1] at e
    have ne : y ≠ z := fun z' => e (by rw [z'])
    simpa using ne
end
/-! ### sorted(t), t a tuple of whole numbers -/
section
open PySem.W PyProof.Rows SrtO
variable {prog : Program} {w : World} {A : Around} {E : Value → Shared → Prop} {s : Shared}
theorem sorted_ordT {l : Addr} {vs : List Value} {ltv : Value → Value → Bool} {o : Obj} {n : Nat} {Q : Value → Shared → Prop} (O : Swo ltv) (ho : s.heap.get? l = some o) (hc : o.cls = .type "tuple") (hd : o.data = .seq vs.toArray n) (hz : vs.length ≤ sizeLine)
    (hS : 2 ≤ vs.length → ∀ (h₁ : Heap) (a : Addr), h₁.get? a = some (seqObj "list" vs.toArray 0) → SortableO prog w A.in1.in1 { s with heap := h₁ } a vs ltv)
    (h : ∀ (out : List Value) (h2 : Heap) (a : Addr) (e : Nat), Srtd ltv out → Stb ltv out vs → s.heap.get? a = none → (∀ b o', s.heap.get? b = some o' → h2.get? b = some o') → h2.get? a = some (seqObj "list" out.toArray e) → Q (.ref a) { s with heap := h2 }) :
    wpAny (model prog w) A (call (.builtin "sorted") [.ref l]) Q E s := by
  refine Calls.call_function_entry kind_sorted plain_sorted entry_sorted (args_sorted1 _) ?_
  unfold Builtin.«sorted»
  refine wpAny_bind (m := checkCount "sorted" 1 1 _) (wpAny_pure ?_)
  refine wpAny_bind (wpAny_collect_seq l (.inr rfl) ho hc hd (fun h1 k1 => ?_) (by rw [List.size_toArray]; exact hz))
  refine wpAny_bind (wpAny_newList ?_ hz)
  have hoL : (h1.push (seqObj "list" vs.toArray 0)).get? h1.objs.size = some (seqObj "list" vs.toArray 0) := Heap.get?_push_size _ rfl
  have nw : ∀ b o', s.heap.get? b = some o' → b ≠ h1.objs.size ∧ b < (h1.push (seqObj "list" vs.toArray 0)).objs.size ∧ (h1.push (seqObj "list" vs.toArray 0)).get? b = some o' := fun b o' q => by
    have hlt : b < h1.objs.size := Heap.lt_size (k1 b o' q)
    exact ⟨Nat.ne_of_lt hlt, by rw [size_push']; exact Nat.lt_succ_of_lt hlt, Heap.get?_push_of_some _ (k1 b o' q)⟩
  have fr : s.heap.get? h1.objs.size = none := by
    cases q : s.heap.get? h1.objs.size with
    | none => rfl
    | some o' => exact absurd rfl (nw _ _ q).1
  show wpAny _ _ _ _ _ { s with heap := h1.push (seqObj "list" vs.toArray 0) }
  refine wpAny_bind (wpAny_holding (wpAny_call_entry slot_list_sort ⟨_, hoL, rfl⟩ entry_list_sort (list_sort_ord O hoL hz (fun h2 => hS h2 _ _ hoL) fun out hs hb => ⟨_, rfl, ?_⟩) (args_list_sort _)))
  obtain ⟨e, he⟩ := sortedHeap_at (vs := vs) (out := out.toArray) hoL
  exact wpAny_pure ⟨_, rfl, h out _ _ e hs hb fr (fun b o' q => by rw [sortedHeap_old (nw b o' q).1 (nw b o' q).2.1]; exact (nw b o' q).2.2) he⟩
end
def rSortedT (K : PySem.W.Frag) : List V → Hp → VK → Prop := fun vs H Q => ∃ (a : Addr) (ns : List Int), vs = [V.ref a] ∧ SqT K H a (ns.map V.int) ∧
  ∀ (ns' : List Int) (p : Addr), ns'.Perm ns → ns'.Pairwise (· ≤ ·) → H p = none → Q (.ref p) (upd H p (.lst (ns'.map V.int)))
section
variable {X : Cx}
theorem cr_sortedT : CallR X (.builtin "sorted") (rSortedT X.K) := by
  intro pins s σ H vs us Q I r h
  obtain ⟨a, ns, rfl, hs, q⟩ := h
  obtain ⟨its, rv, ⟨o, ho, hc, n, hd⟩, hz⟩ := I.tuple hs
  rw [Vals.ref1 r]
  have hi := rv.ints
  refine sorted_ordT SrtO.swo_int ho hc hd (by rw [← rv.length]; exact hz) (fun h2 h₁ a' _ => SrtO.ints_sortable hi h2) fun out h2 p e h3 h4 fr k he' => ?_
  obtain ⟨k1, k2, k3⟩ := SrtO.ints_out hi h3 h4
  have hlen : ((out.map SrtO.iv).map V.int).length ≤ sizeLine := by
    rw [List.length_map, k2.length_eq]
    rw [List.length_map] at hz
    exact hz
  have hn : H p = none := I.hok.gone fr
  exact ⟨.ref _, upd H p (.lst ((out.map SrtO.iv).map V.int)), I.laidN (t' := s.toks) k fr hn ⟨hlen, out, e, vals_of_ints k1, he'⟩, rfl, q _ _ k2 k3 hn⟩
end

/-! ### ways up, blocks beneath -/
def way (hs : List Int) : Nat → Int → List Int
  | 0, _ => []
  | k + 1, h => if h = 0 then [] else stp hs h :: way hs k (stp hs h)
def wy (hs : List Int) (h : Int) : List Int := way hs hs.length h
theorem way_zero (hs : List Int) : ∀ k, way hs k 0 = []
  | 0 => rfl
  | k + 1 => if_pos rfl
theorem way_more {hs : List Int} : ∀ {k : Nat} {h : Int}, up hs k h = 0 → way hs (k + 1) h = way hs k h
  | 0, h, e => by
    have e' : h = 0 := e
    subst e'
    exact if_pos rfl
  | k + 1, h, e => by
    by_cases z : h = 0
    · subst z
      rw [way_zero, way_zero]
    · show (if h = 0 then [] else stp hs h :: way hs (k + 1) (stp hs h)) = (if h = 0 then [] else stp hs h :: way hs k (stp hs h))
      rw [if_neg z, if_neg z, way_more (k := k) e]
section
variable {hs : List Int} {c p h : Int}
theorem IsTree.up0 (t : IsTree hs) (h0 : 0 ≤ h) (h1 : h ≤ hs.length) : up hs hs.length h = 0 := by
  by_cases z : h = 0
  · rw [z, up_zero]
  · obtain ⟨k, hk, e⟩ := of_leads (t.2.2.2.2 (h.toNat - 1) (by omega))
    rw [show (((h.toNat - 1 : Nat) : Int) + 1) = h by omega] at e
    exact up_past e hk
theorem wy_zero : wy hs 0 = [] := way_zero ..
theorem wy_cons (t : IsTree hs) (h0 : 1 ≤ h) (h1 : h ≤ hs.length) : wy hs h = stp hs h :: wy hs (stp hs h) := by
  unfold wy
  rw [← way_more (t.up0 (by omega) h1)]
  show (if h = 0 then [] else _) = _
  rw [if_neg (by omega)]
theorem stp_in (p : Pls hs) (h : Int) : 0 ≤ stp hs h ∧ stp hs h ≤ hs.length := by
  unfold stp
  split
  · exact ⟨Int.le_refl _, Int.natCast_nonneg _⟩
  · exact p.at _
theorem stp_at {k : Nat} {z : Int} (h : hs[k]? = some z) : stp hs ((k : Int) + 1) = z := by
  unfold stp
  rw [if_neg (by omega), show (((k : Int) + 1).toNat - 1) = k by omega, List.getD_eq_getElem?_getD, h]
  rfl
theorem stp_get (h0 : 1 ≤ h) (h1 : h ≤ hs.length) : hs[h.toNat - 1]? = some (stp hs h) := by
  have hk : h.toNat - 1 < hs.length := by omega
  have := stp_at (List.getElem?_eq_getElem hk)
  rw [show (((h.toNat - 1 : Nat) : Int) + 1) = h by omega] at this
  rw [this, List.getElem?_eq_getElem hk]
theorem dep_stp (t : IsTree hs) (h0 : 1 ≤ h) (h1 : h ≤ hs.length) : (wy hs h).length = (wy hs (stp hs h)).length + 1 := by
  rw [wy_cons t h0 h1, List.length_cons]
/-- along the way up it is ever less deep -/
theorem dep_mem (t : IsTree hs) : ∀ (d : Nat) (c : Int), (wy hs c).length = d → 0 ≤ c → c ≤ hs.length → ∀ p, p ∈ wy hs c → (wy hs p).length < d ∧ 0 ≤ p ∧ p ≤ hs.length
  | 0, c, e, _, _, p, m => by rw [List.length_eq_zero_iff.mp e] at m; cases m
  | d + 1, c, e, h0, h1, p, m => by
    have nz : c ≠ 0 := fun z => by rw [z, wy_zero] at m; cases m
    have ds := dep_stp t (h := c) (by omega) h1
    have si := stp_in t.2.2.1 c
    rw [wy_cons t (by omega) h1] at m
    rcases List.mem_cons.mp m with z | m
    · rw [z]
      exact ⟨by omega, si⟩
    · have q := dep_mem t d (stp hs c) (by omega) si.1 si.2 p m
      exact ⟨by omega, q.2⟩
def blocks (n : Nat) : List Int := (List.range n).map fun (k : Nat) => (k : Int) + 1
theorem blocks_len (n : Nat) : (blocks n).length = n := by
  unfold blocks
  rw [List.length_map, List.length_range]
theorem blocks_succ (i : Nat) : blocks (i + 1) = blocks i ++ [(i : Int) + 1] := by
  unfold blocks
  rw [List.range_succ, List.map_append]
  rfl
theorem blocks_mem {n : Nat} : c ∈ blocks n ↔ 1 ≤ c ∧ c ≤ n := by
  unfold blocks
  rw [List.mem_map]
  constructor
  · rintro ⟨k, hk, rfl⟩
    have := List.mem_range.mp hk
    omega
  · rintro ⟨a, b⟩
    exact ⟨c.toNat - 1, List.mem_range.mpr (by omega), by omega⟩
theorem blocks_nodup (n : Nat) : (blocks n).Nodup := by
  unfold blocks
  refine List.Pairwise.map _ (fun a b h => ?_) List.nodup_range
  intro e
  exact h (by omega)
theorem blocks_sorted (n : Nat) : (blocks n).Pairwise (· < ·) := by
  unfold blocks
  refine List.Pairwise.map _ (fun a b h => ?_) List.pairwise_lt_range
  omega
/-- the first i blocks that hang at p -/
def hangN (hs : List Int) (p : Int) (i : Nat) : List Int := (blocks i).filter fun c => decide (stp hs c = p)
def hang (hs : List Int) (p : Int) : List Int := hangN hs p hs.length
/-- the first i blocks beneath p -/
def benN (hs : List Int) (p : Int) (i : Nat) : List Int := (blocks i).filter fun c => decide (p ∈ wy hs c)
def ben (hs : List Int) (p : Int) : List Int := benN hs p hs.length
theorem hangN_succ (i : Nat) : hangN hs p (i + 1) = hangN hs p i ++ if stp hs ((i : Int) + 1) = p then [(i : Int) + 1] else [] := by
  unfold hangN
  rw [blocks_succ, List.filter_append]
  congr 1
  show List.filter _ [(i : Int) + 1] = _
  by_cases e : stp hs ((i : Int) + 1) = p
  · rw [if_pos e]; simp [e]
  · rw [if_neg e]; simp [e]
theorem benN_succ (i : Nat) : benN hs p (i + 1) = benN hs p i ++ if p ∈ wy hs ((i : Int) + 1) then [(i : Int) + 1] else [] := by
  unfold benN
  rw [blocks_succ, List.filter_append]
  congr 1
  show List.filter _ [(i : Int) + 1] = _
  by_cases e : p ∈ wy hs ((i : Int) + 1)
  · rw [if_pos e]; simp [e]
  · rw [if_neg e]; simp [e]
theorem mem_hang : c ∈ hang hs p ↔ (1 ≤ c ∧ c ≤ hs.length) ∧ stp hs c = p := by
  unfold hang hangN
  rw [List.mem_filter, blocks_mem, decide_eq_true_eq]
theorem mem_ben : c ∈ ben hs p ↔ (1 ≤ c ∧ c ≤ hs.length) ∧ p ∈ wy hs c := by
  unfold ben benN
  rw [List.mem_filter, blocks_mem, decide_eq_true_eq]
theorem hang_nodup : (hang hs p).Nodup := (blocks_nodup _).filter _
theorem ben_nodup : (ben hs p).Nodup := (blocks_nodup _).filter _
theorem ben_sorted : (ben hs p).Pairwise (· < ·) := (blocks_sorted _).filter _
theorem hangN_len (i : Nat) : (hangN hs p i).length ≤ i := by
  refine Nat.le_trans (List.length_filter_le _ _) ?_
  rw [blocks_len]
  exact Nat.le_refl _
theorem benN_len (i : Nat) : (benN hs p i).length ≤ i := by
  refine Nat.le_trans (List.length_filter_le _ _) ?_
  rw [blocks_len]
  exact Nat.le_refl _
/-- the search for what is beneath p: F found, W waiting -/
structure Dfs (hs : List Int) (p : Int) (F W : List Int) : Prop where
  fn : F.Nodup
  fb : ∀ c ∈ F, (1 ≤ c ∧ c ≤ hs.length) ∧ p ∈ wy hs c
  wn : W.Nodup
  wf : ∀ w ∈ W, w = p ∨ w ∈ F
  np : ∀ c ∈ F, stp hs c ∉ W
  pf : ∀ c ∈ F, stp hs c = p ∨ stp hs c ∈ F
  cl : ∀ c : Int, 1 ≤ c → c ≤ hs.length → (stp hs c = p ∨ stp hs c ∈ F) → stp hs c ∉ W → c ∈ F
theorem Dfs.start : Dfs hs p [] [p] where
  fn := List.nodup_nil
  fb := fun _ h => nomatch h
  wn := List.nodup_cons.mpr ⟨List.not_mem_nil, List.nodup_nil⟩
  wf := fun w h => .inl (List.mem_singleton.mp h)
  np := fun _ h => nomatch h
  pf := fun _ h => nomatch h
  cl := fun c _ _ h n => by
    rcases h with h | h
    · exact absurd (List.mem_singleton.mpr h) n
    · exact nomatch h
theorem Dfs.step (t : IsTree hs) (p0 : 0 ≤ p) (p1 : p ≤ hs.length) {F W : List Int} {w : Int} (d : Dfs hs p F (W ++ [w])) : Dfs hs p (F ++ hang hs w) (W ++ hang hs w) := by
  have hw : w = p ∨ w ∈ F := d.wf w (List.mem_append_right _ (List.mem_singleton.mpr rfl))
  have hA : ∀ c, c ∈ hang hs w → c ∉ F := fun c hc hf => d.np c hf (by rw [(mem_hang.mp hc).2]; exact List.mem_append_right _ (List.mem_singleton.mpr rfl))
  have hdep : (wy hs p).length ≤ (wy hs w).length := by
    rcases hw with z | z
    · rw [z]; exact Nat.le_refl _
    · have b := d.fb w z
      exact Nat.le_of_lt (dep_mem t _ w rfl (by omega) b.1.2 p b.2).1
  have hB : ∀ c, c ∈ hang hs w → c ≠ p := fun c hc z => by
    have m := mem_hang.mp hc
    have := dep_stp t m.1.1 m.1.2
    rw [m.2, z] at this
    omega
  have hC : w ∉ hang hs w := fun hc => by
    have m := mem_hang.mp hc
    have := dep_stp t m.1.1 m.1.2
    rw [m.2] at this
    omega
  have wn := List.nodup_append.mp d.wn
  have wW : w ∉ W := fun z => wn.2.2 w z w (List.mem_singleton.mpr rfl) rfl
  refine ⟨?_, ?_, ?_, ?_, ?_, ?_, ?_⟩
  · exact List.nodup_append.mpr ⟨d.fn, hang_nodup, fun a ha b hb z => hA b hb (z ▸ ha)⟩
  · intro c hc
    rcases List.mem_append.mp hc with hc | hc
    · exact d.fb c hc
    · have m := mem_hang.mp hc
      refine ⟨m.1, ?_⟩
      rw [wy_cons t m.1.1 m.1.2, m.2]
      rcases hw with z | z
      · rw [z]; exact List.mem_cons_self
      · exact List.mem_cons_of_mem _ (d.fb w z).2
  · refine List.nodup_append.mpr ⟨wn.1, hang_nodup, fun a ha b hb z => ?_⟩
    subst z
    rcases d.wf a (List.mem_append_left _ ha) with z | z
    · exact hB a hb z
    · exact hA a hb z
  · intro x hx
    rcases List.mem_append.mp hx with hx | hx
    · rcases d.wf x (List.mem_append_left _ hx) with z | z
      · exact .inl z
      · exact .inr (List.mem_append_left _ z)
    · exact .inr (List.mem_append_right _ hx)
  · intro c hc hx
    rcases List.mem_append.mp hc with hc | hc
    · rcases List.mem_append.mp hx with hx | hx
      · exact d.np c hc (List.mem_append_left _ hx)
      · rcases d.pf c hc with z | z
        · exact hB _ hx z
        · exact hA _ hx z
    · rw [(mem_hang.mp hc).2] at hx
      rcases List.mem_append.mp hx with hx | hx
      · exact wW hx
      · exact hC hx
  · intro c hc
    rcases List.mem_append.mp hc with hc | hc
    · rcases d.pf c hc with z | z
      · exact .inl z
      · exact .inr (List.mem_append_left _ z)
    · rw [(mem_hang.mp hc).2]
      rcases hw with z | z
      · exact .inl z
      · exact .inr (List.mem_append_left _ z)
  · intro c c0 c1 hs' hn
    by_cases e : stp hs c = w
    · exact List.mem_append_right _ (mem_hang.mpr ⟨⟨c0, c1⟩, e⟩)
    · refine List.mem_append_left _ (d.cl c c0 c1 ?_ fun z => ?_)
      · rcases hs' with z | z
        · exact .inl z
        · rcases List.mem_append.mp z with z | z
          · exact .inr z
          · exact absurd (List.mem_append_right _ z) hn
      · rcases List.mem_append.mp z with z | z
        · exact hn (List.mem_append_left _ z)
        · exact e (List.mem_singleton.mp z)
theorem Dfs.len {F W : List Int} (d : Dfs hs p F W) : F.length ≤ hs.length := by
  have := List.Nodup.length_le_of_subset d.fn (l₂ := blocks hs.length) fun c hc => blocks_mem.mpr (d.fb c hc).1
  rwa [blocks_len] at this
theorem Dfs.wlen {F W : List Int} (d : Dfs hs p F W) : W.length ≤ hs.length + 1 := by
  have := List.Nodup.length_le_of_subset d.wn (l₂ := p :: F) fun c hc => by
    rcases d.wf c hc with z | z
    · rw [z]; exact List.mem_cons_self
    · exact List.mem_cons_of_mem _ z
  have q := d.len
  rw [List.length_cons] at this
  omega
theorem Dfs.all (t : IsTree hs) {F : List Int} (d : Dfs hs p F []) : ∀ (k : Nat) (c : Int), (wy hs c).length = k → c ∈ ben hs p → c ∈ F
  | 0, c, e, h => by
    have m := mem_ben.mp h
    rw [List.length_eq_zero_iff.mp e] at m
    cases m.2
  | k + 1, c, e, h => by
    have m := mem_ben.mp h
    have ds := dep_stp t m.1.1 m.1.2
    have q := m.2
    rw [wy_cons t m.1.1 m.1.2] at q
    rcases List.mem_cons.mp q with z | z
    · exact d.cl c m.1.1 m.1.2 (.inl z.symm) List.not_mem_nil
    · have nz : stp hs c ≠ 0 := fun y => by rw [y, wy_zero] at z; cases z
      have si := stp_in t.2.2.1 c
      exact d.cl c m.1.1 m.1.2 (.inr (d.all t k (stp hs c) (by omega) (mem_ben.mpr ⟨⟨by omega, si.2⟩, z⟩))) List.not_mem_nil
theorem Dfs.done (t : IsTree hs) {F S : List Int} (d : Dfs hs p F []) (pm : S.Perm F) (so : S.Pairwise (· ≤ ·)) : S = ben hs p := by
  refine List.Perm.eq_of_pairwise (le := (· ≤ ·)) (fun a b _ _ h1 h2 => Int.le_antisymm h1 h2) so (ben_sorted.imp fun h => Int.le_of_lt h) ?_
  refine pm.trans ((List.perm_ext_iff_of_nodup d.fn ben_nodup).mpr fun c => ⟨fun h => ?_, fun h => d.all t _ c rfl h⟩)
  exact mem_ben.mpr (d.fb c h)
end

/-! ### blocks hung elsewhere -/
theorem lead_any {hs : List Int} (p : Pls hs) {b : Int} (h0 : 0 ≤ b) (h1 : b ≤ hs.length) : ∀ (m k : Nat), k ≤ m → up hs k b = 0 → leads hs b = true
  | m, k, hm, e => by
    by_cases hk : k ≤ hs.length
    · exact leads_true hk e
    · by_cases q : ∃ j, j ≤ hs.length ∧ up hs j b = 0
      · obtain ⟨j, hj, q⟩ := q
        exact leads_true hj q
      · have nz : ∀ j, j ≤ hs.length → up hs j b ≠ 0 := fun j hj z => q ⟨j, hj, z⟩
        obtain ⟨i, j, hij, hj, g⟩ := pigeon hs.length (fun k => (up hs k b).toNat - 1) fun k hk => by
          have := up_in p k b h0 h1
          have := nz k hk
          omega
        have e1 : up hs i b = up hs j b := by
          have := up_in p i b h0 h1
          have := up_in p j b h0 h1
          have := nz i (by omega)
          have := nz j hj
          have g' : (up hs i b).toNat - 1 = (up hs j b).toNat - 1 := g
          omega
        cases m with
        | zero => omega
        | succ m =>
          refine lead_any p h0 h1 m (i + (k - j)) (by omega) ?_
          rw [up_add, e1, ← up_add, show j + (k - j) = k by omega]
          exact e
section
variable {hs ms : List Int} {b c p h : Int}
theorem set_len (k : Nat) : (hs.set k p).length = hs.length := List.length_set
theorem stp_set (b0 : 1 ≤ b) (b1 : b ≤ hs.length) (c0 : 0 ≤ c) : stp (hs.set (b.toNat - 1) p) c = if c = b then p else stp hs c := by
  unfold stp
  by_cases z : c = 0
  · rw [if_pos z, if_pos z, if_neg (by omega)]
  · rw [if_neg z, if_neg z, List.getD_eq_getElem?_getD, List.getD_eq_getElem?_getD]
    by_cases e : c = b
    · subst e
      rw [List.getElem?_set_self (by omega), if_pos rfl]
      rfl
    · rw [List.getElem?_set_ne (by omega), if_neg e]
theorem IsTree.ne (t : IsTree hs) (h0 : 1 ≤ h) (h1 : h ≤ hs.length) : stp hs h ≠ h := fun e => by
  have := t.2.2.2.1 (h.toNat - 1) _ (stp_get h0 h1)
  omega
/-- what a tree's row must be, by steps up -/
theorem tree_of (l1 : 1 ≤ hs.length) (l2 : hs.length ≤ 40) (pl : ∀ c, 1 ≤ c → c ≤ (hs.length : Int) → 0 ≤ stp hs c ∧ stp hs c ≤ hs.length) (ne : ∀ c, 1 ≤ c → c ≤ (hs.length : Int) → stp hs c ≠ c)
    (ld : ∀ c, 1 ≤ c → c ≤ (hs.length : Int) → ∃ k, up hs k c = 0) : IsTree hs := by
  have P : Pls hs := fun x hx => by
    obtain ⟨k, hk⟩ := List.mem_iff_getElem?.mp hx
    have hl := (List.getElem?_eq_some_iff.mp hk).1
    have := pl ((k : Int) + 1) (by omega) (by omega)
    rw [stp_at hk] at this
    exact this
  refine ⟨l1, l2, P, fun k x hk e => ?_, fun k hk => ?_⟩
  · have hl := (List.getElem?_eq_some_iff.mp hk).1
    have := ne ((k : Int) + 1) (by omega) (by omega)
    rw [stp_at hk] at this
    exact this e
  · obtain ⟨m, e⟩ := ld ((k : Int) + 1) (by omega) (by omega)
    exact lead_any P (by omega) (by omega) m m (Nat.le_refl _) e
theorem up_same (b0 : 1 ≤ b) (b1 : b ≤ hs.length) (t : IsTree hs) : ∀ (k : Nat) (c : Int), 0 ≤ c → c ≤ hs.length → c ≠ b → b ∉ wy hs c → up (hs.set (b.toNat - 1) p) k c = up hs k c
  | 0, c, _, _, _, _ => rfl
  | k + 1, c, c0, c1, cb, nm => by
    show up _ k (stp _ c) = up hs k (stp hs c)
    rw [stp_set b0 b1 c0, if_neg cb]
    by_cases z : c = 0
    · subst z
      have e : stp hs 0 = 0 := if_pos rfl
      rw [e, up_zero, up_zero]
    · have w := wy_cons t (h := c) (by omega) c1
      rw [w] at nm
      have si := stp_in t.2.2.1 c
      exact up_same b0 b1 t k (stp hs c) si.1 si.2 (fun e => nm (by rw [e]; exact List.mem_cons_self)) fun m => nm (List.mem_cons_of_mem _ m)
theorem IsTree.move (t : IsTree hs) (b0 : 1 ≤ b) (b1 : b ≤ hs.length) (p0 : 0 ≤ p) (p1 : p ≤ hs.length) (nb : p ≠ b) (nm : b ∉ wy hs p) : IsTree (hs.set (b.toNat - 1) p) := by
  refine tree_of (by rw [set_len]; exact t.1) (by rw [set_len]; exact t.2.1) (fun c c0 c1 => ?_) (fun c c0 c1 => ?_) ?_
  · rw [set_len] at c1 ⊢
    rw [stp_set b0 b1 (by omega)]
    split
    · exact ⟨p0, p1⟩
    · exact stp_in t.2.2.1 c
  · rw [set_len] at c1
    rw [stp_set b0 b1 (by omega)]
    split
    · rename_i e
      rw [e]; exact nb
    · exact t.ne c0 c1
  · rw [set_len]
    have key : ∀ (d : Nat) (c : Int), (wy hs c).length = d → 0 ≤ c → c ≤ hs.length → ∃ k, up (hs.set (b.toNat - 1) p) k c = 0 := fun d => by
      induction d with
      | zero =>
        intro c e c0 c1
        by_cases z : c = 0
        · exact ⟨0, z⟩
        · rw [wy_cons t (by omega) c1] at e
          cases e
      | succ d ih =>
        intro c e c0 c1
        by_cases z : c = 0
        · exact ⟨0, z⟩
        · have ds := dep_stp t (h := c) (by omega) c1
          have si := stp_in t.2.2.1 c
          by_cases cb : c = b
          · refine ⟨hs.length + 1, ?_⟩
            show up _ hs.length (stp _ c) = 0
            rw [stp_set b0 b1 c0, if_pos cb, up_same b0 b1 t _ _ p0 p1 nb nm]
            exact t.up0 p0 p1
          · obtain ⟨k, hk⟩ := ih (stp hs c) (by omega) si.1 si.2
            refine ⟨k + 1, ?_⟩
            show up _ k (stp _ c) = 0
            rw [stp_set b0 b1 c0, if_neg cb]
            exact hk
    exact fun c c0 c1 => key _ c rfl (by omega) c1
theorem ben_iff (p0 : 0 ≤ p) (p1 : p ≤ hs.length) : p ∈ ben hs b ↔ b ∈ wy hs p := by
  rw [mem_ben]
  constructor
  · exact fun h => h.2
  · intro h
    have : p ≠ 0 := fun z => by rw [z, wy_zero] at h; cases h
    exact ⟨⟨by omega, p1⟩, h⟩
/-! ### blocks called anew -/
/-- an order of n blocks -/
structure Ord (n : Nat) (ms : List Int) : Prop where
  len : ms.length = n
  nd : ms.Nodup
  bl : ∀ m ∈ ms, 1 ≤ m ∧ m ≤ n
theorem Ord.at {n : Nat} (o : Ord n ms) (c0 : 1 ≤ c) (c1 : c ≤ n) : ms[c.toNat - 1]? = some (stp ms c) ∧ 1 ≤ stp ms c ∧ stp ms c ≤ n := by
  have e := stp_get (hs := ms) c0 (by rw [o.len]; exact c1)
  exact ⟨e, o.bl _ (List.mem_of_getElem? e)⟩
theorem stp_zero : stp ms 0 = 0 := if_pos rfl
theorem Ord.inj {n : Nat} (o : Ord n ms) {c d : Int} (c0 : 0 ≤ c) (c1 : c ≤ n) (d0 : 0 ≤ d) (d1 : d ≤ n) (e : stp ms c = stp ms d) : c = d := by
  by_cases z : c = 0
  · by_cases y : d = 0
    · rw [z, y]
    · have := (o.at (c := d) (by omega) d1).2
      rw [z, stp_zero] at e
      omega
  · by_cases y : d = 0
    · have := (o.at (c := c) (by omega) c1).2
      rw [y, stp_zero] at e
      omega
    · have hc := (o.at (c := c) (by omega) c1).1
      have hd := (o.at (c := d) (by omega) d1).1
      rw [e, ← hd] at hc
      have := (List.getElem?_inj (by rw [o.len]; omega) o.nd).mp hc
      omega
theorem Ord.perm {n : Nat} (o : Ord n ms) : ms.Perm (blocks n) := by
  refine (List.perm_ext_iff_of_nodup o.nd (blocks_nodup n)).mpr fun c => ⟨fun h => blocks_mem.mpr (o.bl c h), fun h => ?_⟩
  refine Classical.byContradiction fun nh => ?_
  have q := List.Nodup.length_le_of_subset (l₁ := c :: ms) (l₂ := blocks n) (List.nodup_cons.mpr ⟨nh, o.nd⟩) fun x hx => by
    rcases List.mem_cons.mp hx with z | z
    · rw [z]; exact h
    · exact blocks_mem.mpr (o.bl x z)
  rw [List.length_cons, o.len, blocks_len] at q
  omega
theorem Ord.sur {n : Nat} (o : Ord n ms) (c0 : 1 ≤ c) (c1 : c ≤ n) : ∃ d, 1 ≤ d ∧ d ≤ (n : Int) ∧ stp ms d = c := by
  obtain ⟨k, hk⟩ := List.mem_iff_getElem?.mp (o.perm.mem_iff.mpr (blocks_mem.mpr ⟨c0, c1⟩))
  have hl := (List.getElem?_eq_some_iff.mp hk).1
  rw [o.len] at hl
  exact ⟨(k : Int) + 1, by omega, by omega, stp_at hk⟩
/-- a row by its steps up -/
theorem row_ext {L M : List Int} (hl : L.length = M.length) (h : ∀ c, 1 ≤ c → c ≤ (L.length : Int) → stp L c = stp M c) : L = M := by
  refine List.ext_getElem? fun k => ?_
  by_cases hk : k < L.length
  · have a := stp_get (hs := L) (h := (k : Int) + 1) (by omega) (by omega)
    have b := stp_get (hs := M) (h := (k : Int) + 1) (by omega) (by omega)
    rw [show (((k : Int) + 1).toNat - 1) = k by omega] at a b
    rw [a, b, h _ (by omega) (by omega)]
  · rw [List.getElem?_eq_none (by omega), List.getElem?_eq_none (by omega)]
/-- the row of what is called anew, block by block -/
def callF (hs ms : List Int) : Nat → List Int
  | 0 => List.replicate hs.length 0
  | i + 1 => (callF hs ms i).set ((stp ms ((i : Int) + 1)).toNat - 1) (stp ms (stp hs ((i : Int) + 1)))
def callL (hs ms : List Int) : List Int := callF hs ms hs.length
theorem callF_len : ∀ i, (callF hs ms i).length = hs.length
  | 0 => List.length_replicate
  | i + 1 => by
    show ((callF hs ms i).set _ _).length = _
    rw [List.length_set, callF_len i]
theorem callF_at (o : Ord hs.length ms) : ∀ (i : Nat), i ≤ hs.length → ∀ c, 1 ≤ c → c ≤ (i : Int) → stp (callF hs ms i) (stp ms c) = stp ms (stp hs c)
  | 0, _, c, c0, c1 => by omega
  | i + 1, hi, c, c0, c1 => by
    have w := o.at (c := (i : Int) + 1) (by omega) (by omega)
    have wc := o.at (c := c) c0 (by omega)
    show stp ((callF hs ms i).set _ _) _ = _
    rw [stp_set w.2.1 (by rw [callF_len]; exact w.2.2) (by omega)]
    by_cases e : c = (i : Int) + 1
    · rw [if_pos (by rw [e]), e]
    · rw [if_neg (fun z => e (o.inj (by omega) (by omega) (by omega) (by omega) z))]
      exact callF_at o i (by omega) c c0 (by omega)
theorem callL_len : (callL hs ms).length = hs.length := callF_len _
theorem callL_at (o : Ord hs.length ms) (c0 : 0 ≤ c) (c1 : c ≤ hs.length) : stp (callL hs ms) (stp ms c) = stp ms (stp hs c) := by
  by_cases z : c = 0
  · rw [z, stp_zero, stp_zero, stp_zero, stp_zero]
  · exact callF_at o _ (Nat.le_refl _) c (by omega) c1
theorem up_call (t : IsTree hs) (o : Ord hs.length ms) : ∀ (k : Nat) (c : Int), 0 ≤ c → c ≤ hs.length → up (callL hs ms) k (stp ms c) = stp ms (up hs k c)
  | 0, c, _, _ => rfl
  | k + 1, c, c0, c1 => by
    show up _ k (stp _ _) = stp ms (up hs k (stp hs c))
    rw [callL_at o c0 c1]
    have si := stp_in t.2.2.1 c
    exact up_call t o k _ si.1 si.2
theorem way_call (t : IsTree hs) (o : Ord hs.length ms) : ∀ (k : Nat) (c : Int), 0 ≤ c → c ≤ hs.length → way (callL hs ms) k (stp ms c) = (way hs k c).map (stp ms)
  | 0, c, _, _ => rfl
  | k + 1, c, c0, c1 => by
    show (if stp ms c = 0 then [] else stp _ _ :: way _ k (stp _ _)) = (if c = 0 then [] else stp hs c :: way hs k (stp hs c)).map (stp ms)
    by_cases z : c = 0
    · rw [z, if_pos stp_zero, if_pos rfl]; rfl
    · have := (o.at (c := c) (by omega) c1).2
      rw [if_neg (by omega), if_neg z, callL_at o c0 c1, List.map_cons]
      have si := stp_in t.2.2.1 c
      rw [way_call t o k _ si.1 si.2]
theorem IsTree.call (t : IsTree hs) (o : Ord hs.length ms) : IsTree (callL hs ms) := by
  refine tree_of (by rw [callL_len]; exact t.1) (by rw [callL_len]; exact t.2.1) (fun c c0 c1 => ?_) (fun c c0 c1 => ?_) (fun c c0 c1 => ?_)
  all_goals
    rw [callL_len] at c1
    obtain ⟨d, d0, d1, rfl⟩ := o.sur c0 c1
    have si := stp_in t.2.2.1 d
  · rw [callL_at o (by omega) d1, callL_len]
    by_cases z : stp hs d = 0
    · rw [z, stp_zero]; omega
    · have := (o.at (c := stp hs d) (by omega) si.2).2
      omega
  · rw [callL_at o (by omega) d1]
    intro e
    exact t.ne d0 d1 (o.inj si.1 si.2 (by omega) d1 e)
  · refine ⟨hs.length, ?_⟩
    rw [up_call t o _ _ (by omega) d1, t.up0 (by omega) d1, stp_zero]
theorem call_move (o : Ord hs.length ms) (t : IsTree hs) (b0 : 1 ≤ b) (b1 : b ≤ hs.length) (p0 : 0 ≤ p) (p1 : p ≤ hs.length) : callL (hs.set (b.toNat - 1) p) ms = (callL hs ms).set ((stp ms b).toNat - 1) (stp ms p) := by
  have wb := o.at b0 b1
  refine row_ext (by rw [callL_len, List.length_set, List.length_set, callL_len]) fun c c0 c1 => ?_
  rw [callL_len, List.length_set] at c1
  obtain ⟨d, d0, d1, rfl⟩ := o.sur c0 c1
  rw [callL_at (by rw [List.length_set]; exact o) (by omega) (by rw [List.length_set]; exact d1), stp_set b0 b1 (by omega), stp_set wb.2.1 (by rw [callL_len]; exact wb.2.2) (by omega)]
  by_cases e : d = b
  · rw [if_pos e, if_pos (by rw [e])]
  · rw [if_neg e, if_neg (fun z => e (o.inj (by omega) d1 (by omega) b1 z)), callL_at o (by omega) d1]
theorem call_bars (o : Ord hs.length ms) (t : IsTree hs) (b0 : 1 ≤ b) (b1 : b ≤ hs.length) (p0 : 0 ≤ p) (p1 : p ≤ hs.length) (nb : p ≠ b) (nm : b ∉ wy hs p) : stp ms p ≠ stp ms b ∧ stp ms b ∉ wy (callL hs ms) (stp ms p) := by
  refine ⟨fun z => nb (o.inj p0 p1 (by omega) b1 z), fun z => ?_⟩
  unfold wy at z
  rw [callL_len, way_call t o _ _ p0 p1] at z
  obtain ⟨x, hx, e⟩ := List.mem_map.mp z
  have := (dep_mem t _ p rfl p0 p1 x hx).2
  rw [o.inj this.1 this.2 (by omega) b1 e] at hx
  exact nm hx
/-- the order back -/
def backL (ms : List Int) : List Int := (List.range ms.length).map fun (k : Nat) => ((ms.idxOf ((k : Int) + 1) : Nat) : Int) + 1
theorem backL_at {n : Nat} (o : Ord n ms) (c0 : 0 ≤ c) (c1 : c ≤ n) : stp (backL ms) (stp ms c) = c := by
  by_cases z : c = 0
  · rw [z, stp_zero, stp_zero]
  · have w := o.at (c := c) (by omega) c1
    have hk : (stp ms c).toNat - 1 < ms.length := by rw [o.len]; omega
    have e : (backL ms)[(stp ms c).toNat - 1]? = some (((ms.idxOf (stp ms c) : Nat) : Int) + 1) := by
      unfold backL
      rw [List.getElem?_map, List.getElem?_range hk]
      show some (((ms.idxOf _ : Nat) : Int) + 1) = _
      rw [show ((((stp ms c).toNat - 1 : Nat) : Int) + 1) = stp ms c by omega]
    have q := stp_at e
    rw [show ((((stp ms c).toNat - 1 : Nat) : Int) + 1) = stp ms c by omega] at q
    rw [q]
    have hi : ms.idxOf (stp ms c) = c.toNat - 1 := by
      have g := List.getElem?_eq_some_iff.mp w.1
      have := List.Nodup.idxOf_getElem o.nd (c.toNat - 1) g.1
      rw [g.2] at this
      exact this
    omega
theorem backL_ord {n : Nat} (o : Ord n ms) : Ord n (backL ms) := by
  have hl : (backL ms).length = n := by
    unfold backL
    rw [List.length_map, List.length_range, o.len]
  refine ⟨hl, ?_, fun m hm => ?_⟩
  · unfold backL
    refine List.pairwise_map.mpr (List.Pairwise.imp_of_mem (fun {a b} ha hb h e => h ?_) List.nodup_range)
    have ha' := List.mem_range.mp ha
    have hb' := List.mem_range.mp hb
    have la : ms.idxOf ((a : Int) + 1) < ms.length := List.idxOf_lt_length_iff.mpr (o.perm.mem_iff.mpr (blocks_mem.mpr ⟨by omega, by rw [← o.len]; omega⟩))
    have lb : ms.idxOf ((b : Int) + 1) < ms.length := List.idxOf_lt_length_iff.mpr (o.perm.mem_iff.mpr (blocks_mem.mpr ⟨by omega, by rw [← o.len]; omega⟩))
    have ga := List.getElem_idxOf la
    have gb := List.getElem_idxOf lb
    have e' : ms.idxOf ((a : Int) + 1) = ms.idxOf ((b : Int) + 1) := by omega
    have gg : (a : Int) + 1 = (b : Int) + 1 := by
      rw [← ga, ← gb]
      simp only [e']
    omega
  · unfold backL at hm
    obtain ⟨k, hk, rfl⟩ := List.mem_map.mp hm
    have hk' := List.mem_range.mp hk
    have : ms.idxOf ((k : Int) + 1) < ms.length := List.idxOf_lt_length_iff.mpr (o.perm.mem_iff.mpr (blocks_mem.mpr ⟨by omega, by rw [← o.len]; omega⟩))
    rw [o.len] at this
    omega
theorem call_back (o : Ord hs.length ms) (t : IsTree hs) : callL (callL hs ms) (backL ms) = hs := by
  have o2 : Ord (callL hs ms).length (backL ms) := by rw [callL_len]; exact backL_ord o
  refine row_ext (by rw [callL_len, callL_len]) fun c c0 c1 => ?_
  rw [callL_len, callL_len] at c1
  have w := o.at c0 c1
  have si := stp_in t.2.2.1 c
  have q := callL_at o2 (c := stp ms c) (by omega) (by rw [callL_len]; exact w.2.2)
  rw [backL_at o (by omega) c1, callL_at o (by omega) c1, backL_at o si.1 si.2] at q
  exact q
end

/-! ### tellings -/
section
variable {hs ks ms : List Int} {c p h : Int}
theorem wy_nodup (t : IsTree hs) : ∀ (d : Nat) (c : Int), (wy hs c).length = d → 0 ≤ c → c ≤ hs.length → (wy hs c).Nodup
  | 0, c, e, _, _ => by rw [List.length_eq_zero_iff.mp e]; exact List.nodup_nil
  | d + 1, c, e, c0, c1 => by
    have nz : c ≠ 0 := fun z => by rw [z, wy_zero] at e; cases e
    have ds := dep_stp t (h := c) (by omega) c1
    have si := stp_in t.2.2.1 c
    rw [wy_cons t (by omega) c1]
    refine List.nodup_cons.mpr ⟨fun m => ?_, wy_nodup t d _ (by omega) si.1 si.2⟩
    have := (dep_mem t _ _ rfl si.1 si.2 _ m).1
    omega
/-- layer by layer beneath a place -/
def layer (hs : List Int) (p : Int) : Nat → List Int
  | 0 => [p]
  | k + 1 => (layer hs p k).flatMap (hang hs)
theorem mem_layer (t : IsTree hs) : ∀ (k : Nat) (c : Int), c ∈ layer hs p (k + 1) ↔ (1 ≤ c ∧ c ≤ hs.length) ∧ (wy hs c)[k]? = some p
  | 0, c => by
    show c ∈ [p].flatMap (hang hs) ↔ _
    rw [List.flatMap_cons, List.flatMap_nil, List.append_nil, mem_hang]
    refine and_congr_right fun b => ?_
    rw [wy_cons t b.1 b.2]
    show _ ↔ some (stp hs c) = some p
    rw [Option.some_inj]
  | k + 1, c => by
    show c ∈ (layer hs p (k + 1)).flatMap (hang hs) ↔ _
    rw [List.mem_flatMap]
    constructor
    · rintro ⟨x, hx, hc⟩
      have m := mem_hang.mp hc
      refine ⟨m.1, ?_⟩
      rw [wy_cons t m.1.1 m.1.2, m.2]
      exact ((mem_layer t k x).mp hx).2
    · rintro ⟨b, e⟩
      rw [wy_cons t b.1 b.2] at e
      have e' : (wy hs (stp hs c))[k]? = some p := e
      have si := stp_in t.2.2.1 c
      have nz : stp hs c ≠ 0 := fun z => by rw [z, wy_zero] at e'; cases e'
      exact ⟨stp hs c, (mem_layer t k _).mpr ⟨⟨by omega, si.2⟩, e'⟩, mem_hang.mpr ⟨b, rfl⟩⟩
theorem layer_nodup : ∀ k, (layer hs p k).Nodup
  | 0 => List.nodup_cons.mpr ⟨List.not_mem_nil, List.nodup_nil⟩
  | k + 1 => by
    show ((layer hs p k).flatMap (hang hs)).Nodup
    refine List.pairwise_flatMap.mpr ⟨fun x _ => hang_nodup, (layer_nodup k).imp fun {a b} ne => ?_⟩
    intro x hx y hy e
    subst e
    exact ne ((mem_hang.mp hx).2.symm.trans (mem_hang.mp hy).2)
/-- what is found in s steps -/
def found (hs : List Int) (p : Int) : Nat → List Int
  | 0 => []
  | s + 1 => found hs p s ++ layer hs p (s + 1)
theorem mem_found (t : IsTree hs) : ∀ (s : Nat) (c : Int), c ∈ found hs p s ↔ (1 ≤ c ∧ c ≤ hs.length) ∧ p ∈ (wy hs c).take s
  | 0, c => by
    rw [List.take_zero]
    constructor
    · intro h
      cases h
    · rintro ⟨_, h⟩
      cases h
  | s + 1, c => by
    show c ∈ found hs p s ++ layer hs p (s + 1) ↔ _
    rw [List.mem_append, mem_found t s, mem_layer t s, List.take_succ, List.mem_append]
    constructor
    · rintro (⟨b, m⟩ | ⟨b, m⟩)
      · exact ⟨b, .inl m⟩
      · exact ⟨b, .inr (by rw [m]; exact List.mem_cons_self)⟩
    · rintro ⟨b, m | m⟩
      · exact .inl ⟨b, m⟩
      · refine .inr ⟨b, ?_⟩
        cases e : (wy hs c)[s]? with
        | none => rw [e] at m; cases m
        | some x =>
          rw [e] at m
          rw [List.mem_singleton.mp m]
theorem found_nodup (t : IsTree hs) : ∀ s, (found hs p s).Nodup
  | 0 => List.nodup_nil
  | s + 1 => by
    refine List.nodup_append.mpr ⟨found_nodup t s, layer_nodup _, fun a ha b hb e => ?_⟩
    subst e
    have m1 := (mem_found t s a).mp ha
    have m2 := (mem_layer t s a).mp hb
    obtain ⟨i, hi⟩ := List.mem_iff_getElem?.mp m1.2
    have hl : i < s := by
      have := (List.getElem?_eq_some_iff.mp hi).1
      rw [List.length_take] at this
      omega
    rw [List.getElem?_take_of_lt hl] at hi
    have nd := wy_nodup t _ a rfl (by omega) m2.1.2
    have := (List.getElem?_inj (List.getElem?_eq_some_iff.mp hi).1 nd).mp (hi.trans m2.2.symm)
    omega
/-- the blocks within s steps beneath p, ascending -/
def tieN (hs : List Int) (p : Int) (s : Nat) (i : Nat) : List Int := (blocks i).filter fun c => decide (p ∈ (wy hs c).take s)
def tie (hs : List Int) (p : Int) (s : Nat) : List Int := tieN hs p s hs.length
theorem mem_tie {s : Nat} : c ∈ tie hs p s ↔ (1 ≤ c ∧ c ≤ hs.length) ∧ p ∈ (wy hs c).take s := by
  unfold tie tieN
  rw [List.mem_filter, blocks_mem, decide_eq_true_eq]
theorem tie_nodup {s : Nat} : (tie hs p s).Nodup := (blocks_nodup _).filter _
theorem tie_sorted {s : Nat} : (tie hs p s).Pairwise (· < ·) := (blocks_sorted _).filter _
theorem found_tie (t : IsTree hs) (s : Nat) : (found hs p s).Perm (tie hs p s) :=
  (List.perm_ext_iff_of_nodup (found_nodup t s) tie_nodup).mpr fun c => by rw [mem_found t, mem_tie]
theorem tie_of (t : IsTree hs) {s : Nat} {S : List Int} (pm : S.Perm (found hs p s)) (so : S.Pairwise (· ≤ ·)) : S = tie hs p s :=
  List.Perm.eq_of_pairwise (le := (· ≤ ·)) (fun a b _ _ h1 h2 => Int.le_antisymm h1 h2) so (tie_sorted.imp fun h => Int.le_of_lt h) (pm.trans (found_tie t s))
theorem tieN_succ {s : Nat} (i : Nat) : tieN hs p s (i + 1) = tieN hs p s i ++ if p ∈ (wy hs ((i : Int) + 1)).take s then [(i : Int) + 1] else [] := by
  unfold tieN
  rw [blocks_succ, List.filter_append]
  congr 1
  show List.filter _ [(i : Int) + 1] = _
  by_cases e : p ∈ (wy hs ((i : Int) + 1)).take s
  · rw [if_pos e]; simp [e]
  · rw [if_neg e]; simp [e]
/-- ties: blocks with their places -/
def ties (hs : List Int) (p : Int) (s : Nat) : List (Int × Int) := (tie hs p s).map fun c => (c, stp hs c)
theorem mem_ties {s : Nat} {x : Int × Int} : x ∈ ties hs p s ↔ x.1 ∈ tie hs p s ∧ x.2 = stp hs x.1 := by
  unfold ties
  rw [List.mem_map]
  constructor
  · rintro ⟨c, hc, rfl⟩
    exact ⟨hc, rfl⟩
  · rintro ⟨h1, h2⟩
    exact ⟨x.1, h1, by rw [← h2]⟩
/-- what a place tells -/
def tell (hs : List Int) (v w : Nat) (p : Int) : List Int × List (Int × Int) := ((wy hs p).take v, ties hs p w)
/-- equal ties of more steps: equal ties of fewer -/
theorem ties_mono (t : IsTree hs) (u : IsTree ks) (hl : hs.length = ks.length) {w : Nat} (e : ties hs p w = ties ks p w) : ∀ (k : Nat) (c : Int), k < w → (1 ≤ c ∧ c ≤ hs.length) → (wy hs c)[k]? = some p → (wy ks c)[k]? = some p
  | 0, c, hk, b, m => by
    have hm : (c, stp hs c) ∈ ties hs p w := mem_ties.mpr ⟨mem_tie.mpr ⟨b, List.mem_of_getElem? (i := 0) (by rw [List.getElem?_take_of_lt hk]; exact m)⟩, rfl⟩
    rw [e] at hm
    have es := (mem_ties.mp hm).2
    have es' : stp hs c = stp ks c := es
    rw [wy_cons t b.1 b.2] at m
    rw [wy_cons u b.1 (by omega), ← es']
    exact m
  | k + 1, c, hk, b, m => by
    have hm : (c, stp hs c) ∈ ties hs p w := mem_ties.mpr ⟨mem_tie.mpr ⟨b, List.mem_of_getElem? (i := k + 1) (by rw [List.getElem?_take_of_lt hk]; exact m)⟩, rfl⟩
    rw [e] at hm
    have es : stp hs c = stp ks c := (mem_ties.mp hm).2
    rw [wy_cons t b.1 b.2] at m
    rw [wy_cons u b.1 (by omega), ← es]
    have m' : (wy hs (stp hs c))[k]? = some p := m
    have si := stp_in t.2.2.1 c
    have nz : stp hs c ≠ 0 := fun z => by rw [z, wy_zero] at m'; cases m'
    exact ties_mono t u hl e k (stp hs c) (by omega) ⟨by omega, si.2⟩ m'
theorem mem_take_iff {l : List Int} {s : Nat} : p ∈ l.take s ↔ ∃ k, k < s ∧ l[k]? = some p := by
  constructor
  · intro h
    obtain ⟨k, hk⟩ := List.mem_iff_getElem?.mp h
    have hl : k < s := by
      have := (List.getElem?_eq_some_iff.mp hk).1
      rw [List.length_take] at this
      omega
    exact ⟨k, hl, by rw [List.getElem?_take_of_lt hl] at hk; exact hk⟩
  · rintro ⟨k, hk, e⟩
    exact List.mem_of_getElem? (i := k) (by rw [List.getElem?_take_of_lt hk]; exact e)
theorem ties_less (t : IsTree hs) (u : IsTree ks) (hl : hs.length = ks.length) {w v : Nat} (hv : v ≤ w) (e : ties hs p w = ties ks p w) : ties hs p v = ties ks p v := by
  have et : tie hs p v = tie ks p v := by
    unfold tie tieN
    rw [← hl]
    refine List.filter_congr fun c hc => ?_
    have b := blocks_mem.mp hc
    rw [Bool.eq_iff_iff, decide_eq_true_eq, decide_eq_true_eq, mem_take_iff, mem_take_iff]
    exact ⟨fun ⟨k, hk, m⟩ => ⟨k, hk, ties_mono t u hl e k c (by omega) b m⟩, fun ⟨k, hk, m⟩ => ⟨k, hk, ties_mono u t hl.symm e.symm k c (by omega) (by rw [← hl]; exact b) m⟩⟩
  unfold ties
  rw [et]
  refine List.map_congr_left fun c hc => ?_
  have m := mem_tie.mp hc
  obtain ⟨k, hk, mk⟩ := mem_take_iff.mp m.2
  have mk' := ties_mono u t hl.symm e.symm k c (by omega) m.1 mk
  have hm : (c, stp hs c) ∈ ties hs p w := mem_ties.mpr ⟨mem_tie.mpr ⟨by rw [hl]; exact m.1, mem_take_iff.mpr ⟨k, by omega, mk'⟩⟩, rfl⟩
  rw [e] at hm
  have es : stp hs c = stp ks c := (mem_ties.mp hm).2
  rw [es]
theorem tell_less (t : IsTree hs) (u : IsTree ks) (hl : hs.length = ks.length) {v w v' w' : Nat} (hv : v ≤ v') (hw : w ≤ w') (e : tell hs v' w' p = tell ks v' w' p) : tell hs v w p = tell ks v w p := by
  have e1 := congrArg Prod.fst e
  have e2 := congrArg Prod.snd e
  unfold tell
  refine Prod.ext ?_ (ties_less t u hl hw e2)
  have := congrArg (List.take v) (show (wy hs p).take v' = (wy ks p).take v' from e1)
  rw [List.take_take, List.take_take, Nat.min_eq_left hv] at this
  exact this
end

section
variable {hs ks ms : List Int} {b c p h : Int}
/-! ### places that tell otherwise -/
def places (n : Nat) : List Int := (List.range n).map fun (k : Nat) => (k : Int)
theorem mem_places {n : Nat} : c ∈ places n ↔ 0 ≤ c ∧ c < n := by
  unfold places
  rw [List.mem_map]
  constructor
  · rintro ⟨k, hk, rfl⟩
    have := List.mem_range.mp hk
    omega
  · rintro ⟨a, b⟩
    exact ⟨c.toNat, List.mem_range.mpr (by omega), by omega⟩
theorem places_sorted (n : Nat) : (places n).Pairwise (· < ·) := by
  unfold places
  refine List.Pairwise.map _ (fun a b h => ?_) List.pairwise_lt_range
  omega
theorem places_succ (i : Nat) : places (i + 1) = places i ++ [(i : Int)] := by
  unfold places
  rw [List.range_succ, List.map_append]
  rfl
def unlN (hs ks : List Int) (v w : Nat) (i : Nat) : List Int := (places i).filter fun p => decide (tell hs v w p ≠ tell ks v w p)
def unl (hs ks : List Int) (v w : Nat) : List Int := unlN hs ks v w (hs.length + 1)
theorem mem_unl {v w : Nat} : p ∈ unl hs ks v w ↔ (0 ≤ p ∧ p ≤ hs.length) ∧ tell hs v w p ≠ tell ks v w p := by
  unfold unl unlN
  rw [List.mem_filter, mem_places, decide_eq_true_eq]
  refine and_congr_left fun _ => ?_
  omega
theorem unl_sorted {v w : Nat} : (unl hs ks v w).Pairwise (· < ·) := (places_sorted _).filter _
theorem unlN_succ {v w : Nat} (i : Nat) : unlN hs ks v w (i + 1) = unlN hs ks v w i ++ if tell hs v w i ≠ tell ks v w i then [(i : Int)] else [] := by
  unfold unlN
  rw [places_succ, List.filter_append]
  congr 1
  show List.filter _ [(i : Int)] = _
  by_cases e : tell hs v w i = tell ks v w i
  · rw [if_neg (fun z => z e)]; simp [e]
  · rw [if_pos e]; simp [e]
theorem unl_len {v w : Nat} : (unl hs ks v w).length ≤ hs.length + 1 := by
  refine Nat.le_trans (List.length_filter_le _ _) ?_
  unfold places
  rw [List.length_map, List.length_range]
  exact Nat.le_refl _
theorem unl_self {v w : Nat} : unl hs hs v w = [] := by
  refine List.eq_nil_iff_forall_not_mem.mpr fun x hx => ?_
  exact (mem_unl.mp hx).2 rfl
theorem unl_symm {v w : Nat} (hl : hs.length = ks.length) : unl hs ks v w = unl ks hs v w := by
  unfold unl unlN
  rw [hl]
  refine List.filter_congr fun x _ => ?_
  rw [Bool.eq_iff_iff, decide_eq_true_eq, decide_eq_true_eq]
  exact ⟨fun h e => h e.symm, fun h e => h e.symm⟩
theorem unl_less (t : IsTree hs) (u : IsTree ks) (hl : hs.length = ks.length) {v w v' w' : Nat} (hv : v ≤ v') (hw : w ≤ w') (m : p ∈ unl hs ks v w) : p ∈ unl hs ks v' w' := by
  have q := mem_unl.mp m
  exact mem_unl.mpr ⟨q.1, fun e => q.2 (tell_less t u hl hv hw e)⟩
/-! ### a block hung elsewhere is seen -/
theorem stp_mov (b0 : 1 ≤ b) (b1 : b ≤ hs.length) : stp (hs.set (b.toNat - 1) p) b = p := by
  rw [stp_set b0 b1 (by omega), if_pos rfl]
theorem seen_b (t : IsTree hs) (u : IsTree (hs.set (b.toNat - 1) p)) (b0 : 1 ≤ b) (b1 : b ≤ hs.length) (ne : stp hs b ≠ p) {v w : Nat} (hv : 0 < v) : b ∈ unl hs (hs.set (b.toNat - 1) p) v w := by
  refine mem_unl.mpr ⟨⟨by omega, b1⟩, fun e => ne ?_⟩
  have e1 : (wy hs b).take v = (wy (hs.set (b.toNat - 1) p) b).take v := congrArg Prod.fst e
  rw [wy_cons t b0 b1, wy_cons u b0 (by rw [set_len]; exact b1), stp_mov b0 b1] at e1
  cases v with
  | zero => omega
  | succ v =>
    rw [List.take_succ_cons, List.take_succ_cons] at e1
    exact (List.cons.inj e1).1
theorem tie_up (t : IsTree hs) (b0 : 1 ≤ b) (b1 : b ≤ hs.length) {w : Nat} (hw : 0 < w) : (b, stp hs b) ∈ ties hs (stp hs b) w :=
  mem_ties.mpr ⟨mem_tie.mpr ⟨⟨b0, b1⟩, mem_take_iff.mpr ⟨0, hw, by rw [wy_cons t b0 b1]; rfl⟩⟩, rfl⟩
theorem seen_e (t : IsTree hs) (b0 : 1 ≤ b) (b1 : b ≤ hs.length) (ne : stp hs b ≠ p) {v w : Nat} (hw : 0 < w) : stp hs b ∈ unl hs (hs.set (b.toNat - 1) p) v w := by
  have si := stp_in t.2.2.1 b
  refine mem_unl.mpr ⟨si, fun e => ne ?_⟩
  have e2 : ties hs (stp hs b) w = ties (hs.set (b.toNat - 1) p) (stp hs b) w := congrArg Prod.snd e
  have m := tie_up t b0 b1 hw
  rw [e2] at m
  have q : stp hs b = stp (hs.set (b.toNat - 1) p) b := (mem_ties.mp m).2
  rw [stp_mov b0 b1] at q
  exact q
theorem seen_p (t : IsTree hs) (u : IsTree (hs.set (b.toNat - 1) p)) (b0 : 1 ≤ b) (b1 : b ≤ hs.length) (p0 : 0 ≤ p) (p1 : p ≤ hs.length) (ne : stp hs b ≠ p) {v w : Nat} (hw : 0 < w) : p ∈ unl hs (hs.set (b.toNat - 1) p) v w := by
  refine mem_unl.mpr ⟨⟨p0, p1⟩, fun e => ne ?_⟩
  have e2 : ties hs p w = ties (hs.set (b.toNat - 1) p) p w := congrArg Prod.snd e
  have m := tie_up u b0 (by rw [set_len]; exact b1) hw
  rw [stp_mov b0 b1, ← e2] at m
  exact (mem_ties.mp m).2.symm
/-! ### blocks called anew tell the same by their names -/
theorem ties_ext (hl : hs.length = ks.length) {w : Nat} (e : ∀ x : Int × Int, x ∈ ties hs p w ↔ x ∈ ties ks p w) : ties hs p w = ties ks p w := by
  have et : tie hs p w = tie ks p w := by
    have mh : ∀ c, c ∈ tie hs p w ↔ c ∈ tie ks p w := fun c => by
      constructor
      · intro m
        exact (mem_ties.mp ((e (c, stp hs c)).mp (mem_ties.mpr ⟨m, rfl⟩))).1
      · intro m
        exact (mem_ties.mp ((e (c, stp ks c)).mpr (mem_ties.mpr ⟨m, rfl⟩))).1
    exact List.Perm.eq_of_pairwise (le := (· < ·)) (fun a b _ _ h1 h2 => absurd h1 (by omega)) tie_sorted tie_sorted ((List.perm_ext_iff_of_nodup tie_nodup tie_nodup).mpr mh)
  unfold ties
  rw [et]
  refine List.map_congr_left fun c hc => ?_
  have m : (c, stp hs c) ∈ ties hs p w := mem_ties.mpr ⟨by rw [et]; exact hc, rfl⟩
  have q : stp hs c = stp ks c := (mem_ties.mp ((e _).mp m)).2
  rw [q]
theorem nm_in {n : Nat} (o : Ord n ms) (c0 : 0 ≤ c) (c1 : c ≤ n) : 0 ≤ stp ms c ∧ stp ms c ≤ n := by
  by_cases z : c = 0
  · rw [z, stp_zero]; omega
  · have := (o.at (c := c) (by omega) c1).2
    omega
theorem nm_sur {n : Nat} (o : Ord n ms) (c0 : 0 ≤ c) (c1 : c ≤ n) : ∃ d, 0 ≤ d ∧ d ≤ (n : Int) ∧ stp ms d = c := by
  by_cases z : c = 0
  · exact ⟨0, by omega, by omega, by rw [z, stp_zero]⟩
  · obtain ⟨d, d0, d1, e⟩ := o.sur (c := c) (by omega) c1
    exact ⟨d, by omega, d1, e⟩
theorem wy_call (t : IsTree hs) (o : Ord hs.length ms) (c0 : 0 ≤ c) (c1 : c ≤ hs.length) : wy (callL hs ms) (stp ms c) = (wy hs c).map (stp ms) := by
  unfold wy
  rw [callL_len]
  exact way_call t o _ c c0 c1
theorem map_inj {n : Nat} (o : Ord n ms) : ∀ {l m : List Int}, (∀ x ∈ l, 0 ≤ x ∧ x ≤ n) → (∀ x ∈ m, 0 ≤ x ∧ x ≤ n) → l.map (stp ms) = m.map (stp ms) → l = m
  | [], [], _, _, _ => rfl
  | [], _ :: _, _, _, e => by cases e
  | _ :: _, [], _, _, e => by cases e
  | x :: l, y :: m, hl, hm, e => by
    rw [List.map_cons, List.map_cons] at e
    have e' := List.cons.inj e
    have hx := hl x List.mem_cons_self
    have hy := hm y List.mem_cons_self
    rw [o.inj hx.1 hx.2 hy.1 hy.2 e'.1, map_inj o (fun z hz => hl z (List.mem_cons_of_mem _ hz)) (fun z hz => hm z (List.mem_cons_of_mem _ hz)) e'.2]
theorem wy_in (t : IsTree hs) (c0 : 0 ≤ c) (c1 : c ≤ hs.length) : ∀ x ∈ wy hs c, 0 ≤ x ∧ x ≤ hs.length := fun x hx => (dep_mem t _ c rfl c0 c1 x hx).2
theorem ties_call (t : IsTree hs) (o : Ord hs.length ms) (p0 : 0 ≤ p) (p1 : p ≤ hs.length) {w : Nat} {c q : Int} (c0 : 1 ≤ c) (c1 : c ≤ hs.length) (q0 : 0 ≤ q) (q1 : q ≤ hs.length) :
    (stp ms c, stp ms q) ∈ ties (callL hs ms) (stp ms p) w ↔ (c, q) ∈ ties hs p w := by
  rw [mem_ties, mem_ties, mem_tie, mem_tie]
  have wc := o.at c0 c1
  show (((1 ≤ stp ms c ∧ _) ∧ _) ∧ stp ms q = stp (callL hs ms) (stp ms c)) ↔ (((1 ≤ c ∧ _) ∧ _) ∧ q = stp hs c)
  rw [callL_len, wy_call t o (by omega) c1, callL_at o (by omega) c1, ← List.map_take, List.mem_map]
  have si := stp_in t.2.2.1 c
  constructor
  · rintro ⟨⟨_, x, hx, e⟩, e2⟩
    have xi := wy_in t (by omega) c1 x (List.mem_of_mem_take hx)
    rw [o.inj xi.1 xi.2 p0 p1 e] at hx
    exact ⟨⟨⟨c0, c1⟩, hx⟩, o.inj q0 q1 si.1 si.2 e2⟩
  · rintro ⟨⟨_, m⟩, e⟩
    exact ⟨⟨wc.2, p, m, rfl⟩, by rw [e]⟩
theorem ties_in (t : IsTree hs) {w : Nat} {x : Int × Int} (m : x ∈ ties hs p w) : (1 ≤ x.1 ∧ x.1 ≤ hs.length) ∧ 0 ≤ x.2 ∧ x.2 ≤ hs.length := by
  have q := mem_ties.mp m
  exact ⟨(mem_tie.mp q.1).1, by rw [q.2]; exact stp_in t.2.2.1 _⟩
theorem tell_call (t : IsTree hs) (u : IsTree ks) (hl : hs.length = ks.length) (o : Ord hs.length ms) (p0 : 0 ≤ p) (p1 : p ≤ hs.length) {v w : Nat} :
    tell (callL hs ms) v w (stp ms p) = tell (callL ks ms) v w (stp ms p) ↔ tell hs v w p = tell ks v w p := by
  have o' : Ord ks.length ms := hl ▸ o
  have key : ∀ {A B : List Int} {C D : List (Int × Int)}, ((A, C) = (B, D)) ↔ A = B ∧ C = D := by
    intro A B C D
    exact ⟨fun e => ⟨congrArg Prod.fst e, congrArg Prod.snd e⟩, fun ⟨a, b⟩ => by rw [a, b]⟩
  unfold tell
  rw [key, key, wy_call t o p0 p1, wy_call u o' p0 (by omega), ← List.map_take, ← List.map_take]
  have w1 : ∀ x ∈ (wy hs p).take v, 0 ≤ x ∧ x ≤ (hs.length : Int) := fun x hx => wy_in t p0 p1 x (List.mem_of_mem_take hx)
  have w2 : ∀ x ∈ (wy ks p).take v, 0 ≤ x ∧ x ≤ (hs.length : Int) := fun x hx => by rw [hl]; exact wy_in u p0 (by omega) x (List.mem_of_mem_take hx)
  refine and_congr ⟨map_inj o w1 w2, fun e => by rw [e]⟩ ⟨fun e => ties_ext hl fun x => ?_, fun e => ties_ext (by rw [callL_len, callL_len, hl]) fun x => ?_⟩
  · have go : ∀ x : Int × Int, ((1 ≤ x.1 ∧ x.1 ≤ hs.length) ∧ 0 ≤ x.2 ∧ x.2 ≤ hs.length) → (x ∈ ties hs p w ↔ x ∈ ties ks p w) := fun x b => by
      rw [← ties_call (c := x.1) (q := x.2) t o p0 p1 b.1.1 b.1.2 b.2.1 b.2.2, e, ties_call (c := x.1) (q := x.2) u o' p0 (by omega) b.1.1 (by omega) b.2.1 (by omega)]
    constructor
    · intro m
      exact (go x (ties_in t m)).mp m
    · intro m
      have b := ties_in u m
      exact (go x ⟨⟨b.1.1, by omega⟩, b.2.1, by omega⟩).mpr m
  · have tL := t.call o
    have uL := u.call o'
    have go : ∀ x : Int × Int, ((1 ≤ x.1 ∧ x.1 ≤ hs.length) ∧ 0 ≤ x.2 ∧ x.2 ≤ hs.length) → (x ∈ ties (callL hs ms) (stp ms p) w ↔ x ∈ ties (callL ks ms) (stp ms p) w) := fun x b => by
      obtain ⟨c, c0, c1, ec⟩ := o.sur b.1.1 b.1.2
      obtain ⟨q, q0, q1, eq⟩ := nm_sur o b.2.1 b.2.2
      have ex : x = (stp ms c, stp ms q) := by rw [ec, eq]
      rw [ex, ties_call t o p0 p1 c0 c1 q0 q1, ties_call u o' p0 (by omega) c0 (by omega) q0 (by omega), e]
    constructor
    · intro m
      have b := ties_in tL m
      rw [callL_len] at b
      exact (go x b).mp m
    · intro m
      have b := ties_in uL m
      rw [callL_len] at b
      exact (go x ⟨⟨b.1.1, by omega⟩, b.2.1, by omega⟩).mpr m
theorem unl_call (t : IsTree hs) (u : IsTree ks) (hl : hs.length = ks.length) (o : Ord hs.length ms) {v w : Nat} {S : List Int} (pm : S.Perm ((unl hs ks v w).map (stp ms))) (so : S.Pairwise (· ≤ ·)) : S = unl (callL hs ms) (callL ks ms) v w := by
  refine List.Perm.eq_of_pairwise (le := (· ≤ ·)) (fun a b _ _ h1 h2 => Int.le_antisymm h1 h2) so (unl_sorted.imp fun h => Int.le_of_lt h) (pm.trans ?_)
  refine (List.perm_ext_iff_of_nodup ?_ (unl_sorted.imp fun h => by omega)).mpr fun x => ?_
  · refine List.pairwise_map.mpr (List.Pairwise.imp_of_mem (fun {a b} ha hb h e => ?_) (unl_sorted.imp fun {a b} (h : a < b) => (show a ≠ b by omega)))
    have ma := (mem_unl.mp ha).1
    have mb := (mem_unl.mp hb).1
    exact h (o.inj ma.1 ma.2 mb.1 mb.2 e)
  · rw [List.mem_map, mem_unl, callL_len]
    constructor
    · rintro ⟨p, hp, rfl⟩
      have m := mem_unl.mp hp
      exact ⟨nm_in o m.1.1 m.1.2, fun e => m.2 ((tell_call t u hl o m.1.1 m.1.2).mp e)⟩
    · rintro ⟨b, ne⟩
      obtain ⟨p, p0, p1, rfl⟩ := nm_sur o b.1 b.2
      exact ⟨p, mem_unl.mpr ⟨⟨p0, p1⟩, fun e => ne ((tell_call t u hl o p0 p1).mpr e)⟩, rfl⟩
end

/-! ### pairs in a heap -/
inductive Prs (H : Hp) : List V → List (Int × Int) → Prop where
  | nil : Prs H [] []
  | cons {t : Addr} {a b : Int} {xs : List V} {ps : List (Int × Int)} (h : H t = some (.tup [.int a, .int b])) (r : Prs H xs ps) : Prs H (.ref t :: xs) ((a, b) :: ps)
theorem Prs.same {H H' : Hp} {xs : List V} {ps : List (Int × Int)} (h : Prs H xs ps) (s : Same H H') : Prs H' xs ps := by
  induction h with
  | nil => exact .nil
  | cons h _ ih => exact .cons (s _ _ h) ih
theorem Prs.app {H : Hp} {xs ys : List V} {ps qs : List (Int × Int)} (h : Prs H xs ps) (k : Prs H ys qs) : Prs H (xs ++ ys) (ps ++ qs) := by
  induction h with
  | nil => exact k
  | cons h _ ih => exact .cons h ih
theorem Prs.len {H : Hp} {xs : List V} {ps : List (Int × Int)} (h : Prs H xs ps) : xs.length = ps.length := by
  induction h with
  | nil => rfl
  | cons _ _ ih => rw [List.length_cons, List.length_cons, ih]
theorem Prs.get {H : Hp} {xs : List V} {ps : List (Int × Int)} (h : Prs H xs ps) : ∀ {i : Nat} {x : V}, xs[i]? = some x → ∃ t a b, x = .ref t ∧ H t = some (.tup [.int a, .int b]) ∧ ps[i]? = some (a, b) := by
  induction h with
  | nil => intro i x e; cases e
  | cons h _ ih =>
    intro i x e
    cases i with
    | zero => cases e; exact ⟨_, _, _, rfl, h, rfl⟩
    | succ i => exact ih e
def pairOf (H : Hp) (x : V) : Int × Int := match x with
  | .ref t => (match H t with
    | some (.tup [.int a, .int b]) => (a, b)
    | _ => (0, 0))
  | _ => (0, 0)
theorem pairOf_ref {H : Hp} {t : Addr} {a b : Int} (h : H t = some (.tup [.int a, .int b])) : pairOf H (.ref t) = (a, b) := by
  show (match H t with
    | some (.tup [.int a, .int b]) => (a, b)
    | _ => (0, 0)) = _
  rw [h]
theorem Prs.map {H : Hp} {xs : List V} {ps : List (Int × Int)} (h : Prs H xs ps) : xs.map (pairOf H) = ps := by
  induction h with
  | nil => rfl
  | cons h _ ih => rw [List.map_cons, pairOf_ref h, ih]
theorem Prs.mem {H : Hp} {xs : List V} {ps : List (Int × Int)} (h : Prs H xs ps) : ∀ x ∈ xs, ∃ t, x = .ref t ∧ H t = some (.tup [.int (pairOf H x).1, .int (pairOf H x).2]) := by
  induction h with
  | nil => intro x hx; cases hx
  | cons h _ ih =>
    intro x hx
    rcases List.mem_cons.mp hx with e | hx
    · rw [e, pairOf_ref h]
      exact ⟨_, rfl, h⟩
    · exact ih x hx
theorem prs_of {H : Hp} : ∀ {xs : List V}, (∀ x ∈ xs, ∃ t, x = .ref t ∧ H t = some (.tup [.int (pairOf H x).1, .int (pairOf H x).2])) → Prs H xs (xs.map (pairOf H))
  | [], _ => .nil
  | x :: r, h => by
    obtain ⟨t, e, ht⟩ := h x List.mem_cons_self
    have ih := prs_of fun y hy => h y (List.mem_cons_of_mem _ hy)
    rw [List.map_cons]
    generalize pairOf H x = q at *
    obtain ⟨a, b⟩ := q
    subst e
    exact .cons ht ih
theorem v_sortP {K : PySem.W.Frag} {H : Hp} {Q : VK} {a : Addr} {xs : List V} {ps : List (Int × Int)} (h : H a = some (.lst xs)) (r : Prs H xs ps)
    (q : ∀ ys qs p, qs.Perm ps → (qs.map Prod.fst).Pairwise (· ≤ ·) → H p = none → Prs H ys qs → Q (.ref p) (upd H p (.lst ys))) : rSortedPO K [.ref a] H Q := by
  refine ⟨a, xs, pairOf H, rfl, SqL.of h, r.mem, fun ys p so st np => ?_⟩
  have hm : ∀ x ∈ ys, ∃ t, x = .ref t ∧ H t = some (.tup [.int (pairOf H x).1, .int (pairOf H x).2]) := fun x hx => r.mem x (st.perm.mem_iff.mp hx)
  refine q ys (ys.map (pairOf H)) p ?_ ?_ np (prs_of hm)
  · have := st.perm.map (pairOf H)
    rw [r.map] at this
    exact this
  · rw [List.map_map]
    refine List.pairwise_map.mpr (so.imp fun {x y} h => ?_)
    have := SrtO.lexB_no.mp h
    show (pairOf H x).1 ≤ (pairOf H y).1
    omega
theorem ties_of {hs : List Int} {p : Int} (t : IsTree hs) {s : Nat} {qs : List (Int × Int)} (pm : qs.Perm ((found hs p s).map fun c => (c, stp hs c))) (so : (qs.map Prod.fst).Pairwise (· ≤ ·)) : qs = ties hs p s := by
  have e1 : qs.map Prod.fst = tie hs p s := by
    refine tie_of t ?_ so
    have := pm.map Prod.fst
    rw [List.map_map] at this
    have id : (Prod.fst ∘ fun c : Int => (c, stp hs c)) = id := rfl
    rw [id, List.map_id] at this
    exact this
  unfold ties
  rw [← e1, List.map_map]
  have e2 : qs.map ((fun c : Int => (c, stp hs c)) ∘ Prod.fst) = qs.map id := List.map_congr_left fun x hx => by
    obtain ⟨c, _, e⟩ := List.mem_map.mp (pm.mem_iff.mp hx)
    rw [← e]
    rfl
  rw [e2, List.map_id]
/-! ### tellings in a heap -/
def TellAt (H : Hp) (x : V) (tl : List Int × List (Int × Int)) : Prop := ∃ (t a b : Addr) (xs : List V), x = .ref t ∧ H t = some (.tup [.ref a, .ref b]) ∧ H a = some (.tup (tl.1.map V.int)) ∧ H b = some (.tup xs) ∧ Prs H xs tl.2 ∧ tl.1.length ≤ 1000 ∧ tl.2.length ≤ 1000
theorem TellAt.same {H H' : Hp} {x : V} {tl : List Int × List (Int × Int)} (h : TellAt H x tl) (s : Same H H') : TellAt H' x tl := by
  obtain ⟨t, a, b, xs, e, h1, h2, h3, h4, h5⟩ := h
  exact ⟨t, a, b, xs, e, s _ _ h1, s _ _ h2, s _ _ h3, h4.same s, h5⟩
def pairD (p : Int × Int) : PyData := .tuple [.int p.1, .int p.2]
def tellD (tl : List Int × List (Int × Int)) : PyData := .tuple [.tuple (tl.1.map PyData.int), .tuple (tl.2.map pairD)]
theorem Prs.dp {K : PySem.W.Frag} {H : Hp} {xs : List V} {ps : List (Int × Int)} (h : Prs H xs ps) : DpAll K H xs (ps.map pairD) := by
  induction h with
  | nil => exact .nil
  | cons h _ ih => exact .cons (.tup (SqT.of h) (.cons (.int _) (.cons (.int _) .nil))) ih
theorem TellAt.dp {K : PySem.W.Frag} {H : Hp} {x : V} {tl : List Int × List (Int × Int)} (dpi : ∀ hs : List Int, DpAll K H (hs.map V.int) (hs.map PyData.int)) (h : TellAt H x tl) : Dp K H x (tellD tl) := by
  obtain ⟨t, a, b, xs, rfl, h1, h2, h3, h4, h5⟩ := h
  exact .tup (SqT.of h1) (.cons (.tup (SqT.of h2) (dpi _)) (.cons (.tup (SqT.of h3) h4.dp) .nil))
theorem eqvAll_pairs : ∀ ps qs : List (Int × Int), PyData.eqvAll (ps.map pairD) (qs.map pairD) = decide (ps = qs)
  | [], [] => rfl
  | [], _ :: _ => rfl
  | _ :: _, [] => rfl
  | (a, b) :: r, (c, d) :: s => by
    show ((a == c && (b == d && true)) && PyData.eqvAll (r.map pairD) (s.map pairD)) = _
    rw [eqvAll_pairs r s, Bool.eq_iff_iff]
    simp [and_assoc]
theorem layAll_pairs : ∀ ps : List (Int × Int), PyData.canLayAll0 (ps.map pairD) = true
  | [] => rfl
  | _ :: r => by
    show (true && PyData.canLayAll0 (r.map pairD)) = true
    rw [layAll_pairs r]
    rfl
theorem depthAll_pairs : ∀ ps : List (Int × Int), PyData.depthAll (ps.map pairD) ≤ 1
  | [] => Nat.zero_le _
  | _ :: r => by
    show max 1 (PyData.depthAll (r.map pairD)) ≤ 1
    have := depthAll_pairs r
    omega

/-! ### equality of tuples of ints -/
theorem dpAll_ints {K : PySem.W.Frag} {H : Hp} : ∀ hs : List Int, DpAll K H (hs.map V.int) (hs.map PyData.int)
  | [] => .nil
  | h :: r => .cons (.int h) (dpAll_ints r)
theorem eqvAll_ints : ∀ hs ks : List Int, PyData.eqvAll (hs.map PyData.int) (ks.map PyData.int) = decide (hs = ks)
  | [], [] => rfl
  | [], _ :: _ => rfl
  | _ :: _, [] => rfl
  | h :: r, k :: s => by
    show (h == k && PyData.eqvAll (r.map PyData.int) (s.map PyData.int)) = _
    rw [eqvAll_ints r s, Bool.eq_iff_iff]
    simp
theorem layAll_ints : ∀ hs : List Int, PyData.canLayAll0 (hs.map PyData.int) = true
  | [] => rfl
  | h :: r => by
    show (PyData.canLay0 (.int h) && PyData.canLayAll0 (r.map PyData.int)) = true
    rw [layAll_ints r]
    rfl
theorem depthAll_ints : ∀ hs : List Int, PyData.depthAll (hs.map PyData.int) = 0
  | [] => rfl
  | h :: r => by
    show max 0 (PyData.depthAll (r.map PyData.int)) = 0
    rw [depthAll_ints r]
    rfl
theorem shaped_ints (hs : List Int) : SeqAt.shaped (.tuple (hs.map PyData.int)) = true := by
  show (PyData.canLayAll0 (hs.map PyData.int) && decide (PyData.depthAll (hs.map PyData.int) + 1 ≤ 64)) = true
  rw [layAll_ints, depthAll_ints]
  rfl
theorem v_eqTI {K : PySem.W.Frag} {H : Hp} {Q : VK} {a b : Addr} {hs ks : List Int} (h1 : H a = some (.tup (hs.map V.int))) (h2 : H b = some (.tup (ks.map V.int))) (q : Q (.bl (decide (hs = ks))) H) : rEqD K (.ref a) (.ref b) H Q := by
  refine ⟨_, _, .tup (SqT.of h1) (dpAll_ints hs), .tup (SqT.of h2) (dpAll_ints ks), shaped_ints hs, shaped_ints ks, ?_⟩
  show Q (.bl (PyData.eqvAll (hs.map PyData.int) (ks.map PyData.int))) H
  rw [eqvAll_ints]
  exact q

/-! ### promises -/
def within : V → Int → Int → Bool
  | .int i, lo, hi => decide (lo ≤ i ∧ i ≤ hi)
  | _, _, _ => false
def spInteger : Sp := fun vs H Q _ => ∃ (x : V) (s : String), vs = [x] ∧ Kind H x s ∧ Q (.bl (decide (s = "int"))) H
def spWithin : Sp := fun vs H Q _ => ∃ (x : V) (lo hi : Int) (s : String), vs = [x, .int lo, .int hi] ∧ Kind H x s ∧ Q (.bl (within x lo hi)) H
def spLeads : Sp := fun vs H Q _ => ∃ (a : Addr) (hs : List Int) (b : Int), vs = [.ref a, .int b] ∧ H a = some (.tup (hs.map V.int)) ∧ Pls hs ∧ 0 ≤ b ∧ b ≤ hs.length ∧ hs.length ≤ 1000 ∧ Q (.bl (leads hs b)) H
def spTree (cB cT : Addr) : Sp := fun vs H Q E => ∃ (self dx : Addr) (x : V) (r : Option Part), vs = [.ref self, x] ∧ H self = some (.ins cT dx []) ∧ Thing H x r ∧
  (r = none → Q .non (upd H self (.ins cT dx [("hung", x)]))) ∧ ∀ part, r = some part → ∀ d v H', Same H H' → H' d = some (.xd [("part", v)]) → Enc H' v (some part) → E (.ref cB) (some d) H'
def TreeAt (cT : Addr) (H : Hp) (x : V) (hs : List Int) : Prop := ∃ a dx h, x = .ref a ∧ H a = some (.ins cT dx [("hung", .ref h)]) ∧ H h = some (.tup (hs.map V.int))
def spTreeEq (cT : Addr) : Sp := fun vs H Q _ => ∃ (x y : V) (hs : List Int), vs = [x, y] ∧ TreeAt cT H x hs ∧ ((∃ ks, TreeAt cT H y ks ∧ Q (.bl (decide (hs = ks))) H) ∨ ((∃ s, Kind H y s) ∧ Q (.bl false) H))
def spPick : Sp := fun vs H Q _ => ∃ (p l : Addr) (xs : List V), vs = [.ref p, .ref l] ∧ Pool H p ∧ Af H p l (.lst xs) ∧ 1 ≤ xs.length ∧ xs.length ≤ 1000 ∧ ∀ x H', x ∈ xs → Pool H' p → Mo p H H' → Q x H'
def Scal : V → Prop
  | .non => True
  | .bl _ => True
  | .int _ => True
  | .str _ => True
  | _ => False
/-- things that are alike through and through, d deep -/
def Alike : Nat → Hp → V → V → Prop
  | 0, _, x, y => Scal x ∧ x = y
  | d + 1, H, x, y => (Scal x ∧ x = y) ∨ ∃ (a b : Addr) (xs ys : List V), x = .ref a ∧ y = .ref b ∧ ((H a = some (.tup xs) ∧ H b = some (.tup ys)) ∨ (H a = some (.lst xs) ∧ H b = some (.lst ys))) ∧ xs.length ≤ 1000 ∧ xs.length = ys.length ∧
      ∀ (i : Nat) (u v : V), xs[i]? = some u → ys[i]? = some v → Alike d H u v
theorem Alike.same : ∀ {d : Nat} {H H' : Hp} {x y : V}, Alike d H x y → Same H H' → Alike d H' x y
  | 0, _, _, _, _, h, _ => h
  | d + 1, H, H', x, y, h, e => by
    rcases h with h | ⟨a, b, xs, ys, e1, e2, h, hl, he, hi⟩
    · exact .inl h
    · refine .inr ⟨a, b, xs, ys, e1, e2, ?_, hl, he, fun i u v hu hv => (hi i u v hu hv).same e⟩
      rcases h with ⟨h1, h2⟩ | ⟨h1, h2⟩
      · exact .inl ⟨e _ _ h1, e _ _ h2⟩
      · exact .inr ⟨e _ _ h1, e _ _ h2⟩
def spIsN : Nat → Sp
  | 0 => fun _ _ _ _ => False
  | d + 1 => fun vs H Q _ => ∃ x y, vs = [x, y] ∧ Alike d H x y ∧ ∀ H', Same H H' → Q (.bl true) H'
def spDeep : Sp := fun vs H Q _ => vs = [] ∧ ∀ a xs H', Same H H' → H a = none → H' a = some (.lst xs) → Q (.ref a) H'
def spMixed : Sp := fun vs H Q _ => ∃ (p : Addr) (n : Nat), vs = [.ref p, .int n] ∧ Pool H p ∧ 1 ≤ n ∧ n ≤ 1000 ∧
  ∀ (a : Addr) (ms : List Int) H', Pool H' p → Mo p H H' → H a = none → Af H' p a (.lst (ms.map V.int)) → ms.length = n → ms.Nodup → (∀ m ∈ ms, 1 ≤ m ∧ m ≤ n) → Q (.ref a) H'
def spHung : Sp := fun vs H Q _ => ∃ (p : Addr) (n : Nat), vs = [.ref p, .int n] ∧ Pool H p ∧ 1 ≤ n ∧ n ≤ 40 ∧
  ∀ (a : Addr) (hs : List Int) H', Pool H' p → Mo p H H' → Af H' p a (.tup (hs.map V.int)) → hs.length = n → IsTree hs → Q (.ref a) H'
def spMany : Sp := fun vs H Q _ => ∃ (p : Addr), vs = [.ref p] ∧ Pool H p ∧ ∀ (n : Nat) H', Pool H' p → Mo p H H' → 1 ≤ n → n ≤ 40 → Q (.int n) H'
def spOdd : Sp := fun vs H Q _ => ∃ (p : Addr) (m : Int), vs = [.ref p, .int m] ∧ Pool H p ∧ ∀ x H', Pool H' p → Mo p H H' → AK H' p x → Q x H'
def spDue : Sp := fun vs H Q _ => ∃ (x : V) (r : Option Part), vs = [x] ∧ Thing H x r ∧ ∀ v H', Same H H' → Enc H' v r → Q v H'
def spLaw (K : PySem.W.Frag) : Sp := fun vs H Q _ => ∃ (a : Addr) (ns : List Int), vs = [.ref a] ∧ SqL K H a (ns.map V.int) ∧ ns.length ≤ 63 ∧ ∀ H', Q (.bl true) H'
theorem len_is_integer {vs : List V} {H : Hp} {Q : VK} {E : XK} (h : spInteger vs H Q E) : vs.length = 1 := by obtain ⟨_, _, rfl, _⟩ := h; rfl
theorem len_is_within {vs : List V} {H : Hp} {Q : VK} {E : XK} (h : spWithin vs H Q E) : vs.length = 3 := by obtain ⟨_, _, _, _, rfl, _⟩ := h; rfl
theorem len_leads_home {vs : List V} {H : Hp} {Q : VK} {E : XK} (h : spLeads vs H Q E) : vs.length = 2 := by obtain ⟨_, _, _, rfl, _⟩ := h; rfl
theorem len_Tree_init {cB cT : Addr} {vs : List V} {H : Hp} {Q : VK} {E : XK} (h : spTree cB cT vs H Q E) : vs.length = 2 := by obtain ⟨_, _, _, _, rfl, _⟩ := h; rfl
theorem len_Tree_eq {cT : Addr} {vs : List V} {H : Hp} {Q : VK} {E : XK} (h : spTreeEq cT vs H Q E) : vs.length = 2 := by obtain ⟨_, _, _, rfl, _⟩ := h; rfl
theorem len_l_pick {vs : List V} {H : Hp} {Q : VK} {E : XK} (h : spPick vs H Q E) : vs.length = 2 := by obtain ⟨_, _, _, rfl, _⟩ := h; rfl
theorem len_l_is {d : Nat} {vs : List V} {H : Hp} {Q : VK} {E : XK} (h : spIsN d vs H Q E) : vs.length = 2 := by
  cases d with
  | zero => exact h.elim
  | succ d => obtain ⟨_, _, rfl, _⟩ := h; rfl
theorem len_l_deep {vs : List V} {H : Hp} {Q : VK} {E : XK} (h : spDeep vs H Q E) : vs.length = 0 := by obtain ⟨rfl, _⟩ := h; rfl
theorem len_l_mixed {vs : List V} {H : Hp} {Q : VK} {E : XK} (h : spMixed vs H Q E) : vs.length = 2 := by obtain ⟨_, _, rfl, _⟩ := h; rfl
theorem len_l_hung {vs : List V} {H : Hp} {Q : VK} {E : XK} (h : spHung vs H Q E) : vs.length = 2 := by obtain ⟨_, _, rfl, _⟩ := h; rfl
theorem len_l_many {vs : List V} {H : Hp} {Q : VK} {E : XK} (h : spMany vs H Q E) : vs.length = 1 := by obtain ⟨_, rfl, _⟩ := h; rfl
theorem len_l_odd {vs : List V} {H : Hp} {Q : VK} {E : XK} (h : spOdd vs H Q E) : vs.length = 2 := by obtain ⟨_, _, rfl, _⟩ := h; rfl
theorem len_l_tree_due {vs : List V} {H : Hp} {Q : VK} {E : XK} (h : spDue vs H Q E) : vs.length = 1 := by obtain ⟨_, _, rfl, _⟩ := h; rfl
theorem len_law {K : PySem.W.Frag} {vs : List V} {H : Hp} {Q : VK} {E : XK} (h : spLaw K vs H Q E) : vs.length = 1 := by obtain ⟨_, _, rfl, _⟩ := h; rfl


/-- try: .. except c as n: .. (n in slot i) -/
def tTryAs (K : PySem.W.Frag) (c : Value) (i : Nat) (tb : WX → TS) (ts : Addr → Value → Option Addr → TS) : TS := fun D σ H => tb (wAs K c i ts (fun _ _ _ _ => False) D) D σ H
/-! ### a tuple whose very object is known: its methods -/
section
variable {X : Cx}
def xTupZ : List V → Hp → VK → Prop := fun xs H Q => ∃ p ys, xs = [V.ref p] ∧ H p = some (.lst ys) ∧ ∀ (l : Addr) (o : Obj), o.dict = none → H l = none → Q (.ref l) (upd H l (.frz o (.tup ys)))
theorem call_tuple_ofZ : CallR X (.type "tuple") xTupZ := by
  intro pins s σ H xs us Q I r h
  obtain ⟨p, ys, rfl, hp, q⟩ := h
  obtain ⟨u, rfl, rx⟩ := vals1 r
  cases rx
  obtain ⟨its, r', pl, hz⟩ := I.list (SqL.of hp)
  have hlen := r'.length
  refine call_tuple_list pl.isList (fun h' kp => ?_) (by simp only [List.size_toArray] <;> omega)
  have I1 : Inv X pins σ H { s with heap := h' } := I.kept (t' := s.toks) kp
  have I2 : Inv X pins σ (upd H h'.objs.size (.frz { cls := .type "tuple", data := .seq its.toArray } (.tup ys))) { s with heap := h'.push { cls := .type "tuple", data := .seq its.toArray } } :=
    I1.laid (t' := s.toks) (fun b o e => Heap.get?_push_of_some _ e) (Nat.le_refl _) (show ObjOk X.prog X.w _ _ _ (.frz _ (.tup ys)) from ⟨Heap.get?_push_size _ rfl, hz, its, r', IsTup.new _ _⟩)
  exact ⟨.ref h'.objs.size, _, I2, rfl, q _ _ rfl (I1.hok.fresh (Nat.le_refl _))⟩
def tBMZ (r : V → List V → Hp → VK → Prop) (to : TE) (t : TA) : TE := fun σ H Q => to σ H fun x H1 => (∃ (a : Addr) (o : Obj) (ys : List V), x = .ref a ∧ H1 a = some (.frz o (.tup ys)) ∧ o.dict = none) ∧ t σ H1 fun xs H2 => r x xs H2 Q
theorem pe_bmZ {o e : Expr} {es : List Expr} {to : TE} {t : TA} {name : Str} {apos cpos : Pos} {id : String} {r : V → List V → Hp → VK → Prop} (slot : Slot "tuple" name id) (hty : typeOf (.builtin id) = pure (.type "method_descriptor")) (hm : MtR X id r) (ho : PE X o to) (ha : PA X (e :: es) t)
    (hbase : attributeBase o name X.env (eval o X.env) = eval o X.env := by rfl)
    (hfew : ((backTo cpos (starEach (e :: es) X.env)).all (fun x => !x.1) && (backToKw cpos (keywordEach [] X.env)).all (fun x => x.1.isSome)
      && decide ((e :: es).length + ([] : List Keyword).length + (if ([] : List Keyword).isEmpty then 0 else 1) < 30)) = true := by rfl)
    (hline : (apos.endLine == cpos.line) = true := by rfl) (hs : starEach (e :: es) X.env = (false, eval e X.env) :: starEach es X.env := by rfl) (hplain : (backTo cpos (starEach es X.env)).any (·.1) = false := by rfl) :
    PE X (.Call (.Attribute o name apos) (e :: es) [] cpos) (tBMZ r to t) := by
  refine ⟨fun pins s σ H Q I h => ?_⟩
  refine wpAny_Call_method_late hbase hfew hline rfl (thn (ho.run pins s σ H _ I h) fun v s1 ⟨x, H1, I1, r1, ⟨a, ob, ys, ex, ha1, hd⟩, q1⟩ => ?_)
  subst ex
  cases r1
  obtain ⟨hg, _, its, _, o2, hg2, hc, _⟩ := (show ObjOk X.prog X.w H1 s1.heap a (.frz ob (.tup ys)) from I1.hok a _ ha1)
  refine ⟨"tuple", id, PySem.F.plainAttrs_tuple, slot, hty, ⟨o2, hg2, hc⟩, fun b e => ?_, ?_⟩
  · cases e
    exact ⟨ob, hg, hd⟩
  have hA := ha.run cpos pins s1 σ H1 _ I1 q1
  rw [hs] at hA ⊢
  refine Calls.callWith_builtin (by show (false || (backTo cpos (starEach es X.env)).any (·.1)) = false; rw [hplain] <;> rfl) (Calls.evalArgs_plain ?_)
  exact thn hA fun us s2 ⟨vs, H2, I2, r2, q2⟩ => hm pins s2 σ H2 (.ref a) vs (.ref a) us Q I2 rfl r2 q2
end
theorem Rd.same {H H' : Hp} {a : Addr} {u : HO} (s : Same H H') (h : Rd H a u) : Rd H' a u := by
  rcases h with h | ⟨o, h⟩
  · exact .inl (s _ _ h)
  · exact .inr ⟨o, s _ _ h⟩
theorem Rd.tupI {H : Hp} {a : Addr} {xs ys : List V} (h : Rd H a (.tup xs)) (k : Rd H a (.tup ys)) : xs = ys := by
  rcases h with h | ⟨o, h⟩
  · rcases k with k | ⟨o', k⟩
    · rw [h] at k; exact HO.tup.inj (Option.some.inj k)
    · rw [h] at k; cases k
  · rcases k with k | ⟨o', k⟩
    · rw [h] at k; cases k
    · rw [h] at k; cases k; rfl
theorem SqT.rd {K : PySem.W.Frag} {H : Hp} {a : Addr} {xs : List V} (h : Rd H a (.tup xs)) : SqT K H a xs := .inl h
theorem v_isiR {K : PySem.W.Frag} {H : Hp} {Q : VK} {a : Addr} {xs : List V} (h : Rd H a (.tup xs)) (q : Q (.bl true) H) : rIsi K [.ref a, .ty "tuple"] H Q := by
  have ty : TyX K H (.ref a) (.type "tuple") := by
    rcases h with h | ⟨o, h⟩
    · exact .base (.tup h)
    · exact .fTuple h
  exact ⟨.ref a, .ty "tuple", .type "tuple", .type "tuple", true, rfl, .ty _, ty, kit_ty (by decide +kernel), q⟩
/-! ### more steps -/
def xMin : List V → Hp → VK → Prop := fun xs H Q => ∃ i j, xs = [.int i, .int j] ∧ Q (.int (if j < i then j else i)) H
def xMax : List V → Hp → VK → Prop := fun xs H Q => ∃ i j, xs = [.int i, .int j] ∧ Q (.int (if j > i then j else i)) H
def tTryOnly (K : PySem.W.Frag) (c : Value) (tb : WX → TS) (ts : Addr → Value → Option Addr → TS) : TS := fun D σ H => tb (wOnly K c ts (fun _ _ _ _ => False) D) D σ H
def NxW (W : Nat → L2.St → Hp → Prop) (m : Nat) : L2.St → Hp → Prop := fun σ' H' => ∃ m', m' < m ∧ W m' σ' H'
def ParK (i j : Nat) (D : Ends) (σ : L2.St) (vs : List V) (H : Hp) : Prop := ∃ v w, vs = [v, w] ∧ D.nx ((σ.set i (some v)).set j (some w)) H
section
variable {K : PySem.W.Frag} {σ : L2.St} {H : Hp} {Q : VK} {D : Ends} {E : XK} {a b : Addr} {xs ys : List V} {x y : V} {lo hi : Option Int} {i j : Int} {c : TT} {tb : TS} {ta : TA} {te : TE} {W : Nat → L2.St → Hp → Prop} {m : Nat}
theorem v_while (W : Nat → L2.St → Hp → Prop) (h0 : ∃ m, W m σ H) (hs : ∀ m σ H, W m σ H → c σ H fun b H1 => if b = true then ∃ N : L2.St → Hp → Prop, (∀ σ' H', N σ' H' → ∃ m', m' < m ∧ W m' σ' H') ∧ tb { D with nx := N, ct := N, bk := D.nx } σ H1 else D.nx σ H1) : tWhile c tb D σ H := ⟨W, h0, hs⟩
theorem v_turnW (q : tb { D with nx := NxW W m, ct := NxW W m, bk := D.nx } σ H) : ∃ N : L2.St → Hp → Prop, (∀ σ' H', N σ' H' → ∃ m', m' < m ∧ W m' σ' H') ∧ tb { D with nx := N, ct := N, bk := D.nx } σ H := ⟨_, fun _ _ h => h, q⟩
theorem v_par {i j : Nat} (h : ta σ H fun vs H1 => ParK i j D σ vs H1) : tPar i j ta D σ H := h
theorem v_parK {i j : Nat} (h : D.nx ((σ.set i (some x)).set j (some y)) H) : ParK i j D σ [x, y] H := ⟨x, y, rfl, h⟩
theorem v_gtup2 {i j : Nat} {R : L2.St → Hp → Prop} (h : H a = some (.tup [x, y])) (q : R ((σ.set i (some x)).set j (some y)) H) : gTup K 2 (gCons (gName i) (gCons (gName j) gNil)) (.ref a) σ H R :=
  ⟨a, [x, y], rfl, SqT.of h, rfl, x, [y], rfl, y, [], rfl, rfl, q⟩
theorem v_callS {sp : Sp} {E : L2.St → XK} (h : ta σ H fun vs H1 => sp vs H1 Q (E σ)) : tCallS sp E ta σ H Q := h
theorem v_raise0 {cls : Value} (h : E cls none H) : tRaise0 cls (wE E) D σ H := h
theorem cut_all (h : HT.sIx xs.length 0 lo = 0 ∧ HT.sIx xs.length xs.length hi = xs.length) : cutV xs lo hi = xs := by
  unfold cutV
  rw [h.1, h.2]
  show (xs.drop 0).take (xs.length - 0) = xs
  rw [Nat.sub_zero]
  exact List.take_length
theorem v_slA (h : H a = some (.tup xs)) (q : ∀ b H', Same H H' → (H b = none ∨ b = a) → H' b = some (.tup (cutV xs lo hi)) → Q (.ref b) H') : rSlA K (.ref a) lo hi H Q :=
  ⟨a, xs, rfl, SqT.of h, fun w => q a H (fun _ _ e => e) (.inr rfl) (by rw [cut_all w]; exact h), fun _ p np => q p _ (same_upd np) (.inl np) upd_same⟩
theorem v_catT (h : H a = some (.tup xs)) (h' : H b = some (.tup ys)) (l : xs.length + ys.length ≤ 1000) (q : ∀ c H', Same H H' → (H c = none ∨ c = a ∨ c = b) → H' c = some (.tup (xs ++ ys)) → Q (.ref c) H') : rCatA K (.ref a) (.ref b) H Q :=
  ⟨a, b, xs, ys, rfl, rfl, SqT.of h, SqT.of h', Nat.le_of_lt (small1000 l), fun e => q b H (fun _ _ e => e) (.inr (.inr rfl)) (by rw [e]; exact h'), fun _ e => q a H (fun _ _ e => e) (.inr (.inl rfl)) (by rw [e, List.append_nil]; exact h), fun _ _ p np => q p _ (same_upd np) (.inl np) upd_same⟩
theorem v_catR (h : H a = some (.tup xs)) (h' : Rd H b (.tup ys)) (n : xs ≠ []) (l : xs.length + ys.length ≤ 1000) (q : ∀ c H', Same H H' → (H c = none ∨ c = a) → H' c = some (.tup (xs ++ ys)) → Q (.ref c) H') : rCatA K (.ref a) (.ref b) H Q :=
  ⟨a, b, xs, ys, rfl, rfl, SqT.of h, SqT.rd h', Nat.le_of_lt (small1000 l), fun e => absurd e n, fun _ e => q a H (fun _ _ e => e) (.inr rfl) (by rw [e, List.append_nil]; exact h), fun _ _ p np => q p _ (same_upd np) (.inl np) upd_same⟩
theorem inV_ints {z : Int} {ns : List Int} : inV (.int z) (ns.map V.int) = decide (z ∈ ns) := by
  unfold inV
  rw [List.any_map, Bool.eq_iff_iff, List.any_eq_true, decide_eq_true_eq]
  constructor
  · rintro ⟨y, hy, e⟩
    have e' : (y == z) = true := e
    rw [← beq_iff_eq.mp e']
    exact hy
  · intro hz
    exact ⟨z, hz, show (z == z) = true from beq_self_eq_true z⟩
theorem v_inT {z : Int} {ns : List Int} (h : H a = some (.tup (ns.map V.int))) (q : Q (.bl (decide (z ∈ ns))) H) : rIn K false (.int z) (.ref a) H Q :=
  ⟨a, _, rfl, .inr (SqT.of h), rfl, flat_ints ns, by rw [inV_ints]; exact q⟩
theorem v_inL {z : Int} {ns : List Int} (h : H a = some (.lst (ns.map V.int))) (q : Q (.bl (decide (z ∈ ns))) H) : rIn K false (.int z) (.ref a) H Q :=
  ⟨a, _, rfl, .inl (SqL.of h), rfl, flat_ints ns, by rw [inV_ints]; exact q⟩
theorem shaped_intsL (hs : List Int) : SeqAt.shaped (.list (hs.map PyData.int)) = true := by
  show (PyData.canLayAll0 (hs.map PyData.int) && decide (PyData.depthAll (hs.map PyData.int) + 1 ≤ 64)) = true
  rw [layAll_ints, depthAll_ints]
  rfl
theorem v_neLI {hs ks : List Int} (h1 : H a = some (.lst (hs.map V.int))) (h2 : H b = some (.lst (ks.map V.int))) (q : Q (.bl (!decide (hs = ks))) H) : rNeD K (.ref a) (.ref b) H Q := by
  refine ⟨_, _, .lst (SqL.of h1) (dpAll_ints hs), .lst (SqL.of h2) (dpAll_ints ks), ?_, ?_, ?_⟩
  · exact shaped_intsL hs
  · exact shaped_intsL ks
  · show Q (.bl (!PyData.eqvAll (hs.map PyData.int) (ks.map PyData.int))) H
    rw [eqvAll_ints]
    exact q
end
/-! ### promises of the trees' functions -/
def spCheck (lo : Int) (cN : Addr) : Sp := fun vs H Q E => ∃ (n : Int) (x : V) (s : String), vs = [.int n, x] ∧ Kind H x s ∧ (within x lo n = true → Q .non H) ∧ (within x lo n = false → E (.ref cN) none H)
def spPlaceOf (cT cN : Addr) : Sp := fun vs H Q E => ∃ (t x : V) (hs : List Int) (s : String), vs = [t, x] ∧ TreeAt cT H t hs ∧ IsTree hs ∧ Kind H x s ∧ (within x 1 hs.length = false → E (.ref cN) none H) ∧ ∀ b : Int, x = .int b → 1 ≤ b → b ≤ hs.length → Q (.int (stp hs b)) H
def spParents (cT cN : Addr) : Sp := fun vs H Q E => ∃ (t x : V) (hs : List Int) (s : String), vs = [t, x] ∧ TreeAt cT H t hs ∧ IsTree hs ∧ Kind H x s ∧ (within x 1 hs.length = false → E (.ref cN) none H) ∧
  ∀ b : Int, x = .int b → 1 ≤ b → b ≤ hs.length → ∀ a H', Same H H' → H a = none → H' a = some (.tup ((wy hs b).map V.int)) → Q (.ref a) H'
def spUnder (cT cN : Addr) : Sp := fun vs H Q E => ∃ (t x : V) (hs : List Int) (s : String), vs = [t, x] ∧ TreeAt cT H t hs ∧ IsTree hs ∧ Kind H x s ∧ (within x 0 hs.length = false → E (.ref cN) none H) ∧
  ∀ p : Int, x = .int p → 0 ≤ p → p ≤ hs.length → ∀ a H', Same H H' → H a = none → H' a = some (.tup ((hang hs p).map V.int)) → Q (.ref a) H'
def spBeneath (cT cN : Addr) : Sp := fun vs H Q E => ∃ (t x : V) (hs : List Int) (s : String), vs = [t, x] ∧ TreeAt cT H t hs ∧ IsTree hs ∧ Kind H x s ∧ (within x 0 hs.length = false → E (.ref cN) none H) ∧
  ∀ p : Int, x = .int p → 0 ≤ p → p ≤ hs.length → ∀ a H', Same H H' → H a = none → H' a = some (.tup ((ben hs p).map V.int)) → Q (.ref a) H'
def RowP (f : List Int → Int → List Int) (mk : List V → HO) : Sp := fun vs H Q _ => ∃ (h : Addr) (hs : List Int) (p : Int), vs = [.ref h, .int p] ∧ H h = some (.tup (hs.map V.int)) ∧ IsTree hs ∧ 0 ≤ p ∧ p ≤ hs.length ∧ ∀ a H', Same H H' → H a = none → H' a = some (mk ((f hs p).map V.int)) → Q (.ref a) H'
def spParentsIn : Sp := RowP wy .lst
def spWayIn : Sp := RowP wy .lst
def spHanging : Sp := RowP hang .lst
def spBeneathIn : Sp := RowP ben .tup
def movL (hs : List Int) (b p : Int) : List Int := hs.set (b.toNat - 1) p
def spWithPlace : Sp := fun vs H Q _ => ∃ (h : Addr) (hs : List Int) (b p : Int), vs = [.ref h, .int b, .int p] ∧ H h = some (.tup (hs.map V.int)) ∧ hs.length ≤ 40 ∧ 1 ≤ b ∧ b ≤ hs.length ∧ ∀ a H', Same H H' → H' a = some (.tup ((movL hs b p).map V.int)) → Q (.ref a) H'
/-- a new tree of the row -/
def NewT (cT : Addr) (H : Hp) (hs : List Int) (Q : VK) : Prop := ∀ a dx h H', Same H H' → H a = none → H' a = some (.ins cT dx [("hung", .ref h)]) → H' h = some (.tup (hs.map V.int)) → Q (.ref a) H'
def spMoved (cT cB cP cN : Addr) : Sp := fun vs H Q E => ∃ (t x y : V) (hs : List Int) (s r : String), vs = [t, x, y] ∧ TreeAt cT H t hs ∧ IsTree hs ∧ Kind H x s ∧ Kind H y r ∧ (within x 1 hs.length = false → E (.ref cB) none H) ∧ (within x 1 hs.length = true → within y 0 hs.length = false → E (.ref cP) none H) ∧
  ∀ b p : Int, x = .int b → y = .int p → 1 ≤ b → b ≤ hs.length → 0 ≤ p → p ≤ hs.length → ((p = b ∨ b ∈ wy hs p) → ∀ H', Same H H' → E (.ref cN) none H') ∧ (¬ (p = b ∨ b ∈ wy hs p) → NewT cT H (movL hs b p) Q)
/-- a thing that may be an order of n blocks -/
def OrdThing (H : Hp) (x : V) : Prop := (∃ s, Kind H x s ∧ s ≠ "tuple") ∨ ∃ (a : Addr) (xs : List V), x = .ref a ∧ Rd H a (.tup xs) ∧ (∀ y ∈ xs, ∃ s, Kind H y s) ∧ xs.length ≤ 1000
def IsOrd (H : Hp) (x : V) (n : Nat) (ms : List Int) : Prop := ∃ a, x = .ref a ∧ Rd H a (.tup (ms.map V.int)) ∧ Ord n ms
def spCalled (cT cN : Addr) : Sp := fun vs H Q E => ∃ (t x : V) (hs : List Int), vs = [t, x] ∧ TreeAt cT H t hs ∧ IsTree hs ∧ OrdThing H x ∧ ((¬ ∃ ms, IsOrd H x hs.length ms) → ∀ H', Same H H' → E (.ref cN) none H') ∧ ∀ ms, IsOrd H x hs.length ms → NewT cT H (callL hs ms) Q
def TreeAf (cT : Addr) (H : Hp) (p : Addr) (x : V) (hs : List Int) : Prop := ∃ a dx h, x = .ref a ∧ Af H p a (.ins cT dx [("hung", .ref h)]) ∧ Af H p h (.tup (hs.map V.int))
def spAllRight (cT : Addr) : Sp := fun vs H Q _ => ∃ (p h : Addr) (t : V) (hs : List Int), vs = [.ref p, t, .ref h] ∧ Pool H p ∧ TreeAf cT H p t hs ∧ Af H p h (.tup (hs.map V.int)) ∧ IsTree hs ∧ ∀ H', Pool H' p → Mo p H H' → Q (.bl true) H'
def spMovedL (cT : Addr) : Sp := fun vs H Q _ => ∃ (t : V) (hs : List Int) (b p : Int), vs = [t, .int b, .int p] ∧ TreeAt cT H t hs ∧ IsTree hs ∧ 1 ≤ b ∧ b ≤ hs.length ∧ 0 ≤ p ∧ p ≤ hs.length ∧
  ((p = b ∨ b ∈ wy hs p) → ∀ H', Same H H' → Q .non H') ∧ (¬ (p = b ∨ b ∈ wy hs p) → ∀ h H', Same H H' → H' h = some (.tup ((movL hs b p).map V.int)) → Q (.ref h) H')
def spCalledL : Sp := fun vs H Q _ => ∃ (h o : Addr) (hs ms : List Int), vs = [.ref h, .ref o] ∧ H h = some (.tup (hs.map V.int)) ∧ Rd H o (.tup (ms.map V.int)) ∧ IsTree hs ∧ Ord hs.length ms ∧ ∀ a H', Same H H' → H' a = some (.tup ((callL hs ms).map V.int)) → Q (.ref a) H'
section
variable {vs : List V} {H : Hp} {Q : VK} {E : XK} {cT c1 c2 c3 : Addr}
theorem len_check {lo : Int} (h : spCheck lo c1 vs H Q E) : vs.length = 2 := by obtain ⟨_, _, _, rfl, _⟩ := h; rfl
theorem len_place_of (h : spPlaceOf cT c1 vs H Q E) : vs.length = 2 := by obtain ⟨_, _, _, _, rfl, _⟩ := h; rfl
theorem len_parents (h : spParents cT c1 vs H Q E) : vs.length = 2 := by obtain ⟨_, _, _, _, rfl, _⟩ := h; rfl
theorem len_under (h : spUnder cT c1 vs H Q E) : vs.length = 2 := by obtain ⟨_, _, _, _, rfl, _⟩ := h; rfl
theorem len_beneath (h : spBeneath cT c1 vs H Q E) : vs.length = 2 := by obtain ⟨_, _, _, _, rfl, _⟩ := h; rfl
theorem len_row {f : List Int → Int → List Int} {mk : List V → HO} (h : RowP f mk vs H Q E) : vs.length = 2 := by obtain ⟨_, _, _, rfl, _⟩ := h; rfl
theorem len_parents_in (h : spParentsIn vs H Q E) : vs.length = 2 := len_row h
theorem len_l_way (h : spWayIn vs H Q E) : vs.length = 2 := len_row h
theorem len_hanging (h : spHanging vs H Q E) : vs.length = 2 := len_row h
theorem len_beneath_in (h : spBeneathIn vs H Q E) : vs.length = 2 := len_row h
theorem len_with_place (h : spWithPlace vs H Q E) : vs.length = 3 := by obtain ⟨_, _, _, _, rfl, _⟩ := h; rfl
theorem len_moved (h : spMoved cT c1 c2 c3 vs H Q E) : vs.length = 3 := by obtain ⟨_, _, _, _, _, _, rfl, _⟩ := h; rfl
theorem len_called (h : spCalled cT c1 vs H Q E) : vs.length = 2 := by obtain ⟨_, _, _, rfl, _⟩ := h; rfl
theorem len_l_all_right (h : spAllRight cT vs H Q E) : vs.length = 3 := by obtain ⟨_, _, _, _, rfl, _⟩ := h; rfl
theorem len_l_moved (h : spMovedL cT vs H Q E) : vs.length = 3 := by obtain ⟨_, _, _, _, rfl, _⟩ := h; rfl
theorem len_l_called (h : spCalledL vs H Q E) : vs.length = 2 := by obtain ⟨_, _, _, _, rfl, _⟩ := h; rfl
end
/-! ### promises of views and tellings -/
def IsView (H : Hp) (x : V) (v w : Nat) : Prop := ∃ a, x = .ref a ∧ Rd H a (.tup [.int v, .int w]) ∧ v ≤ 4 ∧ w ≤ 4
def IsPair (H : Hp) (x : V) : Prop := ∃ a y z, x = .ref a ∧ Rd H a (.tup [y, z])
theorem IsView.same {H H' : Hp} {x : V} {v w : Nat} (h : IsView H x v w) (s : Same H H') : IsView H' x v w := by
  obtain ⟨a, e, r, b⟩ := h
  exact ⟨a, e, Rd.same s r, b⟩
def spPair : Sp := fun vs H Q _ => ∃ x, vs = [x] ∧ OrdThing H x ∧ (IsPair H x → Q (.bl true) H) ∧ (¬ IsPair H x → Q (.bl false) H)
def spView : Sp := fun vs H Q _ => ∃ x, vs = [x] ∧ OrdThing H x ∧ (∀ v w, IsView H x v w → ∀ H', Same H H' → Q (.bl true) H') ∧ ((¬ ∃ v w, IsView H x v w) → ∀ H', Same H H' → Q (.bl false) H')
def spCheckView (cN : Addr) : Sp := fun vs H Q E => ∃ x, vs = [x] ∧ OrdThing H x ∧ (∀ v w, IsView H x v w → ∀ H', Same H H' → Q .non H') ∧ ((¬ ∃ v w, IsView H x v w) → ∀ H', Same H H' → E (.ref cN) none H')
def spTies : Sp := fun vs H Q _ => ∃ (h : Addr) (hs : List Int) (p : Int) (s : Nat), vs = [.ref h, .int p, .int s] ∧ H h = some (.tup (hs.map V.int)) ∧ IsTree hs ∧ 0 ≤ p ∧ p ≤ hs.length ∧ s ≤ 4 ∧
  ∀ a xs H', Same H H' → H a = none → H' a = some (.tup xs) → Prs H' xs (ties hs p s) → Q (.ref a) H'
def spRaw : Sp := fun vs H Q _ => ∃ (h : Addr) (x : V) (hs : List Int) (p : Int) (v w : Nat), vs = [.ref h, x, .int p] ∧ H h = some (.tup (hs.map V.int)) ∧ IsTree hs ∧ IsView H x v w ∧ 0 ≤ p ∧ p ≤ hs.length ∧
  ∀ y H', Same H H' → TellAt H' y (tell hs v w p) → Q y H'
def spTelling (cT cV cP : Addr) : Sp := fun vs H Q E => ∃ (t x y : V) (hs : List Int) (s : String), vs = [t, x, y] ∧ TreeAt cT H t hs ∧ IsTree hs ∧ OrdThing H x ∧ Kind H y s ∧ ((¬ ∃ v w, IsView H x v w) → ∀ H', Same H H' → E (.ref cV) none H') ∧
  ∀ v w, IsView H x v w → (within y 0 hs.length = false → ∀ H', Same H H' → E (.ref cP) none H') ∧ ∀ p : Int, y = .int p → 0 ≤ p → p ≤ hs.length → ∀ z H', Same H H' → TellAt H' z (tell hs v w p) → Q z H'
/-- the list of what all places tell -/
def TellsAt (H : Hp) (a : Addr) (hs : List Int) (v w : Nat) : Prop := ∃ xs : List V, H a = some (.lst xs) ∧ xs.length = hs.length + 1 ∧ ∀ (i : Nat) (x : V), xs[i]? = some x → TellAt H x (tell hs v w i)
def spRaws : Sp := fun vs H Q _ => ∃ (h : Addr) (x : V) (hs : List Int) (v w : Nat), vs = [.ref h, x] ∧ H h = some (.tup (hs.map V.int)) ∧ IsTree hs ∧ IsView H x v w ∧ ∀ a H', Same H H' → H a = none → TellsAt H' a hs v w → Q (.ref a) H'
def spUnlike (cT cO cV : Addr) : Sp := fun vs H Q E => ∃ (t u x : V) (hs ks : List Int), vs = [t, u, x] ∧ TreeAt cT H t hs ∧ TreeAt cT H u ks ∧ IsTree hs ∧ IsTree ks ∧ OrdThing H x ∧ (hs.length ≠ ks.length → E (.ref cO) none H) ∧
  (hs.length = ks.length → ((¬ ∃ v w, IsView H x v w) → ∀ H', Same H H' → E (.ref cV) none H') ∧ ∀ v w, IsView H x v w → ∀ a H', Same H H' → H a = none → H' a = some (.tup ((unl hs ks v w).map V.int)) → Q (.ref a) H')
def spViewL : Sp := fun vs H Q _ => ∃ p, vs = [.ref p] ∧ Pool H p ∧ ∀ (a : Addr) (v w : Nat) H', Pool H' p → Mo p H H' → v ≤ 4 → w ≤ 4 → H' a = some (.tup [.int v, .int w]) → Q (.ref a) H'
def spUnlikeL : Sp := fun vs H Q _ => ∃ (h k : Addr) (x : V) (hs ks : List Int) (v w : Nat), vs = [.ref h, .ref k, x] ∧ H h = some (.tup (hs.map V.int)) ∧ H k = some (.tup (ks.map V.int)) ∧ IsTree hs ∧ IsTree ks ∧ hs.length = ks.length ∧ IsView H x v w ∧
  ∀ a H', Same H H' → H a = none → H' a = some (.tup ((unl hs ks v w).map V.int)) → Q (.ref a) H'
def spSeen (cT : Addr) : Sp := fun vs H Q _ => ∃ (t u x : V) (hs : List Int) (b p : Int) (v w : Nat), vs = [t, u, x, .int b, .int p] ∧ TreeAt cT H t hs ∧ TreeAt cT H u (movL hs b p) ∧ IsTree hs ∧ IsTree (movL hs b p) ∧ IsView H x v w ∧ 1 ≤ b ∧ b ≤ hs.length ∧ 0 ≤ p ∧ p ≤ hs.length ∧ ∀ H', Same H H' → Q (.bl true) H'
def spNamed (cT : Addr) : Sp := fun vs H Q _ => ∃ (p d : Addr) (t u x : V) (hs ks : List Int) (v w : Nat), vs = [.ref p, t, u, x, .ref d] ∧ Pool H p ∧ TreeAt cT H t hs ∧ TreeAt cT H u ks ∧ IsTree hs ∧ IsTree ks ∧ hs.length = ks.length ∧ (∃ a, x = .ref a ∧ H a = some (.tup [.int v, .int w]) ∧ v ≤ 4 ∧ w ≤ 4) ∧
  H d = some (.tup ((unl hs ks v w).map V.int)) ∧ ∀ H', Pool H' p → Mo p H H' → Q (.bl true) H'
section
variable {vs : List V} {H : Hp} {Q : VK} {E : XK} {cT c1 c2 c3 : Addr}
theorem len_is_pair (h : spPair vs H Q E) : vs.length = 1 := by obtain ⟨_, rfl, _⟩ := h; rfl
theorem len_is_view (h : spView vs H Q E) : vs.length = 1 := by obtain ⟨_, rfl, _⟩ := h; rfl
theorem len_check_view (h : spCheckView c1 vs H Q E) : vs.length = 1 := by obtain ⟨_, rfl, _⟩ := h; rfl
theorem len_ties_down (h : spTies vs H Q E) : vs.length = 3 := by obtain ⟨_, _, _, _, rfl, _⟩ := h; rfl
theorem len_raw_telling (h : spRaw vs H Q E) : vs.length = 3 := by obtain ⟨_, _, _, _, _, _, rfl, _⟩ := h; rfl
theorem len_telling (h : spTelling cT c1 c2 vs H Q E) : vs.length = 3 := by obtain ⟨_, _, _, _, _, rfl, _⟩ := h; rfl
theorem len_raw_tellings (h : spRaws vs H Q E) : vs.length = 2 := by obtain ⟨_, _, _, _, _, rfl, _⟩ := h; rfl
theorem len_unlike (h : spUnlike cT c1 c2 vs H Q E) : vs.length = 3 := by obtain ⟨_, _, _, _, _, rfl, _⟩ := h; rfl
theorem len_l_view (h : spViewL vs H Q E) : vs.length = 1 := by obtain ⟨_, rfl, _⟩ := h; rfl
theorem len_l_unlike (h : spUnlikeL vs H Q E) : vs.length = 3 := by obtain ⟨_, _, _, _, _, _, _, rfl, _⟩ := h; rfl
theorem len_l_move_seen (h : spSeen cT vs H Q E) : vs.length = 5 := by obtain ⟨_, _, _, _, _, _, _, _, rfl, _⟩ := h; rfl
theorem len_l_named_right (h : spNamed cT vs H Q E) : vs.length = 5 := by obtain ⟨_, _, _, _, _, _, _, _, _, rfl, _⟩ := h; rfl
end
/-! ### tellings compared -/
section
variable {K : PySem.W.Frag} {H : Hp} {Q : VK} {x y : V} {tl tm : List Int × List (Int × Int)}
theorem shaped_tell (tl : List Int × List (Int × Int)) : SeqAt.shaped (tellD tl) = true := by
  show ((PyData.canLayAll0 (tl.1.map PyData.int) && (PyData.canLayAll0 (tl.2.map pairD) && true)) && decide (max (PyData.depthAll (tl.1.map PyData.int) + 1) (max (PyData.depthAll (tl.2.map pairD) + 1) 0) + 1 ≤ 64)) = true
  rw [layAll_ints, layAll_pairs, depthAll_ints]
  have := depthAll_pairs tl.2
  exact decide_eq_true (by omega)
theorem eqv_tell : PyData.eqv (tellD tl) (tellD tm) = decide (tl = tm) := by
  show (PyData.eqvAll (tl.1.map PyData.int) (tm.1.map PyData.int) && (PyData.eqvAll (tl.2.map pairD) (tm.2.map pairD) && true)) = _
  rw [eqvAll_ints, eqvAll_pairs, Bool.and_true, Bool.eq_iff_iff, Bool.and_eq_true, decide_eq_true_eq, decide_eq_true_eq, decide_eq_true_eq]
  exact ⟨fun ⟨a, b⟩ => Prod.ext a b, fun e => by rw [e]; exact ⟨rfl, rfl⟩⟩
theorem v_neTell (a : TellAt H x tl) (b : TellAt H y tm) (q : Q (.bl (!decide (tl = tm))) H) : rNeD K x y H Q :=
  ⟨_, _, a.dp dpAll_ints, b.dp dpAll_ints, shaped_tell _, shaped_tell _, by rw [eqv_tell]; exact q⟩
end
def t_BadTree_init (K : PySem.W.Frag) : TS :=
  (tOst K "part" (tVar 0) (tVar 1))
def t_is_integer (K : PySem.W.Frag) : TS :=
  (tRet (tAndV (tCB (rIsi K) (tCons (tVar 0) (tCons (tC (.ty "int")) tNil))) (tNotV (tCB (rIsi K) (tCons (tVar 0) (tCons (tC (.ty "bool")) tNil))))))
def t_is_within (K : PySem.W.Frag) : TS :=
  (tRet (tAndV (tCall spInteger [] E0 (tCons (tVar 0) tNil)) (tChain xLe xLe (tVar 1) (tVar 0) (tVar 2))))
def t_is_pair (K : PySem.W.Frag) : TS :=
  (tRet (tAndV (tCB (rIsi K) (tCons (tVar 0) (tCons (tC (.ty "tuple")) tNil))) (tOp rEq (tCB (xLen K) (tCons (tVar 0) tNil)) (tC (.int 2)))))
def t_is_view (K : PySem.W.Frag) : TS :=
  (tRet (tAndV (tCall spPair [] E0 (tCons (tVar 0) tNil)) (tCB (rAll K) (tCons (tLc (iTup K (tVar 0)) (gName 1) tYes (tCall spWithin [] E0 (tCons (tVar 1) (tCons (tC (.int 0)) (tCons (tC (.int 4)) tNil)))) [1]) tNil))))
def t_check_block (K : PySem.W.Frag) (cNoBlock : Addr) (E : XK) : TS :=
  (tIfS (tNot (tB (tCall spWithin [] E0 (tCons (tVar 1) (tCons (tC (.int 1)) (tCons (tVar 0) tNil)))))) (tRaise0 (.ref cNoBlock) (wE E)) tNext)
def t_check_place (K : PySem.W.Frag) (cNoPlace : Addr) (E : XK) : TS :=
  (tIfS (tNot (tB (tCall spWithin [] E0 (tCons (tVar 1) (tCons (tC (.int 0)) (tCons (tVar 0) tNil)))))) (tRaise0 (.ref cNoPlace) (wE E)) tNext)
def t_check_view (K : PySem.W.Frag) (cNoView : Addr) (E : XK) : TS :=
  (tIfS (tNot (tB (tCall spView [] E0 (tCons (tVar 0) tNil)))) (tRaise0 (.ref cNoView) (wE E)) tNext)
def t_leads_home (K : PySem.W.Frag) : TS :=
  (tSeq (tAsg (tVar 1) (gName 2)) (tSeq (tFor (iRng1 (tCons (tOp xAdd (tCB (xLen K) (tCons (tVar 0) tNil)) (tC (.int 1))) tNil)) (gName 3) (tSeq (tIfS (tTest (tOp rEq (tVar 2) (tC (.int 0)))) (tRet (tC (.bl true))) tNext) (tAsg (tOp (rIxT K) (tVar 0) (tOp xSub (tVar 2) (tC (.int 1)))) (gName 2)))) (tRet (tC (.bl false)))))
def t_Tree_init (K : PySem.W.Frag) (cBadTree : Addr) (E : XK) : TS :=
  (tSeq (tIfS (tOr (tNot (tB (tCB (rIsi K) (tCons (tVar 1) (tCons (tC (.ty "tuple")) tNil))))) (tNot (tTest (tChain xLe xLe (tC (.int 1)) (tCB (xLen K) (tCons (tVar 1) tNil)) (tC (.int 40)))))) (tRaiseO cBadTree (spX1 cBadTree "part") (tCons (tC (.str "hung")) tNil) (wE E)) tNext) (tSeq (tFor (iRng2 (tCons (tC (.int 1)) (tCons (tOp xAdd (tCB (xLen K) (tCons (tVar 1) tNil)) (tC (.int 1))) tNil))) (gName 2) (tIfS (tOr (tNot (tB (tCall spWithin [] E0 (tCons (tOp (rIxT K) (tVar 1) (tOp xSub (tVar 2) (tC (.int 1)))) (tCons (tC (.int 0)) (tCons (tCB (xLen K) (tCons (tVar 1) tNil)) tNil)))))) (tTest (tOp rEq (tOp (rIxT K) (tVar 1) (tOp xSub (tVar 2) (tC (.int 1)))) (tVar 2)))) (tRaiseO cBadTree (spX1 cBadTree "part") (tCons (tVar 2) tNil) (wE E)) tNext)) (tSeq (tFor (iRng2 (tCons (tC (.int 1)) (tCons (tOp xAdd (tCB (xLen K) (tCons (tVar 1) tNil)) (tC (.int 1))) tNil))) (gName 2) (tIfS (tNot (tB (tCall spLeads [] E0 (tCons (tVar 1) (tCons (tVar 2) tNil))))) (tRaiseO cBadTree (spX1 cBadTree "part") (tCons (tTup (tCons (tC (.str "ring")) (tCons (tVar 2) tNil))) tNil) (wE E)) tNext)) (sFld K (tVar 0) (tVar 1) "hung"))))
def t_parents_in (K : PySem.W.Frag) : TS :=
  (tSeq (tAsg (tLst tNil) (gName 2)) (tSeq (tAsg (tVar 1) (gName 3)) (tSeq (tWhile (tTest (tOp rNe (tVar 3) (tC (.int 0)))) (tSeq (tAsg (tOp (rIxT K) (tVar 0) (tOp xSub (tVar 3) (tC (.int 1)))) (gName 3)) (tDrop (tBM K "list" rAppend (tVar 2) (tCons (tVar 3) tNil))))) (tRet (tVar 2)))))
def t_hanging (K : PySem.W.Frag) : TS :=
  (tRet (tLc (iRng2 (tCons (tC (.int 1)) (tCons (tOp xAdd (tCB (xLen K) (tCons (tVar 0) tNil)) (tC (.int 1))) tNil))) (gName 2) (tTest (tOp rEq (tOp (rIxT K) (tVar 0) (tOp xSub (tVar 2) (tC (.int 1)))) (tVar 1))) (tVar 2) [2]))
def t_beneath_in (K : PySem.W.Frag) : TS :=
  (tSeq (tAsg (tLst tNil) (gName 2)) (tSeq (tAsg (tLst (tCons (tVar 1) tNil)) (gName 3)) (tSeq (tWhile (tTest (tOp xGt (tCB (xLen K) (tCons (tVar 3) tNil)) (tC (.int 0)))) (tSeq (tAsg (tCall spHanging [] E0 (tCons (tVar 0) (tCons (tBM0 K "list" rPop (tVar 3)) tNil))) (gName 4)) (tSeq (tDrop (tBM K "list" rExtend (tVar 2) (tCons (tVar 4) tNil))) (tDrop (tBM K "list" rExtend (tVar 3) (tCons (tVar 4) tNil)))))) (tRet (tCB (xTupleOf K) (tCons (tCB (rSortedI K) (tCons (tVar 2) tNil)) tNil))))))
def t_with_place (K : PySem.W.Frag) : TS :=
  (tRet (tOp (rCatA K) (tOp (rCatA K) (tSl (rSlA K) (tVar 0) tNoPart (tPart (tOp xSub (tVar 1) (tC (.int 1))))) (tTup (tCons (tVar 2) tNil))) (tSl (rSlA K) (tVar 0) (tPart (tVar 1)) tNoPart)))
def t_moved (K : PySem.W.Frag) (cBadTree cBeneath cNoBlock cNoPlace cTree : Addr) (E : XK) : TS :=
  (tSeq (tDrop (tCall (spCheck 1 cNoBlock) [] E (tCons (tCB (xLen K) (tCons (tFld K (tVar 0) "hung") tNil)) (tCons (tVar 1) tNil)))) (tSeq (tDrop (tCall (spCheck 0 cNoPlace) [] E (tCons (tCB (xLen K) (tCons (tFld K (tVar 0) "hung") tNil)) (tCons (tVar 2) tNil)))) (tSeq (tIfS (tOr (tTest (tOp rEq (tVar 2) (tVar 1))) (tTest (tOp (rIn K false) (tVar 2) (tCall spBeneathIn [] E0 (tCons (tFld K (tVar 0) "hung") (tCons (tVar 1) tNil)))))) (tRaise0 (.ref cBeneath) (wE E)) tNext) (tRet (tMake cTree (spTree cBadTree cTree) [] E (tCons (tCall spWithPlace [] E0 (tCons (tFld K (tVar 0) "hung") (tCons (tVar 1) (tCons (tVar 2) tNil)))) tNil))))))
def t_called (K : PySem.W.Frag) (cBadTree cNoOrder cTree : Addr) (E : XK) : TS :=
  (tSeq (tAsg (tCB (xLen K) (tCons (tFld K (tVar 0) "hung") tNil)) (gName 2)) (tSeq (tIfS (tOr (tNot (tB (tCB (rIsi K) (tCons (tVar 1) (tCons (tC (.ty "tuple")) tNil))))) (tNot (tB (tCB (rAll K) (tCons (tLc (iTup K (tVar 1)) (gName 6) tYes (tCall spWithin [] E0 (tCons (tVar 6) (tCons (tC (.int 1)) (tCons (tVar 2) tNil)))) [6]) tNil))))) (tRaise0 (.ref cNoOrder) (wE E)) tNext) (tSeq (tIfS (tTest (tOp (rNeD K) (tCB (rSortedT K) (tCons (tVar 1) tNil)) (tLstRg (tRg2 (tC (.int 1)) (tOp xAdd (tVar 2) (tC (.int 1))))))) (tRaise0 (.ref cNoOrder) (wE E)) tNext) (tSeq (tAsg (tOp (rCatA K) (tTup (tCons (tC (.int 0)) tNil)) (tVar 1)) (gName 3)) (tSeq (tAsg (tOp rRep (tLst (tCons (tC (.int 0)) tNil)) (tVar 2)) (gName 4)) (tSeq (tFor (iRng2 (tCons (tC (.int 1)) (tCons (tOp xAdd (tVar 2) (tC (.int 1))) tNil))) (gName 5) (tAsg (tOp (rIxT K) (tVar 3) (tOp (rIxT K) (tFld K (tVar 0) "hung") (tOp xSub (tVar 5) (tC (.int 1))))) (gSub (tVar 4) (tOp xSub (tOp (rIxT K) (tVar 3) (tVar 5)) (tC (.int 1))) rSetL))) (tRet (tMake cTree (spTree cBadTree cTree) [] E (tCons (tCB (xTupleOf K) (tCons (tVar 4) tNil)) tNil)))))))))
def t_ties_down (K : PySem.W.Frag) : TS :=
  (tSeq (tAsg (tLst tNil) (gName 3)) (tSeq (tAsg (tLst (tCons (tVar 1) tNil)) (gName 4)) (tSeq (tFor (iRng1 (tCons (tVar 2) tNil)) (gName 5) (tSeq (tAsg (tLst tNil) (gName 6)) (tSeq (tFor (iList K (tVar 4)) (gName 7) (tDrop (tBM K "list" rExtend (tVar 6) (tCons (tLc (iList K (tCall spHanging [] E0 (tCons (tVar 0) (tCons (tVar 7) tNil)))) (gName 8) tYes (tTup (tCons (tVar 8) (tCons (tVar 7) tNil))) [8]) tNil)))) (tSeq (tDrop (tBM K "list" rExtend (tVar 3) (tCons (tVar 6) tNil))) (tAsg (tLc (iList K (tVar 6)) (gTup K 2 (gCons (gName 8) (gCons (gName 7) gNil))) tYes (tVar 8) [8, 7]) (gName 4)))))) (tRet (tCB (xTupleOf K) (tCons (tCB (rSortedPO K) (tCons (tVar 3) tNil)) tNil))))))
def t_raw_telling (K : PySem.W.Frag) : TS :=
  (tRet (tTup (tCons (tCB (xTupleOf K) (tCons (tSl (rSlL K) (tCall spParentsIn [] E0 (tCons (tVar 0) (tCons (tVar 2) tNil))) tNoPart (tPart (tOp (rIxT K) (tVar 1) (tC (.int 0))))) tNil)) (tCons (tCall spTies [] E0 (tCons (tVar 0) (tCons (tVar 2) (tCons (tOp (rIxT K) (tVar 1) (tC (.int 1))) tNil)))) tNil))))
def t_telling (K : PySem.W.Frag) (cNoPlace cNoView : Addr) (E : XK) : TS :=
  (tSeq (tDrop (tCall (spCheckView cNoView) [] E (tCons (tVar 1) tNil))) (tSeq (tDrop (tCall (spCheck 0 cNoPlace) [] E (tCons (tCB (xLen K) (tCons (tFld K (tVar 0) "hung") tNil)) (tCons (tVar 2) tNil)))) (tRet (tCall spRaw [] E0 (tCons (tFld K (tVar 0) "hung") (tCons (tVar 1) (tCons (tVar 2) tNil)))))))
def t_raw_tellings (K : PySem.W.Frag) : TS :=
  (tRet (tLc (iRng1 (tCons (tOp xAdd (tCB (xLen K) (tCons (tVar 0) tNil)) (tC (.int 1))) tNil)) (gName 2) tYes (tCall spRaw [] E0 (tCons (tVar 0) (tCons (tVar 1) (tCons (tVar 2) tNil)))) [2]))
def t_unlike (K : PySem.W.Frag) (cNoView cOtherBlocks : Addr) (E : XK) : TS :=
  (tSeq (tIfS (tTest (tOp rNe (tCB (xLen K) (tCons (tFld K (tVar 0) "hung") tNil)) (tCB (xLen K) (tCons (tFld K (tVar 1) "hung") tNil)))) (tRaise0 (.ref cOtherBlocks) (wE E)) tNext) (tSeq (tDrop (tCall (spCheckView cNoView) [] E (tCons (tVar 2) tNil))) (tSeq (tAsg (tCall spRaws [] E0 (tCons (tFld K (tVar 0) "hung") (tCons (tVar 2) tNil))) (gName 3)) (tSeq (tAsg (tCall spRaws [] E0 (tCons (tFld K (tVar 1) "hung") (tCons (tVar 2) tNil))) (gName 4)) (tRet (tCB (xTupleOf K) (tCons (tLc (iRng1 (tCons (tCB (xLen K) (tCons (tVar 3) tNil)) tNil)) (gName 5) (tTest (tOp (rNeD K) (tOp (rIxL K) (tVar 3) (tVar 5)) (tOp (rIxL K) (tVar 4) (tVar 5)))) (tVar 5) [5]) tNil)))))))
def t_l_is (K : PySem.W.Frag) (d : Nat) : TS :=
  (tSeq (tIfS (tB (tCB (rIsiT K) (tCons (tVar 1) (tCons (tTup (tCons (tC (.ty "tuple")) (tCons (tC (.ty "list")) tNil))) tNil)))) (tSeq (tIfS (tOr (tTest (tOp rNe (tCB (rIsi K) (tCons (tVar 0) (tCons (tC (.ty "tuple")) tNil))) (tCB (rIsi K) (tCons (tVar 1) (tCons (tC (.ty "tuple")) tNil))))) (tTest (tOp rNe (tCB (rIsi K) (tCons (tVar 0) (tCons (tC (.ty "list")) tNil))) (tCB (rIsi K) (tCons (tVar 1) (tCons (tC (.ty "list")) tNil)))))) (tRet (tC (.bl false))) tNext) (tRet (tAndV (tOp rEq (tCB (xLen K) (tCons (tVar 0) tNil)) (tCB (xLen K) (tCons (tVar 1) tNil))) (tCB (rAll K) (tCons (tLc (iRng1 (tCons (tCB (xLen K) (tCons (tVar 1) tNil)) tNil)) (gName 2) tYes (tCall (spIsN d) [] E0 (tCons (tOp (rIx K) (tVar 0) (tVar 2)) (tCons (tOp (rIx K) (tVar 1) (tVar 2)) tNil))) [2]) tNil))))) tNext) (tSeq (tIfS (tB (tCB (rIsi K) (tCons (tVar 1) (tCons (tC (.ty "dict")) tNil)))) tNever tNext) (tSeq (tIfS (tTest (tOp xIsN (tVar 1) (tC .non))) (tRet (tOp xIsN (tVar 0) (tC .non))) tNext) (tRet (tAndV (tOp rEq (tCB (rIsi K) (tCons (tVar 0) (tCons (tC (.ty "bool")) tNil))) (tCB (rIsi K) (tCons (tVar 1) (tCons (tC (.ty "bool")) tNil)))) (tAndV (tOp xNotN (tVar 0) (tC .non)) (tOp rEq (tVar 0) (tVar 1))))))))
def t_l_mixed (K : PySem.W.Frag) : TS :=
  (tSeq (tAsg (tLstRg (tRg2 (tC (.int 1)) (tOp xAdd (tVar 1) (tC (.int 1))))) (gName 2)) (tRet (tLc (iRng1 (tCons (tVar 1) tNil)) (gName 3) tYes (tBM K "list" rPopAt (tVar 2) (tCons (tCall spDraw [] E0 (tCons (tVar 0) (tCons (tCB (xLen K) (tCons (tVar 2) tNil)) tNil))) tNil)) [3])))
def t_l_hung (K : PySem.W.Frag) : TS :=
  (tSeq (tAsg (tCall spDraw [] E0 (tCons (tVar 0) (tCons (tC (.int 4)) tNil))) (gName 2)) (tSeq (tAsg (tOp rCat (tLst (tCons (tC (.int 0)) tNil)) (tCall spMixed [] E0 (tCons (tVar 0) (tCons (tVar 1) tNil)))) (gName 3)) (tSeq (tAsg (tOp rRep (tLst (tCons (tC (.int 0)) tNil)) (tVar 1)) (gName 4)) (tSeq (tFor (iRng2 (tCons (tC (.int 1)) (tCons (tOp xAdd (tVar 1) (tC (.int 1))) tNil))) (gName 5) (tSeq (tAsg (tCall spDraw [] E0 (tCons (tVar 0) (tCons (tVar 5) tNil))) (gName 6)) (C8.tCut (tIfS (tOr (tTest (tOp rEq (tVar 2) (tC (.int 0)))) (tAnd (tTest (tOp rEq (tVar 2) (tC (.int 1)))) (tTest (tOp xGt (tCall spDraw [] E0 (tCons (tVar 0) (tCons (tC (.int 3)) tNil))) (tC (.int 0)))))) (tAsg (tOp xSub (tVar 5) (tC (.int 1))) (gName 6)) tNext) (C8.tCut (tIfS (tAnd (tTest (tOp rEq (tVar 2) (tC (.int 2)))) (tTest (tOp rEq (tCall spDraw [] E0 (tCons (tVar 0) (tCons (tC (.int 2)) tNil))) (tC (.int 0))))) (tAsg (tC (.int 0)) (gName 6)) tNext) (tAsg (tOp (rIxL K) (tVar 3) (tVar 6)) (gSub (tVar 4) (tOp xSub (tOp (rIxL K) (tVar 3) (tVar 5)) (tC (.int 1))) rSetL)))))) (tRet (tCB (xTupleOf K) (tCons (tVar 4) tNil)))))))
def t_l_many (K : PySem.W.Frag) : TS :=
  (tRet (tOp xAdd (tC (.int 1)) (tCall spDraw [] E0 (tCons (tVar 0) (tCons (tIf (tTest (tOp rEq (tCall spDraw [] E0 (tCons (tVar 0) (tCons (tC (.int 8)) tNil))) (tC (.int 0)))) (tC (.int 40)) (tC (.int 9))) tNil)))))
def t_l_way (K : PySem.W.Frag) : TS :=
  (tSeq (tAsg (tLst tNil) (gName 2)) (tSeq (tAsg (tVar 1) (gName 3)) (tSeq (tFor (iTup K (tVar 0)) (gName 4) (tIfS (tTest (tOp rNe (tVar 3) (tC (.int 0)))) (tSeq (tAsg (tOp (rIxT K) (tVar 0) (tOp xSub (tVar 3) (tC (.int 1)))) (gName 3)) (tDrop (tBM K "list" rAppend (tVar 2) (tCons (tVar 3) tNil)))) tNext)) (tRet (tVar 2)))))
def t_l_tellings (K : PySem.W.Frag) : TS :=
  (tSeq (tAsg (tLc (iRng1 (tCons (tOp xAdd (tCB (xLen K) (tCons (tVar 0) tNil)) (tC (.int 1))) tNil)) (gName 6) tYes (tLst tNil) [6]) (gName 2)) (tSeq (tAsg (tLst (tCons (tLst tNil) tNil)) (gName 3)) (tSeq (tFor (iRng2 (tCons (tC (.int 1)) (tCons (tOp xAdd (tCB (xLen K) (tCons (tVar 0) tNil)) (tC (.int 1))) tNil))) (gName 4) (tSeq (tAsg (tCall spWayIn [] E0 (tCons (tVar 0) (tCons (tVar 4) tNil))) (gName 5)) (tSeq (tDrop (tBM K "list" rAppend (tVar 3) (tCons (tVar 5) tNil))) (tFor (iList K (tSl (rSlL K) (tVar 5) tNoPart (tPart (tOp (rIxT K) (tVar 1) (tC (.int 1)))))) (gName 6) (tDrop (tBM K "list" rAppend (tOp (rIxL K) (tVar 2) (tVar 6)) (tCons (tTup (tCons (tVar 4) (tCons (tOp (rIxT K) (tVar 0) (tOp xSub (tVar 4) (tC (.int 1)))) tNil))) tNil))))))) (tRet (tLc (iRng1 (tCons (tCB (xLen K) (tCons (tVar 3) tNil)) tNil)) (gName 6) tYes (tTup (tCons (tCB (xTupleOf K) (tCons (tSl (rSlL K) (tOp (rIxL K) (tVar 3) (tVar 6)) tNoPart (tPart (tOp (rIxT K) (tVar 1) (tC (.int 0))))) tNil)) (tCons (tCB (xTupleOf K) (tCons (tOp (rIxL K) (tVar 2) (tVar 6)) tNil)) tNil))) [6])))))
def t_l_view (K : PySem.W.Frag) : TS :=
  (tRet (tTup (tCons (tCall spDraw [] E0 (tCons (tVar 0) (tCons (tC (.int 5)) tNil))) (tCons (tCall spDraw [] E0 (tCons (tVar 0) (tCons (tC (.int 5)) tNil))) tNil))))
def t_l_unlike (K : PySem.W.Frag) : TS :=
  (tSeq (tAsg (tTup (tCons (tCall spRaws [] E0 (tCons (tVar 0) (tCons (tVar 2) tNil))) (tCons (tCall spRaws [] E0 (tCons (tVar 1) (tCons (tVar 2) tNil))) tNil))) (gTup K 2 (gCons (gName 3) (gCons (gName 4) gNil)))) (tRet (tCB (xTupleOf K) (tCons (tLc (iRng1 (tCons (tCB (xLen K) (tCons (tVar 3) tNil)) tNil)) (gName 5) (tTest (tOp (rNeD K) (tOp (rIxL K) (tVar 3) (tVar 5)) (tOp (rIxL K) (tVar 4) (tVar 5)))) (tVar 5) [5]) tNil))))
def t_l_move_seen (K : PySem.W.Frag) (cNoView cOtherBlocks cTree : Addr) : TS :=
  (tSeq (tAsg (tCall (spUnlike cTree cOtherBlocks cNoView) [] E0 (tCons (tVar 0) (tCons (tVar 1) (tCons (tVar 2) tNil)))) (gName 5)) (tSeq (tAsg (tOp (rIxT K) (tFld K (tVar 0) "hung") (tOp xSub (tVar 3) (tC (.int 1)))) (gName 6)) (tSeq (tIfS (tTest (tOp rEq (tVar 6) (tVar 4))) (tRet (tOp (rEqD K) (tVar 5) (tTup tNil))) tNext) (C8.tCut (tIfS (tAnd (tTest (tOp xGt (tOp (rIxT K) (tVar 2) (tC (.int 0))) (tC (.int 0)))) (tTest (tOp (rIn K true) (tVar 3) (tVar 5)))) (tRet (tC (.bl false))) tNext) (tRet (tOrV (tOp rEq (tOp (rIxT K) (tVar 2) (tC (.int 1))) (tC (.int 0))) (tAndV (tOp (rIn K false) (tVar 6) (tVar 5)) (tOp (rIn K false) (tVar 4) (tVar 5)))))))))
def t_l_named_right (K : PySem.W.Frag) (cNoOrder cNoView cOtherBlocks cTree : Addr) : TS :=
  (tSeq (tAsg (tCB (xTupleOf K) (tCons (tCall spMixed [] E0 (tCons (tVar 0) (tCons (tCB (xLen K) (tCons (tFld K (tVar 1) "hung") tNil)) tNil))) tNil)) (gName 5)) (tSeq (tAsg (tOp (rCatA K) (tTup (tCons (tC (.int 0)) tNil)) (tVar 5)) (gName 6)) (tSeq (tAsg (tCall (spUnlike cTree cOtherBlocks cNoView) [] E0 (tCons (tCall (spCalled cTree cNoOrder) [] E0 (tCons (tVar 1) (tCons (tVar 5) tNil))) (tCons (tCall (spCalled cTree cNoOrder) [] E0 (tCons (tVar 2) (tCons (tVar 5) tNil))) (tCons (tVar 3) tNil)))) (gName 7)) (tRet (tOp (rEqD K) (tVar 7) (tCB (xTupleOf K) (tCons (tCB (rSortedI K) (tCons (tLc (iTup K (tVar 4)) (gName 8) tYes (tOp (rIxT K) (tVar 6) (tVar 8)) [8]) tNil)) tNil)))))))
def t_law (K : PySem.W.Frag) (cBadTree cBeneath cNoBlock cNoPlace cNoView cOtherBlocks cTree : Addr) : TS :=
  (tSeq (tAsg (tCall (spPool K) [] E0 (tCons (tVar 0) tNil)) (gName 1)) (tSeq (tFor (iRng1 (tCons (tC (.int 2)) tNil)) (gName 2) (tSeq (tAsg (tCall spMany [] E0 (tCons (tVar 1) tNil)) (gName 3)) (tSeq (tAsg (tCall spHung [] E0 (tCons (tVar 1) (tCons (tVar 3) tNil))) (gName 4)) (tSeq (tAsg (tTup (tCons (tMake cTree (spTree cBadTree cTree) [] E0 (tCons (tVar 4) tNil)) (tCons (tCall spViewL [] E0 (tCons (tVar 1) tNil)) tNil))) (gTup K 2 (gCons (gName 5) (gCons (gName 6) gNil)))) (tSeq (tAsg (tCall spRaws [] E0 (tCons (tVar 4) (tCons (tVar 6) tNil))) (gName 7)) (tSeq (tFor (iList K (tOp rCat (tLst (tCons (tC (.int 0)) tNil)) (tLc (iRng2 (tCons (tC (.int 1)) (tCons (tOp xAdd (tVar 3) (tC (.int 1))) tNil))) (gName 15) (tTest (tOp rEq (tCall spDraw [] E0 (tCons (tVar 1) (tCons (tC (.int 2)) tNil))) (tC (.int 0)))) (tVar 15) [15]))) (gName 8) (tIfS (tNot (tB (tCall (spIsN 4) [] E0 (tCons (tCall (spTelling cTree cNoView cNoPlace) [] E0 (tCons (tVar 5) (tCons (tVar 6) (tCons (tVar 8) tNil)))) (tCons (tOp (rIxL K) (tVar 7) (tVar 8)) tNil))))) (tRet (tC (.bl false))) tNext)) (tSeq (tAsg (tVar 5) (gName 9)) (tSeq (tFor (iRng1 (tCons (tCall spDraw [] E0 (tCons (tVar 1) (tCons (tC (.int 4)) tNil))) tNil)) (gName 10) (tSeq (tPar 11 8 (tCons (tOp xAdd (tC (.int 1)) (tCall spDraw [] E0 (tCons (tVar 1) (tCons (tVar 3) tNil)))) (tCons (tCall spDraw [] E0 (tCons (tVar 1) (tCons (tOp xAdd (tVar 3) (tC (.int 1))) tNil))) tNil))) (tIfS (tAnd (tTest (tOp rNe (tVar 8) (tVar 11))) (tTest (tOp (rIn K true) (tVar 11) (tCall spWayIn [] E0 (tCons (tFld K (tVar 9) "hung") (tCons (tVar 8) tNil)))))) (tSeq (tAsg (tCall (spMoved cTree cNoBlock cNoPlace cBeneath) [] E0 (tCons (tVar 9) (tCons (tVar 11) (tCons (tVar 8) tNil)))) (gName 12)) (tSeq (tIfS (tNot (tB (tCall (spSeen cTree) [] E0 (tCons (tVar 9) (tCons (tVar 12) (tCons (tVar 6) (tCons (tVar 11) (tCons (tVar 8) tNil)))))))) (tRet (tC (.bl false))) tNext) (tAsg (tVar 12) (gName 9)))) tNext))) (C8.tCut (tIfS (tTest (tOp rEq (tCall spDraw [] E0 (tCons (tVar 1) (tCons (tC (.int 4)) tNil))) (tC (.int 0)))) (tAsg (tMake cTree (spTree cBadTree cTree) [] E0 (tCons (tCall spHung [] E0 (tCons (tVar 1) (tCons (tVar 3) tNil))) tNil)) (gName 9)) tNext) (tSeq (tAsg (tCall spUnlikeL [] E0 (tCons (tVar 4) (tCons (tFld K (tVar 9) "hung") (tCons (tVar 6) tNil)))) (gName 13)) (tSeq (tIfS (tOr (tNot (tB (tCall (spIsN 4) [] E0 (tCons (tCall (spUnlike cTree cOtherBlocks cNoView) [] E0 (tCons (tVar 5) (tCons (tVar 9) (tCons (tVar 6) tNil)))) (tCons (tVar 13) tNil))))) (tNot (tB (tCall (spIsN 4) [] E0 (tCons (tCall (spUnlike cTree cOtherBlocks cNoView) [] E0 (tCons (tVar 9) (tCons (tVar 5) (tCons (tVar 6) tNil)))) (tCons (tVar 13) tNil)))))) (tRet (tC (.bl false))) tNext) (tSeq (tAsg (tTup (tCons (tCB xMin (tCons (tC (.int 4)) (tCons (tOp xAdd (tOp (rIxT K) (tVar 6) (tC (.int 0))) (tCall spDraw [] E0 (tCons (tVar 1) (tCons (tC (.int 2)) tNil)))) tNil))) (tCons (tCB xMin (tCons (tC (.int 4)) (tCons (tOp xAdd (tOp (rIxT K) (tVar 6) (tC (.int 1))) (tCall spDraw [] E0 (tCons (tVar 1) (tCons (tC (.int 2)) tNil)))) tNil))) tNil))) (gName 14)) (tSeq (tIfS (tOr (tNot (tB (tCB (rAll K) (tCons (tLc (iTup K (tVar 13)) (gName 8) tYes (tOp (rIn K false) (tVar 8) (tCall (spUnlike cTree cOtherBlocks cNoView) [] E0 (tCons (tVar 5) (tCons (tVar 9) (tCons (tVar 14) tNil))))) [8]) tNil)))) (tTest (tOp (rNeD K) (tCall (spUnlike cTree cOtherBlocks cNoView) [] E0 (tCons (tVar 5) (tCons (tVar 5) (tCons (tVar 6) tNil)))) (tTup tNil)))) (tRet (tC (.bl false))) tNext) (tIfS (tNot (tB (tCall (spNamed cTree) [] E0 (tCons (tVar 1) (tCons (tVar 5) (tCons (tVar 9) (tCons (tVar 6) (tCons (tVar 13) tNil)))))))) (tRet (tC (.bl false))) tNext)))))))))))))) (tRet (tC (.bl true)))))
local macro_rules | `(tactic| walk_at "pl") => `(tactic| first
  | assumption
  | ((with_reducible refine' Pool.upd ?k1 ?k2); (case k2 => assumption); (case k1 => walk_at "pl")))
local macro_rules | `(tactic| walk_at "af") => `(tactic| first
  | assumption
  | ((with_reducible refine' Af.upd ?k1 ?k2); (case k2 => assumption); (case k1 => walk_at "pl"))
  | ((with_reducible refine' Af.keep ?k1 ?k2 ?k3); (case k2 => assumption); (case k1 => walk_at "pl"); (case k3 => walk_at "af"))
  | ((with_reducible refine' Af.mo (by assumption) ?_); walk_at "af"))
local macro_rules | `(tactic| walk_at "ne") => `(tactic| first | assumption | (refine Ne.symm ?_; assumption))
local macro_rules | `(tactic| walk_at "hp") => `(tactic| first
  | assumption
  | exact upd_same
  | ((with_reducible refine' upd_get (by assumption) ?_); walk_at "hp")
  | ((with_reducible refine' upd_at ?k1 ?_); (case k1 => walk_at "ne"); walk_at "hp"))
local macro_rules | `(tactic| walk_at "vc1") => `(tactic| first
  | (with_reducible refine' v_seq ?_)
  | (with_reducible refine' v_asg ?_)
  | ((with_reducible refine' v_var ?k1 ?_); (case k1 => exact rfl))
  | (with_reducible refine' v_c ?_)
  | (with_reducible refine' v_op ?_)
  | (with_reducible refine' v_I0 ?_)
  | (with_reducible refine' v_name ?_)
  | (with_reducible refine' v_cons ?_)
  | (with_reducible refine' v_nil ?_)
  | (with_reducible refine' v_cb ?_)
  | (with_reducible refine' v_int ?_)
  | (with_reducible refine' v_abs ?_)
  | (with_reducible refine' v_ifs ?_)
  | (with_reducible refine' v_test ?_)
  | (with_reducible refine' v_B ?_)
  | (with_reducible refine' v_bl ?_)
  | (with_reducible refine' v_and ?_)
  | (with_reducible refine' v_or ?_)
  | (with_reducible refine' v_not ?_)
  | (with_reducible refine' v_eqI ?_)
  | (with_reducible refine' v_neI ?_)
  | (with_reducible refine' v_ret ?_)
  | (with_reducible refine' v_retN ?_)
  | (with_reducible refine' v_next ?_)
  | (with_reducible refine' v_drop ?_)
  | (with_reducible refine' v_call ?_)
  | (with_reducible refine' v_sub ?_)
  | (with_reducible refine' v_lst ?_)
  | (with_reducible refine' v_tup ?_)
  | (with_reducible refine' v_sl ?_)
  | (with_reducible refine' v_nopart ?_)
  | (with_reducible refine' v_part ?_)
  | (with_reducible refine' v_partI ?_)
  | (with_reducible refine' v_if ?_)
  | (with_reducible refine' v_chain ?_)
  | (with_reducible refine' v_andV ?_)
  | (with_reducible refine' v_orV ?_)
  | (with_reducible refine' v_notV ?_)
  | (with_reducible refine' v_un ?_)
  | (with_reducible refine' v_U ?_)
  | (with_reducible refine' v_isN ?_)
  | (with_reducible refine' v_notN ?_)
  | (with_reducible refine' v_eqB ?_)
  | (with_reducible refine' v_neB ?_)
  | (with_reducible refine' v_yes ?_)
  | (with_reducible refine' v_dnew ?_)
  | (with_reducible refine' v_iteT ?_)
  | (with_reducible refine' v_iteF ?_)
  | (with_reducible refine' v_iteNT ?_)
  | (with_reducible refine' v_iteNF ?_)
  | (with_reducible refine' v_for ?_)
  | (with_reducible refine' v_lc ?_)
  | (with_reducible refine' v_iR1 ?_)
  | (with_reducible refine' v_iR2 ?_)
  | (with_reducible refine' v_iL ?_)
  | (with_reducible refine' v_iT ?_)
  | (with_reducible refine' v_bm ?_)
  | (with_reducible refine' v_bm0 ?_)
  | (with_reducible refine' v_tRg2 ?_)
  | (with_reducible refine' v_tRg1 ?_)
  | (with_reducible refine' v_rg2e ?_)
  | (with_reducible refine' v_rg1e ?_)
  | (with_reducible refine' v_lstRg ?_)
  | (with_reducible refine' v_tupRg ?_)
  | ((with_reducible refine' v_bmL ?k1 ?_); (case k1 => walk_at "hp"))
  | ((with_reducible refine' v_bm0L ?k1 ?_); (case k1 => walk_at "hp"))
  | (with_reducible refine' v_fld ?_)
  | (with_reducible refine' v_makeS ?_)
  | (with_reducible refine' v_make ?_)
  | (with_reducible refine' v_xf ?_)
  | (with_reducible refine' v_stf ?_)
  | (with_reducible refine' v_raiseO ?_)
  | (with_reducible refine' v_raise0 ?_)
  | (with_reducible refine' v_callS ?_)
  | (with_reducible refine' v_par ?_)
  | (with_reducible refine' v_parK ?_)
  | ((with_reducible refine' v_ixL' ?k1 ?k2 ?_); (case k1 => walk_at "hp"); (case k2 => exact rfl))
  | ((with_reducible refine' v_ixT' ?k1 ?k2 ?_); (case k1 => walk_at "hp"); (case k2 => exact rfl))
  | ((with_reducible refine' v_setL ?k1 ?k2 ?_); (case k1 => walk_at "hp"); (case k2 => exact rfl))
  | ((with_reducible refine' v_lenL' ?k1 ?_); (case k1 => walk_at "hp"))
  | ((with_reducible refine' v_lenT' ?k1 ?_); (case k1 => walk_at "hp"))
  | ((with_reducible refine' v_bound ?k1 ?_); (case k1 => (first | decide | omega | (simp only [List.length_cons, List.length_nil]; omega)))))
local macro_rules | `(tactic| walk_at "vc") => `(tactic| repeat (walk_at "vc1"))
section
variable {K : PySem.W.Frag} {H : Hp} {Q : VK} {E : XK} {vs : List V}
theorem pure_is_integer (h : spInteger vs H Q E) : t_is_integer K { nx := fun _ H' => Q .non H', rt := Q } (start ["thing"] vs) H := by
  obtain ⟨x, s, rfl, k, q⟩ := h
  unfold t_is_integer
  walk_at "vc"
  refine v_isi k (.inl rfl) ?_
  walk_at "vc"
  have e : (isA s "int" && !isA s "bool") = decide (s = "int") := by cases k <;> decide
  refine v_iteB (fun h1 => ?_) (fun h1 => ?_)
  · walk_at "vc"
    refine v_isi k (.inr (.inl rfl)) ?_
    walk_at "vc"
    rw [h1, Bool.true_and] at e
    rw [e]
    exact q
  · rw [h1, Bool.false_and] at e
    rw [e]
    exact q
end

section
variable {K : PySem.W.Frag} {H : Hp} {Q : VK} {E : XK} {vs : List V}
theorem pure_is_within (h : spWithin vs H Q E) : t_is_within K { nx := fun _ H' => Q .non H', rt := Q } (start ["thing", "least", "most"] vs) H := by
  obtain ⟨x, lo, hi, s, rfl, k, q⟩ := h
  unfold t_is_within
  walk_at "vc"
  refine ⟨x, s, rfl, k, ?_⟩
  walk_at "vc"
  refine v_ite (fun h1 => ?_) (fun h1 => ?_)
  · cases k with
    | int i =>
      walk_at "vc"
      refine v_ite (fun h2 => ?_) (fun h2 => ?_)
      · walk_at "vc"
        have e : within (.int i) lo hi = decide (i ≤ hi) := by
          show decide (lo ≤ i ∧ i ≤ hi) = decide (i ≤ hi)
          rw [Bool.eq_iff_iff]
          simp [h2]
        rw [← e]
        exact q
      · have e : within (.int i) lo hi = false := decide_eq_false fun z => h2 z.1
        rw [← e]
        exact q
    | _ => exact absurd h1 (by decide)
  · have e : within x lo hi = false := by
      cases k with
      | int i => exact absurd rfl h1
      | _ => rfl
    rw [← e]
    exact q
end

section
variable {K : PySem.W.Frag} {H : Hp} {Q : VK} {E : XK} {vs : List V}
theorem getI {hs : List Int} {h : Int} (p : Pls hs) (h0 : h ≠ 0) (h1 : 0 ≤ h) (h2 : h ≤ hs.length) : atI (hs.map V.int) (h - 1) = some (.int (stp hs h)) := by
  have hl : h.toNat - 1 < hs.length := by omega
  refine at_of (j := h.toNat - 1) (by omega) ?_
  unfold stp
  rw [if_neg h0, List.getElem?_map, List.getD_eq_getElem?_getD, List.getElem?_eq_getElem hl]
  rfl
end

section
variable {K : PySem.W.Frag} {H : Hp} {Q : VK} {E : XK} {vs : List V}
theorem pure_leads_home (h : spLeads vs H Q E) : t_leads_home K { nx := fun _ H' => Q .non H', rt := Q } (start ["hung", "block", "here", "turn"] vs) H := by
  obtain ⟨a, hs, b, rfl, ha, p, b0, b1, hl, q⟩ := h
  unfold t_leads_home
  walk_at "vc"
  rw [List.length_map]
  refine v_rg1 (by omega) ?_
  refine v_loop0 (fun i σ' H' => H' = H ∧ (∃ v, σ' = [some (.ref a), some (.int b), some (.int (up hs i b)), v]) ∧ ∀ k, k < i → up hs k b ≠ 0) ⟨rfl, ⟨none, rfl⟩, fun k hk => absurd hk (Nat.not_lt_zero _)⟩ ?_ ?_
  · rintro i σ' H' hi ⟨rfl, ⟨v, rfl⟩, nz⟩
    walk_at "vc"
    refine v_ite (fun h1 => ?_) (fun h1 => ?_)
    · walk_at "vc"
      rw [leads_true (k := i) (by omega) h1] at q
      exact q
    · walk_at "vc"
      have u := up_in p i b b0 b1
      refine v_ixT' ha (getI p h1 u.1 u.2) ?_
      walk_at "vc"
      refine ⟨rfl, ⟨some (.int i), by rw [up_succ]; rfl⟩, fun k hk => ?_⟩
      by_cases e : k = i
      · rw [e]; exact h1
      · exact nz k (by omega)
  · rintro σ' H' ⟨rfl, ⟨v, rfl⟩, nz⟩
    walk_at "vc"
    rw [leads_false fun k hk => nz k (by omega)] at q
    exact q
end

section
variable {K : PySem.W.Frag} {H : Hp} {Q : VK} {E : XK} {vs : List V} {cBadTree cTree : Addr}
theorem badAt_int {xs : List V} {k : Nat} {i : Int} (hx : xs[k]? = some (.int i)) : badAt xs k = (!within (.int i) 0 xs.length || decide (i = k + 1)) := by
  unfold badAt
  rw [hx]
  rfl
end

section
variable {K : PySem.W.Frag} {H : Hp} {Q : VK} {E : XK} {vs : List V} {cBadTree cTree : Addr}
theorem badAt_other {xs : List V} {k : Nat} {x : V} (hx : xs[k]? = some x) (h : within x 0 xs.length = false) : badAt xs k = true := by
  unfold badAt
  rw [hx]
  cases x with
  | int i =>
    have e : decide (0 ≤ i ∧ i ≤ (xs.length : Int)) = false := h
    show (!decide (0 ≤ i ∧ i ≤ (xs.length : Int)) || decide (i = (k : Int) + 1)) = true
    rw [e]
    rfl
  | _ => rfl
end

section
variable {K : PySem.W.Frag} {H : Hp} {Q : VK} {E : XK} {vs : List V} {cBadTree cTree : Addr}
theorem pure_Tree_init (o : OwnC K cTree) (nf : NoAttr K cTree "hung") (h : spTree cBadTree cTree vs H Q E) : t_Tree_init K cBadTree E { nx := fun _ H' => Q .non H', rt := Q } (start ["self", "hung", "block"] vs) H := by
  obtain ⟨self, dx, x, r, rfl, hs, th, q0, q1⟩ := h
  unfold t_Tree_init
  rcases th with ⟨s, k, ns, rfl⟩ | ⟨a, xs, rfl, ha, hk, rfl⟩
  · walk_at "vc"
    refine v_isi k (.inr (.inr (.inl rfl))) ?_
    walk_at "vc"
    have e : isA s "tuple" = false := by cases k <;> first | rfl | exact absurd rfl ns
    rw [e]
    walk_at "vc"
    refine v_raise1 fun d nd => ?_
    exact q1 .hung rfl d _ _ (same_upd nd) upd_same rfl
  · walk_at "vc"
    refine v_isi (.tup ha) (.inr (.inr (.inl rfl))) ?_
    walk_at "vc"
    rw [show isA "tuple" "tuple" = true from rfl]
    walk_at "vc"
    have bad : (xs.length = 0 ∨ 40 < xs.length) → RaiseK cBadTree (spX1 cBadTree "part") [V.str "hung"] (wE E) [some (.ref self), some (.ref a), none] H := fun hl =>
      v_raise1 fun d nd => q1 .hung (partT_hung hl) d _ _ (same_upd nd) upd_same rfl
    refine v_ite (fun h1 => ?_) (fun h1 => ?_)
    · walk_at "vc"
      refine v_iteN (fun h2 => ?_) (fun h2 => ?_)
      · walk_at "vc"
        exact bad (by omega)
      · walk_at "vc"
        have ok : ¬ (xs.length = 0 ∨ 40 < xs.length) := by omega
        refine v_rg2 (by omega) ?_
        refine v_loop2 (fun i σ' H' => H' = H ∧ (∃ v, σ' = [some (.ref self), some (.ref a), v]) ∧ ∀ j, j < i → badAt xs j = false) ⟨rfl, ⟨none, rfl⟩, fun j hj => absurd hj (Nat.not_lt_zero _)⟩ ?_ ?_
        · rintro i σ' H' hi ⟨rfl, ⟨v, rfl⟩, g⟩
          have hi' : i < xs.length := by omega
          obtain ⟨x, hx⟩ : ∃ x, xs[i]? = some x := ⟨_, List.getElem?_eq_getElem hi'⟩
          have hat : atI xs (1 + (i : Int) - 1) = some x := at_of (j := i) (by omega) hx
          obtain ⟨s, kx⟩ := hk x (List.mem_of_getElem? hx)
          have out : badAt xs i = true → RaiseK cBadTree (spX1 cBadTree "part") [V.int (1 + (i : Int))] (wE E) [some (.ref self), some (.ref a), some (.int (1 + (i : Int)))] H' := fun b =>
            v_raise1 fun d nd => q1 (.blk (i + 1)) (partT_blk ok hi' b g) d _ _ (same_upd nd) upd_same (by show V.int (1 + (i : Int)) = V.int ((i + 1 : Nat) : Int); congr 1; omega)
          walk_at "vc"
          refine v_ixT' ha hat ?_
          walk_at "vc"
          refine ⟨x, 0, xs.length, s, rfl, kx, ?_⟩
          walk_at "vc"
          cases hw : within x 0 xs.length with
          | false =>
            walk_at "vc"
            exact out (badAt_other hx hw)
          | true =>
            walk_at "vc"
            refine v_ixT' ha hat ?_
            walk_at "vc"
            cases x with
            | int z =>
              walk_at "vc"
              refine v_ite (fun h3 => ?_) (fun h3 => ?_)
              · walk_at "vc"
                refine out ?_
                rw [badAt_int hx, hw, decide_eq_true (by omega)]
                rfl
              · walk_at "vc"
                refine ⟨rfl, ⟨_, rfl⟩, fun j hj => ?_⟩
                by_cases e : j = i
                · rw [e, badAt_int hx, hw, decide_eq_false (by omega)]
                  rfl
                · exact g j (by omega)
            | _ => exact absurd hw (by simp [within])
        · rintro σ' H' ⟨rfl, ⟨v, rfl⟩, g⟩
          have g' : ∀ j, j < xs.length → badAt xs j = false := fun j hj => g j (by omega)
          obtain ⟨en, pl, ln⟩ := good_nums g'
          have ha' : H' a = some (.tup ((nums xs).map V.int)) := by rw [← en]; exact ha
          have hlm : ((nums xs).map V.int).length = xs.length := by rw [List.length_map, ln]
          walk_at "vc"
          refine v_rg2 (by omega) ?_
          refine v_loop2 (fun i σ'' H'' => H'' = H' ∧ (∃ v, σ'' = [some (.ref self), some (.ref a), v]) ∧ ∀ j : Nat, j < i → leads (nums xs) (j + 1) = true) ⟨rfl, ⟨v, rfl⟩, fun j hj => absurd hj (Nat.not_lt_zero _)⟩ ?_ ?_
          · rintro i σ'' H'' hi ⟨rfl, ⟨v, rfl⟩, l⟩
            walk_at "vc"
            refine ⟨a, nums xs, 1 + (i : Int), rfl, ha', pl, by omega, by omega, by omega, ?_⟩
            walk_at "vc"
            cases hb : leads (nums xs) (1 + (i : Int)) with
            | false =>
              walk_at "vc"
              intro t nt
              walk_at "vc"
              refine v_raise1 fun d nd => ?_
              have s1 : Same H'' (upd H'' t (.tup [.str "ring", .int (1 + (i : Int))])) := same_upd nt
              have s2 := same_upd (o := HO.xd [("part", V.ref t)]) nd
              refine q1 (.ring (i + 1)) (partT_ring ok g' (by omega) (by rw [← hb]; congr 1; omega) l) d _ _ (s1.trans s2) upd_same ⟨t, rfl, ?_⟩
              rw [show ((i + 1 : Nat) : Int) = 1 + (i : Int) by omega]
              exact s2 _ _ upd_same
            | true =>
              walk_at "vc"
              refine ⟨rfl, ⟨_, rfl⟩, fun j hj => ?_⟩
              by_cases e : j = i
              · rw [e, ← hb]
                congr 1
                omega
              · exact l j (by omega)
          · rintro σ'' H'' ⟨rfl, ⟨v, rfl⟩, l⟩
            walk_at "vc"
            refine v_stK o nf hs (by show (0 : Nat) < 1000; decide) ?_
            exact q0 (partT_none ok g' fun j hj => l j (by omega))
    · walk_at "vc"
      walk_at "vc"
      exact bad (by omega)
end

section
variable {K : PySem.W.Frag} {H : Hp} {Q : VK} {E : XK} {vs : List V}
theorem v_lenE {a : Addr} {xs : List V} (h : SqL K H a xs ∨ SqT K H a xs) (q : Q (.int xs.length) H) : xLen K [.ref a] H Q := ⟨a, xs, rfl, h, q⟩
end

section
variable {K : PySem.W.Frag} {H : Hp} {Q : VK} {E : XK} {vs : List V}
theorem v_ixE {a : Addr} {xs : List V} {n : Int} {v : V} (h : SqL K H a xs ∨ SqT K H a xs) (ha : atI xs n = some v) (q : Q v H) : rIx K (.ref a) (.int n) H Q := by
  rcases h with h | h
  · exact .inl ⟨a, xs, n, v, rfl, rfl, h, ha, q⟩
  · exact .inr (.inl ⟨a, xs, n, v, rfl, rfl, h, ha, q⟩)
end

section
variable {K : PySem.W.Frag} {H : Hp} {Q : VK} {E : XK} {vs : List V}
theorem pure_l_is {d : Nat} (h : spIsN (d + 1) vs H Q E) : t_l_is K d { nx := fun _ H' => Q .non H', rt := Q } (start ["_law_told", "_law_due", "_law_at", "_law_key"] vs) H := by
  obtain ⟨x, y, rfl, al, q⟩ := h
  unfold t_l_is
  have key : (Scal x ∧ x = y) ∨ ∃ (e : Nat) (a b : Addr) (xs ys : List V) (s : String), d = e + 1 ∧ x = .ref a ∧ y = .ref b ∧ Kind H x s ∧ Kind H y s ∧ (s = "tuple" ∨ s = "list") ∧ (∀ H', Same H H' → (SqL K H' a xs ∨ SqT K H' a xs) ∧ (SqL K H' b ys ∨ SqT K H' b ys)) ∧ xs.length ≤ 1000 ∧
      xs.length = ys.length ∧ ∀ (i : Nat) (u v : V), xs[i]? = some u → ys[i]? = some v → Alike e H u v := by
    cases d with
    | zero => exact .inl al
    | succ e =>
      rcases al with al | ⟨a, b, xs, ys, rfl, rfl, ⟨h1, h2⟩ | ⟨h1, h2⟩, hl, he, hi⟩
      · exact .inl al
      · exact .inr ⟨e, a, b, xs, ys, "tuple", rfl, rfl, rfl, .tup h1, .tup h2, .inl rfl, fun H' s => ⟨.inr (SqT.of (s _ _ h1)), .inr (SqT.of (s _ _ h2))⟩, hl, he, hi⟩
      · exact .inr ⟨e, a, b, xs, ys, "list", rfl, rfl, rfl, .lst h1, .lst h2, .inr rfl, fun H' s => ⟨.inl (SqL.of (s _ _ h1)), .inl (SqL.of (s _ _ h2))⟩, hl, he, hi⟩
  rcases key with ⟨sc, rfl⟩ | ⟨e, a, b, xs, ys, s, rfl, rfl, rfl, kx, ky, hs, hsq, hl, he, hi⟩
  · obtain ⟨s, k, hs⟩ : ∃ s, Kind H x s ∧ (isA s "tuple" || isA s "list") = false ∧ isA s "dict" = false ∧ scal x x = true := by
      cases x with
      | non => exact ⟨_, .non, rfl, rfl, rfl⟩
      | bl b => exact ⟨_, .bl b, rfl, rfl, rfl⟩
      | int b => exact ⟨_, .int b, rfl, rfl, rfl⟩
      | str b => exact ⟨_, .str b, rfl, rfl, rfl⟩
      | _ => exact sc.elim
    walk_at "vc"
    intro tp ntp
    have s1 := same_upd (o := HO.tup [.ty "tuple", .ty "list"]) ntp
    have k1 := k.same s1
    walk_at "vc"
    refine v_isiT k1 upd_same (.inr (.inr (.inl rfl))) (.inr (.inr (.inr (.inl rfl)))) ?_
    rw [hs.1]
    walk_at "vc"
    refine v_isi k1 (.inr (.inr (.inr (.inr rfl)))) ?_
    rw [hs.2.1]
    walk_at "vc"
    refine v_ite (fun h1 => ?_) (fun h1 => ?_)
    · walk_at "vc"
      rw [decide_eq_true h1]
      exact q _ s1
    · walk_at "vc"
      refine v_isi k1 (.inr (.inl rfl)) ?_
      walk_at "vc"
      refine v_isi k1 (.inr (.inl rfl)) ?_
      walk_at "vc"
      refine v_ite (fun _ => ?_) (fun z => absurd rfl z)
      walk_at "vc"
      refine v_iteN (fun _ => ?_) (fun z => absurd z h1)
      walk_at "vc"
      refine ⟨hs.2.2, ?_⟩
      rw [decide_eq_true rfl]
      exact q _ s1
  · walk_at "vc"
    intro tp ntp
    have s1 := same_upd (o := HO.tup [.ty "tuple", .ty "list"]) ntp
    have kx1 := kx.same s1
    have ky1 := ky.same s1
    have h1 := hsq _ s1
    walk_at "vc"
    refine v_isiT ky1 upd_same (.inr (.inr (.inl rfl))) (.inr (.inr (.inr (.inl rfl)))) ?_
    rw [show (isA s "tuple" || isA s "list") = true by rcases hs with rfl | rfl <;> rfl]
    walk_at "vc"
    refine v_isi kx1 (.inr (.inr (.inl rfl))) ?_
    walk_at "vc"
    refine v_isi ky1 (.inr (.inr (.inl rfl))) ?_
    walk_at "vc"
    refine v_iteN (fun z => absurd rfl z) (fun _ => ?_)
    walk_at "vc"
    refine v_isi kx1 (.inr (.inr (.inr (.inl rfl)))) ?_
    walk_at "vc"
    refine v_isi ky1 (.inr (.inr (.inr (.inl rfl)))) ?_
    walk_at "vc"
    refine v_iteN (fun z => absurd rfl z) (fun _ => ?_)
    walk_at "vc"
    refine v_lenE h1.1 ?_
    walk_at "vc"
    refine v_lenE h1.2 ?_
    walk_at "vc"
    refine v_ite (fun _ => ?_) (fun z => absurd (by rw [he]) z)
    walk_at "vc"
    refine v_lenE h1.2 ?_
    walk_at "vc"
    refine v_rg1 (by omega) ?_
    refine v_lc0 (fun A i H' => H' A = some (.lst ((List.replicate i true).map V.bl)) ∧ Same H H') (fun A nA => ⟨upd_same, s1.trans (same_upd nA)⟩) ?_ ?_
    · rintro A i H' nA hi' ⟨hA, s2⟩
      have hx : i < xs.length := by omega
      have hy : i < ys.length := by omega
      have h2 := hsq _ s2
      refine v_turn rfl ?_
      walk_at "vc"
      refine v_ixE h2.1 (at_of (j := i) rfl (List.getElem?_eq_getElem hx)) ?_
      walk_at "vc"
      refine v_ixE h2.2 (at_of (j := i) rfl (List.getElem?_eq_getElem hy)) ?_
      walk_at "vc"
      refine ⟨_, _, rfl, (hi i _ _ (List.getElem?_eq_getElem hx) (List.getElem?_eq_getElem hy)).same s2, fun H3 s3 => ?_⟩
      refine ⟨_, s3 _ _ hA, by rw [List.length_map, List.length_replicate]; exact small1000 (by omega), ?_, ?_⟩
      · rw [upd_same, List.replicate_succ', List.map_append]
        rfl
      · intro c o hc
        have nc : c ≠ A := ne_of_none (s1 _ _ hc) nA
        rw [upd_ne nc]
        exact s3 _ _ (s2 _ _ hc)
    · rintro A H' nA ⟨hA, s2⟩
      refine ⟨A, _, rfl, SqL.of hA, ?_⟩
      rw [show (List.replicate ((ys.length : Int)).toNat true).all id = true by simp]
      exact q _ s2
end

theorem nodup_at {l : List Int} (h : l.Nodup) {i j : Nat} {x : Int} (a : l[i]? = some x) (b : l[j]? = some x) : i = j := by
  obtain ⟨h1, e1⟩ := List.getElem?_eq_some_iff.mp a
  obtain ⟨h2, e2⟩ := List.getElem?_eq_some_iff.mp b
  exact (List.getElem_inj h).mp (e1.trans e2.symm)

theorem cover {n : Nat} {ms : List Int} (lm : ms.length = n) (nd : ms.Nodup) (rg : ∀ m ∈ ms, 1 ≤ m ∧ m ≤ n) {b : Int} (b0 : 1 ≤ b) (b1 : b ≤ n) : ∃ j : Nat, ms[j]? = some b := by
  by_cases hb : b ∈ ms
  · exact List.mem_iff_getElem?.mp hb
  · exfalso
    have nd2 : (b :: ms).Nodup := List.nodup_cons.mpr ⟨hb, nd⟩
    have rg2 : ∀ m ∈ b :: ms, 1 ≤ m ∧ m ≤ n := fun m hm => by
      rcases List.mem_cons.mp hm with e | hm
      · rw [e]; exact ⟨b0, b1⟩
      · exact rg m hm
    have at2 : ∀ k, k ≤ n → ∃ x, (b :: ms)[k]? = some x := fun k hk => ⟨_, List.getElem?_eq_getElem (by rw [List.length_cons]; omega)⟩
    obtain ⟨i, j, hij, hj, g⟩ := pigeon n (fun k => ((b :: ms).getD k 0).toNat - 1) fun k hk => by
      obtain ⟨x, hx⟩ := at2 k hk
      have := rg2 x (List.mem_of_getElem? hx)
      show ((b :: ms).getD k 0).toNat - 1 < n
      rw [List.getD_eq_getElem?_getD, hx]
      show x.toNat - 1 < n
      omega
    obtain ⟨x, hx⟩ := at2 i (by omega)
    obtain ⟨y, hy⟩ := at2 j hj
    have hx' := rg2 x (List.mem_of_getElem? hx)
    have hy' := rg2 y (List.mem_of_getElem? hy)
    have g' : ((b :: ms).getD i 0).toNat - 1 = ((b :: ms).getD j 0).toNat - 1 := g
    rw [List.getD_eq_getElem?_getD, hx, List.getD_eq_getElem?_getD, hy] at g'
    have g2 : x.toNat - 1 = y.toNat - 1 := g'
    have e : x = y := by omega
    rw [e] at hx
    exact absurd (nodup_at nd2 hx hy) (by omega)

theorem tree_of_order {n : Nat} {ms fs : List Int} (lm : ms.length = n) (nd : ms.Nodup) (rg : ∀ m ∈ ms, 1 ≤ m ∧ m ≤ n) (lf : fs.length = n) (h1 : 1 ≤ n) (h40 : n ≤ 40) (pl : ∀ h ∈ fs, 0 ≤ h ∧ h ≤ n)
    (inv : ∀ (j : Nat) (x : Int), 1 ≤ j → j ≤ n → (0 :: ms)[j]? = some x → ∃ (a : Nat) (y : Int), a < j ∧ (0 :: ms)[a]? = some y ∧ fs[(x - 1).toNat]? = some y) : IsTree fs := by
  have nd0 : (0 :: ms).Nodup := List.nodup_cons.mpr ⟨fun h => absurd (rg 0 h).1 (by decide), nd⟩
  have block : ∀ k : Nat, k < n → ∃ j : Nat, 1 ≤ j ∧ j ≤ n ∧ (0 :: ms)[j]? = some ((k : Int) + 1) := fun k hk => by
    obtain ⟨j, hj⟩ := cover lm nd rg (b := (k : Int) + 1) (by omega) (by omega)
    refine ⟨j + 1, by omega, ?_, by rw [List.getElem?_cons_succ]; exact hj⟩
    have := (List.getElem?_eq_some_iff.mp hj).1
    omega
  have home : ∀ (m j : Nat) (x : Int), j ≤ m → j ≤ n → (0 :: ms)[j]? = some x → ∃ k, k ≤ j ∧ up fs k x = 0 := by
    intro m
    induction m with
    | zero =>
      intro j x hj _ hx
      have e : j = 0 := by omega
      subst e
      exact ⟨0, Nat.le_refl _, (Option.some.inj hx).symm⟩
    | succ m ih =>
      intro j x hj hn hx
      by_cases j0 : j = 0
      · subst j0
        exact ⟨0, Nat.le_refl _, (Option.some.inj hx).symm⟩
      · obtain ⟨a, y, ha, hy, hf⟩ := inv j x (by omega) hn hx
        obtain ⟨k, hk, hu⟩ := ih a y (by omega) (by omega) hy
        have xp : 1 ≤ x := by
          obtain ⟨i, e⟩ : ∃ i, j = i + 1 := ⟨j - 1, by omega⟩
          rw [e, List.getElem?_cons_succ] at hx
          exact (rg x (List.mem_of_getElem? hx)).1
        refine ⟨k + 1, by omega, ?_⟩
        show up fs k (stp fs x) = 0
        have e : stp fs x = y := by
          unfold stp
          rw [if_neg (by omega), List.getD_eq_getElem?_getD, show x.toNat - 1 = (x - 1).toNat by omega, hf]
          rfl
        rw [e]
        exact hu
  refine ⟨by omega, by omega, fun h hh => by rw [lf]; exact pl h hh, fun k h hk => ?_, fun b hb => ?_⟩
  · have hk' : k < n := by rw [← lf]; exact (List.getElem?_eq_some_iff.mp hk).1
    obtain ⟨j, hj1, hjn, hj⟩ := block k hk'
    obtain ⟨a, y, ha, hy, hf⟩ := inv j _ hj1 hjn hj
    rw [show (((k : Int) + 1) - 1).toNat = k by omega, hk] at hf
    have e := Option.some.inj hf
    intro z
    rw [← e, z] at hy
    exact absurd (nodup_at nd0 hy hj) (by omega)
  · obtain ⟨j, hj1, hjn, hj⟩ := block b (by omega)
    obtain ⟨k, hk, hu⟩ := home j j _ (Nat.le_refl _) hjn hj
    exact leads_true (k := k) (by omega) hu

section
variable {K : PySem.W.Frag} {H : Hp} {Q : VK} {E : XK} {vs : List V}
theorem pure_l_many (h : spMany vs H Q E) : t_l_many K { nx := fun _ H' => Q .non H', rt := Q } (start ["_law_pool_here"] vs) H := by
  obtain ⟨p, rfl, hp, q⟩ := h
  unfold t_l_many
  walk_at "vc"
  refine ⟨p, 8, rfl, hp, by decide, by decide, fun d H1 d0 d1 hp1 m1 => ?_⟩
  walk_at "vc"
  have fin : ∀ c : Int, 1 ≤ c → c ≤ 40 → spDraw ([.ref p, .int c] ++ []) H1 (fun x H2 => xAdd (.int 1) x H2 Q) E0 := fun c c0 c1 => by
    refine ⟨p, c, rfl, hp1, c0, by omega, fun e H2 e0 e1 hp2 m2 => ?_⟩
    walk_at "vc"
    have := q (1 + e).toNat H2 hp2 (m1.trans m2) (by omega) (by omega)
    rw [show (((1 + e).toNat : Nat) : Int) = 1 + e by omega] at this
    exact this
  refine v_ite (fun h1 => ?_) (fun h1 => ?_)
  · walk_at "vc"
    exact fin 40 (by decide) (by decide)
  · walk_at "vc"
    exact fin 9 (by decide) (by decide)
end

theorem map_erase : ∀ (l : List Int) (i : Nat), (l.map V.int).eraseIdx i = (l.eraseIdx i).map V.int
  | [], _ => rfl
  | _ :: _, 0 => rfl
  | a :: l, i + 1 => by
    show V.int a :: (l.map V.int).eraseIdx i = V.int a :: (l.eraseIdx i).map V.int
    rw [map_erase l i]

theorem perm_erase : ∀ (l : List Int) (i : Nat) (h : i < l.length), (l[i] :: l.eraseIdx i).Perm l
  | [], _, h => absurd h (Nat.not_lt_zero _)
  | _ :: _, 0, _ => List.Perm.refl _
  | a :: l, i + 1, h => by
    have ih := perm_erase l i (Nat.lt_of_succ_lt_succ h)
    show (l[i]'(Nat.lt_of_succ_lt_succ h) :: a :: l.eraseIdx i).Perm (a :: l)
    exact (List.Perm.swap _ _ _).trans (List.Perm.cons a ih)

section
variable {K : PySem.W.Frag} {H : Hp} {Q : VK} {E : XK} {vs : List V}
theorem pure_l_mixed (h : spMixed vs H Q E) : t_l_mixed K { nx := fun _ H' => Q .non H', rt := Q } (start ["_law_pool_here", "_law_many_here", "_law_left", "_law_turn"] vs) H := by
  obtain ⟨p, n, rfl, hp, h1, h2, q⟩ := h
  unfold t_l_mixed
  walk_at "vc"
  refine v_lrg (by omega) fun l nl => ?_
  have hpl := hp.upd (o := .lst (rgV 1 ((n : Int) + 1))) nl
  have fl : Af _ p l _ := Af.upd (o := .lst (rgV 1 ((n : Int) + 1))) hp nl
  have ml := Mo.upd (o := .lst (rgV 1 ((n : Int) + 1))) hp nl
  have sl := same_upd (o := .lst (rgV 1 ((n : Int) + 1))) nl
  generalize upd H l (.lst (rgV 1 ((n : Int) + 1))) = H1 at *
  rw [rgV_map] at fl
  have el : (((n : Int) + 1) - 1).toNat = n := by omega
  rw [el] at fl
  generalize hnum : ((List.range n).map fun k => (1 : Int) + ((k : Nat) : Int)) = num at *
  have lnum : num.length = n := by rw [← hnum, List.length_map, List.length_range]
  have nnum : num.Nodup := by
    rw [← hnum]
    refine List.Pairwise.map _ ?_ List.nodup_range
    intro a b hab z
    have z' : (1 : Int) + (a : Int) = 1 + (b : Int) := z
    exact hab (by omega)
  have rnum : ∀ m ∈ num, 1 ≤ m ∧ m ≤ n := fun m hm => by
    rw [← hnum] at hm
    obtain ⟨k, hk, rfl⟩ := List.mem_map.mp hm
    have := List.mem_range.mp hk
    omega
  walk_at "vc"
  refine v_rg1 (by omega) ?_
  refine v_lc0 (fun A i H' => ∃ acc left : List Int, Pool H' p ∧ Mo p H H' ∧ Af H' p A (.lst (acc.map V.int)) ∧ Af H' p l (.lst (left.map V.int)) ∧ A ≠ l ∧ acc.length = i ∧ left.length + i = n ∧ (acc ++ left).Perm num)
    (fun A nA => ⟨[], num, hpl.upd nA, ml.trans (Mo.upd hpl nA), Af.upd hpl nA, Af.keep hpl nA fl, (ne_of_none fl.1 nA).symm, rfl, by rw [lnum]; rfl, List.Perm.refl _⟩) ?_ ?_
  · rintro A i H' nA hi ⟨acc, left, hp', m', fA, fL, ne, la, ll, pm⟩
    refine v_turn rfl ?_
    walk_at "vc"
    refine v_bmL fL.1 ?_
    walk_at "vc"
    refine v_lenL (SqL.of fL.1) ?_
    walk_at "vc"
    rw [List.length_map]
    refine ⟨p, left.length, rfl, hp', by omega, by omega, fun d H2 d0 d1 hp2 m2 => ?_⟩
    walk_at "vc"
    have fA2 := m2 _ _ fA
    have fL2 := m2 _ _ fL
    have hd : d.toNat < left.length := by omega
    refine v_popAt fL2.1 d0 (by rw [List.length_map]; exact d1) (by rw [List.length_map]; omega) (y := .int left[d.toNat]) (by rw [List.getElem?_map, List.getElem?_eq_getElem hd]; rfl) ?_
    have fA3 := Af.mut (o' := .lst ((left.map V.int).eraseIdx d.toNat)) hp2 fL2 fA2 ne
    have fL3 := Af.self (o' := .lst ((left.map V.int).eraseIdx d.toNat)) hp2 fL2
    have hp3 := hp2.mut (o' := .lst ((left.map V.int).eraseIdx d.toNat)) fL2
    have m3 := Mo.mut (o' := .lst ((left.map V.int).eraseIdx d.toNat)) (m'.trans m2) hp2 nl fL2
    generalize upd H2 l (.lst ((left.map V.int).eraseIdx d.toNat)) = H3 at *
    refine ⟨_, fA3.1, by rw [List.length_map]; exact small1000 (by omega), acc ++ [left[d.toNat]], left.eraseIdx d.toNat, hp3.mut fA3, ?_, ?_, ?_, ne, ?_, ?_, ?_⟩
    · have nA0 : H A = none := sl.free nA
      exact Mo.mut m3 hp3 nA0 fA3
    · rw [List.map_append]
      exact Af.self hp3 fA3
    · rw [← map_erase]
      exact Af.mut hp3 fA3 fL3 ne.symm
    · rw [List.length_append, la]
      rfl
    · rw [List.length_eraseIdx_of_lt hd]
      omega
    · refine List.Perm.trans ?_ pm
      rw [List.append_assoc]
      exact List.Perm.append_left _ (perm_erase left d.toNat hd)
  · rintro A H' nA ⟨acc, left, hp', m', fA, fL, ne, la, ll, pm⟩
    have e0 : left = [] := List.eq_nil_of_length_eq_zero (by omega)
    rw [e0, List.append_nil] at pm
    refine q A acc H' hp' m' (sl.free nA) fA (by omega) (pm.nodup_iff.mpr nnum) fun m hm => ?_
    exact rnum m (pm.mem_iff.mp hm)
end

section
variable {K : PySem.W.Frag} {H : Hp} {Q : VK} {E : XK} {vs : List V}
theorem rep_map (n : Nat) (x : Int) : List.replicate n (V.int x) = (List.replicate n x).map V.int := by rw [List.map_replicate]
end

section
variable {K : PySem.W.Frag} {H : Hp} {Q : VK} {E : XK} {vs : List V}
theorem pure_l_hung (h : spHung vs H Q E) : t_l_hung K { nx := fun _ H' => Q .non H', rt := Q } (start ["_law_pool_here", "_law_many_here", "_law_kind", "_law_order", "_law_found", "_law_at", "_law_above"] vs) H := by
  obtain ⟨p, n, rfl, hp, h1, h2, q⟩ := h
  unfold t_l_hung
  walk_at "vc"
  refine ⟨p, 4, rfl, hp, by decide, by decide, fun kd H1 k0 k1 hp1 m1 => ?_⟩
  walk_at "vc"
  intro l nl
  walk_at "vc"
  refine ⟨p, n, rfl, hp1.upd nl, h1, by omega, fun b ms H2 hp2 m2 nb hb lm nd rg => ?_⟩
  have hl := m2 _ _ (Af.upd hp1 nl)
  have m12 := m1.trans ((Mo.upd hp1 nl).trans m2)
  refine v_cat hl.1 hb.1 (by rw [List.length_map]; show 1 + ms.length ≤ 1000; omega) fun o no => ?_
  have hp3 := hp2.upd (o := .lst ([V.int 0] ++ ms.map V.int)) no
  have fo : Af _ p o (.lst ((0 :: ms).map V.int)) := Af.upd (o := .lst ([V.int 0] ++ ms.map V.int)) hp2 no
  have m3 := m12.trans (Mo.upd (o := .lst ([V.int 0] ++ ms.map V.int)) hp2 no)
  generalize upd H2 o (.lst ([V.int 0] ++ ms.map V.int)) = H3 at *
  walk_at "vc"
  intro l2 nl2
  walk_at "vc"
  refine v_rep upd_same (by omega) (by show 1 ≤ 1000; decide) fun f nf => ?_
  have hp4 := hp3.upd (o := .lst [V.int 0]) nl2
  have fo4 := Af.keep (u := .lst [V.int 0]) hp3 nl2 fo
  have m4 := m3.trans (Mo.upd (o := .lst [V.int 0]) hp3 nl2)
  generalize upd H3 l2 (.lst [V.int 0]) = H4 at *
  rw [flat_one, rep_map, show ((n : Int)).toNat = n by omega]
  have hp5 := hp4.upd (o := .lst ((List.replicate n (0 : Int)).map V.int)) nf
  have fo5 := Af.keep (u := .lst ((List.replicate n (0 : Int)).map V.int)) hp4 nf fo4
  have ff5 : Af _ p f _ := Af.upd (o := .lst ((List.replicate n (0 : Int)).map V.int)) hp4 nf
  have m5 := m4.trans (Mo.upd (o := .lst ((List.replicate n (0 : Int)).map V.int)) hp4 nf)
  have nof : o ≠ f := ne_of_none fo4.1 nf
  have nf0 : H f = none := m4.free f nf
  generalize upd H4 f (.lst ((List.replicate n (0 : Int)).map V.int)) = H5 at *
  have rg0 : ∀ (j : Nat) (x : Int), (0 :: ms)[j]? = some x → 0 ≤ x ∧ x ≤ n := fun j x hx => by
    rcases List.mem_cons.mp (List.mem_of_getElem? hx) with e | hm
    · rw [e]; omega
    · have := rg x hm; omega
  have nd0 : (0 :: ms).Nodup := List.nodup_cons.mpr ⟨fun h => absurd (rg 0 h).1 (by decide), nd⟩
  walk_at "vc"
  refine v_rg2 (by omega) ?_
  refine v_loop2 (fun i σ' H' => ∃ (fs : List Int) (v5 v6 : Option V), σ' = [some (.ref p), some (.int n), some (.int kd), some (.ref o), some (.ref f), v5, v6] ∧ Pool H' p ∧ Mo p H H' ∧ Af H' p o (.lst ((0 :: ms).map V.int)) ∧ Af H' p f (.lst (fs.map V.int)) ∧ fs.length = n ∧ (∀ h ∈ fs, 0 ≤ h ∧ h ≤ n) ∧
      ∀ (j : Nat) (x : Int), 1 ≤ j → j ≤ i → (0 :: ms)[j]? = some x → ∃ (a : Nat) (y : Int), a < j ∧ (0 :: ms)[a]? = some y ∧ fs[(x - 1).toNat]? = some y)
    ⟨List.replicate n 0, none, none, rfl, hp5, m5, fo5, ff5, List.length_replicate, fun h hh => by rw [List.eq_of_mem_replicate hh]; omega, fun j x a b => absurd (Nat.le_trans a b) (by decide)⟩ ?_ ?_
  · rintro i σ' H' hi ⟨fs, v5, v6, rfl, hp', m', fo', ff, lf, pl, inv⟩
    walk_at "vc"
    refine ⟨p, 1 + (i : Int), rfl, hp', by omega, by omega, fun ab H6 a0 a1 hp6 m6 => ?_⟩
    walk_at "vc"
    refine v_cut (fun σ' H'' => ∃ ab : Int, σ' = [some (.ref p), some (.int n), some (.int kd), some (.ref o), some (.ref f), some (.int (1 + (i : Int))), some (.int ab)] ∧ 0 ≤ ab ∧ ab < 1 + (i : Int) ∧ Pool H'' p ∧ Mo p H' H'') ?_ ?_
    · walk_at "vc"
      refine v_ite (fun c1 => ?_) (fun c1 => ?_)
      · walk_at "vc"
        exact ⟨_, rfl, by omega, by omega, hp6, m6⟩
      · walk_at "vc"
        refine v_ite (fun c2 => ?_) (fun c2 => ?_)
        · walk_at "vc"
          refine ⟨p, 3, rfl, hp6, by decide, by decide, fun z H7 z0 z1 hp7 m7 => ?_⟩
          walk_at "vc"
          refine v_ite (fun c3 => ?_) (fun c3 => ?_)
          · walk_at "vc"
            exact ⟨_, rfl, by omega, by omega, hp7, m6.trans m7⟩
          · walk_at "vc"
            exact ⟨_, rfl, a0, a1, hp7, m6.trans m7⟩
        · walk_at "vc"
          exact ⟨_, rfl, a0, a1, hp6, m6⟩
    · rintro σ' H7 ⟨ab, rfl, a0, a1, hp7, m7⟩
      refine v_cut (fun σ' H'' => ∃ ab : Int, σ' = [some (.ref p), some (.int n), some (.int kd), some (.ref o), some (.ref f), some (.int (1 + (i : Int))), some (.int ab)] ∧ 0 ≤ ab ∧ ab < 1 + (i : Int) ∧ Pool H'' p ∧ Mo p H' H'') ?_ ?_
      · walk_at "vc"
        refine v_ite (fun c2 => ?_) (fun c2 => ?_)
        · walk_at "vc"
          refine ⟨p, 2, rfl, hp7, by decide, by decide, fun z H8 z0 z1 hp8 m8 => ?_⟩
          walk_at "vc"
          refine v_ite (fun c3 => ?_) (fun c3 => ?_)
          · walk_at "vc"
            exact ⟨_, rfl, by omega, by omega, hp8, m7.trans m8⟩
          · walk_at "vc"
            exact ⟨_, rfl, a0, a1, hp8, m7.trans m8⟩
        · walk_at "vc"
          exact ⟨_, rfl, a0, a1, hp7, m7⟩
      · rintro σ' H8 ⟨ab, rfl, a0, a1, hp8, m8⟩
        have fo8 := m8 _ _ fo'
        have ff8 := m8 _ _ ff
        have la : ab.toNat < (0 :: ms).length := by rw [List.length_cons]; omega
        have li : i + 1 < (0 :: ms).length := by rw [List.length_cons]; omega
        obtain ⟨y, hy⟩ : ∃ y, (0 :: ms)[ab.toNat]? = some y := ⟨_, List.getElem?_eq_getElem la⟩
        obtain ⟨x, hx⟩ : ∃ x, (0 :: ms)[i + 1]? = some x := ⟨_, List.getElem?_eq_getElem li⟩
        have hxp : 1 ≤ x ∧ x ≤ n := by
          rw [List.getElem?_cons_succ] at hx
          exact rg x (List.mem_of_getElem? hx)
        walk_at "vc"
        refine v_ixL (SqL.of fo8.1) (at_of (j := ab.toNat) (by omega) (by rw [List.getElem?_map, hy]; rfl)) ?_
        walk_at "vc"
        refine v_ixL (SqL.of fo8.1) (at_of (j := i + 1) (by omega) (by rw [List.getElem?_map, hx]; rfl)) ?_
        walk_at "vc"
        refine v_setL ff8.1 (ixN_of (j := (x - 1).toNat) (by omega) (by rw [List.length_map]; omega)) ?_
        rw [← List.map_set]
        refine ⟨fs.set (x - 1).toNat y, _, _, rfl, hp8.mut ff8, Mo.mut (m'.trans m8) hp8 nf0 ff8, Af.mut hp8 ff8 fo8 nof, Af.self hp8 ff8, by rw [List.length_set]; exact lf, fun h hh => ?_, fun j x' j1 ji hx' => ?_⟩
        · rcases List.mem_or_eq_of_mem_set hh with hh | e
          · exact pl h hh
          · rw [e]
            exact rg0 _ _ hy
        · by_cases e : j = i + 1
          · rw [e, hx] at hx'
            have ex := Option.some.inj hx'
            refine ⟨ab.toNat, y, by omega, hy, ?_⟩
            rw [← ex, List.getElem?_set_self (by omega)]
          · obtain ⟨a, y', ha, hya, hf⟩ := inv j x' j1 (by omega) hx'
            refine ⟨a, y', ha, hya, ?_⟩
            have ne : x' ≠ x := fun z => by
              rw [z] at hx'
              exact e (nodup_at nd0 hx' hx)
            have xp : 1 ≤ x' := by
              obtain ⟨k, ek⟩ : ∃ k, j = k + 1 := ⟨j - 1, by omega⟩
              rw [ek, List.getElem?_cons_succ] at hx'
              exact (rg x' (List.mem_of_getElem? hx')).1
            rw [List.getElem?_set_ne (by omega)]
            exact hf
  · rintro σ' H' ⟨fs, v5, v6, rfl, hp', m', fo', ff, lf, pl, inv⟩
    walk_at "vc"
    refine v_tupOfL ff.1 fun t nt => ?_
    refine q t fs _ (hp'.upd nt) (m'.trans (Mo.upd hp' nt)) (Af.upd hp' nt) lf ?_
    exact tree_of_order lm nd rg lf h1 h2 pl fun j x j1 jn hx => inv j x j1 (by omega) hx
end

theorem badAt_int' {xs : List V} {k : Nat} {i : Int} (hx : xs[k]? = some (.int i)) : badAt xs k = (!within (.int i) 0 xs.length || decide (i = k + 1)) := by
  unfold badAt
  rw [hx]
  rfl

theorem badAt_other' {xs : List V} {k : Nat} {x : V} (hx : xs[k]? = some x) (h : within x 0 xs.length = false) : badAt xs k = true := by
  unfold badAt
  rw [hx]
  cases x with
  | int i =>
    have e : decide (0 ≤ i ∧ i ≤ (xs.length : Int)) = false := h
    show (!decide (0 ≤ i ∧ i ≤ (xs.length : Int)) || decide (i = (k : Int) + 1)) = true
    rw [e]
    rfl
  | _ => rfl

theorem getI' {hs : List Int} {h : Int} (p : Pls hs) (h0 : h ≠ 0) (h1 : 0 ≤ h) (h2 : h ≤ hs.length) : atI (hs.map V.int) (h - 1) = some (.int (stp hs h)) := by
  have hl : h.toNat - 1 < hs.length := by omega
  refine at_of (j := h.toNat - 1) (by omega) ?_
  unfold stp
  rw [if_neg h0, List.getElem?_map, List.getD_eq_getElem?_getD, List.getElem?_eq_getElem hl]
  rfl

section
variable {K : PySem.W.Frag} {H : Hp} {Q : VK} {E : XK} {vs : List V} {cBadTree cTree cVoteError : Addr}

end

section
variable {K : PySem.W.Frag} {H : Hp} {Q : VK} {E : XK} {vs : List V} {cBadTree cTree cVoteError : Addr}
/-- what is known of the errors' classes -/
structure ErrT (K : PySem.W.Frag) (cB cV : Addr) : Prop where
  xc : XCls K cB
  te : PySem.W.exmOne K (.ref cB) (.ref cB) = some true
  kv : PySem.W.kitOne K (.ref cB) (.ref cV) = some true
end

section
variable {K : PySem.W.Frag} {H : Hp} {Q : VK} {E : XK} {vs : List V} {cBadTree cTree cVoteError : Addr}
theorem alike_ints {H : Hp} {a : Addr} {hs : List Int} (h : H a = some (.tup (hs.map V.int))) (l : hs.length ≤ 1000) : Alike 1 H (.ref a) (.ref a) :=
  .inr ⟨a, a, _, _, rfl, rfl, .inl ⟨h, h⟩, by rw [List.length_map]; exact l, rfl, fun i u v hu hv => by
    rw [hu] at hv
    cases hv
    obtain ⟨n, rfl⟩ := map_get hu
    exact ⟨trivial, rfl⟩⟩
end

section
variable {K : PySem.W.Frag} {H : Hp} {Q : VK} {E : XK} {vs : List V} {cBadTree cTree : Addr}

end

section
variable {K : PySem.W.Frag} {H : Hp} {Q : VK} {E : XK} {vs : List V} {cBadTree cTree : Addr}
/-- a thing of which all is known, whatever is drawn -/
def TK (H : Hp) (p : Addr) (x : V) : Prop := ((∃ s, Kind H x s ∧ s ≠ "tuple") ∧ AK H p x) ∨ ∃ a xs, x = .ref a ∧ Af H p a (.tup xs) ∧ ∀ y ∈ xs, AK H p y
end

section
variable {K : PySem.W.Frag} {H : Hp} {Q : VK} {E : XK} {vs : List V} {cBadTree cTree : Addr}
theorem AK.kindN {H H' : Hp} {p : Addr} {x : V} {s : String} (m : Mo p H H') (k : Kind H x s) (ak : AK H p x) : Kind H' x s := by
  cases k with
  | non => exact .non
  | bl b => exact .bl b
  | int i => exact .int i
  | str z => exact .str z
  | lst h =>
    rcases ak with ⟨_, f⟩ | ⟨_, f⟩ | ⟨_, f⟩
    · exact .lst (m _ _ f).1
    · rw [f.1] at h; cases h
    · rw [f.1] at h; cases h
  | tup h =>
    rcases ak with ⟨_, f⟩ | ⟨_, f⟩ | ⟨_, f⟩
    · rw [f.1] at h; cases h
    · exact .tup (m _ _ f).1
    · rw [f.1] at h; cases h
  | dK h =>
    rcases ak with ⟨_, f⟩ | ⟨_, f⟩ | ⟨_, f⟩
    · rw [f.1] at h; cases h
    · rw [f.1] at h; cases h
    · exact .dK (m _ _ f).1
end

section
variable {K : PySem.W.Frag} {H : Hp} {Q : VK} {E : XK} {vs : List V} {cBadTree cTree : Addr}
theorem TK.mo {H H' : Hp} {p : Addr} {x : V} (h : TK H p x) (m : Mo p H H') : TK H' p x := by
  rcases h with ⟨⟨s, k, n⟩, ak⟩ | ⟨a, xs, e, f, h⟩
  · exact .inl ⟨⟨s, ak.kindN m k, n⟩, ak.mo m⟩
  · exact .inr ⟨a, xs, e, m _ _ f, fun y hy => (h y hy).mo m⟩
end

section
variable {K : PySem.W.Frag} {H : Hp} {Q : VK} {E : XK} {vs : List V} {cBadTree cTree : Addr}
theorem TK.thing {H : Hp} {p : Addr} {x : V} (h : TK H p x) : ∃ r, Thing H x r := by
  rcases h with ⟨⟨s, k, n⟩, ak⟩ | ⟨a, xs, e, f, h⟩
  · exact ⟨_, .inl ⟨s, k, n, rfl⟩⟩
  · exact ⟨_, .inr ⟨a, xs, e, f.1, fun y hy => (h y hy).kind, rfl⟩⟩
end

section
variable {K : PySem.W.Frag} {H : Hp} {Q : VK} {E : XK} {vs : List V} {cBadTree cTree : Addr}
theorem AK.mut {H : Hp} {p t : Addr} {xs ys : List V} {y : V} (hp : Pool H p) (f : Af H p t (.lst xs)) (h : AK H p y) : AK (upd H t (.lst ys)) p y := by
  cases y with
  | ref b =>
    by_cases e : b = t
    · rw [e]
      exact .inl ⟨ys, Af.self hp f⟩
    · rcases h with ⟨_, h⟩ | ⟨_, h⟩ | ⟨_, h⟩
      · exact .inl ⟨_, Af.mut hp f h e⟩
      · exact .inr (.inl ⟨_, Af.mut hp f h e⟩)
      · exact .inr (.inr ⟨_, Af.mut hp f h e⟩)
  | byt b => exact h.elim
  | flt b => exact h.elim
  | ty b => exact h.elim
  | _ => trivial
end

section
variable {K : PySem.W.Frag} {H : Hp} {Q : VK} {E : XK} {vs : List V} {cBadTree cTree : Addr}
theorem enc_alike {H : Hp} {u v : V} {r : Option Part} (a : Enc H u r) (b : Enc H v r) : Alike 1 H u v := by
  cases r with
  | none => rw [a, b]; exact .inl ⟨trivial, rfl⟩
  | some r =>
    cases r with
    | hung => rw [a, b]; exact .inl ⟨trivial, rfl⟩
    | blk k => rw [a, b]; exact .inl ⟨trivial, rfl⟩
    | ring k =>
      obtain ⟨t, rfl, ht⟩ := a
      obtain ⟨s, rfl, hs⟩ := b
      refine .inr ⟨t, s, _, _, rfl, rfl, .inl ⟨ht, hs⟩, by show 2 ≤ 1000; decide, rfl, fun i x y hx hy => ?_⟩
      rw [hx] at hy
      cases hy
      match i, hx with
      | 0, hx => cases hx; exact ⟨trivial, rfl⟩
      | 1, hx => cases hx; exact ⟨trivial, rfl⟩
end

section
variable {K : PySem.W.Frag} {H : Hp} {Q : VK} {E : XK} {vs : List V} {cBadTree cTree : Addr}
theorem mk_tree {R : Addr → Hp → Prop} {hs : List Int} {h : Addr} (t : IsTree hs) (hh : H h = some (.tup (hs.map V.int))) (k : ∀ x H', Same H H' → TreeAt cTree H' (.ref x) hs → R x H') : ∀ x dx, H x = none → H dx = none → dx ≠ x →
    spTree cBadTree cTree (.ref x :: ([.ref h] ++ [])) (upd (upd H dx (.own x)) x (.ins cTree dx [])) (fun v H2 => v = .non ∧ R x H2) E0 := by
  intro s dx ns nd ne
  have s1 : Same H (upd H dx (.own s)) := same_upd nd
  have ns1 : (upd H dx (.own s)) s = none := by rw [upd_ne (fun z => ne z.symm)]; exact ns
  have th : Thing H (.ref h) none := .inr ⟨h, _, rfl, hh, fun y hy => by
    obtain ⟨i, _, rfl⟩ := List.mem_map.mp hy
    exact ⟨_, .int i⟩, t.part.symm⟩
  refine ⟨s, dx, .ref h, none, rfl, upd_same, th.same (s1.trans (same_upd ns1)), fun _ => ⟨rfl, ?_⟩, fun part e => nomatch e⟩
  rw [upd_upd]
  have s3 : Same H (upd (upd H dx (.own s)) s (.ins cTree dx [("hung", .ref h)])) := s1.trans (same_upd ns1)
  exact k _ _ s3 ⟨s, dx, h, rfl, upd_same, s3 _ _ hh⟩
end

section
variable {K : PySem.W.Frag} {H : Hp} {Q : VK} {E : XK} {vs : List V} {cBadTree cTree : Addr}
theorem TreeAt.same {H H' : Hp} {x : V} {hs : List Int} (h : TreeAt cTree H x hs) (e : Same H H') : TreeAt cTree H' x hs := by
  obtain ⟨a, dx, t, rfl, h1, h2⟩ := h
  exact ⟨a, dx, t, rfl, e _ _ h1, e _ _ h2⟩
end

section
variable {K : PySem.W.Frag} {H : Hp} {Q : VK} {E : XK} {vs : List V} {cBadTree cTree : Addr}
theorem v_eqTT (o : OwnC K cTree) {x y : V} {hs ks : List Int} (a : TreeAt cTree H x hs) (b : TreeAt cTree H y ks) (q : Q (.bl (decide (hs = ks))) H) : rEqOwn K cTree (spTreeEq cTree) E0 x y H Q := by
  obtain ⟨ax, dx, tx, rfl, h1, h2⟩ := id a
  obtain ⟨ay, dy, ty, rfl, h3, h4⟩ := id b
  exact ⟨ax, dx, _, .ref cTree, rfl, h1, o.tyx h3, by unfold PySem.W.notFirst; rw [beq_self_eq_true]; rfl, .ref ax, .ref ay, hs, rfl, a, .inl ⟨ks, b, _, rfl, q⟩⟩
end

section
variable {K : PySem.W.Frag} {H : Hp} {Q : VK} {E : XK} {vs : List V} {cBadTree cTree : Addr}
theorem v_eqTK (o : OwnC K cTree) {x y : V} {hs : List Int} {s : String} (a : TreeAt cTree H x hs) (k : Kind H y s) (q : Q (.bl false) H) : rEqOwn K cTree (spTreeEq cTree) E0 x y H Q := by
  obtain ⟨ax, dx, tx, rfl, h1, h2⟩ := id a
  exact ⟨ax, dx, _, .type s, rfl, h1, k.tyx, (o.kt s k.name).2, .ref ax, y, hs, rfl, a, .inr ⟨⟨s, k⟩, _, rfl, q⟩⟩
end

theorem within_int {x : V} {lo n : Int} (h : within x lo n = true) : ∃ b : Int, x = .int b ∧ lo ≤ b ∧ b ≤ n := by
  cases x with
  | int b =>
    have := of_decide_eq_true (p := lo ≤ b ∧ b ≤ n) h
    exact ⟨b, rfl, this⟩
  | _ => exact nomatch h

theorem within_of_int {b lo n : Int} (h : lo ≤ b ∧ b ≤ n) : within (.int b) lo n = true := decide_eq_true h

theorem same_mut {H H' : Hp} {f : Addr} {o : HO} (s : Same H H') (n : H f = none) : Same H (upd H' f o) := fun b u e => by
  rw [upd_ne (ne_of_none e n)]
  exact s _ _ e

theorem way_len (hs : List Int) : ∀ (k : Nat) (h : Int), (way hs k h).length ≤ k
  | 0, _ => Nat.le_refl _
  | k + 1, h => by
    show (if h = 0 then [] else stp hs h :: way hs k (stp hs h)).length ≤ k + 1
    split
    · exact Nat.zero_le _
    · rw [List.length_cons]
      exact Nat.succ_le_succ (way_len hs k _)

theorem cut_take {xs : List V} {k : Nat} {z : Int} (e : z = (k : Int)) (h : k ≤ xs.length) : cutV xs none (some z) = xs.take k := by
  subst e
  unfold cutV
  rw [HT.sIx_none, HT.sIx_nat, Nat.min_eq_left h]
  rfl

theorem cut_drop {xs : List V} {k : Nat} {z : Int} (e : z = (k : Int)) (h : k ≤ xs.length) : cutV xs (some z) none = xs.drop k := by
  subst e
  unfold cutV
  rw [HT.sIx_none, HT.sIx_nat, Nat.min_eq_left h]
  exact List.take_of_length_le (by rw [List.length_drop]; exact Nat.le_refl _)

section
variable {K : PySem.W.Frag} {H : Hp} {Q : VK} {E : XK} {vs : List V} {cTree cNoBlock cNoPlace : Addr}
theorem pure_check_block (h : spCheck 1 cNoBlock vs H Q E) : t_check_block K cNoBlock E { nx := fun _ H' => Q .non H', rt := Q } (start ["blocks", "thing"] vs) H := by
  obtain ⟨n, x, s, rfl, k, h1, h2⟩ := h
  unfold t_check_block
  walk_at "vc"
  refine ⟨x, 1, n, s, rfl, k, ?_⟩
  cases e : within x 1 n with
  | true => walk_at "vc"; exact h1 e
  | false => walk_at "vc"; exact h2 e
end

section
variable {K : PySem.W.Frag} {H : Hp} {Q : VK} {E : XK} {vs : List V} {cTree cNoBlock cNoPlace : Addr}
theorem pure_check_place (h : spCheck 0 cNoPlace vs H Q E) : t_check_place K cNoPlace E { nx := fun _ H' => Q .non H', rt := Q } (start ["blocks", "thing"] vs) H := by
  obtain ⟨n, x, s, rfl, k, h1, h2⟩ := h
  unfold t_check_place
  walk_at "vc"
  refine ⟨x, 0, n, s, rfl, k, ?_⟩
  cases e : within x 0 n with
  | true => walk_at "vc"; exact h1 e
  | false => walk_at "vc"; exact h2 e
end

section
variable {K : PySem.W.Frag} {H : Hp} {Q : VK} {E : XK} {vs : List V} {cTree cNoBlock cNoPlace : Addr}
theorem pure_parents_in (h : spParentsIn vs H Q E) : t_parents_in K { nx := fun _ H' => Q .non H', rt := Q } (start ["hung", "place", "found", "here"] vs) H := by
  obtain ⟨h, hs, p, rfl, hh, tr, p0, p1, q⟩ := h
  unfold t_parents_in
  walk_at "vc"
  intro f nf
  walk_at "vc"
  refine v_while (fun m σ' H' => ∃ (acc : List Int) (e : Int), σ' = [some (.ref h), some (.int p), some (.ref f), some (.int e)] ∧ H' f = some (.lst (acc.map V.int)) ∧ Same H H' ∧ acc ++ wy hs e = wy hs p ∧ 0 ≤ e ∧ e ≤ hs.length ∧ m = (wy hs e).length)
    ⟨_, [], p, rfl, upd_same, same_upd nf, rfl, p0, p1, rfl⟩ ?_
  rintro m σ' H' ⟨acc, e, rfl, hf, s1, ea, e0, e1, rfl⟩
  walk_at "vc"
  refine v_iteN (fun ne => ?_) (fun z => ?_)
  · refine v_turnW ?_
    walk_at "vc"
    refine v_ixT' (s1 _ _ hh) (getI tr.2.2.1 ne e0 e1) ?_
    walk_at "vc"
    have hl : acc.length ≤ hs.length := by
      have := congrArg List.length ea
      rw [List.length_append] at this
      have := way_len hs hs.length p
      unfold wy at *
      omega
    refine v_append hf (by rw [List.length_map]; have := tr.2.1; omega) ?_
    walk_at "vc"
    have w := wy_cons tr (h := e) (by omega) e1
    have si := stp_in tr.2.2.1 e
    refine ⟨_, ?_, acc ++ [stp hs e], stp hs e, rfl, by rw [upd_same, List.map_append]; rfl, same_mut s1 nf, ?_, si.1, si.2, rfl⟩
    · rw [w, List.length_cons]; omega
    · rw [List.append_assoc, ← ea, w]; rfl
  · subst z
    rw [wy_zero, List.append_nil] at ea
    walk_at "vc"
    exact q f H' s1 nf (by rw [← ea]; exact hf)
end

section
variable {K : PySem.W.Frag} {H : Hp} {Q : VK} {E : XK} {vs : List V} {cTree cNoBlock cNoPlace : Addr}
theorem pure_hanging (h : spHanging vs H Q E) : t_hanging K { nx := fun _ H' => Q .non H', rt := Q } (start ["hung", "place", "block"] vs) H := by
  obtain ⟨h, hs, p, rfl, hh, tr, p0, p1, q⟩ := h
  have l40 := tr.2.1
  unfold t_hanging
  walk_at "vc"
  refine v_rg2 (by rw [List.length_map]; omega) ?_
  refine v_lc2 (fun A i H' => H' A = some (.lst ((hangN hs p i).map V.int)) ∧ Same H H') (fun A nA => ⟨upd_same, same_upd nA⟩) ?_ ?_
  · rintro A i H' nA hi ⟨hA, s1⟩
    rw [List.length_map] at hi
    refine v_turn rfl ?_
    walk_at "vc"
    refine v_ixT' (s1 _ _ hh) (getI tr.2.2.1 (by omega) (by omega) (by omega)) ?_
    walk_at "vc"
    have ei : (1 : Int) + (i : Int) = (i : Int) + 1 := by omega
    rw [ei]
    refine v_ite (fun e => ?_) (fun e => ?_)
    · walk_at "vc"
      refine ⟨_, hA, ?_, ?_, same_mut s1 nA⟩
      · rw [List.length_map]
        have := hangN_len (hs := hs) (p := p) i
        exact small1000 (by omega)
      · rw [upd_same, hangN_succ, if_pos e, List.map_append]
        rfl
    · refine ⟨?_, s1⟩
      rw [hangN_succ, if_neg e, List.append_nil]
      exact hA
  · rintro A H' nA ⟨hA, s1⟩
    walk_at "vc"
    refine q A H' s1 nA ?_
    rw [List.length_map, show ((hs.length : Int) + 1 - 1).toNat = hs.length by omega] at hA
    exact hA
end

theorem mk_treeE {R : Addr → Hp → Prop} {hs : List Int} {h : Addr} {H : Hp} {cTree cBadTree : Addr} {E : XK} (t : IsTree hs) (hh : H h = some (.tup (hs.map V.int))) (k : NewT cTree H hs fun v H' => ∃ a, v = .ref a ∧ R a H') : ∀ x dx, H x = none → H dx = none → dx ≠ x →
    spTree cBadTree cTree (.ref x :: ([.ref h] ++ [])) (upd (upd H dx (.own x)) x (.ins cTree dx [])) (fun v H2 => v = .non ∧ R x H2) E := by
  intro s dx ns nd ne
  have s1 : Same H (upd H dx (.own s)) := same_upd nd
  have ns1 : (upd H dx (.own s)) s = none := by rw [upd_ne (fun z => ne z.symm)]; exact ns
  have th : Thing H (.ref h) none := .inr ⟨h, _, rfl, hh, fun y hy => by
    obtain ⟨i, _, rfl⟩ := List.mem_map.mp hy
    exact ⟨_, .int i⟩, t.part.symm⟩
  refine ⟨s, dx, .ref h, none, rfl, upd_same, th.same (s1.trans (same_upd ns1)), fun _ => ⟨rfl, ?_⟩, fun part e => nomatch e⟩
  rw [upd_upd]
  have s3 : Same H (upd (upd H dx (.own s)) s (.ins cTree dx [("hung", .ref h)])) := s1.trans (same_upd ns1)
  obtain ⟨a, e, r⟩ := k s dx h _ s3 ns upd_same (s3 _ _ hh)
  cases e
  exact r

section
variable {K : PySem.W.Frag} {H : Hp} {Q : VK} {E : XK} {vs : List V} {cTree cBadTree cNoBlock cNoPlace cBeneath : Addr}
theorem pure_beneath_in (h : spBeneathIn vs H Q E) : t_beneath_in K { nx := fun _ H' => Q .non H', rt := Q } (start ["hung", "place", "found", "waiting", "more"] vs) H := by
  obtain ⟨h, hs, p, rfl, hh, tr, p0, p1, q⟩ := h
  have l40 := tr.2.1
  unfold t_beneath_in
  walk_at "vc"
  intro f nf
  walk_at "vc"
  intro w nw
  have nfw : w ≠ f := fun z => by rw [z, upd_same] at nw; cases nw
  have nw0 : H w = none := by rw [upd_ne nfw] at nw; exact nw
  walk_at "vc"
  refine v_while (fun m σ' H' => ∃ (F W : List Int) (v4 : Option V), σ' = [some (.ref h), some (.int p), some (.ref f), some (.ref w), v4] ∧ H' f = some (.lst (F.map V.int)) ∧ H' w = some (.lst (W.map V.int)) ∧ Same H H' ∧ Dfs hs p F W ∧ m = hs.length - F.length + W.length)
    ⟨_, [], [p], none, rfl, by rw [upd_ne nfw.symm, upd_same]; rfl, upd_same, (same_upd nf).trans (same_upd nw), Dfs.start, rfl⟩ ?_
  rintro m σ' H' ⟨F, W, v4, rfl, hf, hw, s1, d, rfl⟩
  have fl := d.len
  have wl := d.wlen
  walk_at "vc"
  refine v_ite (fun c => ?_) (fun c => ?_)
  · refine v_turnW ?_
    rcases List.eq_nil_or_concat W with z | ⟨W0, x, z⟩
    · rw [z] at c
      exact absurd c (by decide)
    · rw [List.concat_eq_append] at z
      subst z
      walk_at "vc"
      refine v_pop (y := .int x) hw (by rw [List.length_map, List.length_append, List.map_append, List.getElem?_append_right (by rw [List.length_map]; exact Nat.le_of_eq rfl), List.length_map]; simp) ?_
      have ed : ((W0 ++ [x]).map V.int).dropLast = W0.map V.int := by rw [List.map_append]; exact List.dropLast_concat
      rw [ed]
      have s2 : Same H (upd H' w (.lst (W0.map V.int))) := same_mut s1 nw0
      have hf2 : (upd H' w (.lst (W0.map V.int))) f = some (.lst (F.map V.int)) := by rw [upd_ne nfw.symm]; exact hf
      have hw2 : (upd H' w (.lst (W0.map V.int))) w = some (.lst (W0.map V.int)) := upd_same
      generalize upd H' w (.lst (W0.map V.int)) = H2 at *
      walk_at "vc"
      have xin : 0 ≤ x ∧ x ≤ hs.length := by
        rcases d.wf x (List.mem_append_right _ (List.mem_singleton.mpr rfl)) with z | z
        · rw [z]; exact ⟨p0, p1⟩
        · have := (d.fb x z).1
          omega
      refine ⟨h, hs, x, rfl, s2 _ _ hh, tr, xin.1, xin.2, fun a H3 s3 na ha => ?_⟩
      have d' := d.step tr p0 p1
      have fl' := d'.len
      have wl' := d'.wlen
      rw [List.length_append] at fl' wl' wl
      have naf : f ≠ a := ne_of_none hf2 na
      have naw : w ≠ a := ne_of_none hw2 na
      have hf3 := s3 _ _ hf2
      have hw3 : (upd H3 f (.lst (F.map V.int ++ (hang hs x).map V.int))) w = some (.lst (W0.map V.int)) := by rw [upd_ne nfw]; exact s3 _ _ hw2
      walk_at "vc"
      refine v_extend hf3 ha (by rw [List.length_map, List.length_map]; omega) ?_
      walk_at "vc"
      refine v_extend (xs := W0.map V.int) (ys := (hang hs x).map V.int) hw3 (by rw [upd_ne naf.symm]; exact ha) (by rw [List.length_map, List.length_map]; omega) ?_
      walk_at "vc"
      refine ⟨_, ?_, F ++ hang hs x, W0 ++ hang hs x, _, rfl, ?_, ?_, same_mut (same_mut (s2.trans s3) nf) nw0, d', rfl⟩
      · simp only [List.length_append, List.length_cons, List.length_nil]
        omega
      · rw [upd_ne nfw.symm, upd_same, List.map_append]
      · rw [upd_same, List.map_append]
  · have ew : W = [] := by
      cases W with
      | nil => rfl
      | cons x r => exact absurd (show (0 : Int) < (((x :: r).map V.int).length : Nat) by rw [List.length_map, List.length_cons]; omega) c
    subst ew
    walk_at "vc"
    refine ⟨f, F, rfl, SqL.of hf, fun S g pm so ng => ?_⟩
    walk_at "vc"
    refine v_tupOfL upd_same fun l nl => ?_
    have s2 : Same H (upd H' g (.lst (S.map V.int))) := s1.trans (same_upd ng)
    refine q l _ (s2.trans (same_upd nl)) (s2.free nl) ?_
    rw [upd_same, Dfs.done tr d pm so]
end

section
variable {K : PySem.W.Frag} {H : Hp} {Q : VK} {E : XK} {vs : List V} {cTree cBadTree cNoBlock cNoPlace cBeneath : Addr}
theorem pure_with_place (h : spWithPlace vs H Q E) : t_with_place K { nx := fun _ H' => Q .non H', rt := Q } (start ["hung", "block", "place"] vs) H := by
  obtain ⟨h, hs, b, p, rfl, hh, l40, b0, b1, q⟩ := h
  unfold t_with_place
  walk_at "vc"
  refine v_slA hh fun a1 H1 s1 _ h1 => ?_
  rw [cut_take (k := b.toNat - 1) (by omega) (by rw [List.length_map]; omega)] at h1
  walk_at "vc"
  intro a2 n2
  have h1' := same_upd (o := .tup [.int p]) n2 _ _ h1
  refine v_catT h1' upd_same (by rw [List.length_take, List.length_map]; show _ + 1 ≤ 1000; omega) fun a3 H3 s3 _ h3 => ?_
  have s4 : Same H H3 := s1.trans ((same_upd n2).trans s3)
  walk_at "vc"
  refine v_slA (s4 _ _ hh) fun a5 H5 s5 _ h5 => ?_
  rw [cut_drop (k := b.toNat) (by omega) (by rw [List.length_map]; omega)] at h5
  refine v_catT (s5 _ _ h3) h5 (by rw [List.length_append, List.length_take, List.length_drop, List.length_map]; show _ + 1 + _ ≤ 1000; omega) fun a6 H6 s6 _ h6 => ?_
  refine q a6 H6 (s4.trans (s5.trans s6)) ?_
  rw [h6]
  unfold movL
  rw [List.set_eq_take_append_cons_drop, if_pos (by omega), List.map_append, List.map_cons, List.map_take, List.map_drop, List.append_assoc, show b.toNat - 1 + 1 = b.toNat by omega]
  rfl
end

section
variable {K : PySem.W.Frag} {H : Hp} {Q : VK} {E : XK} {vs : List V} {cTree cBadTree cNoBlock cNoPlace cBeneath : Addr}
theorem pure_moved (o : OwnC K cTree) (nf : NoAttr K cTree "hung") (h : spMoved cTree cNoBlock cNoPlace cBeneath vs H Q E) : t_moved K cBadTree cBeneath cNoBlock cNoPlace cTree E { nx := fun _ H' => Q .non H', rt := Q } (start ["tree", "block", "place"] vs) H := by
  obtain ⟨t, x, y, hs, s, r, rfl, ⟨a, dx, h0, rfl, ha, hh⟩, tr, kx, ky, e1, e2, q⟩ := h
  unfold t_moved
  walk_at "vc"
  refine v_fldK o nf ha rfl ?_
  walk_at "vc"
  refine ⟨_, x, s, rfl, kx, fun wx => ?_, fun e => e1 (by rwa [List.length_map] at e)⟩
  rw [List.length_map] at wx
  walk_at "vc"
  refine v_fldK o nf ha rfl ?_
  walk_at "vc"
  refine ⟨_, y, r, rfl, ky, fun wy' => ?_, fun e => e2 wx (by rwa [List.length_map] at e)⟩
  rw [List.length_map] at wy'
  obtain ⟨b, rfl, b0, b1⟩ := within_int wx
  obtain ⟨p, rfl, p0, p1⟩ := within_int wy'
  have qq := q b p rfl rfl b0 b1 p0 p1
  walk_at "vc"
  refine v_ite (fun e => ?_) (fun e => ?_)
  · walk_at "vc"
    exact qq.1 (.inl e) H (fun _ _ z => z)
  · walk_at "vc"
    refine v_fldK o nf ha rfl ?_
    walk_at "vc"
    refine ⟨h0, hs, b, rfl, hh, tr, by omega, b1, fun g H1 s1 ng hg => ?_⟩
    refine v_inT hg ?_
    walk_at "vc"
    refine v_ite (fun m => ?_) (fun m => ?_)
    · walk_at "vc"
      exact qq.1 (.inr ((ben_iff p0 p1).mp m)) H1 s1
    · have nb : ¬ (p = b ∨ b ∈ wy hs p) := fun z => by
        rcases z with z | z
        · exact e z
        · exact m ((ben_iff p0 p1).mpr z)
      walk_at "vc"
      refine v_fldK o nf (s1 _ _ ha) rfl ?_
      walk_at "vc"
      refine ⟨h0, hs, b, p, rfl, s1 _ _ hh, tr.2.1, b0, b1, fun w H2 s2 hw => ?_⟩
      walk_at "vc"
      have nn := not_or.mp nb
      refine mk_treeE (tr.move b0 b1 p0 p1 nn.1 nn.2) hw fun a' dx' h' H3 s3 na' ha' hh' => ⟨a', rfl, ?_⟩
      exact qq.2 nb a' dx' h' H3 (s1.trans (s2.trans s3)) ((s1.trans s2).free na') ha' hh'
end

section
variable {K : PySem.W.Frag} {H : Hp} {Q : VK} {E : XK} {vs : List V} {cTree cBadTree cNoOrder cNoBlock cNoPlace cBeneath : Addr} {hs ms : List Int}

end

section
variable {K : PySem.W.Frag} {H : Hp} {Q : VK} {E : XK} {vs : List V} {cTree cBadTree cNoOrder cNoBlock cNoPlace cBeneath : Addr} {hs ms : List Int}
/-- names by blocks, the head's ahead -/
theorem nm_at {n : Nat} (o : Ord n ms) {c : Int} (c0 : 0 ≤ c) (c1 : c ≤ n) : atI ([.int 0] ++ ms.map V.int) c = some (.int (stp ms c)) := by
  by_cases z : c = 0
  · subst z
    exact at_of (j := 0) rfl (by rw [stp_zero]; rfl)
  · refine at_of (j := c.toNat) (by omega) ?_
    have e := (o.at (c := c) (by omega) c1).1
    rw [List.getElem?_append_right (by show 1 ≤ c.toNat; omega)]
    show (ms.map V.int)[c.toNat - 1]? = _
    rw [List.getElem?_map, e]
    rfl
end

section
variable {K : PySem.W.Frag} {H : Hp} {Q : VK} {E : XK} {vs : List V} {cTree cBadTree cNoOrder cNoBlock cNoPlace cBeneath : Addr} {hs ms : List Int}
theorem callF_len' : ∀ i, (callF hs ms i).length = hs.length := fun i => callF_len i
end

section
variable {K : PySem.W.Frag} {H : Hp} {Q : VK} {E : XK} {vs : List V} {cTree cBadTree cNoOrder cNoBlock cNoPlace cBeneath : Addr} {hs ms : List Int}
/-- the tests of an order: ascending it is all blocks -/
theorem ord_sorted {n : Nat} {ns : List Int} (pm : ns.Perm ms) (so : ns.Pairwise (· ≤ ·)) (e : ns = blocks n) : Ord n ms := by
  subst e
  refine ⟨by rw [← pm.length_eq, blocks_len], (blocks_nodup n).perm pm, fun m hm => blocks_mem.mp (pm.mem_iff.mpr hm)⟩
end

section
variable {K : PySem.W.Frag} {H : Hp} {Q : VK} {E : XK} {vs : List V} {cTree cBadTree cNoOrder cNoBlock cNoPlace cBeneath : Addr} {hs ms : List Int}
theorem ord_blocks {n : Nat} {ns : List Int} (o : Ord n ms) (pm : ns.Perm ms) (so : ns.Pairwise (· ≤ ·)) : ns = blocks n :=
  List.Perm.eq_of_pairwise (le := (· ≤ ·)) (fun a b _ _ h1 h2 => Int.le_antisymm h1 h2) so ((blocks_sorted n).imp fun h => Int.le_of_lt h) (pm.trans o.perm)
end

section
variable {K : PySem.W.Frag} {H : Hp} {Q : VK} {E : XK} {vs : List V} {cTree cBadTree cNoOrder cNoBlock cNoPlace cBeneath : Addr} {hs ms : List Int}
theorem rgV_blocks (n : Nat) : rgV 1 ((n : Int) + 1) = (blocks n).map V.int := by
  rw [rgV_map]
  unfold blocks
  rw [show ((n : Int) + 1 - 1).toNat = n by omega]
  congr 1
  refine List.map_congr_left fun k _ => ?_
  omega
end

section
variable {K : PySem.W.Frag} {H : Hp} {Q : VK} {E : XK} {vs : List V} {cTree cBadTree cNoOrder cNoBlock cNoPlace cBeneath : Addr} {hs ms : List Int}
theorem v_iteNB {A B : Prop} {b : Bool} (h1 : b = false → A) (h2 : b = true → B) : if (!b) = true then A else B := by
  cases b with
  | true => exact v_iteNT (h2 rfl)
  | false => exact v_iteNF (h1 rfl)
end

section
variable {K : PySem.W.Frag} {H : Hp} {Q : VK} {E : XK} {vs : List V} {cTree cBadTree cNoOrder cNoBlock cNoPlace cBeneath : Addr} {hs ms : List Int}
theorem all_ints : ∀ {xs : List V}, (∀ y ∈ xs, ∃ i : Int, y = .int i) → ∃ ms : List Int, xs = ms.map V.int
  | [], _ => ⟨[], rfl⟩
  | x :: r, h => by
    obtain ⟨i, rfl⟩ := h x List.mem_cons_self
    obtain ⟨ms, rfl⟩ := all_ints fun y hy => h y (List.mem_cons_of_mem _ hy)
    exact ⟨i :: ms, rfl⟩
end

section
variable {K : PySem.W.Frag} {H : Hp} {Q : VK} {E : XK} {vs : List V} {cTree cBadTree cNoOrder cNoBlock cNoPlace cBeneath : Addr} {hs ms : List Int}
theorem pure_called (o : OwnC K cTree) (nf : NoAttr K cTree "hung") (h : spCalled cTree cNoOrder vs H Q E) : t_called K cBadTree cNoOrder cTree E { nx := fun _ H' => Q .non H', rt := Q } (start ["tree", "order", "many", "names", "found", "block", "item"] vs) H := by
  obtain ⟨t, x, hs, rfl, ⟨a, dx, h0, rfl, ha, hh⟩, tr, ot, bad, q⟩ := h
  have l40 := tr.2.1
  unfold t_called
  walk_at "vc"
  refine v_fldK o nf ha rfl ?_
  walk_at "vc"
  have hlen : ((hs.map V.int).length : Int) = hs.length := by rw [List.length_map]
  rw [hlen]
  rcases ot with ⟨s, k, ns⟩ | ⟨b, xs, rfl, hb, ks, lx⟩
  · refine v_isi k (.inr (.inr (.inl rfl))) ?_
    rw [show isA s "tuple" = false by
      unfold isA
      rw [Bool.or_eq_false_iff]
      refine ⟨by simpa using ns, ?_⟩
      simp]
    walk_at "vc"
    refine bad (fun ⟨ms, a', e, hm, _⟩ => ?_) H fun _ _ z => z
    subst e
    cases k with
    | tup _ => exact ns rfl
    | lst h =>
      rcases hm with hm | ⟨_, hm⟩
      · rw [hm] at h; cases h
      · rw [hm] at h; cases h
    | dK h =>
      rcases hm with hm | ⟨_, hm⟩
      · rw [hm] at h; cases h
      · rw [hm] at h; cases h
  · refine v_isiR hb ?_
    walk_at "vc"
    refine v_itT (SqT.rd hb) ?_
    refine v_lcT (xs := xs) (fun A i H' => H' A = some (.lst (((xs.take i).map fun y => within y 1 hs.length).map V.bl)) ∧ Same H H') (fun A nA => ⟨upd_same, same_upd nA⟩) (fun A i H' nA hi w => SqT.rd (Rd.same w.2 hb)) ?_ ?_
    · rintro A i y H' nA hy ⟨hA, s1⟩
      refine v_turn rfl ?_
      walk_at "vc"
      obtain ⟨s, ky⟩ := ks y (List.mem_of_getElem? hy)
      refine ⟨y, 1, _, s, rfl, ky.same s1, ?_⟩
      have hi := (List.getElem?_eq_some_iff.mp hy).1
      refine ⟨_, hA, by rw [List.length_map, List.length_map, List.length_take]; exact small1000 (by omega), ?_, same_mut s1 nA⟩
      rw [upd_same, take_snoc hy, List.map_append, List.map_append]
      rfl
    · rintro A H1 nA ⟨hA, s1⟩
      rw [List.take_length] at hA
      walk_at "vc"
      refine ⟨A, _, rfl, SqL.of hA, ?_⟩
      walk_at "vc"
      refine v_iteNB (fun al => ?_) (fun al => ?_)
      · walk_at "vc"
        refine bad (fun ⟨ms, a', e, hm, om⟩ => ?_) H1 s1
        cases e
        have em := Rd.tupI hb hm
        subst em
        rw [List.all_eq_false] at al
        obtain ⟨c, hc, nc⟩ := al
        obtain ⟨y, hy, rfl⟩ := List.mem_map.mp hc
        obtain ⟨m, hm, rfl⟩ := List.mem_map.mp hy
        exact nc (within_of_int (om.bl m hm))
      · have al' : ∀ y ∈ xs, within y 1 hs.length = true := fun y hy => List.all_eq_true.mp al _ (List.mem_map.mpr ⟨y, hy, rfl⟩)
        obtain ⟨ms, rfl⟩ := all_ints fun y hy => by
          obtain ⟨i, e, _⟩ := within_int (al' y hy)
          exact ⟨i, e⟩
        walk_at "vc"
        refine ⟨b, ms, rfl, SqT.rd (Rd.same s1 hb), fun S g pm so ng => ?_⟩
        have s2 := s1.trans (same_upd (o := .lst (S.map V.int)) ng)
        have hS : (upd H1 g (.lst (S.map V.int))) g = some (.lst (S.map V.int)) := upd_same
        generalize upd H1 g (.lst (S.map V.int)) = H2 at *
        walk_at "vc"
        refine v_lrg (by omega) fun l nl => ?_
        rw [rgV_blocks]
        have s3 := s2.trans (same_upd (o := .lst ((blocks hs.length).map V.int)) nl)
        have hS3 := same_upd (o := .lst ((blocks hs.length).map V.int)) nl _ _ hS
        have hl3 : (upd H2 l (.lst ((blocks hs.length).map V.int))) l = some (.lst ((blocks hs.length).map V.int)) := upd_same
        generalize upd H2 l (.lst ((blocks hs.length).map V.int)) = H3 at *
        refine v_neLI hS3 hl3 ?_
        walk_at "vc"
        refine v_iteN (fun ne => ?_) (fun e => ?_)
        · walk_at "vc"
          refine bad (fun ⟨ms', a', e, hm, om⟩ => ?_) H3 s3
          cases e
          have em := Rd.tupI hb hm
          have em' : ms = ms' := by
            have := congrArg nums em
            rwa [nums_map, nums_map] at this
          subst em'
          exact ne (ord_blocks om pm so)
        · have om := ord_sorted pm so e
          walk_at "vc"
          intro z nz
          have hb4 := Rd.same (same_upd (o := .tup [.int 0]) nz) (Rd.same s3 hb)
          walk_at "vc"
          refine v_catR (xs := [.int 0]) upd_same hb4 (by simp) (by show 1 + _ ≤ 1000; rw [List.length_map, om.len]; omega) fun nm H4 s4 _ hn => ?_
          have s5 : Same H H4 := s3.trans ((same_upd nz).trans s4)
          walk_at "vc"
          intro z2 nz2
          walk_at "vc"
          refine v_rep upd_same (by omega) (by show 1 ≤ 1000; decide) fun fd nfd => ?_
          rw [flat_one, show ((hs.length : Int)).toNat = hs.length by omega]
          have s6 : Same H4 (upd H4 z2 (.lst [.int 0])) := same_upd nz2
          generalize upd H4 z2 (.lst [.int 0]) = H5 at *
          have s7 := s5.trans s6
          have hn5 := s6 _ _ hn
          walk_at "vc"
          refine v_rg2 (by omega) ?_
          refine v_loop2 (fun i σ' H' => ∃ v5 : Option V, σ' = [some (.ref a), some (.ref b), some (.int hs.length), some (.ref nm), some (.ref fd), v5, none] ∧ H' fd = some (.lst ((callF hs ms i).map V.int)) ∧ Same H5 H')
            ⟨none, rfl, by rw [upd_same]; exact congrArg (fun q => some (HO.lst q)) (rep_map hs.length 0), same_upd nfd⟩ ?_ ?_
          · rintro i σ' H6 hi ⟨v5, rfl, hf, s8⟩
            have s9 := s7.trans s8
            have ei : (1 : Int) + (i : Int) = (i : Int) + 1 := by omega
            rw [ei]
            walk_at "vc"
            refine v_fldK o nf (s9 _ _ ha) rfl ?_
            walk_at "vc"
            refine v_ixT' (s9 _ _ hh) (getI tr.2.2.1 (by omega) (by omega) (by omega)) ?_
            have si := stp_in tr.2.2.1 ((i : Int) + 1)
            refine v_ixT' (s8 _ _ hn5) (nm_at om si.1 si.2) ?_
            walk_at "vc"
            refine v_ixT' (s8 _ _ hn5) (nm_at om (by omega) (by omega)) ?_
            walk_at "vc"
            have w := om.at (c := (i : Int) + 1) (by omega) (by omega)
            refine v_setL hf (ixN_of (j := (stp ms ((i : Int) + 1)).toNat - 1) (by omega) (by rw [List.length_map, callF_len]; omega)) ?_
            refine ⟨_, rfl, ?_, same_mut s8 nfd⟩
            rw [upd_same, ← List.map_set]
            rfl
          · rintro σ' H6 ⟨v5, rfl, hf, s8⟩
            rw [show ((hs.length : Int) + 1 - 1).toNat = hs.length by omega] at hf
            walk_at "vc"
            refine v_tupOfL hf fun u nu => ?_
            walk_at "vc"
            have s9 := s7.trans s8
            refine mk_treeE (tr.call om) upd_same fun a' dx' h' H7 s10 na' ha' hh' => ⟨a', rfl, ?_⟩
            have s11 := s9.trans (same_upd (o := .tup ((callF hs ms hs.length).map V.int)) nu)
            exact q ms ⟨b, rfl, hb, om⟩ a' dx' h' H7 (s11.trans s10) (s11.free na') ha' hh'
end

section
variable {K : PySem.W.Frag} {H : Hp} {Q : VK} {E : XK} {vs : List V} {cTree cBadTree cNoOrder cNoBlock cNoPlace cBeneath : Addr} {hs ms : List Int}
theorem pure_l_way (h : spWayIn vs H Q E) : t_l_way K { nx := fun _ H' => Q .non H', rt := Q } (start ["_law_hung_here", "_law_place", "_law_found", "_law_here", "_law_turn"] vs) H := by
  obtain ⟨h, hs, p, rfl, hh, tr, p0, p1, q⟩ := h
  have l40 := tr.2.1
  unfold t_l_way
  walk_at "vc"
  intro f nf
  have hh1 := same_upd (o := .lst []) nf _ _ hh
  walk_at "vc"
  refine v_itT (SqT.of hh1) ?_
  refine v_loopT (xs := hs.map V.int) (fun i σ' H' => ∃ (acc : List Int) (e : Int) (v4 : Option V), σ' = [some (.ref h), some (.int p), some (.ref f), some (.int e), v4] ∧ H' f = some (.lst (acc.map V.int)) ∧ Same H H' ∧ acc ++ wy hs e = wy hs p ∧ 0 ≤ e ∧ e ≤ hs.length ∧ (wy hs e).length ≤ hs.length - i)
    ⟨[], p, none, rfl, upd_same, same_upd nf, rfl, p0, p1, way_len hs _ _⟩ (fun i σ' H' hi ⟨_, _, _, _, _, s, _⟩ => SqT.of (s _ _ hh)) ?_ ?_
  · rintro i x σ' H' hx ⟨acc, e, v4, rfl, hf, s1, ea, e0, e1, le⟩
    walk_at "vc"
    refine v_iteN (fun ne => ?_) (fun z => ?_)
    · walk_at "vc"
      refine v_ixT' (s1 _ _ hh) (getI tr.2.2.1 ne e0 e1) ?_
      walk_at "vc"
      have hl : acc.length ≤ hs.length := by
        have := congrArg List.length ea
        rw [List.length_append] at this
        have := way_len hs hs.length p
        unfold wy at *
        omega
      refine v_append hf (by rw [List.length_map]; omega) ?_
      walk_at "vc"
      have w := wy_cons tr (h := e) (by omega) e1
      have si := stp_in tr.2.2.1 e
      refine ⟨acc ++ [stp hs e], stp hs e, _, rfl, by rw [upd_same, List.map_append]; rfl, same_mut s1 nf, ?_, si.1, si.2, ?_⟩
      · rw [List.append_assoc, ← ea, w]; rfl
      · rw [w, List.length_cons] at le
        omega
    · subst z
      walk_at "vc"
      exact ⟨acc, 0, _, rfl, hf, s1, ea, e0, e1, by rw [wy_zero]; exact Nat.zero_le _⟩
  · rintro σ' H' ⟨acc, e, v4, rfl, hf, s1, ea, e0, e1, le⟩
    rw [List.length_map, Nat.sub_self] at le
    rw [List.length_eq_zero_iff.mp (Nat.le_zero.mp le), List.append_nil] at ea
    walk_at "vc"
    exact q f H' s1 nf (by rw [← ea]; exact hf)
end

section
variable {K : PySem.W.Frag} {H : Hp} {Q : VK} {E : XK} {vs : List V} {cTree cBadTree cNoOrder cNoBlock cNoPlace cBeneath : Addr} {hs ms : List Int} {p : Addr}

end

section
variable {K : PySem.W.Frag} {H : Hp} {Q : VK} {E : XK} {vs : List V} {cTree cBadTree cNoOrder cNoBlock cNoPlace cBeneath : Addr} {hs ms : List Int} {p : Addr}
/-- tuples and own objects are not the pool's -/
theorem Af.tupP {H : Hp} {p a : Addr} {xs : List V} (hp : Pool H p) (h : H a = some (.tup xs)) : Af H p a (.tup xs) := by
  refine ⟨h, ?_⟩
  obtain ⟨g, s, gs, ss, x, y, q1, q2, q3, _⟩ := hp
  rw [owned_pool q1]
  rintro (z | z | z)
  · rw [z, q1] at h; cases h
  · rw [z, q2] at h; cases h
  · rw [z, q3] at h; cases h
end

section
variable {K : PySem.W.Frag} {H : Hp} {Q : VK} {E : XK} {vs : List V} {cTree cBadTree cNoOrder cNoBlock cNoPlace cBeneath : Addr} {hs ms : List Int} {p : Addr}
theorem Af.insP {H : Hp} {p a C dx : Addr} {fs : List (Str × V)} (hp : Pool H p) (h : H a = some (.ins C dx fs)) : Af H p a (.ins C dx fs) := by
  refine ⟨h, ?_⟩
  obtain ⟨g, s, gs, ss, x, y, q1, q2, q3, _⟩ := hp
  rw [owned_pool q1]
  rintro (z | z | z)
  · rw [z, q1] at h; cases h
  · rw [z, q2] at h; cases h
  · rw [z, q3] at h; cases h
end

section
variable {K : PySem.W.Frag} {H : Hp} {Q : VK} {E : XK} {vs : List V} {cTree cBadTree cNoOrder cNoBlock cNoPlace cBeneath : Addr} {hs ms : List Int} {p : Addr}
theorem TreeAf.at {x : V} (h : TreeAf cTree H p x hs) : TreeAt cTree H x hs := by
  obtain ⟨a, dx, h, e, f1, f2⟩ := h
  exact ⟨a, dx, h, e, f1.1, f2.1⟩
end

section
variable {K : PySem.W.Frag} {H : Hp} {Q : VK} {E : XK} {vs : List V} {cTree cBadTree cNoOrder cNoBlock cNoPlace cBeneath : Addr} {hs ms : List Int} {p : Addr}
theorem TreeAt.af {x : V} (hp : Pool H p) (h : TreeAt cTree H x hs) : TreeAf cTree H p x hs := by
  obtain ⟨a, dx, h, e, f1, f2⟩ := h
  exact ⟨a, dx, h, e, .insP hp f1, .tupP hp f2⟩
end

section
variable {K : PySem.W.Frag} {H : Hp} {Q : VK} {E : XK} {vs : List V} {cTree cBadTree cNoOrder cNoBlock cNoPlace cBeneath : Addr} {hs ms : List Int} {p : Addr}
theorem TreeAf.mo {x : V} {H' : Hp} (m : Mo p H H') (h : TreeAf cTree H p x hs) : TreeAf cTree H' p x hs := by
  obtain ⟨a, dx, h, e, f1, f2⟩ := h
  exact ⟨a, dx, h, e, m _ _ f1, m _ _ f2⟩
end

section
variable {K : PySem.W.Frag} {H : Hp} {Q : VK} {E : XK} {vs : List V} {cTree cBadTree cNoOrder cNoBlock cNoPlace cBeneath : Addr} {hs ms : List Int} {p : Addr}
theorem alike_sc : ∀ {d : Nat} {H : Hp} {x : V}, Scal x → Alike d H x x
  | 0, _, _, s => ⟨s, rfl⟩
  | _ + 1, _, _, s => .inl ⟨s, rfl⟩
end

section
variable {K : PySem.W.Frag} {H : Hp} {Q : VK} {E : XK} {vs : List V} {cTree cBadTree cNoOrder cNoBlock cNoPlace cBeneath : Addr} {hs ms : List Int} {p : Addr}
theorem alike_T {d : Nat} {a b : Addr} (h1 : H a = some (.tup (hs.map V.int))) (h2 : H b = some (.tup (hs.map V.int))) (l : hs.length ≤ 1000) : Alike (d + 1) H (.ref a) (.ref b) :=
  .inr ⟨a, b, _, _, rfl, rfl, .inl ⟨h1, h2⟩, by rw [List.length_map]; exact l, rfl, fun i u v hu hv => by
    rw [hu] at hv
    cases hv
    obtain ⟨n, rfl⟩ := map_get hu
    exact alike_sc trivial⟩
end

section
variable {K : PySem.W.Frag} {H : Hp} {Q : VK} {E : XK} {vs : List V} {cTree cBadTree cNoOrder cNoBlock cNoPlace cBeneath : Addr} {hs ms : List Int} {p : Addr}
theorem alike_L2 {d : Nat} {a b : Addr} {x x' y y' : V} (h1 : H a = some (.lst [x, y])) (h2 : H b = some (.lst [x', y'])) (hx : Alike d H x x') (hy : Alike d H y y') : Alike (d + 1) H (.ref a) (.ref b) :=
  .inr ⟨a, b, _, _, rfl, rfl, .inr ⟨h1, h2⟩, by show 2 ≤ 1000; decide, rfl, fun i u v hu hv => by
    match i, hu, hv with
    | 0, hu, hv => cases hu; cases hv; exact hx
    | 1, hu, hv => cases hu; cases hv; exact hy⟩
end

section
variable {K : PySem.W.Frag} {H : Hp} {Q : VK} {E : XK} {vs : List V} {cTree cBadTree cNoOrder cNoBlock cNoPlace cBeneath : Addr} {hs ms : List Int} {p : Addr}
theorem alike_L1 {d : Nat} {a b : Addr} {x x' : V} (h1 : H a = some (.lst [x])) (h2 : H b = some (.lst [x'])) (hx : Alike d H x x') : Alike (d + 1) H (.ref a) (.ref b) :=
  .inr ⟨a, b, _, _, rfl, rfl, .inr ⟨h1, h2⟩, by show 1 ≤ 1000; decide, rfl, fun i u v hu hv => by
    match i, hu, hv with
    | 0, hu, hv => cases hu; cases hv; exact hx⟩
end

section
variable {K : PySem.W.Frag} {H : Hp} {Q : VK} {E : XK} {vs : List V} {cTree cBadTree cNoOrder cNoBlock cNoPlace cBeneath : Addr} {hs ms : List Int} {p : Addr}
theorem v_min {i j : Int} (q : Q (.int (if j < i then j else i)) H) : xMin [.int i, .int j] H Q := ⟨i, j, rfl, q⟩
end

section
variable {K : PySem.W.Frag} {H : Hp} {Q : VK} {E : XK} {vs : List V} {cTree cBadTree cNoOrder cNoBlock cNoPlace cBeneath : Addr} {hs ms : List Int} {p : Addr}
theorem ben_hang (t : IsTree hs) (c : Int) : (ben hs c).filter (fun x => decide (stp hs x = c)) = hang hs c := by
  unfold ben benN hang hangN
  rw [List.filter_filter]
  refine List.filter_congr fun x hx => ?_
  have b := blocks_mem.mp hx
  by_cases e : stp hs x = c
  · have : c ∈ wy hs x := by rw [wy_cons t b.1 b.2, e]; exact List.mem_cons_self
    rw [decide_eq_true e, decide_eq_true this]
    rfl
  · rw [decide_eq_false e]
    rfl
end

section
variable {K : PySem.W.Frag} {H : Hp} {Q : VK} {E : XK} {vs : List V} {cTree cBadTree cNoOrder cNoBlock cNoPlace cBeneath : Addr} {hs ms : List Int} {p : Addr}
def BmZK (r : V → List V → Hp → VK → Prop) (t : TA) (σ : L2.St) (x : V) (H : Hp) (Q : VK) : Prop := (∃ (a : Addr) (o : Obj) (ys : List V), x = .ref a ∧ H a = some (.frz o (.tup ys)) ∧ o.dict = none) ∧ t σ H fun xs H2 => r x xs H2 Q
end

section
variable {K : PySem.W.Frag} {H : Hp} {Q : VK} {E : XK} {vs : List V} {cTree cBadTree cNoOrder cNoBlock cNoPlace cBeneath : Addr} {hs ms : List Int} {p : Addr}
theorem v_bmZ {r : V → List V → Hp → VK → Prop} {to : TE} {t : TA} {σ : L2.St} (h : to σ H fun x H1 => BmZK r t σ x H1 Q) : tBMZ r to t σ H Q := h
end

section
variable {K : PySem.W.Frag} {H : Hp} {Q : VK} {E : XK} {vs : List V} {cTree cBadTree cNoOrder cNoBlock cNoPlace cBeneath : Addr} {hs ms : List Int} {p : Addr}
theorem v_bmZK {r : V → List V → Hp → VK → Prop} {t : TA} {σ : L2.St} {a : Addr} {o : Obj} {xs : List V} (h : H a = some (.frz o (.tup xs))) (d : o.dict = none) (q : t σ H fun vs H2 => r (.ref a) vs H2 Q) : BmZK r t σ (.ref a) H Q := ⟨⟨a, o, xs, rfl, h, d⟩, q⟩
end

section
variable {K : PySem.W.Frag} {H : Hp} {Q : VK} {E : XK} {vs : List V} {cTree cBadTree cNoOrder cNoBlock cNoPlace cBeneath : Addr} {hs ms : List Int} {p : Addr}
theorem idx_first {n : Nat} (o : Ord n ms) {z : Int} (z0 : 1 ≤ z) (z1 : z ≤ n) : ms[ms.idxOf z]? = some z ∧ ∀ m, m < ms.idxOf z → ms[m]? ≠ some z := by
  have hm : z ∈ ms := o.perm.mem_iff.mpr (blocks_mem.mpr ⟨z0, z1⟩)
  have hl : ms.idxOf z < ms.length := List.idxOf_lt_length_iff.mpr hm
  have e : ms[ms.idxOf z]? = some z := by rw [List.getElem?_eq_getElem hl, List.getElem_idxOf hl]
  refine ⟨e, fun m hlt hz => ?_⟩
  have := (List.getElem?_inj (by omega) o.nd).mp (hz.trans e.symm)
  omega
end

section
variable {K : PySem.W.Frag} {H : Hp} {Q : VK} {E : XK} {vs : List V} {cTree cBadTree cNoOrder cNoBlock cNoPlace cBeneath : Addr} {hs ms : List Int} {p : Addr}
theorem ord_thing {n : Nat} {od : Addr} (om : Ord n ms) (h : Rd H od (.tup (ms.map V.int))) (l : n ≤ 1000 := by omega) : OrdThing H (.ref od) := .inr ⟨od, _, rfl, h, fun y hy => by
  obtain ⟨z, _, rfl⟩ := List.mem_map.mp hy
  exact ⟨_, .int z⟩, by rw [List.length_map, om.len]; exact l⟩
end

section
variable {K : PySem.W.Frag} {H : Hp} {Q : VK} {E : XK} {vs : List V} {cTree cBadTree cNoOrder cNoBlock cNoPlace cBeneath : Addr} {hs ms : List Int} {p : Addr}
theorem IsOrd.eq {n : Nat} {od : Addr} {ks : List Int} (i : IsOrd H (.ref od) n ks) (h : Rd H od (.tup (ms.map V.int))) : ks = ms := by
  obtain ⟨a, e, hk, _⟩ := i
  cases e
  have := congrArg nums (Rd.tupI h hk)
  rw [nums_map, nums_map] at this
  exact this.symm
end

section
variable {K : PySem.W.Frag} {H : Hp} {Q : VK} {E : XK} {vs : List V} {cTree cBadTree cNoOrder cNoBlock cNoPlace cBeneath : Addr} {hs ms : List Int} {p : Addr}
theorem Af.rd {H : Hp} {p a : Addr} {o : Obj} {u : HO} (f : Af H p a (.frz o u)) : Rd H a u := .inr ⟨o, f.1⟩
end

section
variable {K : PySem.W.Frag} {H : Hp} {Q : VK} {E : XK} {vs : List V} {cTree cBadTree cNoOrder cNoBlock cNoPlace cBeneath : Addr} {hs ms : List Int} {p : Addr}
theorem v_neTT (o : OwnC K cTree) {x y : V} {hs ks : List Int} (a : TreeAt cTree H x hs) (b : TreeAt cTree H y ks) (e : hs = ks) (q : Q (.bl false) H) : rNeOwn K cTree (spTreeEq cTree) E0 x y H Q := by
  obtain ⟨ax, dx, hx, rfl, h1, h2⟩ := a
  obtain ⟨ay, dy, hy, rfl, h3, h4⟩ := b
  refine ⟨ax, ay, dx, dy, _, _, rfl, rfl, h1, h3, _, _, hs, rfl, ⟨ax, dx, hx, rfl, h1, h2⟩, .inl ⟨ks, ⟨ay, dy, hy, rfl, h3, h4⟩, true, ?_, q⟩⟩
  rw [decide_eq_true e]
end
/-! ### views, tellings: the walks -/
theorem isA_no {s : String} (ns : s ≠ "tuple") : isA s "tuple" = false := by
  unfold isA
  rw [Bool.or_eq_false_iff]
  exact ⟨by simpa using ns, by simp⟩
theorem kind_rd {H : Hp} {a : Addr} {s : String} {xs : List V} (k : Kind H (.ref a) s) (ns : s ≠ "tuple") (r : Rd H a (.tup xs)) : False := by
  cases k with
  | tup _ => exact ns rfl
  | lst h =>
    rcases r with r | ⟨_, r⟩
    · rw [r] at h; cases h
    · rw [r] at h; cases h
  | dK h =>
    rcases r with r | ⟨_, r⟩
    · rw [r] at h; cases h
    · rw [r] at h; cases h
theorem OrdThing.same {H H' : Hp} {x : V} (h : OrdThing H x) (e : Same H H') : OrdThing H' x := by
  rcases h with ⟨s, k, n⟩ | ⟨a, xs, q, r, ks, l⟩
  · exact .inl ⟨s, k.same e, n⟩
  · exact .inr ⟨a, xs, q, Rd.same e r, fun y hy => let ⟨s, k⟩ := ks y hy; ⟨s, k.same e⟩, l⟩
theorem IsView.thing {H : Hp} {x : V} {v w : Nat} (h : IsView H x v w) : OrdThing H x := by
  obtain ⟨a, e, r, _⟩ := h
  refine .inr ⟨a, _, e, r, fun y hy => ?_, by show 2 ≤ 1000; decide⟩
  simp only [List.mem_cons, List.not_mem_nil, or_false] at hy
  rcases hy with rfl | rfl
  · exact ⟨_, .int _⟩
  · exact ⟨_, .int _⟩
theorem IsView.uniq {H : Hp} {x : V} {v w v' w' : Nat} (h : IsView H x v w) (k : IsView H x v' w') : v = v' ∧ w = w' := by
  obtain ⟨a, rfl, r, _⟩ := h
  obtain ⟨b, e, r', _⟩ := k
  cases e
  have := Rd.tupI r r'
  simp only [List.cons.injEq, V.int.injEq, and_true] at this
  omega
/-- tuples stay where a list is changed -/
def SameT (H H' : Hp) : Prop := ∀ a xs, H a = some (.tup xs) → H' a = some (.tup xs)
theorem sameT_mut {H : Hp} {A : Addr} {xs : List V} {o : HO} (h : H A = some (.lst xs)) : SameT H (upd H A o) := fun a ys e => by
  rw [upd_ne (fun z => by rw [z, h] at e; cases e)]
  exact e
theorem Prs.tups {H H' : Hp} {xs : List V} {ps : List (Int × Int)} (h : Prs H xs ps) (s : SameT H H') : Prs H' xs ps := by
  induction h with
  | nil => exact .nil
  | cons h _ ih => exact .cons (s _ _ h) ih
theorem TellAt.tups {H H' : Hp} {x : V} {tl : List Int × List (Int × Int)} (h : TellAt H x tl) (s : SameT H H') : TellAt H' x tl := by
  obtain ⟨t, a, b, xs, e, h1, h2, h3, h4, h5⟩ := h
  exact ⟨t, a, b, xs, e, s _ _ h1, s _ _ h2, s _ _ h3, h4.tups s, h5⟩
section
variable {K : PySem.W.Frag} {H : Hp} {Q : VK} {E : XK} {vs : List V} {cTree cNoView cNoPlace cOtherBlocks : Addr}
theorem pure_is_pair (h : spPair vs H Q E) : t_is_pair K { nx := fun _ H' => Q .non H', rt := Q } (start ["thing"] vs) H := by
  obtain ⟨x, rfl, ot, q1, q2⟩ := h
  unfold t_is_pair
  walk_at "vc"
  rcases ot with ⟨s, k, ns⟩ | ⟨b, xs, rfl, hb, ks, lx⟩
  · refine v_isi k (.inr (.inr (.inl rfl))) ?_
    rw [isA_no ns]
    walk_at "vc"
    refine q2 fun ⟨a, y, z, e, r⟩ => ?_
    subst e
    exact kind_rd k ns r
  · refine v_isiR hb ?_
    walk_at "vc"
    refine v_lenT (SqT.rd hb) ?_
    walk_at "vc"
    by_cases e : xs.length = 2
    · rw [decide_eq_true (show (xs.length : Int) = 2 by omega)]
      match xs, e with
      | [y, z], _ => exact q1 ⟨b, y, z, rfl, hb⟩
    · rw [decide_eq_false (show ¬ (xs.length : Int) = 2 by omega)]
      refine q2 fun ⟨a, y, z, e', r⟩ => ?_
      cases e'
      rw [Rd.tupI hb r] at e
      exact e rfl
theorem pure_is_view (h : spView vs H Q E) : t_is_view K { nx := fun _ H' => Q .non H', rt := Q } (start ["thing", "item"] vs) H := by
  obtain ⟨x, rfl, ot, q1, q2⟩ := h
  unfold t_is_view
  walk_at "vc"
  refine ⟨x, rfl, ot, fun ⟨a, y, z, e, r⟩ => ?_, fun np => ?_⟩
  · subst e
    have ks : ∀ u ∈ [y, z], ∃ s, Kind H u s := by
      rcases ot with ⟨s, k, ns⟩ | ⟨b, xs, e, hb, ks, lx⟩
      · exact (kind_rd k ns r).elim
      · cases e
        rw [Rd.tupI r hb]
        exact ks
    walk_at "vc"
    refine v_itT (SqT.rd r) ?_
    refine v_lcT (xs := [y, z]) (fun A i H' => H' A = some (.lst ((([y, z].take i).map fun u => within u 0 4).map V.bl)) ∧ Same H H') (fun A nA => ⟨upd_same, same_upd nA⟩) (fun A i H' nA hi w => SqT.rd (Rd.same w.2 r)) ?_ ?_
    · rintro A i u H' nA hu ⟨hA, s1⟩
      refine v_turn rfl ?_
      walk_at "vc"
      obtain ⟨s, ku⟩ := ks u (List.mem_of_getElem? hu)
      refine ⟨u, 0, 4, s, rfl, ku.same s1, ?_⟩
      have hi := (List.getElem?_eq_some_iff.mp hu).1
      refine ⟨_, hA, ?_, ?_, same_mut s1 nA⟩
      · rw [List.length_map, List.length_map, List.length_take]
        exact small1000 (by have : [y, z].length = 2 := rfl; omega)
      · rw [upd_same, take_snoc hu, List.map_append, List.map_append]
        rfl
    · rintro A H1 nA ⟨hA, s1⟩
      have hA : H1 A = some (.lst ([within y 0 4, within z 0 4].map V.bl)) := hA
      walk_at "vc"
      refine ⟨A, _, rfl, SqL.of hA, ?_⟩
      cases e1 : within y 0 4 with
      | false =>
        refine q2 (fun ⟨v, w, hv⟩ => ?_) H1 s1
        obtain ⟨b, e, r', bv, bw⟩ := hv
        cases e
        have := Rd.tupI r r'
        simp only [List.cons.injEq, and_true] at this
        rw [this.1, within_of_int (by omega)] at e1
        cases e1
      | true =>
        cases e2 : within z 0 4 with
        | false =>
          refine q2 (fun ⟨v, w, hv⟩ => ?_) H1 s1
          obtain ⟨b, e, r', bv, bw⟩ := hv
          cases e
          have := Rd.tupI r r'
          simp only [List.cons.injEq, and_true] at this
          rw [this.2, within_of_int (by omega)] at e2
          cases e2
        | true =>
          obtain ⟨i, rfl, i0, i1⟩ := within_int e1
          obtain ⟨j, rfl, j0, j1⟩ := within_int e2
          refine q1 i.toNat j.toNat ⟨a, rfl, ?_, by omega, by omega⟩ H1 s1
          rw [show ((i.toNat : Nat) : Int) = i by omega, show ((j.toNat : Nat) : Int) = j by omega]
          exact r
  · walk_at "vc"
    refine q2 (fun ⟨v, w, a, e, r, _⟩ => np ⟨a, _, _, e, r⟩) H fun _ _ z => z
theorem pure_check_view (h : spCheckView cNoView vs H Q E) : t_check_view K cNoView E { nx := fun _ H' => Q .non H', rt := Q } (start ["view"] vs) H := by
  obtain ⟨x, rfl, ot, q1, q2⟩ := h
  unfold t_check_view
  walk_at "vc"
  refine ⟨x, rfl, ot, fun v w iv H1 s1 => ?_, fun nv H1 s1 => ?_⟩
  · walk_at "vc"
    exact q1 v w iv H1 s1
  · walk_at "vc"
    exact q2 nv H1 s1
theorem pure_raw_telling (h : spRaw vs H Q E) : t_raw_telling K { nx := fun _ H' => Q .non H', rt := Q } (start ["hung", "view", "place"] vs) H := by
  obtain ⟨h, x, hs, p, v, w, rfl, hh, tr, ⟨a, rfl, r, bv, bw⟩, p0, p1, q⟩ := h
  unfold t_raw_telling
  walk_at "vc"
  refine ⟨h, hs, p, rfl, hh, tr, p0, p1, fun f H1 s1 nf hf => ?_⟩
  walk_at "vc"
  refine v_ixT (SqT.rd (Rd.same s1 r)) (at_of (j := 0) rfl rfl) ?_
  walk_at "vc"
  refine v_slL' hf fun g ng => ?_
  have wl := way_len hs hs.length p
  have l40 := tr.2.1
  have eg : cutV ((wy hs p).map V.int) none (some (v : Int)) = ((wy hs p).take v).map V.int := by
    rw [List.map_take]
    by_cases hv : v ≤ ((wy hs p).map V.int).length
    · exact cut_take rfl hv
    · unfold cutV
      rw [HT.sIx_none, HT.sIx_nat, Nat.min_eq_right (by omega)]
      show (((wy hs p).map V.int).drop 0).take (((wy hs p).map V.int).length - 0) = _
      rw [List.drop_zero, Nat.sub_zero, List.take_length, List.take_of_length_le (by omega)]
  rw [eg]
  have s2 := s1.trans (same_upd (o := .lst (((wy hs p).take v).map V.int)) ng)
  have hg : (upd H1 g (.lst (((wy hs p).take v).map V.int))) g = some (.lst (((wy hs p).take v).map V.int)) := upd_same
  generalize upd H1 g (.lst (((wy hs p).take v).map V.int)) = H2 at *
  walk_at "vc"
  refine v_tupOfL hg fun u nu => ?_
  have s3 := s2.trans (same_upd (o := .tup (((wy hs p).take v).map V.int)) nu)
  have hu : (upd H2 u (.tup (((wy hs p).take v).map V.int))) u = some (.tup (((wy hs p).take v).map V.int)) := upd_same
  generalize upd H2 u (.tup (((wy hs p).take v).map V.int)) = H3 at *
  walk_at "vc"
  refine v_ixT (SqT.rd (Rd.same s3 r)) (at_of (j := 1) rfl rfl) ?_
  walk_at "vc"
  refine ⟨h, hs, p, w, rfl, s3 _ _ hh, tr, p0, p1, bw, fun b xs H4 s4 nb hb pr => ?_⟩
  walk_at "vc"
  intro t nt
  have s5 := same_upd (o := .tup [.ref u, .ref b]) nt
  refine q _ _ (s3.trans (s4.trans s5)) ⟨t, u, b, xs, rfl, upd_same, s5 _ _ (s4 _ _ hu), s5 _ _ hb, pr.same s5, ?_, ?_⟩
  · show ((wy hs p).take v).length ≤ 1000
    rw [List.length_take]; omega
  · show (ties hs p w).length ≤ 1000
    unfold ties tie tieN
    rw [List.length_map]
    refine Nat.le_trans (List.length_filter_le _ _) ?_
    rw [blocks_len]; omega
theorem pure_raw_tellings (h : spRaws vs H Q E) : t_raw_tellings K { nx := fun _ H' => Q .non H', rt := Q } (start ["hung", "view", "place"] vs) H := by
  obtain ⟨h, x, hs, v, w, rfl, hh, tr, iv, q⟩ := h
  have l40 := tr.2.1
  unfold t_raw_tellings
  walk_at "vc"
  rw [show ((hs.map V.int).length : Int) = hs.length by rw [List.length_map]]
  refine v_rg1 (by omega) ?_
  refine v_lc0 (fun A i H' => ∃ xs : List V, H' A = some (.lst xs) ∧ xs.length = i ∧ (∀ (j : Nat) (y : V), xs[j]? = some y → TellAt H' y (tell hs v w j)) ∧ Same H H') (fun A nA => ⟨[], upd_same, rfl, fun j y e => (by cases e), same_upd nA⟩) ?_ ?_
  · rintro A i H' nA hi ⟨xs, hA, lx, tx, s1⟩
    refine v_turn rfl ?_
    walk_at "vc"
    refine ⟨h, x, hs, i, v, w, rfl, s1 _ _ hh, tr, iv.same s1, by omega, by omega, fun y H2 s2 ty => ?_⟩
    refine ⟨xs, s2 _ _ hA, small1000 (by omega), xs ++ [y], upd_same, by rw [List.length_append, lx]; rfl, fun j z ej => ?_, same_mut (s1.trans s2) nA⟩
    have st : SameT H2 (upd H2 A (.lst (xs ++ [y]))) := sameT_mut (s2 _ _ hA)
    by_cases hj : j < xs.length
    · rw [List.getElem?_append_left hj] at ej
      exact ((tx j z ej).same s2).tups st
    · rw [List.getElem?_append_right (by omega)] at ej
      have h0 : j - xs.length = 0 := by
        have := (List.getElem?_eq_some_iff.mp ej).1
        rw [List.length_singleton] at this
        omega
      rw [h0] at ej
      cases ej
      rw [show j = i by omega]
      exact ty.tups st
  · rintro A H' nA ⟨xs, hA, lx, tx, s1⟩
    exact q A H' s1 nA ⟨xs, hA, by omega, tx⟩
theorem pure_telling (o : OwnC K cTree) (nf : NoAttr K cTree "hung") (h : spTelling cTree cNoView cNoPlace vs H Q E) : t_telling K cNoPlace cNoView E { nx := fun _ H' => Q .non H', rt := Q } (start ["tree", "view", "place"] vs) H := by
  obtain ⟨t, x, y, hs, s, rfl, ⟨a, dx, h0, rfl, ha, hh⟩, tr, ot, ky, e1, q⟩ := h
  unfold t_telling
  walk_at "vc"
  refine ⟨x, rfl, ot, fun v w iv H1 s1 => ?_, fun nv H1 s1 => e1 nv H1 s1⟩
  have qq := q v w iv
  walk_at "vc"
  refine v_fldK o nf (s1 _ _ ha) rfl ?_
  have hh1 := s1 _ _ hh
  walk_at "vc"
  refine ⟨_, y, s, rfl, ky.same s1, fun wy' => ?_, fun e => qq.1 (by rwa [List.length_map] at e) H1 s1⟩
  rw [List.length_map] at wy'
  obtain ⟨p, rfl, p0, p1⟩ := within_int wy'
  walk_at "vc"
  refine v_fldK o nf (s1 _ _ ha) rfl ?_
  walk_at "vc"
  exact ⟨h0, x, hs, p, v, w, rfl, hh1, tr, iv.same s1, p0, p1, fun z H2 s2 tz => qq.2 p rfl p0 p1 z H2 (s1.trans s2) tz⟩
theorem pure_unlike (o : OwnC K cTree) (nf : NoAttr K cTree "hung") (h : spUnlike cTree cOtherBlocks cNoView vs H Q E) : t_unlike K cNoView cOtherBlocks E { nx := fun _ H' => Q .non H', rt := Q } (start ["tree", "other", "view", "first", "second", "place"] vs) H := by
  obtain ⟨t, u, x, hs, ks, rfl, ⟨a, dx, h0, rfl, ha, hh⟩, ⟨b, dy, k0, rfl, hb, hk⟩, tr, ur, ot, e1, q⟩ := h
  have l40 := tr.2.1
  unfold t_unlike
  walk_at "vc"
  refine v_fldK o nf ha rfl ?_
  walk_at "vc"
  refine v_fldK o nf hb rfl ?_
  walk_at "vc"
  refine v_iteN (fun ne => ?_) (fun el => ?_)
  · walk_at "vc"
    exact e1 fun z => ne (by rw [List.length_map, List.length_map, z])
  · have hl : hs.length = ks.length := by rw [List.length_map, List.length_map] at el; omega
    have qq := q hl
    walk_at "vc"
    refine ⟨x, rfl, ot, fun v w iv H1 s1 => ?_, fun nv H1 s1 => qq.1 nv H1 s1⟩
    walk_at "vc"
    refine v_fldK o nf (s1 _ _ ha) rfl ?_
    walk_at "vc"
    refine ⟨h0, x, hs, v, w, rfl, s1 _ _ hh, tr, iv.same s1, fun f H2 s2 nf2 tf => ?_⟩
    have s12 := s1.trans s2
    walk_at "vc"
    refine v_fldK o nf (s12 _ _ hb) rfl ?_
    walk_at "vc"
    refine ⟨k0, x, ks, v, w, rfl, s12 _ _ hk, ur, iv.same s12, fun g H3 s3 ng tg => ?_⟩
    obtain ⟨xs, hf, lx, tx⟩ := tf
    obtain ⟨ys, hg, ly, ty⟩ := tg
    have s13 := s12.trans s3
    have hf3 := s3 _ _ hf
    have tx3 : ∀ (i : Nat) (z : V), xs[i]? = some z → TellAt H3 z (tell hs v w i) := fun i z e => (tx i z e).same s3
    walk_at "vc"
    refine v_rg1 (by omega) ?_
    refine v_lc0 (fun A i H' => H' A = some (.lst ((unlN hs ks v w i).map V.int)) ∧ Same H3 H') (fun A nA => ⟨upd_same, same_upd nA⟩) ?_ ?_
    · rintro A i H' nA hi ⟨hA, s4⟩
      have hx : i < xs.length := by omega
      have hy : i < ys.length := by omega
      refine v_turn rfl ?_
      walk_at "vc"
      refine v_ixL' (s4 _ _ hf3) (at_of (j := i) rfl (List.getElem?_eq_getElem hx)) ?_
      walk_at "vc"
      refine v_ixL' (s4 _ _ hg) (at_of (j := i) rfl (List.getElem?_eq_getElem hy)) ?_
      refine v_neTell ((tx3 i _ (List.getElem?_eq_getElem hx)).same s4) ((ty i _ (List.getElem?_eq_getElem hy)).same s4) ?_
      walk_at "vc"
      refine v_iteN (fun ne => ?_) (fun e => ?_)
      · walk_at "vc"
        refine ⟨_, hA, ?_, ?_, same_mut s4 nA⟩
        · rw [List.length_map]
          refine small1000 (Nat.le_trans (List.length_filter_le _ _) ?_)
          unfold places
          rw [List.length_map, List.length_range]
          omega
        · rw [upd_same, unlN_succ, if_pos ne, List.map_append]
          rfl
      · refine ⟨?_, s4⟩
        rw [unlN_succ, if_neg (fun z => z e), List.append_nil]
        exact hA
    · rintro A H' nA ⟨hA, s4⟩
      rw [show ((xs.length : Int)).toNat = hs.length + 1 by omega] at hA
      walk_at "vc"
      refine v_tupOfL hA fun l nl => ?_
      exact qq.2 v w iv l _ (s13.trans (s4.trans (same_upd nl))) ((s13.trans s4).free nl) upd_same
end

section
variable {K : PySem.W.Frag} {H : Hp} {Q : VK} {E : XK} {vs : List V} {cTree cNoView cNoPlace cOtherBlocks : Addr}
theorem pure_l_view (h : spViewL vs H Q E) : t_l_view K { nx := fun _ H' => Q .non H', rt := Q } (start ["_law_pool_here"] vs) H := by
  obtain ⟨p, rfl, hp, q⟩ := h
  unfold t_l_view
  walk_at "vc"
  refine ⟨p, 5, rfl, hp, by decide, by decide, fun d H1 d0 d1 hp1 m1 => ?_⟩
  walk_at "vc"
  refine ⟨p, 5, rfl, hp1, by decide, by decide, fun c H2 c0 c1 hp2 m2 => ?_⟩
  walk_at "vc"
  intro t nt
  have := q t d.toNat c.toNat _ (hp2.upd (o := .tup [.int d, .int c]) nt) (m1.trans (m2.trans (Mo.upd (o := .tup [.int d, .int c]) hp2 nt))) (by omega) (by omega)
  refine this ?_
  rw [upd_same, show ((d.toNat : Nat) : Int) = d by omega, show ((c.toNat : Nat) : Int) = c by omega]
theorem pure_l_unlike (h : spUnlikeL vs H Q E) : t_l_unlike K { nx := fun _ H' => Q .non H', rt := Q } (start ["_law_one", "_law_other", "_law_view_here", "_law_first", "_law_second", "_law_place"] vs) H := by
  obtain ⟨h0, k0, x, hs, ks, v, w, rfl, hh, hk, tr, ur, hl, iv, q⟩ := h
  have l40 := tr.2.1
  unfold t_l_unlike
  walk_at "vc"
  refine ⟨h0, x, hs, v, w, rfl, hh, tr, iv, fun f H2 s2 nf2 tf => ?_⟩
  walk_at "vc"
  refine ⟨k0, x, ks, v, w, rfl, s2 _ _ hk, ur, iv.same s2, fun g H3 s3 ng tg => ?_⟩
  obtain ⟨xs, hf, lx, tx⟩ := tf
  obtain ⟨ys, hg, ly, ty⟩ := tg
  walk_at "vc"
  intro tp ntp
  refine v_gtup2 upd_same ?_
  have s34 := same_upd (o := .tup [.ref f, .ref g]) ntp
  have s13 := s2.trans (s3.trans s34)
  have hf3 := s34 _ _ (s3 _ _ hf)
  have hg3 := s34 _ _ hg
  have tx3 : ∀ (i : Nat) (z : V), xs[i]? = some z → TellAt _ z (tell hs v w i) := fun i z e => ((tx i z e).same s3).same s34
  have ty3 : ∀ (i : Nat) (z : V), ys[i]? = some z → TellAt _ z (tell ks v w i) := fun i z e => (ty i z e).same s34
  generalize upd H3 tp (.tup [.ref f, .ref g]) = H4 at *
  walk_at "vc"
  refine v_rg1 (by omega) ?_
  refine v_lc0 (fun A i H' => H' A = some (.lst ((unlN hs ks v w i).map V.int)) ∧ Same H4 H') (fun A nA => ⟨upd_same, same_upd nA⟩) ?_ ?_
  · rintro A i H' nA hi ⟨hA, s4⟩
    have hx : i < xs.length := by omega
    have hy : i < ys.length := by omega
    refine v_turn rfl ?_
    walk_at "vc"
    refine v_ixL' (s4 _ _ hf3) (at_of (j := i) rfl (List.getElem?_eq_getElem hx)) ?_
    walk_at "vc"
    refine v_ixL' (s4 _ _ hg3) (at_of (j := i) rfl (List.getElem?_eq_getElem hy)) ?_
    refine v_neTell ((tx3 i _ (List.getElem?_eq_getElem hx)).same s4) ((ty3 i _ (List.getElem?_eq_getElem hy)).same s4) ?_
    walk_at "vc"
    refine v_iteN (fun ne => ?_) (fun e => ?_)
    · walk_at "vc"
      refine ⟨_, hA, ?_, ?_, same_mut s4 nA⟩
      · rw [List.length_map]
        refine small1000 (Nat.le_trans (List.length_filter_le _ _) ?_)
        unfold places
        rw [List.length_map, List.length_range]
        omega
      · rw [upd_same, unlN_succ, if_pos ne, List.map_append]
        rfl
    · refine ⟨?_, s4⟩
      rw [unlN_succ, if_neg (fun z => z e), List.append_nil]
      exact hA
  · rintro A H' nA ⟨hA, s4⟩
    rw [show ((xs.length : Int)).toNat = hs.length + 1 by omega] at hA
    walk_at "vc"
    refine v_tupOfL hA fun l nl => ?_
    exact q l _ (s13.trans (s4.trans (same_upd nl))) ((s13.trans s4).free nl) upd_same
theorem pure_ties_down (h : spTies vs H Q E) : t_ties_down K { nx := fun _ H' => Q .non H', rt := Q } (start ["hung", "place", "steps", "found", "layer", "step", "later", "here", "block"] vs) H := by
  obtain ⟨h, hs, p, s, rfl, hh, tr, p0, p1, s4, q⟩ := h
  have l40 := tr.2.1
  unfold t_ties_down
  walk_at "vc"
  intro f nf
  walk_at "vc"
  intro l0 nl0
  have nfl : l0 ≠ f := fun z => by rw [z, upd_same] at nl0; cases nl0
  have lay : ∀ k, (layer hs p k).length ≤ 41 := fun k => by
    have := List.Nodup.length_le_of_subset (layer_nodup (hs := hs) (p := p) k) (l₂ := p :: blocks hs.length) fun c hc => by
      cases k with
      | zero => rw [List.mem_singleton.mp hc]; exact List.mem_cons_self
      | succ k => exact List.mem_cons_of_mem _ (blocks_mem.mpr ((mem_layer tr k c).mp hc).1)
    rw [List.length_cons, blocks_len] at this
    omega
  have fnl : ∀ k, (found hs p k).length ≤ 40 := fun k => by
    have := List.Nodup.length_le_of_subset (found_nodup (hs := hs) (p := p) tr k) (l₂ := blocks hs.length) fun c hc => blocks_mem.mpr ((mem_found tr k c).mp hc).1
    rw [blocks_len] at this
    omega
  walk_at "vc"
  refine v_rg1 (by omega) ?_
  refine v_loop0 (fun i σ' H' => ∃ (xs : List V) (l : Addr) (v5 v6 v7 : Option V), σ' = [some (.ref h), some (.int p), some (.int s), some (.ref f), some (.ref l), v5, v6, v7, none] ∧ H' f = some (.lst xs) ∧ Prs H' xs ((found hs p i).map fun c => (c, stp hs c)) ∧
      H' l = some (.lst ((layer hs p i).map V.int)) ∧ Same H H') ⟨[], l0, none, none, none, rfl, by rw [upd_ne nfl.symm, upd_same], .nil, upd_same, (same_upd nf).trans (same_upd nl0)⟩ ?_ ?_
  · rintro i σ' H1 hi ⟨xs, l, v5, v6, v7, rfl, hf, pr, hl, s1⟩
    walk_at "vc"
    intro la nla
    have nlf : la ≠ f := fun z => by rw [z, hf] at nla; cases nla
    have nll : la ≠ l := fun z => by rw [z, hl] at nla; cases nla
    have nlaH : H la = none := s1.free nla
    have hh1 := s1 _ _ hh
    walk_at "vc"
    refine v_itL (SqL.of (same_upd (o := .lst []) nla _ _ hl)) ?_
    have lyb : ∀ c ∈ layer hs p i, 0 ≤ c ∧ c ≤ hs.length := fun c hc => by
      cases i with
      | zero => rw [List.mem_singleton.mp hc]; exact ⟨p0, p1⟩
      | succ k =>
        have := ((mem_layer tr k c).mp hc).1
        omega
    have pre : ∀ j, (((layer hs p i).take j).flatMap (hang hs)).length ≤ 41 := fun j => by
      have e : layer hs p (i + 1) = ((layer hs p i).take j).flatMap (hang hs) ++ ((layer hs p i).drop j).flatMap (hang hs) := by
        rw [← List.flatMap_append, List.take_append_drop]
        rfl
      have := lay (i + 1)
      rw [e, List.length_append] at this
      omega
    refine v_loopL (xs := (layer hs p i).map V.int) (fun j σ' H' => ∃ (ys : List V) (v7 : Option V), σ' = [some (.ref h), some (.int p), some (.int s), some (.ref f), some (.ref l), some (.int i), some (.ref la), v7, none] ∧ H' la = some (.lst ys) ∧
        Prs H' ys ((((layer hs p i).take j).flatMap (hang hs)).map fun c => (c, stp hs c)) ∧ Same H1 H') ⟨[], _, rfl, upd_same, .nil, same_upd nla⟩ (fun j σ' H' hj ⟨_, _, _, _, _, s⟩ => SqL.of (s _ _ hl)) ?_ ?_
    · rintro j x σ' H2 hx ⟨ys, v7, rfl, hla, py, s2⟩
      rw [List.getElem?_map] at hx
      cases ec : (layer hs p i)[j]? with
      | none => rw [ec] at hx; cases hx
      | some c =>
        rw [ec] at hx
        cases hx
        have cb := lyb c (List.mem_of_getElem? ec)
        walk_at "vc"
        refine ⟨h, hs, c, rfl, s2 _ _ hh1, tr, cb.1, cb.2, fun a H3 s3 na ha => ?_⟩
        refine v_itL (SqL.of ha) ?_
        have hgl : (hang hs c).length ≤ 40 := Nat.le_trans (hangN_len _) l40
        refine v_lcL (xs := (hang hs c).map V.int) (fun B k H' => ∃ zs : List V, H' B = some (.lst zs) ∧ Prs H' zs (((hang hs c).take k).map fun c => (c, stp hs c)) ∧ Same H3 H') (fun B nB => ⟨[], upd_same, .nil, same_upd nB⟩) (fun B k H' nB hk ⟨_, _, _, s⟩ => SqL.of (s _ _ ha)) ?_ ?_
        · rintro B k x H' nB hx ⟨zs, hB, pz, s4⟩
          rw [List.getElem?_map] at hx
          cases ey : (hang hs c)[k]? with
          | none => rw [ey] at hx; cases hx
          | some y =>
            rw [ey] at hx
            cases hx
            have ym := mem_hang.mp (List.mem_of_getElem? ey)
            refine v_turn rfl ?_
            walk_at "vc"
            intro t nt
            have hB' := same_upd (o := .tup [.int y, .int c]) nt _ _ hB
            have pz' := pz.same (same_upd (o := .tup [.int y, .int c]) nt)
            have s5 := s4.trans (same_upd (o := .tup [.int y, .int c]) nt)
            have ht : (upd H' t (.tup [.int y, .int c])) t = some (.tup [.int y, .int c]) := upd_same
            generalize upd H' t (.tup [.int y, .int c]) = H5 at *
            have hkl := (List.getElem?_eq_some_iff.mp ey).1
            have zl := pz.len
            rw [List.length_map, List.length_take] at zl
            have st : SameT H5 (upd H5 B (.lst (zs ++ [.ref t]))) := sameT_mut hB'
            refine ⟨zs, hB', small1000 (by omega), zs ++ [.ref t], upd_same, ?_, same_mut s5 nB⟩
            rw [take_snoc ey, List.map_append]
            refine (pz'.tups st).app (.cons (st _ _ ?_) .nil)
            rw [ym.2]
            exact ht
        · rintro B H4 nB ⟨zs, hB, pz, s4⟩
          rw [List.length_map, List.take_length] at pz
          have zl := pz.len
          have yl := py.len
          rw [List.length_map] at zl yl
          have pj := pre j
          have hla4 := s4 _ _ (s3 _ _ hla)
          walk_at "vc"
          refine v_extend hla4 hB (by omega) ?_
          walk_at "vc"
          have st : SameT H4 (upd H4 la (.lst (ys ++ zs))) := sameT_mut hla4
          refine ⟨ys ++ zs, _, rfl, upd_same, ?_, same_mut (s2.trans (s3.trans s4)) nla⟩
          rw [take_snoc ec, List.flatMap_append, List.map_append]
          refine (((py.same s3).same s4).tups st).app ?_
          rw [List.flatMap_cons, List.flatMap_nil, List.append_nil]
          exact pz.tups st
    · rintro σ' H2 ⟨ys, v7, rfl, hla, py, s2⟩
      rw [List.length_map, List.take_length] at py
      have py : Prs H2 ys ((layer hs p (i + 1)).map fun c => (c, stp hs c)) := py
      have yl := py.len
      have xl := pr.len
      rw [List.length_map] at yl xl
      have b1 := lay (i + 1)
      have b2 := fnl i
      have hf2 := s2 _ _ hf
      walk_at "vc"
      refine v_extend hf2 hla (by omega) ?_
      have st : SameT H2 (upd H2 f (.lst (xs ++ ys))) := sameT_mut hf2
      have s3 : Same H (upd H2 f (.lst (xs ++ ys))) := same_mut (s1.trans s2) nf
      have hf3 : (upd H2 f (.lst (xs ++ ys))) f = some (.lst (xs ++ ys)) := upd_same
      have hla3 : (upd H2 f (.lst (xs ++ ys))) la = some (.lst ys) := by rw [upd_ne nlf]; exact hla
      have pf3 := ((pr.same s2).tups st).app (py.tups st)
      have py3 := py.tups st
      generalize upd H2 f (.lst (xs ++ ys)) = H3 at *
      walk_at "vc"
      refine v_itL (SqL.of hla3) ?_
      refine v_lcL (xs := ys) (fun B k H' => H' B = some (.lst (((layer hs p (i + 1)).take k).map V.int)) ∧ Same H3 H') (fun B nB => ⟨upd_same, same_upd nB⟩) (fun B k H' nB hk w => SqL.of (w.2 _ _ hla3)) ?_ ?_
      · rintro B k x H' nB hx ⟨hB, s4⟩
        obtain ⟨t, a, b, rfl, ht, ep⟩ := py3.get hx
        rw [List.getElem?_map] at ep
        cases ec : (layer hs p (i + 1))[k]? with
        | none => rw [ec] at ep; cases ep
        | some c =>
          rw [ec] at ep
          cases ep
          refine v_gtup2 (s4 _ _ ht) ⟨rfl, ?_⟩
          walk_at "vc"
          have hkl := (List.getElem?_eq_some_iff.mp ec).1
          refine ⟨_, hB, by rw [List.length_map, List.length_take]; exact small1000 (by omega), ?_, same_mut s4 nB⟩
          rw [upd_same, take_snoc ec, List.map_append]
          rfl
      · rintro B H4 nB ⟨hB, s4⟩
        rw [show ys.length = (layer hs p (i + 1)).length by omega, List.take_length] at hB
        walk_at "vc"
        refine ⟨xs ++ ys, B, _, _, _, rfl, s4 _ _ hf3, ?_, hB, s3.trans s4⟩
        show Prs H4 (xs ++ ys) ((found hs p i ++ layer hs p (i + 1)).map fun c => (c, stp hs c))
        rw [List.map_append]
        exact pf3.same s4
  · rintro σ' H1 ⟨xs, l, v5, v6, v7, rfl, hf, pr, hl, s1⟩
    rw [show ((s : Int)).toNat = s by omega] at pr
    walk_at "vc"
    refine v_sortP hf pr fun ys qs g pm so ng py => ?_
    walk_at "vc"
    refine v_tupOfL upd_same fun u nu => ?_
    rw [ties_of tr pm so] at py
    exact q u ys _ (s1.trans ((same_upd ng).trans (same_upd nu))) (s1.free ((same_upd ng).free nu)) upd_same ((py.same (same_upd ng)).same (same_upd nu))
end

section
variable {K : PySem.W.Frag} {H : Hp} {Q : VK} {E : XK} {vs : List V} {cTree cNoView cNoPlace cOtherBlocks cNoOrder : Addr}
theorem v_ninT {a : Addr} {z : Int} {ns : List Int} (h : H a = some (.tup (ns.map V.int))) (q : Q (.bl (!decide (z ∈ ns))) H) : rIn K true (.int z) (.ref a) H Q :=
  ⟨a, _, rfl, .inr (SqT.of h), rfl, flat_ints ns, by rw [inV_ints]; exact q⟩
theorem mov_self {hs : List Int} {b : Int} (b0 : 1 ≤ b) (b1 : b ≤ hs.length) : movL hs b (stp hs b) = hs := by
  refine row_ext List.length_set fun c c0 c1 => ?_
  unfold movL
  rw [stp_set b0 b1 (by omega)]
  split
  · rename_i e
    rw [e]
  · rfl
theorem pure_l_move_seen (o : OwnC K cTree) (nf : NoAttr K cTree "hung") (h : spSeen cTree vs H Q E) : t_l_move_seen K cNoView cOtherBlocks cTree { nx := fun _ H' => Q .non H', rt := Q } (start ["_law_tree", "_law_later", "_law_view_here", "_law_block", "_law_place", "_law_told", "_law_elder"] vs) H := by
  obtain ⟨t, u, x, hs, b, p, v, w, rfl, ta, ua, tr, trm, iv, b0, b1, p0, p1, q⟩ := h
  obtain ⟨at', dx, h0, rfl, ha, hh⟩ := id ta
  unfold t_l_move_seen
  walk_at "vc"
  have lm : hs.length = (movL hs b p).length := List.length_set.symm
  refine ⟨.ref at', u, x, hs, movL hs b p, rfl, ta, ua, tr, trm, iv.thing, fun ne => absurd lm ne, fun _ => ⟨fun nv => absurd ⟨v, w, iv⟩ nv, fun v' w' iv' a H1 s1 na hta => ?_⟩⟩
  obtain ⟨rfl, rfl⟩ := iv.uniq iv'
  obtain ⟨va, rfl, rv, bv, bw⟩ := id iv
  have rv1 := SqT.rd (K := K) (Rd.same s1 rv)
  walk_at "vc"
  refine v_fldK o nf (s1 _ _ ha) rfl ?_
  have hh1 := s1 _ _ hh
  walk_at "vc"
  refine v_ixT' hh1 (getI tr.2.2.1 (by omega) (by omega) b1) ?_
  walk_at "vc"
  refine v_ite (fun e => ?_) (fun ne => ?_)
  · subst e
    walk_at "vc"
    intro z nz
    rw [mov_self b0 b1, unl_self] at hta
    refine v_eqTI (hs := []) (ks := []) (same_upd (o := .tup []) nz _ _ hta) upd_same ?_
    exact q _ (s1.trans (same_upd nz))
  · walk_at "vc"
    refine v_cut (fun σ' H' => σ' = [some (.ref at'), some u, some (.ref va), some (.int b), some (.int p), some (.ref a), some (.int (stp hs b))] ∧ H' = H1) ?_ ?_
    · walk_at "vc"
      refine v_ixT rv1 (at_of (j := 0) rfl rfl) ?_
      walk_at "vc"
      refine v_ite (fun hv => ?_) (fun hv => ?_)
      · walk_at "vc"
        refine v_ninT hta ?_
        rw [decide_eq_true (show b ∈ unl hs (movL hs b p) v w from seen_b tr trm b0 b1 ne (by omega))]
        walk_at "vc"
        exact ⟨rfl, rfl⟩
      · walk_at "vc"
        exact ⟨rfl, rfl⟩
    · rintro σ' H' ⟨rfl, rfl⟩
      walk_at "vc"
      refine v_ixT rv1 (at_of (j := 1) rfl rfl) ?_
      walk_at "vc"
      refine v_ite (fun hw => ?_) (fun hw => ?_)
      · exact q _ s1
      · walk_at "vc"
        refine v_inT hta ?_
        rw [decide_eq_true (show stp hs b ∈ unl hs (movL hs b p) v w from seen_e tr b0 b1 ne (by omega))]
        walk_at "vc"
        refine v_inT hta ?_
        rw [decide_eq_true (show p ∈ unl hs (movL hs b p) v w from seen_p tr trm b0 b1 p0 p1 ne (by omega))]
        exact q _ s1
theorem pure_l_named_right (o : OwnC K cTree) (nf : NoAttr K cTree "hung") (h : spNamed cTree vs H Q E) : t_l_named_right K cNoOrder cNoView cOtherBlocks cTree { nx := fun _ H' => Q .non H', rt := Q } (start ["_law_pool_here", "_law_tree", "_law_other", "_law_view_here", "_law_due", "_law_order", "_law_names", "_law_told", "_law_place"] vs) H := by
  obtain ⟨p, d, t, u, x, hs, ks, v, w, rfl, hp, ta, ua, tr, ur, hl, ⟨va, rfl, hva, bv, bw⟩, hd, q⟩ := h
  have ft := TreeAt.af hp ta
  have fu := TreeAt.af hp ua
  have fd := Af.tupP hp hd
  have fv := Af.tupP hp hva
  obtain ⟨at', dx, h0, rfl, ha, hh⟩ := id ta
  have l40 := tr.2.1
  unfold t_l_named_right
  walk_at "vc"
  refine v_fldK o nf ha rfl ?_
  walk_at "vc"
  rw [show ((hs.map V.int).length : Int) = (hs.length : Nat) by rw [List.length_map]]
  refine ⟨p, hs.length, rfl, hp, tr.1, by omega, fun l ms H1 hp1 m1 nl fl lm nd rg => ?_⟩
  have om : Ord hs.length ms := ⟨lm, nd, rg⟩
  have om' : Ord ks.length ms := hl ▸ om
  walk_at "vc"
  refine v_tupOfL fl.1 fun od nod => ?_
  have hp2 := hp1.upd (o := .tup (ms.map V.int)) nod
  have m2 := m1.trans (Mo.upd (o := .tup (ms.map V.int)) hp1 nod)
  have hod : (upd H1 od (.tup (ms.map V.int))) od = some (.tup (ms.map V.int)) := upd_same
  generalize upd H1 od (.tup (ms.map V.int)) = H2 at *
  have ta2 := (ft.mo m2).at
  have ua2 := (fu.mo m2).at
  have hd2 := (m2 _ _ fd).1
  have hv2 := (m2 _ _ fv).1
  walk_at "vc"
  intro z nz
  walk_at "vc"
  refine v_catR (xs := [.int 0]) upd_same (.inl (same_upd (o := .tup [.int 0]) nz _ _ hod)) (by simp) (by show 1 + _ ≤ 1000; rw [List.length_map, om.len]; omega) fun nm H4 s4 _ hn => ?_
  have s24 := (same_upd (o := .tup [.int 0]) nz).trans s4
  have hod4 : Rd H4 od (.tup (ms.map V.int)) := .inl (s24 _ _ hod)
  walk_at "vc"
  refine ⟨.ref at', .ref od, hs, rfl, ta2.same s24, tr, ord_thing om hod4, fun bad => absurd ⟨ms, od, rfl, hod4, om⟩ bad, fun ms' io ct dxc hc' H5 s5 nct hct hhc => ?_⟩
  obtain rfl := io.eq hod4
  walk_at "vc"
  refine ⟨u, .ref od, ks, rfl, (ua2.same s24).same s5, ur, ord_thing om' (Rd.same s5 hod4), fun bad => absurd ⟨ms', od, rfl, Rd.same s5 hod4, om'⟩ bad, fun ms'' io cu dxu hu' H6 s6 ncu hcu hhu => ?_⟩
  obtain rfl := io.eq (Rd.same s5 hod4)
  walk_at "vc"
  have s26 := s24.trans (s5.trans s6)
  have iv6 : IsView H6 (.ref va) v w := ⟨va, rfl, .inl (s26 _ _ hv2), bv, bw⟩
  have lc : (callL hs ms'').length = (callL ks ms'').length := by rw [callL_len, callL_len, hl]
  refine ⟨.ref ct, .ref cu, .ref va, callL hs ms'', callL ks ms'', rfl, ⟨ct, dxc, hc', rfl, s6 _ _ hct, s6 _ _ hhc⟩, ⟨cu, dxu, hu', rfl, hcu, hhu⟩, tr.call om, ur.call om', iv6.thing, fun ne => absurd lc ne, fun _ => ⟨fun nv => absurd ⟨v, w, iv6⟩ nv, fun v' w' iv' a H7 s7 na hta => ?_⟩⟩
  obtain ⟨rfl, rfl⟩ := iv6.uniq iv'
  have s27 := s26.trans s7
  have hn7 := s7 _ _ (s6 _ _ (s5 _ _ hn))
  have hd7 := s27 _ _ hd2
  walk_at "vc"
  refine v_itT (SqT.of hd7) ?_
  have ul := unl_len (hs := hs) (ks := ks) (v := v) (w := w)
  refine v_lcT (xs := (unl hs ks v w).map V.int) (fun B i H' => H' B = some (.lst ((((unl hs ks v w).take i).map (stp ms'')).map V.int)) ∧ Same H7 H') (fun B nB => ⟨upd_same, same_upd nB⟩) (fun B i H' nB hi k => SqT.of (k.2 _ _ hd7)) ?_ ?_
  · rintro B i y H' nB hy ⟨hB, s8⟩
    rw [List.getElem?_map] at hy
    cases ey : (unl hs ks v w)[i]? with
    | none => rw [ey] at hy; cases hy
    | some c =>
      rw [ey] at hy
      cases hy
      have cb := (mem_unl.mp (List.mem_of_getElem? ey)).1
      have hi := (List.getElem?_eq_some_iff.mp ey).1
      refine v_turn rfl ?_
      walk_at "vc"
      refine v_ixT' (s8 _ _ hn7) (nm_at om cb.1 cb.2) ?_
      refine ⟨_, hB, by rw [List.length_map, List.length_map, List.length_take]; exact small1000 (by omega), ?_, same_mut s8 nB⟩
      rw [upd_same, take_snoc ey, List.map_append, List.map_append]
      rfl
  · rintro B H8 nB ⟨hB, s8⟩
    rw [List.length_map, List.take_length] at hB
    walk_at "vc"
    refine ⟨B, _, rfl, SqL.of hB, fun S g pm so ng => ?_⟩
    walk_at "vc"
    refine v_tupOfL upd_same fun r nr => ?_
    have s9 := (same_upd (o := .lst (S.map V.int)) ng).trans (same_upd (o := .tup (S.map V.int)) nr)
    have e := unl_call tr ur hl om pm so
    subst e
    refine v_eqTI (s9 _ _ (s8 _ _ hta)) upd_same ?_
    rw [decide_eq_true rfl]
    have fin := s27.trans (s8.trans s9)
    exact q _ (hp2.same fin) (m2.trans (Mo.same hp2 fin))
end

section
variable {K : PySem.W.Frag} {H : Hp} {Q : VK} {E : XK} {vs : List V}
theorem tieN_len {hs : List Int} {p : Int} {s : Nat} (i : Nat) : (tieN hs p s i).length ≤ i := by
  refine Nat.le_trans (List.length_filter_le _ _) ?_
  rw [blocks_len]
  exact Nat.le_refl _
theorem ite_len (P : Prop) [Decidable P] (z : Int) : (if P then [z] else ([] : List Int)).length ≤ 1 := by
  split
  · exact Nat.le_refl _
  · exact Nat.zero_le _
theorem cut_take' {ns : List Int} {v : Nat} : cutV (ns.map V.int) none (some (v : Int)) = (ns.take v).map V.int := by
  rw [List.map_take]
  by_cases hv : v ≤ (ns.map V.int).length
  · exact cut_take rfl hv
  · unfold cutV
    rw [HT.sIx_none, HT.sIx_nat, Nat.min_eq_right (by omega)]
    show ((ns.map V.int).drop 0).take ((ns.map V.int).length - 0) = _
    rw [List.drop_zero, Nat.sub_zero, List.take_length, List.take_of_length_le (by omega)]
/-- the rows of ties, the rows of ways -/
structure Rws (H' : Hp) (hs : List Int) (T Wy : Addr) (rs ws : List Addr) (cs : Nat → List Int) (i : Nat) : Prop where
  t : H' T = some (.lst (rs.map V.ref))
  w : H' Wy = some (.lst (ws.map V.ref))
  wl : ws.length = i + 1
  wr : ∀ (j : Nat) (a : Addr), ws[j]? = some a → H' a = some (.lst ((wy hs j).map V.int)) ∧ a ∉ rs ∧ a ≠ T ∧ a ≠ Wy
  rr : ∀ (j : Nat) (a : Addr), rs[j]? = some a → ∃ zs, H' a = some (.lst zs) ∧ Prs H' zs ((cs j).map fun c => (c, stp hs c))
theorem Rws.same {H' H2 : Hp} {hs : List Int} {T Wy : Addr} {rs ws : List Addr} {cs : Nat → List Int} {i : Nat} (r : Rws H' hs T Wy rs ws cs i) (s : Same H' H2) : Rws H2 hs T Wy rs ws cs i where
  t := s _ _ r.t
  w := s _ _ r.w
  wl := r.wl
  wr := fun j a e => ⟨s _ _ (r.wr j a e).1, (r.wr j a e).2⟩
  rr := fun j a e => let ⟨zs, h, p⟩ := r.rr j a e; ⟨zs, s _ _ h, p.same s⟩
/-- a pair is put behind the row of place k -/
theorem Rws.put {H' : Hp} {hs : List Int} {T Wy : Addr} {rs ws : List Addr} {cs : Nat → List Int} {i k : Nat} {r t : Addr} {zs : List V} {c : Int} (R : Rws H' hs T Wy rs ws cs i) (nd : rs.Nodup) (nT : T ∉ rs) (nW : Wy ∉ rs)
    (hk : rs[k]? = some r) (hz : H' r = some (.lst zs)) (ht : H' t = some (.tup [.int c, .int (stp hs c)])) : Rws (upd H' r (.lst (zs ++ [.ref t]))) hs T Wy rs ws (fun j => if j = k then cs j ++ [c] else cs j) i := by
  have hr : r ∈ rs := List.mem_of_getElem? hk
  have st : SameT H' (upd H' r (.lst (zs ++ [.ref t]))) := sameT_mut hz
  refine ⟨?_, ?_, R.wl, fun j a e => ?_, fun j a e => ?_⟩
  · rw [upd_ne (fun z : T = r => nT (by rw [z]; exact hr))]; exact R.t
  · rw [upd_ne (fun z : Wy = r => nW (by rw [z]; exact hr))]; exact R.w
  · have q := R.wr j a e
    exact ⟨by rw [upd_ne (fun z : a = r => q.2.1 (by rw [z]; exact hr))]; exact q.1, q.2⟩
  · obtain ⟨ys, hy, py⟩ := R.rr j a e
    by_cases ej : j = k
    · subst ej
      rw [hk] at e
      cases e
      rw [hz] at hy
      cases hy
      refine ⟨_, upd_same, ?_⟩
      rw [if_pos rfl, List.map_append]
      exact (py.tups st).app (.cons (st _ _ ht) .nil)
    · have na : a ≠ r := fun z => by
        subst z
        exact ej ((List.getElem?_inj (List.getElem?_eq_some_iff.mp e).1 nd).mp (e.trans hk.symm))
      refine ⟨ys, by rw [upd_ne na]; exact hy, ?_⟩
      rw [if_neg ej]
      exact py.tups st
theorem pure_l_tellings (h : spRaws vs H Q E) : t_l_tellings K { nx := fun _ H' => Q .non H', rt := Q } (start ["_law_hung_here", "_law_view_here", "_law_ties", "_law_ways", "_law_block", "_law_way_here", "_law_place"] vs) H := by
  obtain ⟨h, x, hs, v, w, rfl, hh, tr, ⟨va, rfl, rv, bv, bw⟩, q⟩ := h
  have l40 := tr.2.1
  unfold t_l_tellings
  walk_at "vc"
  rw [show ((hs.map V.int).length : Int) = hs.length by rw [List.length_map]]
  refine v_rg1 (by omega) ?_
  refine v_lc0 (fun A i H' => ∃ rs : List Addr, H' A = some (.lst (rs.map V.ref)) ∧ rs.length = i ∧ rs.Nodup ∧ (∀ a ∈ rs, H' a = some (.lst []) ∧ H a = none ∧ a ≠ A) ∧ Same H H') (fun A nA => ⟨[], upd_same, rfl, List.nodup_nil, fun a h => (by cases h), same_upd nA⟩) ?_ ?_
  · rintro A i H' nA hi ⟨rs, hA, lr, nd, rr, s1⟩
    refine v_turn rfl ?_
    walk_at "vc"
    intro r nr
    have nAr : A ≠ r := ne_of_none hA nr
    refine ⟨rs.map V.ref, same_upd nr _ _ hA, by rw [List.length_map]; exact small1000 (by omega), rs ++ [r], by rw [upd_same, List.map_append]; rfl, by rw [List.length_append, lr]; rfl, ?_, ?_, same_mut (s1.trans (same_upd nr)) nA⟩
    · refine List.nodup_append.mpr ⟨nd, List.nodup_cons.mpr ⟨List.not_mem_nil, List.nodup_nil⟩, fun a ha b hb e => ?_⟩
      rw [List.mem_singleton.mp hb] at e
      have := (rr a ha).1
      rw [e, nr] at this
      cases this
    · intro a ha
      rcases List.mem_append.mp ha with ha | ha
      · have q := rr a ha
        exact ⟨by rw [upd_ne q.2.2]; exact same_upd nr _ _ q.1, q.2⟩
      · rw [List.mem_singleton.mp ha]
        exact ⟨by rw [upd_ne nAr.symm, upd_same], s1.free nr, nAr.symm⟩
  rintro T H1 nT ⟨rs, hT, lr, nd, rr, s1⟩
  have lr : rs.length = hs.length + 1 := by omega
  walk_at "vc"
  intro e0 ne0
  walk_at "vc"
  intro Wy nWy
  have s2 := (same_upd (o := .lst []) ne0).trans (same_upd (o := .lst [.ref e0]) nWy)
  have he : (upd (upd H1 e0 (.lst [])) Wy (.lst [.ref e0])) e0 = some (.lst []) := same_upd nWy _ _ upd_same
  have hW : (upd (upd H1 e0 (.lst [])) Wy (.lst [.ref e0])) Wy = some (.lst [.ref e0]) := upd_same
  have nW1 : H1 Wy = none := (same_upd ne0).free nWy
  have hWT : T ≠ Wy := ne_of_none hT nW1
  have nTr : T ∉ rs := fun z => (rr T z).2.2 rfl
  have nWr : Wy ∉ rs := fun z => by rw [(rr Wy z).1] at nW1; cases nW1
  have neW : e0 ≠ Wy := fun z => by rw [← z, upd_same] at nWy; cases nWy
  have neT : e0 ≠ T := fun z => by rw [z, hT] at ne0; cases ne0
  have ner : e0 ∉ rs := fun z => by rw [(rr e0 z).1] at ne0; cases ne0
  have nWH : H Wy = none := s1.free nW1
  have R0 : Rws (upd (upd H1 e0 (.lst [])) Wy (.lst [.ref e0])) hs T Wy rs [e0] (fun j => tieN hs j w 0) 0 := by
    refine ⟨s2 _ _ hT, hW, rfl, fun j a e => ?_, fun j a e => ?_⟩
    · cases j with
      | zero =>
        cases e
        refine ⟨?_, ner, neT, neW⟩
        rw [he]
        show some (HO.lst []) = some (HO.lst ((wy hs 0).map V.int))
        rw [wy_zero]
        rfl
      | succ j => cases e
    · exact ⟨[], s2 _ _ (rr a (List.mem_of_getElem? e)).1, .nil⟩
  have s3 := s1.trans s2
  generalize upd (upd H1 e0 (.lst [])) Wy (.lst [.ref e0]) = H2 at *
  have hh2 := s3 _ _ hh
  walk_at "vc"
  rw [show ((hs.map V.int).length : Int) = hs.length by rw [List.length_map]]
  refine v_rg2 (by omega) ?_
  refine v_loop2 (fun i σ' H' => ∃ (ws : List Addr) (v4 v5 v6 : Option V), σ' = [some (.ref h), some (.ref va), some (.ref T), some (.ref Wy), v4, v5, v6] ∧ Rws H' hs T Wy rs ws (fun j => tieN hs j w i) i ∧ Same H H')
    ⟨[e0], none, none, none, rfl, R0, s3⟩ ?_ ?_
  · rintro i σ' H' hi ⟨ws, v4, v5, v6, rfl, R, s4⟩
    have ei : (1 : Int) + (i : Int) = (i : Int) + 1 := by omega
    rw [ei]
    have hh' := s4 _ _ hh
    walk_at "vc"
    refine ⟨h, hs, (i : Int) + 1, rfl, hh', tr, by omega, by omega, fun f H3 s5 nf hf => ?_⟩
    have R3 := R.same s5
    have hW3 := R3.w
    walk_at "vc"
    refine v_append hW3 (by rw [List.length_map, R.wl]; omega) ?_
    have nfW : f ≠ Wy := fun z => by rw [z, R.w] at nf; cases nf
    have nfT : f ≠ T := fun z => by rw [z, R.t] at nf; cases nf
    have nfr : f ∉ rs := fun z => by
      obtain ⟨j, hj⟩ := List.mem_iff_getElem?.mp z
      obtain ⟨zs, hz, _⟩ := R.rr j f hj
      rw [nf] at hz
      cases hz
    have R4 : Rws (upd H3 Wy (.lst (ws.map V.ref ++ [.ref f]))) hs T Wy rs (ws ++ [f]) (fun j => tieN hs j w i) (i + 1) := by
      refine ⟨by rw [upd_ne hWT]; exact R3.t, by rw [upd_same, List.map_append]; rfl, by rw [List.length_append, R.wl]; rfl, fun j a e => ?_, fun j a e => ?_⟩
      · by_cases hj : j < ws.length
        · rw [List.getElem?_append_left hj] at e
          have q := R3.wr j a e
          exact ⟨by rw [upd_ne q.2.2.2]; exact q.1, q.2⟩
        · rw [List.getElem?_append_right (by omega)] at e
          have h0 : j - ws.length = 0 := by
            have := (List.getElem?_eq_some_iff.mp e).1
            rw [List.length_singleton] at this
            omega
          rw [h0] at e
          cases e
          refine ⟨?_, nfr, nfT, nfW⟩
          rw [upd_ne nfW, hf, show (j : Int) = (i : Int) + 1 by have := R.wl; omega]
      · obtain ⟨zs, hz, pz⟩ := R3.rr j a e
        have na : a ≠ Wy := fun z => nWr (by rw [← z]; exact List.mem_of_getElem? e)
        exact ⟨zs, by rw [upd_ne na]; exact hz, pz.tups (sameT_mut hW3)⟩
    have s6 : Same H (upd H3 Wy (.lst (ws.map V.ref ++ [.ref f]))) := same_mut (s4.trans s5) nWH
    have hf4 : (upd H3 Wy (.lst (ws.map V.ref ++ [.ref f]))) f = some (.lst ((wy hs ((i : Int) + 1)).map V.int)) := by rw [upd_ne nfW]; exact hf
    generalize upd H3 Wy (.lst (ws.map V.ref ++ [.ref f])) = H4 at *
    walk_at "vc"
    refine v_ixT (SqT.rd (Rd.same s6 rv)) (at_of (j := 1) rfl rfl) ?_
    walk_at "vc"
    refine v_slL' hf4 fun g ng => ?_
    rw [cut_take']
    have R5 := R4.same (same_upd (o := .lst (((wy hs ((i : Int) + 1)).take w).map V.int)) ng)
    have s7 := s6.trans (same_upd (o := .lst (((wy hs ((i : Int) + 1)).take w).map V.int)) ng)
    have hg : (upd H4 g (.lst (((wy hs ((i : Int) + 1)).take w).map V.int))) g = some (.lst (((wy hs ((i : Int) + 1)).take w).map V.int)) := upd_same
    have ngr : g ∉ rs := fun z => by
      obtain ⟨j, hj⟩ := List.mem_iff_getElem?.mp z
      obtain ⟨zs, hz, _⟩ := R4.rr j g hj
      rw [ng] at hz
      cases hz
    generalize upd H4 g (.lst (((wy hs ((i : Int) + 1)).take w).map V.int)) = H5 at *
    refine v_itL (SqL.of hg) ?_
    have wnd := wy_nodup tr _ ((i : Int) + 1) rfl (by omega) (by omega)
    refine v_loopL (xs := ((wy hs ((i : Int) + 1)).take w).map V.int) (fun j σ' H' => ∃ v6 : Option V, σ' = [some (.ref h), some (.ref va), some (.ref T), some (.ref Wy), some (.int ((i : Int) + 1)), some (.ref f), v6] ∧
        Rws H' hs T Wy rs (ws ++ [f]) (fun k => tieN hs k w i ++ if (k : Int) ∈ ((wy hs ((i : Int) + 1)).take w).take j then [(i : Int) + 1] else []) (i + 1) ∧ H' g = some (.lst (((wy hs ((i : Int) + 1)).take w).map V.int)) ∧ Same H H')
      ⟨_, rfl, by simpa using R5, hg, s7⟩ (fun j σ' H' hj ⟨_, _, _, e, _⟩ => SqL.of e) ?_ ?_
    · rintro j x σ' H6 hx ⟨v6, rfl, R6, hg6, s8⟩
      rw [List.getElem?_map] at hx
      cases ec : ((wy hs ((i : Int) + 1)).take w)[j]? with
      | none => rw [ec] at hx; cases hx
      | some c =>
        rw [ec] at hx
        cases hx
        have cm := List.mem_of_mem_take (List.mem_of_getElem? ec)
        have cb := wy_in tr (by omega) (by omega) c cm
        have hk : c.toNat < rs.length := by omega
        have ek : rs[c.toNat]? = some rs[c.toNat] := List.getElem?_eq_getElem hk
        obtain ⟨zs, hz, pz⟩ := R6.rr _ _ ek
        have zl := pz.len
        rw [List.length_map, List.length_append] at zl
        have tl := tieN_len (hs := hs) (p := ((c.toNat : Nat) : Int)) (s := w) i
        have hT6 := R6.t
        have hh6 := s8 _ _ hh
        walk_at "vc"
        refine v_ixL' hT6 (v := .ref rs[c.toNat]) (at_of (j := c.toNat) (by omega) (by rw [List.getElem?_map, ek]; rfl)) ?_
        walk_at "vc"
        refine v_ixT' hh6 (getI tr.2.2.1 (by omega) (by omega) (by omega)) ?_
        walk_at "vc"
        intro t nt
        have R7 := R6.same (same_upd (o := .tup [.int ((i : Int) + 1), .int (stp hs ((i : Int) + 1))]) nt)
        have hz7 := same_upd (o := .tup [.int ((i : Int) + 1), .int (stp hs ((i : Int) + 1))]) nt _ _ hz
        have hg7 := same_upd (o := .tup [.int ((i : Int) + 1), .int (stp hs ((i : Int) + 1))]) nt _ _ hg6
        have s9 := s8.trans (same_upd (o := .tup [.int ((i : Int) + 1), .int (stp hs ((i : Int) + 1))]) nt)
        have ht : (upd H6 t (.tup [.int ((i : Int) + 1), .int (stp hs ((i : Int) + 1))])) t = some (.tup [.int ((i : Int) + 1), .int (stp hs ((i : Int) + 1))]) := upd_same
        generalize upd H6 t (.tup [.int ((i : Int) + 1), .int (stp hs ((i : Int) + 1))]) = H7 at *
        walk_at "vc"
        refine v_append hz7 (by rw [zl]; exact Nat.le_trans (Nat.add_le_add tl (ite_len _ _)) (by omega)) ?_
        have R8 := R7.put nd nTr nWr ek hz7 ht
        have nrH : H rs[c.toNat] = none := (rr _ (List.getElem_mem hk)).2.1
        refine ⟨_, rfl, ?_, by rw [upd_ne (fun z => ngr (by rw [z]; exact List.getElem_mem hk))]; exact hg7, same_mut s9 nrH⟩
        have ecs : (fun k : Nat => if k = c.toNat then (tieN hs k w i ++ if (k : Int) ∈ ((wy hs ((i : Int) + 1)).take w).take j then [(i : Int) + 1] else []) ++ [(i : Int) + 1] else tieN hs k w i ++ if (k : Int) ∈ ((wy hs ((i : Int) + 1)).take w).take j then [(i : Int) + 1] else []) =
            fun k : Nat => tieN hs k w i ++ if (k : Int) ∈ ((wy hs ((i : Int) + 1)).take w).take (j + 1) then [(i : Int) + 1] else [] := by
          funext k
          rw [take_snoc ec]
          have nd' := (List.take_sublist w _).nodup wnd
          by_cases ek' : k = c.toNat
          · have ekc : (k : Int) = c := by omega
            have nm : ¬ (k : Int) ∈ ((wy hs ((i : Int) + 1)).take w).take j := fun m => by
              obtain ⟨l, hl⟩ := List.mem_iff_getElem?.mp m
              have hlj : l < j := by
                have := (List.getElem?_eq_some_iff.mp hl).1
                rw [List.length_take] at this
                omega
              rw [List.getElem?_take_of_lt hlj, ekc] at hl
              have := (List.getElem?_inj (List.getElem?_eq_some_iff.mp hl).1 nd').mp (hl.trans ec.symm)
              omega
            rw [if_pos ek', if_neg nm, if_pos (List.mem_append_right _ (by rw [ekc]; exact List.mem_singleton.mpr rfl)), List.append_nil]
          · rw [if_neg ek']
            have nkc : (k : Int) ≠ c := by omega
            congr 1
            by_cases m : (k : Int) ∈ ((wy hs ((i : Int) + 1)).take w).take j
            · rw [if_pos m, if_pos (List.mem_append_left _ m)]
            · rw [if_neg m, if_neg (fun z => by
                rcases List.mem_append.mp z with z | z
                · exact m z
                · exact nkc (List.mem_singleton.mp z))]
        rw [ecs] at R8
        exact R8
    · rintro σ' H6 ⟨v6, rfl, R6, hg6, s8⟩
      rw [List.length_map, List.take_length] at R6
      refine ⟨ws ++ [f], _, _, _, rfl, ?_, s8⟩
      have e : (fun k : Nat => tieN hs k w i ++ if (k : Int) ∈ (wy hs ((i : Int) + 1)).take w then [(i : Int) + 1] else []) = fun k : Nat => tieN hs k w (i + 1) := by
        funext k
        rw [tieN_succ]
      rw [e] at R6
      exact R6
  · rintro σ' H6 ⟨ws, v4, v5, v6, rfl, R, s4⟩
    rw [show ((hs.length : Int) + 1 - 1).toNat = hs.length by omega] at R
    have hW := R.w
    walk_at "vc"
    rw [show ((ws.map V.ref).length : Int) = hs.length + 1 by rw [List.length_map, R.wl]; omega]
    refine v_rg1 (by omega) ?_
    refine v_lc0 (fun A i H' => ∃ xs : List V, H' A = some (.lst xs) ∧ xs.length = i ∧ (∀ (j : Nat) (y : V), xs[j]? = some y → TellAt H' y (tell hs v w j)) ∧ Same H6 H') (fun A nA => ⟨[], upd_same, rfl, fun j y e => (by cases e), same_upd nA⟩) ?_ ?_
    · rintro A j H' nA hj ⟨xs, hA, lx, tx, s5⟩
      have hjw : j < ws.length := by rw [R.wl]; omega
      have hjr : j < rs.length := by omega
      have R' := R.same s5
      have ew := R'.wr j _ (List.getElem?_eq_getElem hjw)
      obtain ⟨zs, hz, pz⟩ := R'.rr j _ (List.getElem?_eq_getElem hjr)
      refine v_turn rfl ?_
      walk_at "vc"
      refine v_ixL' R'.w (v := .ref ws[j]) (at_of (j := j) rfl (by rw [List.getElem?_map, List.getElem?_eq_getElem hjw]; rfl)) ?_
      walk_at "vc"
      refine v_ixT (SqT.rd (Rd.same (s4.trans s5) rv)) (at_of (j := 0) rfl rfl) ?_
      walk_at "vc"
      refine v_slL' ew.1 fun g ng => ?_
      rw [cut_take']
      have u1 := same_upd (o := .lst (((wy hs j).take v).map V.int)) ng
      have hg : (upd H' g (.lst (((wy hs j).take v).map V.int))) g = some (.lst (((wy hs j).take v).map V.int)) := upd_same
      generalize upd H' g (.lst (((wy hs j).take v).map V.int)) = H8 at *
      walk_at "vc"
      refine v_tupOfL hg fun u nu => ?_
      have u2 := u1.trans (same_upd (o := .tup (((wy hs j).take v).map V.int)) nu)
      have hu : (upd H8 u (.tup (((wy hs j).take v).map V.int))) u = some (.tup (((wy hs j).take v).map V.int)) := upd_same
      generalize upd H8 u (.tup (((wy hs j).take v).map V.int)) = H9 at *
      walk_at "vc"
      refine v_ixL' (u2 _ _ R'.t) (v := .ref rs[j]) (at_of (j := j) rfl (by rw [List.getElem?_map, List.getElem?_eq_getElem hjr]; rfl)) ?_
      walk_at "vc"
      refine v_tupOfL (u2 _ _ hz) fun b nb => ?_
      have u3 := same_upd (o := .tup zs) nb
      have hb : (upd H9 b (.tup zs)) b = some (.tup zs) := upd_same
      have hu' := u3 _ _ hu
      have pz' := (pz.same u2).same u3
      have u4 := u2.trans u3
      generalize upd H9 b (.tup zs) = H10 at *
      walk_at "vc"
      intro t nt
      have u5 := same_upd (o := .tup [.ref u, .ref b]) nt
      have ty : TellAt (upd H10 t (.tup [.ref u, .ref b])) (.ref t) (tell hs v w j) := by
        refine ⟨t, u, b, zs, rfl, upd_same, u5 _ _ hu', u5 _ _ hb, pz'.same u5, ?_, ?_⟩
        · show ((wy hs j).take v).length ≤ 1000
          rw [List.length_take]; omega
        · show (ties hs j w).length ≤ 1000
          unfold ties tie
          rw [List.length_map]
          exact Nat.le_trans (tieN_len _) (by omega)
      have u6 := u4.trans u5
      refine ⟨xs, u6 _ _ hA, small1000 (by omega), xs ++ [.ref t], upd_same, by rw [List.length_append, lx]; rfl, fun k z ek => ?_, same_mut (s5.trans u6) nA⟩
      have st : SameT _ (upd (upd H10 t (.tup [.ref u, .ref b])) A (.lst (xs ++ [.ref t]))) := sameT_mut (u6 _ _ hA)
      by_cases hk : k < xs.length
      · rw [List.getElem?_append_left hk] at ek
        exact ((tx k z ek).same u6).tups st
      · rw [List.getElem?_append_right (by omega)] at ek
        have h0 : k - xs.length = 0 := by
          have := (List.getElem?_eq_some_iff.mp ek).1
          rw [List.length_singleton] at this
          omega
        rw [h0] at ek
        cases ek
        rw [show k = j by omega]
        exact ty.tups st
    · rintro A H' nA ⟨xs, hA, lx, tx, s5⟩
      exact q A H' (s4.trans s5) (s4.free nA) ⟨xs, hA, by omega, tx⟩
end

section
variable {K : PySem.W.Frag} {H : Hp} {Q : VK} {E : XK} {vs : List V} {cTree cBadTree cNoOrder cNoBlock cNoPlace cBeneath cNoView cOtherBlocks : Addr} {hs ms : List Int} {p : Addr}
theorem v_neTI {a b : Addr} {hs ks : List Int} (h1 : H a = some (.tup (hs.map V.int))) (h2 : H b = some (.tup (ks.map V.int))) (q : Q (.bl (!decide (hs = ks))) H) : rNeD K (.ref a) (.ref b) H Q := by
  refine ⟨_, _, .tup (SqT.of h1) (dpAll_ints hs), .tup (SqT.of h2) (dpAll_ints ks), shaped_ints hs, shaped_ints ks, ?_⟩
  show Q (.bl (!PyData.eqvAll (hs.map PyData.int) (ks.map PyData.int))) H
  rw [eqvAll_ints]
  exact q
theorem v_ninL {a : Addr} {z : Int} {ns : List Int} (h : H a = some (.lst (ns.map V.int))) (q : Q (.bl (!decide (z ∈ ns))) H) : rIn K true (.int z) (.ref a) H Q :=
  ⟨a, _, rfl, .inl (SqL.of h), rfl, flat_ints ns, by rw [inV_ints]; exact q⟩
theorem prs_alike {d : Nat} {xs ys : List V} {ps : List (Int × Int)} (a : Prs H xs ps) (b : Prs H ys ps) : ∀ (i : Nat) (u v : V), xs[i]? = some u → ys[i]? = some v → Alike (d + 1) H u v := fun i u v hu hv => by
  obtain ⟨t, x, y, rfl, ht, e⟩ := a.get hu
  obtain ⟨s, x', y', rfl, hs, e'⟩ := b.get hv
  rw [e] at e'
  cases e'
  exact alike_T (hs := [x, y]) ht hs (by show 2 ≤ 1000; decide)
theorem tell_alike {x y : V} {tl : List Int × List (Int × Int)} (a : TellAt H x tl) (b : TellAt H y tl) : Alike 3 H x y := by
  obtain ⟨t, u, w, xs, rfl, h1, h2, h3, h4, h5, h6⟩ := a
  obtain ⟨t', u', w', ys, rfl, k1, k2, k3, k4, k5, k6⟩ := b
  refine .inr ⟨t, t', _, _, rfl, rfl, .inl ⟨h1, k1⟩, by show 2 ≤ 1000; decide, rfl, fun i a b ha hb => ?_⟩
  match i, ha, hb with
  | 0, ha, hb => cases ha; cases hb; exact alike_T h2 k2 h5
  | 1, ha, hb =>
    cases ha
    cases hb
    exact .inr ⟨w, w', xs, ys, rfl, rfl, .inl ⟨h3, k3⟩, by rw [h4.len]; exact h6, by rw [h4.len, k4.len], prs_alike h4 k4⟩
end
section
variable {K : PySem.W.Frag} {H : Hp} {Q : VK} {E : XK} {vs : List V} {cTree cBadTree cNoOrder cNoBlock cNoPlace cBeneath cNoView cOtherBlocks : Addr} {hs ms : List Int} {p : Addr}
theorem moT {H H' : Hp} (hp : Pool H p) (m : Mo p H H') : SameT H H' := fun _ _ h => (m _ _ (Af.tupP hp h)).1
/-- what all places tell, whatever is drawn -/
def TellsAf (H : Hp) (p a : Addr) (hs : List Int) (v w : Nat) : Prop := ∃ xs : List V, Af H p a (.lst xs) ∧ xs.length = hs.length + 1 ∧ ∀ (i : Nat) (x : V), xs[i]? = some x → TellAt H x (tell hs v w i)
theorem TellsAf.mo {H H' : Hp} {a : Addr} {v w : Nat} (h : TellsAf H p a hs v w) (hp : Pool H p) (m : Mo p H H') : TellsAf H' p a hs v w := by
  obtain ⟨xs, h1, h2, h3⟩ := h
  exact ⟨xs, m _ _ h1, h2, fun i x e => (h3 i x e).tups (moT hp m)⟩
def ViewAf (H : Hp) (p a : Addr) (v w : Nat) : Prop := Af H p a (.tup [.int v, .int w]) ∧ v ≤ 4 ∧ w ≤ 4
theorem ViewAf.view {H : Hp} {a : Addr} {v w : Nat} (h : ViewAf H p a v w) : IsView H (.ref a) v w := ⟨a, rfl, .inl h.1.1, h.2⟩
theorem ViewAf.mo {H H' : Hp} {a : Addr} {v w : Nat} (h : ViewAf H p a v w) (m : Mo p H H') : ViewAf H' p a v w := ⟨m _ _ h.1, h.2⟩
end

section
variable {K : PySem.W.Frag} {H : Hp} {Q : VK} {E : XK} {vs : List V} {cTree cBadTree cNoOrder cNoBlock cNoPlace cBeneath cNoView cOtherBlocks : Addr}
theorem pure_law (o : OwnC K cTree) (nf : NoAttr K cTree "hung") (h : spLaw K vs H Q E) : t_law K cBadTree cBeneath cNoBlock cNoPlace cNoView cOtherBlocks cTree { nx := fun _ H' => Q .non H', rt := Q }
    (start ["_law_script", "_law_pool_here", "_law_turn", "_law_many_here", "_law_hung_here", "_law_tree", "_law_view_here", "_law_tellings_here", "_law_place", "_law_other", "_law_change", "_law_block", "_law_later", "_law_due", "_law_wider", "_law_one"] vs) H := by
  obtain ⟨a, ns, rfl, hS, hl, q⟩ := h
  unfold t_law
  walk_at "vc"
  refine ⟨a, ns, rfl, hS, hl, fun p H1 hp1 => ?_⟩
  walk_at "vc"
  refine v_rg1 (by decide) ?_
  refine v_loop0 (fun i σ' H' => Pool H' p ∧ ∃ v2 v3 v4 v5 v6 v7 v8 v9 v10 v11 v12 v13 v14 : Option V, σ' = [some (.ref a), some (.ref p), v2, v3, v4, v5, v6, v7, v8, v9, v10, v11, v12, v13, v14, none]) ⟨hp1, none, none, none, none, none, none, none, none, none, none, none, none, none, rfl⟩ ?_ ?_
  rotate_left
  · rintro σ' H' ⟨_, _, _, _, _, _, _, _, _, _, _, _, _, _, rfl⟩
    walk_at "vc"
    exact q _
  rintro i σ' H0 hi ⟨hp0, v2, v3, v4, v5, v6, v7, v8, v9, v10, v11, v12, v13, v14, rfl⟩
  walk_at "vc"
  refine ⟨p, rfl, hp0, fun n H2 hp2 m2 n1 n40 => ?_⟩
  walk_at "vc"
  refine ⟨p, n, rfl, hp2, n1, n40, fun th hs H3 hp3 m3 fh lh tr => ?_⟩
  walk_at "vc"
  refine mk_treeE tr fh.1 fun ta dx hh H4 s4 na ha hha => ⟨ta, rfl, ?_⟩
  have hp4 := hp3.same s4
  have fh4 := (Mo.same hp3 s4) _ _ fh
  have ft4 : TreeAf cTree H4 p (.ref ta) hs := TreeAt.af hp4 ⟨ta, dx, hh, rfl, ha, hha⟩
  walk_at "vc"
  refine ⟨p, rfl, hp4, fun va v w H5 hp5 m5 bv bw hva => ?_⟩
  walk_at "vc"
  intro tp ntp
  refine v_gtup2 upd_same ?_
  have hp6 := hp5.upd (o := .tup [.ref ta, .ref va]) ntp
  have m6 := m5.trans (Mo.upd (o := .tup [.ref ta, .ref va]) hp5 ntp)
  have fv6 : ViewAf (upd H5 tp (.tup [.ref ta, .ref va])) p va v w := ⟨.tupP hp6 (same_upd ntp _ _ hva), bv, bw⟩
  have fh6 := m6 _ _ fh4
  have ft6 := ft4.mo m6
  generalize upd H5 tp (.tup [.ref ta, .ref va]) = H6 at *
  clear hva ntp hp5 m5 m6 hp4 fh4 ft4 ha hha na s4 fh hp3 m3 hp2 m2 hp0
  subst lh
  walk_at "vc"
  refine ⟨th, .ref va, hs, v, w, rfl, fh6.1, tr, fv6.view, fun tl H7 s7 ntl T7 => ?_⟩
  have hp7 := hp6.same s7
  have m7 := Mo.same hp6 s7
  have fh7 := m7 _ _ fh6
  have ft7 := ft6.mo m7
  have fv7 := fv6.mo m7
  have fT7 : TellsAf H7 p tl hs v w := by
    obtain ⟨xs, h1, h2, h3⟩ := T7
    exact ⟨xs, .new hp6 ntl s7 h1, h2, h3⟩
  clear T7 ntl s7 m7 hp6 fh6 ft6 fv6
  walk_at "vc"
  intro z0 nz0
  have hp8 := hp7.upd (o := .lst [.int 0]) nz0
  have m8 := Mo.upd (o := .lst [.int 0]) hp7 nz0
  have fz8 : Af (upd H7 z0 (.lst [.int 0])) p z0 (.lst [.int 0]) := .upd hp7 nz0
  have fh8 := m8 _ _ fh7
  have ft8 := ft7.mo m8
  have fv8 := fv7.mo m8
  have fT8 := fT7.mo hp7 m8
  generalize upd H7 z0 (.lst [.int 0]) = H8 at *
  clear nz0 m8 hp7 fh7 ft7 fv7 fT7
  walk_at "vc"
  refine v_rg2 (by omega) ?_
  refine v_lc2 (fun A i H' => ∃ cs : List Int, Af H' p A (.lst (cs.map V.int)) ∧ cs.length ≤ i ∧ (∀ c ∈ cs, 1 ≤ c ∧ c ≤ hs.length) ∧ Pool H' p ∧ Mo p H8 H') (fun A nA => ⟨[], .upd hp8 nA, Nat.le_refl _, fun c h => (by cases h), hp8.upd nA, Mo.upd hp8 nA⟩) ?_ ?_
  · rintro A j H' nA hj ⟨cs, fA, lc, cb, hp', m'⟩
    refine v_turn rfl ?_
    walk_at "vc"
    refine ⟨p, 2, rfl, hp', by decide, by decide, fun d H2 d0 d1 hp2 m2 => ?_⟩
    walk_at "vc"
    have fA2 := m2 _ _ fA
    refine v_ite (fun e => ?_) (fun e => ?_)
    · walk_at "vc"
      refine ⟨_, fA2.1, by rw [List.length_map]; exact small1000 (by omega), cs ++ [1 + (j : Int)], ?_, by rw [List.length_append]; show cs.length + 1 ≤ j + 1; omega, fun c hc => ?_, hp2.mut fA2, (m'.trans m2).mut hp2 nA fA2⟩
      · rw [List.map_append]
        exact Af.self hp2 fA2
      · rcases List.mem_append.mp hc with hc | hc
        · exact cb c hc
        · rw [List.mem_singleton.mp hc]
          omega
    · exact ⟨cs, fA2, by omega, cb, hp2, m'.trans m2⟩
  rintro A H9 nA ⟨cs, fA, lc, cb, hp9, m9⟩
  have fz9 := m9 _ _ fz8
  walk_at "vc"
  refine v_cat fz9.1 fA.1 (by rw [List.length_map]; show 1 + _ ≤ 1000; omega) fun r nr => ?_
  have hp10 := hp9.upd (o := .lst ([.int 0] ++ cs.map V.int)) nr
  have m10 := m9.trans (Mo.upd (o := .lst ([.int 0] ++ cs.map V.int)) hp9 nr)
  have fr10 : Af (upd H9 r (.lst ([.int 0] ++ cs.map V.int))) p r (.lst ((0 :: cs).map V.int)) := .upd hp9 nr
  generalize upd H9 r (.lst ([.int 0] ++ cs.map V.int)) = H10 at *
  have fh10 := m10 _ _ fh8
  have ft10 := ft8.mo m10
  have fv10 := fv8.mo m10
  have fT10 := fT8.mo hp8 m10
  have cb' : ∀ c ∈ (0 :: cs), 0 ≤ c ∧ c ≤ (hs.length : Int) := fun c hc => by
    rcases List.mem_cons.mp hc with e | hc
    · rw [e]; omega
    · have := cb c hc
      omega
  clear nr fA nA fz9 m10 m9 hp9 hp8 fh8 ft8 fv8 fT8 fz8 lc cb
  refine v_itL (SqL.of fr10.1) ?_
  refine v_loopL (xs := (0 :: cs).map V.int) (fun j σ' H' => ∃ v8 : Option V, σ' = [some (.ref a), some (.ref p), some (.int i), some (.int hs.length), some (.ref th), some (.ref ta), some (.ref va), some (.ref tl), v8, v9, v10, v11, v12, v13, v14, none] ∧ Pool H' p ∧ Mo p H10 H')
    ⟨_, rfl, hp10, .refl _ _⟩ (fun j σ' H' hj ⟨_, _, _, m⟩ => SqL.of (m _ _ fr10).1) ?_ ?_
  · rintro j x σ' H' hx ⟨v8', rfl, hp', m'⟩
    rw [List.getElem?_map] at hx
    cases ec : (0 :: cs)[j]? with
    | none => rw [ec] at hx; cases hx
    | some c =>
      rw [ec] at hx
      cases hx
      have b := cb' c (List.mem_of_getElem? ec)
      have fv' := fv10.mo m'
      obtain ⟨xs, fxs, lxs, txs⟩ := fT10.mo hp10 m'
      walk_at "vc"
      refine ⟨.ref ta, .ref va, .int c, hs, _, rfl, (ft10.mo m').at, tr, fv'.view.thing, .int c, fun nv => absurd ⟨v, w, fv'.view⟩ nv, fun v' w' iv => ?_⟩
      obtain ⟨rfl, rfl⟩ := fv'.view.uniq iv
      refine ⟨fun e => ?_, fun p' e _ _ z H2 s2 tz => ?_⟩
      · rw [within_of_int b] at e; cases e
      cases e
      have hcx : c.toNat < xs.length := by omega
      walk_at "vc"
      refine v_ixL' (s2 _ _ fxs.1) (at_of (j := c.toNat) (by omega) (List.getElem?_eq_getElem hcx)) ?_
      have tx := (txs c.toNat _ (List.getElem?_eq_getElem hcx)).same s2
      rw [show ((c.toNat : Nat) : Int) = c by omega] at tx
      walk_at "vc"
      refine ⟨_, _, rfl, tell_alike tz tx, fun H3 s3 => ?_⟩
      walk_at "vc"
      exact ⟨_, rfl, hp'.same (s2.trans s3), m'.trans (Mo.same hp' (s2.trans s3))⟩
  rintro σ' H11 ⟨v8', rfl, hp11, m11⟩
  have fh11 := m11 _ _ fh10
  have ft11 := ft10.mo m11
  have fv11 := fv10.mo m11
  clear m11 hp10 fh10 ft10 fv10 fT10 fr10 cb'
  walk_at "vc"
  refine ⟨p, 4, rfl, hp11, by decide, by decide, fun d H12 d0 d1 hp12 m12 => ?_⟩
  have fh12 := m12 _ _ fh11
  have ft12 := ft11.mo m12
  have fv12 := fv11.mo m12
  clear m12 hp11 fh11 ft11 fv11
  walk_at "vc"
  refine v_rg1 (by omega) ?_
  refine v_loop0 (fun j σ' H' => ∃ (oa : Addr) (ks : List Int) (u8 u10 u11 u12 : Option V), σ' = [some (.ref a), some (.ref p), some (.int i), some (.int hs.length), some (.ref th), some (.ref ta), some (.ref va), some (.ref tl), u8, some (.ref oa), u10, u11, u12, v13, v14, none] ∧
      Pool H' p ∧ TreeAf cTree H' p (.ref oa) ks ∧ IsTree ks ∧ ks.length = hs.length ∧ Mo p H12 H') ⟨ta, hs, _, _, _, _, rfl, hp12, ft12, tr, rfl, .refl _ _⟩ ?_ ?_
  · rintro j σ' H' hj ⟨oa, ks, u8, u10, u11, u12, rfl, hp', fo, ur, lk, m'⟩
    have k40 := ur.2.1
    walk_at "vc"
    refine ⟨p, hs.length, rfl, hp', by omega, by omega, fun d H2 d0 d1 hp2 m2 => ?_⟩
    walk_at "vc"
    refine ⟨p, hs.length + 1, rfl, hp2, by omega, by omega, fun c H3 c0 c1 hp3 m3 => ?_⟩
    have fo3 := (fo.mo m2).mo m3
    have mm := m'.trans (m2.trans m3)
    generalize eb : 1 + d = b at *
    have b0 : 1 ≤ b := by omega
    have b1 : b ≤ ks.length := by omega
    have c1 : c ≤ ks.length := by omega
    obtain ⟨oa', dx', hh', e, fa, fhh⟩ := id fo3
    cases e
    walk_at "vc"
    refine v_iteN (fun ne => ?_) (fun e => ?_)
    · walk_at "vc"
      refine v_fldK o nf fa.1 rfl ?_
      walk_at "vc"
      refine ⟨hh', ks, c, rfl, fhh.1, ur, c0, c1, fun f H4 s4 nf4 hf => ?_⟩
      refine v_ninL hf ?_
      walk_at "vc"
      refine v_iteN (fun nm => ?_) (fun mm' => ?_)
      · have nb : ¬ (c = b ∨ b ∈ wy ks c) := not_or.mpr ⟨ne, nm⟩
        have urm := ur.move b0 b1 c0 c1 ne nm
        have fo4 := fo3.mo (Mo.same hp3 s4)
        walk_at "vc"
        refine ⟨.ref oa, .int b, .int c, ks, _, _, rfl, fo4.at, ur, .int b, .int c, fun e => ?_, fun _ e => ?_, fun b' c' e1 e2 _ _ _ _ => ⟨fun e => ?_, fun _ => ?_⟩⟩
        · rw [within_of_int ⟨b0, b1⟩] at e; cases e
        · rw [within_of_int ⟨c0, c1⟩] at e; cases e
        · cases e1; cases e2; exact absurd e nb
        cases e1
        cases e2
        intro la dxl hl' H5 s5 nla hla hhl
        have hp4 := hp3.same s4
        have s45 := s4.trans s5
        have fv5 := (fv12.mo mm).mo (Mo.same hp3 s45)
        walk_at "vc"
        refine ⟨.ref oa, .ref la, .ref va, ks, b, c, v, w, rfl, fo4.at.same s5, ⟨la, dxl, hl', rfl, hla, hhl⟩, ur, urm, fv5.view, b0, b1, c0, c1, fun H6 s6 => ?_⟩
        walk_at "vc"
        have s46 := s45.trans s6
        have hp6 := hp3.same s46
        exact ⟨la, movL ks b c, _, _, _, _, rfl, hp6, TreeAt.af hp6 ⟨la, dxl, hl', rfl, s6 _ _ hla, s6 _ _ hhl⟩, urm, by unfold movL; rw [List.length_set]; exact lk, mm.trans (Mo.same hp3 s46)⟩
      · walk_at "vc"
        exact ⟨oa, ks, _, _, _, _, rfl, hp3.same s4, fo3.mo (Mo.same hp3 s4), ur, lk, mm.trans (Mo.same hp3 s4)⟩
    · walk_at "vc"
      exact ⟨oa, ks, _, _, _, _, rfl, hp3, fo3, ur, lk, mm⟩
  rintro σ' H13 ⟨oa, ks, u8, u10, u11, u12, rfl, hp13, fo13, ur, lk, m13⟩
  have fh13 := m13 _ _ fh12
  have ft13 := ft12.mo m13
  have fv13 := fv12.mo m13
  clear m13 hp12 fh12 ft12 fv12
  walk_at "vc"
  refine v_cut (fun σ' H' => ∃ (oa : Addr) (ks : List Int), σ' = [some (.ref a), some (.ref p), some (.int i), some (.int hs.length), some (.ref th), some (.ref ta), some (.ref va), some (.ref tl), u8, some (.ref oa), u10, u11, u12, v13, v14, none] ∧
      Pool H' p ∧ TreeAf cTree H' p (.ref oa) ks ∧ IsTree ks ∧ ks.length = hs.length ∧ Mo p H13 H') ?_ ?_
  · walk_at "vc"
    refine ⟨p, 4, rfl, hp13, by decide, by decide, fun d H14 d0 d1 hp14 m14 => ?_⟩
    walk_at "vc"
    refine v_ite (fun e => ?_) (fun e => ?_)
    · walk_at "vc"
      refine ⟨p, hs.length, rfl, hp14, n1, n40, fun th' hs' H15 hp15 m15 fh' lh' tr' => ?_⟩
      walk_at "vc"
      refine mk_treeE tr' fh'.1 fun ta' dx hh H16 s16 na ha hha => ⟨ta', rfl, ?_⟩
      walk_at "vc"
      have hp16 := hp15.same s16
      exact ⟨ta', hs', rfl, hp16, TreeAt.af hp16 ⟨ta', dx, hh, rfl, ha, hha⟩, tr', lh', m14.trans (m15.trans (Mo.same hp15 s16))⟩
    · walk_at "vc"
      exact ⟨oa, ks, rfl, hp14, fo13.mo m14, ur, lk, m14⟩
  clear fo13 ur lk oa ks
  rintro σ' H14 ⟨oa, ks, rfl, hp14, fo14, ur, lk, m14⟩
  have fh14 := m14 _ _ fh13
  have ft14 := ft13.mo m14
  have fv14 := fv13.mo m14
  clear m14 hp13 fh13 ft13 fv13
  obtain ⟨oa', dx', hh', e, fa, fhh⟩ := id fo14
  cases e
  walk_at "vc"
  refine v_fldK o nf fa.1 rfl ?_
  walk_at "vc"
  refine ⟨th, hh', .ref va, hs, ks, v, w, rfl, fh14.1, fhh.1, tr, ur, lk.symm, fv14.view, fun dd H15 s15 nd15 hd15 => ?_⟩
  walk_at "vc"
  have ul := unl_len (hs := hs) (ks := ks) (v := v) (w := w)
  have ft15 := ft14.at.same s15
  have fo15 := fo14.at.same s15
  have fv15 : IsView H15 (.ref va) v w := fv14.view.same s15
  refine ⟨.ref ta, .ref oa, .ref va, hs, ks, rfl, ft15, fo15, tr, ur, fv15.thing, fun ne => absurd lk.symm ne, fun _ => ⟨fun nv => absurd ⟨v, w, fv15⟩ nv, fun v' w' iv x H16 s16 nx hx => ?_⟩⟩
  obtain ⟨rfl, rfl⟩ := fv15.uniq iv
  walk_at "vc"
  refine ⟨_, _, rfl, alike_T hx (s16 _ _ hd15) (by omega), fun H17 s17 => ?_⟩
  have t17 := s16.trans s17
  walk_at "vc"
  refine ⟨.ref oa, .ref ta, .ref va, ks, hs, rfl, fo15.same t17, ft15.same t17, ur, tr, (fv15.same t17).thing, fun ne => absurd lk ne, fun _ => ⟨fun nv => absurd ⟨v, w, fv15.same t17⟩ nv, fun v' w' iv y H18 s18 ny hy => ?_⟩⟩
  obtain ⟨rfl, rfl⟩ := (fv15.same t17).uniq iv
  rw [unl_symm lk] at hy
  walk_at "vc"
  refine ⟨_, _, rfl, alike_T hy (s18 _ _ (t17 _ _ hd15)) (by omega), fun H19 s19 => ?_⟩
  have t19 := s15.trans (t17.trans (s18.trans s19))
  have hp19 := hp14.same t19
  have m19 := Mo.same hp14 t19
  have ft19 := ft14.mo m19
  have fo19 := fo14.mo m19
  have fv19 := fv14.mo m19
  have fd19 : Af H19 p dd (.tup ((unl hs ks v w).map V.int)) := .tupP hp19 ((t17.trans (s18.trans s19)) _ _ hd15)
  walk_at "vc"
  refine v_ixT' fv19.1.1 (at_of (j := 0) rfl rfl) ?_
  walk_at "vc"
  refine ⟨p, 2, rfl, hp19, by decide, by decide, fun e1 H20 e10 e11 hp20 m20 => ?_⟩
  walk_at "vc"
  refine v_min ?_
  walk_at "vc"
  refine v_ixT' (fv19.mo m20).1.1 (at_of (j := 1) rfl rfl) ?_
  walk_at "vc"
  refine ⟨p, 2, rfl, hp20, by decide, by decide, fun e2 H21 e20 e21 hp21 m21 => ?_⟩
  walk_at "vc"
  refine v_min ?_
  walk_at "vc"
  intro wd nwd
  obtain ⟨v1, ev1, hv1, hv4⟩ : ∃ v1 : Nat, (if (v : Int) + e1 < 4 then (v : Int) + e1 else 4) = (v1 : Int) ∧ v ≤ v1 ∧ v1 ≤ 4 := ⟨(if (v : Int) + e1 < 4 then (v : Int) + e1 else 4).toNat, by split <;> omega, by split <;> omega, by split <;> omega⟩
  obtain ⟨w1, ew1, hw1, hw4⟩ : ∃ w1 : Nat, (if (w : Int) + e2 < 4 then (w : Int) + e2 else 4) = (w1 : Int) ∧ w ≤ w1 ∧ w1 ≤ 4 := ⟨(if (w : Int) + e2 < 4 then (w : Int) + e2 else 4).toNat, by split <;> omega, by split <;> omega, by split <;> omega⟩
  rw [ev1, ew1] at *
  have hp22 := hp21.upd (o := .tup [.int v1, .int w1]) nwd
  have m22 := m20.trans (m21.trans (Mo.upd (o := .tup [.int v1, .int w1]) hp21 nwd))
  have fw22 : ViewAf (upd H21 wd (.tup [.int v1, .int w1])) p wd v1 w1 := ⟨.upd hp21 nwd, hv4, hw4⟩
  generalize upd H21 wd (.tup [.int v1, .int w1]) = H22 at *
  have ft22 := ft19.mo m22
  have fo22 := fo19.mo m22
  have fv22 := fv19.mo m22
  have fd22 := m22 _ _ fd19
  walk_at "vc"
  refine v_itT (SqT.of fd22.1) ?_
  refine v_lcT (xs := (unl hs ks v w).map V.int) (fun A i H' => H' A = some (.lst ((List.replicate i true).map V.bl)) ∧ Same H22 H') (fun A nA => ⟨upd_same, same_upd nA⟩) (fun A i H' nA hi k => SqT.of (k.2 _ _ fd22.1)) ?_ ?_
  · rintro A j x H' nA hx ⟨hA, s1⟩
    rw [List.getElem?_map] at hx
    cases ec : (unl hs ks v w)[j]? with
    | none => rw [ec] at hx; cases hx
    | some c =>
      rw [ec] at hx
      cases hx
      have hj := (List.getElem?_eq_some_iff.mp ec).1
      refine v_turn rfl ?_
      walk_at "vc"
      have iw : IsView H' (.ref wd) v1 w1 := fw22.view.same s1
      refine ⟨.ref ta, .ref oa, .ref wd, hs, ks, rfl, ft22.at.same s1, fo22.at.same s1, tr, ur, iw.thing, fun ne => absurd lk.symm ne, fun _ => ⟨fun nv => absurd ⟨v1, w1, iw⟩ nv, fun v' w' iv' y H18 s18 ny hy => ?_⟩⟩
      obtain ⟨rfl, rfl⟩ := iw.uniq iv'
      refine v_inT hy ?_
      rw [decide_eq_true (unl_less tr ur lk.symm hv1 hw1 (List.mem_of_getElem? ec))]
      refine ⟨_, s18 _ _ hA, by rw [List.length_map, List.length_replicate]; exact small1000 (by omega), ?_, same_mut (s1.trans s18) nA⟩
      rw [upd_same, List.replicate_succ', List.map_append]
      rfl
  rintro A H23 nA ⟨hA, s23⟩
  walk_at "vc"
  refine ⟨A, _, rfl, SqL.of hA, ?_⟩
  rw [show (List.replicate ((unl hs ks v w).map V.int).length true).all id = true by simp]
  walk_at "vc"
  have iv23 := fv22.view.same s23
  refine ⟨.ref ta, .ref ta, .ref va, hs, hs, rfl, ft22.at.same s23, ft22.at.same s23, tr, tr, iv23.thing, fun ne => absurd rfl ne, fun _ => ⟨fun nv => absurd ⟨v, w, iv23⟩ nv, fun v' w' iv' y H24 s24 ny hy => ?_⟩⟩
  obtain ⟨rfl, rfl⟩ := iv23.uniq iv'
  rw [unl_self] at hy
  walk_at "vc"
  intro em nem
  refine v_neTI (hs := []) (ks := []) (same_upd (o := .tup []) nem _ _ hy) upd_same ?_
  have t24 := s23.trans (s24.trans (same_upd (o := .tup []) nem))
  generalize upd H24 em (.tup []) = H25 at *
  have hp25 := hp22.same t24
  have m25 := Mo.same hp22 t24
  have ft25 := ft22.mo m25
  have fo25 := fo22.mo m25
  have fv25 := fv22.mo m25
  have fd25 := m25 _ _ fd22
  rw [show decide (([] : List Int) = []) = true from rfl]
  walk_at "vc"
  refine ⟨p, dd, .ref ta, .ref oa, .ref va, hs, ks, v, w, rfl, hp25, ft25.at, fo25.at, tr, ur, lk.symm, ⟨va, rfl, fv25.1.1, fv25.2⟩, fd25.1, fun H26 hp26 m26 => ?_⟩
  walk_at "vc"
  exact ⟨hp26, _, _, _, _, _, _, _, _, _, _, _, _, _, rfl⟩
end

def topS (i : Nat) : Stmt := PySem.Challenge.pw_foldervotes_k03_whole_tellings_by_own_wa.main.body.getD i (.Pass ⟨0, 0, 0, 0⟩)
abbrev s_BadTree_init : Stmt := (inClass (topS 2) 0)
abbrev N_BadTree_init : List Str := ["self", "part"]
theorem sc_BadTree_init : FnScope N_BadTree_init ["self", "part"] (defScope s_BadTree_init) := ⟨rfl, rfl, rfl, by decide +kernel, rfl, by decide +kernel, by decide +kernel⟩
abbrev s_is_integer : Stmt := (topS 12)
abbrev N_is_integer : List Str := ["thing"]
theorem sc_is_integer : FnScope N_is_integer ["thing"] (defScope s_is_integer) := ⟨rfl, rfl, rfl, by decide +kernel, rfl, by decide +kernel, by decide +kernel⟩
abbrev s_is_within : Stmt := (topS 13)
abbrev N_is_within : List Str := ["thing", "least", "most"]
theorem sc_is_within : FnScope N_is_within ["thing", "least", "most"] (defScope s_is_within) := ⟨rfl, rfl, rfl, by decide +kernel, rfl, by decide +kernel, by decide +kernel⟩
abbrev s_is_pair : Stmt := (topS 14)
abbrev N_is_pair : List Str := ["thing"]
theorem sc_is_pair : FnScope N_is_pair ["thing"] (defScope s_is_pair) := ⟨rfl, rfl, rfl, by decide +kernel, rfl, by decide +kernel, by decide +kernel⟩
abbrev s_is_view : Stmt := (topS 15)
abbrev N_is_view : List Str := ["thing", "item"]
theorem sc_is_view : FnScope N_is_view ["thing"] (defScope s_is_view) := ⟨rfl, rfl, rfl, by decide +kernel, rfl, by decide +kernel, by decide +kernel⟩
abbrev s_check_block : Stmt := (topS 17)
abbrev N_check_block : List Str := ["blocks", "thing"]
theorem sc_check_block : FnScope N_check_block ["blocks", "thing"] (defScope s_check_block) := ⟨rfl, rfl, rfl, by decide +kernel, rfl, by decide +kernel, by decide +kernel⟩
abbrev s_check_place : Stmt := (topS 18)
abbrev N_check_place : List Str := ["blocks", "thing"]
theorem sc_check_place : FnScope N_check_place ["blocks", "thing"] (defScope s_check_place) := ⟨rfl, rfl, rfl, by decide +kernel, rfl, by decide +kernel, by decide +kernel⟩
abbrev s_check_view : Stmt := (topS 16)
abbrev N_check_view : List Str := ["view"]
theorem sc_check_view : FnScope N_check_view ["view"] (defScope s_check_view) := ⟨rfl, rfl, rfl, by decide +kernel, rfl, by decide +kernel, by decide +kernel⟩
abbrev s_leads_home : Stmt := (topS 21)
abbrev N_leads_home : List Str := ["hung", "block", "here", "turn"]
theorem sc_leads_home : FnScope N_leads_home ["hung", "block"] (defScope s_leads_home) := ⟨rfl, rfl, rfl, by decide +kernel, rfl, by decide +kernel, by decide +kernel⟩
abbrev s_Tree_init : Stmt := (inClass (topS 22) 0)
abbrev N_Tree_init : List Str := ["self", "hung", "block"]
theorem sc_Tree_init : FnScope N_Tree_init ["self", "hung"] (defScope s_Tree_init) := ⟨rfl, rfl, rfl, by decide +kernel, rfl, by decide +kernel, by decide +kernel⟩
abbrev s_parents_in : Stmt := (topS 23)
abbrev N_parents_in : List Str := ["hung", "place", "found", "here"]
theorem sc_parents_in : FnScope N_parents_in ["hung", "place"] (defScope s_parents_in) := ⟨rfl, rfl, rfl, by decide +kernel, rfl, by decide +kernel, by decide +kernel⟩
abbrev s_hanging : Stmt := (topS 24)
abbrev N_hanging : List Str := ["hung", "place", "block"]
theorem sc_hanging : FnScope N_hanging ["hung", "place"] (defScope s_hanging) := ⟨rfl, rfl, rfl, by decide +kernel, rfl, by decide +kernel, by decide +kernel⟩
abbrev s_beneath_in : Stmt := (topS 25)
abbrev N_beneath_in : List Str := ["hung", "place", "found", "waiting", "more"]
theorem sc_beneath_in : FnScope N_beneath_in ["hung", "place"] (defScope s_beneath_in) := ⟨rfl, rfl, rfl, by decide +kernel, rfl, by decide +kernel, by decide +kernel⟩
abbrev s_with_place : Stmt := (topS 26)
abbrev N_with_place : List Str := ["hung", "block", "place"]
theorem sc_with_place : FnScope N_with_place ["hung", "block", "place"] (defScope s_with_place) := ⟨rfl, rfl, rfl, by decide +kernel, rfl, by decide +kernel, by decide +kernel⟩
abbrev s_moved : Stmt := (topS 27)
abbrev N_moved : List Str := ["tree", "block", "place"]
theorem sc_moved : FnScope N_moved ["tree", "block", "place"] (defScope s_moved) := ⟨rfl, rfl, rfl, by decide +kernel, rfl, by decide +kernel, by decide +kernel⟩
abbrev s_called : Stmt := (topS 28)
abbrev N_called : List Str := ["tree", "order", "many", "names", "found", "block", "item"]
theorem sc_called : FnScope N_called ["tree", "order"] (defScope s_called) := ⟨rfl, rfl, rfl, by decide +kernel, rfl, by decide +kernel, by decide +kernel⟩
abbrev s_ties_down : Stmt := (topS 30)
abbrev N_ties_down : List Str := ["hung", "place", "steps", "found", "layer", "step", "later", "here", "block"]
theorem sc_ties_down : FnScope N_ties_down ["hung", "place", "steps"] (defScope s_ties_down) := ⟨rfl, rfl, rfl, by decide +kernel, rfl, by decide +kernel, by decide +kernel⟩
abbrev s_raw_telling : Stmt := (topS 31)
abbrev N_raw_telling : List Str := ["hung", "view", "place"]
theorem sc_raw_telling : FnScope N_raw_telling ["hung", "view", "place"] (defScope s_raw_telling) := ⟨rfl, rfl, rfl, by decide +kernel, rfl, by decide +kernel, by decide +kernel⟩
abbrev s_telling : Stmt := (topS 32)
abbrev N_telling : List Str := ["tree", "view", "place"]
theorem sc_telling : FnScope N_telling ["tree", "view", "place"] (defScope s_telling) := ⟨rfl, rfl, rfl, by decide +kernel, rfl, by decide +kernel, by decide +kernel⟩
abbrev s_raw_tellings : Stmt := (topS 33)
abbrev N_raw_tellings : List Str := ["hung", "view", "place"]
theorem sc_raw_tellings : FnScope N_raw_tellings ["hung", "view"] (defScope s_raw_tellings) := ⟨rfl, rfl, rfl, by decide +kernel, rfl, by decide +kernel, by decide +kernel⟩
abbrev s_unlike : Stmt := (topS 34)
abbrev N_unlike : List Str := ["tree", "other", "view", "first", "second", "place"]
theorem sc_unlike : FnScope N_unlike ["tree", "other", "view"] (defScope s_unlike) := ⟨rfl, rfl, rfl, by decide +kernel, rfl, by decide +kernel, by decide +kernel⟩
abbrev s_l_pool : Stmt := (topS 36)
abbrev N_l_pool : List Str := ["_law_script", "_law_great", "_law_small", "_law_cell"]
theorem sc_l_pool : FnScope N_l_pool ["_law_script"] (defScope s_l_pool) := ⟨rfl, rfl, rfl, by decide +kernel, rfl, by decide +kernel, by decide +kernel⟩
abbrev s_l_draw : Stmt := (topS 37)
abbrev N_l_draw : List Str := ["_law_pool_here", "_law_many_here", "_law_digit", "_law_cell", "_law_number"]
theorem sc_l_draw : FnScope N_l_draw ["_law_pool_here", "_law_many_here"] (defScope s_l_draw) := ⟨rfl, rfl, rfl, by decide +kernel, rfl, by decide +kernel, by decide +kernel⟩
abbrev s_l_is : Stmt := (topS 38)
abbrev N_l_is : List Str := ["_law_told", "_law_due", "_law_at", "_law_key"]
theorem sc_l_is : FnScope N_l_is ["_law_told", "_law_due"] (defScope s_l_is) := ⟨rfl, rfl, rfl, by decide +kernel, rfl, by decide +kernel, by decide +kernel⟩
abbrev s_l_mixed : Stmt := (topS 39)
abbrev N_l_mixed : List Str := ["_law_pool_here", "_law_many_here", "_law_left", "_law_turn"]
theorem sc_l_mixed : FnScope N_l_mixed ["_law_pool_here", "_law_many_here"] (defScope s_l_mixed) := ⟨rfl, rfl, rfl, by decide +kernel, rfl, by decide +kernel, by decide +kernel⟩
abbrev s_l_hung : Stmt := (topS 40)
abbrev N_l_hung : List Str := ["_law_pool_here", "_law_many_here", "_law_kind", "_law_order", "_law_found", "_law_at", "_law_above"]
theorem sc_l_hung : FnScope N_l_hung ["_law_pool_here", "_law_many_here"] (defScope s_l_hung) := ⟨rfl, rfl, rfl, by decide +kernel, rfl, by decide +kernel, by decide +kernel⟩
abbrev s_l_many : Stmt := (topS 41)
abbrev N_l_many : List Str := ["_law_pool_here"]
theorem sc_l_many : FnScope N_l_many ["_law_pool_here"] (defScope s_l_many) := ⟨rfl, rfl, rfl, by decide +kernel, rfl, by decide +kernel, by decide +kernel⟩
abbrev s_l_way : Stmt := (topS 42)
abbrev N_l_way : List Str := ["_law_hung_here", "_law_place", "_law_found", "_law_here", "_law_turn"]
theorem sc_l_way : FnScope N_l_way ["_law_hung_here", "_law_place"] (defScope s_l_way) := ⟨rfl, rfl, rfl, by decide +kernel, rfl, by decide +kernel, by decide +kernel⟩
abbrev s_l_tellings : Stmt := (topS 43)
abbrev N_l_tellings : List Str := ["_law_hung_here", "_law_view_here", "_law_ties", "_law_ways", "_law_block", "_law_way_here", "_law_place"]
theorem sc_l_tellings : FnScope N_l_tellings ["_law_hung_here", "_law_view_here"] (defScope s_l_tellings) := ⟨rfl, rfl, rfl, by decide +kernel, rfl, by decide +kernel, by decide +kernel⟩
abbrev s_l_view : Stmt := (topS 44)
abbrev N_l_view : List Str := ["_law_pool_here"]
theorem sc_l_view : FnScope N_l_view ["_law_pool_here"] (defScope s_l_view) := ⟨rfl, rfl, rfl, by decide +kernel, rfl, by decide +kernel, by decide +kernel⟩
abbrev s_l_unlike : Stmt := (topS 45)
abbrev N_l_unlike : List Str := ["_law_one", "_law_other", "_law_view_here", "_law_first", "_law_second", "_law_place"]
theorem sc_l_unlike : FnScope N_l_unlike ["_law_one", "_law_other", "_law_view_here"] (defScope s_l_unlike) := ⟨rfl, rfl, rfl, by decide +kernel, rfl, by decide +kernel, by decide +kernel⟩
abbrev s_l_move_seen : Stmt := (topS 46)
abbrev N_l_move_seen : List Str := ["_law_tree", "_law_later", "_law_view_here", "_law_block", "_law_place", "_law_told", "_law_elder"]
theorem sc_l_move_seen : FnScope N_l_move_seen ["_law_tree", "_law_later", "_law_view_here", "_law_block", "_law_place"] (defScope s_l_move_seen) := ⟨rfl, rfl, rfl, by decide +kernel, rfl, by decide +kernel, by decide +kernel⟩
abbrev s_l_named_right : Stmt := (topS 47)
abbrev N_l_named_right : List Str := ["_law_pool_here", "_law_tree", "_law_other", "_law_view_here", "_law_due", "_law_order", "_law_names", "_law_told", "_law_place"]
theorem sc_l_named_right : FnScope N_l_named_right ["_law_pool_here", "_law_tree", "_law_other", "_law_view_here", "_law_due"] (defScope s_l_named_right) := ⟨rfl, rfl, rfl, by decide +kernel, rfl, by decide +kernel, by decide +kernel⟩
abbrev s_law : Stmt := (topS 48)
abbrev N_law : List Str := ["_law_script", "_law_pool_here", "_law_turn", "_law_many_here", "_law_hung_here", "_law_tree", "_law_view_here", "_law_tellings_here", "_law_place", "_law_other", "_law_change", "_law_block", "_law_later", "_law_due", "_law_wider", "_law_one"]
theorem sc_law : FnScope N_law ["_law_script"] (defScope s_law) := ⟨rfl, rfl, rfl, by decide +kernel, rfl, by decide +kernel, by decide +kernel⟩
structure Txt (K : PySem.W.Frag) (mg : Str → Option Value) where
  z_abs : mg "abs" = none
  z_all : mg "all" = none
  z_bool : mg "bool" = none
  z_dict : mg "dict" = none
  z_int : mg "int" = none
  z_isinstance : mg "isinstance" = none
  z_len : mg "len" = none
  z_list : mg "list" = none
  z_min : mg "min" = none
  z_range : mg "range" = none
  z_sorted : mg "sorted" = none
  z_tuple : mg "tuple" = none
  k_HEAD : Tok
  c_HEAD : mg "HEAD" = some (.int 0 k_HEAD)
  k_MOST_BLOCKS : Tok
  c_MOST_BLOCKS : mg "MOST_BLOCKS" = some (.int 40 k_MOST_BLOCKS)
  k_MOST_STEPS : Tok
  c_MOST_STEPS : mg "MOST_STEPS" = some (.int 4 k_MOST_STEPS)
  C_Tree : Addr
  g_Tree : mg "Tree" = some (.ref C_Tree)
  C_BadTree : Addr
  g_BadTree : mg "BadTree" = some (.ref C_BadTree)
  C_NoBlock : Addr
  g_NoBlock : mg "NoBlock" = some (.ref C_NoBlock)
  C_NoPlace : Addr
  g_NoPlace : mg "NoPlace" = some (.ref C_NoPlace)
  C_Beneath : Addr
  g_Beneath : mg "Beneath" = some (.ref C_Beneath)
  C_NoOrder : Addr
  g_NoOrder : mg "NoOrder" = some (.ref C_NoOrder)
  C_NoView : Addr
  g_NoView : mg "NoView" = some (.ref C_NoView)
  C_OtherBlocks : Addr
  g_OtherBlocks : mg "OtherBlocks" = some (.ref C_OtherBlocks)
  f_BadTree_init : Addr
  fd_BadTree_init : FuncData
  F_BadTree_init : Fun K "__init__" "BadTree.__init__" s_BadTree_init f_BadTree_init fd_BadTree_init
  b_BadTree_init : Binds K fd_BadTree_init ["self", "part"] []
  f_is_integer : Addr
  fd_is_integer : FuncData
  F_is_integer : Fun K "is_integer" "is_integer" s_is_integer f_is_integer fd_is_integer
  b_is_integer : Binds K fd_is_integer ["thing"] []
  g_is_integer : mg "is_integer" = some (.ref f_is_integer)
  f_is_within : Addr
  fd_is_within : FuncData
  F_is_within : Fun K "is_within" "is_within" s_is_within f_is_within fd_is_within
  b_is_within : Binds K fd_is_within ["thing", "least", "most"] []
  g_is_within : mg "is_within" = some (.ref f_is_within)
  f_is_pair : Addr
  fd_is_pair : FuncData
  F_is_pair : Fun K "is_pair" "is_pair" s_is_pair f_is_pair fd_is_pair
  b_is_pair : Binds K fd_is_pair ["thing"] []
  g_is_pair : mg "is_pair" = some (.ref f_is_pair)
  f_is_view : Addr
  fd_is_view : FuncData
  F_is_view : Fun K "is_view" "is_view" s_is_view f_is_view fd_is_view
  b_is_view : Binds K fd_is_view ["thing"] []
  g_is_view : mg "is_view" = some (.ref f_is_view)
  f_check_block : Addr
  fd_check_block : FuncData
  F_check_block : Fun K "check_block" "check_block" s_check_block f_check_block fd_check_block
  b_check_block : Binds K fd_check_block ["blocks", "thing"] []
  g_check_block : mg "check_block" = some (.ref f_check_block)
  f_check_place : Addr
  fd_check_place : FuncData
  F_check_place : Fun K "check_place" "check_place" s_check_place f_check_place fd_check_place
  b_check_place : Binds K fd_check_place ["blocks", "thing"] []
  g_check_place : mg "check_place" = some (.ref f_check_place)
  f_check_view : Addr
  fd_check_view : FuncData
  F_check_view : Fun K "check_view" "check_view" s_check_view f_check_view fd_check_view
  b_check_view : Binds K fd_check_view ["view"] []
  g_check_view : mg "check_view" = some (.ref f_check_view)
  f_leads_home : Addr
  fd_leads_home : FuncData
  F_leads_home : Fun K "leads_home" "leads_home" s_leads_home f_leads_home fd_leads_home
  b_leads_home : Binds K fd_leads_home ["hung", "block"] []
  g_leads_home : mg "leads_home" = some (.ref f_leads_home)
  f_Tree_init : Addr
  fd_Tree_init : FuncData
  F_Tree_init : Fun K "__init__" "Tree.__init__" s_Tree_init f_Tree_init fd_Tree_init
  b_Tree_init : Binds K fd_Tree_init ["self", "hung"] []
  f_parents_in : Addr
  fd_parents_in : FuncData
  F_parents_in : Fun K "parents_in" "parents_in" s_parents_in f_parents_in fd_parents_in
  b_parents_in : Binds K fd_parents_in ["hung", "place"] []
  g_parents_in : mg "parents_in" = some (.ref f_parents_in)
  f_hanging : Addr
  fd_hanging : FuncData
  F_hanging : Fun K "hanging" "hanging" s_hanging f_hanging fd_hanging
  b_hanging : Binds K fd_hanging ["hung", "place"] []
  g_hanging : mg "hanging" = some (.ref f_hanging)
  f_beneath_in : Addr
  fd_beneath_in : FuncData
  F_beneath_in : Fun K "beneath_in" "beneath_in" s_beneath_in f_beneath_in fd_beneath_in
  b_beneath_in : Binds K fd_beneath_in ["hung", "place"] []
  g_beneath_in : mg "beneath_in" = some (.ref f_beneath_in)
  f_with_place : Addr
  fd_with_place : FuncData
  F_with_place : Fun K "with_place" "with_place" s_with_place f_with_place fd_with_place
  b_with_place : Binds K fd_with_place ["hung", "block", "place"] []
  g_with_place : mg "with_place" = some (.ref f_with_place)
  f_moved : Addr
  fd_moved : FuncData
  F_moved : Fun K "moved" "moved" s_moved f_moved fd_moved
  b_moved : Binds K fd_moved ["tree", "block", "place"] []
  g_moved : mg "moved" = some (.ref f_moved)
  f_called : Addr
  fd_called : FuncData
  F_called : Fun K "called" "called" s_called f_called fd_called
  b_called : Binds K fd_called ["tree", "order"] []
  g_called : mg "called" = some (.ref f_called)
  f_ties_down : Addr
  fd_ties_down : FuncData
  F_ties_down : Fun K "ties_down" "ties_down" s_ties_down f_ties_down fd_ties_down
  b_ties_down : Binds K fd_ties_down ["hung", "place", "steps"] []
  g_ties_down : mg "ties_down" = some (.ref f_ties_down)
  f_raw_telling : Addr
  fd_raw_telling : FuncData
  F_raw_telling : Fun K "raw_telling" "raw_telling" s_raw_telling f_raw_telling fd_raw_telling
  b_raw_telling : Binds K fd_raw_telling ["hung", "view", "place"] []
  g_raw_telling : mg "raw_telling" = some (.ref f_raw_telling)
  f_telling : Addr
  fd_telling : FuncData
  F_telling : Fun K "telling" "telling" s_telling f_telling fd_telling
  b_telling : Binds K fd_telling ["tree", "view", "place"] []
  g_telling : mg "telling" = some (.ref f_telling)
  f_raw_tellings : Addr
  fd_raw_tellings : FuncData
  F_raw_tellings : Fun K "raw_tellings" "raw_tellings" s_raw_tellings f_raw_tellings fd_raw_tellings
  b_raw_tellings : Binds K fd_raw_tellings ["hung", "view"] []
  g_raw_tellings : mg "raw_tellings" = some (.ref f_raw_tellings)
  f_unlike : Addr
  fd_unlike : FuncData
  F_unlike : Fun K "unlike" "unlike" s_unlike f_unlike fd_unlike
  b_unlike : Binds K fd_unlike ["tree", "other", "view"] []
  g_unlike : mg "unlike" = some (.ref f_unlike)
  f_l_pool : Addr
  fd_l_pool : FuncData
  F_l_pool : Fun K "_law_pool" "_law_pool" s_l_pool f_l_pool fd_l_pool
  b_l_pool : Binds K fd_l_pool ["_law_script"] []
  g_l_pool : mg "_law_pool" = some (.ref f_l_pool)
  f_l_draw : Addr
  fd_l_draw : FuncData
  F_l_draw : Fun K "_law_draw" "_law_draw" s_l_draw f_l_draw fd_l_draw
  b_l_draw : Binds K fd_l_draw ["_law_pool_here", "_law_many_here"] []
  g_l_draw : mg "_law_draw" = some (.ref f_l_draw)
  f_l_is : Addr
  fd_l_is : FuncData
  F_l_is : Fun K "_law_is" "_law_is" s_l_is f_l_is fd_l_is
  b_l_is : Binds K fd_l_is ["_law_told", "_law_due"] []
  g_l_is : mg "_law_is" = some (.ref f_l_is)
  f_l_mixed : Addr
  fd_l_mixed : FuncData
  F_l_mixed : Fun K "_law_mixed" "_law_mixed" s_l_mixed f_l_mixed fd_l_mixed
  b_l_mixed : Binds K fd_l_mixed ["_law_pool_here", "_law_many_here"] []
  g_l_mixed : mg "_law_mixed" = some (.ref f_l_mixed)
  f_l_hung : Addr
  fd_l_hung : FuncData
  F_l_hung : Fun K "_law_hung" "_law_hung" s_l_hung f_l_hung fd_l_hung
  b_l_hung : Binds K fd_l_hung ["_law_pool_here", "_law_many_here"] []
  g_l_hung : mg "_law_hung" = some (.ref f_l_hung)
  f_l_many : Addr
  fd_l_many : FuncData
  F_l_many : Fun K "_law_many" "_law_many" s_l_many f_l_many fd_l_many
  b_l_many : Binds K fd_l_many ["_law_pool_here"] []
  g_l_many : mg "_law_many" = some (.ref f_l_many)
  f_l_way : Addr
  fd_l_way : FuncData
  F_l_way : Fun K "_law_way" "_law_way" s_l_way f_l_way fd_l_way
  b_l_way : Binds K fd_l_way ["_law_hung_here", "_law_place"] []
  g_l_way : mg "_law_way" = some (.ref f_l_way)
  f_l_tellings : Addr
  fd_l_tellings : FuncData
  F_l_tellings : Fun K "_law_tellings" "_law_tellings" s_l_tellings f_l_tellings fd_l_tellings
  b_l_tellings : Binds K fd_l_tellings ["_law_hung_here", "_law_view_here"] []
  g_l_tellings : mg "_law_tellings" = some (.ref f_l_tellings)
  f_l_view : Addr
  fd_l_view : FuncData
  F_l_view : Fun K "_law_view" "_law_view" s_l_view f_l_view fd_l_view
  b_l_view : Binds K fd_l_view ["_law_pool_here"] []
  g_l_view : mg "_law_view" = some (.ref f_l_view)
  f_l_unlike : Addr
  fd_l_unlike : FuncData
  F_l_unlike : Fun K "_law_unlike" "_law_unlike" s_l_unlike f_l_unlike fd_l_unlike
  b_l_unlike : Binds K fd_l_unlike ["_law_one", "_law_other", "_law_view_here"] []
  g_l_unlike : mg "_law_unlike" = some (.ref f_l_unlike)
  f_l_move_seen : Addr
  fd_l_move_seen : FuncData
  F_l_move_seen : Fun K "_law_move_seen" "_law_move_seen" s_l_move_seen f_l_move_seen fd_l_move_seen
  b_l_move_seen : Binds K fd_l_move_seen ["_law_tree", "_law_later", "_law_view_here", "_law_block", "_law_place"] []
  g_l_move_seen : mg "_law_move_seen" = some (.ref f_l_move_seen)
  f_l_named_right : Addr
  fd_l_named_right : FuncData
  F_l_named_right : Fun K "_law_named_right" "_law_named_right" s_l_named_right f_l_named_right fd_l_named_right
  b_l_named_right : Binds K fd_l_named_right ["_law_pool_here", "_law_tree", "_law_other", "_law_view_here", "_law_due"] []
  g_l_named_right : mg "_law_named_right" = some (.ref f_l_named_right)
  f_law : Addr
  fd_law : FuncData
  F_law : Fun K "law" "law" s_law f_law fd_law
  b_law : Binds K fd_law ["_law_script"] []
  g_law : mg "law" = some (.ref f_law)
  M_Tree : Mk K C_Tree f_Tree_init
  o_Tree : OwnC K C_Tree
  nf_Tree_hung : NoAttr K C_Tree "hung"
  xc_BadTree : XCls K C_BadTree
  te_BadTree : PySem.W.exmOne K (.ref C_BadTree) (.ref C_BadTree) = some true
  X_BadTree : OexC K C_BadTree
  i_BadTree : PySem.W.findIn K (.ref C_BadTree) "__init__" = some (some (.ref f_BadTree_init))
  ti_BadTree : PySem.W.typeIn K (.ref f_BadTree_init) = some (.type "function")
  nf_BadTree_part : PySem.W.findIn K (.ref C_BadTree) "part" = some none
  xc_NoBlock : XCls K C_NoBlock
  te_NoBlock : PySem.W.exmOne K (.ref C_NoBlock) (.ref C_NoBlock) = some true
  X_NoBlock : OexC K C_NoBlock
  x0_NoBlock : PySem.W.excIn K C_NoBlock [.type "ValueError", .type "Exception", .type "BaseException", .type "object"] "ValueError.__new__" = true
  xc_NoPlace : XCls K C_NoPlace
  te_NoPlace : PySem.W.exmOne K (.ref C_NoPlace) (.ref C_NoPlace) = some true
  X_NoPlace : OexC K C_NoPlace
  x0_NoPlace : PySem.W.excIn K C_NoPlace [.type "ValueError", .type "Exception", .type "BaseException", .type "object"] "ValueError.__new__" = true
  xc_Beneath : XCls K C_Beneath
  te_Beneath : PySem.W.exmOne K (.ref C_Beneath) (.ref C_Beneath) = some true
  X_Beneath : OexC K C_Beneath
  x0_Beneath : PySem.W.excIn K C_Beneath [.type "ValueError", .type "Exception", .type "BaseException", .type "object"] "ValueError.__new__" = true
  xc_NoOrder : XCls K C_NoOrder
  te_NoOrder : PySem.W.exmOne K (.ref C_NoOrder) (.ref C_NoOrder) = some true
  X_NoOrder : OexC K C_NoOrder
  x0_NoOrder : PySem.W.excIn K C_NoOrder [.type "ValueError", .type "Exception", .type "BaseException", .type "object"] "ValueError.__new__" = true
  xc_NoView : XCls K C_NoView
  te_NoView : PySem.W.exmOne K (.ref C_NoView) (.ref C_NoView) = some true
  X_NoView : OexC K C_NoView
  x0_NoView : PySem.W.excIn K C_NoView [.type "ValueError", .type "Exception", .type "BaseException", .type "object"] "ValueError.__new__" = true
  xc_OtherBlocks : XCls K C_OtherBlocks
  te_OtherBlocks : PySem.W.exmOne K (.ref C_OtherBlocks) (.ref C_OtherBlocks) = some true
  X_OtherBlocks : OexC K C_OtherBlocks
  x0_OtherBlocks : PySem.W.excIn K C_OtherBlocks [.type "ValueError", .type "Exception", .type "BaseException", .type "object"] "ValueError.__new__" = true
section
variable {P : Program} {w : World} {K : PySem.W.Frag} {mg : Str → Option Value} {base : Heap}
theorem ok_BadTree_init (T : Txt K mg)   : FnOk P w K mg base CX0 1 T.f_BadTree_init T.fd_BadTree_init ["self", "part"] (spX1 T.C_BadTree "part") := by
  refine T.F_BadTree_init.ok sc_BadTree_init (fun vs H Q E h => len_x1 h) (fun cdv A outer s H vs Q E hr h => ?_)
  have nd := sc_BadTree_init.nd
  exact ⟨t_BadTree_init K, (pss_one (ps_ost (pv 0) (pv 1))), pure_x1 T.X_BadTree T.nf_BadTree_part  h rfl⟩
theorem ok_is_integer (T : Txt K mg)   : FnOk P w K mg base CX0 1 T.f_is_integer T.fd_is_integer ["thing"] spInteger := by
  refine T.F_is_integer.ok sc_is_integer (fun vs H Q E h => len_is_integer h) (fun cdv A outer s H vs Q E hr h => ?_)
  have nd := sc_is_integer.nd
  exact ⟨t_is_integer K, (pss_one (ps_ret (pe_and (pe_callB call_isi (by rfl) T.z_isinstance (by decide +kernel) (pa_cons (pv 0) (pa_cons (pe_bltn (v := .ty "int") (by rfl) T.z_int (by decide +kernel) rfl) pa_nil))) (pe_one (pe_not (pe_callB call_isi (by rfl) T.z_isinstance (by decide +kernel) (pa_cons (pv 0) (pa_cons (pe_bltn (v := .ty "bool") (by rfl) T.z_bool (by decide +kernel) rfl) pa_nil)))))))), pure_is_integer  h⟩
theorem ok_is_within (T : Txt K mg)  (G_is_integer : FnOk P w K mg base CX0 1 T.f_is_integer T.fd_is_integer ["thing"] spInteger) : FnOk P w K mg base CX0 2 T.f_is_within T.fd_is_within ["thing", "least", "most"] spWithin := by
  refine T.F_is_within.ok sc_is_within (fun vs H Q E h => len_is_within h) (fun cdv A outer s H vs Q E hr h => ?_)
  have nd := sc_is_within.nd
  exact ⟨t_is_within K, (pss_one (ps_ret (pe_and (pe_call G_is_integer (hr.mono (by decide)) (by rfl) T.g_is_integer T.F_is_integer.kp T.b_is_integer .nil pass0 (pa_cons (pv 0) pa_nil)) (pe_one (pe_chain op_le op_le (pv 1) (pv 0) (pv 2)))))), pure_is_within  h⟩
theorem ok_is_pair (T : Txt K mg)   : FnOk P w K mg base CX0 1 T.f_is_pair T.fd_is_pair ["thing"] spPair := by
  refine T.F_is_pair.ok sc_is_pair (fun vs H Q E h => len_is_pair h) (fun cdv A outer s H vs Q E hr h => ?_)
  have nd := sc_is_pair.nd
  exact ⟨t_is_pair K, (pss_one (ps_ret (pe_and (pe_callB call_isi (by rfl) T.z_isinstance (by decide +kernel) (pa_cons (pv 0) (pa_cons (pe_bltn (v := .ty "tuple") (by rfl) T.z_tuple (by decide +kernel) rfl) pa_nil))) (pe_one (pe_cmpR op_eq (pe_callB call_len_seq (by rfl) T.z_len PySem.boot_len (pa_cons (pv 0) pa_nil)) pe_int (nomark _)))))), pure_is_pair  h⟩
theorem ok_is_view (T : Txt K mg)  (G_is_pair : FnOk P w K mg base CX0 1 T.f_is_pair T.fd_is_pair ["thing"] spPair) (G_is_within : FnOk P w K mg base CX0 2 T.f_is_within T.fd_is_within ["thing", "least", "most"] spWithin) : FnOk P w K mg base CX0 3 T.f_is_view T.fd_is_view ["thing"] spView := by
  refine T.F_is_view.ok sc_is_view (fun vs H Q E h => len_is_view h) (fun cdv A outer s H vs Q E hr h => ?_)
  have nd := sc_is_view.nd
  exact ⟨t_is_view K, (pss_one (ps_ret (pe_and (pe_call G_is_pair (hr.mono (by decide)) (by rfl) T.g_is_pair T.F_is_pair.kp T.b_is_pair .nil pass0 (pa_cons (pv 0) pa_nil)) (pe_one (pe_callB (cr_all rfl) (by rfl) T.z_all (by decide +kernel) (pa_cons (pe_lc (own := [("item", 1)]) (by rfl) nd (pi_tup (pv 0)) (blkOk_by (N := N_is_view) (sc := defScope s_is_view) (by decide +kernel)) (fun _ _ _ _ _ => (pg_name (i := 1) nd rfl (Or.inl rfl))) (fun _ _ _ _ _ => pts_nil) (fun _ _ _ _ _ => (pe_call G_is_within (hr.mono (by decide)) (by rfl) T.g_is_within T.F_is_within.kp T.b_is_within .nil pass0 (pa_cons (pv 1) (pa_cons pe_int (pa_cons (pe_glob (by rfl) T.c_MOST_STEPS ⟨_, rfl⟩) pa_nil)))))) pa_nil)))))), pure_is_view  h⟩
theorem ok_check_block (T : Txt K mg)  (G_is_within : FnOk P w K mg base CX0 2 T.f_is_within T.fd_is_within ["thing", "least", "most"] spWithin) : FnOk P w K mg base (L2.CX P w) 3 T.f_check_block T.fd_check_block ["blocks", "thing"] (spCheck 1 T.C_NoBlock) := by
  refine T.F_check_block.okX sc_check_block (fun vs H Q E h => len_check h) (fun cdv A outer s H vs Q E hr h => ?_)
  have nd := sc_check_block.nd
  exact ⟨t_check_block K T.C_NoBlock E, (pss_one (ps_if (pt_not (pt_val (pe_call G_is_within (hr.mono (by decide)) (by rfl) T.g_is_within T.F_is_within.kp T.b_is_within .nil pass0 (pa_cons (pv 1) (pa_cons pe_int (pa_cons (pv 0) pa_nil)))))) (pss_one (ps_raise rfl (takes_of rfl rfl rfl rfl) (pmk_own0 PySem.F.excBase_ValueError T.x0_NoBlock T.g_NoBlock T.X_NoBlock.kC (raises_own T.X_NoBlock.exC T.X_NoBlock.tyC) (by rfl)))) pss_nil)), pure_check_block  h⟩
theorem ok_check_place (T : Txt K mg)  (G_is_within : FnOk P w K mg base CX0 2 T.f_is_within T.fd_is_within ["thing", "least", "most"] spWithin) : FnOk P w K mg base (L2.CX P w) 3 T.f_check_place T.fd_check_place ["blocks", "thing"] (spCheck 0 T.C_NoPlace) := by
  refine T.F_check_place.okX sc_check_place (fun vs H Q E h => len_check h) (fun cdv A outer s H vs Q E hr h => ?_)
  have nd := sc_check_place.nd
  exact ⟨t_check_place K T.C_NoPlace E, (pss_one (ps_if (pt_not (pt_val (pe_call G_is_within (hr.mono (by decide)) (by rfl) T.g_is_within T.F_is_within.kp T.b_is_within .nil pass0 (pa_cons (pv 1) (pa_cons pe_int (pa_cons (pv 0) pa_nil)))))) (pss_one (ps_raise rfl (takes_of rfl rfl rfl rfl) (pmk_own0 PySem.F.excBase_ValueError T.x0_NoPlace T.g_NoPlace T.X_NoPlace.kC (raises_own T.X_NoPlace.exC T.X_NoPlace.tyC) (by rfl)))) pss_nil)), pure_check_place  h⟩
theorem ok_check_view (T : Txt K mg)  (G_is_view : FnOk P w K mg base CX0 3 T.f_is_view T.fd_is_view ["thing"] spView) : FnOk P w K mg base (L2.CX P w) 4 T.f_check_view T.fd_check_view ["view"] (spCheckView T.C_NoView) := by
  refine T.F_check_view.okX sc_check_view (fun vs H Q E h => len_check_view h) (fun cdv A outer s H vs Q E hr h => ?_)
  have nd := sc_check_view.nd
  exact ⟨t_check_view K T.C_NoView E, (pss_one (ps_if (pt_not (pt_val (pe_call G_is_view (hr.mono (by decide)) (by rfl) T.g_is_view T.F_is_view.kp T.b_is_view .nil pass0 (pa_cons (pv 0) pa_nil)))) (pss_one (ps_raise rfl (takes_of rfl rfl rfl rfl) (pmk_own0 PySem.F.excBase_ValueError T.x0_NoView T.g_NoView T.X_NoView.kC (raises_own T.X_NoView.exC T.X_NoView.tyC) (by rfl)))) pss_nil)), pure_check_view  h⟩
theorem ok_leads_home (T : Txt K mg)   : FnOk P w K mg base CX0 1 T.f_leads_home T.fd_leads_home ["hung", "block"] spLeads := by
  refine T.F_leads_home.ok sc_leads_home (fun vs H Q E h => len_leads_home h) (fun cdv A outer s H vs Q E hr h => ?_)
  have nd := sc_leads_home.nd
  exact ⟨t_leads_home K, (pss_cons (ps_set (i := 2) nd rfl (Or.inl rfl) (pv 1)) (pss_cons (ps_for PassesOwn.never rfl (pi_range1 (by rfl) T.z_range (pa_cons (pe_op op_add (pe_callB call_len_seq (by rfl) T.z_len PySem.boot_len (pa_cons (pv 0) pa_nil)) pe_int) pa_nil)) (pg_name (i := 3) nd rfl (Or.inl rfl)) (pss_cons (ps_if (pt_cmpR op_eq (pv 2) (pe_glob (by rfl) T.c_HEAD ⟨_, rfl⟩) (nomark _)) (pss_one (ps_ret pe_bl)) pss_nil) (pss_one (ps_set (i := 2) nd rfl (Or.inl rfl) (pe_ix ix_tup (pv 0) (pe_op op_sub (pv 2) pe_int) (fun _ _ => rfl)))))) (pss_one (ps_ret pe_bl)))), pure_leads_home  h⟩
theorem ok_Tree_init (T : Txt K mg)  (G_BadTree_init : FnOk P w K mg base CX0 1 T.f_BadTree_init T.fd_BadTree_init ["self", "part"] (spX1 T.C_BadTree "part")) (G_is_within : FnOk P w K mg base CX0 2 T.f_is_within T.fd_is_within ["thing", "least", "most"] spWithin) (G_leads_home : FnOk P w K mg base CX0 1 T.f_leads_home T.fd_leads_home ["hung", "block"] spLeads) : FnOk P w K mg base (L2.CX P w) 3 T.f_Tree_init T.fd_Tree_init ["self", "hung"] (spTree T.C_BadTree T.C_Tree) := by
  refine T.F_Tree_init.okX sc_Tree_init (fun vs H Q E h => len_Tree_init h) (fun cdv A outer s H vs Q E hr h => ?_)
  have nd := sc_Tree_init.nd
  exact ⟨t_Tree_init K T.C_BadTree E, (pss_cons (ps_if (PW.pt (pw_or (pt_not (pt_val (pe_callB call_isi (by rfl) T.z_isinstance (by decide +kernel) (pa_cons (pv 1) (pa_cons (pe_bltn (v := .ty "tuple") (by rfl) T.z_tuple (by decide +kernel) rfl) pa_nil))))) (pw_or1 (pt_not (pt_chain op_le op_le pe_int (pe_callB call_len_seq (by rfl) T.z_len PySem.boot_len (pa_cons (pv 1) pa_nil)) (pe_glob (by rfl) T.c_MOST_BLOCKS ⟨_, rfl⟩)))))) (pss_one (ps_raise rfl (takes_of rfl rfl rfl rfl) (pmk_oex T.X_BadTree T.i_BadTree T.ti_BadTree G_BadTree_init (hr.mono (by decide)) T.b_BadTree_init .nil pass0 (by rfl) T.g_BadTree (pa_cons pe_str pa_nil)))) pss_nil) (pss_cons (ps_for (passes_of rfl) rfl (pi_range2 (by rfl) T.z_range (pa_cons pe_int (pa_cons (pe_op op_add (pe_callB call_len_seq (by rfl) T.z_len PySem.boot_len (pa_cons (pv 1) pa_nil)) pe_int) pa_nil))) (pg_name (i := 2) nd rfl (Or.inl rfl)) (pss_one (ps_if (PW.pt (pw_or (pt_not (pt_val (pe_call G_is_within (hr.mono (by decide)) (by rfl) T.g_is_within T.F_is_within.kp T.b_is_within .nil pass0 (pa_cons (pe_ix ix_tup (pv 1) (pe_op op_sub (pv 2) pe_int) (fun _ _ => rfl)) (pa_cons pe_int (pa_cons (pe_callB call_len_seq (by rfl) T.z_len PySem.boot_len (pa_cons (pv 1) pa_nil)) pa_nil)))))) (pw_or1 (pt_cmpR op_eq (pe_ix ix_tup (pv 1) (pe_op op_sub (pv 2) pe_int) (fun _ _ => rfl)) (pv 2) (nomark _))))) (pss_one (ps_raise rfl (takes_of rfl rfl rfl rfl) (pmk_oex T.X_BadTree T.i_BadTree T.ti_BadTree G_BadTree_init (hr.mono (by decide)) T.b_BadTree_init .nil pass0 (by rfl) T.g_BadTree (pa_cons (pv 2) pa_nil)))) pss_nil))) (pss_cons (ps_for (passes_of rfl) rfl (pi_range2 (by rfl) T.z_range (pa_cons pe_int (pa_cons (pe_op op_add (pe_callB call_len_seq (by rfl) T.z_len PySem.boot_len (pa_cons (pv 1) pa_nil)) pe_int) pa_nil))) (pg_name (i := 2) nd rfl (Or.inl rfl)) (pss_one (ps_if (pt_not (pt_val (pe_call G_leads_home (hr.mono (by decide)) (by rfl) T.g_leads_home T.F_leads_home.kp T.b_leads_home .nil pass0 (pa_cons (pv 1) (pa_cons (pv 2) pa_nil))))) (pss_one (ps_raise rfl (takes_of rfl rfl rfl rfl) (pmk_oex T.X_BadTree T.i_BadTree T.ti_BadTree G_BadTree_init (hr.mono (by decide)) T.b_BadTree_init .nil pass0 (by rfl) T.g_BadTree (pa_cons (pe_tup (pa_cons pe_str (pa_cons (pv 2) pa_nil))) pa_nil)))) pss_nil))) (pss_one (ps_fld (pv 0) (pv 1) rfl))))), pure_Tree_init T.o_Tree T.nf_Tree_hung h⟩
theorem ok_parents_in (T : Txt K mg)   : FnOk P w K mg base CX0 1 T.f_parents_in T.fd_parents_in ["hung", "place"] spParentsIn := by
  refine T.F_parents_in.ok sc_parents_in (fun vs H Q E h => len_parents_in h) (fun cdv A outer s H vs Q E hr h => ?_)
  have nd := sc_parents_in.nd
  exact ⟨t_parents_in K, (pss_cons (ps_set (i := 2) nd rfl (Or.inl rfl) (pe_lst pa_nil)) (pss_cons (ps_set (i := 3) nd rfl (Or.inl rfl) (pv 1)) (pss_cons (ps_while PassesOwn.never (pt_cmpR op_ne (pv 3) (pe_glob (by rfl) T.c_HEAD ⟨_, rfl⟩) (nomark _)) (pss_cons (ps_set (i := 3) nd rfl (Or.inl rfl) (pe_ix ix_tup (pv 0) (pe_op op_sub (pv 3) pe_int) (fun _ _ => rfl))) (pss_one (ps_expr (pe_bm PySem.F.plainAttrs_list PySem.F.slot_list_append PySem.F.type_list_append mt_append (pv 2) (pa_cons (pv 3) pa_nil)))))) (pss_one (ps_ret (pv 2)))))), pure_parents_in  h⟩
theorem ok_hanging (T : Txt K mg)   : FnOk P w K mg base CX0 1 T.f_hanging T.fd_hanging ["hung", "place"] spHanging := by
  refine T.F_hanging.ok sc_hanging (fun vs H Q E h => len_hanging h) (fun cdv A outer s H vs Q E hr h => ?_)
  have nd := sc_hanging.nd
  exact ⟨t_hanging K, (pss_one (ps_ret (pe_lc (own := [("block", 2)]) (by rfl) nd (pi_range2 (by rfl) T.z_range (pa_cons pe_int (pa_cons (pe_op op_add (pe_callB call_len_seq (by rfl) T.z_len PySem.boot_len (pa_cons (pv 0) pa_nil)) pe_int) pa_nil))) (blkOk_by (N := N_hanging) (sc := defScope s_hanging) (by decide +kernel)) (fun _ _ _ _ _ => (pg_name (i := 2) nd rfl (Or.inl rfl))) (fun _ _ _ _ _ => (pts_one (pt_cmpR op_eq (pe_ix ix_tup (pv 0) (pe_op op_sub (pv 2) pe_int) (fun _ _ => rfl)) (pv 1) (nomark _)))) (fun _ _ _ _ _ => (pv 2))))), pure_hanging  h⟩
theorem ok_beneath_in (T : Txt K mg)  (G_hanging : FnOk P w K mg base CX0 1 T.f_hanging T.fd_hanging ["hung", "place"] spHanging) : FnOk P w K mg base CX0 2 T.f_beneath_in T.fd_beneath_in ["hung", "place"] spBeneathIn := by
  refine T.F_beneath_in.ok sc_beneath_in (fun vs H Q E h => len_beneath_in h) (fun cdv A outer s H vs Q E hr h => ?_)
  have nd := sc_beneath_in.nd
  exact ⟨t_beneath_in K, (pss_cons (ps_set (i := 2) nd rfl (Or.inl rfl) (pe_lst pa_nil)) (pss_cons (ps_set (i := 3) nd rfl (Or.inl rfl) (pe_lst (pa_cons (pv 1) pa_nil))) (pss_cons (ps_while PassesOwn.never (pt_cmpR op_gt (pe_callB call_len_seq (by rfl) T.z_len PySem.boot_len (pa_cons (pv 3) pa_nil)) pe_int (nomark _)) (pss_cons (ps_set (i := 4) nd rfl (Or.inl rfl) (pe_call G_hanging (hr.mono (by decide)) (by rfl) T.g_hanging T.F_hanging.kp T.b_hanging .nil pass0 (pa_cons (pv 0) (pa_cons (pe_bm0 PySem.F.plainAttrs_list PySem.F.slot_list_pop PySem.F.type_list_pop mt_pop (pv 3)) pa_nil)))) (pss_cons (ps_expr (pe_bm PySem.F.plainAttrs_list PySem.F.slot_list_extend PySem.F.type_list_extend mt_extend (pv 2) (pa_cons (pv 4) pa_nil))) (pss_one (ps_expr (pe_bm PySem.F.plainAttrs_list PySem.F.slot_list_extend PySem.F.type_list_extend mt_extend (pv 3) (pa_cons (pv 4) pa_nil))))))) (pss_one (ps_ret (pe_callTy call_tuple_of (by rfl) T.z_tuple (by decide +kernel) (pa_cons (pe_callB cr_sortedI (by rfl) T.z_sorted (by decide +kernel) (pa_cons (pv 2) pa_nil)) pa_nil))))))), pure_beneath_in  h⟩
theorem ok_with_place (T : Txt K mg)   : FnOk P w K mg base CX0 1 T.f_with_place T.fd_with_place ["hung", "block", "place"] spWithPlace := by
  refine T.F_with_place.ok sc_with_place (fun vs H Q E h => len_with_place h) (fun cdv A outer s H vs Q E hr h => ?_)
  have nd := sc_with_place.nd
  exact ⟨t_with_place K, (pss_one (ps_ret (pe_op op_catA (pe_op op_catA (pe_slice sl_tupA (pv 0) po_none (po_some (pe_op op_sub (pv 1) pe_int))) (pe_tup (pa_cons (pv 2) pa_nil))) (pe_slice sl_tupA (pv 0) (po_some (pv 1)) po_none)))), pure_with_place  h⟩
theorem ok_moved (T : Txt K mg)  (G_Tree_init : FnOk P w K mg base (L2.CX P w) 3 T.f_Tree_init T.fd_Tree_init ["self", "hung"] (spTree T.C_BadTree T.C_Tree)) (G_beneath_in : FnOk P w K mg base CX0 2 T.f_beneath_in T.fd_beneath_in ["hung", "place"] spBeneathIn) (G_check_block : FnOk P w K mg base (L2.CX P w) 3 T.f_check_block T.fd_check_block ["blocks", "thing"] (spCheck 1 T.C_NoBlock)) (G_check_place : FnOk P w K mg base (L2.CX P w) 3 T.f_check_place T.fd_check_place ["blocks", "thing"] (spCheck 0 T.C_NoPlace)) (G_with_place : FnOk P w K mg base CX0 1 T.f_with_place T.fd_with_place ["hung", "block", "place"] spWithPlace) : FnOk P w K mg base (L2.CX P w) 5 T.f_moved T.fd_moved ["tree", "block", "place"] (spMoved T.C_Tree T.C_NoBlock T.C_NoPlace T.C_Beneath) := by
  refine T.F_moved.okX sc_moved (fun vs H Q E h => len_moved h) (fun cdv A outer s H vs Q E hr h => ?_)
  have nd := sc_moved.nd
  exact ⟨t_moved K T.C_BadTree T.C_Beneath T.C_NoBlock T.C_NoPlace T.C_Tree E, (pss_cons (ps_expr (pe_call G_check_block (hr.mono (by decide)) (by rfl) T.g_check_block T.F_check_block.kp T.b_check_block .nil (passes_call (takes_of rfl rfl rfl rfl) (fun _ _ _ _ h => h)) (pa_cons (pe_callB call_len_seq (by rfl) T.z_len PySem.boot_len (pa_cons (pe_fld (pv 0) rfl) pa_nil)) (pa_cons (pv 1) pa_nil)))) (pss_cons (ps_expr (pe_call G_check_place (hr.mono (by decide)) (by rfl) T.g_check_place T.F_check_place.kp T.b_check_place .nil (passes_call (takes_of rfl rfl rfl rfl) (fun _ _ _ _ h => h)) (pa_cons (pe_callB call_len_seq (by rfl) T.z_len PySem.boot_len (pa_cons (pe_fld (pv 0) rfl) pa_nil)) (pa_cons (pv 2) pa_nil)))) (pss_cons (ps_if (PW.pt (pw_or (pt_cmpR op_eq (pv 2) (pv 1) (nomark _)) (pw_or1 (pt_cmpR op_in_seq (pv 2) (pe_call G_beneath_in (hr.mono (by decide)) (by rfl) T.g_beneath_in T.F_beneath_in.kp T.b_beneath_in .nil pass0 (pa_cons (pe_fld (pv 0) rfl) (pa_cons (pv 1) pa_nil))) (by rfl))))) (pss_one (ps_raise rfl (takes_of rfl rfl rfl rfl) (pmk_own0 PySem.F.excBase_ValueError T.x0_Beneath T.g_Beneath T.X_Beneath.kC (raises_own T.X_Beneath.exC T.X_Beneath.tyC) (by rfl)))) pss_nil) (pss_one (ps_ret (pe_make T.M_Tree G_Tree_init (hr.mono (by decide)) (by rfl) T.g_Tree T.b_Tree_init .nil (passes_call (takes_of rfl rfl rfl rfl) (fun _ _ _ _ h => h)) (pa_cons (pe_call G_with_place (hr.mono (by decide)) (by rfl) T.g_with_place T.F_with_place.kp T.b_with_place .nil pass0 (pa_cons (pe_fld (pv 0) rfl) (pa_cons (pv 1) (pa_cons (pv 2) pa_nil)))) pa_nil))))))), pure_moved T.o_Tree T.nf_Tree_hung h⟩
theorem ok_called (T : Txt K mg)  (G_Tree_init : FnOk P w K mg base (L2.CX P w) 3 T.f_Tree_init T.fd_Tree_init ["self", "hung"] (spTree T.C_BadTree T.C_Tree)) (G_is_within : FnOk P w K mg base CX0 2 T.f_is_within T.fd_is_within ["thing", "least", "most"] spWithin) : FnOk P w K mg base (L2.CX P w) 5 T.f_called T.fd_called ["tree", "order"] (spCalled T.C_Tree T.C_NoOrder) := by
  refine T.F_called.okX sc_called (fun vs H Q E h => len_called h) (fun cdv A outer s H vs Q E hr h => ?_)
  have nd := sc_called.nd
  exact ⟨t_called K T.C_BadTree T.C_NoOrder T.C_Tree E, (pss_cons (ps_set (i := 2) nd rfl (Or.inr rfl) (pe_callB call_len_seq (by rfl) T.z_len PySem.boot_len (pa_cons (pe_fld (pv 0) rfl) pa_nil))) (pss_cons (ps_if (PW.pt (pw_or (pt_not (pt_val (pe_callB call_isi (by rfl) T.z_isinstance (by decide +kernel) (pa_cons (pv 1) (pa_cons (pe_bltn (v := .ty "tuple") (by rfl) T.z_tuple (by decide +kernel) rfl) pa_nil))))) (pw_or1 (pt_not (pt_val (pe_callB (cr_all rfl) (by rfl) T.z_all (by decide +kernel) (pa_cons (pe_lc (own := [("item", 6)]) (by rfl) nd (pi_tup (pv 1)) (blkOk_by (N := N_called) (sc := defScope s_called) (by decide +kernel)) (fun _ _ _ _ _ => (pg_name (i := 6) nd rfl (Or.inl rfl))) (fun _ _ _ _ _ => pts_nil) (fun _ _ _ _ _ => (pe_call G_is_within (hr.mono (by decide)) (by rfl) T.g_is_within T.F_is_within.kp T.b_is_within .nil pass0 (pa_cons (pv 6) (pa_cons pe_int (pa_cons (pv 2) pa_nil)))))) pa_nil))))))) (pss_one (ps_raise rfl (takes_of rfl rfl rfl rfl) (pmk_own0 PySem.F.excBase_ValueError T.x0_NoOrder T.g_NoOrder T.X_NoOrder.kC (raises_own T.X_NoOrder.exC T.X_NoOrder.tyC) (by rfl)))) pss_nil) (pss_cons (ps_if (pt_cmpR (op_neD hr.units) (pe_callB cr_sortedT (by rfl) T.z_sorted (by decide +kernel) (pa_cons (pv 1) pa_nil)) (pe_listRg rfl (by rfl) T.z_list (prg_2 (by rfl) T.z_range pe_int (pe_op op_add (pv 2) pe_int))) (nomark _)) (pss_one (ps_raise rfl (takes_of rfl rfl rfl rfl) (pmk_own0 PySem.F.excBase_ValueError T.x0_NoOrder T.g_NoOrder T.X_NoOrder.kC (raises_own T.X_NoOrder.exC T.X_NoOrder.tyC) (by rfl)))) pss_nil) (pss_cons (ps_set (i := 3) nd rfl (Or.inl rfl) (pe_op op_catA (pe_tup (pa_cons (pe_glob (by rfl) T.c_HEAD ⟨_, rfl⟩) pa_nil)) (pv 1))) (pss_cons (ps_set (i := 4) nd rfl (Or.inl rfl) (pe_op op_rep (pe_lst (pa_cons (pe_glob (by rfl) T.c_HEAD ⟨_, rfl⟩) pa_nil)) (pv 2))) (pss_cons (ps_for (passes_of rfl) rfl (pi_range2 (by rfl) T.z_range (pa_cons pe_int (pa_cons (pe_op op_add (pv 2) pe_int) pa_nil))) (pg_name (i := 5) nd rfl (Or.inl rfl)) (pss_one (ps_asg (pe_ix ix_tup (pv 3) (pe_ix ix_tup (pe_fld (pv 0) rfl) (pe_op op_sub (pv 5) pe_int) (fun _ _ => rfl)) (fun _ _ => rfl)) (pg_sub (pv 4) (pe_op op_sub (pe_ix ix_tup (pv 3) (pv 5) (fun _ _ => rfl)) pe_int) set_list)))) (pss_one (ps_ret (pe_make T.M_Tree G_Tree_init (hr.mono (by decide)) (by rfl) T.g_Tree T.b_Tree_init .nil (passes_call (takes_of rfl rfl rfl rfl) (fun _ _ _ _ h => h)) (pa_cons (pe_callTy call_tuple_of (by rfl) T.z_tuple (by decide +kernel) (pa_cons (pv 4) pa_nil)) pa_nil)))))))))), pure_called T.o_Tree T.nf_Tree_hung h⟩
theorem ok_ties_down (T : Txt K mg)  (G_hanging : FnOk P w K mg base CX0 1 T.f_hanging T.fd_hanging ["hung", "place"] spHanging) : FnOk P w K mg base CX0 2 T.f_ties_down T.fd_ties_down ["hung", "place", "steps"] spTies := by
  refine T.F_ties_down.ok sc_ties_down (fun vs H Q E h => len_ties_down h) (fun cdv A outer s H vs Q E hr h => ?_)
  have nd := sc_ties_down.nd
  exact ⟨t_ties_down K, (pss_cons (ps_set (i := 3) nd rfl (Or.inl rfl) (pe_lst pa_nil)) (pss_cons (ps_set (i := 4) nd rfl (Or.inl rfl) (pe_lst (pa_cons (pv 1) pa_nil))) (pss_cons (ps_for PassesOwn.never rfl (pi_range1 (by rfl) T.z_range (pa_cons (pv 2) pa_nil)) (pg_name (i := 5) nd rfl (Or.inl rfl)) (pss_cons (ps_set (i := 6) nd rfl (Or.inl rfl) (pe_lst pa_nil)) (pss_cons (ps_for PassesOwn.never rfl (pi_list (pv 4)) (pg_name (i := 7) nd rfl (Or.inr rfl)) (pss_one (ps_expr (pe_bm PySem.F.plainAttrs_list PySem.F.slot_list_extend PySem.F.type_list_extend mt_extend (pv 6) (pa_cons (pe_lc (own := [("block", 8)]) (by rfl) nd (pi_list (pe_call G_hanging (hr.mono (by decide)) (by rfl) T.g_hanging T.F_hanging.kp T.b_hanging .nil pass0 (pa_cons (pv 0) (pa_cons (pv 7) pa_nil)))) (blkOk_by (N := N_ties_down) (sc := defScope s_ties_down) (by decide +kernel)) (fun _ _ _ _ _ => (pg_name (i := 8) nd rfl (Or.inl rfl))) (fun _ _ _ _ _ => pts_nil) (fun _ _ _ _ _ => (pe_tup (pa_cons (pv 8) (pa_cons (pv 7) pa_nil))))) pa_nil))))) (pss_cons (ps_expr (pe_bm PySem.F.plainAttrs_list PySem.F.slot_list_extend PySem.F.type_list_extend mt_extend (pv 3) (pa_cons (pv 6) pa_nil))) (pss_one (ps_setLc (i := 4) (own := [("block", 8), ("here", 7)]) (by rfl) nd rfl rfl (sw_true rfl rfl rfl (by decide +kernel)) (pi_list (pv 6)) (blkOk_by (N := N_ties_down) (sc := defScope s_ties_down) (by decide +kernel)) (fun _ _ _ _ _ => (pg_tup rfl (pgs_cons (pg_name (i := 8) nd rfl (Or.inl rfl)) (pgs_cons (pg_name (i := 7) nd rfl (Or.inl rfl)) pgs_nil)))) (fun _ _ _ _ _ => pts_nil) (fun _ _ _ _ _ => (pv 8)))))))) (pss_one (ps_ret (pe_callTy call_tuple_of (by rfl) T.z_tuple (by decide +kernel) (pa_cons (pe_callB cr_sortedPO (by rfl) T.z_sorted (by decide +kernel) (pa_cons (pv 3) pa_nil)) pa_nil))))))), pure_ties_down  h⟩
theorem ok_raw_telling (T : Txt K mg)  (G_parents_in : FnOk P w K mg base CX0 1 T.f_parents_in T.fd_parents_in ["hung", "place"] spParentsIn) (G_ties_down : FnOk P w K mg base CX0 2 T.f_ties_down T.fd_ties_down ["hung", "place", "steps"] spTies) : FnOk P w K mg base CX0 3 T.f_raw_telling T.fd_raw_telling ["hung", "view", "place"] spRaw := by
  refine T.F_raw_telling.ok sc_raw_telling (fun vs H Q E h => len_raw_telling h) (fun cdv A outer s H vs Q E hr h => ?_)
  have nd := sc_raw_telling.nd
  exact ⟨t_raw_telling K, (pss_one (ps_ret (pe_tup (pa_cons (pe_callTy call_tuple_of (by rfl) T.z_tuple (by decide +kernel) (pa_cons (pe_slice sl_list (pe_call G_parents_in (hr.mono (by decide)) (by rfl) T.g_parents_in T.F_parents_in.kp T.b_parents_in .nil pass0 (pa_cons (pv 0) (pa_cons (pv 2) pa_nil))) po_none (po_some (pe_ix ix_tup (pv 1) pe_int (fun _ _ => rfl)))) pa_nil)) (pa_cons (pe_call G_ties_down (hr.mono (by decide)) (by rfl) T.g_ties_down T.F_ties_down.kp T.b_ties_down .nil pass0 (pa_cons (pv 0) (pa_cons (pv 2) (pa_cons (pe_ix ix_tup (pv 1) pe_int (fun _ _ => rfl)) pa_nil)))) pa_nil))))), pure_raw_telling  h⟩
theorem ok_telling (T : Txt K mg)  (G_check_place : FnOk P w K mg base (L2.CX P w) 3 T.f_check_place T.fd_check_place ["blocks", "thing"] (spCheck 0 T.C_NoPlace)) (G_check_view : FnOk P w K mg base (L2.CX P w) 4 T.f_check_view T.fd_check_view ["view"] (spCheckView T.C_NoView)) (G_raw_telling : FnOk P w K mg base CX0 3 T.f_raw_telling T.fd_raw_telling ["hung", "view", "place"] spRaw) : FnOk P w K mg base (L2.CX P w) 5 T.f_telling T.fd_telling ["tree", "view", "place"] (spTelling T.C_Tree T.C_NoView T.C_NoPlace) := by
  refine T.F_telling.okX sc_telling (fun vs H Q E h => len_telling h) (fun cdv A outer s H vs Q E hr h => ?_)
  have nd := sc_telling.nd
  exact ⟨t_telling K T.C_NoPlace T.C_NoView E, (pss_cons (ps_expr (pe_call G_check_view (hr.mono (by decide)) (by rfl) T.g_check_view T.F_check_view.kp T.b_check_view .nil (passes_call (takes_of rfl rfl rfl rfl) (fun _ _ _ _ h => h)) (pa_cons (pv 1) pa_nil))) (pss_cons (ps_expr (pe_call G_check_place (hr.mono (by decide)) (by rfl) T.g_check_place T.F_check_place.kp T.b_check_place .nil (passes_call (takes_of rfl rfl rfl rfl) (fun _ _ _ _ h => h)) (pa_cons (pe_callB call_len_seq (by rfl) T.z_len PySem.boot_len (pa_cons (pe_fld (pv 0) rfl) pa_nil)) (pa_cons (pv 2) pa_nil)))) (pss_one (ps_ret (pe_call G_raw_telling (hr.mono (by decide)) (by rfl) T.g_raw_telling T.F_raw_telling.kp T.b_raw_telling .nil pass0 (pa_cons (pe_fld (pv 0) rfl) (pa_cons (pv 1) (pa_cons (pv 2) pa_nil)))))))), pure_telling T.o_Tree T.nf_Tree_hung h⟩
theorem ok_raw_tellings (T : Txt K mg)  (G_raw_telling : FnOk P w K mg base CX0 3 T.f_raw_telling T.fd_raw_telling ["hung", "view", "place"] spRaw) : FnOk P w K mg base CX0 4 T.f_raw_tellings T.fd_raw_tellings ["hung", "view"] spRaws := by
  refine T.F_raw_tellings.ok sc_raw_tellings (fun vs H Q E h => len_raw_tellings h) (fun cdv A outer s H vs Q E hr h => ?_)
  have nd := sc_raw_tellings.nd
  exact ⟨t_raw_tellings K, (pss_one (ps_ret (pe_lc (own := [("place", 2)]) (by rfl) nd (pi_range1 (by rfl) T.z_range (pa_cons (pe_op op_add (pe_callB call_len_seq (by rfl) T.z_len PySem.boot_len (pa_cons (pv 0) pa_nil)) pe_int) pa_nil)) (blkOk_by (N := N_raw_tellings) (sc := defScope s_raw_tellings) (by decide +kernel)) (fun _ _ _ _ _ => (pg_name (i := 2) nd rfl (Or.inl rfl))) (fun _ _ _ _ _ => pts_nil) (fun _ _ _ _ _ => (pe_call G_raw_telling (hr.mono (by decide)) (by rfl) T.g_raw_telling T.F_raw_telling.kp T.b_raw_telling .nil pass0 (pa_cons (pv 0) (pa_cons (pv 1) (pa_cons (pv 2) pa_nil)))))))), pure_raw_tellings  h⟩
theorem ok_unlike (T : Txt K mg)  (G_check_view : FnOk P w K mg base (L2.CX P w) 4 T.f_check_view T.fd_check_view ["view"] (spCheckView T.C_NoView)) (G_raw_tellings : FnOk P w K mg base CX0 4 T.f_raw_tellings T.fd_raw_tellings ["hung", "view"] spRaws) : FnOk P w K mg base (L2.CX P w) 5 T.f_unlike T.fd_unlike ["tree", "other", "view"] (spUnlike T.C_Tree T.C_OtherBlocks T.C_NoView) := by
  refine T.F_unlike.okX sc_unlike (fun vs H Q E h => len_unlike h) (fun cdv A outer s H vs Q E hr h => ?_)
  have nd := sc_unlike.nd
  exact ⟨t_unlike K T.C_NoView T.C_OtherBlocks E, (pss_cons (ps_if (pt_cmpR op_ne (pe_callB call_len_seq (by rfl) T.z_len PySem.boot_len (pa_cons (pe_fld (pv 0) rfl) pa_nil)) (pe_callB call_len_seq (by rfl) T.z_len PySem.boot_len (pa_cons (pe_fld (pv 1) rfl) pa_nil)) (nomark _)) (pss_one (ps_raise rfl (takes_of rfl rfl rfl rfl) (pmk_own0 PySem.F.excBase_ValueError T.x0_OtherBlocks T.g_OtherBlocks T.X_OtherBlocks.kC (raises_own T.X_OtherBlocks.exC T.X_OtherBlocks.tyC) (by rfl)))) pss_nil) (pss_cons (ps_expr (pe_call G_check_view (hr.mono (by decide)) (by rfl) T.g_check_view T.F_check_view.kp T.b_check_view .nil (passes_call (takes_of rfl rfl rfl rfl) (fun _ _ _ _ h => h)) (pa_cons (pv 2) pa_nil))) (pss_cons (ps_set (i := 3) nd rfl (Or.inr rfl) (pe_call G_raw_tellings (hr.mono (by decide)) (by rfl) T.g_raw_tellings T.F_raw_tellings.kp T.b_raw_tellings .nil pass0 (pa_cons (pe_fld (pv 0) rfl) (pa_cons (pv 2) pa_nil)))) (pss_cons (ps_set (i := 4) nd rfl (Or.inr rfl) (pe_call G_raw_tellings (hr.mono (by decide)) (by rfl) T.g_raw_tellings T.F_raw_tellings.kp T.b_raw_tellings .nil pass0 (pa_cons (pe_fld (pv 1) rfl) (pa_cons (pv 2) pa_nil)))) (pss_one (ps_ret (pe_callTy call_tuple_of (by rfl) T.z_tuple (by decide +kernel) (pa_cons (pe_lc (own := [("place", 5)]) (by rfl) nd (pi_range1 (by rfl) T.z_range (pa_cons (pe_callB call_len_seq (by rfl) T.z_len PySem.boot_len (pa_cons (pv 3) pa_nil)) pa_nil)) (blkOk_by (N := N_unlike) (sc := defScope s_unlike) (by decide +kernel)) (fun _ _ _ _ _ => (pg_name (i := 5) nd rfl (Or.inl rfl))) (fun _ _ _ _ _ => (pts_one (pt_cmpR (op_neD hr.units) (pe_ix ix_list (pv 3) (pv 5) (fun _ _ => rfl)) (pe_ix ix_list (pv 4) (pv 5) (fun _ _ => rfl)) (nomark _)))) (fun _ _ _ _ _ => (pv 5))) pa_nil)))))))), pure_unlike T.o_Tree T.nf_Tree_hung h⟩
theorem ok_l_pool (T : Txt K mg)   : FnOk P w K mg base CX0 1 T.f_l_pool T.fd_l_pool ["_law_script"] (spPool K) := by
  refine T.F_l_pool.ok sc_l_pool (fun vs H Q E h => len_l_pool h) (fun cdv A outer s H vs Q E hr h => ?_)
  have nd := sc_l_pool.nd
  exact ⟨t_l_pool K, (pss_cons (ps_setLc (i := 1) (own := [("_law_cell", 3)]) (by rfl) nd rfl rfl (sw_true rfl rfl rfl (by decide +kernel)) (pi_list (pe_slice sl_list (pv 0) po_none (po_some pe_int))) (blkOk_by (N := N_l_pool) (sc := defScope s_l_pool) (by decide +kernel)) (fun _ _ _ _ _ => (pg_name (i := 3) nd rfl (Or.inl rfl))) (fun _ _ _ _ _ => (pts_one (pt_cmpR op_ge (pe_callB call_abs (by rfl) T.z_abs (by decide +kernel) (pa_cons (pv 3) pa_nil)) (pe_op op_pow pe_int pe_int) (nomark _)))) (fun _ _ _ _ _ => (pe_callB call_abs (by rfl) T.z_abs (by decide +kernel) (pa_cons (pv 3) pa_nil)))) (pss_cons (ps_setLc (i := 2) (own := [("_law_cell", 3)]) (by rfl) nd rfl rfl (sw_true rfl rfl rfl (by decide +kernel)) (pi_list (pe_slice sl_list (pv 0) po_none (po_some pe_int))) (blkOk_by (N := N_l_pool) (sc := defScope s_l_pool) (by decide +kernel)) (fun _ _ _ _ _ => (pg_name (i := 3) nd rfl (Or.inl rfl))) (fun _ _ _ _ _ => (pts_one (pt_cmpR op_lt (pe_callB call_abs (by rfl) T.z_abs (by decide +kernel) (pa_cons (pv 3) pa_nil)) (pe_op op_pow pe_int pe_int) (nomark _)))) (fun _ _ _ _ _ => (pe_op op_mod (pe_callTy call_int1 (by rfl) T.z_int (by decide +kernel) (pa_cons (pv 3) pa_nil)) pe_int))) (pss_one (ps_ret (pe_lst (pa_cons (pv 1) (pa_cons (pv 2) (pa_cons pe_int (pa_cons pe_int pa_nil))))))))), pure_l_pool  h⟩
theorem ok_l_draw (T : Txt K mg)   : FnOk P w K mg base CX0 1 T.f_l_draw T.fd_l_draw ["_law_pool_here", "_law_many_here"] spDraw := by
  refine T.F_l_draw.ok sc_l_draw (fun vs H Q E h => len_l_draw h) (fun cdv A outer s H vs Q E hr h => ?_)
  have nd := sc_l_draw.nd
  exact ⟨t_l_draw K, (C8.pss_cut (ps_if (PW.pt (pw_and (pt_cmpR op_le (pe_ix ix_list (pv 0) pe_int (fun _ _ => rfl)) pe_int (nomark _)) (pw_and1 (pt_cmpR op_gt (pe_callB call_len_seq (by rfl) T.z_len PySem.boot_len (pa_cons (pe_ix ix_list (pv 0) pe_int (fun _ _ => rfl)) pa_nil)) pe_int (nomark _))))) (pss_cons (ps_asg (pe_ix ix_list (pe_ix ix_list (pv 0) pe_int (fun _ _ => rfl)) pe_int (fun _ _ => rfl)) (pg_sub (pv 0) pe_int set_list)) (pss_one (ps_asg (pe_slice sl_list (pe_ix ix_list (pv 0) pe_int (fun _ _ => rfl)) (po_some pe_int) po_none) (pg_sub (pv 0) pe_int set_list)))) pss_nil) (pss_cons (ps_if (pt_cmpR op_gt (pe_ix ix_list (pv 0) pe_int (fun _ _ => rfl)) pe_int (nomark _)) (pss_cons (ps_set (i := 2) nd rfl (Or.inl rfl) (pe_op op_mod (pe_callTy call_int1 (by rfl) T.z_int (by decide +kernel) (pa_cons (pe_ix ix_list (pv 0) pe_int (fun _ _ => rfl)) pa_nil)) (pv 1))) (pss_cons (ps_asg (pe_op op_fdivN (pe_ix ix_list (pv 0) pe_int (fun _ _ => rfl)) (pv 1)) (pg_sub (pv 0) pe_int set_list)) (pss_one (ps_ret (pv 2))))) pss_nil) (pss_cons (ps_asg (pe_op op_add (pe_ix ix_list (pv 0) pe_int (fun _ _ => rfl)) pe_int) (pg_sub (pv 0) pe_int set_list)) (pss_cons (ps_set (i := 3) nd rfl (Or.inl rfl) pe_int) (C8.pss_cut (ps_if (pt_cmpR op_gt (pe_callB call_len_seq (by rfl) T.z_len PySem.boot_len (pa_cons (pe_ix ix_list (pv 0) pe_int (fun _ _ => rfl)) pa_nil)) pe_int (nomark _)) (pss_one (ps_set (i := 3) nd rfl (Or.inl rfl) (pe_ix ix_list (pe_ix ix_list (pv 0) pe_int (fun _ _ => rfl)) (pe_op op_mod (pe_callTy call_int1 (by rfl) T.z_int (by decide +kernel) (pa_cons (pe_ix ix_list (pv 0) pe_int (fun _ _ => rfl)) pa_nil)) (pe_callB call_len_seq (by rfl) T.z_len PySem.boot_len (pa_cons (pe_ix ix_list (pv 0) pe_int (fun _ _ => rfl)) pa_nil))) (fun _ _ => rfl)))) pss_nil) (pss_cons (ps_set (i := 4) nd rfl (Or.inl rfl) (pe_op op_mod (pe_callTy call_int1 (by rfl) T.z_int (by decide +kernel) (pa_cons (pe_op op_mul (pe_op op_add (pe_op op_add (pv 3) (pe_op op_mul pe_int (pe_ix ix_list (pv 0) pe_int (fun _ _ => rfl)))) pe_int) pe_int) pa_nil)) pe_int)) (pss_cons (ps_set (i := 4) nd rfl (Or.inl rfl) (pe_op op_mod (pe_callTy call_int1 (by rfl) T.z_int (by decide +kernel) (pa_cons (pe_op op_mul (pv 4) (pe_op op_add (pe_op op_fdivN (pv 4) pe_int) pe_int)) pa_nil)) pe_int)) (pss_cons (ps_set (i := 4) nd rfl (Or.inl rfl) (pe_op op_mod (pe_callTy call_int1 (by rfl) T.z_int (by decide +kernel) (pa_cons (pe_op op_mul (pv 4) (pe_op op_add (pe_op op_fdivN (pv 4) pe_int) pe_int)) pa_nil)) pe_int)) (pss_one (ps_ret (pe_op op_mod (pe_callTy call_int1 (by rfl) T.z_int (by decide +kernel) (pa_cons (pe_op op_fdivN (pv 4) pe_int) pa_nil)) (pv 1)))))))))))), pure_l_draw  h⟩
theorem ok_l_is (T : Txt K mg)  (d : Nat) (G_l_is : FnOk P w K mg base CX0 d T.f_l_is T.fd_l_is ["_law_told", "_law_due"] (spIsN d)) : FnOk P w K mg base CX0 (d + 1) T.f_l_is T.fd_l_is ["_law_told", "_law_due"] (spIsN (d + 1)) := by
  refine T.F_l_is.ok sc_l_is (fun vs H Q E h => len_l_is h) (fun cdv A outer s H vs Q E hr h => ?_)
  have nd := sc_l_is.nd
  exact ⟨t_l_is K d, (pss_cons (ps_if (pt_val (pe_callB call_isiT (by rfl) T.z_isinstance (by decide +kernel) (pa_cons (pv 1) (pa_cons (pe_tup (pa_cons (pe_bltn (v := .ty "tuple") (by rfl) T.z_tuple (by decide +kernel) rfl) (pa_cons (pe_bltn (v := .ty "list") (by rfl) T.z_list (by decide +kernel) rfl) pa_nil))) pa_nil)))) (pss_cons (ps_if (PW.pt (pw_or (pt_cmpR op_ne (pe_callB call_isi (by rfl) T.z_isinstance (by decide +kernel) (pa_cons (pv 0) (pa_cons (pe_bltn (v := .ty "tuple") (by rfl) T.z_tuple (by decide +kernel) rfl) pa_nil))) (pe_callB call_isi (by rfl) T.z_isinstance (by decide +kernel) (pa_cons (pv 1) (pa_cons (pe_bltn (v := .ty "tuple") (by rfl) T.z_tuple (by decide +kernel) rfl) pa_nil))) (nomark _)) (pw_or1 (pt_cmpR op_ne (pe_callB call_isi (by rfl) T.z_isinstance (by decide +kernel) (pa_cons (pv 0) (pa_cons (pe_bltn (v := .ty "list") (by rfl) T.z_list (by decide +kernel) rfl) pa_nil))) (pe_callB call_isi (by rfl) T.z_isinstance (by decide +kernel) (pa_cons (pv 1) (pa_cons (pe_bltn (v := .ty "list") (by rfl) T.z_list (by decide +kernel) rfl) pa_nil))) (nomark _))))) (pss_one (ps_ret pe_bl)) pss_nil) (pss_one (ps_ret (pe_and (pe_cmpR op_eq (pe_callB call_len_seq (by rfl) T.z_len PySem.boot_len (pa_cons (pv 0) pa_nil)) (pe_callB call_len_seq (by rfl) T.z_len PySem.boot_len (pa_cons (pv 1) pa_nil)) (nomark _)) (pe_one (pe_callB (cr_all rfl) (by rfl) T.z_all (by decide +kernel) (pa_cons (pe_lc (own := [("_law_at", 2)]) (by rfl) nd (pi_range1 (by rfl) T.z_range (pa_cons (pe_callB call_len_seq (by rfl) T.z_len PySem.boot_len (pa_cons (pv 1) pa_nil)) pa_nil)) (blkOk_by (N := N_l_is) (sc := defScope s_l_is) (by decide +kernel)) (fun _ _ _ _ _ => (pg_name (i := 2) nd rfl (Or.inl rfl))) (fun _ _ _ _ _ => pts_nil) (fun _ _ _ _ _ => (pe_call G_l_is hr (by rfl) T.g_l_is T.F_l_is.kp T.b_l_is .nil pass0 (pa_cons (pe_ix ix_seq (pv 0) (pv 2) (fun _ _ => rfl)) (pa_cons (pe_ix ix_seq (pv 1) (pv 2) (fun _ _ => rfl)) pa_nil))))) pa_nil))))))) pss_nil) (pss_cons (ps_if (pt_val (pe_callB call_isi (by rfl) T.z_isinstance (by decide +kernel) (pa_cons (pv 1) (pa_cons (pe_bltn (v := .ty "dict") (by rfl) T.z_dict (by decide +kernel) rfl) pa_nil)))) pss_never pss_nil) (pss_cons (ps_if (pt_cmpR op_isN (pv 1) pe_non (nomark _)) (pss_one (ps_ret (pe_cmpR op_isN (pv 0) pe_non (nomark _)))) pss_nil) (pss_one (ps_ret (pe_and (pe_cmpR op_eq (pe_callB call_isi (by rfl) T.z_isinstance (by decide +kernel) (pa_cons (pv 0) (pa_cons (pe_bltn (v := .ty "bool") (by rfl) T.z_bool (by decide +kernel) rfl) pa_nil))) (pe_callB call_isi (by rfl) T.z_isinstance (by decide +kernel) (pa_cons (pv 1) (pa_cons (pe_bltn (v := .ty "bool") (by rfl) T.z_bool (by decide +kernel) rfl) pa_nil))) (nomark _)) (pe_and (pe_cmpR op_notN (pv 0) pe_non (nomark _)) (pe_one (pe_cmpR op_eq (pv 0) (pv 1) (nomark _)))))))))), pure_l_is  h⟩
theorem ok_l_mixed (T : Txt K mg)  (G_l_draw : FnOk P w K mg base CX0 1 T.f_l_draw T.fd_l_draw ["_law_pool_here", "_law_many_here"] spDraw) : FnOk P w K mg base CX0 2 T.f_l_mixed T.fd_l_mixed ["_law_pool_here", "_law_many_here"] spMixed := by
  refine T.F_l_mixed.ok sc_l_mixed (fun vs H Q E h => len_l_mixed h) (fun cdv A outer s H vs Q E hr h => ?_)
  have nd := sc_l_mixed.nd
  exact ⟨t_l_mixed K, (pss_cons (ps_set (i := 2) nd rfl (Or.inr rfl) (pe_listRg rfl (by rfl) T.z_list (prg_2 (by rfl) T.z_range pe_int (pe_op op_add (pv 1) pe_int)))) (pss_one (ps_ret (pe_lc (own := [("_law_turn", 3)]) (by rfl) nd (pi_range1 (by rfl) T.z_range (pa_cons (pv 1) pa_nil)) (blkOk_by (N := N_l_mixed) (sc := defScope s_l_mixed) (by decide +kernel)) (fun _ _ _ _ _ => (pg_name (i := 3) nd rfl (Or.inl rfl))) (fun _ _ _ _ _ => pts_nil) (fun _ _ _ _ _ => (pe_bm PySem.F.plainAttrs_list PySem.F.slot_list_pop PySem.F.type_list_pop mt_popAt (pv 2) (pa_cons (pe_call G_l_draw (hr.mono (by decide)) (by rfl) T.g_l_draw T.F_l_draw.kp T.b_l_draw .nil pass0 (pa_cons (pv 0) (pa_cons (pe_callB call_len_seq (by rfl) T.z_len PySem.boot_len (pa_cons (pv 2) pa_nil)) pa_nil))) pa_nil))))))), pure_l_mixed  h⟩
theorem ok_l_hung (T : Txt K mg)  (G_l_draw : FnOk P w K mg base CX0 1 T.f_l_draw T.fd_l_draw ["_law_pool_here", "_law_many_here"] spDraw) (G_l_mixed : FnOk P w K mg base CX0 2 T.f_l_mixed T.fd_l_mixed ["_law_pool_here", "_law_many_here"] spMixed) : FnOk P w K mg base CX0 3 T.f_l_hung T.fd_l_hung ["_law_pool_here", "_law_many_here"] spHung := by
  refine T.F_l_hung.ok sc_l_hung (fun vs H Q E h => len_l_hung h) (fun cdv A outer s H vs Q E hr h => ?_)
  have nd := sc_l_hung.nd
  exact ⟨t_l_hung K, (pss_cons (ps_set (i := 2) nd rfl (Or.inl rfl) (pe_call G_l_draw (hr.mono (by decide)) (by rfl) T.g_l_draw T.F_l_draw.kp T.b_l_draw .nil pass0 (pa_cons (pv 0) (pa_cons pe_int pa_nil)))) (pss_cons (ps_set (i := 3) nd rfl (Or.inl rfl) (pe_op op_cat (pe_lst (pa_cons pe_int pa_nil)) (pe_call G_l_mixed (hr.mono (by decide)) (by rfl) T.g_l_mixed T.F_l_mixed.kp T.b_l_mixed .nil pass0 (pa_cons (pv 0) (pa_cons (pv 1) pa_nil))))) (pss_cons (ps_set (i := 4) nd rfl (Or.inl rfl) (pe_op op_rep (pe_lst (pa_cons pe_int pa_nil)) (pv 1))) (pss_cons (ps_for PassesOwn.never rfl (pi_range2 (by rfl) T.z_range (pa_cons pe_int (pa_cons (pe_op op_add (pv 1) pe_int) pa_nil))) (pg_name (i := 5) nd rfl (Or.inl rfl)) (pss_cons (ps_set (i := 6) nd rfl (Or.inl rfl) (pe_call G_l_draw (hr.mono (by decide)) (by rfl) T.g_l_draw T.F_l_draw.kp T.b_l_draw .nil pass0 (pa_cons (pv 0) (pa_cons (pv 5) pa_nil)))) (C8.pss_cut (ps_if (PW.pt (pw_or (pt_cmpR op_eq (pv 2) pe_int (nomark _)) (pw_or1 (PW.pt (pw_and (pt_cmpR op_eq (pv 2) pe_int (nomark _)) (pw_and1 (pt_cmpR op_gt (pe_call G_l_draw (hr.mono (by decide)) (by rfl) T.g_l_draw T.F_l_draw.kp T.b_l_draw .nil pass0 (pa_cons (pv 0) (pa_cons pe_int pa_nil))) pe_int (nomark _)))))))) (pss_one (ps_set (i := 6) nd rfl (Or.inl rfl) (pe_op op_sub (pv 5) pe_int))) pss_nil) (C8.pss_cut (ps_if (PW.pt (pw_and (pt_cmpR op_eq (pv 2) pe_int (nomark _)) (pw_and1 (pt_cmpR op_eq (pe_call G_l_draw (hr.mono (by decide)) (by rfl) T.g_l_draw T.F_l_draw.kp T.b_l_draw .nil pass0 (pa_cons (pv 0) (pa_cons pe_int pa_nil))) pe_int (nomark _))))) (pss_one (ps_set (i := 6) nd rfl (Or.inl rfl) pe_int)) pss_nil) (pss_one (ps_asg (pe_ix ix_list (pv 3) (pv 6) (fun _ _ => rfl)) (pg_sub (pv 4) (pe_op op_sub (pe_ix ix_list (pv 3) (pv 5) (fun _ _ => rfl)) pe_int) set_list))))))) (pss_one (ps_ret (pe_callTy call_tuple_of (by rfl) T.z_tuple (by decide +kernel) (pa_cons (pv 4) pa_nil)))))))), pure_l_hung  h⟩
theorem ok_l_many (T : Txt K mg)  (G_l_draw : FnOk P w K mg base CX0 1 T.f_l_draw T.fd_l_draw ["_law_pool_here", "_law_many_here"] spDraw) : FnOk P w K mg base CX0 2 T.f_l_many T.fd_l_many ["_law_pool_here"] spMany := by
  refine T.F_l_many.ok sc_l_many (fun vs H Q E h => len_l_many h) (fun cdv A outer s H vs Q E hr h => ?_)
  have nd := sc_l_many.nd
  exact ⟨t_l_many K, (pss_one (ps_ret (pe_op op_add pe_int (pe_call G_l_draw (hr.mono (by decide)) (by rfl) T.g_l_draw T.F_l_draw.kp T.b_l_draw .nil pass0 (pa_cons (pv 0) (pa_cons (pe_ifExp (pt_cmpR op_eq (pe_call G_l_draw (hr.mono (by decide)) (by rfl) T.g_l_draw T.F_l_draw.kp T.b_l_draw .nil pass0 (pa_cons (pv 0) (pa_cons pe_int pa_nil))) pe_int (nomark _)) pe_int pe_int) pa_nil)))))), pure_l_many  h⟩
theorem ok_l_way (T : Txt K mg)   : FnOk P w K mg base CX0 1 T.f_l_way T.fd_l_way ["_law_hung_here", "_law_place"] spWayIn := by
  refine T.F_l_way.ok sc_l_way (fun vs H Q E h => len_l_way h) (fun cdv A outer s H vs Q E hr h => ?_)
  have nd := sc_l_way.nd
  exact ⟨t_l_way K, (pss_cons (ps_set (i := 2) nd rfl (Or.inl rfl) (pe_lst pa_nil)) (pss_cons (ps_set (i := 3) nd rfl (Or.inl rfl) (pv 1)) (pss_cons (ps_for PassesOwn.never rfl (pi_tup (pv 0)) (pg_name (i := 4) nd rfl (Or.inl rfl)) (pss_one (ps_if (pt_cmpR op_ne (pv 3) pe_int (nomark _)) (pss_cons (ps_set (i := 3) nd rfl (Or.inl rfl) (pe_ix ix_tup (pv 0) (pe_op op_sub (pv 3) pe_int) (fun _ _ => rfl))) (pss_one (ps_expr (pe_bm PySem.F.plainAttrs_list PySem.F.slot_list_append PySem.F.type_list_append mt_append (pv 2) (pa_cons (pv 3) pa_nil))))) pss_nil))) (pss_one (ps_ret (pv 2)))))), pure_l_way  h⟩
theorem ok_l_tellings (T : Txt K mg)  (G_l_way : FnOk P w K mg base CX0 1 T.f_l_way T.fd_l_way ["_law_hung_here", "_law_place"] spWayIn) : FnOk P w K mg base CX0 2 T.f_l_tellings T.fd_l_tellings ["_law_hung_here", "_law_view_here"] spRaws := by
  refine T.F_l_tellings.ok sc_l_tellings (fun vs H Q E h => len_raw_tellings h) (fun cdv A outer s H vs Q E hr h => ?_)
  have nd := sc_l_tellings.nd
  exact ⟨t_l_tellings K, (pss_cons (ps_set (i := 2) nd rfl (Or.inr rfl) (pe_lc (own := [("_law_place", 6)]) (by rfl) nd (pi_range1 (by rfl) T.z_range (pa_cons (pe_op op_add (pe_callB call_len_seq (by rfl) T.z_len PySem.boot_len (pa_cons (pv 0) pa_nil)) pe_int) pa_nil)) (blkOk_by (N := N_l_tellings) (sc := defScope s_l_tellings) (by decide +kernel)) (fun _ _ _ _ _ => (pg_name (i := 6) nd rfl (Or.inl rfl))) (fun _ _ _ _ _ => pts_nil) (fun _ _ _ _ _ => (pe_lst pa_nil)))) (pss_cons (ps_set (i := 3) nd rfl (Or.inr rfl) (pe_lst (pa_cons (pe_lst pa_nil) pa_nil))) (pss_cons (ps_for PassesOwn.never rfl (pi_range2 (by rfl) T.z_range (pa_cons pe_int (pa_cons (pe_op op_add (pe_callB call_len_seq (by rfl) T.z_len PySem.boot_len (pa_cons (pv 0) pa_nil)) pe_int) pa_nil))) (pg_name (i := 4) nd rfl (Or.inl rfl)) (pss_cons (ps_set (i := 5) nd rfl (Or.inl rfl) (pe_call G_l_way (hr.mono (by decide)) (by rfl) T.g_l_way T.F_l_way.kp T.b_l_way .nil pass0 (pa_cons (pv 0) (pa_cons (pv 4) pa_nil)))) (pss_cons (ps_expr (pe_bm PySem.F.plainAttrs_list PySem.F.slot_list_append PySem.F.type_list_append mt_append (pv 3) (pa_cons (pv 5) pa_nil))) (pss_one (ps_for PassesOwn.never rfl (pi_list (pe_slice sl_list (pv 5) po_none (po_some (pe_ix ix_tup (pv 1) pe_int (fun _ _ => rfl))))) (pg_name (i := 6) nd rfl (Or.inl rfl)) (pss_one (ps_expr (pe_bm PySem.F.plainAttrs_list PySem.F.slot_list_append PySem.F.type_list_append mt_append (pe_ix ix_list (pv 2) (pv 6) (fun _ _ => rfl)) (pa_cons (pe_tup (pa_cons (pv 4) (pa_cons (pe_ix ix_tup (pv 0) (pe_op op_sub (pv 4) pe_int) (fun _ _ => rfl)) pa_nil))) pa_nil))))))))) (pss_one (ps_ret (pe_lc (own := [("_law_place", 6)]) (by rfl) nd (pi_range1 (by rfl) T.z_range (pa_cons (pe_callB call_len_seq (by rfl) T.z_len PySem.boot_len (pa_cons (pv 3) pa_nil)) pa_nil)) (blkOk_by (N := N_l_tellings) (sc := defScope s_l_tellings) (by decide +kernel)) (fun _ _ _ _ _ => (pg_name (i := 6) nd rfl (Or.inl rfl))) (fun _ _ _ _ _ => pts_nil) (fun _ _ _ _ _ => (pe_tup (pa_cons (pe_callTy call_tuple_of (by rfl) T.z_tuple (by decide +kernel) (pa_cons (pe_slice sl_list (pe_ix ix_list (pv 3) (pv 6) (fun _ _ => rfl)) po_none (po_some (pe_ix ix_tup (pv 1) pe_int (fun _ _ => rfl)))) pa_nil)) (pa_cons (pe_callTy call_tuple_of (by rfl) T.z_tuple (by decide +kernel) (pa_cons (pe_ix ix_list (pv 2) (pv 6) (fun _ _ => rfl)) pa_nil)) pa_nil)))))))))), pure_l_tellings  h⟩
theorem ok_l_view (T : Txt K mg)  (G_l_draw : FnOk P w K mg base CX0 1 T.f_l_draw T.fd_l_draw ["_law_pool_here", "_law_many_here"] spDraw) : FnOk P w K mg base CX0 2 T.f_l_view T.fd_l_view ["_law_pool_here"] spViewL := by
  refine T.F_l_view.ok sc_l_view (fun vs H Q E h => len_l_view h) (fun cdv A outer s H vs Q E hr h => ?_)
  have nd := sc_l_view.nd
  exact ⟨t_l_view K, (pss_one (ps_ret (pe_tup (pa_cons (pe_call G_l_draw (hr.mono (by decide)) (by rfl) T.g_l_draw T.F_l_draw.kp T.b_l_draw .nil pass0 (pa_cons (pv 0) (pa_cons pe_int pa_nil))) (pa_cons (pe_call G_l_draw (hr.mono (by decide)) (by rfl) T.g_l_draw T.F_l_draw.kp T.b_l_draw .nil pass0 (pa_cons (pv 0) (pa_cons pe_int pa_nil))) pa_nil))))), pure_l_view  h⟩
theorem ok_l_unlike (T : Txt K mg)  (G_l_tellings : FnOk P w K mg base CX0 2 T.f_l_tellings T.fd_l_tellings ["_law_hung_here", "_law_view_here"] spRaws) : FnOk P w K mg base CX0 3 T.f_l_unlike T.fd_l_unlike ["_law_one", "_law_other", "_law_view_here"] spUnlikeL := by
  refine T.F_l_unlike.ok sc_l_unlike (fun vs H Q E h => len_l_unlike h) (fun cdv A outer s H vs Q E hr h => ?_)
  have nd := sc_l_unlike.nd
  exact ⟨t_l_unlike K, (pss_cons (ps_asg (pe_tup (pa_cons (pe_call G_l_tellings (hr.mono (by decide)) (by rfl) T.g_l_tellings T.F_l_tellings.kp T.b_l_tellings .nil pass0 (pa_cons (pv 0) (pa_cons (pv 2) pa_nil))) (pa_cons (pe_call G_l_tellings (hr.mono (by decide)) (by rfl) T.g_l_tellings T.F_l_tellings.kp T.b_l_tellings .nil pass0 (pa_cons (pv 1) (pa_cons (pv 2) pa_nil))) pa_nil))) (pg_tup rfl (pgs_cons (pg_name (i := 3) nd rfl (Or.inr rfl)) (pgs_cons (pg_name (i := 4) nd rfl (Or.inr rfl)) pgs_nil)))) (pss_one (ps_ret (pe_callTy call_tuple_of (by rfl) T.z_tuple (by decide +kernel) (pa_cons (pe_lc (own := [("_law_place", 5)]) (by rfl) nd (pi_range1 (by rfl) T.z_range (pa_cons (pe_callB call_len_seq (by rfl) T.z_len PySem.boot_len (pa_cons (pv 3) pa_nil)) pa_nil)) (blkOk_by (N := N_l_unlike) (sc := defScope s_l_unlike) (by decide +kernel)) (fun _ _ _ _ _ => (pg_name (i := 5) nd rfl (Or.inl rfl))) (fun _ _ _ _ _ => (pts_one (pt_cmpR (op_neD hr.units) (pe_ix ix_list (pv 3) (pv 5) (fun _ _ => rfl)) (pe_ix ix_list (pv 4) (pv 5) (fun _ _ => rfl)) (nomark _)))) (fun _ _ _ _ _ => (pv 5))) pa_nil))))), pure_l_unlike  h⟩
theorem ok_l_move_seen (T : Txt K mg)  (G_unlike : FnOk P w K mg base (L2.CX P w) 5 T.f_unlike T.fd_unlike ["tree", "other", "view"] (spUnlike T.C_Tree T.C_OtherBlocks T.C_NoView)) : FnOk P w K mg base CX0 6 T.f_l_move_seen T.fd_l_move_seen ["_law_tree", "_law_later", "_law_view_here", "_law_block", "_law_place"] (spSeen T.C_Tree) := by
  refine T.F_l_move_seen.ok sc_l_move_seen (fun vs H Q E h => len_l_move_seen h) (fun cdv A outer s H vs Q E hr h => ?_)
  have nd := sc_l_move_seen.nd
  exact ⟨t_l_move_seen K T.C_NoView T.C_OtherBlocks T.C_Tree, (pss_cons (ps_set (i := 5) nd rfl (Or.inl rfl) (pe_call G_unlike (hr.mono (by decide)) (by rfl) T.g_unlike T.F_unlike.kp T.b_unlike .nil passL (pa_cons (pv 0) (pa_cons (pv 1) (pa_cons (pv 2) pa_nil))))) (pss_cons (ps_set (i := 6) nd rfl (Or.inl rfl) (pe_ix ix_tup (pe_fld (pv 0) rfl) (pe_op op_sub (pv 3) pe_int) (fun _ _ => rfl))) (pss_cons (ps_if (pt_cmpR op_eq (pv 6) (pv 4) (nomark _)) (pss_one (ps_ret (pe_cmpR (op_eqD hr.units) (pv 5) (pe_tup pa_nil) (nomark _)))) pss_nil) (C8.pss_cut (ps_if (PW.pt (pw_and (pt_cmpR op_gt (pe_ix ix_tup (pv 2) pe_int (fun _ _ => rfl)) pe_int (nomark _)) (pw_and1 (pt_cmpR op_notIn_seq (pv 3) (pv 5) (by rfl))))) (pss_one (ps_ret pe_bl)) pss_nil) (pss_one (ps_ret (pe_or (pe_cmpR op_eq (pe_ix ix_tup (pv 2) pe_int (fun _ _ => rfl)) pe_int (nomark _)) (pe_one (pe_and (pe_cmpR op_in_seq (pv 6) (pv 5) (by rfl)) (pe_one (pe_cmpR op_in_seq (pv 4) (pv 5) (by rfl)))))))))))), pure_l_move_seen T.o_Tree T.nf_Tree_hung h⟩
theorem ok_l_named_right (T : Txt K mg)  (G_l_mixed : FnOk P w K mg base CX0 2 T.f_l_mixed T.fd_l_mixed ["_law_pool_here", "_law_many_here"] spMixed) (G_called : FnOk P w K mg base (L2.CX P w) 5 T.f_called T.fd_called ["tree", "order"] (spCalled T.C_Tree T.C_NoOrder)) (G_unlike : FnOk P w K mg base (L2.CX P w) 5 T.f_unlike T.fd_unlike ["tree", "other", "view"] (spUnlike T.C_Tree T.C_OtherBlocks T.C_NoView)) : FnOk P w K mg base CX0 6 T.f_l_named_right T.fd_l_named_right ["_law_pool_here", "_law_tree", "_law_other", "_law_view_here", "_law_due"] (spNamed T.C_Tree) := by
  refine T.F_l_named_right.ok sc_l_named_right (fun vs H Q E h => len_l_named_right h) (fun cdv A outer s H vs Q E hr h => ?_)
  have nd := sc_l_named_right.nd
  exact ⟨t_l_named_right K T.C_NoOrder T.C_NoView T.C_OtherBlocks T.C_Tree, (pss_cons (ps_set (i := 5) nd rfl (Or.inl rfl) (pe_callTy call_tuple_of (by rfl) T.z_tuple (by decide +kernel) (pa_cons (pe_call G_l_mixed (hr.mono (by decide)) (by rfl) T.g_l_mixed T.F_l_mixed.kp T.b_l_mixed .nil pass0 (pa_cons (pv 0) (pa_cons (pe_callB call_len_seq (by rfl) T.z_len PySem.boot_len (pa_cons (pe_fld (pv 1) rfl) pa_nil)) pa_nil))) pa_nil))) (pss_cons (ps_set (i := 6) nd rfl (Or.inr rfl) (pe_op op_catA (pe_tup (pa_cons pe_int pa_nil)) (pv 5))) (pss_cons (ps_set (i := 7) nd rfl (Or.inl rfl) (pe_call G_unlike (hr.mono (by decide)) (by rfl) T.g_unlike T.F_unlike.kp T.b_unlike .nil passL (pa_cons (pe_call G_called (hr.mono (by decide)) (by rfl) T.g_called T.F_called.kp T.b_called .nil passL (pa_cons (pv 1) (pa_cons (pv 5) pa_nil))) (pa_cons (pe_call G_called (hr.mono (by decide)) (by rfl) T.g_called T.F_called.kp T.b_called .nil passL (pa_cons (pv 2) (pa_cons (pv 5) pa_nil))) (pa_cons (pv 3) pa_nil))))) (pss_one (ps_ret (pe_cmpR (op_eqD hr.units) (pv 7) (pe_callTy call_tuple_of (by rfl) T.z_tuple (by decide +kernel) (pa_cons (pe_callB cr_sortedI (by rfl) T.z_sorted (by decide +kernel) (pa_cons (pe_lc (own := [("_law_place", 8)]) (by rfl) nd (pi_tup (pv 4)) (blkOk_by (N := N_l_named_right) (sc := defScope s_l_named_right) (by decide +kernel)) (fun _ _ _ _ _ => (pg_name (i := 8) nd rfl (Or.inl rfl))) (fun _ _ _ _ _ => pts_nil) (fun _ _ _ _ _ => (pe_ix ix_tup (pv 6) (pv 8) (fun _ _ => rfl)))) pa_nil)) pa_nil)) (nomark _))))))), pure_l_named_right T.o_Tree T.nf_Tree_hung h⟩
theorem ok_law (T : Txt K mg)  (G_Tree_init : FnOk P w K mg base (L2.CX P w) 3 T.f_Tree_init T.fd_Tree_init ["self", "hung"] (spTree T.C_BadTree T.C_Tree)) (G_l_draw : FnOk P w K mg base CX0 1 T.f_l_draw T.fd_l_draw ["_law_pool_here", "_law_many_here"] spDraw) (G_l_hung : FnOk P w K mg base CX0 3 T.f_l_hung T.fd_l_hung ["_law_pool_here", "_law_many_here"] spHung) (G_l_is : FnOk P w K mg base CX0 4 T.f_l_is T.fd_l_is ["_law_told", "_law_due"] (spIsN 4)) (G_l_many : FnOk P w K mg base CX0 2 T.f_l_many T.fd_l_many ["_law_pool_here"] spMany) (G_l_move_seen : FnOk P w K mg base CX0 6 T.f_l_move_seen T.fd_l_move_seen ["_law_tree", "_law_later", "_law_view_here", "_law_block", "_law_place"] (spSeen T.C_Tree)) (G_l_named_right : FnOk P w K mg base CX0 6 T.f_l_named_right T.fd_l_named_right ["_law_pool_here", "_law_tree", "_law_other", "_law_view_here", "_law_due"] (spNamed T.C_Tree)) (G_l_pool : FnOk P w K mg base CX0 1 T.f_l_pool T.fd_l_pool ["_law_script"] (spPool K)) (G_l_tellings : FnOk P w K mg base CX0 2 T.f_l_tellings T.fd_l_tellings ["_law_hung_here", "_law_view_here"] spRaws) (G_l_unlike : FnOk P w K mg base CX0 3 T.f_l_unlike T.fd_l_unlike ["_law_one", "_law_other", "_law_view_here"] spUnlikeL) (G_l_view : FnOk P w K mg base CX0 2 T.f_l_view T.fd_l_view ["_law_pool_here"] spViewL) (G_l_way : FnOk P w K mg base CX0 1 T.f_l_way T.fd_l_way ["_law_hung_here", "_law_place"] spWayIn) (G_moved : FnOk P w K mg base (L2.CX P w) 5 T.f_moved T.fd_moved ["tree", "block", "place"] (spMoved T.C_Tree T.C_NoBlock T.C_NoPlace T.C_Beneath)) (G_telling : FnOk P w K mg base (L2.CX P w) 5 T.f_telling T.fd_telling ["tree", "view", "place"] (spTelling T.C_Tree T.C_NoView T.C_NoPlace)) (G_unlike : FnOk P w K mg base (L2.CX P w) 5 T.f_unlike T.fd_unlike ["tree", "other", "view"] (spUnlike T.C_Tree T.C_OtherBlocks T.C_NoView)) : FnOk P w K mg base CX0 7 T.f_law T.fd_law ["_law_script"] (spLaw K) := by
  refine T.F_law.ok sc_law (fun vs H Q E h => len_law h) (fun cdv A outer s H vs Q E hr h => ?_)
  have nd := sc_law.nd
  exact ⟨t_law K T.C_BadTree T.C_Beneath T.C_NoBlock T.C_NoPlace T.C_NoView T.C_OtherBlocks T.C_Tree, (pss_cons (ps_set (i := 1) nd rfl (Or.inr rfl) (pe_call G_l_pool (hr.mono (by decide)) (by rfl) T.g_l_pool T.F_l_pool.kp T.b_l_pool .nil pass0 (pa_cons (pv 0) pa_nil))) (pss_cons (ps_for PassesOwn.never rfl (pi_range1 (by rfl) T.z_range (pa_cons pe_int pa_nil)) (pg_name (i := 2) nd rfl (Or.inl rfl)) (pss_cons (ps_set (i := 3) nd rfl (Or.inl rfl) (pe_call G_l_many (hr.mono (by decide)) (by rfl) T.g_l_many T.F_l_many.kp T.b_l_many .nil pass0 (pa_cons (pv 1) pa_nil))) (pss_cons (ps_set (i := 4) nd rfl (Or.inl rfl) (pe_call G_l_hung (hr.mono (by decide)) (by rfl) T.g_l_hung T.F_l_hung.kp T.b_l_hung .nil pass0 (pa_cons (pv 1) (pa_cons (pv 3) pa_nil)))) (pss_cons (ps_asg (pe_tup (pa_cons (pe_make T.M_Tree G_Tree_init (hr.mono (by decide)) (by rfl) T.g_Tree T.b_Tree_init .nil passL (pa_cons (pv 4) pa_nil)) (pa_cons (pe_call G_l_view (hr.mono (by decide)) (by rfl) T.g_l_view T.F_l_view.kp T.b_l_view .nil pass0 (pa_cons (pv 1) pa_nil)) pa_nil))) (pg_tup rfl (pgs_cons (pg_name (i := 5) nd rfl (Or.inr rfl)) (pgs_cons (pg_name (i := 6) nd rfl (Or.inl rfl)) pgs_nil)))) (pss_cons (ps_set (i := 7) nd rfl (Or.inl rfl) (pe_call G_l_tellings (hr.mono (by decide)) (by rfl) T.g_l_tellings T.F_l_tellings.kp T.b_l_tellings .nil pass0 (pa_cons (pv 4) (pa_cons (pv 6) pa_nil)))) (pss_cons (ps_for PassesOwn.never rfl (pi_list (pe_op op_cat (pe_lst (pa_cons pe_int pa_nil)) (pe_lc (own := [("_law_one", 15)]) (by rfl) nd (pi_range2 (by rfl) T.z_range (pa_cons pe_int (pa_cons (pe_op op_add (pv 3) pe_int) pa_nil))) (blkOk_by (N := N_law) (sc := defScope s_law) (by decide +kernel)) (fun _ _ _ _ _ => (pg_name (i := 15) nd rfl (Or.inl rfl))) (fun _ _ _ _ _ => (pts_one (pt_cmpR op_eq (pe_call G_l_draw (hr.mono (by decide)) (by rfl) T.g_l_draw T.F_l_draw.kp T.b_l_draw .nil pass0 (pa_cons (pv 1) (pa_cons pe_int pa_nil))) pe_int (nomark _)))) (fun _ _ _ _ _ => (pv 15))))) (pg_name (i := 8) nd rfl (Or.inl rfl)) (pss_one (ps_if (pt_not (pt_val (pe_call G_l_is (hr.mono (by decide)) (by rfl) T.g_l_is T.F_l_is.kp T.b_l_is .nil pass0 (pa_cons (pe_call G_telling (hr.mono (by decide)) (by rfl) T.g_telling T.F_telling.kp T.b_telling .nil passL (pa_cons (pv 5) (pa_cons (pv 6) (pa_cons (pv 8) pa_nil)))) (pa_cons (pe_ix ix_list (pv 7) (pv 8) (fun _ _ => rfl)) pa_nil))))) (pss_one (ps_ret pe_bl)) pss_nil))) (pss_cons (ps_set (i := 9) nd rfl (Or.inr rfl) (pv 5)) (pss_cons (ps_for PassesOwn.never rfl (pi_range1 (by rfl) T.z_range (pa_cons (pe_call G_l_draw (hr.mono (by decide)) (by rfl) T.g_l_draw T.F_l_draw.kp T.b_l_draw .nil pass0 (pa_cons (pv 1) (pa_cons pe_int pa_nil))) pa_nil)) (pg_name (i := 10) nd rfl (Or.inl rfl)) (pss_cons (ps_par (by rfl) nd rfl rfl (by decide) rfl rfl (pa_cons (pe_op op_add pe_int (pe_call G_l_draw (hr.mono (by decide)) (by rfl) T.g_l_draw T.F_l_draw.kp T.b_l_draw .nil pass0 (pa_cons (pv 1) (pa_cons (pv 3) pa_nil)))) (pa_cons (pe_call G_l_draw (hr.mono (by decide)) (by rfl) T.g_l_draw T.F_l_draw.kp T.b_l_draw .nil pass0 (pa_cons (pv 1) (pa_cons (pe_op op_add (pv 3) pe_int) pa_nil))) pa_nil)) (by rfl)) (pss_one (ps_if (PW.pt (pw_and (pt_cmpR op_ne (pv 8) (pv 11) (nomark _)) (pw_and1 (pt_cmpR op_notIn_seq (pv 11) (pe_call G_l_way (hr.mono (by decide)) (by rfl) T.g_l_way T.F_l_way.kp T.b_l_way .nil pass0 (pa_cons (pe_fld (pv 9) rfl) (pa_cons (pv 8) pa_nil))) (by rfl))))) (pss_cons (ps_set (i := 12) nd rfl (Or.inl rfl) (pe_call G_moved (hr.mono (by decide)) (by rfl) T.g_moved T.F_moved.kp T.b_moved .nil passL (pa_cons (pv 9) (pa_cons (pv 11) (pa_cons (pv 8) pa_nil))))) (pss_cons (ps_if (pt_not (pt_val (pe_call G_l_move_seen (hr.mono (by decide)) (by rfl) T.g_l_move_seen T.F_l_move_seen.kp T.b_l_move_seen .nil pass0 (pa_cons (pv 9) (pa_cons (pv 12) (pa_cons (pv 6) (pa_cons (pv 11) (pa_cons (pv 8) pa_nil)))))))) (pss_one (ps_ret pe_bl)) pss_nil) (pss_one (ps_set (i := 9) nd rfl (Or.inr rfl) (pv 12))))) pss_nil)))) (C8.pss_cut (ps_if (pt_cmpR op_eq (pe_call G_l_draw (hr.mono (by decide)) (by rfl) T.g_l_draw T.F_l_draw.kp T.b_l_draw .nil pass0 (pa_cons (pv 1) (pa_cons pe_int pa_nil))) pe_int (nomark _)) (pss_one (ps_set (i := 9) nd rfl (Or.inr rfl) (pe_make T.M_Tree G_Tree_init (hr.mono (by decide)) (by rfl) T.g_Tree T.b_Tree_init .nil passL (pa_cons (pe_call G_l_hung (hr.mono (by decide)) (by rfl) T.g_l_hung T.F_l_hung.kp T.b_l_hung .nil pass0 (pa_cons (pv 1) (pa_cons (pv 3) pa_nil))) pa_nil)))) pss_nil) (pss_cons (ps_set (i := 13) nd rfl (Or.inl rfl) (pe_call G_l_unlike (hr.mono (by decide)) (by rfl) T.g_l_unlike T.F_l_unlike.kp T.b_l_unlike .nil pass0 (pa_cons (pv 4) (pa_cons (pe_fld (pv 9) rfl) (pa_cons (pv 6) pa_nil))))) (pss_cons (ps_if (PW.pt (pw_or (pt_not (pt_val (pe_call G_l_is (hr.mono (by decide)) (by rfl) T.g_l_is T.F_l_is.kp T.b_l_is .nil pass0 (pa_cons (pe_call G_unlike (hr.mono (by decide)) (by rfl) T.g_unlike T.F_unlike.kp T.b_unlike .nil passL (pa_cons (pv 5) (pa_cons (pv 9) (pa_cons (pv 6) pa_nil)))) (pa_cons (pv 13) pa_nil))))) (pw_or1 (pt_not (pt_val (pe_call G_l_is (hr.mono (by decide)) (by rfl) T.g_l_is T.F_l_is.kp T.b_l_is .nil pass0 (pa_cons (pe_call G_unlike (hr.mono (by decide)) (by rfl) T.g_unlike T.F_unlike.kp T.b_unlike .nil passL (pa_cons (pv 9) (pa_cons (pv 5) (pa_cons (pv 6) pa_nil)))) (pa_cons (pv 13) pa_nil)))))))) (pss_one (ps_ret pe_bl)) pss_nil) (pss_cons (ps_set (i := 14) nd rfl (Or.inr rfl) (pe_tup (pa_cons (pe_callB (call_min2 rfl) (by rfl) T.z_min (by decide +kernel) (pa_cons pe_int (pa_cons (pe_op op_add (pe_ix ix_tup (pv 6) pe_int (fun _ _ => rfl)) (pe_call G_l_draw (hr.mono (by decide)) (by rfl) T.g_l_draw T.F_l_draw.kp T.b_l_draw .nil pass0 (pa_cons (pv 1) (pa_cons pe_int pa_nil)))) pa_nil))) (pa_cons (pe_callB (call_min2 rfl) (by rfl) T.z_min (by decide +kernel) (pa_cons pe_int (pa_cons (pe_op op_add (pe_ix ix_tup (pv 6) pe_int (fun _ _ => rfl)) (pe_call G_l_draw (hr.mono (by decide)) (by rfl) T.g_l_draw T.F_l_draw.kp T.b_l_draw .nil pass0 (pa_cons (pv 1) (pa_cons pe_int pa_nil)))) pa_nil))) pa_nil)))) (pss_cons (ps_if (PW.pt (pw_or (pt_not (pt_val (pe_callB (cr_all rfl) (by rfl) T.z_all (by decide +kernel) (pa_cons (pe_lc (own := [("_law_place", 8)]) (by rfl) nd (pi_tup (pv 13)) (blkOk_by (N := N_law) (sc := defScope s_law) (by decide +kernel)) (fun _ _ _ _ _ => (pg_name (i := 8) nd rfl (Or.inl rfl))) (fun _ _ _ _ _ => pts_nil) (fun _ _ _ _ _ => (pe_cmpR op_in_seq (pv 8) (pe_call G_unlike (hr.mono (by decide)) (by rfl) T.g_unlike T.F_unlike.kp T.b_unlike .nil passL (pa_cons (pv 5) (pa_cons (pv 9) (pa_cons (pv 14) pa_nil)))) (by rfl)))) pa_nil)))) (pw_or1 (pt_cmpR (op_neD hr.units) (pe_call G_unlike (hr.mono (by decide)) (by rfl) T.g_unlike T.F_unlike.kp T.b_unlike .nil passL (pa_cons (pv 5) (pa_cons (pv 5) (pa_cons (pv 6) pa_nil)))) (pe_tup pa_nil) (nomark _))))) (pss_one (ps_ret pe_bl)) pss_nil) (pss_one (ps_if (pt_not (pt_val (pe_call G_l_named_right (hr.mono (by decide)) (by rfl) T.g_l_named_right T.F_l_named_right.kp T.b_l_named_right .nil pass0 (pa_cons (pv 1) (pa_cons (pv 5) (pa_cons (pv 9) (pa_cons (pv 6) (pa_cons (pv 13) pa_nil)))))))) (pss_one (ps_ret pe_bl)) pss_nil))))))))))))))) (pss_one (ps_ret pe_bl)))), pure_law T.o_Tree T.nf_Tree_hung h⟩
end
theorem all_mk {l : PySem.W.OpenLaw} {w : World} {K : PySem.W.Frag} {h : Heap} {mg : Str → Option Value} {fa : Addr} (X : K.In h) (G : h.Ns mainGlobals mg) (hfa : mg "law" = some (.ref fa))
    {k_HEAD : Tok}
    {k_MOST_BLOCKS : Tok}
    {k_MOST_STEPS : Tok}
    {C_Tree : Addr}
    {C_BadTree : Addr}
    {C_NoBlock : Addr}
    {C_NoPlace : Addr}
    {C_Beneath : Addr}
    {C_NoOrder : Addr}
    {C_NoView : Addr}
    {C_OtherBlocks : Addr}
    {f_BadTree_init : Addr} {od_BadTree_init an_BadTree_init : Option Addr} {sl_BadTree_init : Array (Option Value)} {oc_BadTree_init kV_BadTree_init dc_BadTree_init pm_BadTree_init cd_BadTree_init ct_BadTree_init : Value}
    {f_is_integer : Addr} {od_is_integer an_is_integer : Option Addr} {sl_is_integer : Array (Option Value)} {oc_is_integer kV_is_integer dc_is_integer pm_is_integer cd_is_integer ct_is_integer : Value}
    {f_is_within : Addr} {od_is_within an_is_within : Option Addr} {sl_is_within : Array (Option Value)} {oc_is_within kV_is_within dc_is_within pm_is_within cd_is_within ct_is_within : Value}
    {f_is_pair : Addr} {od_is_pair an_is_pair : Option Addr} {sl_is_pair : Array (Option Value)} {oc_is_pair kV_is_pair dc_is_pair pm_is_pair cd_is_pair ct_is_pair : Value}
    {f_is_view : Addr} {od_is_view an_is_view : Option Addr} {sl_is_view : Array (Option Value)} {oc_is_view kV_is_view dc_is_view pm_is_view cd_is_view ct_is_view : Value}
    {f_check_block : Addr} {od_check_block an_check_block : Option Addr} {sl_check_block : Array (Option Value)} {oc_check_block kV_check_block dc_check_block pm_check_block cd_check_block ct_check_block : Value}
    {f_check_place : Addr} {od_check_place an_check_place : Option Addr} {sl_check_place : Array (Option Value)} {oc_check_place kV_check_place dc_check_place pm_check_place cd_check_place ct_check_place : Value}
    {f_check_view : Addr} {od_check_view an_check_view : Option Addr} {sl_check_view : Array (Option Value)} {oc_check_view kV_check_view dc_check_view pm_check_view cd_check_view ct_check_view : Value}
    {f_leads_home : Addr} {od_leads_home an_leads_home : Option Addr} {sl_leads_home : Array (Option Value)} {oc_leads_home kV_leads_home dc_leads_home pm_leads_home cd_leads_home ct_leads_home : Value}
    {f_Tree_init : Addr} {od_Tree_init an_Tree_init : Option Addr} {sl_Tree_init : Array (Option Value)} {oc_Tree_init kV_Tree_init dc_Tree_init pm_Tree_init cd_Tree_init ct_Tree_init : Value}
    {f_parents_in : Addr} {od_parents_in an_parents_in : Option Addr} {sl_parents_in : Array (Option Value)} {oc_parents_in kV_parents_in dc_parents_in pm_parents_in cd_parents_in ct_parents_in : Value}
    {f_hanging : Addr} {od_hanging an_hanging : Option Addr} {sl_hanging : Array (Option Value)} {oc_hanging kV_hanging dc_hanging pm_hanging cd_hanging ct_hanging : Value}
    {f_beneath_in : Addr} {od_beneath_in an_beneath_in : Option Addr} {sl_beneath_in : Array (Option Value)} {oc_beneath_in kV_beneath_in dc_beneath_in pm_beneath_in cd_beneath_in ct_beneath_in : Value}
    {f_with_place : Addr} {od_with_place an_with_place : Option Addr} {sl_with_place : Array (Option Value)} {oc_with_place kV_with_place dc_with_place pm_with_place cd_with_place ct_with_place : Value}
    {f_moved : Addr} {od_moved an_moved : Option Addr} {sl_moved : Array (Option Value)} {oc_moved kV_moved dc_moved pm_moved cd_moved ct_moved : Value}
    {f_called : Addr} {od_called an_called : Option Addr} {sl_called : Array (Option Value)} {oc_called kV_called dc_called pm_called cd_called ct_called : Value}
    {f_ties_down : Addr} {od_ties_down an_ties_down : Option Addr} {sl_ties_down : Array (Option Value)} {oc_ties_down kV_ties_down dc_ties_down pm_ties_down cd_ties_down ct_ties_down : Value}
    {f_raw_telling : Addr} {od_raw_telling an_raw_telling : Option Addr} {sl_raw_telling : Array (Option Value)} {oc_raw_telling kV_raw_telling dc_raw_telling pm_raw_telling cd_raw_telling ct_raw_telling : Value}
    {f_telling : Addr} {od_telling an_telling : Option Addr} {sl_telling : Array (Option Value)} {oc_telling kV_telling dc_telling pm_telling cd_telling ct_telling : Value}
    {f_raw_tellings : Addr} {od_raw_tellings an_raw_tellings : Option Addr} {sl_raw_tellings : Array (Option Value)} {oc_raw_tellings kV_raw_tellings dc_raw_tellings pm_raw_tellings cd_raw_tellings ct_raw_tellings : Value}
    {f_unlike : Addr} {od_unlike an_unlike : Option Addr} {sl_unlike : Array (Option Value)} {oc_unlike kV_unlike dc_unlike pm_unlike cd_unlike ct_unlike : Value}
    {f_l_pool : Addr} {od_l_pool an_l_pool : Option Addr} {sl_l_pool : Array (Option Value)} {oc_l_pool kV_l_pool dc_l_pool pm_l_pool cd_l_pool ct_l_pool : Value}
    {f_l_draw : Addr} {od_l_draw an_l_draw : Option Addr} {sl_l_draw : Array (Option Value)} {oc_l_draw kV_l_draw dc_l_draw pm_l_draw cd_l_draw ct_l_draw : Value}
    {f_l_is : Addr} {od_l_is an_l_is : Option Addr} {sl_l_is : Array (Option Value)} {oc_l_is kV_l_is dc_l_is pm_l_is cd_l_is ct_l_is : Value}
    {f_l_mixed : Addr} {od_l_mixed an_l_mixed : Option Addr} {sl_l_mixed : Array (Option Value)} {oc_l_mixed kV_l_mixed dc_l_mixed pm_l_mixed cd_l_mixed ct_l_mixed : Value}
    {f_l_hung : Addr} {od_l_hung an_l_hung : Option Addr} {sl_l_hung : Array (Option Value)} {oc_l_hung kV_l_hung dc_l_hung pm_l_hung cd_l_hung ct_l_hung : Value}
    {f_l_many : Addr} {od_l_many an_l_many : Option Addr} {sl_l_many : Array (Option Value)} {oc_l_many kV_l_many dc_l_many pm_l_many cd_l_many ct_l_many : Value}
    {f_l_way : Addr} {od_l_way an_l_way : Option Addr} {sl_l_way : Array (Option Value)} {oc_l_way kV_l_way dc_l_way pm_l_way cd_l_way ct_l_way : Value}
    {f_l_tellings : Addr} {od_l_tellings an_l_tellings : Option Addr} {sl_l_tellings : Array (Option Value)} {oc_l_tellings kV_l_tellings dc_l_tellings pm_l_tellings cd_l_tellings ct_l_tellings : Value}
    {f_l_view : Addr} {od_l_view an_l_view : Option Addr} {sl_l_view : Array (Option Value)} {oc_l_view kV_l_view dc_l_view pm_l_view cd_l_view ct_l_view : Value}
    {f_l_unlike : Addr} {od_l_unlike an_l_unlike : Option Addr} {sl_l_unlike : Array (Option Value)} {oc_l_unlike kV_l_unlike dc_l_unlike pm_l_unlike cd_l_unlike ct_l_unlike : Value}
    {f_l_move_seen : Addr} {od_l_move_seen an_l_move_seen : Option Addr} {sl_l_move_seen : Array (Option Value)} {oc_l_move_seen kV_l_move_seen dc_l_move_seen pm_l_move_seen cd_l_move_seen ct_l_move_seen : Value}
    {f_l_named_right : Addr} {od_l_named_right an_l_named_right : Option Addr} {sl_l_named_right : Array (Option Value)} {oc_l_named_right kV_l_named_right dc_l_named_right pm_l_named_right cd_l_named_right ct_l_named_right : Value}
    {f_law : Addr} {od_law an_law : Option Addr} {sl_law : Array (Option Value)} {oc_law kV_law dc_law pm_law cd_law ct_law : Value}
    {nm_BadTree qn_BadTree : Str} {N_BadTree : Addr} {bs_BadTree sub_BadTree : List Value} {sn_BadTree : List Str} {ab_BadTree : Bool} {col_BadTree : Option Bool} {dd_BadTree : Option Addr} {m0_BadTree m1_BadTree m2_BadTree m3_BadTree m5_BadTree : Option Value}
    {nm_NoBlock qn_NoBlock : Str} {N_NoBlock : Addr} {bs_NoBlock sub_NoBlock : List Value} {sn_NoBlock : List Str} {ab_NoBlock : Bool} {col_NoBlock : Option Bool} {dd_NoBlock : Option Addr} {m0_NoBlock m1_NoBlock m2_NoBlock m3_NoBlock m5_NoBlock : Option Value}
    {nm_NoPlace qn_NoPlace : Str} {N_NoPlace : Addr} {bs_NoPlace sub_NoPlace : List Value} {sn_NoPlace : List Str} {ab_NoPlace : Bool} {col_NoPlace : Option Bool} {dd_NoPlace : Option Addr} {m0_NoPlace m1_NoPlace m2_NoPlace m3_NoPlace m5_NoPlace : Option Value}
    {nm_Beneath qn_Beneath : Str} {N_Beneath : Addr} {bs_Beneath sub_Beneath : List Value} {sn_Beneath : List Str} {ab_Beneath : Bool} {col_Beneath : Option Bool} {dd_Beneath : Option Addr} {m0_Beneath m1_Beneath m2_Beneath m3_Beneath m5_Beneath : Option Value}
    {nm_NoOrder qn_NoOrder : Str} {N_NoOrder : Addr} {bs_NoOrder sub_NoOrder : List Value} {sn_NoOrder : List Str} {ab_NoOrder : Bool} {col_NoOrder : Option Bool} {dd_NoOrder : Option Addr} {m0_NoOrder m1_NoOrder m2_NoOrder m3_NoOrder m5_NoOrder : Option Value}
    {nm_NoView qn_NoView : Str} {N_NoView : Addr} {bs_NoView sub_NoView : List Value} {sn_NoView : List Str} {ab_NoView : Bool} {col_NoView : Option Bool} {dd_NoView : Option Addr} {m0_NoView m1_NoView m2_NoView m3_NoView m5_NoView : Option Value}
    {nm_OtherBlocks qn_OtherBlocks : Str} {N_OtherBlocks : Addr} {bs_OtherBlocks sub_OtherBlocks : List Value} {sn_OtherBlocks : List Str} {ab_OtherBlocks : Bool} {col_OtherBlocks : Option Bool} {dd_OtherBlocks : Option Addr} {m0_OtherBlocks m1_OtherBlocks m2_OtherBlocks m3_OtherBlocks m5_OtherBlocks : Option Value}
    (z_abs : PySem.W.nsIn K mainGlobals "abs" = some none)
    (z_all : PySem.W.nsIn K mainGlobals "all" = some none)
    (z_bool : PySem.W.nsIn K mainGlobals "bool" = some none)
    (z_dict : PySem.W.nsIn K mainGlobals "dict" = some none)
    (z_int : PySem.W.nsIn K mainGlobals "int" = some none)
    (z_isinstance : PySem.W.nsIn K mainGlobals "isinstance" = some none)
    (z_len : PySem.W.nsIn K mainGlobals "len" = some none)
    (z_list : PySem.W.nsIn K mainGlobals "list" = some none)
    (z_min : PySem.W.nsIn K mainGlobals "min" = some none)
    (z_range : PySem.W.nsIn K mainGlobals "range" = some none)
    (z_sorted : PySem.W.nsIn K mainGlobals "sorted" = some none)
    (z_tuple : PySem.W.nsIn K mainGlobals "tuple" = some none)
    (c_HEAD : PySem.W.nsIn K mainGlobals "HEAD" = some (some (.int 0 k_HEAD)))
    (c_MOST_BLOCKS : PySem.W.nsIn K mainGlobals "MOST_BLOCKS" = some (some (.int 40 k_MOST_BLOCKS)))
    (c_MOST_STEPS : PySem.W.nsIn K mainGlobals "MOST_STEPS" = some (some (.int 4 k_MOST_STEPS)))
    (a_Tree : PySem.W.nsIn K mainGlobals "Tree" = some (some (.ref C_Tree)))
    (a_BadTree : PySem.W.nsIn K mainGlobals "BadTree" = some (some (.ref C_BadTree)))
    (a_NoBlock : PySem.W.nsIn K mainGlobals "NoBlock" = some (some (.ref C_NoBlock)))
    (a_NoPlace : PySem.W.nsIn K mainGlobals "NoPlace" = some (some (.ref C_NoPlace)))
    (a_Beneath : PySem.W.nsIn K mainGlobals "Beneath" = some (some (.ref C_Beneath)))
    (a_NoOrder : PySem.W.nsIn K mainGlobals "NoOrder" = some (some (.ref C_NoOrder)))
    (a_NoView : PySem.W.nsIn K mainGlobals "NoView" = some (some (.ref C_NoView)))
    (a_OtherBlocks : PySem.W.nsIn K mainGlobals "OtherBlocks" = some (some (.ref C_OtherBlocks)))
    (a_BadTree_init : PySem.W.findIn K (.ref C_BadTree) "__init__" = some (some (.ref f_BadTree_init)))
    (l_BadTree_init : K.lookup f_BadTree_init = some ⟨oc_BadTree_init, od_BadTree_init, .func (PySem.W.fnOf "__init__" "BadTree.__init__" (defArgs s_BadTree_init) (defBody s_BadTree_init) (defScope s_BadTree_init) .none kV_BadTree_init dc_BadTree_init pm_BadTree_init an_BadTree_init cd_BadTree_init ct_BadTree_init), sl_BadTree_init⟩)
    (d_BadTree_init : PySem.W.codeIn K cd_BadTree_init "BadTree.__init__" = true)
    (p_BadTree_init : PySem.W.keepIn K (.ref f_BadTree_init) = true)
    (a_is_integer : PySem.W.nsIn K mainGlobals "is_integer" = some (some (.ref f_is_integer)))
    (l_is_integer : K.lookup f_is_integer = some ⟨oc_is_integer, od_is_integer, .func (PySem.W.fnOf "is_integer" "is_integer" (defArgs s_is_integer) (defBody s_is_integer) (defScope s_is_integer) .none kV_is_integer dc_is_integer pm_is_integer an_is_integer cd_is_integer ct_is_integer), sl_is_integer⟩)
    (d_is_integer : PySem.W.codeIn K cd_is_integer "is_integer" = true)
    (p_is_integer : PySem.W.keepIn K (.ref f_is_integer) = true)
    (a_is_within : PySem.W.nsIn K mainGlobals "is_within" = some (some (.ref f_is_within)))
    (l_is_within : K.lookup f_is_within = some ⟨oc_is_within, od_is_within, .func (PySem.W.fnOf "is_within" "is_within" (defArgs s_is_within) (defBody s_is_within) (defScope s_is_within) .none kV_is_within dc_is_within pm_is_within an_is_within cd_is_within ct_is_within), sl_is_within⟩)
    (d_is_within : PySem.W.codeIn K cd_is_within "is_within" = true)
    (p_is_within : PySem.W.keepIn K (.ref f_is_within) = true)
    (a_is_pair : PySem.W.nsIn K mainGlobals "is_pair" = some (some (.ref f_is_pair)))
    (l_is_pair : K.lookup f_is_pair = some ⟨oc_is_pair, od_is_pair, .func (PySem.W.fnOf "is_pair" "is_pair" (defArgs s_is_pair) (defBody s_is_pair) (defScope s_is_pair) .none kV_is_pair dc_is_pair pm_is_pair an_is_pair cd_is_pair ct_is_pair), sl_is_pair⟩)
    (d_is_pair : PySem.W.codeIn K cd_is_pair "is_pair" = true)
    (p_is_pair : PySem.W.keepIn K (.ref f_is_pair) = true)
    (a_is_view : PySem.W.nsIn K mainGlobals "is_view" = some (some (.ref f_is_view)))
    (l_is_view : K.lookup f_is_view = some ⟨oc_is_view, od_is_view, .func (PySem.W.fnOf "is_view" "is_view" (defArgs s_is_view) (defBody s_is_view) (defScope s_is_view) .none kV_is_view dc_is_view pm_is_view an_is_view cd_is_view ct_is_view), sl_is_view⟩)
    (d_is_view : PySem.W.codeIn K cd_is_view "is_view" = true)
    (p_is_view : PySem.W.keepIn K (.ref f_is_view) = true)
    (a_check_block : PySem.W.nsIn K mainGlobals "check_block" = some (some (.ref f_check_block)))
    (l_check_block : K.lookup f_check_block = some ⟨oc_check_block, od_check_block, .func (PySem.W.fnOf "check_block" "check_block" (defArgs s_check_block) (defBody s_check_block) (defScope s_check_block) .none kV_check_block dc_check_block pm_check_block an_check_block cd_check_block ct_check_block), sl_check_block⟩)
    (d_check_block : PySem.W.codeIn K cd_check_block "check_block" = true)
    (p_check_block : PySem.W.keepIn K (.ref f_check_block) = true)
    (a_check_place : PySem.W.nsIn K mainGlobals "check_place" = some (some (.ref f_check_place)))
    (l_check_place : K.lookup f_check_place = some ⟨oc_check_place, od_check_place, .func (PySem.W.fnOf "check_place" "check_place" (defArgs s_check_place) (defBody s_check_place) (defScope s_check_place) .none kV_check_place dc_check_place pm_check_place an_check_place cd_check_place ct_check_place), sl_check_place⟩)
    (d_check_place : PySem.W.codeIn K cd_check_place "check_place" = true)
    (p_check_place : PySem.W.keepIn K (.ref f_check_place) = true)
    (a_check_view : PySem.W.nsIn K mainGlobals "check_view" = some (some (.ref f_check_view)))
    (l_check_view : K.lookup f_check_view = some ⟨oc_check_view, od_check_view, .func (PySem.W.fnOf "check_view" "check_view" (defArgs s_check_view) (defBody s_check_view) (defScope s_check_view) .none kV_check_view dc_check_view pm_check_view an_check_view cd_check_view ct_check_view), sl_check_view⟩)
    (d_check_view : PySem.W.codeIn K cd_check_view "check_view" = true)
    (p_check_view : PySem.W.keepIn K (.ref f_check_view) = true)
    (a_leads_home : PySem.W.nsIn K mainGlobals "leads_home" = some (some (.ref f_leads_home)))
    (l_leads_home : K.lookup f_leads_home = some ⟨oc_leads_home, od_leads_home, .func (PySem.W.fnOf "leads_home" "leads_home" (defArgs s_leads_home) (defBody s_leads_home) (defScope s_leads_home) .none kV_leads_home dc_leads_home pm_leads_home an_leads_home cd_leads_home ct_leads_home), sl_leads_home⟩)
    (d_leads_home : PySem.W.codeIn K cd_leads_home "leads_home" = true)
    (p_leads_home : PySem.W.keepIn K (.ref f_leads_home) = true)
    (a_Tree_init : PySem.W.findIn K (.ref C_Tree) "__init__" = some (some (.ref f_Tree_init)))
    (l_Tree_init : K.lookup f_Tree_init = some ⟨oc_Tree_init, od_Tree_init, .func (PySem.W.fnOf "__init__" "Tree.__init__" (defArgs s_Tree_init) (defBody s_Tree_init) (defScope s_Tree_init) .none kV_Tree_init dc_Tree_init pm_Tree_init an_Tree_init cd_Tree_init ct_Tree_init), sl_Tree_init⟩)
    (d_Tree_init : PySem.W.codeIn K cd_Tree_init "Tree.__init__" = true)
    (p_Tree_init : PySem.W.keepIn K (.ref f_Tree_init) = true)
    (a_parents_in : PySem.W.nsIn K mainGlobals "parents_in" = some (some (.ref f_parents_in)))
    (l_parents_in : K.lookup f_parents_in = some ⟨oc_parents_in, od_parents_in, .func (PySem.W.fnOf "parents_in" "parents_in" (defArgs s_parents_in) (defBody s_parents_in) (defScope s_parents_in) .none kV_parents_in dc_parents_in pm_parents_in an_parents_in cd_parents_in ct_parents_in), sl_parents_in⟩)
    (d_parents_in : PySem.W.codeIn K cd_parents_in "parents_in" = true)
    (p_parents_in : PySem.W.keepIn K (.ref f_parents_in) = true)
    (a_hanging : PySem.W.nsIn K mainGlobals "hanging" = some (some (.ref f_hanging)))
    (l_hanging : K.lookup f_hanging = some ⟨oc_hanging, od_hanging, .func (PySem.W.fnOf "hanging" "hanging" (defArgs s_hanging) (defBody s_hanging) (defScope s_hanging) .none kV_hanging dc_hanging pm_hanging an_hanging cd_hanging ct_hanging), sl_hanging⟩)
    (d_hanging : PySem.W.codeIn K cd_hanging "hanging" = true)
    (p_hanging : PySem.W.keepIn K (.ref f_hanging) = true)
    (a_beneath_in : PySem.W.nsIn K mainGlobals "beneath_in" = some (some (.ref f_beneath_in)))
    (l_beneath_in : K.lookup f_beneath_in = some ⟨oc_beneath_in, od_beneath_in, .func (PySem.W.fnOf "beneath_in" "beneath_in" (defArgs s_beneath_in) (defBody s_beneath_in) (defScope s_beneath_in) .none kV_beneath_in dc_beneath_in pm_beneath_in an_beneath_in cd_beneath_in ct_beneath_in), sl_beneath_in⟩)
    (d_beneath_in : PySem.W.codeIn K cd_beneath_in "beneath_in" = true)
    (p_beneath_in : PySem.W.keepIn K (.ref f_beneath_in) = true)
    (a_with_place : PySem.W.nsIn K mainGlobals "with_place" = some (some (.ref f_with_place)))
    (l_with_place : K.lookup f_with_place = some ⟨oc_with_place, od_with_place, .func (PySem.W.fnOf "with_place" "with_place" (defArgs s_with_place) (defBody s_with_place) (defScope s_with_place) .none kV_with_place dc_with_place pm_with_place an_with_place cd_with_place ct_with_place), sl_with_place⟩)
    (d_with_place : PySem.W.codeIn K cd_with_place "with_place" = true)
    (p_with_place : PySem.W.keepIn K (.ref f_with_place) = true)
    (a_moved : PySem.W.nsIn K mainGlobals "moved" = some (some (.ref f_moved)))
    (l_moved : K.lookup f_moved = some ⟨oc_moved, od_moved, .func (PySem.W.fnOf "moved" "moved" (defArgs s_moved) (defBody s_moved) (defScope s_moved) .none kV_moved dc_moved pm_moved an_moved cd_moved ct_moved), sl_moved⟩)
    (d_moved : PySem.W.codeIn K cd_moved "moved" = true)
    (p_moved : PySem.W.keepIn K (.ref f_moved) = true)
    (a_called : PySem.W.nsIn K mainGlobals "called" = some (some (.ref f_called)))
    (l_called : K.lookup f_called = some ⟨oc_called, od_called, .func (PySem.W.fnOf "called" "called" (defArgs s_called) (defBody s_called) (defScope s_called) .none kV_called dc_called pm_called an_called cd_called ct_called), sl_called⟩)
    (d_called : PySem.W.codeIn K cd_called "called" = true)
    (p_called : PySem.W.keepIn K (.ref f_called) = true)
    (a_ties_down : PySem.W.nsIn K mainGlobals "ties_down" = some (some (.ref f_ties_down)))
    (l_ties_down : K.lookup f_ties_down = some ⟨oc_ties_down, od_ties_down, .func (PySem.W.fnOf "ties_down" "ties_down" (defArgs s_ties_down) (defBody s_ties_down) (defScope s_ties_down) .none kV_ties_down dc_ties_down pm_ties_down an_ties_down cd_ties_down ct_ties_down), sl_ties_down⟩)
    (d_ties_down : PySem.W.codeIn K cd_ties_down "ties_down" = true)
    (p_ties_down : PySem.W.keepIn K (.ref f_ties_down) = true)
    (a_raw_telling : PySem.W.nsIn K mainGlobals "raw_telling" = some (some (.ref f_raw_telling)))
    (l_raw_telling : K.lookup f_raw_telling = some ⟨oc_raw_telling, od_raw_telling, .func (PySem.W.fnOf "raw_telling" "raw_telling" (defArgs s_raw_telling) (defBody s_raw_telling) (defScope s_raw_telling) .none kV_raw_telling dc_raw_telling pm_raw_telling an_raw_telling cd_raw_telling ct_raw_telling), sl_raw_telling⟩)
    (d_raw_telling : PySem.W.codeIn K cd_raw_telling "raw_telling" = true)
    (p_raw_telling : PySem.W.keepIn K (.ref f_raw_telling) = true)
    (a_telling : PySem.W.nsIn K mainGlobals "telling" = some (some (.ref f_telling)))
    (l_telling : K.lookup f_telling = some ⟨oc_telling, od_telling, .func (PySem.W.fnOf "telling" "telling" (defArgs s_telling) (defBody s_telling) (defScope s_telling) .none kV_telling dc_telling pm_telling an_telling cd_telling ct_telling), sl_telling⟩)
    (d_telling : PySem.W.codeIn K cd_telling "telling" = true)
    (p_telling : PySem.W.keepIn K (.ref f_telling) = true)
    (a_raw_tellings : PySem.W.nsIn K mainGlobals "raw_tellings" = some (some (.ref f_raw_tellings)))
    (l_raw_tellings : K.lookup f_raw_tellings = some ⟨oc_raw_tellings, od_raw_tellings, .func (PySem.W.fnOf "raw_tellings" "raw_tellings" (defArgs s_raw_tellings) (defBody s_raw_tellings) (defScope s_raw_tellings) .none kV_raw_tellings dc_raw_tellings pm_raw_tellings an_raw_tellings cd_raw_tellings ct_raw_tellings), sl_raw_tellings⟩)
    (d_raw_tellings : PySem.W.codeIn K cd_raw_tellings "raw_tellings" = true)
    (p_raw_tellings : PySem.W.keepIn K (.ref f_raw_tellings) = true)
    (a_unlike : PySem.W.nsIn K mainGlobals "unlike" = some (some (.ref f_unlike)))
    (l_unlike : K.lookup f_unlike = some ⟨oc_unlike, od_unlike, .func (PySem.W.fnOf "unlike" "unlike" (defArgs s_unlike) (defBody s_unlike) (defScope s_unlike) .none kV_unlike dc_unlike pm_unlike an_unlike cd_unlike ct_unlike), sl_unlike⟩)
    (d_unlike : PySem.W.codeIn K cd_unlike "unlike" = true)
    (p_unlike : PySem.W.keepIn K (.ref f_unlike) = true)
    (a_l_pool : PySem.W.nsIn K mainGlobals "_law_pool" = some (some (.ref f_l_pool)))
    (l_l_pool : K.lookup f_l_pool = some ⟨oc_l_pool, od_l_pool, .func (PySem.W.fnOf "_law_pool" "_law_pool" (defArgs s_l_pool) (defBody s_l_pool) (defScope s_l_pool) .none kV_l_pool dc_l_pool pm_l_pool an_l_pool cd_l_pool ct_l_pool), sl_l_pool⟩)
    (d_l_pool : PySem.W.codeIn K cd_l_pool "_law_pool" = true)
    (p_l_pool : PySem.W.keepIn K (.ref f_l_pool) = true)
    (a_l_draw : PySem.W.nsIn K mainGlobals "_law_draw" = some (some (.ref f_l_draw)))
    (l_l_draw : K.lookup f_l_draw = some ⟨oc_l_draw, od_l_draw, .func (PySem.W.fnOf "_law_draw" "_law_draw" (defArgs s_l_draw) (defBody s_l_draw) (defScope s_l_draw) .none kV_l_draw dc_l_draw pm_l_draw an_l_draw cd_l_draw ct_l_draw), sl_l_draw⟩)
    (d_l_draw : PySem.W.codeIn K cd_l_draw "_law_draw" = true)
    (p_l_draw : PySem.W.keepIn K (.ref f_l_draw) = true)
    (a_l_is : PySem.W.nsIn K mainGlobals "_law_is" = some (some (.ref f_l_is)))
    (l_l_is : K.lookup f_l_is = some ⟨oc_l_is, od_l_is, .func (PySem.W.fnOf "_law_is" "_law_is" (defArgs s_l_is) (defBody s_l_is) (defScope s_l_is) .none kV_l_is dc_l_is pm_l_is an_l_is cd_l_is ct_l_is), sl_l_is⟩)
    (d_l_is : PySem.W.codeIn K cd_l_is "_law_is" = true)
    (p_l_is : PySem.W.keepIn K (.ref f_l_is) = true)
    (a_l_mixed : PySem.W.nsIn K mainGlobals "_law_mixed" = some (some (.ref f_l_mixed)))
    (l_l_mixed : K.lookup f_l_mixed = some ⟨oc_l_mixed, od_l_mixed, .func (PySem.W.fnOf "_law_mixed" "_law_mixed" (defArgs s_l_mixed) (defBody s_l_mixed) (defScope s_l_mixed) .none kV_l_mixed dc_l_mixed pm_l_mixed an_l_mixed cd_l_mixed ct_l_mixed), sl_l_mixed⟩)
    (d_l_mixed : PySem.W.codeIn K cd_l_mixed "_law_mixed" = true)
    (p_l_mixed : PySem.W.keepIn K (.ref f_l_mixed) = true)
    (a_l_hung : PySem.W.nsIn K mainGlobals "_law_hung" = some (some (.ref f_l_hung)))
    (l_l_hung : K.lookup f_l_hung = some ⟨oc_l_hung, od_l_hung, .func (PySem.W.fnOf "_law_hung" "_law_hung" (defArgs s_l_hung) (defBody s_l_hung) (defScope s_l_hung) .none kV_l_hung dc_l_hung pm_l_hung an_l_hung cd_l_hung ct_l_hung), sl_l_hung⟩)
    (d_l_hung : PySem.W.codeIn K cd_l_hung "_law_hung" = true)
    (p_l_hung : PySem.W.keepIn K (.ref f_l_hung) = true)
    (a_l_many : PySem.W.nsIn K mainGlobals "_law_many" = some (some (.ref f_l_many)))
    (l_l_many : K.lookup f_l_many = some ⟨oc_l_many, od_l_many, .func (PySem.W.fnOf "_law_many" "_law_many" (defArgs s_l_many) (defBody s_l_many) (defScope s_l_many) .none kV_l_many dc_l_many pm_l_many an_l_many cd_l_many ct_l_many), sl_l_many⟩)
    (d_l_many : PySem.W.codeIn K cd_l_many "_law_many" = true)
    (p_l_many : PySem.W.keepIn K (.ref f_l_many) = true)
    (a_l_way : PySem.W.nsIn K mainGlobals "_law_way" = some (some (.ref f_l_way)))
    (l_l_way : K.lookup f_l_way = some ⟨oc_l_way, od_l_way, .func (PySem.W.fnOf "_law_way" "_law_way" (defArgs s_l_way) (defBody s_l_way) (defScope s_l_way) .none kV_l_way dc_l_way pm_l_way an_l_way cd_l_way ct_l_way), sl_l_way⟩)
    (d_l_way : PySem.W.codeIn K cd_l_way "_law_way" = true)
    (p_l_way : PySem.W.keepIn K (.ref f_l_way) = true)
    (a_l_tellings : PySem.W.nsIn K mainGlobals "_law_tellings" = some (some (.ref f_l_tellings)))
    (l_l_tellings : K.lookup f_l_tellings = some ⟨oc_l_tellings, od_l_tellings, .func (PySem.W.fnOf "_law_tellings" "_law_tellings" (defArgs s_l_tellings) (defBody s_l_tellings) (defScope s_l_tellings) .none kV_l_tellings dc_l_tellings pm_l_tellings an_l_tellings cd_l_tellings ct_l_tellings), sl_l_tellings⟩)
    (d_l_tellings : PySem.W.codeIn K cd_l_tellings "_law_tellings" = true)
    (p_l_tellings : PySem.W.keepIn K (.ref f_l_tellings) = true)
    (a_l_view : PySem.W.nsIn K mainGlobals "_law_view" = some (some (.ref f_l_view)))
    (l_l_view : K.lookup f_l_view = some ⟨oc_l_view, od_l_view, .func (PySem.W.fnOf "_law_view" "_law_view" (defArgs s_l_view) (defBody s_l_view) (defScope s_l_view) .none kV_l_view dc_l_view pm_l_view an_l_view cd_l_view ct_l_view), sl_l_view⟩)
    (d_l_view : PySem.W.codeIn K cd_l_view "_law_view" = true)
    (p_l_view : PySem.W.keepIn K (.ref f_l_view) = true)
    (a_l_unlike : PySem.W.nsIn K mainGlobals "_law_unlike" = some (some (.ref f_l_unlike)))
    (l_l_unlike : K.lookup f_l_unlike = some ⟨oc_l_unlike, od_l_unlike, .func (PySem.W.fnOf "_law_unlike" "_law_unlike" (defArgs s_l_unlike) (defBody s_l_unlike) (defScope s_l_unlike) .none kV_l_unlike dc_l_unlike pm_l_unlike an_l_unlike cd_l_unlike ct_l_unlike), sl_l_unlike⟩)
    (d_l_unlike : PySem.W.codeIn K cd_l_unlike "_law_unlike" = true)
    (p_l_unlike : PySem.W.keepIn K (.ref f_l_unlike) = true)
    (a_l_move_seen : PySem.W.nsIn K mainGlobals "_law_move_seen" = some (some (.ref f_l_move_seen)))
    (l_l_move_seen : K.lookup f_l_move_seen = some ⟨oc_l_move_seen, od_l_move_seen, .func (PySem.W.fnOf "_law_move_seen" "_law_move_seen" (defArgs s_l_move_seen) (defBody s_l_move_seen) (defScope s_l_move_seen) .none kV_l_move_seen dc_l_move_seen pm_l_move_seen an_l_move_seen cd_l_move_seen ct_l_move_seen), sl_l_move_seen⟩)
    (d_l_move_seen : PySem.W.codeIn K cd_l_move_seen "_law_move_seen" = true)
    (p_l_move_seen : PySem.W.keepIn K (.ref f_l_move_seen) = true)
    (a_l_named_right : PySem.W.nsIn K mainGlobals "_law_named_right" = some (some (.ref f_l_named_right)))
    (l_l_named_right : K.lookup f_l_named_right = some ⟨oc_l_named_right, od_l_named_right, .func (PySem.W.fnOf "_law_named_right" "_law_named_right" (defArgs s_l_named_right) (defBody s_l_named_right) (defScope s_l_named_right) .none kV_l_named_right dc_l_named_right pm_l_named_right an_l_named_right cd_l_named_right ct_l_named_right), sl_l_named_right⟩)
    (d_l_named_right : PySem.W.codeIn K cd_l_named_right "_law_named_right" = true)
    (p_l_named_right : PySem.W.keepIn K (.ref f_l_named_right) = true)
    (a_law : PySem.W.nsIn K mainGlobals "law" = some (some (.ref f_law)))
    (l_law : K.lookup f_law = some ⟨oc_law, od_law, .func (PySem.W.fnOf "law" "law" (defArgs s_law) (defBody s_law) (defScope s_law) .none kV_law dc_law pm_law an_law cd_law ct_law), sl_law⟩)
    (d_law : PySem.W.codeIn K cd_law "law" = true)
    (p_law : PySem.W.keepIn K (.ref f_law) = true)
    (pg_Tree : PySem.W.plainGet K C_Tree Str.empty = true)
    (hd_Tree : PySem.W.hasDictIn K C_Tree = true)
    (po_Tree : PySem.W.plainOver K C_Tree = true)
    (sa_Tree : PySem.W.findIn K (.ref C_Tree) "__setattr__" = some (some (.builtin "object.__setattr__")))
    (mk_Tree : PySem.W.makesIn K C_Tree = true)
    (kc_Tree : PySem.W.keepIn K (.ref C_Tree) = true)
    (ha_Tree : PySem.W.findIn K (.ref C_Tree) "__class__" = some (some (.builtin "object.__class__")))
    (hn_Tree : PySem.W.specialIn K (.builtin "object.__class__") "__get__" = some (some (.builtin "getset_descriptor.__get__")))
    (ht_Tree : PySem.W.takesIn K (.builtin "object.__class__") = some true)
    (hm_Tree : PySem.W.mroIn K C_Tree (.type "object") = some true)
    (me_Tree : PySem.W.kitOne K (.ref C_Tree) (.ref C_Tree) = some true)
    (ktNoneType_Tree : PySem.W.kitOne K (.type "NoneType") (.ref C_Tree) = some false)
    (ntNoneType_Tree : PySem.W.notFirst K C_Tree (.type "NoneType") = true)
    (ktbool_Tree : PySem.W.kitOne K (.type "bool") (.ref C_Tree) = some false)
    (ntbool_Tree : PySem.W.notFirst K C_Tree (.type "bool") = true)
    (ktint_Tree : PySem.W.kitOne K (.type "int") (.ref C_Tree) = some false)
    (ntint_Tree : PySem.W.notFirst K C_Tree (.type "int") = true)
    (ktstr_Tree : PySem.W.kitOne K (.type "str") (.ref C_Tree) = some false)
    (ntstr_Tree : PySem.W.notFirst K C_Tree (.type "str") = true)
    (ktlist_Tree : PySem.W.kitOne K (.type "list") (.ref C_Tree) = some false)
    (ntlist_Tree : PySem.W.notFirst K C_Tree (.type "list") = true)
    (kttuple_Tree : PySem.W.kitOne K (.type "tuple") (.ref C_Tree) = some false)
    (nttuple_Tree : PySem.W.notFirst K C_Tree (.type "tuple") = true)
    (ktdict_Tree : PySem.W.kitOne K (.type "dict") (.ref C_Tree) = some false)
    (ntdict_Tree : PySem.W.notFirst K C_Tree (.type "dict") = true)
    (if_Tree : PySem.W.isFn K (.ref f_Tree_init) = true)
    (nf_Tree_hung : PySem.W.findIn K (.ref C_Tree) "hung" = some none)
    (sa_BadTree : PySem.W.findIn K (.ref C_BadTree) "__setattr__" = some (some (.builtin "object.__setattr__")))
    (be_BadTree : PySem.W.subIn K (.ref C_BadTree) (.type "BaseException") = some true)
    (ty_BadTree : PySem.W.typeIn K (.ref C_BadTree) = some (.type "type"))
    (kc_BadTree : PySem.W.keepIn K (.ref C_BadTree) = true)
    (ic_BadTree : PySem.W.isClsIn K C_BadTree = true)
    (ss_BadTree : PySem.W.subIn K (.ref C_BadTree) (.ref C_BadTree) = some true)
    (ga_BadTree : PySem.W.findIn K (.ref C_BadTree) "__getattribute__" = some (some (.builtin "BaseException.__getattribute__")))
    (gt_BadTree : PySem.W.findIn K (.ref C_BadTree) "__getattr__" = some none)
    (hd_BadTree : PySem.W.hasDictIn K C_BadTree = true)
    (ha_BadTree : PySem.W.findIn K (.ref C_BadTree) "__class__" = some (some (.builtin "object.__class__")))
    (hn_BadTree : PySem.W.specialIn K (.builtin "object.__class__") "__get__" = some (some (.builtin "getset_descriptor.__get__")))
    (ht_BadTree : PySem.W.takesIn K (.builtin "object.__class__") = some true)
    (hm_BadTree : PySem.W.mroIn K C_BadTree (.type "object") = some true)
    (xL_BadTree : K.lookup C_BadTree = some (excClassObj nm_BadTree qn_BadTree C_BadTree N_BadTree bs_BadTree [.ref C_VoteError, .type "ValueError", .type "Exception", .type "BaseException", .type "object"] true sn_BadTree sub_BadTree ab_BadTree col_BadTree dd_BadTree m0_BadTree m1_BadTree m2_BadTree m3_BadTree m5_BadTree "ValueError.__new__"))
    (ti_BadTree : PySem.W.typeIn K (.ref f_BadTree_init) = some (.type "function"))
    (nf_BadTree_part : PySem.W.findIn K (.ref C_BadTree) "part" = some none)
    (sa_NoBlock : PySem.W.findIn K (.ref C_NoBlock) "__setattr__" = some (some (.builtin "object.__setattr__")))
    (be_NoBlock : PySem.W.subIn K (.ref C_NoBlock) (.type "BaseException") = some true)
    (ty_NoBlock : PySem.W.typeIn K (.ref C_NoBlock) = some (.type "type"))
    (kc_NoBlock : PySem.W.keepIn K (.ref C_NoBlock) = true)
    (ic_NoBlock : PySem.W.isClsIn K C_NoBlock = true)
    (ss_NoBlock : PySem.W.subIn K (.ref C_NoBlock) (.ref C_NoBlock) = some true)
    (ga_NoBlock : PySem.W.findIn K (.ref C_NoBlock) "__getattribute__" = some (some (.builtin "BaseException.__getattribute__")))
    (gt_NoBlock : PySem.W.findIn K (.ref C_NoBlock) "__getattr__" = some none)
    (hd_NoBlock : PySem.W.hasDictIn K C_NoBlock = true)
    (ha_NoBlock : PySem.W.findIn K (.ref C_NoBlock) "__class__" = some (some (.builtin "object.__class__")))
    (hn_NoBlock : PySem.W.specialIn K (.builtin "object.__class__") "__get__" = some (some (.builtin "getset_descriptor.__get__")))
    (ht_NoBlock : PySem.W.takesIn K (.builtin "object.__class__") = some true)
    (hm_NoBlock : PySem.W.mroIn K C_NoBlock (.type "object") = some true)
    (xL_NoBlock : K.lookup C_NoBlock = some (excClassObj nm_NoBlock qn_NoBlock C_NoBlock N_NoBlock bs_NoBlock [.ref C_VoteError, .type "ValueError", .type "Exception", .type "BaseException", .type "object"] true sn_NoBlock sub_NoBlock ab_NoBlock col_NoBlock dd_NoBlock m0_NoBlock m1_NoBlock m2_NoBlock m3_NoBlock m5_NoBlock "ValueError.__new__"))
    (x0_NoBlock : PySem.W.excIn K C_NoBlock [.type "ValueError", .type "Exception", .type "BaseException", .type "object"] "ValueError.__new__" = true)
    (sa_NoPlace : PySem.W.findIn K (.ref C_NoPlace) "__setattr__" = some (some (.builtin "object.__setattr__")))
    (be_NoPlace : PySem.W.subIn K (.ref C_NoPlace) (.type "BaseException") = some true)
    (ty_NoPlace : PySem.W.typeIn K (.ref C_NoPlace) = some (.type "type"))
    (kc_NoPlace : PySem.W.keepIn K (.ref C_NoPlace) = true)
    (ic_NoPlace : PySem.W.isClsIn K C_NoPlace = true)
    (ss_NoPlace : PySem.W.subIn K (.ref C_NoPlace) (.ref C_NoPlace) = some true)
    (ga_NoPlace : PySem.W.findIn K (.ref C_NoPlace) "__getattribute__" = some (some (.builtin "BaseException.__getattribute__")))
    (gt_NoPlace : PySem.W.findIn K (.ref C_NoPlace) "__getattr__" = some none)
    (hd_NoPlace : PySem.W.hasDictIn K C_NoPlace = true)
    (ha_NoPlace : PySem.W.findIn K (.ref C_NoPlace) "__class__" = some (some (.builtin "object.__class__")))
    (hn_NoPlace : PySem.W.specialIn K (.builtin "object.__class__") "__get__" = some (some (.builtin "getset_descriptor.__get__")))
    (ht_NoPlace : PySem.W.takesIn K (.builtin "object.__class__") = some true)
    (hm_NoPlace : PySem.W.mroIn K C_NoPlace (.type "object") = some true)
    (xL_NoPlace : K.lookup C_NoPlace = some (excClassObj nm_NoPlace qn_NoPlace C_NoPlace N_NoPlace bs_NoPlace [.ref C_VoteError, .type "ValueError", .type "Exception", .type "BaseException", .type "object"] true sn_NoPlace sub_NoPlace ab_NoPlace col_NoPlace dd_NoPlace m0_NoPlace m1_NoPlace m2_NoPlace m3_NoPlace m5_NoPlace "ValueError.__new__"))
    (x0_NoPlace : PySem.W.excIn K C_NoPlace [.type "ValueError", .type "Exception", .type "BaseException", .type "object"] "ValueError.__new__" = true)
    (sa_Beneath : PySem.W.findIn K (.ref C_Beneath) "__setattr__" = some (some (.builtin "object.__setattr__")))
    (be_Beneath : PySem.W.subIn K (.ref C_Beneath) (.type "BaseException") = some true)
    (ty_Beneath : PySem.W.typeIn K (.ref C_Beneath) = some (.type "type"))
    (kc_Beneath : PySem.W.keepIn K (.ref C_Beneath) = true)
    (ic_Beneath : PySem.W.isClsIn K C_Beneath = true)
    (ss_Beneath : PySem.W.subIn K (.ref C_Beneath) (.ref C_Beneath) = some true)
    (ga_Beneath : PySem.W.findIn K (.ref C_Beneath) "__getattribute__" = some (some (.builtin "BaseException.__getattribute__")))
    (gt_Beneath : PySem.W.findIn K (.ref C_Beneath) "__getattr__" = some none)
    (hd_Beneath : PySem.W.hasDictIn K C_Beneath = true)
    (ha_Beneath : PySem.W.findIn K (.ref C_Beneath) "__class__" = some (some (.builtin "object.__class__")))
    (hn_Beneath : PySem.W.specialIn K (.builtin "object.__class__") "__get__" = some (some (.builtin "getset_descriptor.__get__")))
    (ht_Beneath : PySem.W.takesIn K (.builtin "object.__class__") = some true)
    (hm_Beneath : PySem.W.mroIn K C_Beneath (.type "object") = some true)
    (xL_Beneath : K.lookup C_Beneath = some (excClassObj nm_Beneath qn_Beneath C_Beneath N_Beneath bs_Beneath [.ref C_VoteError, .type "ValueError", .type "Exception", .type "BaseException", .type "object"] true sn_Beneath sub_Beneath ab_Beneath col_Beneath dd_Beneath m0_Beneath m1_Beneath m2_Beneath m3_Beneath m5_Beneath "ValueError.__new__"))
    (x0_Beneath : PySem.W.excIn K C_Beneath [.type "ValueError", .type "Exception", .type "BaseException", .type "object"] "ValueError.__new__" = true)
    (sa_NoOrder : PySem.W.findIn K (.ref C_NoOrder) "__setattr__" = some (some (.builtin "object.__setattr__")))
    (be_NoOrder : PySem.W.subIn K (.ref C_NoOrder) (.type "BaseException") = some true)
    (ty_NoOrder : PySem.W.typeIn K (.ref C_NoOrder) = some (.type "type"))
    (kc_NoOrder : PySem.W.keepIn K (.ref C_NoOrder) = true)
    (ic_NoOrder : PySem.W.isClsIn K C_NoOrder = true)
    (ss_NoOrder : PySem.W.subIn K (.ref C_NoOrder) (.ref C_NoOrder) = some true)
    (ga_NoOrder : PySem.W.findIn K (.ref C_NoOrder) "__getattribute__" = some (some (.builtin "BaseException.__getattribute__")))
    (gt_NoOrder : PySem.W.findIn K (.ref C_NoOrder) "__getattr__" = some none)
    (hd_NoOrder : PySem.W.hasDictIn K C_NoOrder = true)
    (ha_NoOrder : PySem.W.findIn K (.ref C_NoOrder) "__class__" = some (some (.builtin "object.__class__")))
    (hn_NoOrder : PySem.W.specialIn K (.builtin "object.__class__") "__get__" = some (some (.builtin "getset_descriptor.__get__")))
    (ht_NoOrder : PySem.W.takesIn K (.builtin "object.__class__") = some true)
    (hm_NoOrder : PySem.W.mroIn K C_NoOrder (.type "object") = some true)
    (xL_NoOrder : K.lookup C_NoOrder = some (excClassObj nm_NoOrder qn_NoOrder C_NoOrder N_NoOrder bs_NoOrder [.ref C_VoteError, .type "ValueError", .type "Exception", .type "BaseException", .type "object"] true sn_NoOrder sub_NoOrder ab_NoOrder col_NoOrder dd_NoOrder m0_NoOrder m1_NoOrder m2_NoOrder m3_NoOrder m5_NoOrder "ValueError.__new__"))
    (x0_NoOrder : PySem.W.excIn K C_NoOrder [.type "ValueError", .type "Exception", .type "BaseException", .type "object"] "ValueError.__new__" = true)
    (sa_NoView : PySem.W.findIn K (.ref C_NoView) "__setattr__" = some (some (.builtin "object.__setattr__")))
    (be_NoView : PySem.W.subIn K (.ref C_NoView) (.type "BaseException") = some true)
    (ty_NoView : PySem.W.typeIn K (.ref C_NoView) = some (.type "type"))
    (kc_NoView : PySem.W.keepIn K (.ref C_NoView) = true)
    (ic_NoView : PySem.W.isClsIn K C_NoView = true)
    (ss_NoView : PySem.W.subIn K (.ref C_NoView) (.ref C_NoView) = some true)
    (ga_NoView : PySem.W.findIn K (.ref C_NoView) "__getattribute__" = some (some (.builtin "BaseException.__getattribute__")))
    (gt_NoView : PySem.W.findIn K (.ref C_NoView) "__getattr__" = some none)
    (hd_NoView : PySem.W.hasDictIn K C_NoView = true)
    (ha_NoView : PySem.W.findIn K (.ref C_NoView) "__class__" = some (some (.builtin "object.__class__")))
    (hn_NoView : PySem.W.specialIn K (.builtin "object.__class__") "__get__" = some (some (.builtin "getset_descriptor.__get__")))
    (ht_NoView : PySem.W.takesIn K (.builtin "object.__class__") = some true)
    (hm_NoView : PySem.W.mroIn K C_NoView (.type "object") = some true)
    (xL_NoView : K.lookup C_NoView = some (excClassObj nm_NoView qn_NoView C_NoView N_NoView bs_NoView [.ref C_VoteError, .type "ValueError", .type "Exception", .type "BaseException", .type "object"] true sn_NoView sub_NoView ab_NoView col_NoView dd_NoView m0_NoView m1_NoView m2_NoView m3_NoView m5_NoView "ValueError.__new__"))
    (x0_NoView : PySem.W.excIn K C_NoView [.type "ValueError", .type "Exception", .type "BaseException", .type "object"] "ValueError.__new__" = true)
    (sa_OtherBlocks : PySem.W.findIn K (.ref C_OtherBlocks) "__setattr__" = some (some (.builtin "object.__setattr__")))
    (be_OtherBlocks : PySem.W.subIn K (.ref C_OtherBlocks) (.type "BaseException") = some true)
    (ty_OtherBlocks : PySem.W.typeIn K (.ref C_OtherBlocks) = some (.type "type"))
    (kc_OtherBlocks : PySem.W.keepIn K (.ref C_OtherBlocks) = true)
    (ic_OtherBlocks : PySem.W.isClsIn K C_OtherBlocks = true)
    (ss_OtherBlocks : PySem.W.subIn K (.ref C_OtherBlocks) (.ref C_OtherBlocks) = some true)
    (ga_OtherBlocks : PySem.W.findIn K (.ref C_OtherBlocks) "__getattribute__" = some (some (.builtin "BaseException.__getattribute__")))
    (gt_OtherBlocks : PySem.W.findIn K (.ref C_OtherBlocks) "__getattr__" = some none)
    (hd_OtherBlocks : PySem.W.hasDictIn K C_OtherBlocks = true)
    (ha_OtherBlocks : PySem.W.findIn K (.ref C_OtherBlocks) "__class__" = some (some (.builtin "object.__class__")))
    (hn_OtherBlocks : PySem.W.specialIn K (.builtin "object.__class__") "__get__" = some (some (.builtin "getset_descriptor.__get__")))
    (ht_OtherBlocks : PySem.W.takesIn K (.builtin "object.__class__") = some true)
    (hm_OtherBlocks : PySem.W.mroIn K C_OtherBlocks (.type "object") = some true)
    (xL_OtherBlocks : K.lookup C_OtherBlocks = some (excClassObj nm_OtherBlocks qn_OtherBlocks C_OtherBlocks N_OtherBlocks bs_OtherBlocks [.ref C_VoteError, .type "ValueError", .type "Exception", .type "BaseException", .type "object"] true sn_OtherBlocks sub_OtherBlocks ab_OtherBlocks col_OtherBlocks dd_OtherBlocks m0_OtherBlocks m1_OtherBlocks m2_OtherBlocks m3_OtherBlocks m5_OtherBlocks "ValueError.__new__"))
    (x0_OtherBlocks : PySem.W.excIn K C_OtherBlocks [.type "ValueError", .type "Exception", .type "BaseException", .type "object"] "ValueError.__new__" = true)
    : ∃ fd : FuncData, (∀ (s : Shared) (v : Value), BindsTo s fd ⟨[v], []⟩ [("_law_script", v)]) ∧ ∀ base : Heap, K.In base → base.Ns mainGlobals mg → FnOk l.prog w K mg base CX0 7 fa fd ["_law_script"] (spLaw K) := by
  have e := hfa.symm.trans (PySem.W.mg_of X G a_law)
  cases e
  have F_BadTree_init := fun_mk (st := s_BadTree_init) l_BadTree_init d_BadTree_init p_BadTree_init
  have b_BadTree_init := F_BadTree_init.binds (ps := ["self", "part"]) fun _ _ _ _ _ _ us hl => match us, hl with | [_, _], _ => rfl
  have F_is_integer := fun_mk (st := s_is_integer) l_is_integer d_is_integer p_is_integer
  have b_is_integer := F_is_integer.binds (ps := ["thing"]) fun _ _ _ _ _ _ us hl => match us, hl with | [_], _ => rfl
  have F_is_within := fun_mk (st := s_is_within) l_is_within d_is_within p_is_within
  have b_is_within := F_is_within.binds (ps := ["thing", "least", "most"]) fun _ _ _ _ _ _ us hl => match us, hl with | [_, _, _], _ => rfl
  have F_is_pair := fun_mk (st := s_is_pair) l_is_pair d_is_pair p_is_pair
  have b_is_pair := F_is_pair.binds (ps := ["thing"]) fun _ _ _ _ _ _ us hl => match us, hl with | [_], _ => rfl
  have F_is_view := fun_mk (st := s_is_view) l_is_view d_is_view p_is_view
  have b_is_view := F_is_view.binds (ps := ["thing"]) fun _ _ _ _ _ _ us hl => match us, hl with | [_], _ => rfl
  have F_check_block := fun_mk (st := s_check_block) l_check_block d_check_block p_check_block
  have b_check_block := F_check_block.binds (ps := ["blocks", "thing"]) fun _ _ _ _ _ _ us hl => match us, hl with | [_, _], _ => rfl
  have F_check_place := fun_mk (st := s_check_place) l_check_place d_check_place p_check_place
  have b_check_place := F_check_place.binds (ps := ["blocks", "thing"]) fun _ _ _ _ _ _ us hl => match us, hl with | [_, _], _ => rfl
  have F_check_view := fun_mk (st := s_check_view) l_check_view d_check_view p_check_view
  have b_check_view := F_check_view.binds (ps := ["view"]) fun _ _ _ _ _ _ us hl => match us, hl with | [_], _ => rfl
  have F_leads_home := fun_mk (st := s_leads_home) l_leads_home d_leads_home p_leads_home
  have b_leads_home := F_leads_home.binds (ps := ["hung", "block"]) fun _ _ _ _ _ _ us hl => match us, hl with | [_, _], _ => rfl
  have F_Tree_init := fun_mk (st := s_Tree_init) l_Tree_init d_Tree_init p_Tree_init
  have b_Tree_init := F_Tree_init.binds (ps := ["self", "hung"]) fun _ _ _ _ _ _ us hl => match us, hl with | [_, _], _ => rfl
  have F_parents_in := fun_mk (st := s_parents_in) l_parents_in d_parents_in p_parents_in
  have b_parents_in := F_parents_in.binds (ps := ["hung", "place"]) fun _ _ _ _ _ _ us hl => match us, hl with | [_, _], _ => rfl
  have F_hanging := fun_mk (st := s_hanging) l_hanging d_hanging p_hanging
  have b_hanging := F_hanging.binds (ps := ["hung", "place"]) fun _ _ _ _ _ _ us hl => match us, hl with | [_, _], _ => rfl
  have F_beneath_in := fun_mk (st := s_beneath_in) l_beneath_in d_beneath_in p_beneath_in
  have b_beneath_in := F_beneath_in.binds (ps := ["hung", "place"]) fun _ _ _ _ _ _ us hl => match us, hl with | [_, _], _ => rfl
  have F_with_place := fun_mk (st := s_with_place) l_with_place d_with_place p_with_place
  have b_with_place := F_with_place.binds (ps := ["hung", "block", "place"]) fun _ _ _ _ _ _ us hl => match us, hl with | [_, _, _], _ => rfl
  have F_moved := fun_mk (st := s_moved) l_moved d_moved p_moved
  have b_moved := F_moved.binds (ps := ["tree", "block", "place"]) fun _ _ _ _ _ _ us hl => match us, hl with | [_, _, _], _ => rfl
  have F_called := fun_mk (st := s_called) l_called d_called p_called
  have b_called := F_called.binds (ps := ["tree", "order"]) fun _ _ _ _ _ _ us hl => match us, hl with | [_, _], _ => rfl
  have F_ties_down := fun_mk (st := s_ties_down) l_ties_down d_ties_down p_ties_down
  have b_ties_down := F_ties_down.binds (ps := ["hung", "place", "steps"]) fun _ _ _ _ _ _ us hl => match us, hl with | [_, _, _], _ => rfl
  have F_raw_telling := fun_mk (st := s_raw_telling) l_raw_telling d_raw_telling p_raw_telling
  have b_raw_telling := F_raw_telling.binds (ps := ["hung", "view", "place"]) fun _ _ _ _ _ _ us hl => match us, hl with | [_, _, _], _ => rfl
  have F_telling := fun_mk (st := s_telling) l_telling d_telling p_telling
  have b_telling := F_telling.binds (ps := ["tree", "view", "place"]) fun _ _ _ _ _ _ us hl => match us, hl with | [_, _, _], _ => rfl
  have F_raw_tellings := fun_mk (st := s_raw_tellings) l_raw_tellings d_raw_tellings p_raw_tellings
  have b_raw_tellings := F_raw_tellings.binds (ps := ["hung", "view"]) fun _ _ _ _ _ _ us hl => match us, hl with | [_, _], _ => rfl
  have F_unlike := fun_mk (st := s_unlike) l_unlike d_unlike p_unlike
  have b_unlike := F_unlike.binds (ps := ["tree", "other", "view"]) fun _ _ _ _ _ _ us hl => match us, hl with | [_, _, _], _ => rfl
  have F_l_pool := fun_mk (st := s_l_pool) l_l_pool d_l_pool p_l_pool
  have b_l_pool := F_l_pool.binds (ps := ["_law_script"]) fun _ _ _ _ _ _ us hl => match us, hl with | [_], _ => rfl
  have F_l_draw := fun_mk (st := s_l_draw) l_l_draw d_l_draw p_l_draw
  have b_l_draw := F_l_draw.binds (ps := ["_law_pool_here", "_law_many_here"]) fun _ _ _ _ _ _ us hl => match us, hl with | [_, _], _ => rfl
  have F_l_is := fun_mk (st := s_l_is) l_l_is d_l_is p_l_is
  have b_l_is := F_l_is.binds (ps := ["_law_told", "_law_due"]) fun _ _ _ _ _ _ us hl => match us, hl with | [_, _], _ => rfl
  have F_l_mixed := fun_mk (st := s_l_mixed) l_l_mixed d_l_mixed p_l_mixed
  have b_l_mixed := F_l_mixed.binds (ps := ["_law_pool_here", "_law_many_here"]) fun _ _ _ _ _ _ us hl => match us, hl with | [_, _], _ => rfl
  have F_l_hung := fun_mk (st := s_l_hung) l_l_hung d_l_hung p_l_hung
  have b_l_hung := F_l_hung.binds (ps := ["_law_pool_here", "_law_many_here"]) fun _ _ _ _ _ _ us hl => match us, hl with | [_, _], _ => rfl
  have F_l_many := fun_mk (st := s_l_many) l_l_many d_l_many p_l_many
  have b_l_many := F_l_many.binds (ps := ["_law_pool_here"]) fun _ _ _ _ _ _ us hl => match us, hl with | [_], _ => rfl
  have F_l_way := fun_mk (st := s_l_way) l_l_way d_l_way p_l_way
  have b_l_way := F_l_way.binds (ps := ["_law_hung_here", "_law_place"]) fun _ _ _ _ _ _ us hl => match us, hl with | [_, _], _ => rfl
  have F_l_tellings := fun_mk (st := s_l_tellings) l_l_tellings d_l_tellings p_l_tellings
  have b_l_tellings := F_l_tellings.binds (ps := ["_law_hung_here", "_law_view_here"]) fun _ _ _ _ _ _ us hl => match us, hl with | [_, _], _ => rfl
  have F_l_view := fun_mk (st := s_l_view) l_l_view d_l_view p_l_view
  have b_l_view := F_l_view.binds (ps := ["_law_pool_here"]) fun _ _ _ _ _ _ us hl => match us, hl with | [_], _ => rfl
  have F_l_unlike := fun_mk (st := s_l_unlike) l_l_unlike d_l_unlike p_l_unlike
  have b_l_unlike := F_l_unlike.binds (ps := ["_law_one", "_law_other", "_law_view_here"]) fun _ _ _ _ _ _ us hl => match us, hl with | [_, _, _], _ => rfl
  have F_l_move_seen := fun_mk (st := s_l_move_seen) l_l_move_seen d_l_move_seen p_l_move_seen
  have b_l_move_seen := F_l_move_seen.binds (ps := ["_law_tree", "_law_later", "_law_view_here", "_law_block", "_law_place"]) fun _ _ _ _ _ _ us hl => match us, hl with | [_, _, _, _, _], _ => rfl
  have F_l_named_right := fun_mk (st := s_l_named_right) l_l_named_right d_l_named_right p_l_named_right
  have b_l_named_right := F_l_named_right.binds (ps := ["_law_pool_here", "_law_tree", "_law_other", "_law_view_here", "_law_due"]) fun _ _ _ _ _ _ us hl => match us, hl with | [_, _, _, _, _], _ => rfl
  have F_law := fun_mk (st := s_law) l_law d_law p_law
  have b_law := F_law.binds (ps := ["_law_script"]) fun _ _ _ _ _ _ us hl => match us, hl with | [_], _ => rfl
  have o_Tree : OwnC K C_Tree := ⟨⟨⟨pg_Tree, hd_Tree, po_Tree, sa_Tree⟩, ha_Tree, hn_Tree, ht_Tree, hm_Tree, me_Tree⟩, fun s hs => by
    rcases hs with rfl | rfl | rfl | rfl | rfl | rfl | rfl
    · exact ⟨ktNoneType_Tree, ntNoneType_Tree⟩
    · exact ⟨ktbool_Tree, ntbool_Tree⟩
    · exact ⟨ktint_Tree, ntint_Tree⟩
    · exact ⟨ktstr_Tree, ntstr_Tree⟩
    · exact ⟨ktlist_Tree, ntlist_Tree⟩
    · exact ⟨kttuple_Tree, nttuple_Tree⟩
    · exact ⟨ktdict_Tree, ntdict_Tree⟩⟩
  let T : Txt K mg := {
    z_abs := PySem.W.mg_none_of X G z_abs
    z_all := PySem.W.mg_none_of X G z_all
    z_bool := PySem.W.mg_none_of X G z_bool
    z_dict := PySem.W.mg_none_of X G z_dict
    z_int := PySem.W.mg_none_of X G z_int
    z_isinstance := PySem.W.mg_none_of X G z_isinstance
    z_len := PySem.W.mg_none_of X G z_len
    z_list := PySem.W.mg_none_of X G z_list
    z_min := PySem.W.mg_none_of X G z_min
    z_range := PySem.W.mg_none_of X G z_range
    z_sorted := PySem.W.mg_none_of X G z_sorted
    z_tuple := PySem.W.mg_none_of X G z_tuple
    k_HEAD := k_HEAD
    c_HEAD := PySem.W.mg_of X G c_HEAD
    k_MOST_BLOCKS := k_MOST_BLOCKS
    c_MOST_BLOCKS := PySem.W.mg_of X G c_MOST_BLOCKS
    k_MOST_STEPS := k_MOST_STEPS
    c_MOST_STEPS := PySem.W.mg_of X G c_MOST_STEPS
    C_Tree := C_Tree
    g_Tree := PySem.W.mg_of X G a_Tree
    C_BadTree := C_BadTree
    g_BadTree := PySem.W.mg_of X G a_BadTree
    C_NoBlock := C_NoBlock
    g_NoBlock := PySem.W.mg_of X G a_NoBlock
    C_NoPlace := C_NoPlace
    g_NoPlace := PySem.W.mg_of X G a_NoPlace
    C_Beneath := C_Beneath
    g_Beneath := PySem.W.mg_of X G a_Beneath
    C_NoOrder := C_NoOrder
    g_NoOrder := PySem.W.mg_of X G a_NoOrder
    C_NoView := C_NoView
    g_NoView := PySem.W.mg_of X G a_NoView
    C_OtherBlocks := C_OtherBlocks
    g_OtherBlocks := PySem.W.mg_of X G a_OtherBlocks
    f_BadTree_init := f_BadTree_init
    fd_BadTree_init := PySem.W.fnOf "__init__" "BadTree.__init__" (defArgs s_BadTree_init) (defBody s_BadTree_init) (defScope s_BadTree_init) .none kV_BadTree_init dc_BadTree_init pm_BadTree_init an_BadTree_init cd_BadTree_init ct_BadTree_init
    F_BadTree_init := F_BadTree_init
    b_BadTree_init := b_BadTree_init
    f_is_integer := f_is_integer
    fd_is_integer := PySem.W.fnOf "is_integer" "is_integer" (defArgs s_is_integer) (defBody s_is_integer) (defScope s_is_integer) .none kV_is_integer dc_is_integer pm_is_integer an_is_integer cd_is_integer ct_is_integer
    F_is_integer := F_is_integer
    b_is_integer := b_is_integer
    g_is_integer := PySem.W.mg_of X G a_is_integer
    f_is_within := f_is_within
    fd_is_within := PySem.W.fnOf "is_within" "is_within" (defArgs s_is_within) (defBody s_is_within) (defScope s_is_within) .none kV_is_within dc_is_within pm_is_within an_is_within cd_is_within ct_is_within
    F_is_within := F_is_within
    b_is_within := b_is_within
    g_is_within := PySem.W.mg_of X G a_is_within
    f_is_pair := f_is_pair
    fd_is_pair := PySem.W.fnOf "is_pair" "is_pair" (defArgs s_is_pair) (defBody s_is_pair) (defScope s_is_pair) .none kV_is_pair dc_is_pair pm_is_pair an_is_pair cd_is_pair ct_is_pair
    F_is_pair := F_is_pair
    b_is_pair := b_is_pair
    g_is_pair := PySem.W.mg_of X G a_is_pair
    f_is_view := f_is_view
    fd_is_view := PySem.W.fnOf "is_view" "is_view" (defArgs s_is_view) (defBody s_is_view) (defScope s_is_view) .none kV_is_view dc_is_view pm_is_view an_is_view cd_is_view ct_is_view
    F_is_view := F_is_view
    b_is_view := b_is_view
    g_is_view := PySem.W.mg_of X G a_is_view
    f_check_block := f_check_block
    fd_check_block := PySem.W.fnOf "check_block" "check_block" (defArgs s_check_block) (defBody s_check_block) (defScope s_check_block) .none kV_check_block dc_check_block pm_check_block an_check_block cd_check_block ct_check_block
    F_check_block := F_check_block
    b_check_block := b_check_block
    g_check_block := PySem.W.mg_of X G a_check_block
    f_check_place := f_check_place
    fd_check_place := PySem.W.fnOf "check_place" "check_place" (defArgs s_check_place) (defBody s_check_place) (defScope s_check_place) .none kV_check_place dc_check_place pm_check_place an_check_place cd_check_place ct_check_place
    F_check_place := F_check_place
    b_check_place := b_check_place
    g_check_place := PySem.W.mg_of X G a_check_place
    f_check_view := f_check_view
    fd_check_view := PySem.W.fnOf "check_view" "check_view" (defArgs s_check_view) (defBody s_check_view) (defScope s_check_view) .none kV_check_view dc_check_view pm_check_view an_check_view cd_check_view ct_check_view
    F_check_view := F_check_view
    b_check_view := b_check_view
    g_check_view := PySem.W.mg_of X G a_check_view
    f_leads_home := f_leads_home
    fd_leads_home := PySem.W.fnOf "leads_home" "leads_home" (defArgs s_leads_home) (defBody s_leads_home) (defScope s_leads_home) .none kV_leads_home dc_leads_home pm_leads_home an_leads_home cd_leads_home ct_leads_home
    F_leads_home := F_leads_home
    b_leads_home := b_leads_home
    g_leads_home := PySem.W.mg_of X G a_leads_home
    f_Tree_init := f_Tree_init
    fd_Tree_init := PySem.W.fnOf "__init__" "Tree.__init__" (defArgs s_Tree_init) (defBody s_Tree_init) (defScope s_Tree_init) .none kV_Tree_init dc_Tree_init pm_Tree_init an_Tree_init cd_Tree_init ct_Tree_init
    F_Tree_init := F_Tree_init
    b_Tree_init := b_Tree_init
    f_parents_in := f_parents_in
    fd_parents_in := PySem.W.fnOf "parents_in" "parents_in" (defArgs s_parents_in) (defBody s_parents_in) (defScope s_parents_in) .none kV_parents_in dc_parents_in pm_parents_in an_parents_in cd_parents_in ct_parents_in
    F_parents_in := F_parents_in
    b_parents_in := b_parents_in
    g_parents_in := PySem.W.mg_of X G a_parents_in
    f_hanging := f_hanging
    fd_hanging := PySem.W.fnOf "hanging" "hanging" (defArgs s_hanging) (defBody s_hanging) (defScope s_hanging) .none kV_hanging dc_hanging pm_hanging an_hanging cd_hanging ct_hanging
    F_hanging := F_hanging
    b_hanging := b_hanging
    g_hanging := PySem.W.mg_of X G a_hanging
    f_beneath_in := f_beneath_in
    fd_beneath_in := PySem.W.fnOf "beneath_in" "beneath_in" (defArgs s_beneath_in) (defBody s_beneath_in) (defScope s_beneath_in) .none kV_beneath_in dc_beneath_in pm_beneath_in an_beneath_in cd_beneath_in ct_beneath_in
    F_beneath_in := F_beneath_in
    b_beneath_in := b_beneath_in
    g_beneath_in := PySem.W.mg_of X G a_beneath_in
    f_with_place := f_with_place
    fd_with_place := PySem.W.fnOf "with_place" "with_place" (defArgs s_with_place) (defBody s_with_place) (defScope s_with_place) .none kV_with_place dc_with_place pm_with_place an_with_place cd_with_place ct_with_place
    F_with_place := F_with_place
    b_with_place := b_with_place
    g_with_place := PySem.W.mg_of X G a_with_place
    f_moved := f_moved
    fd_moved := PySem.W.fnOf "moved" "moved" (defArgs s_moved) (defBody s_moved) (defScope s_moved) .none kV_moved dc_moved pm_moved an_moved cd_moved ct_moved
    F_moved := F_moved
    b_moved := b_moved
    g_moved := PySem.W.mg_of X G a_moved
    f_called := f_called
    fd_called := PySem.W.fnOf "called" "called" (defArgs s_called) (defBody s_called) (defScope s_called) .none kV_called dc_called pm_called an_called cd_called ct_called
    F_called := F_called
    b_called := b_called
    g_called := PySem.W.mg_of X G a_called
    f_ties_down := f_ties_down
    fd_ties_down := PySem.W.fnOf "ties_down" "ties_down" (defArgs s_ties_down) (defBody s_ties_down) (defScope s_ties_down) .none kV_ties_down dc_ties_down pm_ties_down an_ties_down cd_ties_down ct_ties_down
    F_ties_down := F_ties_down
    b_ties_down := b_ties_down
    g_ties_down := PySem.W.mg_of X G a_ties_down
    f_raw_telling := f_raw_telling
    fd_raw_telling := PySem.W.fnOf "raw_telling" "raw_telling" (defArgs s_raw_telling) (defBody s_raw_telling) (defScope s_raw_telling) .none kV_raw_telling dc_raw_telling pm_raw_telling an_raw_telling cd_raw_telling ct_raw_telling
    F_raw_telling := F_raw_telling
    b_raw_telling := b_raw_telling
    g_raw_telling := PySem.W.mg_of X G a_raw_telling
    f_telling := f_telling
    fd_telling := PySem.W.fnOf "telling" "telling" (defArgs s_telling) (defBody s_telling) (defScope s_telling) .none kV_telling dc_telling pm_telling an_telling cd_telling ct_telling
    F_telling := F_telling
    b_telling := b_telling
    g_telling := PySem.W.mg_of X G a_telling
    f_raw_tellings := f_raw_tellings
    fd_raw_tellings := PySem.W.fnOf "raw_tellings" "raw_tellings" (defArgs s_raw_tellings) (defBody s_raw_tellings) (defScope s_raw_tellings) .none kV_raw_tellings dc_raw_tellings pm_raw_tellings an_raw_tellings cd_raw_tellings ct_raw_tellings
    F_raw_tellings := F_raw_tellings
    b_raw_tellings := b_raw_tellings
    g_raw_tellings := PySem.W.mg_of X G a_raw_tellings
    f_unlike := f_unlike
    fd_unlike := PySem.W.fnOf "unlike" "unlike" (defArgs s_unlike) (defBody s_unlike) (defScope s_unlike) .none kV_unlike dc_unlike pm_unlike an_unlike cd_unlike ct_unlike
    F_unlike := F_unlike
    b_unlike := b_unlike
    g_unlike := PySem.W.mg_of X G a_unlike
    f_l_pool := f_l_pool
    fd_l_pool := PySem.W.fnOf "_law_pool" "_law_pool" (defArgs s_l_pool) (defBody s_l_pool) (defScope s_l_pool) .none kV_l_pool dc_l_pool pm_l_pool an_l_pool cd_l_pool ct_l_pool
    F_l_pool := F_l_pool
    b_l_pool := b_l_pool
    g_l_pool := PySem.W.mg_of X G a_l_pool
    f_l_draw := f_l_draw
    fd_l_draw := PySem.W.fnOf "_law_draw" "_law_draw" (defArgs s_l_draw) (defBody s_l_draw) (defScope s_l_draw) .none kV_l_draw dc_l_draw pm_l_draw an_l_draw cd_l_draw ct_l_draw
    F_l_draw := F_l_draw
    b_l_draw := b_l_draw
    g_l_draw := PySem.W.mg_of X G a_l_draw
    f_l_is := f_l_is
    fd_l_is := PySem.W.fnOf "_law_is" "_law_is" (defArgs s_l_is) (defBody s_l_is) (defScope s_l_is) .none kV_l_is dc_l_is pm_l_is an_l_is cd_l_is ct_l_is
    F_l_is := F_l_is
    b_l_is := b_l_is
    g_l_is := PySem.W.mg_of X G a_l_is
    f_l_mixed := f_l_mixed
    fd_l_mixed := PySem.W.fnOf "_law_mixed" "_law_mixed" (defArgs s_l_mixed) (defBody s_l_mixed) (defScope s_l_mixed) .none kV_l_mixed dc_l_mixed pm_l_mixed an_l_mixed cd_l_mixed ct_l_mixed
    F_l_mixed := F_l_mixed
    b_l_mixed := b_l_mixed
    g_l_mixed := PySem.W.mg_of X G a_l_mixed
    f_l_hung := f_l_hung
    fd_l_hung := PySem.W.fnOf "_law_hung" "_law_hung" (defArgs s_l_hung) (defBody s_l_hung) (defScope s_l_hung) .none kV_l_hung dc_l_hung pm_l_hung an_l_hung cd_l_hung ct_l_hung
    F_l_hung := F_l_hung
    b_l_hung := b_l_hung
    g_l_hung := PySem.W.mg_of X G a_l_hung
    f_l_many := f_l_many
    fd_l_many := PySem.W.fnOf "_law_many" "_law_many" (defArgs s_l_many) (defBody s_l_many) (defScope s_l_many) .none kV_l_many dc_l_many pm_l_many an_l_many cd_l_many ct_l_many
    F_l_many := F_l_many
    b_l_many := b_l_many
    g_l_many := PySem.W.mg_of X G a_l_many
    f_l_way := f_l_way
    fd_l_way := PySem.W.fnOf "_law_way" "_law_way" (defArgs s_l_way) (defBody s_l_way) (defScope s_l_way) .none kV_l_way dc_l_way pm_l_way an_l_way cd_l_way ct_l_way
    F_l_way := F_l_way
    b_l_way := b_l_way
    g_l_way := PySem.W.mg_of X G a_l_way
    f_l_tellings := f_l_tellings
    fd_l_tellings := PySem.W.fnOf "_law_tellings" "_law_tellings" (defArgs s_l_tellings) (defBody s_l_tellings) (defScope s_l_tellings) .none kV_l_tellings dc_l_tellings pm_l_tellings an_l_tellings cd_l_tellings ct_l_tellings
    F_l_tellings := F_l_tellings
    b_l_tellings := b_l_tellings
    g_l_tellings := PySem.W.mg_of X G a_l_tellings
    f_l_view := f_l_view
    fd_l_view := PySem.W.fnOf "_law_view" "_law_view" (defArgs s_l_view) (defBody s_l_view) (defScope s_l_view) .none kV_l_view dc_l_view pm_l_view an_l_view cd_l_view ct_l_view
    F_l_view := F_l_view
    b_l_view := b_l_view
    g_l_view := PySem.W.mg_of X G a_l_view
    f_l_unlike := f_l_unlike
    fd_l_unlike := PySem.W.fnOf "_law_unlike" "_law_unlike" (defArgs s_l_unlike) (defBody s_l_unlike) (defScope s_l_unlike) .none kV_l_unlike dc_l_unlike pm_l_unlike an_l_unlike cd_l_unlike ct_l_unlike
    F_l_unlike := F_l_unlike
    b_l_unlike := b_l_unlike
    g_l_unlike := PySem.W.mg_of X G a_l_unlike
    f_l_move_seen := f_l_move_seen
    fd_l_move_seen := PySem.W.fnOf "_law_move_seen" "_law_move_seen" (defArgs s_l_move_seen) (defBody s_l_move_seen) (defScope s_l_move_seen) .none kV_l_move_seen dc_l_move_seen pm_l_move_seen an_l_move_seen cd_l_move_seen ct_l_move_seen
    F_l_move_seen := F_l_move_seen
    b_l_move_seen := b_l_move_seen
    g_l_move_seen := PySem.W.mg_of X G a_l_move_seen
    f_l_named_right := f_l_named_right
    fd_l_named_right := PySem.W.fnOf "_law_named_right" "_law_named_right" (defArgs s_l_named_right) (defBody s_l_named_right) (defScope s_l_named_right) .none kV_l_named_right dc_l_named_right pm_l_named_right an_l_named_right cd_l_named_right ct_l_named_right
    F_l_named_right := F_l_named_right
    b_l_named_right := b_l_named_right
    g_l_named_right := PySem.W.mg_of X G a_l_named_right
    f_law := fa
    fd_law := PySem.W.fnOf "law" "law" (defArgs s_law) (defBody s_law) (defScope s_law) .none kV_law dc_law pm_law an_law cd_law ct_law
    F_law := F_law
    b_law := b_law
    g_law := PySem.W.mg_of X G a_law
    M_Tree := ⟨mk_Tree, a_Tree_init, if_Tree, kc_Tree⟩
    o_Tree := o_Tree
    nf_Tree_hung := nf_Tree_hung
    xc_BadTree := ⟨ic_BadTree, ga_BadTree, gt_BadTree, be_BadTree, hd_BadTree, ha_BadTree, hn_BadTree, ht_BadTree, hm_BadTree⟩
    te_BadTree := PySem.W.exm_ref be_BadTree hd_BadTree ty_BadTree ss_BadTree
    X_BadTree := ⟨⟨_, _, _, _, _, _, _, _, _, _, _, _, _, _, _, xL_BadTree, by rfl⟩, sa_BadTree, be_BadTree, ty_BadTree, kc_BadTree⟩
    i_BadTree := a_BadTree_init
    ti_BadTree := ti_BadTree
    nf_BadTree_part := nf_BadTree_part
    xc_NoBlock := ⟨ic_NoBlock, ga_NoBlock, gt_NoBlock, be_NoBlock, hd_NoBlock, ha_NoBlock, hn_NoBlock, ht_NoBlock, hm_NoBlock⟩
    te_NoBlock := PySem.W.exm_ref be_NoBlock hd_NoBlock ty_NoBlock ss_NoBlock
    X_NoBlock := ⟨⟨_, _, _, _, _, _, _, _, _, _, _, _, _, _, _, xL_NoBlock, by rfl⟩, sa_NoBlock, be_NoBlock, ty_NoBlock, kc_NoBlock⟩
    x0_NoBlock := x0_NoBlock
    xc_NoPlace := ⟨ic_NoPlace, ga_NoPlace, gt_NoPlace, be_NoPlace, hd_NoPlace, ha_NoPlace, hn_NoPlace, ht_NoPlace, hm_NoPlace⟩
    te_NoPlace := PySem.W.exm_ref be_NoPlace hd_NoPlace ty_NoPlace ss_NoPlace
    X_NoPlace := ⟨⟨_, _, _, _, _, _, _, _, _, _, _, _, _, _, _, xL_NoPlace, by rfl⟩, sa_NoPlace, be_NoPlace, ty_NoPlace, kc_NoPlace⟩
    x0_NoPlace := x0_NoPlace
    xc_Beneath := ⟨ic_Beneath, ga_Beneath, gt_Beneath, be_Beneath, hd_Beneath, ha_Beneath, hn_Beneath, ht_Beneath, hm_Beneath⟩
    te_Beneath := PySem.W.exm_ref be_Beneath hd_Beneath ty_Beneath ss_Beneath
    X_Beneath := ⟨⟨_, _, _, _, _, _, _, _, _, _, _, _, _, _, _, xL_Beneath, by rfl⟩, sa_Beneath, be_Beneath, ty_Beneath, kc_Beneath⟩
    x0_Beneath := x0_Beneath
    xc_NoOrder := ⟨ic_NoOrder, ga_NoOrder, gt_NoOrder, be_NoOrder, hd_NoOrder, ha_NoOrder, hn_NoOrder, ht_NoOrder, hm_NoOrder⟩
    te_NoOrder := PySem.W.exm_ref be_NoOrder hd_NoOrder ty_NoOrder ss_NoOrder
    X_NoOrder := ⟨⟨_, _, _, _, _, _, _, _, _, _, _, _, _, _, _, xL_NoOrder, by rfl⟩, sa_NoOrder, be_NoOrder, ty_NoOrder, kc_NoOrder⟩
    x0_NoOrder := x0_NoOrder
    xc_NoView := ⟨ic_NoView, ga_NoView, gt_NoView, be_NoView, hd_NoView, ha_NoView, hn_NoView, ht_NoView, hm_NoView⟩
    te_NoView := PySem.W.exm_ref be_NoView hd_NoView ty_NoView ss_NoView
    X_NoView := ⟨⟨_, _, _, _, _, _, _, _, _, _, _, _, _, _, _, xL_NoView, by rfl⟩, sa_NoView, be_NoView, ty_NoView, kc_NoView⟩
    x0_NoView := x0_NoView
    xc_OtherBlocks := ⟨ic_OtherBlocks, ga_OtherBlocks, gt_OtherBlocks, be_OtherBlocks, hd_OtherBlocks, ha_OtherBlocks, hn_OtherBlocks, ht_OtherBlocks, hm_OtherBlocks⟩
    te_OtherBlocks := PySem.W.exm_ref be_OtherBlocks hd_OtherBlocks ty_OtherBlocks ss_OtherBlocks
    X_OtherBlocks := ⟨⟨_, _, _, _, _, _, _, _, _, _, _, _, _, _, _, xL_OtherBlocks, by rfl⟩, sa_OtherBlocks, be_OtherBlocks, ty_OtherBlocks, kc_OtherBlocks⟩
    x0_OtherBlocks := x0_OtherBlocks
  }
  refine ⟨PySem.W.fnOf "law" "law" (defArgs s_law) (defBody s_law) (defScope s_law) .none kV_law dc_law pm_law an_law cd_law ct_law, fun s v => .of_eq rfl, fun base _ _ => ?_⟩
  have G_BadTree_init := ok_BadTree_init (P := l.prog) (w := w) (base := base) T 
  have G_is_integer := ok_is_integer (P := l.prog) (w := w) (base := base) T 
  have G_is_within := ok_is_within (P := l.prog) (w := w) (base := base) T G_is_integer
  have G_is_pair := ok_is_pair (P := l.prog) (w := w) (base := base) T 
  have G_is_view := ok_is_view (P := l.prog) (w := w) (base := base) T G_is_pair G_is_within
  have G_check_block := ok_check_block (P := l.prog) (w := w) (base := base) T G_is_within
  have G_check_place := ok_check_place (P := l.prog) (w := w) (base := base) T G_is_within
  have G_check_view := ok_check_view (P := l.prog) (w := w) (base := base) T G_is_view
  have G_leads_home := ok_leads_home (P := l.prog) (w := w) (base := base) T 
  have G_Tree_init := ok_Tree_init (P := l.prog) (w := w) (base := base) T G_BadTree_init G_is_within G_leads_home
  have G_parents_in := ok_parents_in (P := l.prog) (w := w) (base := base) T 
  have G_hanging := ok_hanging (P := l.prog) (w := w) (base := base) T 
  have G_beneath_in := ok_beneath_in (P := l.prog) (w := w) (base := base) T G_hanging
  have G_with_place := ok_with_place (P := l.prog) (w := w) (base := base) T 
  have G_moved := ok_moved (P := l.prog) (w := w) (base := base) T G_Tree_init G_beneath_in G_check_block G_check_place G_with_place
  have G_called := ok_called (P := l.prog) (w := w) (base := base) T G_Tree_init G_is_within
  have G_ties_down := ok_ties_down (P := l.prog) (w := w) (base := base) T G_hanging
  have G_raw_telling := ok_raw_telling (P := l.prog) (w := w) (base := base) T G_parents_in G_ties_down
  have G_telling := ok_telling (P := l.prog) (w := w) (base := base) T G_check_place G_check_view G_raw_telling
  have G_raw_tellings := ok_raw_tellings (P := l.prog) (w := w) (base := base) T G_raw_telling
  have G_unlike := ok_unlike (P := l.prog) (w := w) (base := base) T G_check_view G_raw_tellings
  have G_l_pool := ok_l_pool (P := l.prog) (w := w) (base := base) T 
  have G_l_draw := ok_l_draw (P := l.prog) (w := w) (base := base) T 
  have Gis : ∀ d, FnOk l.prog w K mg base CX0 d T.f_l_is T.fd_l_is ["_law_told", "_law_due"] (spIsN d) := fun d => by
    induction d with
    | zero => exact ⟨fun _ _ _ _ h => h.elim, fun _ _ _ _ _ _ _ _ _ _ _ _ _ h => h.elim⟩
    | succ d ih => exact ok_l_is T d ih
  have G_l_mixed := ok_l_mixed (P := l.prog) (w := w) (base := base) T G_l_draw
  have G_l_hung := ok_l_hung (P := l.prog) (w := w) (base := base) T G_l_draw G_l_mixed
  have G_l_many := ok_l_many (P := l.prog) (w := w) (base := base) T G_l_draw
  have G_l_way := ok_l_way (P := l.prog) (w := w) (base := base) T 
  have G_l_tellings := ok_l_tellings (P := l.prog) (w := w) (base := base) T G_l_way
  have G_l_view := ok_l_view (P := l.prog) (w := w) (base := base) T G_l_draw
  have G_l_unlike := ok_l_unlike (P := l.prog) (w := w) (base := base) T G_l_tellings
  have G_l_move_seen := ok_l_move_seen (P := l.prog) (w := w) (base := base) T G_unlike
  have G_l_named_right := ok_l_named_right (P := l.prog) (w := w) (base := base) T G_l_mixed G_called G_unlike
  exact ok_law (P := l.prog) (w := w) (base := base) T G_Tree_init G_l_draw G_l_hung (Gis 4) G_l_many G_l_move_seen G_l_named_right G_l_pool G_l_tellings G_l_unlike G_l_view G_l_way G_moved G_telling G_unlike
end Fv
open PySem PySem.W PyProof.Rows
set_option maxHeartbeats 0 in
theorem PySem.Challenge.cw_foldervotes_k03_whole_tellings_by_own_wa_holds : PySem.Challenge.rw_foldervotes_k03_whole_tellings_by_own_wa.Holds := by
  w_on; o_law; k_head; (case hw => w_witness2)
  k_fill
  refine L2.walk_of (l := PySem.Challenge.rw_foldervotes_k03_whole_tellings_by_own_wa) (n := 63) (k := 7) (x := "_law_script") (CX := fun _ => L2.CX0) (sp := fun w => Fv.spLaw _) rfl (by decide) rfl ⟨rfl, by decide, by decide⟩ (fun w h Y => PySem.W.kIn_of Y) ?F (fun _ _ a ns hl _ hS => ⟨a, ns, rfl, hS, hl, fun _ => rfl⟩) (fun _ _ _ _ _ h => h)
  case F =>
    intro w mg fa h KX G hmg
    refine' Fv.all_mk KX G hmg ?z_abs ?z_all ?z_bool ?z_dict ?z_int ?z_isinstance ?z_len ?z_list ?z_min ?z_range ?z_sorted ?z_tuple ?c_HEAD ?c_MOST_BLOCKS ?c_MOST_STEPS ?a_Tree ?a_BadTree ?a_NoBlock ?a_NoPlace ?a_Beneath ?a_NoOrder ?a_NoView ?a_OtherBlocks ?a_BadTree_init ?l_BadTree_init ?d_BadTree_init ?p_BadTree_init ?a_is_integer ?l_is_integer ?d_is_integer ?p_is_integer ?a_is_within ?l_is_within ?d_is_within ?p_is_within ?a_is_pair ?l_is_pair ?d_is_pair ?p_is_pair ?a_is_view ?l_is_view ?d_is_view ?p_is_view ?a_check_block ?l_check_block ?d_check_block ?p_check_block ?a_check_place ?l_check_place ?d_check_place ?p_check_place ?a_check_view ?l_check_view ?d_check_view ?p_check_view ?a_leads_home ?l_leads_home ?d_leads_home ?p_leads_home ?a_Tree_init ?l_Tree_init ?d_Tree_init ?p_Tree_init ?a_parents_in ?l_parents_in ?d_parents_in ?p_parents_in ?a_hanging ?l_hanging ?d_hanging ?p_hanging ?a_beneath_in ?l_beneath_in ?d_beneath_in ?p_beneath_in ?a_with_place ?l_with_place ?d_with_place ?p_with_place ?a_moved ?l_moved ?d_moved ?p_moved ?a_called ?l_called ?d_called ?p_called ?a_ties_down ?l_ties_down ?d_ties_down ?p_ties_down ?a_raw_telling ?l_raw_telling ?d_raw_telling ?p_raw_telling ?a_telling ?l_telling ?d_telling ?p_telling ?a_raw_tellings ?l_raw_tellings ?d_raw_tellings ?p_raw_tellings ?a_unlike ?l_unlike ?d_unlike ?p_unlike ?a_l_pool ?l_l_pool ?d_l_pool ?p_l_pool ?a_l_draw ?l_l_draw ?d_l_draw ?p_l_draw ?a_l_is ?l_l_is ?d_l_is ?p_l_is ?a_l_mixed ?l_l_mixed ?d_l_mixed ?p_l_mixed ?a_l_hung ?l_l_hung ?d_l_hung ?p_l_hung ?a_l_many ?l_l_many ?d_l_many ?p_l_many ?a_l_way ?l_l_way ?d_l_way ?p_l_way ?a_l_tellings ?l_l_tellings ?d_l_tellings ?p_l_tellings ?a_l_view ?l_l_view ?d_l_view ?p_l_view ?a_l_unlike ?l_l_unlike ?d_l_unlike ?p_l_unlike ?a_l_move_seen ?l_l_move_seen ?d_l_move_seen ?p_l_move_seen ?a_l_named_right ?l_l_named_right ?d_l_named_right ?p_l_named_right ?a_law ?l_law ?d_law ?p_law ?pg_Tree ?hd_Tree ?po_Tree ?sa_Tree ?mk_Tree ?kc_Tree ?ha_Tree ?hn_Tree ?ht_Tree ?hm_Tree ?me_Tree ?ktNoneType_Tree ?ntNoneType_Tree ?ktbool_Tree ?ntbool_Tree ?ktint_Tree ?ntint_Tree ?ktstr_Tree ?ntstr_Tree ?ktlist_Tree ?ntlist_Tree ?kttuple_Tree ?nttuple_Tree ?ktdict_Tree ?ntdict_Tree ?if_Tree ?nf_Tree_hung ?sa_BadTree ?be_BadTree ?ty_BadTree ?kc_BadTree ?ic_BadTree ?ss_BadTree ?ga_BadTree ?gt_BadTree ?hd_BadTree ?ha_BadTree ?hn_BadTree ?ht_BadTree ?hm_BadTree ?xL_BadTree ?ti_BadTree ?nf_BadTree_part ?sa_NoBlock ?be_NoBlock ?ty_NoBlock ?kc_NoBlock ?ic_NoBlock ?ss_NoBlock ?ga_NoBlock ?gt_NoBlock ?hd_NoBlock ?ha_NoBlock ?hn_NoBlock ?ht_NoBlock ?hm_NoBlock ?xL_NoBlock ?x0_NoBlock ?sa_NoPlace ?be_NoPlace ?ty_NoPlace ?kc_NoPlace ?ic_NoPlace ?ss_NoPlace ?ga_NoPlace ?gt_NoPlace ?hd_NoPlace ?ha_NoPlace ?hn_NoPlace ?ht_NoPlace ?hm_NoPlace ?xL_NoPlace ?x0_NoPlace ?sa_Beneath ?be_Beneath ?ty_Beneath ?kc_Beneath ?ic_Beneath ?ss_Beneath ?ga_Beneath ?gt_Beneath ?hd_Beneath ?ha_Beneath ?hn_Beneath ?ht_Beneath ?hm_Beneath ?xL_Beneath ?x0_Beneath ?sa_NoOrder ?be_NoOrder ?ty_NoOrder ?kc_NoOrder ?ic_NoOrder ?ss_NoOrder ?ga_NoOrder ?gt_NoOrder ?hd_NoOrder ?ha_NoOrder ?hn_NoOrder ?ht_NoOrder ?hm_NoOrder ?xL_NoOrder ?x0_NoOrder ?sa_NoView ?be_NoView ?ty_NoView ?kc_NoView ?ic_NoView ?ss_NoView ?ga_NoView ?gt_NoView ?hd_NoView ?ha_NoView ?hn_NoView ?ht_NoView ?hm_NoView ?xL_NoView ?x0_NoView ?sa_OtherBlocks ?be_OtherBlocks ?ty_OtherBlocks ?kc_OtherBlocks ?ic_OtherBlocks ?ss_OtherBlocks ?ga_OtherBlocks ?gt_OtherBlocks ?hd_OtherBlocks ?ha_OtherBlocks ?hn_OtherBlocks ?ht_OtherBlocks ?hm_OtherBlocks ?xL_OtherBlocks ?x0_OtherBlocks
    (case z_abs => k_is)
    (case z_all => k_is)
    (case z_bool => k_is)
    (case z_dict => k_is)
    (case z_int => k_is)
    (case z_isinstance => k_is)
    (case z_len => k_is)
    (case z_list => k_is)
    (case z_min => k_is)
    (case z_range => k_is)
    (case z_sorted => k_is)
    (case z_tuple => k_is)
    (case c_HEAD => k_is)
    (case c_MOST_BLOCKS => k_is)
    (case c_MOST_STEPS => k_is)
    (case a_Tree => k_is)
    (case a_BadTree => k_is)
    (case a_NoBlock => k_is)
    (case a_NoPlace => k_is)
    (case a_Beneath => k_is)
    (case a_NoOrder => k_is)
    (case a_NoView => k_is)
    (case a_OtherBlocks => k_is)
    (case a_BadTree_init => k_is)
    (case l_BadTree_init => k_is)
    (case d_BadTree_init => k_is)
    (case p_BadTree_init => k_is)
    (case a_is_integer => k_is)
    (case l_is_integer => k_is)
    (case d_is_integer => k_is)
    (case p_is_integer => k_is)
    (case a_is_within => k_is)
    (case l_is_within => k_is)
    (case d_is_within => k_is)
    (case p_is_within => k_is)
    (case a_is_pair => k_is)
    (case l_is_pair => k_is)
    (case d_is_pair => k_is)
    (case p_is_pair => k_is)
    (case a_is_view => k_is)
    (case l_is_view => k_is)
    (case d_is_view => k_is)
    (case p_is_view => k_is)
    (case a_check_block => k_is)
    (case l_check_block => k_is)
    (case d_check_block => k_is)
    (case p_check_block => k_is)
    (case a_check_place => k_is)
    (case l_check_place => k_is)
    (case d_check_place => k_is)
    (case p_check_place => k_is)
    (case a_check_view => k_is)
    (case l_check_view => k_is)
    (case d_check_view => k_is)
    (case p_check_view => k_is)
    (case a_leads_home => k_is)
    (case l_leads_home => k_is)
    (case d_leads_home => k_is)
    (case p_leads_home => k_is)
    (case a_Tree_init => k_is)
    (case l_Tree_init => k_is)
    (case d_Tree_init => k_is)
    (case p_Tree_init => k_is)
    (case a_parents_in => k_is)
    (case l_parents_in => k_is)
    (case d_parents_in => k_is)
    (case p_parents_in => k_is)
    (case a_hanging => k_is)
    (case l_hanging => k_is)
    (case d_hanging => k_is)
    (case p_hanging => k_is)
    (case a_beneath_in => k_is)
    (case l_beneath_in => k_is)
    (case d_beneath_in => k_is)
    (case p_beneath_in => k_is)
    (case a_with_place => k_is)
    (case l_with_place => k_is)
    (case d_with_place => k_is)
    (case p_with_place => k_is)
    (case a_moved => k_is)
    (case l_moved => k_is)
    (case d_moved => k_is)
    (case p_moved => k_is)
    (case a_called => k_is)
    (case l_called => k_is)
    (case d_called => k_is)
    (case p_called => k_is)
    (case a_ties_down => k_is)
    (case l_ties_down => k_is)
    (case d_ties_down => k_is)
    (case p_ties_down => k_is)
    (case a_raw_telling => k_is)
    (case l_raw_telling => k_is)
    (case d_raw_telling => k_is)
    (case p_raw_telling => k_is)
    (case a_telling => k_is)
    (case l_telling => k_is)
    (case d_telling => k_is)
    (case p_telling => k_is)
    (case a_raw_tellings => k_is)
    (case l_raw_tellings => k_is)
    (case d_raw_tellings => k_is)
    (case p_raw_tellings => k_is)
    (case a_unlike => k_is)
    (case l_unlike => k_is)
    (case d_unlike => k_is)
    (case p_unlike => k_is)
    (case a_l_pool => k_is)
    (case l_l_pool => k_is)
    (case d_l_pool => k_is)
    (case p_l_pool => k_is)
    (case a_l_draw => k_is)
    (case l_l_draw => k_is)
    (case d_l_draw => k_is)
    (case p_l_draw => k_is)
    (case a_l_is => k_is)
    (case l_l_is => k_is)
    (case d_l_is => k_is)
    (case p_l_is => k_is)
    (case a_l_mixed => k_is)
    (case l_l_mixed => k_is)
    (case d_l_mixed => k_is)
    (case p_l_mixed => k_is)
    (case a_l_hung => k_is)
    (case l_l_hung => k_is)
    (case d_l_hung => k_is)
    (case p_l_hung => k_is)
    (case a_l_many => k_is)
    (case l_l_many => k_is)
    (case d_l_many => k_is)
    (case p_l_many => k_is)
    (case a_l_way => k_is)
    (case l_l_way => k_is)
    (case d_l_way => k_is)
    (case p_l_way => k_is)
    (case a_l_tellings => k_is)
    (case l_l_tellings => k_is)
    (case d_l_tellings => k_is)
    (case p_l_tellings => k_is)
    (case a_l_view => k_is)
    (case l_l_view => k_is)
    (case d_l_view => k_is)
    (case p_l_view => k_is)
    (case a_l_unlike => k_is)
    (case l_l_unlike => k_is)
    (case d_l_unlike => k_is)
    (case p_l_unlike => k_is)
    (case a_l_move_seen => k_is)
    (case l_l_move_seen => k_is)
    (case d_l_move_seen => k_is)
    (case p_l_move_seen => k_is)
    (case a_l_named_right => k_is)
    (case l_l_named_right => k_is)
    (case d_l_named_right => k_is)
    (case p_l_named_right => k_is)
    (case a_law => k_is)
    (case l_law => k_is)
    (case d_law => k_is)
    (case p_law => k_is)
    (case pg_Tree => k_is)
    (case hd_Tree => k_is)
    (case po_Tree => k_is)
    (case sa_Tree => k_is)
    (case mk_Tree => k_is)
    (case kc_Tree => k_is)
    (case ha_Tree => k_is)
    (case hn_Tree => k_is)
    (case ht_Tree => k_is)
    (case hm_Tree => k_is)
    (case me_Tree => kit_is)
    (case ktNoneType_Tree => kit_is)
    (case ntNoneType_Tree => k_is)
    (case ktbool_Tree => kit_is)
    (case ntbool_Tree => k_is)
    (case ktint_Tree => kit_is)
    (case ntint_Tree => k_is)
    (case ktstr_Tree => kit_is)
    (case ntstr_Tree => k_is)
    (case ktlist_Tree => kit_is)
    (case ntlist_Tree => k_is)
    (case kttuple_Tree => kit_is)
    (case nttuple_Tree => k_is)
    (case ktdict_Tree => kit_is)
    (case ntdict_Tree => k_is)
    (case if_Tree => k_is)
    (case nf_Tree_hung => k_is)
    (case sa_BadTree => k_is)
    (case be_BadTree => k_is)
    (case ty_BadTree => k_is)
    (case kc_BadTree => k_is)
    (case ic_BadTree => k_is)
    (case ss_BadTree => first | rfl | k_is)
    (case ga_BadTree => k_is)
    (case gt_BadTree => k_is)
    (case hd_BadTree => k_is)
    (case ha_BadTree => k_is)
    (case hn_BadTree => k_is)
    (case ht_BadTree => k_is)
    (case hm_BadTree => k_is)
    (case xL_BadTree => k_is)
    (case ti_BadTree => k_is)
    (case nf_BadTree_part => k_is)
    (case sa_NoBlock => k_is)
    (case be_NoBlock => k_is)
    (case ty_NoBlock => k_is)
    (case kc_NoBlock => k_is)
    (case ic_NoBlock => k_is)
    (case ss_NoBlock => first | rfl | k_is)
    (case ga_NoBlock => k_is)
    (case gt_NoBlock => k_is)
    (case hd_NoBlock => k_is)
    (case ha_NoBlock => k_is)
    (case hn_NoBlock => k_is)
    (case ht_NoBlock => k_is)
    (case hm_NoBlock => k_is)
    (case xL_NoBlock => k_is)
    (case x0_NoBlock => k_exc)
    (case sa_NoPlace => k_is)
    (case be_NoPlace => k_is)
    (case ty_NoPlace => k_is)
    (case kc_NoPlace => k_is)
    (case ic_NoPlace => k_is)
    (case ss_NoPlace => first | rfl | k_is)
    (case ga_NoPlace => k_is)
    (case gt_NoPlace => k_is)
    (case hd_NoPlace => k_is)
    (case ha_NoPlace => k_is)
    (case hn_NoPlace => k_is)
    (case ht_NoPlace => k_is)
    (case hm_NoPlace => k_is)
    (case xL_NoPlace => k_is)
    (case x0_NoPlace => k_exc)
    (case sa_Beneath => k_is)
    (case be_Beneath => k_is)
    (case ty_Beneath => k_is)
    (case kc_Beneath => k_is)
    (case ic_Beneath => k_is)
    (case ss_Beneath => first | rfl | k_is)
    (case ga_Beneath => k_is)
    (case gt_Beneath => k_is)
    (case hd_Beneath => k_is)
    (case ha_Beneath => k_is)
    (case hn_Beneath => k_is)
    (case ht_Beneath => k_is)
    (case hm_Beneath => k_is)
    (case xL_Beneath => k_is)
    (case x0_Beneath => k_exc)
    (case sa_NoOrder => k_is)
    (case be_NoOrder => k_is)
    (case ty_NoOrder => k_is)
    (case kc_NoOrder => k_is)
    (case ic_NoOrder => k_is)
    (case ss_NoOrder => first | rfl | k_is)
    (case ga_NoOrder => k_is)
    (case gt_NoOrder => k_is)
    (case hd_NoOrder => k_is)
    (case ha_NoOrder => k_is)
    (case hn_NoOrder => k_is)
    (case ht_NoOrder => k_is)
    (case hm_NoOrder => k_is)
    (case xL_NoOrder => k_is)
    (case x0_NoOrder => k_exc)
    (case sa_NoView => k_is)
    (case be_NoView => k_is)
    (case ty_NoView => k_is)
    (case kc_NoView => k_is)
    (case ic_NoView => k_is)
    (case ss_NoView => first | rfl | k_is)
    (case ga_NoView => k_is)
    (case gt_NoView => k_is)
    (case hd_NoView => k_is)
    (case ha_NoView => k_is)
    (case hn_NoView => k_is)
    (case ht_NoView => k_is)
    (case hm_NoView => k_is)
    (case xL_NoView => k_is)
    (case x0_NoView => k_exc)
    (case sa_OtherBlocks => k_is)
    (case be_OtherBlocks => k_is)
    (case ty_OtherBlocks => k_is)
    (case kc_OtherBlocks => k_is)
    (case ic_OtherBlocks => k_is)
    (case ss_OtherBlocks => first | rfl | k_is)
    (case ga_OtherBlocks => k_is)
    (case gt_OtherBlocks => k_is)
    (case hd_OtherBlocks => k_is)
    (case ha_OtherBlocks => k_is)
    (case hn_OtherBlocks => k_is)
    (case ht_OtherBlocks => k_is)
    (case hm_OtherBlocks => k_is)
    (case xL_OtherBlocks => k_is)
    (case x0_OtherBlocks => k_exc)

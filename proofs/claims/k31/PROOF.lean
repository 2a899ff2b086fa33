import PyProof.Rows.All
import Wide.All
import OpenK.AllK
import Wide.FinOn
import HandS.ForMost
import HandS.ForExc
import HandS.ExcInit
import HandS.ExcField
import HandS.ExcIs
import HandS.IsInst
import HandS.Conv
import HandS.TupAny
import HandS.TupMul
import HandS.SortInts
import HandS.OwnEq
import HandS.Codes
import KE.KExcIs
import HandS.ExcValue
import HandS.Strs
import PyProof.InstNe
import PyProof.TupleOfSeq
import HandS.SortRule
import HandS.EndTab
import HandS.Lambda
import HandS.TupLen
import HandS.Iter
import HandS.Zip
import HandS.TryOnly
import PyProof.EnumMake
import PyProof.TupleIter
import KE.GoesMore
import HandS.DictComp
import HandS.Sort
import KE.KRevSl
import HandS.SetFor
import HandS.Finally
import HandS.Flow
import KE.DatumOrd
import HandS.TupSets
import KE.KDictZip
import HandS.HotCalls
import HandS.ExcCtx
import KE.RegKIsAll
import PySem.Challenge.RW_foldervotes_k31_words_refused
set_option Elab.async false
set_option linter.all false
set_option maxRecDepth 100000
set_option maxHeartbeats 4000000
namespace Fv
open PySem PySem.Spec PyProof.Rows L2


/-! ### readings in short -/
abbrev xAdd : R2 := rI0 fun i j => .int (i + j)
abbrev xSub : R2 := rI0 fun i j => .int (i - j)
abbrev xMul : R2 := rI CMul fun i j => .int (i * j)
abbrev xDiv : R2 := rI CDivN fun i j => .int (i.fdiv j)
abbrev xMod : R2 := rI (fun _ j => 0 < j) fun i j => .int (i % j)
abbrev xPow : R2 := rI CPow fun i j => .int (i ^ j.toNat)
abbrev xLt : R2 := rI0 fun i j => .bl (decide (i < j))
abbrev xLe : R2 := rI0 fun i j => .bl (decide (i ≤ j))
abbrev xGt : R2 := rI0 fun i j => .bl (decide (j < i))
abbrev xGe : R2 := rI0 fun i j => .bl (decide (j ≤ i))
abbrev xNeg : V → Hp → VK → Prop := rU fun i => .int (-i)
def xIsN : R2 := fun x y H Q => y = .non ∧ Q (.bl (decide (x = .non))) H
def xNotN : R2 := fun x y H Q => y = .non ∧ Q (.bl (!decide (x = .non))) H
def xAddStr : R2 := fun x y H Q => ∃ i j, x = .str i ∧ y = .str j ∧ i.length + j.length ≤ sizeLine ∧ Q (.str (i ++ j)) H
def xAbs : List V → Hp → VK → Prop := fun xs H Q => ∃ i, xs = [.int i] ∧ Q (.int (if i < 0 then -i else i)) H
def xInt : List V → Hp → VK → Prop := fun xs H Q => (∃ i, xs = [.int i] ∧ Q (.int i) H) ∨ ∃ k, xs = [.bl k] ∧ Q (.int (if k then 1 else 0)) H
def xLen (K : PySem.W.Frag) : List V → Hp → VK → Prop := fun xs H Q => ∃ p ys, xs = [.ref p] ∧ (SqL K H p ys ∨ SqT K H p ys) ∧ Q (.int ys.length) H
def xLenS : List V → Hp → VK → Prop := fun xs H Q => ∃ z, xs = [.str z] ∧ z.length ≤ sizeLine ∧ Q (.int z.length) H
def xTupleOf (K : PySem.W.Frag) : List V → Hp → VK → Prop := fun xs H Q => ∃ p ys, xs = [.ref p] ∧ ((SqL K H p ys ∧ ∀ l, H l = none → Q (.ref l) (upd H l (.tup ys))) ∨ (SqT K H p ys ∧ Q (.ref p) H))

/-! ### steps -/
section
variable {K : PySem.W.Frag} {σ : L2.St} {H : Hp} {Q : VK} {D : Ends} {ta tb te tc : TE} {t u : TS} {tt tu : TT} {r r' : R2} {i j : Int} {x y v : V} {a : Addr} {xs : List V}
theorem v_seq (h : t { D with nx := u D } σ H) : tSeq t u D σ H := h
theorem v_next (h : D.nx σ H) : tNext D σ H := h
theorem v_ret (h : te σ H D.rt) : tRet te D σ H := h
theorem v_retN (h : D.rt .non H) : tRetN D σ H := h
theorem v_drop (h : te σ H fun _ H1 => D.nx σ H1) : tDrop te D σ H := h
theorem v_asg {g : TG} (h : te σ H fun x H1 => g x σ H1 D.nx) : tAsg te g D σ H := h
theorem v_ifs (h : tt σ H fun b H1 => if b = true then t D σ H1 else u D σ H1) : tIfS tt t u D σ H := h
theorem v_name {k : Nat} {R : L2.St → Hp → Prop} (h : R (σ.set k (some v)) H) : gName k v σ H R := h
theorem v_sub {to ti : TE} {s : V → V → V → Hp → (Hp → Prop) → Prop} {R : L2.St → Hp → Prop} (h : to σ H fun o H1 => ti σ H1 fun i H2 => s o i v H2 fun H3 => R σ H3) : gSub to ti s v σ H R := h
theorem v_setL {k : Int} {j : Nat} {R : Hp → Prop} (h : H a = some (.lst xs)) (hj : ixN xs.length k = some j) (q : R (upd H a (.lst (xs.set j v)))) : rSetL (.ref a) (.int k) v H R := ⟨a, xs, k, j, rfl, rfl, h, hj, q⟩
theorem v_var {k : Nat} (h : σ[k]? = some (some v)) (q : Q v H) : tVar k σ H Q := ⟨v, h, q⟩
theorem v_c (q : Q v H) : tC v σ H Q := q
theorem v_op (h : ta σ H fun x H1 => tb σ H1 fun y H2 => r x y H2 Q) : tOp r ta tb σ H Q := h
theorem v_un {f : V → Hp → VK → Prop} (h : ta σ H fun x H1 => f x H1 Q) : tUn f ta σ H Q := h
theorem v_I0 {g : Int → Int → V} (q : Q (g i j) H) : rI0 g (.int i) (.int j) H Q := ⟨i, j, rfl, rfl, q⟩
theorem v_U {g : Int → V} (q : Q (g i) H) : rU g (.int i) H Q := ⟨i, rfl, q⟩
theorem v_eqI (q : Q (.bl (decide (i = j))) H) : rEq (.int i) (.int j) H Q := ⟨rfl, by
  have e : decide (V.int i = V.int j) = decide (i = j) := by rw [Bool.eq_iff_iff]; simp
  rw [e]; exact q⟩
theorem v_neI (q : Q (.bl (!decide (i = j))) H) : rNe (.int i) (.int j) H Q := ⟨rfl, by
  have e : decide (V.int i = V.int j) = decide (i = j) := by rw [Bool.eq_iff_iff]; simp
  rw [e]; exact q⟩
theorem v_eqB {b c : Bool} (q : Q (.bl (decide (b = c))) H) : rEq (.bl b) (.bl c) H Q := ⟨rfl, by
  have e : decide (V.bl b = V.bl c) = decide (b = c) := by rw [Bool.eq_iff_iff]; simp
  rw [e]; exact q⟩
theorem v_neB {b c : Bool} (q : Q (.bl (!decide (b = c))) H) : rNe (.bl b) (.bl c) H Q := ⟨rfl, by
  have e : decide (V.bl b = V.bl c) = decide (b = c) := by rw [Bool.eq_iff_iff]; simp
  rw [e]; exact q⟩
theorem v_isN (q : Q (.bl (decide (x = .non))) H) : xIsN x .non H Q := ⟨rfl, q⟩
theorem v_notN (q : Q (.bl (!decide (x = .non))) H) : xNotN x .non H Q := ⟨rfl, q⟩
theorem v_ixL {n : Int} (h : SqL K H a xs) (ha : atI xs n = some v) (q : Q v H) : rIxL K (.ref a) (.int n) H Q := ⟨a, xs, n, v, rfl, rfl, h, ha, q⟩
theorem v_ixT {n : Int} (h : SqT K H a xs) (ha : atI xs n = some v) (q : Q v H) : rIxT K (.ref a) (.int n) H Q := ⟨a, xs, n, v, rfl, rfl, h, ha, q⟩
theorem v_cb {f : List V → Hp → VK → Prop} {tx : TA} (h : tx σ H fun vs H1 => f vs H1 Q) : tCB f tx σ H Q := h
theorem v_call {sp : Sp} {dvs : List V} {E : XK} {tx : TA} (h : tx σ H fun vs H1 => sp (vs ++ dvs) H1 Q E) : tCall sp dvs E tx σ H Q := h
theorem v_nil {R : List V → Hp → Prop} (h : R [] H) : tNil σ H R := h
theorem v_cons {tr : TA} {R : List V → Hp → Prop} (h : ta σ H fun x H1 => tr σ H1 fun xs H2 => R (x :: xs) H2) : tCons ta tr σ H R := h
theorem v_abs (q : Q (.int (if i < 0 then -i else i)) H) : xAbs [.int i] H Q := ⟨i, rfl, q⟩
theorem v_int (q : Q (.int i) H) : xInt [.int i] H Q := .inl ⟨i, rfl, q⟩
theorem v_lenL (h : SqL K H a xs) (q : Q (.int xs.length) H) : xLen K [.ref a] H Q := ⟨a, xs, rfl, .inl h, q⟩
theorem v_lenT (h : SqT K H a xs) (q : Q (.int xs.length) H) : xLen K [.ref a] H Q := ⟨a, xs, rfl, .inr h, q⟩
theorem v_lst {tx : TA} (h : tx σ H fun xs H1 => xs.length ≤ sizeLine ∧ ∀ p, H1 p = none → Q (.ref p) (upd H1 p (.lst xs))) : tLst tx σ H Q := h
theorem v_tup {tx : TA} (h : tx σ H fun xs H1 => xs.length ≤ sizeLine ∧ ∀ p, H1 p = none → Q (.ref p) (upd H1 p (.tup xs))) : tTup tx σ H Q := h
theorem v_bound {n : Nat} {A : Prop} (h : n ≤ 1000) (q : A) : n ≤ sizeLine ∧ A := ⟨Nat.le_of_lt (small1000 h), q⟩
theorem v_sl {f : V → Option Int → Option Int → Hp → VK → Prop} {tl th : TO} (h : te σ H fun x H1 => tl σ H1 fun l H2 => th σ H2 fun u H3 => f x l u H3 Q) : tSl f te tl th σ H Q := h
theorem v_nopart {R : Option Int → Hp → Prop} (h : R none H) : tNoPart σ H R := h
theorem v_part {R : Option Int → Hp → Prop} (h : te σ H fun x H1 => ∃ i, x = .int i ∧ R (some i) H1) : tPart te σ H R := h
theorem v_partI {R : Int → Prop} (q : R i) : ∃ k, V.int i = .int k ∧ R k := ⟨i, rfl, q⟩
theorem v_slL {lo hi : Option Int} (h : SqL K H a xs) (q : ∀ p, H p = none → Q (.ref p) (upd H p (.lst (cutV xs lo hi)))) : rSlL K (.ref a) lo hi H Q := ⟨a, xs, rfl, h, q⟩
theorem v_if (h : tt σ H fun c H1 => if c = true then ta σ H1 Q else tb σ H1 Q) : tIf tt ta tb σ H Q := h
theorem v_chain (h : ta σ H fun x H1 => tb σ H1 fun y H2 => r x y H2 fun z H3 => ∃ k, z = .bl k ∧ (if k = true then tc σ H3 fun w' H4 => r' y w' H4 Q else Q (.bl false) H3)) : tChain r r' ta tb tc σ H Q := h
theorem v_andV (h : ta σ H fun x H1 => ∃ c, x = .bl c ∧ if c = true then tb σ H1 Q else Q (.bl false) H1) : tAndV ta tb σ H Q := h
theorem v_orV (h : ta σ H fun x H1 => ∃ c, x = .bl c ∧ if c = true then Q (.bl true) H1 else tb σ H1 Q) : tOrV ta tb σ H Q := h
theorem v_notV (h : ta σ H fun x H1 => ∃ c, x = .bl c ∧ Q (.bl (!c)) H1) : tNotV ta σ H Q := h
theorem v_bl {b : Bool} {A : Bool → Prop} (q : A b) : ∃ c, V.bl b = .bl c ∧ A c := ⟨b, rfl, q⟩
theorem v_and {R : Bool → Hp → Prop} (h : tt σ H fun c H1 => if c = true then tu σ H1 R else R false H1) : tAnd tt tu σ H R := h
theorem v_or {R : Bool → Hp → Prop} (h : tt σ H fun c H1 => if c = true then R true H1 else tu σ H1 R) : tOr tt tu σ H R := h
theorem v_not {R : Bool → Hp → Prop} (h : tt σ H fun c H1 => R (!c) H1) : tNot tt σ H R := h
theorem v_test {R : Bool → Hp → Prop} (h : ta σ H fun x H1 => ∃ k, x = .bl k ∧ R k H1) : tTest ta σ H R := h
theorem v_B {R : Bool → Hp → Prop} (h : ta σ H fun x H1 => ∃ k, x = .bl k ∧ R k H1) : tB ta σ H R := h
theorem v_yes {R : Bool → Hp → Prop} (h : R true H) : tYes σ H R := h
theorem v_dnew (q : ∀ p, H p = none → Q (.ref p) (upd H p (.dK []))) : tDNewK σ H Q := q
end
section
variable {A B : Prop}
theorem v_iteT (h : A) : if true = true then A else B := by rw [if_pos rfl]; exact h
theorem v_iteF (h : B) : if false = true then A else B := by rw [if_neg Bool.false_ne_true]; exact h
theorem v_iteNT (h : B) : if (!true) = true then A else B := v_iteF h
theorem v_iteNF (h : A) : if (!false) = true then A else B := v_iteT h
theorem v_ite {P : Prop} {dP : Decidable P} (h1 : P → A) (h2 : ¬ P → B) : if decide P = true then A else B := by
  by_cases h : P
  · rw [if_pos (decide_eq_true h)]; exact h1 h
  · rw [if_neg (by rw [decide_eq_false h]; decide)]; exact h2 h
theorem v_iteN {P : Prop} {dP : Decidable P} (h1 : ¬ P → A) (h2 : P → B) : if (!decide P) = true then A else B := by
  by_cases h : P
  · rw [if_neg (by rw [decide_eq_true h]; decide)]; exact h2 h
  · rw [if_pos (by rw [decide_eq_false h]; decide)]; exact h1 h
theorem v_iteB {b : Bool} (h1 : b = true → A) (h2 : b = false → B) : if b = true then A else B := by
  cases b with
  | true => rw [if_pos rfl]; exact h1 rfl
  | false => rw [if_neg Bool.false_ne_true]; exact h2 rfl
end


/-! ### loops -/
def LoopG (J : It) (g : TG) (tb : TS) (D : Ends) (σ : L2.St) (H : Hp) : Prop := ∃ W : Nat → Nat → L2.St → Hp → Prop, (∃ m, W 0 m σ H) ∧ ∀ i m σ H, W i m σ H →
  (J.stop i H ∧ D.nx σ H) ∨ (J.go i H ∧ ∃ N : L2.St → Hp → Prop, (∀ σ' H', N σ' H' → ∃ m', m' < m ∧ W (i + 1) m' σ' H') ∧ ∀ x H', J.yld i H x H' → g x σ H' fun σ2 H2 => tb { D with nx := N, ct := N, bk := D.nx } σ2 H2)
def LcG (J : It) (g : TG) (tt : TT) (te : TE) (vs : List Nat) (σ : L2.St) (H1 : Hp) (Q : VK) : Prop := ∀ D, H1 D = none → ∃ W : Nat → Nat → Hp → Prop, (∃ m, W 0 m (upd H1 D (.lst []))) ∧ ∀ i m H, W i m H →
  (J.stop i H ∧ Q (.ref D) H) ∨ (J.go i H ∧ ∃ Nx : Hp → Prop, (∀ H', Nx H' → ∃ m', m' < m ∧ W (i + 1) m' H') ∧ ∀ x H', J.yld i H x H' → g x (wipe σ vs) H' fun σ2 H2 => wipe σ2 vs = wipe σ vs ∧ tt σ2 H2 fun b H3 =>
    if b = true then te σ2 H3 fun y H4 => ∃ acc, H4 D = some (.lst acc) ∧ acc.length < sizeLine ∧ Nx (upd H4 D (.lst (acc ++ [y]))) else Nx H3)
def Rg1K (vs : List V) (R : It → Hp → Prop) (H : Hp) : Prop := ∃ j : Int, vs = [.int j] ∧ -(2 ^ 62) ≤ j ∧ j < 2 ^ 62 ∧ R (Itr 0 j.toNat) H
def Rg2K (vs : List V) (R : It → Hp → Prop) (H : Hp) : Prop := ∃ i j : Int, vs = [.int i, .int j] ∧ (-(2 ^ 62) ≤ i ∧ i < 2 ^ 62 ∧ -(2 ^ 62) ≤ j ∧ j < 2 ^ 62) ∧ R (Itr i (j - i).toNat) H
def ItLK (K : PySem.W.Frag) (x : V) (R : It → Hp → Prop) (H : Hp) : Prop := ∃ a, x = .ref a ∧ (∃ xs, SqL K H a xs) ∧ R (Itl K a) H
def ItTK (K : PySem.W.Frag) (x : V) (R : It → Hp → Prop) (H : Hp) : Prop := ∃ a, x = .ref a ∧ (∃ xs, SqT K H a xs) ∧ R (Itt K a) H
section
variable {K : PySem.W.Frag} {σ : L2.St} {H : Hp} {D : Ends} {ta : TA} {te : TE} {tt : TT} {tb : TS} {g : TG} {wi : TI} {R : It → Hp → Prop} {Q : VK} {a : Addr} {xs : List V} {vs : List Nat}
theorem v_for (h : wi σ H fun J H1 => LoopG J g tb D σ H1) : tFor wi g tb D σ H := h
theorem v_lc (h : wi σ H fun J H1 => LcG J g tt te vs σ H1 Q) : tLc wi g tt te vs σ H Q := h
theorem v_iR1 (h : ta σ H fun vs H1 => Rg1K vs R H1) : iRng1 ta σ H R := h
theorem v_iR2 (h : ta σ H fun vs H1 => Rg2K vs R H1) : iRng2 ta σ H R := h
theorem v_iL (h : te σ H fun x H1 => ItLK K x R H1) : iList K te σ H R := h
theorem v_iT (h : te σ H fun x H1 => ItTK K x R H1) : iTup K te σ H R := h
end

/-! ### methods, ranges as lists, products -/
def BmK (K : PySem.W.Frag) (T : String) (r : V → List V → Hp → VK → Prop) (t : TA) (σ : L2.St) (x : V) (H : Hp) (Q : VK) : Prop := tyV K T x H ∧ t σ H fun xs H2 => r x xs H2 Q
def Bm0K (K : PySem.W.Frag) (T : String) (r : V → List V → Hp → VK → Prop) (x : V) (H : Hp) (Q : VK) : Prop := tyV K T x H ∧ r x [] H Q
def Rg2E (x y : V) (R : Int → Int → Hp → Prop) (H : Hp) : Prop := ∃ i j, x = .int i ∧ y = .int j ∧ R i j H
def Rg1E (x : V) (R : Int → Int → Hp → Prop) (H : Hp) : Prop := ∃ j, x = .int j ∧ R 0 j H
def LRgK (i j : Int) (H : Hp) (Q : VK) : Prop := RgOk i j ∧ ∀ q, H q = none → Q (.ref q) (upd H q (.lst (rgV i j)))
def TRgK (i j : Int) (H : Hp) (Q : VK) : Prop := RgOk i j ∧ ∀ q, H q = none → Q (.ref q) (upd H q (.tup (rgV i j)))
section
variable {K : PySem.W.Frag} {σ : L2.St} {H : Hp} {Q : VK} {to ta tb : TE} {t : TA} {T : String} {r : V → List V → Hp → VK → Prop} {a : Addr} {xs ys : List V} {x y v : V} {i j : Int} {R : Int → Int → Hp → Prop} {te : L2.St → Hp → (Int → Int → Hp → Prop) → Prop}
theorem v_bm (h : to σ H fun x H1 => BmK K T r t σ x H1 Q) : tBM K T r to t σ H Q := h
theorem v_bm0 (h : to σ H fun x H1 => Bm0K K T r x H1 Q) : tBM0 K T r to σ H Q := h
theorem v_bmL (h : H a = some (.lst xs)) (q : t σ H fun vs H2 => r (.ref a) vs H2 Q) : BmK K "list" r t σ (.ref a) H Q := ⟨.inl ⟨rfl, xs, SqL.of h⟩, q⟩
theorem v_bm0L (h : H a = some (.lst xs)) (q : r (.ref a) [] H Q) : Bm0K K "list" r (.ref a) H Q := ⟨.inl ⟨rfl, xs, SqL.of h⟩, q⟩
theorem v_tRg2 (h : ta σ H fun x H1 => tb σ H1 fun y H2 => Rg2E x y R H2) : tRg2 ta tb σ H R := h
theorem v_tRg1 (h : ta σ H fun x H1 => Rg1E x R H1) : tRg1 ta σ H R := h
theorem v_rg2e (q : R i j H) : Rg2E (.int i) (.int j) R H := ⟨i, j, rfl, rfl, q⟩
theorem v_rg1e (q : R 0 j H) : Rg1E (.int j) R H := ⟨j, rfl, q⟩
theorem v_lstRg (h : te σ H fun i j H1 => LRgK i j H1 Q) : tLstRg te σ H Q := h
theorem v_tupRg (h : te σ H fun i j H1 => TRgK i j H1 Q) : tTupRg te σ H Q := h
end
theorem flat_one {α : Type} (n : Nat) (x : α) : (List.replicate n [x]).flatten = List.replicate n x := by
  induction n with
  | zero => rfl
  | succ n ih =>
    rw [List.replicate_succ, List.replicate_succ, List.flatten_cons, ih]
    rfl
theorem ixN_of {n j : Nat} {z : Int} (e : z = (j : Int)) (h : j < n) : ixN n z = some j := by
  unfold ixN
  rw [if_pos (by omega), if_pos (by omega), e]
  rfl
theorem upd_get {H : Hp} {a q : Addr} {o u : HO} (n : H q = none) (h : H a = some o) : upd H q u a = some o := by
  rw [upd_ne (ne_of_none h n)]
  exact h
theorem upd_at {H : Hp} {a q : Addr} {o u : HO} (n : a ≠ q) (h : H a = some o) : upd H q u a = some o := by
  rw [upd_ne n]
  exact h
theorem v_ixL' {K : PySem.W.Frag} {H : Hp} {Q : VK} {a : Addr} {xs : List V} {n : Int} {v : V} (h : H a = some (.lst xs)) (ha : atI xs n = some v) (q : Q v H) : rIxL K (.ref a) (.int n) H Q := v_ixL (SqL.of h) ha q
theorem v_ixT' {K : PySem.W.Frag} {H : Hp} {Q : VK} {a : Addr} {xs : List V} {n : Int} {v : V} (h : H a = some (.tup xs)) (ha : atI xs n = some v) (q : Q v H) : rIxT K (.ref a) (.int n) H Q := v_ixT (SqT.of h) ha q
theorem v_lenL' {K : PySem.W.Frag} {H : Hp} {Q : VK} {a : Addr} {xs : List V} (h : H a = some (.lst xs)) (q : Q (.int xs.length) H) : xLen K [.ref a] H Q := v_lenL (SqL.of h) q
theorem v_lenT' {K : PySem.W.Frag} {H : Hp} {Q : VK} {a : Addr} {xs : List V} (h : H a = some (.tup xs)) (q : Q (.int xs.length) H) : xLen K [.ref a] H Q := v_lenT (SqT.of h) q

/-! ### the walk over readings -/

/-! ### what the pool owns; what stays -/
def Owned (H : Hp) (p a : Addr) : Prop := a = p ∨ ∃ xs, H p = some (.lst xs) ∧ V.ref a ∈ xs
def Af (H : Hp) (p a : Addr) (o : HO) : Prop := H a = some o ∧ ¬ Owned H p a
/-- what is not the pool's stays; what is there stays there -/
structure Mo (p : Addr) (H H' : Hp) : Prop where
  at_ : ∀ a o, Af H p a o → Af H' p a o
  free : ∀ a, H' a = none → H a = none
instance {p : Addr} {H H' : Hp} : CoeFun (Mo p H H') (fun _ => ∀ a o, Af H p a o → Af H' p a o) := ⟨Mo.at_⟩
def Pool (H : Hp) (p : Addr) : Prop := ∃ (g s : Addr) (gs ss : List Int) (x y : Int), H p = some (.lst [.ref g, .ref s, .int x, .int y]) ∧ H g = some (.lst (gs.map V.int)) ∧ H s = some (.lst (ss.map V.int)) ∧
  g ≠ p ∧ s ≠ p ∧ gs.length ≤ 63 ∧ ss.length ≤ 63
theorem Mo.refl (p : Addr) (H : Hp) : Mo p H H := ⟨fun _ _ h => h, fun _ h => h⟩
theorem Mo.trans {p : Addr} {H H1 H2 : Hp} (a : Mo p H H1) (b : Mo p H1 H2) : Mo p H H2 := ⟨fun x o h => b.at_ x o (a.at_ x o h), fun x h => a.free x (b.free x h)⟩
theorem owned_pool {H : Hp} {p g s a : Addr} {x y : Int} (h : H p = some (.lst [.ref g, .ref s, .int x, .int y])) : Owned H p a ↔ a = p ∨ a = g ∨ a = s := by
  constructor
  · rintro (e | ⟨xs, e, hm⟩)
    · exact .inl e
    · rw [h] at e
      cases e
      simp at hm
      exact .inr hm
  · rintro (e | e | e)
    · exact .inl e
    · exact .inr ⟨_, h, by simp [e]⟩
    · exact .inr ⟨_, h, by simp [e]⟩
theorem same_upd {H : Hp} {q : Addr} {o : HO} (h : H q = none) : Same H (upd H q o) := fun b x e => by
  rw [upd_ne (ne_of_none e h)]
  exact e
theorem Pool.same {H H' : Hp} {p : Addr} (h : Pool H p) (e : Same H H') : Pool H' p := by
  obtain ⟨g, s, gs, ss, x, y, h1, h2, h3, r⟩ := h
  exact ⟨g, s, gs, ss, x, y, e _ _ h1, e _ _ h2, e _ _ h3, r⟩
theorem Pool.upd {H : Hp} {p q : Addr} {o : HO} (h : Pool H p) (n : H q = none) : Pool (upd H q o) p := h.same (same_upd n)
theorem Mo.same {H H' : Hp} {p : Addr} (h : Pool H p) (e : Same H H') : Mo p H H' := by
  refine ⟨fun a o ⟨h1, h2⟩ => ?_, fun a z => e.free z⟩
  obtain ⟨g, s, gs, ss, x, y, q1, _⟩ := h
  refine ⟨e _ _ h1, ?_⟩
  rw [owned_pool (e _ _ q1)]
  rw [owned_pool q1] at h2
  exact h2
theorem Mo.upd {H : Hp} {p q : Addr} {o : HO} (h : Pool H p) (n : H q = none) : Mo p H (upd H q o) := .same h (same_upd n)
/-- a new object is not the pool's -/
theorem Af.new {H H' : Hp} {p q : Addr} {o : HO} (h : Pool H p) (n : H q = none) (e : Same H H') (hq : H' q = some o) : Af H' p q o := by
  obtain ⟨g, s, gs, ss, x, y, q1, q2, q3, _⟩ := h
  refine ⟨hq, ?_⟩
  rw [owned_pool (e _ _ q1)]
  rintro (z | z | z)
  · rw [z, q1] at n; cases n
  · rw [z, q2] at n; cases n
  · rw [z, q3] at n; cases n
theorem Af.upd {H : Hp} {p q : Addr} {o : HO} (h : Pool H p) (n : H q = none) : Af (L2.upd H q o) p q o := .new h n (same_upd n) upd_same
theorem Af.self {H : Hp} {p a : Addr} {o o' : HO} (h : Pool H p) (f : Af H p a o) : Af (L2.upd H a o') p a o' := by
  obtain ⟨g, s, gs, ss, x, y, q1, q2, q3, r⟩ := h
  have hn := f.2
  rw [owned_pool q1] at hn
  refine ⟨upd_same, ?_⟩
  rw [owned_pool (g := g) (s := s) (x := x) (y := y) (by rw [upd_ne (fun z => hn (.inl z.symm))]; exact q1)]
  exact hn
theorem Af.keep {H : Hp} {p q a : Addr} {o u : HO} (h : Pool H p) (n : H q = none) (f : Af H p a o) : Af (L2.upd H q u) p a o := Mo.upd h n a o f
theorem Af.mo {H H' : Hp} {p a : Addr} {o : HO} (m : Mo p H H') (f : Af H p a o) : Af H' p a o := m a o f
section
variable {X : Cx} {CX : CXT} {C f : Addr} {fd : FuncData} {ps : List Str} {sp : Sp} {E : XK} {n : Nat}
end
/-! ### exceptions with fields -/
/-- what an exception's class must say, so that isinstance asks its instances rightly -/
structure XCls (K : PySem.W.Frag) (D : Addr) : Prop where
  cl : (PySem.W.clsIn K D).isSome = true
  ga : PySem.W.findIn K (.ref D) "__getattribute__" = some (some (.builtin "BaseException.__getattribute__"))
  gt : PySem.W.findIn K (.ref D) "__getattr__" = some none
  be : PySem.W.subIn K (.ref D) (.type "BaseException") = some true
  hd : PySem.W.hasDictIn K D = true
  ha : PySem.W.findIn K (.ref D) "__class__" = some (some (.builtin "object.__class__"))
  hn : PySem.W.specialIn K (.builtin "object.__class__") "__get__" = some (some (.builtin "getset_descriptor.__get__"))
  ht : PySem.W.takesIn K (.builtin "object.__class__") = some true
  hm : PySem.W.mroIn K D (.type "object") = some true
theorem XCls.xf {K : PySem.W.Frag} {D : Addr} (h : XCls K D) : XfC K D := ⟨h.ga, h.gt, h.be, h.hd⟩
/-- isinstance(e, c) within the suite that holds e -/
def rIsX (K : PySem.W.Frag) (cls : Value) (d : Option Addr) (a : Addr) : List V → Hp → VK → Prop := fun xs H Q => ∃ (c : V) (cv : Value) (b : Bool) (D dd : Addr) (fs : List (Str × V)),
  xs = [.ref a, c] ∧ cls = .ref D ∧ d = some dd ∧ H dd = some (.xd fs) ∧ XCls K D ∧ ClsV c cv ∧ PySem.W.kitOne K (.ref D) cv = some b ∧ Q (.bl b) H
theorem call_isX {X : Cx} {a : Addr} {oe : Obj} {cls : Value} {d : Option Addr} {pn : List (Addr × Obj)} (hz : Zc cls d oe) (hf : ∃ vs, oe.data = .fields vs) : CallR (X.suite a ((a, oe) :: pn)) (.builtin "isinstance") (rIsX X.K cls d a) := by
  intro pins s σ H xs us Q I r h
  obtain ⟨c, cv, b, D, dd, fs, rfl, rfl, rfl, ed, T, hc, e, q⟩ := h
  obtain ⟨u1, u2, rfl, r1, r2⟩ := vals2 r
  obtain rfl : u1 = Value.ref a := r1
  have e2 := hc.eq r2
  subst e2
  obtain ⟨hget, _⟩ := I.pin (a, oe) (List.mem_append.mpr (.inl List.mem_cons_self))
  obtain ⟨vs, hv⟩ := hf
  obtain ⟨mA, hns, _⟩ := (show ObjOk X.prog X.w H s.heap dd (.xd fs) from I.hok dd _ ed)
  obtain ⟨od, ho, _⟩ := lookIn_ns hns
  have J : PySem.W.InstAt s.heap a oe D (some od) := ⟨hget, hz.1, by unfold PySem.W.notCls; rw [hv] <;> rfl, by rw [hz.2]; exact ho⟩
  exact PySem.W.kia_one (PySem.W.kitx_exc T.cl T.ga T.gt T.be T.ha T.hn T.ht T.hm) I.kIn J e (fun z => nomatch z) fun tk => ⟨.bl b, H, I.kept (t' := tk) fun _ _ z => z, rfl, q⟩
/-- C(e, ..) where what __init__ raises is wished for at the caller's slots -/
def tMakeS (C : Addr) (sp : Sp) (E : L2.St → XK) (t : TA) : TE := fun σ H Q => t σ H fun vs H1 => ∀ x dx, H1 x = none → H1 dx = none → dx ≠ x →
  sp (.ref x :: vs) (upd (upd H1 dx (.own x)) x (.ins C dx [])) (fun v H2 => v = .non ∧ Q (.ref x) H2) (E σ)
section
variable {X : Cx} {CX : CXT} {k : Nat} {f C : Addr} {fd : FuncData} {ps : List Str} {sp : Sp} {E : L2.St → XK} {x : Str} {p pos : Pos} {e : Expr} {es : List Expr} {t : TA}
end
theorem v_makeS {C : Addr} {sp : Sp} {E : L2.St → XK} {t : TA} {σ : L2.St} {H : Hp} {Q : VK} (h : t σ H fun vs H1 => ∀ x dx, H1 x = none → H1 dx = none → dx ≠ x →
  sp (.ref x :: vs) (upd (upd H1 dx (.own x)) x (.ins C dx [])) (fun v H2 => v = .non ∧ Q (.ref x) H2) (E σ)) : tMakeS C sp E t σ H Q := h
theorem v_make {C : Addr} {sp : Sp} {E : XK} {t : TA} {dvs : List V} {σ : L2.St} {H : Hp} {Q : VK} (h : t σ H fun vs H1 => ∀ x dx, H1 x = none → H1 dx = none → dx ≠ x →
  sp (.ref x :: (vs ++ dvs)) (upd (upd H1 dx (.own x)) x (.ins C dx [])) (fun v H2 => v = .non ∧ Q (.ref x) H2) E) : tMake C sp dvs E t σ H Q := h
theorem v_xf {a : Addr} {cls : Value} {d : Option Addr} {C : Addr} {f : Str} {te : TE} {σ : L2.St} {H : Hp} {Q : VK} (h : te σ H fun x H1 => x = .ref a ∧ cls = .ref C ∧ ∃ (dd : Addr) (fs : List (Str × V)) (v : V), d = some dd ∧ H1 dd = some (.xd fs) ∧ fs.lookup f = some v ∧ Q v H1) : tXf a cls d C f te σ H Q := h
/-- __init__ of an error that keeps one thing as f -/
def spX1 (C : Addr) (f : Str) : Sp := fun vs H Q _ => ∃ (a : Addr) (y : V), vs = [.ref a, y] ∧ H a = some (exo a C none) ∧ ∀ dx, H dx = none → dx ≠ a → Q .non (upd (upd H dx (exd dx [(f, y)])) a (exo a C (some dx)))
theorem len_x1 {C : Addr} {f : Str} {vs : List V} {H : Hp} {Q : VK} {E : XK} (h : spX1 C f vs H Q E) : vs.length = 2 := by
  obtain ⟨a, y, rfl, _⟩ := h
  rfl
def wE (E : XK) : WX := fun cls d _ H => E cls d H
/-- raise C(e, ..) -/
def tRaiseO (C : Addr) (sp : Sp) (ta : TA) (W : WX) : TS := fun _ σ H => tMkO C sp [] ta σ H fun cls d H' => W cls d σ H'
section
variable {K : PySem.W.Frag} {σ : L2.St} {H : Hp} {te : TE} {C : Addr} {f : Str} {W : WX} {D : Ends}
def RaiseK (C : Addr) (sp : Sp) (vs : List V) (W : WX) (σ : L2.St) (H : Hp) : Prop := vs.length ≤ 1000 ∧ ∀ a, H a = none → sp (.ref a :: (vs ++ [])) (upd H a (exo a C none))
  (fun v H2 => v = .non ∧ ∃ (d : Addr) (fs : List (Str × V)), H2 a = some (exo a C (some d)) ∧ H2 d = some (exd d fs) ∧ H d = none ∧ W (.ref C) (some d) σ (upd (del H2 a) d (.xd fs))) (fun _ _ _ => False)
theorem v_raiseO {sp : Sp} {ta : TA} (h : ta σ H fun vs H1 => RaiseK C sp vs W σ H1) : tRaiseO C sp ta W D σ H := h
theorem v_raise1 {y : V} (h : ∀ d, H d = none → W (.ref C) (some d) σ (upd H d (.xd [(f, y)]))) : RaiseK C (spX1 C f) [y] W σ H := by
  refine ⟨by show 1 ≤ 1000; decide, fun a na => ?_⟩
  refine ⟨a, y, rfl, upd_same, fun dx nd ne => ⟨rfl, dx, _, upd_same, by rw [upd_ne ne, upd_same], by rw [upd_ne ne] at nd; exact nd, ?_⟩⟩
  have nd1 : H dx = none := by rw [upd_ne ne] at nd; exact nd
  have e : upd (del (upd (upd (upd H a (exo a C none)) dx (exd dx [(f, y)])) a (exo a C (some dx))) a) dx (.xd [(f, y)]) = upd H dx (.xd [(f, y)]) := by
    funext b
    by_cases h1 : b = dx
    · rw [h1, upd_same, upd_same]
    · rw [upd_ne h1, upd_ne h1]
      by_cases h2 : b = a
      · rw [h2, del_same, na]
      · rw [del_ne h2, upd_ne h2, upd_ne h1, upd_ne h2]
  rw [e]
  exact h dx nd1
theorem pure_x1 (T : OexC K C) (hn : PySem.W.findIn K (.ref C) f = some none) {vs : List V} {H : Hp} {Q : VK} {E : XK} {N : List Str} (h : spX1 C f vs H Q E) (hN : N.length = 2) : tOst K f (tVar 0) (tVar 1) { nx := fun _ H' => Q .non H', rt := Q } (start N vs) H := by
  obtain ⟨a, y, rfl, e, q⟩ := h
  have es : start N [.ref a, y] = [some (.ref a), some y] := by
    unfold L2.start
    rw [hN]
    rfl
  rw [es]
  exact ⟨y, rfl, .ref a, rfl, a, C, rfl, T, hn, .inl ⟨e, q⟩⟩
end
/-- raise C(), C without fields -/
def tRaise0 (cls : Value) (W : WX) : TS := fun _ σ H => W cls none σ H
/-! ### kinds of things -/
/-- what a thing is: the name of its built-in class -/
inductive Kind (H : Hp) : V → String → Prop where
  | non : Kind H .non "NoneType"
  | bl (b : Bool) : Kind H (.bl b) "bool"
  | int (i : Int) : Kind H (.int i) "int"
  | str (s : Str) : Kind H (.str s) "str"
  | lst {a : Addr} {xs : List V} (h : H a = some (.lst xs)) : Kind H (.ref a) "list"
  | tup {a : Addr} {xs : List V} (h : H a = some (.tup xs)) : Kind H (.ref a) "tuple"
  | dK {a : Addr} {kvs : List (Key × V)} (h : H a = some (.dK kvs)) : Kind H (.ref a) "dict"
  | dF {a : Addr} {o : Obj} {kvs : List (Key × V)} (h : H a = some (.frz o (.dK kvs))) : Kind H (.ref a) "dict"
theorem Kind.tyx {K : PySem.W.Frag} {H : Hp} {x : V} {s : String} (h : Kind H x s) : TyX K H x (.type s) := by
  cases h with
  | non => exact .base .non
  | bl b => exact .base (.bl b)
  | int i => exact .base (.int i)
  | str z => exact .base (.str z)
  | lst h => exact .base (.lst h)
  | tup h => exact .base (.tup h)
  | dK h => exact .base (.dK h)
  | dF h => exact .fDict h
theorem Kind.same {H H' : Hp} {x : V} {s : String} (h : Kind H x s) (e : Same H H') : Kind H' x s := by
  cases h with
  | non => exact .non
  | bl b => exact .bl b
  | int i => exact .int i
  | str z => exact .str z
  | lst h => exact .lst (e _ _ h)
  | tup h => exact .tup (e _ _ h)
  | dK h => exact .dK (e _ _ h)
  | dF h => exact .dF (e _ _ h)
/-- isinstance's answers for these -/
def isA (s T : String) : Bool := (s == T) || (s == "bool" && T == "int")
theorem kit_kind {K : PySem.W.Frag} {H : Hp} {x : V} {s T : String} (h : Kind H x s) (hT : T = "int" ∨ T = "bool" ∨ T = "tuple" ∨ T = "list" ∨ T = "dict" ∨ T = "str") : PySem.W.kitOne K (.type s) (.type T) = some (isA s T) := by
  cases h <;> (rcases hT with rfl | rfl | rfl | rfl | rfl | rfl <;> exact kit_ty (by decide +kernel))
section
variable {K : PySem.W.Frag} {H : Hp} {Q : VK} {x : V} {s T : String} {tp : Addr}
theorem v_isi (h : Kind H x s) (hT : T = "int" ∨ T = "bool" ∨ T = "tuple" ∨ T = "list" ∨ T = "dict" ∨ T = "str") (q : Q (.bl (isA s T)) H) : rIsi K [x, .ty T] H Q :=
  ⟨x, .ty T, .type s, .type T, _, rfl, .ty T, h.tyx, kit_kind h hT, q⟩
theorem v_isiT {S T : String} (h : Kind H x s) (ht : H tp = some (.tup [.ty S, .ty T])) (hS : S = "int" ∨ S = "bool" ∨ S = "tuple" ∨ S = "list" ∨ S = "dict" ∨ S = "str") (hT : T = "int" ∨ T = "bool" ∨ T = "tuple" ∨ T = "list" ∨ T = "dict" ∨ T = "str")
    (q : Q (.bl (isA s S || isA s T)) H) : rIsiT K [x, .ref tp] H Q := by
  refine ⟨x, tp, [.ty S, .ty T], .type s, [.type S, .type T], _, rfl, ht, .cons (.ty S) (.cons (.ty T) .nil), h.tyx, ?_, q⟩
  refine kitAny_cons (kit_kind h hS) (fun e => kitAny_cons (kit_kind h hT) (fun e' => ?_) fun e' => ?_) fun e => ?_
  · rw [e, e']; exact kitAny_nil
  · rw [e, e']; rfl
  · rw [e]; rfl
end
/-! ### classes of the program -/
/-- what is known of an own class, so that isinstance tells -/
structure OwnC (K : PySem.W.Frag) (C : Addr) : Prop where
  ic : C8.InsC K C
  kt : ∀ s : String, s = "NoneType" ∨ s = "bool" ∨ s = "int" ∨ s = "str" ∨ s = "list" ∨ s = "tuple" ∨ s = "dict" → PySem.W.kitOne K (.type s) (.ref C) = some false ∧ PySem.W.notFirst K C (.type s) = true
theorem Kind.name {H : Hp} {x : V} {s : String} (h : Kind H x s) : s = "NoneType" ∨ s = "bool" ∨ s = "int" ∨ s = "str" ∨ s = "list" ∨ s = "tuple" ∨ s = "dict" := by cases h <;> simp
theorem OwnC.tyx {K : PySem.W.Frag} {C : Addr} (h : OwnC K C) {H : Hp} {a dx : Addr} {fs : List (Str × V)} (e : H a = some (.ins C dx fs)) : TyX K H (.ref a) (.ref C) := .base (.ins e h.ic.cl h.ic.ha h.ic.hn h.ic.htk h.ic.hm)
section
variable {K : PySem.W.Frag} {H : Hp} {Q : VK} {x : V} {s : String} {a dx C : Addr} {fs : List (Str × V)} {f : Str} {v : V}
/-- isinstance(x, C), x of a built-in kind -/
theorem v_isiK (o : OwnC K C) (h : Kind H x s) (q : Q (.bl false) H) : rIsi K [x, .ref C] H Q := ⟨x, .ref C, .type s, .ref C, false, rfl, .own C, h.tyx, (o.kt s h.name).1, q⟩
def FldK (K : PySem.W.Frag) (f : Str) (x : V) (H : Hp) (Q : VK) : Prop := ∃ a C dx fs v, x = .ref a ∧ H a = some (.ins C dx fs) ∧ Cls K C ∧ NoAttr K C f ∧ fs.lookup f = some v ∧ Q v H
theorem v_fld {ta : TE} {σ : L2.St} (h : ta σ H fun x H1 => FldK K f x H1 Q) : tFld K ta f σ H Q := h
def StK (K : PySem.W.Frag) (f : Str) (x y : V) (H : Hp) (R : Hp → Prop) : Prop := ∃ a C dx fs, x = .ref a ∧ H a = some (.ins C dx fs) ∧ Cls K C ∧ NoAttr K C f ∧ fs.length < 1000 ∧ R (upd H a (.ins C dx (putF f y fs)))
theorem v_stf {ta tv : TE} {σ : L2.St} {D : Ends} (h : tv σ H fun y H1 => ta σ H1 fun x H2 => StK K f x y H2 fun H3 => D.nx σ H3) : sFld K ta tv f D σ H := h
end
/-! ### things in a heap with a pool -/
/-- a thing whose kind stays whatever is drawn -/
def AK (H : Hp) (p : Addr) : V → Prop
  | .non => True
  | .bl _ => True
  | .int _ => True
  | .str _ => True
  | .ref a => (∃ xs, Af H p a (.lst xs)) ∨ (∃ xs, Af H p a (.tup xs)) ∨ ∃ kvs, Af H p a (.dK kvs)
  | _ => False
theorem AK.mo {H H' : Hp} {p : Addr} {x : V} (h : AK H p x) (m : Mo p H H') : AK H' p x := by
  cases x with
  | ref a =>
    rcases h with ⟨xs, h⟩ | ⟨xs, h⟩ | ⟨xs, h⟩
    · exact .inl ⟨xs, m _ _ h⟩
    · exact .inr (.inl ⟨xs, m _ _ h⟩)
    · exact .inr (.inr ⟨xs, m _ _ h⟩)
  | byt b => exact h.elim
  | flt b => exact h.elim
  | ty b => exact h.elim
  | _ => trivial
theorem AK.kind {H : Hp} {p : Addr} {x : V} (h : AK H p x) : ∃ s, Kind H x s := by
  cases x with
  | non => exact ⟨_, .non⟩
  | bl b => exact ⟨_, .bl b⟩
  | int i => exact ⟨_, .int i⟩
  | str z => exact ⟨_, .str z⟩
  | ref a =>
    rcases h with ⟨xs, h⟩ | ⟨xs, h⟩ | ⟨xs, h⟩
    · exact ⟨_, .lst h.1⟩
    · exact ⟨_, .tup h.1⟩
    · exact ⟨_, .dK h.1⟩
  | byt b => exact h.elim
  | flt b => exact h.elim
  | ty b => exact h.elim
local macro_rules | `(tactic| walk_at "pl") => `(tactic| first
  | assumption
  | ((with_reducible refine' Pool.upd ?k1 ?k2); (case k2 => assumption); (case k1 => walk_at "pl")))
local macro_rules | `(tactic| walk_at "af") => `(tactic| first
  | assumption
  | ((with_reducible refine' Af.upd ?k1 ?k2); (case k2 => assumption); (case k1 => walk_at "pl"))
  | ((with_reducible refine' Af.keep ?k1 ?k2 ?k3); (case k2 => assumption); (case k1 => walk_at "pl"); (case k3 => walk_at "af"))
  | ((with_reducible refine' Af.mo (by assumption) ?_); walk_at "af"))
local macro_rules | `(tactic| walk_at "ne") => `(tactic| first | assumption | (refine Ne.symm ?_; assumption))
local macro_rules | `(tactic| walk_at "hp") => `(tactic| first
  | assumption
  | exact upd_same
  | ((with_reducible refine' upd_get (by assumption) ?_); walk_at "hp")
  | ((with_reducible refine' upd_at ?k1 ?_); (case k1 => walk_at "ne"); walk_at "hp"))
local macro_rules | `(tactic| walk_at "vc1") => `(tactic| first
  | (with_reducible refine' v_seq ?_)
  | (with_reducible refine' v_asg ?_)
  | ((with_reducible refine' v_var ?k1 ?_); (case k1 => exact rfl))
  | (with_reducible refine' v_c ?_)
  | (with_reducible refine' v_op ?_)
  | (with_reducible refine' v_I0 ?_)
  | (with_reducible refine' v_name ?_)
  | (with_reducible refine' v_cons ?_)
  | (with_reducible refine' v_nil ?_)
  | (with_reducible refine' v_cb ?_)
  | (with_reducible refine' v_int ?_)
  | (with_reducible refine' v_abs ?_)
  | (with_reducible refine' v_ifs ?_)
  | (with_reducible refine' v_test ?_)
  | (with_reducible refine' v_B ?_)
  | (with_reducible refine' v_bl ?_)
  | (with_reducible refine' v_and ?_)
  | (with_reducible refine' v_or ?_)
  | (with_reducible refine' v_not ?_)
  | (with_reducible refine' v_eqI ?_)
  | (with_reducible refine' v_neI ?_)
  | (with_reducible refine' v_ret ?_)
  | (with_reducible refine' v_retN ?_)
  | (with_reducible refine' v_next ?_)
  | (with_reducible refine' v_drop ?_)
  | (with_reducible refine' v_call ?_)
  | (with_reducible refine' v_sub ?_)
  | (with_reducible refine' v_lst ?_)
  | (with_reducible refine' v_tup ?_)
  | (with_reducible refine' v_sl ?_)
  | (with_reducible refine' v_nopart ?_)
  | (with_reducible refine' v_part ?_)
  | (with_reducible refine' v_partI ?_)
  | (with_reducible refine' v_if ?_)
  | (with_reducible refine' v_chain ?_)
  | (with_reducible refine' v_andV ?_)
  | (with_reducible refine' v_orV ?_)
  | (with_reducible refine' v_notV ?_)
  | (with_reducible refine' v_un ?_)
  | (with_reducible refine' v_U ?_)
  | (with_reducible refine' v_isN ?_)
  | (with_reducible refine' v_notN ?_)
  | (with_reducible refine' v_eqB ?_)
  | (with_reducible refine' v_neB ?_)
  | (with_reducible refine' v_yes ?_)
  | (with_reducible refine' v_dnew ?_)
  | (with_reducible refine' v_iteT ?_)
  | (with_reducible refine' v_iteF ?_)
  | (with_reducible refine' v_iteNT ?_)
  | (with_reducible refine' v_iteNF ?_)
  | (with_reducible refine' v_for ?_)
  | (with_reducible refine' v_lc ?_)
  | (with_reducible refine' v_iR1 ?_)
  | (with_reducible refine' v_iR2 ?_)
  | (with_reducible refine' v_iL ?_)
  | (with_reducible refine' v_iT ?_)
  | (with_reducible refine' v_bm ?_)
  | (with_reducible refine' v_bm0 ?_)
  | (with_reducible refine' v_tRg2 ?_)
  | (with_reducible refine' v_tRg1 ?_)
  | (with_reducible refine' v_rg2e ?_)
  | (with_reducible refine' v_rg1e ?_)
  | (with_reducible refine' v_lstRg ?_)
  | (with_reducible refine' v_tupRg ?_)
  | ((with_reducible refine' v_bmL ?k1 ?_); (case k1 => walk_at "hp"))
  | ((with_reducible refine' v_bm0L ?k1 ?_); (case k1 => walk_at "hp"))
  | (with_reducible refine' v_fld ?_)
  | (with_reducible refine' v_makeS ?_)
  | (with_reducible refine' v_make ?_)
  | (with_reducible refine' v_xf ?_)
  | (with_reducible refine' v_stf ?_)
  | (with_reducible refine' v_raiseO ?_)
  | (with_reducible refine' v_raise0 ?_)
  | (with_reducible refine' v_callS ?_)
  | (with_reducible refine' v_par ?_)
  | (with_reducible refine' v_parK ?_)
  | ((with_reducible refine' v_ixL' ?k1 ?k2 ?_); (case k1 => walk_at "hp"); (case k2 => exact rfl))
  | ((with_reducible refine' v_ixT' ?k1 ?k2 ?_); (case k1 => walk_at "hp"); (case k2 => exact rfl))
  | ((with_reducible refine' v_setL ?k1 ?k2 ?_); (case k1 => walk_at "hp"); (case k2 => exact rfl))
  | ((with_reducible refine' v_lenL' ?k1 ?_); (case k1 => walk_at "hp"))
  | ((with_reducible refine' v_lenT' ?k1 ?_); (case k1 => walk_at "hp"))
  | ((with_reducible refine' v_bound ?k1 ?_); (case k1 => (first | decide | omega | (simp only [List.length_cons, List.length_nil]; omega)))))
local macro_rules | `(tactic| walk_at "vc") => `(tactic| repeat (walk_at "vc1"))
/-! ### the draw -/
section
variable {K : PySem.W.Frag}
/-! ### the pool's making -/
theorem take_snoc {α : Type} : ∀ {l : List α} {i : Nat} {x : α}, l[i]? = some x → l.take (i + 1) = l.take i ++ [x]
  | [], i, x, h => by simp at h
  | a :: l, 0, x, h => by
    have e : a = x := Option.some.inj h
    subst e
    rfl
  | a :: l, i + 1, x, h => by
    have ih := take_snoc (l := l) (i := i) (x := x) h
    show a :: l.take (i + 1) = a :: l.take i ++ [x]
    rw [ih]
    rfl
theorem cut_map (ns : List Int) (lo hi : Option Int) : ∃ ms : List Int, cutV (ns.map V.int) lo hi = ms.map V.int ∧ ms.length ≤ ns.length := by
  unfold cutV
  refine ⟨(ns.drop (HT.sIx (ns.map V.int).length 0 lo)).take (HT.sIx (ns.map V.int).length (ns.map V.int).length hi - HT.sIx (ns.map V.int).length 0 lo), ?_, ?_⟩
  · rw [List.map_take, List.map_drop]
  · rw [List.length_take, List.length_drop]
    omega
theorem map_get {ns : List Int} {i : Nat} {x : V} (h : (ns.map V.int)[i]? = some x) : ∃ n : Int, x = .int n := by
  rw [List.getElem?_map] at h
  cases e : ns[i]? with
  | none => rw [e] at h; cases h
  | some z => rw [e] at h; exact ⟨z, (Option.some.inj h).symm⟩
end

/-- the tables of code objects that the law's lambdas use (k31: law), and the names in them -/
def tabT : List (Addr × Str) := [(365, (("law" : Str) ++ ".<locals>.") ++ "<lambda>")]

abbrev TabS := LamX.TabS
/-- the tables are there, and no others -/
def TabOk (F : Hp) : Prop := (∀ p ∈ tabT, TabS F p.1 p.2) ∧ ∀ a ps, F a = some (.tbl ps) → ∃ p ∈ tabT, p.1 = a

/-- a dict, locked or not -/
def core : HO → HO
  | .frz _ (.dK k) => .dK k
  | .frz _ (.dT k) => .dT k
  | .tbl _ => .tbl #[]
  | o => o
def isDct : HO → Bool
  | .dK _ => true
  | .dT _ => true
  | _ => false
def isTbl : HO → Bool
  | .tbl _ => true
  | _ => false
/-- what may change where it stands -/
def isMv : HO → Bool
  | .dK _ => true
  | .dT _ => true
  | .tbl _ => true
  | _ => false
/-- the object stays, or is locked now, or is a table -/
def UpH (o o' : HO) : Prop := o' = o ∨ (∃ od, isDct o = true ∧ o' = .frz od o) ∨ isTbl o = true
/-- the same where tables are known: they grow well -/
def Up (F F' : Hp) (a : Addr) (o o' : HO) : Prop := o' = o ∨ (∃ od, isDct o = true ∧ o' = .frz od o) ∨ (isTbl o = true ∧ isTbl o' = true ∧ ∀ q, (a, q) ∈ tabT → TabS F a q → TabS F' a q)
theorem Up.toH {F F' : Hp} {a : Addr} {o o' : HO} (h : Up F F' a o o') : UpH o o' := h.elim .inl fun h => .inr (h.elim .inl fun h => .inr h.1)
theorem dct_tbl {o : HO} (h : isDct o = true) (k : isTbl o = true) : False := by cases o <;> cases h <;> cases k
theorem Up.tbl {F F' : Hp} {a : Addr} {o o' : HO} (h : Up F F' a o o') (k : isTbl o = true) : isTbl o' = true := by
  rcases h with rfl | ⟨od, e, rfl⟩ | ⟨_, h, _⟩
  · exact k
  · exact (dct_tbl e k).elim
  · exact h
theorem UpH.core {o o' : HO} (n : isTbl o = false) (h : UpH o o') : Fv.core o' = Fv.core o := by
  rcases h with rfl | ⟨od, e, rfl⟩ | h
  · rfl
  · cases o <;> first | rfl | cases e
  · rw [n] at h; cases h
theorem UpH.trans {o o1 o2 : HO} (h : UpH o o1) (k : UpH o1 o2) : UpH o o2 := by
  rcases h with rfl | ⟨od, e, rfl⟩ | h
  · exact k
  · rcases k with rfl | ⟨od', e', rfl⟩ | k
    · exact .inr (.inl ⟨od, e, rfl⟩)
    · cases e'
    · cases k
  · exact .inr (.inr h)
theorem mv_dct {o : HO} (h : isDct o = true) : isMv o = true := by cases o <;> first | rfl | cases h
theorem mv_tbl {o : HO} (h : isTbl o = true) : isMv o = true := by cases o <;> first | rfl | cases h
theorem UpH.ex {o o' : HO} (n : isMv o = false) (h : UpH o o') : o' = o := by
  rcases h with rfl | ⟨od, e, rfl⟩ | h
  · rfl
  · rw [mv_dct e] at n; cases n
  · rw [mv_tbl h] at n; cases n
theorem Up.ex {F F' : Hp} {a : Addr} {o o' : HO} (n : isMv o = false) (h : Up F F' a o o') : o' = o := h.toH.ex n
/-- objects stay; a dict may be locked, a table may grow -/
structure Sm (F F' : Hp) : Prop where
  up : ∀ a o, F a = some o → ∃ o', F' a = some o' ∧ Up F F' a o o'
  nt : ∀ a ps, F' a = some (.tbl ps) → ∃ ps0, F a = some (.tbl ps0)
instance sm_fun {F F' : Hp} : CoeFun (Sm F F') fun _ => ∀ a o, F a = some o → ∃ o', F' a = some o' ∧ Up F F' a o o' := ⟨Sm.up⟩
def SmH (F F' : Hp) : Prop := ∀ a o, F a = some o → ∃ o', F' a = some o' ∧ UpH o o'
theorem Sm.toH {F F' : Hp} (s : Sm F F') : SmH F F' := fun a o h => let ⟨o', h', e⟩ := s a o h; ⟨o', h', e.toH⟩
instance smH_coe {F F' : Hp} : Coe (Sm F F') (SmH F F') := ⟨Sm.toH⟩
theorem Sm.ex {F F' : Hp} (s : Sm F F') {a : Addr} {o : HO} (n : isMv o = false) (h : F a = some o) : F' a = some o := by
  obtain ⟨o', h', e⟩ := s a o h
  rw [h', e.ex n]
theorem TabS.sm {F F' : Hp} {a : Addr} {q : Str} (m : (a, q) ∈ tabT) (t : TabS F a q) (s : Sm F F') : TabS F' a q := by
  obtain ⟨ps, h1, h2, h3⟩ := t
  obtain ⟨o', h', e⟩ := s a _ h1
  rcases e with rfl | ⟨od, z, _⟩ | ⟨_, _, g⟩
  · refine ⟨ps, h', h2, fun pos cv hc => ?_⟩
    obtain ⟨c, e1, e2⟩ := h3 pos cv hc
    exact ⟨c, e1, s.ex rfl e2⟩
  · cases z
  · exact g q m ⟨ps, h1, h2, h3⟩
theorem TabOk.sm {F F' : Hp} (t : TabOk F) (s : Sm F F') : TabOk F' := ⟨fun p hp => TabS.sm hp (t.1 p hp) s, fun a ps h => let ⟨p0, h0⟩ := s.nt a ps h; t.2 a p0 h0⟩
theorem Sm.refl (F : Hp) : Sm F F := ⟨fun a o h => ⟨o, h, .inl rfl⟩, fun a ps h => ⟨ps, h⟩⟩
theorem Sm.trans {F F' F'' : Hp} (s : Sm F F') (t : Sm F' F'') : Sm F F'' := ⟨fun a o h => by
  obtain ⟨o1, h1, e1⟩ := s a o h
  obtain ⟨o2, h2, e2⟩ := t a o1 h1
  refine ⟨o2, h2, ?_⟩
  rcases e1.toH.trans e2.toH with h | h | h
  · exact .inl h
  · exact .inr (.inl h)
  · exact .inr (.inr ⟨h, e2.tbl (e1.tbl h), fun q m z => TabS.sm m (TabS.sm m z s) t⟩), fun a ps h => let ⟨p1, h1⟩ := t.nt a ps h; s.nt a p1 h1⟩
theorem _root_.L2.Same.sm {F F' : Hp} (s : Same F F') (n : ∀ a ps, F' a = some (.tbl ps) → ∃ ps0, F a = some (.tbl ps0)) : Sm F F' := ⟨fun a o h => ⟨o, s a o h, .inl rfl⟩, n⟩
theorem _root_.L2.Same.smH {F F' : Hp} (s : Same F F') : SmH F F' := fun a o h => ⟨o, s a o h, .inl rfl⟩
theorem SmH.refl (F : Hp) : SmH F F := (Sm.refl F).toH
theorem SmH.trans {F F' F'' : Hp} (s : SmH F F') (t : SmH F' F'') : SmH F F'' := fun a o h => by
  obtain ⟨o1, h1, e1⟩ := s a o h
  obtain ⟨o2, h2, e2⟩ := t a o1 h1
  exact ⟨o2, h2, e1.trans e2⟩
theorem SmH.free {F F' : Hp} (s : SmH F F') {a : Addr} (h : F' a = none) : F a = none := by
  cases e : F a with
  | none => rfl
  | some o =>
    obtain ⟨o', h', _⟩ := s a o e
    rw [h] at h'
    cases h'
theorem Sm.free {F F' : Hp} (s : Sm F F') {a : Addr} (h : F' a = none) : F a = none := s.toH.free h
theorem SmH.ex {F F' : Hp} (s : SmH F F') {a : Addr} {o : HO} (n : isMv o = false) (h : F a = some o) : F' a = some o := by
  obtain ⟨o', h', e⟩ := s a o h
  rw [h', e.ex n]
/-- what stands for a dict -/
def DObj : Bool → List (List Key × V) → HO → Prop
  | true, kvs, o => o = .dT kvs
  | false, kvs, o => ∃ k0 : List (Key × V), o = .dK k0 ∧ kvs = k0.map fun p => ([p.1], p.2)
theorem DObj.core {t : Bool} {kvs : List (List Key × V)} {o : HO} (h : DObj t kvs o) : Fv.core o = o := by
  cases t with
  | true => rw [show o = _ from h]; rfl
  | false => obtain ⟨k0, e, _⟩ := h; rw [e]; rfl
theorem DObj.nt {t : Bool} {kvs : List (List Key × V)} {o : HO} (h : DObj t kvs (Fv.core o)) : isTbl o = false := by
  cases o with
  | tbl ps =>
    cases t with
    | true => cases (show Fv.core (.tbl ps) = .dT kvs from h)
    | false => obtain ⟨k0, e, _⟩ := h; cases e
  | _ => rfl
theorem DObj.uniq {t : Bool} {xs ys : List (List Key × V)} {o : HO} (h : DObj t xs o) (k : DObj t ys o) : xs = ys := by
  cases t with
  | true =>
    have h : o = .dT xs := h
    have k : o = .dT ys := k
    rw [h] at k
    injection k
  | false =>
    obtain ⟨a, e1, e2⟩ := h
    obtain ⟨b, e3, e4⟩ := k
    rw [e1] at e3
    injection e3 with e3
    rw [e2, e4, e3]
/-- data: what never changes -/
inductive D where
  | non | bl (b : Bool) | int (i : Int) | str (s : Str) | ty (n : String) | cls (a : Addr)
  | tup (ds : List D) | lst (ds : List D) | ztp (ns : List Int) | dct (t : Bool) (kvs : List (List Key × D)) | ins (C : Addr) (fs : List (Str × D))
/-- owned objects: what no one else reaches -/
inductive O where
  | fr (d : D) | lst (os : List O) | dct (t : Bool) (kvs : List (List Key × O)) | ins (C : Addr) (fs : List (Str × O))
/-- a slot: unknown, own, borrowed of the caller -/
inductive S where
  | un | ow (o : O) | bo (o : O)
/-- a tuple of whole numbers whose very object is known: it has no dict of its own -/
@[irreducible] def ZRep (F : Hp) (ns : List Int) (x : V) : Prop := ∃ a ob, x = .ref a ∧ F a = some (.frz ob (.tup (ns.map V.int))) ∧ ob.dict = none
theorem ZRep.out {F : Hp} {ns : List Int} {x : V} (h : ZRep F ns x) : ∃ a ob, x = .ref a ∧ F a = some (.frz ob (.tup (ns.map V.int))) ∧ ob.dict = none := by
  unfold ZRep at h
  exact h
theorem ZRep.mk {F : Hp} {ns : List Int} {a : Addr} {ob : Obj} (h : F a = some (.frz ob (.tup (ns.map V.int)))) (d : ob.dict = none) : ZRep F ns (.ref a) := by
  unfold ZRep
  exact ⟨a, ob, rfl, h, d⟩
theorem ZRep.mono {F F' : Hp} (s : SmH F F') {ns : List Int} {x : V} (h : ZRep F ns x) : ZRep F' ns x := by
  obtain ⟨a, ob, rfl, q, r⟩ := h.out
  exact .mk (s.ex rfl q) r
mutual
def Rep (F : Hp) : D → V → Prop
  | .non, x => x = .non
  | .bl b, x => x = .bl b
  | .int i, x => x = .int i
  | .str s, x => x = .str s
  | .ty n, x => x = .ty n
  | .cls a, x => x = .ref a
  | .tup ds, x => ∃ a xs, x = .ref a ∧ F a = some (.tup xs) ∧ RepL F ds xs
  | .lst ds, x => ∃ a xs, x = .ref a ∧ F a = some (.lst xs) ∧ RepL F ds xs
  | .ztp ns, x => ZRep F ns x
  | .dct t kds, x => ∃ a o kvs, x = .ref a ∧ F a = some o ∧ DObj t kvs (core o) ∧ RepM F kds kvs
  | .ins C gs, x => ∃ a dx fs, x = .ref a ∧ F a = some (.ins C dx fs) ∧ RepF F gs fs
def RepL (F : Hp) : List D → List V → Prop
  | [], xs => xs = []
  | d :: ds, xs => ∃ x r, xs = x :: r ∧ Rep F d x ∧ RepL F ds r
def RepM (F : Hp) : List (List Key × D) → List (List Key × V) → Prop
  | [], xs => xs = []
  | (k, d) :: ds, xs => ∃ x r, xs = (k, x) :: r ∧ Rep F d x ∧ RepM F ds r
def RepF (F : Hp) : List (Str × D) → List (Str × V) → Prop
  | [], xs => xs = []
  | (k, d) :: ds, xs => ∃ x r, xs = (k, x) :: r ∧ Rep F d x ∧ RepF F ds r
end
mutual
theorem Rep.mono {F F' : Hp} (s : SmH F F') : ∀ {d : D} {x : V}, Rep F d x → Rep F' d x
  | .non, _, h => h
  | .bl _, _, h => h
  | .int _, _, h => h
  | .str _, _, h => h
  | .ty _, _, h => h
  | .cls _, _, h => h
  | .tup ds, _, h => let ⟨a, xs, e, q, r⟩ := h; ⟨a, xs, e, s.ex rfl q, RepL.mono s r⟩
  | .lst ds, _, h => let ⟨a, xs, e, q, r⟩ := h; ⟨a, xs, e, s.ex rfl q, RepL.mono s r⟩
  | .ztp _, _, h => ZRep.mono s h
  | .dct t ds, _, h => let ⟨a, o, xs, e, q, c, r⟩ := h; let ⟨o', q', c'⟩ := s _ _ q; ⟨a, o', xs, e, q', by rw [c'.core c.nt]; exact c, RepM.mono s r⟩
  | .ins _ ds, _, h => let ⟨a, dx, xs, e, q, r⟩ := h; ⟨a, dx, xs, e, s.ex rfl q, RepF.mono s r⟩
theorem RepL.mono {F F' : Hp} (s : SmH F F') : ∀ {ds : List D} {xs : List V}, RepL F ds xs → RepL F' ds xs
  | [], _, h => h
  | d :: ds, _, h => let ⟨x, r, e, q, t⟩ := h; ⟨x, r, e, Rep.mono s q, RepL.mono s t⟩
theorem RepM.mono {F F' : Hp} (s : SmH F F') : ∀ {ds : List (List Key × D)} {xs : List (List Key × V)}, RepM F ds xs → RepM F' ds xs
  | [], _, h => h
  | (k, d) :: ds, _, h => let ⟨x, r, e, q, t⟩ := h; ⟨x, r, e, Rep.mono s q, RepM.mono s t⟩
theorem RepF.mono {F F' : Hp} (s : SmH F F') : ∀ {ds : List (Str × D)} {xs : List (Str × V)}, RepF F ds xs → RepF F' ds xs
  | [], _, h => h
  | (k, d) :: ds, _, h => let ⟨x, r, e, q, t⟩ := h; ⟨x, r, e, Rep.mono s q, RepF.mono s t⟩
end
/-- the object itself stands in H, what it holds in F -/
def RepP (F H : Hp) : D → V → Prop
  | .lst ds, x => ∃ a xs, x = .ref a ∧ H a = some (.lst xs) ∧ RepL F ds xs
  | .dct t kds, x => ∃ a o kvs, x = .ref a ∧ H a = some o ∧ DObj t kvs (core o) ∧ RepM F kds kvs
  | .ins C gs, x => ∃ a dx fs, x = .ref a ∧ H a = some (.ins C dx fs) ∧ RepF F gs fs
  | d, x => Rep F d x
theorem Rep.toP {F H : Hp} (s : Same F H) {d : D} {x : V} (h : Rep F d x) : RepP F H d x := by
  cases d with
  | lst ds => obtain ⟨a, xs, e, q, r⟩ := h; exact ⟨a, xs, e, s _ _ q, r⟩
  | dct t ds => obtain ⟨a, o, xs, e, q, c, r⟩ := h; exact ⟨a, o, xs, e, s _ _ q, c, r⟩
  | ins C ds => obtain ⟨a, dx, xs, e, q, r⟩ := h; exact ⟨a, dx, xs, e, s _ _ q, r⟩
  | _ => exact h
theorem RepP.toH {F H : Hp} (s : Same F H) {d : D} {x : V} (h : RepP F H d x) : Rep H d x := by
  cases d with
  | lst ds => obtain ⟨a, xs, e, q, r⟩ := h; exact ⟨a, xs, e, q, RepL.mono s.smH r⟩
  | dct t ds => obtain ⟨a, o, xs, e, q, c, r⟩ := h; exact ⟨a, o, xs, e, q, c, RepM.mono s.smH r⟩
  | ins C ds => obtain ⟨a, dx, xs, e, q, r⟩ := h; exact ⟨a, dx, xs, e, q, RepF.mono s.smH r⟩
  | _ => exact Rep.mono s.smH h
theorem RepL.length {F : Hp} : ∀ {ds : List D} {xs : List V}, RepL F ds xs → xs.length = ds.length
  | [], _, h => by rw [show _ = [] from h]; rfl
  | d :: ds, _, ⟨x, r, e, _, t⟩ => by rw [e, List.length_cons, List.length_cons, RepL.length t]
theorem RepL.get {F : Hp} : ∀ {ds : List D} {xs : List V} {i : Nat} {d : D}, RepL F ds xs → ds[i]? = some d → ∃ x, xs[i]? = some x ∧ Rep F d x
  | [], _, _, _, _, e => by simp at e
  | d :: ds, _, 0, _, ⟨x, r, e, q, _⟩, z => by
    cases z
    exact ⟨x, by rw [e]; rfl, q⟩
  | d :: ds, _, i + 1, _, ⟨x, r, e, _, t⟩, z => by
    obtain ⟨y, h1, h2⟩ := RepL.get (i := i) t z
    exact ⟨y, by rw [e]; exact h1, h2⟩
theorem RepL.app {F : Hp} : ∀ {ds es : List D} {xs ys : List V}, RepL F ds xs → RepL F es ys → RepL F (ds ++ es) (xs ++ ys)
  | [], _, _, _, h, k => by rw [show _ = [] from h]; exact k
  | d :: ds, _, _, _, ⟨x, r, e, q, t⟩, k => by rw [e]; exact ⟨x, _, rfl, q, RepL.app t k⟩
theorem RepL.take {F : Hp} : ∀ (n : Nat) {ds : List D} {xs : List V}, RepL F ds xs → RepL F (ds.take n) (xs.take n)
  | 0, _, _, h => by rw [List.take_zero, List.take_zero]; rfl
  | n + 1, [], _, h => by rw [show _ = [] from h]; rfl
  | n + 1, d :: ds, _, ⟨x, r, e, q, t⟩ => by rw [e]; exact ⟨x, _, rfl, q, RepL.take n t⟩
theorem RepL.drop {F : Hp} : ∀ (n : Nat) {ds : List D} {xs : List V}, RepL F ds xs → RepL F (ds.drop n) (xs.drop n)
  | 0, _, _, h => h
  | n + 1, [], _, h => by rw [show _ = [] from h]; rfl
  | n + 1, d :: ds, _, ⟨x, r, e, q, t⟩ => by rw [e]; exact RepL.drop n t
theorem RepL.ints {F : Hp} : ∀ {ns : List Int} {xs : List V}, RepL F (ns.map D.int) xs → xs = ns.map V.int
  | [], _, h => h
  | n :: ns, _, ⟨x, r, e, q, t⟩ => by rw [e, show x = _ from q, RepL.ints t]; rfl
theorem RepL.ofInts {F : Hp} : ∀ (ns : List Int), RepL F (ns.map D.int) (ns.map V.int)
  | [] => rfl
  | n :: ns => ⟨_, _, rfl, rfl, RepL.ofInts ns⟩
theorem RepL.bls {F : Hp} : ∀ {ns : List Bool} {xs : List V}, RepL F (ns.map D.bl) xs → xs = ns.map V.bl
  | [], _, h => h
  | n :: ns, _, ⟨x, r, e, q, t⟩ => by rw [e, show x = _ from q, RepL.bls t]; rfl
theorem RepL.set {F : Hp} : ∀ {ds : List D} {xs : List V} (i : Nat) {d : D} {x : V}, RepL F ds xs → Rep F d x → RepL F (ds.set i d) (xs.set i x)
  | [], _, _, _, _, h, _ => by rw [show _ = [] from h]; rfl
  | d :: ds, _, 0, _, _, ⟨x, r, e, q, t⟩, z => by rw [e]; exact ⟨_, _, rfl, z, t⟩
  | d :: ds, _, i + 1, _, _, ⟨x, r, e, q, t⟩, z => by rw [e]; exact ⟨_, _, rfl, q, RepL.set i t z⟩
theorem RepF.lookup {F : Hp} {f : Str} : ∀ {gs : List (Str × D)} {fs : List (Str × V)} {d : D}, RepF F gs fs → gs.lookup f = some d → ∃ x, fs.lookup f = some x ∧ Rep F d x
  | [], _, _, _, e => by cases e
  | (k, d) :: gs, _, e, ⟨x, r, q, h, t⟩, z => by
    rw [q]
    unfold List.lookup at z ⊢
    split at z
    · cases z
      exact ⟨x, rfl, h⟩
    · exact RepF.lookup t z
/-! ### owned objects -/
mutual
def RepO (F H : Hp) : O → V → List Addr → Prop
  | .fr d, x, A => A = [] ∧ Rep F d x
  | .lst os, x, A => ∃ a xs B, x = .ref a ∧ A = a :: B ∧ H a = some (.lst xs) ∧ RepOL F H os xs B
  | .dct t kos, x, A => ∃ a o kvs B, x = .ref a ∧ A = a :: B ∧ H a = some o ∧ DObj t kvs o ∧ RepOM F H kos kvs B
  | .ins C gs, x, A => ∃ a dx fs B, x = .ref a ∧ A = a :: B ∧ H a = some (.ins C dx fs) ∧ RepOF F H gs fs B
def RepOL (F H : Hp) : List O → List V → List Addr → Prop
  | [], xs, A => xs = [] ∧ A = []
  | o :: os, xs, A => ∃ x r B C, xs = x :: r ∧ A = B ++ C ∧ RepO F H o x B ∧ RepOL F H os r C
def RepOM (F H : Hp) : List (List Key × O) → List (List Key × V) → List Addr → Prop
  | [], xs, A => xs = [] ∧ A = []
  | (k, o) :: os, xs, A => ∃ x r B C, xs = (k, x) :: r ∧ A = B ++ C ∧ RepO F H o x B ∧ RepOM F H os r C
def RepOF (F H : Hp) : List (Str × O) → List (Str × V) → List Addr → Prop
  | [], xs, A => xs = [] ∧ A = []
  | (k, o) :: os, xs, A => ∃ x r B C, xs = (k, x) :: r ∧ A = B ++ C ∧ RepO F H o x B ∧ RepOF F H os r C
end
mutual
def O.frz : O → D
  | .fr d => d
  | .lst os => .lst (O.frzL os)
  | .dct t kos => .dct t (O.frzM kos)
  | .ins C gs => .ins C (O.frzF gs)
def O.frzL : List O → List D
  | [] => []
  | o :: os => o.frz :: O.frzL os
def O.frzM : List (List Key × O) → List (List Key × D)
  | [] => []
  | (k, o) :: os => (k, o.frz) :: O.frzM os
def O.frzF : List (Str × O) → List (Str × D)
  | [] => []
  | (k, o) :: os => (k, o.frz) :: O.frzF os
end
/-- the heap stays at A, the data grow -/
structure Stay (F H : Hp) (A : List Addr) (F' H' : Hp) : Prop where
  f : Sm F F'
  h : ∀ a ∈ A, ∀ o, H a = some o → H' a = some o
theorem Stay.sub {F H F' H' : Hp} {A B : List Addr} (s : Stay F H A F' H') (i : ∀ a ∈ B, a ∈ A) : Stay F H B F' H' := ⟨s.f, fun a h => s.h a (i a h)⟩
mutual
theorem RepO.stay {F H F' H' : Hp} : ∀ {o : O} {x : V} {A : List Addr}, Stay F H A F' H' → RepO F H o x A → RepO F' H' o x A
  | .fr d, _, _, s, ⟨e, r⟩ => ⟨e, r.mono s.f.toH⟩
  | .lst os, _, _, s, ⟨a, xs, B, e, eA, h, r⟩ => ⟨a, xs, B, e, eA, s.h a (by rw [eA]; exact List.mem_cons_self) _ h, RepOL.stay (s.sub fun b hb => by rw [eA]; exact List.mem_cons_of_mem _ hb) r⟩
  | .dct t os, _, _, s, ⟨a, o, xs, B, e, eA, h, c, r⟩ => ⟨a, o, xs, B, e, eA, s.h a (by rw [eA]; exact List.mem_cons_self) _ h, c, RepOM.stay (s.sub fun b hb => by rw [eA]; exact List.mem_cons_of_mem _ hb) r⟩
  | .ins C os, _, _, s, ⟨a, dx, xs, B, e, eA, h, r⟩ => ⟨a, dx, xs, B, e, eA, s.h a (by rw [eA]; exact List.mem_cons_self) _ h, RepOF.stay (s.sub fun b hb => by rw [eA]; exact List.mem_cons_of_mem _ hb) r⟩
theorem RepOL.stay {F H F' H' : Hp} : ∀ {os : List O} {xs : List V} {A : List Addr}, Stay F H A F' H' → RepOL F H os xs A → RepOL F' H' os xs A
  | [], _, _, _, h => h
  | o :: os, _, _, s, ⟨x, r, B, C, e, eA, h, t⟩ => ⟨x, r, B, C, e, eA, RepO.stay (s.sub fun b hb => by rw [eA]; exact List.mem_append_left _ hb) h, RepOL.stay (s.sub fun b hb => by rw [eA]; exact List.mem_append_right _ hb) t⟩
theorem RepOM.stay {F H F' H' : Hp} : ∀ {os : List (List Key × O)} {xs : List (List Key × V)} {A : List Addr}, Stay F H A F' H' → RepOM F H os xs A → RepOM F' H' os xs A
  | [], _, _, _, h => h
  | (k, o) :: os, _, _, s, ⟨x, r, B, C, e, eA, h, t⟩ => ⟨x, r, B, C, e, eA, RepO.stay (s.sub fun b hb => by rw [eA]; exact List.mem_append_left _ hb) h, RepOM.stay (s.sub fun b hb => by rw [eA]; exact List.mem_append_right _ hb) t⟩
theorem RepOF.stay {F H F' H' : Hp} : ∀ {os : List (Str × O)} {xs : List (Str × V)} {A : List Addr}, Stay F H A F' H' → RepOF F H os xs A → RepOF F' H' os xs A
  | [], _, _, _, h => h
  | (k, o) :: os, _, _, s, ⟨x, r, B, C, e, eA, h, t⟩ => ⟨x, r, B, C, e, eA, RepO.stay (s.sub fun b hb => by rw [eA]; exact List.mem_append_left _ hb) h, RepOF.stay (s.sub fun b hb => by rw [eA]; exact List.mem_append_right _ hb) t⟩
end
/-! of what sort owned objects are -/
def ownK : HO → Bool
  | .lst _ => true
  | .dK _ => true
  | .dT _ => true
  | .ins _ _ _ => true
  | _ => false
theorem own_tbl {H : Hp} {a : Addr} {o : HO} (k : ∃ u, H a = some u ∧ ownK u = true) (h : H a = some o) : isTbl o = false := by
  obtain ⟨u, hu, hk⟩ := k
  rw [h] at hu
  cases hu
  cases o <;> first | rfl | cases hk
mutual
theorem RepO.kind {F H : Hp} : ∀ {o : O} {x : V} {A : List Addr}, RepO F H o x A → ∀ a ∈ A, ∃ u, H a = some u ∧ ownK u = true
  | .fr d, _, _, ⟨e, _⟩, a, ha => by rw [e] at ha; cases ha
  | .lst os, _, _, ⟨a, xs, B, _, eA, h, r⟩, b, hb => by
    rw [eA] at hb
    rcases List.mem_cons.mp hb with rfl | hb
    · exact ⟨_, h, rfl⟩
    · exact RepOL.kind r b hb
  | .dct t os, _, _, ⟨a, o, xs, B, _, eA, h, c, r⟩, b, hb => by
    rw [eA] at hb
    rcases List.mem_cons.mp hb with rfl | hb
    · refine ⟨_, h, ?_⟩
      cases t with
      | true => rw [show o = _ from c]; rfl
      | false => obtain ⟨k0, e, _⟩ := c; rw [e]; rfl
    · exact RepOM.kind r b hb
  | .ins C os, _, _, ⟨a, dx, xs, B, _, eA, h, r⟩, b, hb => by
    rw [eA] at hb
    rcases List.mem_cons.mp hb with rfl | hb
    · exact ⟨_, h, rfl⟩
    · exact RepOF.kind r b hb
theorem RepOL.kind {F H : Hp} : ∀ {os : List O} {xs : List V} {A : List Addr}, RepOL F H os xs A → ∀ a ∈ A, ∃ u, H a = some u ∧ ownK u = true
  | [], _, _, ⟨_, e⟩, a, ha => by rw [e] at ha; cases ha
  | o :: os, _, _, ⟨x, r, B, C, _, eA, h, t⟩, a, ha => by
    rw [eA] at ha
    exact (List.mem_append.mp ha).elim (RepO.kind h a) (RepOL.kind t a)
theorem RepOM.kind {F H : Hp} : ∀ {os : List (List Key × O)} {xs : List (List Key × V)} {A : List Addr}, RepOM F H os xs A → ∀ a ∈ A, ∃ u, H a = some u ∧ ownK u = true
  | [], _, _, ⟨_, e⟩, a, ha => by rw [e] at ha; cases ha
  | (k, o) :: os, _, _, ⟨x, r, B, C, _, eA, h, t⟩, a, ha => by
    rw [eA] at ha
    exact (List.mem_append.mp ha).elim (RepO.kind h a) (RepOM.kind t a)
theorem RepOF.kind {F H : Hp} : ∀ {os : List (Str × O)} {xs : List (Str × V)} {A : List Addr}, RepOF F H os xs A → ∀ a ∈ A, ∃ u, H a = some u ∧ ownK u = true
  | [], _, _, ⟨_, e⟩, a, ha => by rw [e] at ha; cases ha
  | (k, o) :: os, _, _, ⟨x, r, B, C, _, eA, h, t⟩, a, ha => by
    rw [eA] at ha
    exact (List.mem_append.mp ha).elim (RepO.kind h a) (RepOF.kind t a)
end
/-! all that is owned becomes data -/
mutual
theorem RepO.frz {F H G : Hp} (s : SmH F G) : ∀ {o : O} {x : V} {A : List Addr}, (∀ a ∈ A, ∀ u, H a = some u → G a = some u) → RepO F H o x A → Rep G o.frz x
  | .fr d, _, _, _, ⟨_, r⟩ => r.mono s
  | .lst os, _, _, g, ⟨a, xs, B, e, eA, h, r⟩ => ⟨a, xs, e, g a (by rw [eA]; exact List.mem_cons_self) _ h, RepOL.frz s (fun b hb => g b (by rw [eA]; exact List.mem_cons_of_mem _ hb)) r⟩
  | .dct t os, _, _, g, ⟨a, o, xs, B, e, eA, h, c, r⟩ => ⟨a, o, xs, e, g a (by rw [eA]; exact List.mem_cons_self) _ h, by rw [c.core]; exact c, RepOM.frz s (fun b hb => g b (by rw [eA]; exact List.mem_cons_of_mem _ hb)) r⟩
  | .ins C os, _, _, g, ⟨a, dx, xs, B, e, eA, h, r⟩ => ⟨a, dx, xs, e, g a (by rw [eA]; exact List.mem_cons_self) _ h, RepOF.frz s (fun b hb => g b (by rw [eA]; exact List.mem_cons_of_mem _ hb)) r⟩
theorem RepOL.frz {F H G : Hp} (s : SmH F G) : ∀ {os : List O} {xs : List V} {A : List Addr}, (∀ a ∈ A, ∀ u, H a = some u → G a = some u) → RepOL F H os xs A → RepL G (O.frzL os) xs
  | [], _, _, _, h => h.1
  | o :: os, _, _, g, ⟨x, r, B, C, e, eA, h, t⟩ => ⟨x, r, e, RepO.frz s (fun b hb => g b (by rw [eA]; exact List.mem_append_left _ hb)) h, RepOL.frz s (fun b hb => g b (by rw [eA]; exact List.mem_append_right _ hb)) t⟩
theorem RepOM.frz {F H G : Hp} (s : SmH F G) : ∀ {os : List (List Key × O)} {xs : List (List Key × V)} {A : List Addr}, (∀ a ∈ A, ∀ u, H a = some u → G a = some u) → RepOM F H os xs A → RepM G (O.frzM os) xs
  | [], _, _, _, h => h.1
  | (k, o) :: os, _, _, g, ⟨x, r, B, C, e, eA, h, t⟩ => ⟨x, r, e, RepO.frz s (fun b hb => g b (by rw [eA]; exact List.mem_append_left _ hb)) h, RepOM.frz s (fun b hb => g b (by rw [eA]; exact List.mem_append_right _ hb)) t⟩
theorem RepOF.frz {F H G : Hp} (s : SmH F G) : ∀ {os : List (Str × O)} {xs : List (Str × V)} {A : List Addr}, (∀ a ∈ A, ∀ u, H a = some u → G a = some u) → RepOF F H os xs A → RepF G (O.frzF os) xs
  | [], _, _, _, h => h.1
  | (k, o) :: os, _, _, g, ⟨x, r, B, C, e, eA, h, t⟩ => ⟨x, r, e, RepO.frz s (fun b hb => g b (by rw [eA]; exact List.mem_append_left _ hb)) h, RepOF.frz s (fun b hb => g b (by rw [eA]; exact List.mem_append_right _ hb)) t⟩
end
/-! what is owned is there -/
mutual
theorem RepO.there {F H : Hp} : ∀ {o : O} {x : V} {A : List Addr}, RepO F H o x A → ∀ a ∈ A, H a ≠ none
  | .fr d, _, _, ⟨e, _⟩, a, ha => by rw [e] at ha; cases ha
  | .lst os, _, _, ⟨b, xs, B, e, eA, h, r⟩, a, ha => by
    rw [eA] at ha
    rcases List.mem_cons.mp ha with z | ha
    · rw [z, h]; exact Option.some_ne_none _
    · exact RepOL.there r a ha
  | .dct t os, _, _, ⟨b, o, xs, B, e, eA, h, c, r⟩, a, ha => by
    rw [eA] at ha
    rcases List.mem_cons.mp ha with z | ha
    · rw [z, h]; exact Option.some_ne_none _
    · exact RepOM.there r a ha
  | .ins C os, _, _, ⟨b, dx, xs, B, e, eA, h, r⟩, a, ha => by
    rw [eA] at ha
    rcases List.mem_cons.mp ha with z | ha
    · rw [z, h]; exact Option.some_ne_none _
    · exact RepOF.there r a ha
theorem RepOL.there {F H : Hp} : ∀ {os : List O} {xs : List V} {A : List Addr}, RepOL F H os xs A → ∀ a ∈ A, H a ≠ none
  | [], _, _, ⟨_, e⟩, a, ha => by rw [e] at ha; cases ha
  | o :: os, _, _, ⟨x, r, B, C, e, eA, h, t⟩, a, ha => by
    rw [eA] at ha
    rcases List.mem_append.mp ha with ha | ha
    · exact RepO.there h a ha
    · exact RepOL.there t a ha
theorem RepOM.there {F H : Hp} : ∀ {os : List (List Key × O)} {xs : List (List Key × V)} {A : List Addr}, RepOM F H os xs A → ∀ a ∈ A, H a ≠ none
  | [], _, _, ⟨_, e⟩, a, ha => by rw [e] at ha; cases ha
  | (k, o) :: os, _, _, ⟨x, r, B, C, e, eA, h, t⟩, a, ha => by
    rw [eA] at ha
    rcases List.mem_append.mp ha with ha | ha
    · exact RepO.there h a ha
    · exact RepOM.there t a ha
theorem RepOF.there {F H : Hp} : ∀ {os : List (Str × O)} {xs : List (Str × V)} {A : List Addr}, RepOF F H os xs A → ∀ a ∈ A, H a ≠ none
  | [], _, _, ⟨_, e⟩, a, ha => by rw [e] at ha; cases ha
  | (k, o) :: os, _, _, ⟨x, r, B, C, e, eA, h, t⟩, a, ha => by
    rw [eA] at ha
    rcases List.mem_append.mp ha with ha | ha
    · exact RepO.there h a ha
    · exact RepOF.there t a ha
end

/-! ### slots -/
abbrev DEnv := List S
def RepSl (F H : Hp) : S → Option V → List Addr → Prop
  | .un, _, A => A = []
  | .ow o, v, A => ∃ x, v = some x ∧ RepO F H o x A
  | .bo o, v, A => ∃ x, v = some x ∧ RepO F H o x A
def RepS (F H : Hp) : DEnv → L2.St → List Addr → Prop
  | [], σ, A => σ = [] ∧ A = [] ∧ TabOk F
  | s :: env, σ, A => ∃ v r B C, σ = v :: r ∧ A = B ++ C ∧ RepSl F H s v B ∧ RepS F H env r C
theorem RepSl.stay {F H F' H' : Hp} {s : S} {v : Option V} {A : List Addr} (y : Stay F H A F' H') (h : RepSl F H s v A) : RepSl F' H' s v A := by
  cases s with
  | un => exact h
  | ow o => obtain ⟨x, e, r⟩ := h; exact ⟨x, e, r.stay y⟩
  | bo o => obtain ⟨x, e, r⟩ := h; exact ⟨x, e, r.stay y⟩
theorem RepS.stay {F H F' H' : Hp} : ∀ {env : DEnv} {σ : L2.St} {A : List Addr}, Stay F H A F' H' → RepS F H env σ A → RepS F' H' env σ A
  | [], _, _, y, ⟨e1, e2, e3⟩ => ⟨e1, e2, e3.sm y.f⟩
  | s :: env, _, _, y, ⟨v, r, B, C, e, eA, h, t⟩ => ⟨v, r, B, C, e, eA, RepSl.stay (y.sub fun b hb => by rw [eA]; exact List.mem_append_left _ hb) h, RepS.stay (y.sub fun b hb => by rw [eA]; exact List.mem_append_right _ hb) t⟩
theorem RepSl.there {F H : Hp} {s : S} {v : Option V} {A : List Addr} (h : RepSl F H s v A) : ∀ a ∈ A, H a ≠ none := by
  cases s with
  | un => intro a ha; rw [show A = [] from h] at ha; cases ha
  | ow o => obtain ⟨x, e, r⟩ := h; exact r.there
  | bo o => obtain ⟨x, e, r⟩ := h; exact r.there
theorem RepS.there {F H : Hp} : ∀ {env : DEnv} {σ : L2.St} {A : List Addr}, RepS F H env σ A → ∀ a ∈ A, H a ≠ none
  | [], _, _, ⟨_, e, _⟩, a, ha => by rw [e] at ha; cases ha
  | s :: env, _, _, ⟨v, r, B, C, e, eA, h, t⟩, a, ha => by
    rw [eA] at ha
    rcases List.mem_append.mp ha with ha | ha
    · exact h.there a ha
    · exact RepS.there t a ha
theorem RepSl.kind {F H : Hp} {s : S} {v : Option V} {A : List Addr} (h : RepSl F H s v A) : ∀ a ∈ A, ∃ u, H a = some u ∧ ownK u = true := by
  cases s with
  | un => intro a ha; rw [show A = [] from h] at ha; cases ha
  | ow o => obtain ⟨x, e, r⟩ := h; exact r.kind
  | bo o => obtain ⟨x, e, r⟩ := h; exact r.kind
theorem RepS.kind {F H : Hp} : ∀ {env : DEnv} {σ : L2.St} {A : List Addr}, RepS F H env σ A → ∀ a ∈ A, ∃ u, H a = some u ∧ ownK u = true
  | [], _, _, ⟨_, e, _⟩, a, ha => by rw [e] at ha; cases ha
  | s :: env, _, _, ⟨v, r, B, C, e, eA, h, t⟩, a, ha => by
    rw [eA] at ha
    exact (List.mem_append.mp ha).elim (h.kind a) (RepS.kind t a)
theorem RepS.tab {F H : Hp} : ∀ {env : DEnv} {σ : L2.St} {A : List Addr}, RepS F H env σ A → TabOk F
  | [], _, _, ⟨_, _, e⟩ => e
  | _ :: _, _, _, ⟨_, _, _, _, _, _, _, t⟩ => RepS.tab t
theorem RepS.len {F H : Hp} : ∀ {env : DEnv} {σ : L2.St} {A : List Addr}, RepS F H env σ A → σ.length = env.length
  | [], _, _, ⟨e, _⟩ => by rw [e]; rfl
  | s :: env, _, _, ⟨v, r, B, C, e, eA, h, t⟩ => by rw [e, List.length_cons, List.length_cons, RepS.len t]
/-- a slot taken out -/
theorem RepS.out {F H : Hp} : ∀ {env : DEnv} {σ : L2.St} {A : List Addr} {i : Nat} {s : S}, RepS F H env σ A → env[i]? = some s →
    ∃ v B R, σ[i]? = some v ∧ RepSl F H s v B ∧ A.Perm (B ++ R) ∧ RepS F H (env.set i .un) σ R
  | [], _, _, _, _, _, e => by simp at e
  | s :: env, _, _, 0, _, ⟨v, r, B, C, e, eA, h, t⟩, z => by
    cases z
    exact ⟨v, B, C, by rw [e]; rfl, h, by rw [eA], v, r, [], C, e, rfl, rfl, t⟩
  | s :: env, _, _, i + 1, _, ⟨v, r, B, C, e, eA, h, t⟩, z => by
    obtain ⟨v', B', R', h1, h2, h3, h4⟩ := RepS.out (i := i) t z
    refine ⟨v', B', B ++ R', by rw [e]; exact h1, h2, ?_, v, r, B, R', e, rfl, h, h4⟩
    rw [eA]
    exact (List.Perm.append_left B h3).trans (by
      rw [← List.append_assoc, ← List.append_assoc]
      exact List.Perm.append_right _ List.perm_append_comm)
/-- a slot filled -/
theorem RepS.put {F H : Hp} {s : S} {v : Option V} {B : List Addr} (h : RepSl F H s v B) : ∀ {env : DEnv} {σ : L2.St} {R : List Addr} {i : Nat}, RepS F H env σ R → env[i]? = some .un →
    ∃ A, A.Perm (B ++ R) ∧ RepS F H (env.set i s) (σ.set i v) A
  | [], _, _, _, _, e => by simp at e
  | u :: env, _, _, 0, ⟨w, r, B', C, e, eA, h', t⟩, z => by
    cases z
    refine ⟨B ++ C, ?_, v, r, B, C, by rw [e]; rfl, rfl, h, t⟩
    rw [eA, show B' = [] from h']
    exact List.Perm.refl _
  | u :: env, _, _, i + 1, ⟨w, r, B', C, e, eA, h', t⟩, z => by
    obtain ⟨A', p, q⟩ := RepS.put h (i := i) t z
    refine ⟨B' ++ A', ?_, w, _, B', A', by rw [e]; rfl, rfl, h', q⟩
    rw [eA]
    exact (List.Perm.append_left B' p).trans (by
      rw [← List.append_assoc, ← List.append_assoc]
      exact List.Perm.append_right _ List.perm_append_comm)
theorem set_self {α : Type} : ∀ {l : List α} {i : Nat} {x : α}, l[i]? = some x → l.set i x = l
  | [], _, _, _ => rfl
  | a :: l, 0, _, h => by cases h; rfl
  | a :: l, i + 1, _, h => by rw [List.set_cons_succ, set_self (l := l) h]
theorem get_set {α : Type} {l : List α} {i : Nat} {x y : α} (h : l[i]? = some y) : (l.set i x)[i]? = some x := by
  have := (List.getElem?_eq_some_iff.mp h).1
  rw [List.getElem?_set_self this]
/-! ### states -/
structure Good (F H : Hp) (env : DEnv) (σ : L2.St) (A : List Addr) : Prop where
  sub : Same F H
  rep : RepS F H env σ A
  nd : A.Nodup
  dis : ∀ a ∈ A, F a = none
/-- what a piece of code may do to a state -/
structure Step (F H : Hp) (env : DEnv) (σ : L2.St) (A : List Addr) (F' H' : Hp) (env' : DEnv) (σ' : L2.St) (A' : List Addr) : Prop where
  f : Sm F F'
  keep : ∀ a o, H a = some o → isTbl o = false → a ∉ A → F a = none → H' a = some o
  free : ∀ a, H' a = none → H a = none
  anew : ∀ a ∈ A', a ∈ A ∨ H a = none
  fnew : ∀ a, F' a ≠ none → F a ≠ none ∨ a ∈ A ∨ H a = none
  bor : ∀ (i : Nat) (o : O), env[i]? = some (S.bo o) → ∃ o' : O, env'[i]? = some (S.bo o') ∧ σ'[i]? = σ[i]?
section
variable {F H F' H' F'' H'' : Hp} {env env' env'' : DEnv} {σ σ' σ'' : L2.St} {A A' A'' : List Addr}
theorem Step.refl : Step F H env σ A F H env σ A := ⟨.refl _, fun _ _ h _ _ _ => h, fun _ h => h, fun _ h => .inl h, fun _ h => .inl h, fun _ _ h => ⟨_, h, rfl⟩⟩
theorem Step.trans (s : Step F H env σ A F' H' env' σ' A') (t : Step F' H' env' σ' A' F'' H'' env'' σ'' A'') : Step F H env σ A F'' H'' env'' σ'' A'' where
  f := s.f.trans t.f
  keep := fun a o h nt n f => t.keep a o (s.keep a o h nt n f) nt (fun z => (s.anew a z).elim n fun z => by rw [h] at z; cases z) (by
    cases q : F' a with
    | none => rfl
    | some u =>
      rcases s.fnew a (by rw [q]; exact Option.some_ne_none _) with z | z | z
      · exact absurd f z
      · exact absurd z n
      · rw [h] at z; cases z)
  free := fun a h => s.free a (t.free a h)
  anew := fun a h => (t.anew a h).elim (fun z => s.anew a z) fun z => .inr (s.free a z)
  fnew := fun a h => (t.fnew a h).elim (fun z => s.fnew a z) fun z => z.elim (fun z => (s.anew a z).elim (fun z => .inr (.inl z)) fun z => .inr (.inr z)) fun z => .inr (.inr (s.free a z))
  bor := fun i o h => by
    obtain ⟨o1, h1, e1⟩ := s.bor i o h
    obtain ⟨o2, h2, e2⟩ := t.bor i o1 h1
    exact ⟨o2, h2, e2.trans e1⟩
theorem Step.fno (s : Step F H env σ A F' H' env' σ' A') {a : Addr} {o : HO} (f : F a = none) (h : H a = some o) (n : a ∉ A) : F' a = none := by
  cases q : F' a with
  | none => rfl
  | some u =>
    rcases s.fnew a (by rw [q]; exact Option.some_ne_none _) with z | z | z
    · exact absurd f z
    · exact absurd z n
    · rw [h] at z; cases z
theorem Step.smH (s : Step F H env σ A F' H' env' σ' A') (sub : Same F H) (sub' : Same F' H') {a : Addr} {o : HO} (n : a ∉ A) (h : H a = some o) : ∃ o', H' a = some o' ∧ UpH o o' := by
  cases f : F a with
  | none =>
    cases nt : isTbl o with
    | false => exact ⟨o, s.keep a o h nt n f, .inl rfl⟩
    | true =>
      cases q : H' a with
      | none => rw [s.free a q] at h; cases h
      | some u => exact ⟨u, rfl, .inr (.inr nt)⟩
  | some u =>
    have e := sub _ _ f
    rw [h] at e
    cases e
    obtain ⟨o', h', c⟩ := s.f a _ f
    exact ⟨o', sub' _ _ h', c.toH⟩
/-- the footprint's order is of no matter -/
theorem Step.mem (s : Step F H env σ A F' H' env' σ' A') (m : ∀ a ∈ A'', a ∈ A') : Step F H env σ A F' H' env' σ' A'' := ⟨s.f, s.keep, s.free, fun a h => s.anew a (m a h), s.fnew, s.bor⟩
/-- a heap that only grows -/
structure Ext (F H F' H' : Hp) (C : List Addr) : Prop where
  f : Sm F F'
  h : SmH H H'
  hx : ∀ a o, H a = some o → isTbl o = false → F a = none → H' a = some o
  sub : Same F' H'
  cnew : ∀ a ∈ C, H a = none
  fnew : ∀ a, F' a ≠ none → F a ≠ none ∨ H a = none
theorem Ext.refl (s : Same F H) : Ext F H F H [] := ⟨.refl _, .refl _, fun _ _ h _ _ => h, s, fun _ h => (nomatch h), fun _ h => .inl h⟩
theorem Ext.trans {C C' : List Addr} (s : Ext F H F' H' C) (t : Ext F' H' F'' H'' C') : Ext F H F'' H'' (C ++ C') :=
  ⟨s.f.trans t.f, s.h.trans t.h, fun a o h nt f => t.hx a o (s.hx a o h nt f) nt (by
    cases q : F' a with
    | none => rfl
    | some u =>
      rcases s.fnew a (by rw [q]; exact Option.some_ne_none _) with z | z
      · exact absurd f z
      · rw [h] at z; cases z), t.sub, fun a h => (List.mem_append.mp h).elim (s.cnew a) fun z => s.h.free (t.cnew a z), fun a h => (t.fnew a h).elim (s.fnew a) fun z => .inr (s.h.free z)⟩
theorem Ext.fno {C : List Addr} (s : Ext F H F' H' C) {a : Addr} {o : HO} (f : F a = none) (h : H a = some o) : F' a = none := by
  cases q : F' a with
  | none => rfl
  | some u =>
    rcases s.fnew a (by rw [q]; exact Option.some_ne_none _) with z | z
    · exact absurd f z
    · rw [h] at z; cases z
theorem Ext.good {C : List Addr} (e : Ext F H F' H' C) (g : Good F H env σ A) : Good F' H' env σ A :=
  ⟨e.sub, g.rep.stay ⟨e.f, fun a m o h => e.hx a o h (own_tbl (g.rep.kind a m) h) (g.dis a m)⟩, g.nd, fun a ha => by
    cases q : F' a with
    | none => rfl
    | some u =>
      rcases e.fnew a (by rw [q]; exact Option.some_ne_none _) with z | z
      · exact absurd (g.dis a ha) z
      · exact absurd z (g.rep.there a ha)⟩
theorem Ext.step {C : List Addr} (e : Ext F H F' H' C) : Step F H env σ A F' H' env σ (A ++ C) :=
  ⟨e.f, fun a o h nt _ f => e.hx a o h nt f, fun a z => e.h.free z, fun a h => (List.mem_append.mp h).elim .inl fun z => .inr (e.cnew a z), fun a h => (e.fnew a h).elim .inl fun z => .inr (.inr z), fun _ _ h => ⟨_, h, rfl⟩⟩
theorem Ext.noC {C C' : List Addr} (e : Ext F H F' H' C) (h : ∀ a ∈ C', a ∈ C) : Ext F H F' H' C' := ⟨e.f, e.h, e.hx, e.sub, fun a z => e.cnew a (h a z), e.fnew⟩
end
/-! ### paths -/
inductive PSt where
  | ix (j : Nat) | fld (f : Str) | key (k : List Key)
def getM {α : Type} : List (List Key × α) → List Key → Option α
  | [], _ => none
  | (k, d) :: r, j => if k = j then some d else getM r j
def PathV (H : Hp) : V → List PSt → V → Prop
  | y, [], x => y = x
  | y, .ix j :: p, x => ∃ a xs z, y = .ref a ∧ H a = some (.lst xs) ∧ xs[j]? = some z ∧ PathV H z p x
  | y, .fld f :: p, x => ∃ a C dx fs z, y = .ref a ∧ H a = some (.ins C dx fs) ∧ fs.lookup f = some z ∧ PathV H z p x
  | y, .key k :: p, x => ∃ a o t kvs z, y = .ref a ∧ H a = some o ∧ DObj t kvs (core o) ∧ getM kvs k = some z ∧ PathV H z p x
def O.at : O → List PSt → Option O
  | o, [] => some o
  | .lst os, .ix j :: p => match os[j]? with
    | some o => o.at p
    | none => none
  | .ins _ gs, .fld f :: p => match gs.lookup f with
    | some o => o.at p
    | none => none
  | .dct _ kos, .key k :: p => match getM kos k with
    | some o => o.at p
    | none => none
  | _, _ => none
def putY {α : Type} (k : List Key) (o : α) : List (List Key × α) → List (List Key × α)
  | [] => []
  | (j, u) :: r => if j = k then (j, o) :: r else (j, u) :: putY k o r
def putA {α : Type} (f : Str) (o : α) : List (Str × α) → List (Str × α)
  | [] => []
  | (k, u) :: r => if f == k then (k, o) :: r else (k, u) :: putA f o r
def O.put : O → List PSt → O → O
  | _, [], u => u
  | .lst os, .ix j :: p, u => match os[j]? with
    | some o => .lst (os.set j (o.put p u))
    | none => .lst os
  | .ins C gs, .fld f :: p, u => match gs.lookup f with
    | some o => .ins C (putA f (o.put p u) gs)
    | none => .ins C gs
  | .dct t kos, .key k :: p, u => match getM kos k with
    | some o => .dct t (putY k (o.put p u) kos)
    | none => .dct t kos
  | o, _, _ => o
theorem perm_in {B R C D : List Addr} (h : C.Perm (B ++ R)) : (D ++ C).Perm (B ++ (D ++ R)) :=
  (List.Perm.append_left D h).trans (by
    rw [← List.append_assoc, ← List.append_assoc]
    exact List.Perm.append_right _ List.perm_append_comm)
theorem perm_inR {B R C D : List Addr} (h : C.Perm (B ++ R)) : (C ++ D).Perm (B ++ (R ++ D)) := by
  rw [← List.append_assoc]
  exact List.Perm.append_right _ h
/-- an item of a row taken out, and put back as another -/
theorem RepOL.focus {F H : Hp} : ∀ {os : List O} {xs : List V} {A : List Addr} {j : Nat} {o : O}, RepOL F H os xs A → os[j]? = some o →
    ∃ x B R, xs[j]? = some x ∧ RepO F H o x B ∧ A.Perm (B ++ R) ∧ ∀ F' H' o' B' x', Stay F H R F' H' → RepO F' H' o' x' B' → ∃ A', RepOL F' H' (os.set j o') (xs.set j x') A' ∧ A'.Perm (B' ++ R)
  | [], _, _, _, _, _, e => by simp at e
  | o :: os, _, _, 0, _, ⟨x, r, B, C, e, eA, h, t⟩, z => by
    cases z
    refine ⟨x, B, C, by rw [e]; rfl, h, by rw [eA], fun F' H' o' B' x' y h' => ⟨B' ++ C, ⟨x', r, B', C, by rw [e]; rfl, rfl, h', t.stay y⟩, List.Perm.refl _⟩⟩
  | o :: os, _, _, j + 1, _, ⟨x, r, B, C, e, eA, h, t⟩, z => by
    obtain ⟨x1, B1, R1, h1, h2, h3, h4⟩ := RepOL.focus (j := j) t z
    refine ⟨x1, B1, B ++ R1, by rw [e]; exact h1, h2, by rw [eA]; exact perm_in h3, fun F' H' o' B' x' y h' => ?_⟩
    obtain ⟨A', q1, q2⟩ := h4 F' H' o' B' x' (y.sub fun a ha => List.mem_append_right _ ha) h'
    exact ⟨B ++ A', ⟨x, _, B, A', by rw [e]; rfl, rfl, h.stay (y.sub fun a ha => List.mem_append_left _ ha), q1⟩, perm_in q2⟩
theorem RepOF.focus {F H : Hp} {f : Str} : ∀ {os : List (Str × O)} {xs : List (Str × V)} {A : List Addr} {o : O}, RepOF F H os xs A → os.lookup f = some o →
    ∃ x B R, xs.lookup f = some x ∧ RepO F H o x B ∧ A.Perm (B ++ R) ∧ ∀ F' H' o' B', Stay F H R F' H' → RepO F' H' o' x B' → ∃ A', RepOF F' H' (putA f o' os) xs A' ∧ A'.Perm (B' ++ R)
  | [], _, _, _, _, e => by cases e
  | (k, o) :: os, _, _, o0, ⟨x, r, B, C, e, eA, h, t⟩, z => by
    unfold List.lookup at z
    cases hk : f == k with
    | true =>
      rw [hk] at z
      cases z
      refine ⟨x, B, C, by rw [e]; unfold List.lookup; rw [hk], h, by rw [eA], fun F' H' o' B' y h' => ⟨B' ++ C, ?_, List.Perm.refl _⟩⟩
      unfold putA
      rw [if_pos hk]
      exact ⟨x, r, B', C, e, rfl, h', t.stay y⟩
    | false =>
      rw [hk] at z
      obtain ⟨x1, B1, R1, h1, h2, h3, h4⟩ := RepOF.focus t z
      refine ⟨x1, B1, B ++ R1, by rw [e]; unfold List.lookup; rw [hk]; exact h1, h2, by rw [eA]; exact perm_in h3, fun F' H' o' B' y h' => ?_⟩
      obtain ⟨A', q1, q2⟩ := h4 F' H' o' B' (y.sub fun a ha => List.mem_append_right _ ha) h'
      refine ⟨B ++ A', ?_, perm_in q2⟩
      unfold putA
      rw [if_neg (by rw [hk]; exact Bool.false_ne_true)]
      exact ⟨x, r, B, A', e, rfl, h.stay (y.sub fun a ha => List.mem_append_left _ ha), q1⟩
theorem RepOM.focus {F H : Hp} {k : List Key} : ∀ {os : List (List Key × O)} {xs : List (List Key × V)} {A : List Addr} {o : O}, RepOM F H os xs A → getM os k = some o →
    ∃ x B R, getM xs k = some x ∧ RepO F H o x B ∧ A.Perm (B ++ R) ∧ ∀ F' H' o' B', Stay F H R F' H' → RepO F' H' o' x B' → ∃ A', RepOM F' H' (putY k o' os) xs A' ∧ A'.Perm (B' ++ R)
  | [], _, _, _, _, e => by cases e
  | (j, o) :: os, _, _, o0, ⟨x, r, B, C, e, eA, h, t⟩, z => by
    unfold getM at z
    by_cases hk : j = k
    · rw [if_pos hk] at z
      cases z
      refine ⟨x, B, C, by rw [e]; unfold getM; rw [if_pos hk], h, by rw [eA], fun F' H' o' B' y h' => ⟨B' ++ C, ?_, List.Perm.refl _⟩⟩
      unfold putY
      rw [if_pos hk]
      exact ⟨x, r, B', C, e, rfl, h', t.stay y⟩
    · rw [if_neg hk] at z
      obtain ⟨x1, B1, R1, h1, h2, h3, h4⟩ := RepOM.focus t z
      refine ⟨x1, B1, B ++ R1, by rw [e]; unfold getM; rw [if_neg hk]; exact h1, h2, by rw [eA]; exact perm_in h3, fun F' H' o' B' y h' => ?_⟩
      obtain ⟨A', q1, q2⟩ := h4 F' H' o' B' (y.sub fun a ha => List.mem_append_right _ ha) h'
      refine ⟨B ++ A', ?_, perm_in q2⟩
      unfold putY
      rw [if_neg hk]
      exact ⟨x, r, B, A', e, rfl, h.stay (y.sub fun a ha => List.mem_append_left _ ha), q1⟩
theorem DObj.uniq2 {t u : Bool} {xs ys : List (List Key × V)} {o : HO} (h : DObj t xs o) (k : DObj u ys (Fv.core o)) : xs = ys := by
  rw [h.core] at k
  cases t with
  | true =>
    have h : o = .dT xs := h
    cases u with
    | true => exact DObj.uniq (t := true) h k
    | false =>
      obtain ⟨b, e3, _⟩ := k
      rw [h] at e3
      cases e3
  | false =>
    cases u with
    | false => exact DObj.uniq (t := false) h k
    | true =>
      obtain ⟨b, e3, _⟩ := h
      rw [show o = .dT ys from k] at e3
      cases e3
/-- a part of an owned object taken out, and put back changed -/
theorem RepO.focus {F H : Hp} : ∀ {p : List PSt} {o : O} {y x : V} {A : List Addr} {o1 : O}, RepO F H o y A → o.at p = some o1 → PathV H y p x →
    ∃ B R, RepO F H o1 x B ∧ A.Perm (B ++ R) ∧ ∀ F' H' o' B', Stay F H R F' H' → RepO F' H' o' x B' → ∃ A', RepO F' H' (o.put p o') y A' ∧ A'.Perm (B' ++ R)
  | [], o, y, x, A, o1, h, e, v => by
    have e1 : o = o1 := by unfold O.at at e; exact Option.some.inj e
    have e2 : y = x := v
    subst e1
    subst e2
    refine ⟨A, [], h, by rw [List.append_nil], fun F' H' o' B' s h' => ⟨B', ?_, by rw [List.append_nil]⟩⟩
    unfold O.put
    exact h'
  | .ix j :: p, o, y, x, A, o1, h, e, v => by
    cases o with
    | lst os =>
      unfold O.at at e
      cases ej : os[j]? with
      | none => rw [ej] at e; cases e
      | some o2 =>
        rw [ej] at e
        obtain ⟨a, xs, B, ey, eA, ha, r⟩ := h
        obtain ⟨b, xs', z, ey', hb, hz, v'⟩ := v
        rw [ey] at ey'
        cases ey'
        rw [ha] at hb
        cases hb
        obtain ⟨z', B1, R1, g1, g2, g3, g4⟩ := RepOL.focus r ej
        rw [hz] at g1
        cases g1
        obtain ⟨B2, R2, k1, k2, k3⟩ := RepO.focus (p := p) g2 e v'
        have pm : A.Perm (B2 ++ (a :: (R2 ++ R1))) := by
          rw [eA]
          exact ((List.Perm.cons a (g3.trans (perm_inR k2))).trans (List.perm_middle (l₁ := B2) (l₂ := R2 ++ R1) (a := a)).symm)
        refine ⟨B2, a :: (R2 ++ R1), k1, pm, fun F' H' o' B' s h' => ?_⟩
        obtain ⟨A1, m1, m2⟩ := k3 F' H' o' B' (s.sub fun c hc => List.mem_cons_of_mem _ (List.mem_append_left _ hc)) h'
        obtain ⟨A2, m3, m4⟩ := g4 F' H' _ A1 z (s.sub fun c hc => List.mem_cons_of_mem _ (List.mem_append_right _ hc)) m1
        rw [set_self hz] at m3
        refine ⟨a :: A2, ?_, ?_⟩
        · unfold O.put
          rw [ej]
          exact ⟨a, xs, A2, ey, rfl, s.h a List.mem_cons_self _ ha, m3⟩
        · exact (List.Perm.cons a (m4.trans (perm_inR m2))).trans (List.perm_middle (l₁ := B') (l₂ := R2 ++ R1) (a := a)).symm
    | fr d => unfold O.at at e; cases e
    | dct t d => unfold O.at at e; cases e
    | ins C d => unfold O.at at e; cases e
  | .fld f :: p, o, y, x, A, o1, h, e, v => by
    cases o with
    | ins C gs =>
      unfold O.at at e
      cases ej : gs.lookup f with
      | none => rw [ej] at e; cases e
      | some o2 =>
        rw [ej] at e
        obtain ⟨a, dx, xs, B, ey, eA, ha, r⟩ := h
        obtain ⟨b, C', dx', xs', z, ey', hb, hz, v'⟩ := v
        rw [ey] at ey'
        cases ey'
        rw [ha] at hb
        cases hb
        obtain ⟨z', B1, R1, g1, g2, g3, g4⟩ := RepOF.focus r ej
        rw [hz] at g1
        cases g1
        obtain ⟨B2, R2, k1, k2, k3⟩ := RepO.focus (p := p) g2 e v'
        have pm : A.Perm (B2 ++ (a :: (R2 ++ R1))) := by
          rw [eA]
          exact ((List.Perm.cons a (g3.trans (perm_inR k2))).trans (List.perm_middle (l₁ := B2) (l₂ := R2 ++ R1) (a := a)).symm)
        refine ⟨B2, a :: (R2 ++ R1), k1, pm, fun F' H' o' B' s h' => ?_⟩
        obtain ⟨A1, m1, m2⟩ := k3 F' H' o' B' (s.sub fun c hc => List.mem_cons_of_mem _ (List.mem_append_left _ hc)) h'
        obtain ⟨A2, m3, m4⟩ := g4 F' H' _ A1 (s.sub fun c hc => List.mem_cons_of_mem _ (List.mem_append_right _ hc)) m1
        refine ⟨a :: A2, ?_, ?_⟩
        · unfold O.put
          rw [ej]
          exact ⟨a, dx, xs, A2, ey, rfl, s.h a List.mem_cons_self _ ha, m3⟩
        · exact (List.Perm.cons a (m4.trans (perm_inR m2))).trans (List.perm_middle (l₁ := B') (l₂ := R2 ++ R1) (a := a)).symm
    | fr d => unfold O.at at e; cases e
    | dct t d => unfold O.at at e; cases e
    | lst d => unfold O.at at e; cases e
  | .key k :: p, o, y, x, A, o1, h, e, v => by
    cases o with
    | dct t gs =>
      unfold O.at at e
      cases ej : getM gs k with
      | none => rw [ej] at e; cases e
      | some o2 =>
        rw [ej] at e
        obtain ⟨a, oh, xs, B, ey, eA, ha, dc, r⟩ := h
        obtain ⟨b, oh', t', xs', z, ey', hb, dc', hz, v'⟩ := v
        rw [ey] at ey'
        cases ey'
        rw [ha] at hb
        cases hb
        have ex := dc.uniq2 dc'
        subst ex
        obtain ⟨z', B1, R1, g1, g2, g3, g4⟩ := RepOM.focus r ej
        rw [hz] at g1
        cases g1
        obtain ⟨B2, R2, k1, k2, k3⟩ := RepO.focus (p := p) g2 e v'
        have pm : A.Perm (B2 ++ (a :: (R2 ++ R1))) := by
          rw [eA]
          exact ((List.Perm.cons a (g3.trans (perm_inR k2))).trans (List.perm_middle (l₁ := B2) (l₂ := R2 ++ R1) (a := a)).symm)
        refine ⟨B2, a :: (R2 ++ R1), k1, pm, fun F' H' o' B' s h' => ?_⟩
        obtain ⟨A1, m1, m2⟩ := k3 F' H' o' B' (s.sub fun c hc => List.mem_cons_of_mem _ (List.mem_append_left _ hc)) h'
        obtain ⟨A2, m3, m4⟩ := g4 F' H' _ A1 (s.sub fun c hc => List.mem_cons_of_mem _ (List.mem_append_right _ hc)) m1
        refine ⟨a :: A2, ?_, ?_⟩
        · unfold O.put
          rw [ej]
          exact ⟨a, oh, xs, A2, ey, rfl, s.h a List.mem_cons_self _ ha, dc, m3⟩
        · exact (List.Perm.cons a (m4.trans (perm_inR m2))).trans (List.perm_middle (l₁ := B') (l₂ := R2 ++ R1) (a := a)).symm
    | fr d => unfold O.at at e; cases e
    | ins C d => unfold O.at at e; cases e
    | lst d => unfold O.at at e; cases e

/-! ### results -/
/-- what an expression tells: data or an object no one has; a part of what a slot owns -/
inductive R where
  | o (x : O) | p (i : Nat) (path : List PSt)
abbrev R.d (x : D) : R := .o (.fr x)
def S.cont : S → Option O
  | .un => none
  | .ow o => some o
  | .bo o => some o
def S.re : S → O → S
  | .un, _ => .un
  | .ow _, o => .ow o
  | .bo _, o => .bo o
def contAt (env : DEnv) (i : Nat) (p : List PSt) : Option O := match env[i]? with
  | some s => (match s.cont with
    | some o => o.at p
    | none => none)
  | none => none
def RepR (F H : Hp) (σ : L2.St) (A : List Addr) : R → V → List Addr → Prop
  | .o o, x, C => RepO F H o x C ∧ (A ++ C).Nodup ∧ ∀ a ∈ C, F a = none
  | .p i path, x, C => C = [] ∧ ∃ y, σ[i]? = some (some y) ∧ PathV H y path x
theorem RepSl.cont {F H : Hp} {s : S} {o : O} {v : Option V} {A : List Addr} (h : RepSl F H s v A) (e : s.cont = some o) : ∃ x, v = some x ∧ RepO F H o x A := by
  cases s with
  | un => cases e
  | ow o' => cases e; exact h
  | bo o' => cases e; exact h
theorem RepSl.re {F H : Hp} {s : S} {o o' : O} {x : V} {A : List Addr} (e : s.cont = some o) (h : RepO F H o' x A) : RepSl F H (s.re o') (some x) A := by
  cases s with
  | un => cases e
  | ow _ => exact ⟨x, rfl, h⟩
  | bo _ => exact ⟨x, rfl, h⟩
theorem RepS.focus {F H : Hp} {env : DEnv} {σ : L2.St} {A : List Addr} {i : Nat} {s : S} {o o1 : O} {path : List PSt} {x y : V} (g : RepS F H env σ A) (hs : env[i]? = some s) (hc : s.cont = some o) (ha : o.at path = some o1)
    (hy : σ[i]? = some (some y)) (hv : PathV H y path x) : ∃ B R, RepO F H o1 x B ∧ A.Perm (B ++ R) ∧ ∀ F' H' o' B', Stay F H R F' H' → RepO F' H' o' x B' → ∃ A', RepS F' H' (env.set i (s.re (o.put path o'))) σ A' ∧ A'.Perm (B' ++ R) := by
  obtain ⟨v, B0, R0, h1, h2, h3, h4⟩ := g.out hs
  obtain ⟨x0, ev, ro⟩ := h2.cont hc
  rw [hy] at h1
  cases h1
  cases ev
  obtain ⟨B, R1, k1, k2, k3⟩ := ro.focus ha hv
  refine ⟨B, R1 ++ R0, k1, h3.trans (perm_inR k2), fun F' H' o' B' st r' => ?_⟩
  obtain ⟨A1, m1, m2⟩ := k3 F' H' o' B' (st.sub fun a h => List.mem_append_left _ h) r'
  have h5 := h4.stay (st.sub fun a h => List.mem_append_right _ h)
  obtain ⟨A', p1, p2⟩ := RepS.put (RepSl.re hc m1) h5 (get_set hs)
  refine ⟨A', ?_, p1.trans (perm_inR m2)⟩
  rw [List.set_set] at p2
  rw [set_self hy] at p2
  exact p2
/-! ### freezing -/
def frzH (F H : Hp) (B : List Addr) : Hp := fun a => if a ∈ B then H a else F a
theorem frzH_in {F H : Hp} {B : List Addr} {a : Addr} (h : a ∈ B) : frzH F H B a = H a := if_pos h
theorem frzH_out {F H : Hp} {B : List Addr} {a : Addr} (h : a ∉ B) : frzH F H B a = F a := if_neg h
theorem frzH_f {F H : Hp} {B : List Addr} (d : ∀ a ∈ B, F a = none) : Same F (frzH F H B) := fun a o e => by
  rw [frzH_out (fun m => by rw [d a m] at e; cases e)]
  exact e
theorem frzH_h {F H : Hp} {B : List Addr} (s : Same F H) : Same (frzH F H B) H := fun a o e => by
  by_cases m : a ∈ B
  · rw [frzH_in m] at e; exact e
  · rw [frzH_out m] at e; exact s a o e
theorem frzH_new {F H : Hp} {B : List Addr} {a : Addr} (h : frzH F H B a ≠ none) : F a ≠ none ∨ a ∈ B := by
  by_cases m : a ∈ B
  · exact .inr m
  · rw [frzH_out m] at h; exact .inl h
theorem frzH_sm {F H : Hp} {B : List Addr} (d : ∀ a ∈ B, F a = none) (k : ∀ a ∈ B, ∃ u, H a = some u ∧ ownK u = true) : Sm F (frzH F H B) := (frzH_f d).sm fun a ps e => by
  by_cases m : a ∈ B
  · rw [frzH_in m] at e
    obtain ⟨u, hu, hk⟩ := k a m
    rw [e] at hu
    cases hu
    cases hk
  · rw [frzH_out m] at e; exact ⟨ps, e⟩
theorem RepO.frozen {F H : Hp} {o : O} {x : V} {B : List Addr} (s : Same F H) (d : ∀ a ∈ B, F a = none) (h : RepO F H o x B) : Rep (frzH F H B) o.frz x :=
  h.frz (frzH_f d).smH fun a m u e => by rw [frzH_in m]; exact e
def bor? (env env' : DEnv) : Prop := ∀ (i : Nat) (o : O), env[i]? = some (S.bo o) → ∃ o' : O, env'[i]? = some (S.bo o')
theorem bor_re {env : DEnv} {i : Nat} {s : S} {o : O} (hs : env[i]? = some s) : ∀ (j : Nat) (u : O), env[j]? = some (S.bo u) → ∃ o' : O, (env.set i (s.re o))[j]? = some (S.bo o') := fun j u h => by
  by_cases e : i = j
  · subst e
    rw [hs] at h
    cases h
    exact ⟨o, get_set hs⟩
  · rw [List.getElem?_set_ne e]
    exact ⟨u, h⟩
theorem nodup_l {A B : List Addr} (h : (A ++ B).Nodup) : A.Nodup := (List.nodup_append.mp h).1
theorem nodup_r {A B : List Addr} (h : (A ++ B).Nodup) : B.Nodup := (List.nodup_append.mp h).2.1
theorem nodup_d {A B : List Addr} (h : (A ++ B).Nodup) {a : Addr} (x : a ∈ A) (y : a ∈ B) : False := (List.nodup_append.mp h).2.2 a x a y rfl
theorem Good.frz {F H : Hp} {env : DEnv} {σ : L2.St} {A : List Addr} {i : Nat} {s : S} {o o1 : O} {path : List PSt} {x y : V} (g : Good F H env σ A) (hs : env[i]? = some s) (hc : s.cont = some o) (ha : o.at path = some o1)
    (hy : σ[i]? = some (some y)) (hv : PathV H y path x) : ∃ F' A', Good F' H (env.set i (s.re (o.put path (.fr o1.frz)))) σ A' ∧ Step F H env σ A F' H (env.set i (s.re (o.put path (.fr o1.frz)))) σ A' ∧ Rep F' o1.frz x := by
  obtain ⟨B, R, h1, h2, h3⟩ := g.rep.focus hs hc ha hy hv
  have nd : (B ++ R).Nodup := h2.nodup_iff.mp g.nd
  have dB : ∀ a ∈ B, F a = none := fun a m => g.dis a (h2.mem_iff.mpr (List.mem_append_left _ m))
  have dR : ∀ a ∈ R, F a = none := fun a m => g.dis a (h2.mem_iff.mpr (List.mem_append_right _ m))
  have rp := h1.frozen g.sub dB
  obtain ⟨A', p1, p2⟩ := h3 (frzH F H B) H (.fr o1.frz) [] ⟨frzH_sm dB h1.kind, fun _ _ _ h => h⟩ ⟨rfl, rp⟩
  have mA : ∀ a ∈ A', a ∈ R := fun a m => p2.mem_iff.mp m
  refine ⟨frzH F H B, A', ⟨frzH_h g.sub, p1, p2.nodup_iff.mpr (by rw [List.nil_append]; exact nodup_r nd), fun a m => ?_⟩, ⟨frzH_sm dB h1.kind, fun _ _ h _ _ _ => h, fun _ h => h, fun a m => .inl (h2.mem_iff.mpr (List.mem_append_right _ (mA a m))), fun a h => ?_, fun j u h => ?_⟩, rp⟩
  · rw [frzH_out (fun z => nodup_d nd z (mA a m))]
    exact dR a (mA a m)
  · exact (frzH_new h).elim .inl fun z => .inr (.inl (h2.mem_iff.mpr (List.mem_append_left _ z)))
  · obtain ⟨o', e⟩ := bor_re (o := o.put path (.fr o1.frz)) hs j u h
    exact ⟨o', e, rfl⟩
/-- a result as data -/
def force (r : R) (env : DEnv) (P : D → DEnv → Prop) : Prop := match r with
  | .o o => P o.frz env
  | .p i path => match env[i]? with
    | some (.ow o) => (match o.at path with
      | some o1 => P o1.frz (env.set i (.ow (o.put path (.fr o1.frz))))
      | none => False)
    | some (.bo o) => (match path with
      | [] => False
      | _ => (match o.at path with
        | some o1 => P o1.frz (env.set i (.bo (o.put path (.fr o1.frz))))
        | none => False))
    | _ => False
section
variable {F H : Hp} {env : DEnv} {σ : L2.St} {A C : List Addr} {r : R} {x : V}
theorem Good.frzO {o : O} (g : Good F H env σ A) (hr : RepR F H σ A (.o o) x C) : Good (frzH F H C) H env σ A ∧ Step F H env σ (A ++ C) (frzH F H C) H env σ A ∧ Rep (frzH F H C) o.frz x := by
  obtain ⟨h1, h2, h3⟩ := hr
  refine ⟨⟨frzH_h g.sub, g.rep.stay ⟨frzH_sm h3 h1.kind, fun _ _ _ h => h⟩, g.nd, fun a m => ?_⟩, ⟨frzH_sm h3 h1.kind, fun _ _ h _ _ _ => h, fun _ h => h, fun a m => .inl (List.mem_append_left _ m), fun a h => ?_, fun _ _ h => ⟨_, h, rfl⟩⟩, h1.frozen g.sub h3⟩
  · rw [frzH_out (fun z => nodup_d h2 m z)]
    exact g.dis a m
  · exact (frzH_new h).elim .inl fun z => .inr (.inl (List.mem_append_right _ z))
theorem force_ok {P : D → DEnv → Prop} (g : Good F H env σ A) (hr : RepR F H σ A r x C) (h : force r env P) : ∃ F' A' d env', P d env' ∧ Good F' H env' σ A' ∧ Step F H env σ (A ++ C) F' H env' σ A' ∧ Rep F' d x := by
  cases r with
  | o o =>
    obtain ⟨h1, h2, h3⟩ := g.frzO hr
    exact ⟨_, A, _, env, h, h1, h2, h3⟩
  | p i path =>
    obtain ⟨rfl, y, hy, hv⟩ := hr
    rw [List.append_nil]
    unfold force at h
    simp only at h
    cases e : env[i]? with
    | none => rw [e] at h; exact h.elim
    | some s =>
      rw [e] at h
      cases s with
      | un => exact h.elim
      | ow o =>
        simp only at h
        cases e1 : o.at path with
        | none => rw [e1] at h; exact h.elim
        | some o1 =>
          rw [e1] at h
          obtain ⟨F', A', k1, k2, k3⟩ := g.frz e rfl e1 hy hv
          exact ⟨F', A', _, _, h, k1, k2, k3⟩
      | bo o =>
        cases path with
        | nil => exact h.elim
        | cons p0 pr =>
          simp only at h
          cases e1 : o.at (p0 :: pr) with
          | none => rw [e1] at h; exact h.elim
          | some o1 =>
            rw [e1] at h
            obtain ⟨F', A', k1, k2, k3⟩ := g.frz e rfl e1 hy hv
            exact ⟨F', A', _, _, h, k1, k2, k3⟩
/-- a result as an object -/
def toO (r : R) (env : DEnv) (P : O → DEnv → Prop) : Prop := match r with
  | .o o => P o env
  | .p i path => force (.p i path) env fun d => P (.fr d)
theorem toO_ok {P : O → DEnv → Prop} (g : Good F H env σ A) (hr : RepR F H σ A r x C) (h : toO r env P) : ∃ F' A' o env' C', P o env' ∧ Good F' H env' σ A' ∧ Step F H env σ (A ++ C) F' H env' σ (A' ++ C') ∧ RepR F' H σ A' (.o o) x C' := by
  cases r with
  | o o => exact ⟨F, A, o, env, C, h, g, .refl, hr⟩
  | p i path =>
    have h' : force (.p i path) env fun d => P (.fr d) := h
    obtain ⟨F', A', d, env', h1, h2, h3, h4⟩ := force_ok g hr h'
    refine ⟨F', A', .fr d, env', [], h1, h2, ?_, ⟨rfl, h4⟩, ?_, fun _ h => nomatch h⟩
    · rw [List.append_nil]; exact h3
    · rw [List.append_nil]; exact h2.nd
/-! ### peeking -/
def frL : List O → Option (List D)
  | [] => some []
  | .fr d :: r => (match frL r with
    | some ds => some (d :: ds)
    | none => none)
  | _ => none
def frM : List (List Key × O) → Option (List (List Key × D))
  | [] => some []
  | (k, .fr d) :: r => (match frM r with
    | some ds => some ((k, d) :: ds)
    | none => none)
  | _ => none
def frF : List (Str × O) → Option (List (Str × D))
  | [] => some []
  | (k, .fr d) :: r => (match frF r with
    | some ds => some ((k, d) :: ds)
    | none => none)
  | _ => none
def O.flat : O → Option D
  | .fr d => some d
  | .lst os => (match frL os with
    | some ds => some (.lst ds)
    | none => none)
  | .dct t os => (match frM os with
    | some ds => some (.dct t ds)
    | none => none)
  | .ins C os => (match frF os with
    | some ds => some (.ins C ds)
    | none => none)
theorem frL_ok {F H : Hp} : ∀ {os : List O} {ds : List D} {xs : List V} {A : List Addr}, frL os = some ds → RepOL F H os xs A → RepL F ds xs ∧ A = []
  | [], _, _, _, e, h => by cases e; exact h
  | .fr d :: os, ds, xs, A, e, ⟨x, r, B, C, e1, e2, ⟨e3, h⟩, t⟩ => by
    unfold frL at e
    cases q : frL os with
    | none => rw [q] at e; cases e
    | some ds' =>
      rw [q] at e
      cases e
      obtain ⟨h1, h2⟩ := frL_ok q t
      exact ⟨⟨x, r, e1, h, h1⟩, by rw [e2, e3, h2]; rfl⟩
  | .lst _ :: _, _, _, _, e, _ => by cases e
  | .dct _ _ :: _, _, _, _, e, _ => by cases e
  | .ins _ _ :: _, _, _, _, e, _ => by cases e
theorem frM_ok {F H : Hp} : ∀ {os : List (List Key × O)} {ds : List (List Key × D)} {xs : List (List Key × V)} {A : List Addr}, frM os = some ds → RepOM F H os xs A → RepM F ds xs ∧ A = []
  | [], _, _, _, e, h => by cases e; exact h
  | (k, .fr d) :: os, ds, xs, A, e, ⟨x, r, B, C, e1, e2, ⟨e3, h⟩, t⟩ => by
    unfold frM at e
    cases q : frM os with
    | none => rw [q] at e; cases e
    | some ds' =>
      rw [q] at e
      cases e
      obtain ⟨h1, h2⟩ := frM_ok q t
      exact ⟨⟨x, r, e1, h, h1⟩, by rw [e2, e3, h2]; rfl⟩
  | (_, .lst _) :: _, _, _, _, e, _ => by cases e
  | (_, .dct _ _) :: _, _, _, _, e, _ => by cases e
  | (_, .ins _ _) :: _, _, _, _, e, _ => by cases e
theorem frF_ok {F H : Hp} : ∀ {os : List (Str × O)} {ds : List (Str × D)} {xs : List (Str × V)} {A : List Addr}, frF os = some ds → RepOF F H os xs A → RepF F ds xs ∧ A = []
  | [], _, _, _, e, h => by cases e; exact h
  | (k, .fr d) :: os, ds, xs, A, e, ⟨x, r, B, C, e1, e2, ⟨e3, h⟩, t⟩ => by
    unfold frF at e
    cases q : frF os with
    | none => rw [q] at e; cases e
    | some ds' =>
      rw [q] at e
      cases e
      obtain ⟨h1, h2⟩ := frF_ok q t
      exact ⟨⟨x, r, e1, h, h1⟩, by rw [e2, e3, h2]; rfl⟩
  | (_, .lst _) :: _, _, _, _, e, _ => by cases e
  | (_, .dct _ _) :: _, _, _, _, e, _ => by cases e
  | (_, .ins _ _) :: _, _, _, _, e, _ => by cases e
theorem flat_ok {F H : Hp} (s : Same F H) {o : O} {d : D} {x : V} {A : List Addr} (e : o.flat = some d) (h : RepO F H o x A) : RepP F H d x := by
  cases o with
  | fr d' => cases e; exact h.2.toP s
  | lst os =>
    unfold O.flat at e
    simp only at e
    cases q : frL os with
    | none => rw [q] at e; cases e
    | some ds =>
      rw [q] at e
      cases e
      obtain ⟨a, xs, B, e1, e2, e3, r⟩ := h
      exact ⟨a, xs, e1, e3, (frL_ok q r).1⟩
  | dct t os =>
    unfold O.flat at e
    simp only at e
    cases q : frM os with
    | none => rw [q] at e; cases e
    | some ds =>
      rw [q] at e
      cases e
      obtain ⟨a, o, xs, B, e1, e2, e3, c, r⟩ := h
      exact ⟨a, o, xs, e1, e3, by rw [c.core]; exact c, (frM_ok q r).1⟩
  | ins c os =>
    unfold O.flat at e
    simp only at e
    cases q : frF os with
    | none => rw [q] at e; cases e
    | some ds =>
      rw [q] at e
      cases e
      obtain ⟨a, dx, xs, B, e1, e2, e3, r⟩ := h
      exact ⟨a, dx, xs, e1, e3, (frF_ok q r).1⟩
def peek (r : R) (env : DEnv) : Option D := match r with
  | .o o => o.flat
  | .p i path => (match contAt env i path with
    | some o => o.flat
    | none => none)
theorem contAt_ok {i : Nat} {path : List PSt} {o1 : O} (h : contAt env i path = some o1) : ∃ s o, env[i]? = some s ∧ s.cont = some o ∧ o.at path = some o1 := by
  unfold contAt at h
  cases e : env[i]? with
  | none => rw [e] at h; cases h
  | some s =>
    rw [e] at h
    simp only at h
    cases e1 : s.cont with
    | none => rw [e1] at h; cases h
    | some o => rw [e1] at h; exact ⟨s, o, rfl, e1, h⟩
theorem peek_ok {d : D} (g : Good F H env σ A) (hr : RepR F H σ A r x C) (h : peek r env = some d) : RepP F H d x := by
  cases r with
  | o o => exact flat_ok g.sub h hr.1
  | p i path =>
    obtain ⟨rfl, y, hy, hv⟩ := hr
    unfold peek at h
    simp only at h
    cases e : contAt env i path with
    | none => rw [e] at h; cases h
    | some o1 =>
      rw [e] at h
      obtain ⟨s, o, h1, h2, h3⟩ := contAt_ok e
      obtain ⟨B, R, k1, _, _⟩ := g.rep.focus h1 h2 h3 hy hv
      exact flat_ok g.sub h k1
/-- there is one, and P of it -/
def oth {α : Type} (o : Option α) (P : α → Prop) : Prop := match o with
  | some a => P a
  | none => False
theorem oth_ok {α : Type} {o : Option α} {P : α → Prop} (h : oth o P) : ∃ a, o = some a ∧ P a := by
  cases o with
  | none => exact h.elim
  | some a => exact ⟨a, rfl, h⟩
/-- an operand that stays while the next one is found -/
def nrm (r : R) (P : R → Prop) : Prop := match r with
  | .o o => P (.d o.frz)
  | .p i [] => P (.p i [])
  | .p _ _ => False
def Per (F : Hp) (σ : L2.St) : R → V → Prop
  | .o (.fr d), x => Rep F d x
  | .p i [], x => σ[i]? = some (some x)
  | _, _ => False
theorem Per.mono {F F' : Hp} (s : Sm F F') {σ : L2.St} {r : R} {x : V} (h : Per F σ r x) : Per F' σ r x := by
  cases r with
  | o o =>
    cases o with
    | fr d => exact Rep.mono s h
    | _ => exact h
  | p i path =>
    cases path with
    | nil => exact h
    | cons a b => exact h
theorem Per.rep {r : R} {x : V} (g : Good F H env σ A) (h : Per F σ r x) : RepR F H σ A r x [] := by
  cases r with
  | o o =>
    cases o with
    | fr d => exact ⟨⟨rfl, h⟩, by rw [List.append_nil]; exact g.nd, fun _ h => nomatch h⟩
    | _ => exact h.elim
  | p i path =>
    cases path with
    | nil => exact ⟨rfl, x, h, rfl⟩
    | cons a b => exact h.elim
theorem nrm_ok {P : R → Prop} (g : Good F H env σ A) (hr : RepR F H σ A r x C) (h : nrm r P) : ∃ F' r', P r' ∧ Good F' H env σ A ∧ Step F H env σ (A ++ C) F' H env σ A ∧ Per F' σ r' x := by
  cases r with
  | o o =>
    obtain ⟨h1, h2, h3⟩ := g.frzO hr
    exact ⟨_, _, h, h1, h2, h3⟩
  | p i path =>
    cases path with
    | nil =>
      obtain ⟨rfl, y, hy, hv⟩ := hr
      have e : y = x := hv
      subst e
      rw [List.append_nil]
      exact ⟨F, _, h, g, .refl, hy⟩
    | cons a b => exact h.elim
end
/-! ### the judgements -/
structure DExc where
  cls : Value
  fs : Option (List (Str × D))
def RepX (F : Hp) (e : DExc) (cls : Value) (dd : Option Addr) : Prop := cls = e.cls ∧ match e.fs with
  | none => dd = none
  | some gs => ∃ a xs, dd = some a ∧ F a = some (.xd xs) ∧ RepF F gs xs
abbrev DX := DExc → DEnv → Prop
abbrev DTE := DEnv → (R → DEnv → Prop) → DX → Prop
abbrev DTT := DEnv → (Bool → DEnv → Prop) → DX → Prop
abbrev DTA := DEnv → (List R → DEnv → Prop) → DX → Prop
abbrev DTV := DEnv → (List D → DEnv → Prop) → DX → Prop
structure DEnds where
  nx : DEnv → Prop
  rt : O → DEnv → Prop
  bk : DEnv → Prop
  ct : DEnv → Prop
  ex : DX
abbrev DTS := DEnds → DEnv → Prop
def XOk (F H : Hp) (env : DEnv) (σ : L2.St) (A : List Addr) (W : WX) (X : DX) : Prop := ∀ cls dd e env' σ' F' H' A', Good F' H' env' σ' A' → Step F H env σ A F' H' env' σ' A' → RepX F' e cls dd → X e env' → W cls dd σ' H'
theorem XOk.step {F H F' H' : Hp} {env env' : DEnv} {σ σ' : L2.St} {A A' : List Addr} {W : WX} {X : DX} (x : XOk F H env σ A W X) (s : Step F H env σ A F' H' env' σ' A') : XOk F' H' env' σ' A' W X :=
  fun cls dd e e' σ'' F'' H'' A'' g t => x cls dd e e' σ'' F'' H'' A'' g (s.trans t)
def SimE (W : WX) (t : TE) (d : DTE) : Prop := ∀ (F H : Hp) (env : DEnv) (σ : L2.St) (A : List Addr) (Q : VK) (P : R → DEnv → Prop) (X : DX), Good F H env σ A → d env P X → XOk F H env σ A W X →
  (∀ x r env' F' H' A' C, Good F' H' env' σ A' → Step F H env σ A F' H' env' σ (A' ++ C) → RepR F' H' σ A' r x C → P r env' → Q x H') → t σ H Q
def SimT (W : WX) (t : TT) (d : DTT) : Prop := ∀ (F H : Hp) (env : DEnv) (σ : L2.St) (A : List Addr) (Q : Bool → Hp → Prop) (P : Bool → DEnv → Prop) (X : DX), Good F H env σ A → d env P X → XOk F H env σ A W X →
  (∀ b env' F' H' A', Good F' H' env' σ A' → Step F H env σ A F' H' env' σ A' → P b env' → Q b H') → t σ H Q
def RepRs (F H : Hp) (σ : L2.St) (A : List Addr) : List R → List V → List Addr → Prop
  | [], xs, C => xs = [] ∧ C = []
  | [r], xs, C => ∃ x, xs = [x] ∧ RepR F H σ A r x C
  | r :: rs, xs, C => ∃ x ys, xs = x :: ys ∧ Per F σ r x ∧ RepRs F H σ A rs ys C
def SimA (W : WX) (t : TA) (d : DTA) : Prop := ∀ (F H : Hp) (env : DEnv) (σ : L2.St) (A : List Addr) (Q : List V → Hp → Prop) (P : List R → DEnv → Prop) (X : DX), Good F H env σ A → d env P X → XOk F H env σ A W X →
  (∀ xs rs env' F' H' A' C, Good F' H' env' σ A' → Step F H env σ A F' H' env' σ (A' ++ C) → RepRs F' H' σ A' rs xs C → P rs env' → Q xs H') → t σ H Q
def SimV (W : WX) (t : TA) (d : DTV) : Prop := ∀ (F H : Hp) (env : DEnv) (σ : L2.St) (A : List Addr) (Q : List V → Hp → Prop) (P : List D → DEnv → Prop) (X : DX), Good F H env σ A → d env P X → XOk F H env σ A W X →
  (∀ xs ds env' F' H' A', Good F' H' env' σ A' → Step F H env σ A F' H' env' σ A' → RepL F' ds xs → P ds env' → Q xs H') → t σ H Q
structure EndsOk (F H : Hp) (env : DEnv) (σ : L2.St) (A : List Addr) (W : WX) (E : Ends) (DD : DEnds) : Prop where
  nx : ∀ env' σ' F' H' A', Good F' H' env' σ' A' → Step F H env σ A F' H' env' σ' A' → DD.nx env' → E.nx σ' H'
  bk : ∀ env' σ' F' H' A', Good F' H' env' σ' A' → Step F H env σ A F' H' env' σ' A' → DD.bk env' → E.bk σ' H'
  ct : ∀ env' σ' F' H' A', Good F' H' env' σ' A' → Step F H env σ A F' H' env' σ' A' → DD.ct env' → E.ct σ' H'
  rt : ∀ x o env' σ' F' H' A' C, Good F' H' env' σ' A' → Step F H env σ A F' H' env' σ' (A' ++ C) → RepR F' H' σ' A' (.o o) x C → DD.rt o env' → E.rt x H'
  ex : XOk F H env σ A W DD.ex
theorem EndsOk.step {F H F' H' : Hp} {env env' : DEnv} {σ σ' : L2.St} {A A' : List Addr} {W : WX} {E : Ends} {DD : DEnds} (x : EndsOk F H env σ A W E DD) (s : Step F H env σ A F' H' env' σ' A') : EndsOk F' H' env' σ' A' W E DD :=
  ⟨fun e σ' F' H' A' g t => x.nx e σ' F' H' A' g (s.trans t), fun e σ' F' H' A' g t => x.bk e σ' F' H' A' g (s.trans t), fun e σ' F' H' A' g t => x.ct e σ' F' H' A' g (s.trans t), fun v o e σ' F' H' A' C g t => x.rt v o e σ' F' H' A' C g (s.trans t), x.ex.step s⟩
def SimS (W : WX) (t : TS) (d : DTS) : Prop := ∀ (F H : Hp) (env : DEnv) (σ : L2.St) (A : List Addr) (E : Ends) (DD : DEnds), Good F H env σ A → d DD env → EndsOk F H env σ A W E DD → t E σ H

/-- .. and leaves the slots -/
def SimP (t : TE) (d : DTE) : Prop := ∀ (F H : Hp) (env : DEnv) (σ : L2.St) (A : List Addr) (Q : VK) (P : R → DEnv → Prop) (X : DX), Good F H env σ A → d env P X →
  (∀ x r F' H' C, Ext F H F' H' C → RepR F' H' σ A r x C → P r env → Q x H') → t σ H Q
theorem SimP.e {W : WX} {t : TE} {d : DTE} (s : SimP t d) : SimE W t d := fun F H env σ A Q P X g h _ k => s F H env σ A Q P X g h fun x r F' H' C e r' p => k x r env F' H' A C (e.good g) e.step r' p
theorem PathV.mono {H H' : Hp} (s : SmH H H') : ∀ {p : List PSt} {y x : V}, PathV H y p x → PathV H' y p x
  | [], _, _, h => h
  | .ix j :: p, _, _, ⟨a, xs, z, e, h, hz, t⟩ => ⟨a, xs, z, e, s.ex rfl h, hz, PathV.mono s t⟩
  | .fld f :: p, _, _, ⟨a, C, dx, fs, z, e, h, hz, t⟩ => ⟨a, C, dx, fs, z, e, s.ex rfl h, hz, PathV.mono s t⟩
  | .key k :: p, _, _, ⟨a, o, t, kvs, z, e, h, dc, hz, tt⟩ => by
    obtain ⟨o', h', u⟩ := s a o h
    exact ⟨a, o', t, kvs, z, e, h', by rw [u.core dc.nt]; exact dc, hz, PathV.mono s tt⟩
section
variable {F H F' H' : Hp} {env : DEnv} {σ : L2.St} {A C C' : List Addr} {r : R} {x : V}
theorem RepR.there {o : O} (h : RepR F H σ A (.o o) x C) : ∀ a ∈ C, H a ≠ none := h.1.there
theorem RepR.ext (e : Ext F H F' H' C') (h : RepR F H σ A r x C) : RepR F' H' σ A r x C := by
  cases r with
  | o o =>
    obtain ⟨h1, h2, h3⟩ := h
    refine ⟨h1.stay ⟨e.f, fun a m o k => e.hx a o k (own_tbl (h1.kind a m) k) (h3 a m)⟩, h2, fun a m => ?_⟩
    cases q : F' a with
    | none => rfl
    | some u =>
      rcases e.fnew a (by rw [q]; exact Option.some_ne_none _) with z | z
      · exact absurd (h3 a m) z
      · exact absurd z (h1.there a m)
  | p i path =>
    obtain ⟨h1, y, h2, h3⟩ := h
    exact ⟨h1, y, h2, h3.mono e.h⟩
/-- a new object -/
theorem RepR.new {o : O} (g : Good F H env σ A) (e : Ext F H F' H' C) (h : RepO F' H' o x C) (nd : C.Nodup) (d : ∀ a ∈ C, F' a = none) : RepR F' H' σ A (.o o) x C :=
  ⟨h, List.nodup_append.mpr ⟨g.nd, nd, fun a ha b hb z => by subst z; exact g.rep.there a ha (e.cnew a hb)⟩, d⟩
end
/-- an operation on values -/
def SimR2 (r : R2) (dr : D → D → (O → Prop) → Prop) : Prop := ∀ (F H : Hp) (x y : V) (d e : D) (P : O → Prop) (Q : VK), Same F H → RepP F H d x → RepP F H e y → dr d e P →
  (∀ z o F' H' C, Ext F H F' H' C → RepO F' H' o z C → C.Nodup → (∀ a ∈ C, F' a = none) → P o → Q z H') → r x y H Q
def SimR1 (r : V → Hp → VK → Prop) (dr : D → (O → Prop) → Prop) : Prop := ∀ (F H : Hp) (x : V) (d : D) (P : O → Prop) (Q : VK), Same F H → RepP F H d x → dr d P →
  (∀ z o F' H' C, Ext F H F' H' C → RepO F' H' o z C → C.Nodup → (∀ a ∈ C, F' a = none) → P o → Q z H') → r x H Q
def RepPL (F H : Hp) : List D → List V → Prop
  | [], xs => xs = []
  | d :: ds, xs => ∃ x r, xs = x :: r ∧ RepP F H d x ∧ RepPL F H ds r
def SimRL (r : List V → Hp → VK → Prop) (dr : List D → (O → Prop) → Prop) : Prop := ∀ (F H : Hp) (xs : List V) (ds : List D) (P : O → Prop) (Q : VK), Same F H → RepPL F H ds xs → dr ds P →
  (∀ z o F' H' C, Ext F H F' H' C → RepO F' H' o z C → C.Nodup → (∀ a ∈ C, F' a = none) → P o → Q z H') → r xs H Q
/-! ### expressions -/
def dVar (i : Nat) : DTE := fun env P _ => match env[i]? with
  | some (.ow (.fr d)) => P (.d d) env
  | some (.ow _) => P (.p i []) env
  | some (.bo _) => P (.p i []) env
  | _ => False
def dC (d : D) : DTE := fun env P _ => P (.d d) env
def dOp (dr : D → D → (O → Prop) → Prop) (da db : DTE) : DTE := fun env P X => da env (fun r1 env1 => nrm r1 fun r1' => db env1 (fun r2 env2 => oth (peek r1' env2) fun d1 => oth (peek r2 env2) fun d2 => dr d1 d2 fun o => P (.o o) env2) X) X
/-- the second operand leaves the slots -/
def dOpP (dr : D → D → (O → Prop) → Prop) (da db : DTE) : DTE := fun env P X => da env (fun r1 env1 => db env1 (fun r2 env2 => oth (peek r1 env2) fun d1 => oth (peek r2 env2) fun d2 => dr d1 d2 fun o => P (.o o) env2) X) X
def dUn (dr : D → (O → Prop) → Prop) (da : DTE) : DTE := fun env P X => da env (fun r1 env1 => oth (peek r1 env1) fun d1 => dr d1 fun o => P (.o o) env1) X
section
variable {W : WX} {ta tb : TE} {da db : DTE}
theorem sim_var {i : Nat} : SimP (tVar i) (dVar i) := by
  intro F H env σ A Q P X g h k
  unfold dVar at h
  cases e : env[i]? with
  | none => rw [e] at h; exact h.elim
  | some s =>
    rw [e] at h
    obtain ⟨v, B, R, h1, h2, h3, h4⟩ := g.rep.out e
    cases s with
    | un => exact h.elim
    | bo o =>
      obtain ⟨x, ex, ro⟩ := h2
      subst ex
      exact ⟨x, h1, k x (.p i []) F H [] (.refl g.sub) ⟨rfl, x, h1, rfl⟩ h⟩
    | ow o =>
      obtain ⟨x, ex, ro⟩ := h2
      subst ex
      refine ⟨x, h1, ?_⟩
      cases o with
      | fr d =>
        have ro' := ro.2
        exact k x (.d d) F H [] (.refl g.sub) ⟨⟨rfl, ro'⟩, by rw [List.append_nil]; exact g.nd, fun _ h => nomatch h⟩ h
      | lst _ => exact k x (.p i []) F H [] (.refl g.sub) ⟨rfl, x, h1, rfl⟩ h
      | dct _ _ => exact k x (.p i []) F H [] (.refl g.sub) ⟨rfl, x, h1, rfl⟩ h
      | ins _ _ => exact k x (.p i []) F H [] (.refl g.sub) ⟨rfl, x, h1, rfl⟩ h
theorem sim_c {v : V} {d : D} (hr : ∀ F, Rep F d v) : SimP (tC v) (dC d) := fun F H env σ A Q P X g h k =>
  k v (.d d) F H [] (.refl g.sub) ⟨⟨rfl, hr F⟩, by rw [List.append_nil]; exact g.nd, fun _ h => nomatch h⟩ h
theorem sim_int {i : Int} : SimP (tC (.int i)) (dC (.int i)) := sim_c fun _ => rfl
theorem sim_bl {i : Bool} : SimP (tC (.bl i)) (dC (.bl i)) := sim_c fun _ => rfl
theorem sim_str {i : Str} : SimP (tC (.str i)) (dC (.str i)) := sim_c fun _ => rfl
theorem sim_non : SimP (tC .non) (dC .non) := sim_c fun _ => rfl
theorem sim_ty {n : String} : SimP (tC (.ty n)) (dC (.ty n)) := sim_c fun _ => rfl
theorem sim_op {r : R2} {dr : D → D → (O → Prop) → Prop} (hr : SimR2 r dr) (ha : SimE W ta da) (hb : SimE W tb db) : SimE W (tOp r ta tb) (dOp dr da db) := by
  intro F H env σ A Q P X g h xo k
  refine ha F H env σ A _ _ X g h xo fun x r1 env1 F1 H1 A1 C1 g1 s1 rr1 h1 => ?_
  obtain ⟨F2, r1', h2, g2, s2, p2⟩ := nrm_ok g1 rr1 h1
  have s12 := s1.trans s2
  refine hb F2 H1 env1 σ A1 _ _ X g2 h2 (xo.step s12) fun y r2 env2 F3 H3 A3 C3 g3 s3 rr3 h3 => ?_
  obtain ⟨d1, e1, h4⟩ := oth_ok h3
  obtain ⟨d2, e2, h5⟩ := oth_ok h4
  refine hr F3 H3 x y d1 d2 _ _ g3.sub (peek_ok g3 ((p2.mono s3.f).rep g3) e1) (peek_ok g3 rr3 e2) h5 fun z o F4 H4 C4 x4 ro4 nd4 d4 h6 => ?_
  exact k z (.o o) env2 F4 H4 A3 C4 (x4.good g3) ((s12.trans (s3.mem fun a m => List.mem_append_left _ m)).trans x4.step) (.new g3 x4 ro4 nd4 d4) h6
theorem sim_opP {r : R2} {dr : D → D → (O → Prop) → Prop} (hr : SimR2 r dr) (ha : SimE W ta da) (hb : SimP tb db) : SimE W (tOp r ta tb) (dOpP dr da db) := by
  intro F H env σ A Q P X g h xo k
  refine ha F H env σ A _ _ X g h xo fun x r1 env1 F1 H1 A1 C1 g1 s1 rr1 h1 => ?_
  refine hb F1 H1 env1 σ A1 _ _ X g1 h1 fun y r2 F3 H3 C3 e3 rr3 h3 => ?_
  have g3 := e3.good g1
  obtain ⟨d1, e1, h4⟩ := oth_ok h3
  obtain ⟨d2, e2, h5⟩ := oth_ok h4
  refine hr F3 H3 x y d1 d2 _ _ g3.sub (peek_ok g3 (rr1.ext e3) e1) (peek_ok g3 rr3 e2) h5 fun z o F4 H4 C4 x4 ro4 nd4 d4 h6 => ?_
  exact k z (.o o) env1 F4 H4 A1 C4 (x4.good g3) (((s1.mem fun a m => List.mem_append_left _ m).trans (e3.step.mem fun a m => List.mem_append_left _ m)).trans x4.step) (.new g3 x4 ro4 nd4 d4) h6
theorem simp_op {r : R2} {dr : D → D → (O → Prop) → Prop} (hr : SimR2 r dr) (ha : SimP ta da) (hb : SimP tb db) : SimP (tOp r ta tb) (dOpP dr da db) := by
  intro F H env σ A Q P X g h k
  refine ha F H env σ A _ _ X g h fun x r1 F1 H1 C1 x1 rr1 h1 => ?_
  have g1 := x1.good g
  refine hb F1 H1 env σ A _ _ X g1 h1 fun y r2 F3 H3 C3 e3 rr3 h3 => ?_
  have g3 := e3.good g1
  obtain ⟨d1, e1, h4⟩ := oth_ok h3
  obtain ⟨d2, e2, h5⟩ := oth_ok h4
  refine hr F3 H3 x y d1 d2 _ _ g3.sub (peek_ok g3 (rr1.ext e3) e1) (peek_ok g3 rr3 e2) h5 fun z o F4 H4 C4 x4 ro4 nd4 d4 h6 => ?_
  exact k z (.o o) F4 H4 C4 (((x1.trans e3).trans x4).noC fun a m => List.mem_append_right _ m) (.new g3 x4 ro4 nd4 d4) h6
theorem simp_un {r : V → Hp → VK → Prop} {dr : D → (O → Prop) → Prop} (hr : SimR1 r dr) (ha : SimP ta da) : SimP (tUn r ta) (dUn dr da) := by
  intro F H env σ A Q P X g h k
  refine ha F H env σ A _ _ X g h fun x r1 F1 H1 C1 x1 rr1 h1 => ?_
  have g1 := x1.good g
  obtain ⟨d1, e1, h4⟩ := oth_ok h1
  refine hr F1 H1 x d1 _ _ g1.sub (peek_ok g1 rr1 e1) h4 fun z o F4 H4 C4 x4 ro4 nd4 d4 h6 => ?_
  exact k z (.o o) F4 H4 C4 ((x1.trans x4).noC fun a m => List.mem_append_right _ m) (.new g1 x4 ro4 nd4 d4) h6
end
/-! ### tests -/
def D.asB : D → Option Bool
  | .bl b => some b
  | _ => none
def asB (r : R) (env : DEnv) (P : Bool → Prop) : Prop := oth (peek r env) fun d => oth d.asB P
theorem asB_ok {F H : Hp} {env : DEnv} {σ : L2.St} {A C : List Addr} {r : R} {x : V} {P : Bool → Prop} (g : Good F H env σ A) (hr : RepR F H σ A r x C) (h : asB r env P) : ∃ b, x = .bl b ∧ P b := by
  obtain ⟨d, e, h1⟩ := oth_ok h
  obtain ⟨b, e2, h2⟩ := oth_ok h1
  have rp := peek_ok g hr e
  cases d <;> cases e2
  exact ⟨b, rp, h2⟩
def dTest (da : DTE) : DTT := fun env P X => da env (fun r env1 => asB r env1 fun b => P b env1) X
def dAnd (a b : DTT) : DTT := fun env P X => a env (fun c env1 => if c = true then b env1 P X else P false env1) X
def dOr (a b : DTT) : DTT := fun env P X => a env (fun c env1 => if c = true then P true env1 else b env1 P X) X
def dNot (a : DTT) : DTT := fun env P X => a env (fun c env1 => P (!c) env1) X
def dYes : DTT := fun env P _ => P true env
def dIf (t : DTT) (a b : DTE) : DTE := fun env P X => t env (fun c env1 => if c = true then a env1 P X else b env1 P X) X
def dAndV (a b : DTE) : DTE := fun env P X => a env (fun r env1 => asB r env1 fun c => if c = true then b env1 P X else P (.d (.bl false)) env1) X
def dOrV (a b : DTE) : DTE := fun env P X => a env (fun r env1 => asB r env1 fun c => if c = true then P (.d (.bl true)) env1 else b env1 P X) X
def dNotV (a : DTE) : DTE := fun env P X => a env (fun r env1 => asB r env1 fun c => P (.d (.bl (!c))) env1) X
/-- a < b < c: b, c are data -/
def dChain (dr dr' : D → D → (O → Prop) → Prop) (da db dc : DTE) : DTE := fun env P X => da env (fun r1 env1 => nrm r1 fun r1 => db env1 (fun r2 env2 => nrm r2 fun r2 => oth (peek r1 env2) fun d1 => oth (peek r2 env2) fun d2 => dr d1 d2 fun o => oth o.flat fun z => oth z.asB fun k =>
  if k = true then dc env2 (fun r3 env3 => oth (peek r2 env3) fun d2 => oth (peek r3 env3) fun d3 => dr' d2 d3 fun o => P (.o o) env3) X else P (.d (.bl false)) env2) X) X
section
variable {W : WX} {ta tb tc : TE} {da db dc : DTE} {tt tu : TT} {dt du : DTT}
theorem RepR.dat {F H : Hp} {env : DEnv} {σ : L2.St} {A : List Addr} {d : D} {x : V} (g : Good F H env σ A) (h : Rep F d x) : RepR F H σ A (.d d) x [] := ⟨⟨rfl, h⟩, by rw [List.append_nil]; exact g.nd, fun _ h => nomatch h⟩
theorem sim_test (ha : SimE W ta da) : SimT W (tTest ta) (dTest da) := by
  intro F H env σ A Q P X g h xo k
  refine ha F H env σ A _ _ X g h xo fun x r1 env1 F1 H1 A1 C1 g1 s1 rr1 h1 => ?_
  obtain ⟨b, e, h2⟩ := asB_ok g1 rr1 h1
  exact ⟨b, e, k b env1 F1 H1 A1 g1 (s1.mem fun a m => List.mem_append_left _ m) h2⟩
theorem sim_b (ha : SimE W ta da) : SimT W (tB ta) (dTest da) := sim_test ha
theorem sim_and (ha : SimT W tt dt) (hb : SimT W tu du) : SimT W (tAnd tt tu) (dAnd dt du) := by
  intro F H env σ A Q P X g h xo k
  refine ha F H env σ A _ _ X g h xo fun b env1 F1 H1 A1 g1 s1 h1 => ?_
  cases b with
  | true =>
    rw [if_pos rfl] at h1 ⊢
    exact hb F1 H1 env1 σ A1 _ _ X g1 h1 (xo.step s1) fun c env2 F2 H2 A2 g2 s2 h2 => k c env2 F2 H2 A2 g2 (s1.trans s2) h2
  | false =>
    rw [if_neg Bool.false_ne_true] at h1 ⊢
    exact k false env1 F1 H1 A1 g1 s1 h1
theorem sim_or (ha : SimT W tt dt) (hb : SimT W tu du) : SimT W (tOr tt tu) (dOr dt du) := by
  intro F H env σ A Q P X g h xo k
  refine ha F H env σ A _ _ X g h xo fun b env1 F1 H1 A1 g1 s1 h1 => ?_
  cases b with
  | true =>
    rw [if_pos rfl] at h1 ⊢
    exact k true env1 F1 H1 A1 g1 s1 h1
  | false =>
    rw [if_neg Bool.false_ne_true] at h1 ⊢
    exact hb F1 H1 env1 σ A1 _ _ X g1 h1 (xo.step s1) fun c env2 F2 H2 A2 g2 s2 h2 => k c env2 F2 H2 A2 g2 (s1.trans s2) h2
theorem sim_not (ha : SimT W tt dt) : SimT W (tNot tt) (dNot dt) := by
  intro F H env σ A Q P X g h xo k
  exact ha F H env σ A _ _ X g h xo fun b env1 F1 H1 A1 g1 s1 h1 => k (!b) env1 F1 H1 A1 g1 s1 h1
theorem sim_yes : SimT W tYes dYes := fun F H env σ A Q P X g h xo k => k true env F H A g .refl h
theorem sim_if (ht : SimT W tt dt) (ha : SimE W ta da) (hb : SimE W tb db) : SimE W (tIf tt ta tb) (dIf dt da db) := by
  intro F H env σ A Q P X g h xo k
  refine ht F H env σ A _ _ X g h xo fun b env1 F1 H1 A1 g1 s1 h1 => ?_
  cases b with
  | true =>
    rw [if_pos rfl] at h1 ⊢
    exact ha F1 H1 env1 σ A1 _ _ X g1 h1 (xo.step s1) fun x r env2 F2 H2 A2 C2 g2 s2 rr h2 => k x r env2 F2 H2 A2 C2 g2 (s1.trans s2) rr h2
  | false =>
    rw [if_neg Bool.false_ne_true] at h1 ⊢
    exact hb F1 H1 env1 σ A1 _ _ X g1 h1 (xo.step s1) fun x r env2 F2 H2 A2 C2 g2 s2 rr h2 => k x r env2 F2 H2 A2 C2 g2 (s1.trans s2) rr h2
theorem sim_andV (ha : SimE W ta da) (hb : SimE W tb db) : SimE W (tAndV ta tb) (dAndV da db) := by
  intro F H env σ A Q P X g h xo k
  refine ha F H env σ A _ _ X g h xo fun x r1 env1 F1 H1 A1 C1 g1 s1 rr1 h1 => ?_
  obtain ⟨b, e, h2⟩ := asB_ok g1 rr1 h1
  have s1' := s1.mem (A'' := A1) fun a m => List.mem_append_left _ m
  refine ⟨b, e, ?_⟩
  cases b with
  | true =>
    rw [if_pos rfl] at h2 ⊢
    exact hb F1 H1 env1 σ A1 _ _ X g1 h2 (xo.step s1') fun x r env2 F2 H2 A2 C2 g2 s2 rr h2 => k x r env2 F2 H2 A2 C2 g2 (s1'.trans s2) rr h2
  | false =>
    rw [if_neg Bool.false_ne_true] at h2 ⊢
    exact k _ (.d (.bl false)) env1 F1 H1 A1 [] g1 (s1.mem fun a m => by rw [List.append_nil] at m; exact List.mem_append_left _ m) (.dat g1 (d := .bl false) rfl) h2
theorem sim_notV (ha : SimE W ta da) : SimE W (tNotV ta) (dNotV da) := by
  intro F H env σ A Q P X g h xo k
  refine ha F H env σ A _ _ X g h xo fun x r1 env1 F1 H1 A1 C1 g1 s1 rr1 h1 => ?_
  obtain ⟨b, e, h2⟩ := asB_ok g1 rr1 h1
  exact ⟨b, e, k _ (.d (.bl (!b))) env1 F1 H1 A1 [] g1 (s1.mem fun a m => by rw [List.append_nil] at m; exact List.mem_append_left _ m) (.dat g1 (d := .bl (!b)) rfl) h2⟩
theorem sim_chain {r r' : R2} {dr dr' : D → D → (O → Prop) → Prop} (hr : SimR2 r dr) (hr' : SimR2 r' dr') (ha : SimE W ta da) (hb : SimE W tb db) (hc : SimE W tc dc) : SimE W (tChain r r' ta tb tc) (dChain dr dr' da db dc) := by
  intro F H env σ A Q P X g h xo k
  refine ha F H env σ A _ _ X g h xo fun x r1 env1 F1 H1 A1 C1 g1 s1 rr1 h1 => ?_
  obtain ⟨F2, r1', h2, g2, s2, p2⟩ := nrm_ok g1 rr1 h1
  have s12 := s1.trans s2
  refine hb F2 H1 env1 σ A1 _ _ X g2 h2 (xo.step s12) fun y r2 env2 F3 H3 A3 C3 g3 s3 rr3 h3 => ?_
  obtain ⟨F4, r2', h4, g4, s4, p4⟩ := nrm_ok g3 rr3 h3
  have s14 := s12.trans (s3.trans s4)
  obtain ⟨d1, e1, h5⟩ := oth_ok h4
  obtain ⟨d2, e2, h6⟩ := oth_ok h5
  refine hr F4 H3 x y d1 d2 _ _ g4.sub (peek_ok g4 ((p2.mono (s3.trans s4).f).rep g4) e1) (peek_ok g4 (p4.rep g4) e2) h6 fun z o F5 H5 C5 x5 ro5 nd5 d5 h7 => ?_
  have g5 := x5.good g4
  obtain ⟨zd, ez, h8⟩ := oth_ok h7
  obtain ⟨kb, ek, h9⟩ := oth_ok h8
  have rz := flat_ok g5.sub ez ro5
  have s15 := s14.trans (x5.step (env := env2) (σ := σ) (A := A3) |>.mem fun a m => List.mem_append_left _ m)
  have hz : z = .bl kb := by cases zd <;> cases ek; exact rz
  refine ⟨kb, hz, ?_⟩
  cases kb with
  | true =>
    rw [if_pos rfl] at h9 ⊢
    refine hc F5 H5 env2 σ A3 _ _ X g5 h9 (xo.step s15) fun w r3 env3 F6 H6 A6 C6 g6 s6 rr6 h10 => ?_
    obtain ⟨d2', e2', h11⟩ := oth_ok h10
    obtain ⟨d3, e3, h12⟩ := oth_ok h11
    refine hr' F6 H6 y w d2' d3 _ _ g6.sub (peek_ok g6 ((p4.mono (x5.f.trans s6.f)).rep g6) e2') (peek_ok g6 rr6 e3) h12 fun z o F7 H7 C7 x7 ro7 nd7 d7 h13 => ?_
    exact k z (.o o) env3 F7 H7 A6 C7 (x7.good g6) ((s15.trans (s6.mem fun a m => List.mem_append_left _ m)).trans x7.step) (.new g6 x7 ro7 nd7 d7) h13
  | false =>
    rw [if_neg Bool.false_ne_true] at h9 ⊢
    exact k _ (.d (.bl false)) env2 F5 H5 A3 [] g5 (s15.mem fun a m => by rw [List.append_nil] at m; exact m) (.dat g5 (d := .bl false) rfl) h9
end
/-! ### rows of arguments -/
def dNilA : DTA := fun env P _ => P [] env
def dLastA (da : DTE) : DTA := fun env P X => da env (fun r env1 => P [r] env1) X
def dConsA (da : DTE) (dr : DTA) : DTA := fun env P X => da env (fun r env1 => nrm r fun r => dr env1 (fun rs env2 => P (r :: rs) env2) X) X
def dNilV : DTV := fun env P _ => P [] env
def dConsV (da : DTE) (dr : DTV) : DTV := fun env P X => da env (fun r env1 => force r env1 fun d env2 => dr env2 (fun ds env3 => P (d :: ds) env3) X) X
def peekL : List R → DEnv → Option (List D)
  | [], _ => some []
  | r :: rs, env => match peek r env with
    | some d => (match peekL rs env with
      | some ds => some (d :: ds)
      | none => none)
    | none => none
def dCB (dr : List D → (O → Prop) → Prop) (da : DTA) : DTE := fun env P X => da env (fun rs env1 => oth (peekL rs env1) fun ds => dr ds fun o => P (.o o) env1) X
def dTup (dv : DTV) : DTE := fun env P X => dv env (fun ds env1 => ds.length ≤ sizeLine ∧ P (.d (.tup ds)) env1) X
def dLst (dv : DTV) : DTE := fun env P X => dv env (fun ds env1 => ds.length ≤ sizeLine ∧ P (.o (.lst (ds.map .fr))) env1) X
theorem RepRs.cons {F H : Hp} {σ : L2.St} {A C : List Addr} {r : R} {rs : List R} {x : V} {xs : List V} {env : DEnv} (g : Good F H env σ A) (p : Per F σ r x) (h : RepRs F H σ A rs xs C) : RepRs F H σ A (r :: rs) (x :: xs) C := by
  cases rs with
  | nil =>
    obtain ⟨rfl, rfl⟩ := h
    exact ⟨x, rfl, p.rep g⟩
  | cons r' rs' => exact ⟨x, xs, rfl, p, h⟩
theorem peekL_ok {F H : Hp} {env : DEnv} {σ : L2.St} {A C : List Addr} (g : Good F H env σ A) : ∀ {rs : List R} {xs : List V} {ds : List D}, RepRs F H σ A rs xs C → peekL rs env = some ds → RepPL F H ds xs
  | [], xs, ds, h, e => by cases e; exact h.1
  | [r], xs, ds, ⟨x, ex, h⟩, e => by
    unfold peekL at e
    cases q : peek r env with
    | none => rw [q] at e; cases e
    | some d =>
      rw [q] at e
      cases e
      exact ⟨x, [], ex, peek_ok g h q, rfl⟩
  | r :: r' :: rs, xs, ds, ⟨x, ys, ex, h, t⟩, e => by
    unfold peekL at e
    cases q : peek r env with
    | none => rw [q] at e; cases e
    | some d =>
      rw [q] at e
      simp only at e
      cases q' : peekL (r' :: rs) env with
      | none => rw [q'] at e; cases e
      | some ds' =>
        rw [q'] at e
        cases e
        exact ⟨x, ys, ex, peek_ok g (h.rep g) q, peekL_ok g t q'⟩
theorem RepOL.ofL {F H : Hp} : ∀ {ds : List D} {xs : List V}, RepL F ds xs → RepOL F H (ds.map .fr) xs []
  | [], _, h => ⟨h, rfl⟩
  | d :: ds, _, ⟨x, r, e, h, t⟩ => ⟨x, r, [], [], e, rfl, ⟨rfl, h⟩, RepOL.ofL t⟩
section
variable {W : WX} {ta : TE} {da : DTE} {tr : TA} {dr : DTA} {dv : DTV}
theorem sim_lastA (ha : SimE W ta da) : SimA W (tCons ta tNil) (dLastA da) := by
  intro F H env σ A Q P X g h xo k
  refine ha F H env σ A _ _ X g h xo fun x r1 env1 F1 H1 A1 C1 g1 s1 rr1 h1 => ?_
  exact k [x] [r1] env1 F1 H1 A1 C1 g1 s1 ⟨x, rfl, rr1⟩ h1
theorem sim_consA (ha : SimE W ta da) (hr : SimA W tr dr) : SimA W (tCons ta tr) (dConsA da dr) := by
  intro F H env σ A Q P X g h xo k
  refine ha F H env σ A _ _ X g h xo fun x r1 env1 F1 H1 A1 C1 g1 s1 rr1 h1 => ?_
  obtain ⟨F2, r1', h2, g2, s2, p2⟩ := nrm_ok g1 rr1 h1
  have s12 := s1.trans s2
  refine hr F2 H1 env1 σ A1 _ _ X g2 h2 (xo.step s12) fun xs rs env2 F3 H3 A3 C3 g3 s3 rr3 h3 => ?_
  exact k (x :: xs) (r1' :: rs) env2 F3 H3 A3 C3 g3 (s12.trans s3) (.cons g3 (p2.mono s3.f) rr3) h3
theorem sim_nilV : SimV W tNil dNilV := fun F H env σ A Q P X g h xo k => k [] [] env F H A g .refl rfl h
theorem sim_consV (ha : SimE W ta da) (hr : SimV W tr dv) : SimV W (tCons ta tr) (dConsV da dv) := by
  intro F H env σ A Q P X g h xo k
  refine ha F H env σ A _ _ X g h xo fun x r1 env1 F1 H1 A1 C1 g1 s1 rr1 h1 => ?_
  obtain ⟨F2, A2, d, env2, h2, g2, s2, p2⟩ := force_ok g1 rr1 h1
  have s12 := s1.trans s2
  refine hr F2 H1 env2 σ A2 _ _ X g2 h2 (xo.step s12) fun xs ds env3 F3 H3 A3 g3 s3 rr3 h3 => ?_
  exact k (x :: xs) (d :: ds) env3 F3 H3 A3 g3 (s12.trans s3) ⟨x, xs, rfl, p2.mono s3.f, rr3⟩ h3
theorem sim_cb {r : List V → Hp → VK → Prop} {db : List D → (O → Prop) → Prop} (hr : SimRL r db) (ha : SimA W tr dr) : SimE W (tCB r tr) (dCB db dr) := by
  intro F H env σ A Q P X g h xo k
  refine ha F H env σ A _ _ X g h xo fun xs rs env1 F1 H1 A1 C1 g1 s1 rr1 h1 => ?_
  obtain ⟨ds, e1, h4⟩ := oth_ok h1
  refine hr F1 H1 xs ds _ _ g1.sub (peekL_ok g1 rr1 e1) h4 fun z o F4 H4 C4 x4 ro4 nd4 d4 h6 => ?_
  exact k z (.o o) env1 F4 H4 A1 C4 (x4.good g1) ((s1.mem fun a m => List.mem_append_left _ m).trans x4.step) (.new g1 x4 ro4 nd4 d4) h6
/-- one argument, the slots stay -/
theorem simp_cb1 {r : List V → Hp → VK → Prop} {db : List D → (O → Prop) → Prop} (hr : SimRL r db) (ha : SimP ta da) : SimP (tCB r (tCons ta tNil)) (dCB db (dLastA da)) := by
  intro F H env σ A Q P X g h k
  refine ha F H env σ A _ _ X g h fun x r1 F1 H1 C1 x1 rr1 h1 => ?_
  have g1 := x1.good g
  obtain ⟨ds, e1, h4⟩ := oth_ok h1
  refine hr F1 H1 [x] ds _ _ g1.sub (peekL_ok g1 (rs := [r1]) ⟨x, rfl, rr1⟩ e1) h4 fun z o F4 H4 C4 x4 ro4 nd4 d4 h6 => ?_
  exact k z (.o o) F4 H4 C4 ((x1.trans x4).noC fun a m => List.mem_append_right _ m) (.new g1 x4 ro4 nd4 d4) h6
theorem same_new {H : Hp} {q : Addr} {o : HO} (h : H q = none) : Same H (upd H q o) := fun b x e => by
  rw [upd_ne (ne_of_none e h)]
  exact e
theorem sm_new {H : Hp} {q : Addr} {o : HO} (h : H q = none) (n : isTbl o = false) : Sm H (upd H q o) := (same_new h).sm fun b ps e => by
  by_cases z : b = q
  · rw [z, upd_same] at e
    cases e
    cases n
  · rw [upd_ne z] at e
    exact ⟨ps, e⟩
/-- a new tuple -/
theorem ext_tup {F H : Hp} {p : Addr} {xs : List V} (s : Same F H) (n : H p = none) : Ext F H (upd F p (.tup xs)) (upd H p (.tup xs)) [] := by
  refine ⟨sm_new (s.free n) rfl, (same_new n).smH, fun a o e _ _ => same_new n a o e, fun a o e => ?_, fun _ h => (nomatch h), fun a h => ?_⟩
  · by_cases q : a = p
    · rw [q, upd_same] at e ⊢; exact e
    · rw [upd_ne q] at e ⊢; exact s a o e
  · by_cases q : a = p
    · exact .inr (by rw [q]; exact n)
    · rw [upd_ne q] at h; exact .inl h
theorem ext_own {F H : Hp} {p : Addr} {o : HO} (s : Same F H) (n : H p = none) : Ext F H F (upd H p o) [p] := by
  refine ⟨.refl _, (same_new n).smH, fun b x e _ _ => same_new n b x e, fun b x e => ?_, fun a m => by rw [List.mem_singleton.mp m]; exact n, fun a h => .inl h⟩
  · rw [upd_ne (ne_of_none (s b x e) n)]; exact s b x e
theorem sim_tup (ha : SimV W tr dv) : SimE W (tTup tr) (dTup dv) := by
  intro F H env σ A Q P X g h xo k
  refine ha F H env σ A _ _ X g h xo fun xs ds env1 F1 H1 A1 g1 s1 rr1 h1 => ?_
  refine ⟨by rw [rr1.length]; exact h1.1, fun p np => ?_⟩
  have x := ext_tup (xs := xs) g1.sub np
  exact k (.ref p) (.d (.tup ds)) env1 _ _ A1 [] (x.good g1) (s1.trans x.step) (.dat (x.good g1) (d := .tup ds) ⟨p, xs, rfl, upd_same, rr1.mono x.f⟩) h1.2
theorem sim_lst (ha : SimV W tr dv) : SimE W (tLst tr) (dLst dv) := by
  intro F H env σ A Q P X g h xo k
  refine ha F H env σ A _ _ X g h xo fun xs ds env1 F1 H1 A1 g1 s1 rr1 h1 => ?_
  refine ⟨by rw [rr1.length]; exact h1.1, fun p np => ?_⟩
  have x := ext_own (o := .lst xs) g1.sub np
  refine k (.ref p) (.o (.lst (ds.map .fr))) env1 _ _ A1 [p] (x.good g1) (s1.trans x.step) (.new g1 x (o := .lst (ds.map .fr)) ⟨p, xs, [], rfl, rfl, upd_same, .ofL rr1⟩ (List.nodup_cons.mpr ⟨List.not_mem_nil, List.nodup_nil⟩) fun a m => ?_) h1.2
  rw [List.mem_singleton.mp m]
  exact g1.sub.free np
end

def dNext : DTS := fun DD env => DD.nx env
def dBreak : DTS := fun DD env => DD.bk env
def dCont : DTS := fun DD env => DD.ct env
def dSeq (a b : DTS) : DTS := fun DD env => a { DD with nx := fun e => b DD e } env
/-- .. at a join -/
def dCut (a b : DTS) : DTS := fun DD env => a { DD with nx := fun e => b DD e } env
def dIfS (t : DTT) (a b : DTS) : DTS := fun DD env => t env (fun c env1 => if c = true then a DD env1 else b DD env1) DD.ex
def dDrop (a : DTE) : DTS := fun DD env => a env (fun _ env1 => DD.nx env1) DD.ex
def dRetN : DTS := fun DD env => DD.rt (.fr .non) env
def retO (r : R) (env : DEnv) (P : O → DEnv → Prop) : Prop := match r with
  | .o o => P o env
  | .p i [] => (match env[i]? with
    | some (.ow o) => P o (env.set i .un)
    | _ => False)
  | .p i path => force (.p i path) env fun d => P (.fr d)
def dRet (a : DTE) : DTS := fun DD env => a env (fun r env1 => retO r env1 DD.rt) DD.ex
section
variable {W : WX} {ta : TE} {da : DTE} {tt : TT} {dt : DTT} {t u : TS} {d e : DTS}
theorem sim_next : SimS W tNext dNext := fun F H env σ A E DD g h eo => eo.nx env σ F H A g .refl h
theorem sim_seq (ha : SimS W t d) (hb : SimS W u e) : SimS W (tSeq t u) (dSeq d e) := by
  intro F H env σ A E DD g h eo
  refine ha F H env σ A _ _ g h ⟨fun env' σ' F' H' A' g' s h' => ?_, eo.bk, eo.ct, eo.rt, eo.ex⟩
  exact hb F' H' env' σ' A' E DD g' h' (eo.step s)
theorem sim_cut (ha : SimS W t d) (hb : SimS W u e) : SimS W (tSeq t u) (dCut d e) := sim_seq ha hb
theorem sim_ifs (ht : SimT W tt dt) (ha : SimS W t d) (hb : SimS W u e) : SimS W (tIfS tt t u) (dIfS dt d e) := by
  intro F H env σ A E DD g h eo
  refine ht F H env σ A _ _ _ g h eo.ex fun b env1 F1 H1 A1 g1 s1 h1 => ?_
  cases b with
  | true =>
    rw [if_pos rfl] at h1 ⊢
    exact ha F1 H1 env1 σ A1 E DD g1 h1 (eo.step s1)
  | false =>
    rw [if_neg Bool.false_ne_true] at h1 ⊢
    exact hb F1 H1 env1 σ A1 E DD g1 h1 (eo.step s1)
theorem sim_drop (ha : SimE W ta da) : SimS W (tDrop ta) (dDrop da) := by
  intro F H env σ A E DD g h eo
  exact ha F H env σ A _ _ _ g h eo.ex fun x r env1 F1 H1 A1 C1 g1 s1 rr h1 => eo.nx env1 σ F1 H1 A1 g1 (s1.mem fun a m => List.mem_append_left _ m) h1
theorem retO_ok {F H : Hp} {env : DEnv} {σ : L2.St} {A C : List Addr} {r : R} {x : V} {P : O → DEnv → Prop} (g : Good F H env σ A) (hr : RepR F H σ A r x C) (h : retO r env P) : ∃ F' A' o env' C', P o env' ∧ Good F' H env' σ A' ∧ Step F H env σ (A ++ C) F' H env' σ (A' ++ C') ∧ RepR F' H σ A' (.o o) x C' := by
  cases r with
  | o o => exact ⟨F, A, o, env, C, h, g, .refl, hr⟩
  | p i path =>
    cases path with
    | nil =>
      obtain ⟨rfl, y, hy, hv⟩ := hr
      have ey : y = x := hv
      subst ey
      unfold retO at h
      simp only at h
      cases e : env[i]? with
      | none => rw [e] at h; exact h.elim
      | some s =>
        rw [e] at h
        cases s with
        | un => exact h.elim
        | bo o => exact h.elim
        | ow o =>
          obtain ⟨v, B, R, h1, h2, h3, h4⟩ := g.rep.out e
          rw [hy] at h1
          cases h1
          obtain ⟨z, ez, ro⟩ := h2
          cases ez
          have nd : (B ++ R).Nodup := h3.nodup_iff.mp g.nd
          refine ⟨F, R, o, env.set i .un, B, h, ⟨g.sub, h4, nodup_r nd, fun a m => g.dis a (h3.mem_iff.mpr (List.mem_append_right _ m))⟩, ⟨.refl _, fun _ _ h _ _ _ => h, fun _ h => h, fun a m => .inl ?_, fun _ h => .inl h, fun j w hj => ?_⟩, ro, ?_, fun a m => g.dis a (h3.mem_iff.mpr (List.mem_append_left _ m))⟩
          · rw [List.append_nil]
            refine h3.mem_iff.mpr ?_
            rcases List.mem_append.mp m with m | m
            · exact List.mem_append_right _ m
            · exact List.mem_append_left _ m
          · refine ⟨w, ?_, rfl⟩
            rw [List.getElem?_set_ne (fun z => by subst z; rw [e] at hj; cases hj)]
            exact hj
          · exact (List.perm_append_comm.nodup_iff.mp nd)
    | cons p0 pr =>
      have h' : toO (.p i (p0 :: pr)) env P := h
      exact toO_ok g hr h'
theorem sim_ret (ha : SimE W ta da) : SimS W (tRet ta) (dRet da) := by
  intro F H env σ A E DD g h eo
  refine ha F H env σ A _ _ _ g h eo.ex fun x r env1 F1 H1 A1 C1 g1 s1 rr h1 => ?_
  obtain ⟨F2, A2, o, env2, C2, h2, g2, s2, r2⟩ := retO_ok g1 rr h1
  exact eo.rt x o env2 σ F2 H1 A2 C2 g2 (s1.trans s2) r2 h2
end
/-! ### targets -/
abbrev DG := O → DEnv → (DEnv → Prop) → DX → Prop
abbrev DGs := List D → DEnv → (DEnv → Prop) → DX → Prop
def SimG (W : WX) (js : List Nat) (t : TG) (d : DG) : Prop := ∀ (F H : Hp) (env : DEnv) (σ : L2.St) (A C : List Addr) (x : V) (o : O) (Q : L2.St → Hp → Prop) (P : DEnv → Prop) (X : DX), Good F H env σ A → RepR F H σ A (.o o) x C → d o env P X → XOk F H env σ A W X →
  (∀ env' σ' F' H' A', Good F' H' env' σ' A' → Step F H env σ (A ++ C) F' H' env' σ' A' → σ'.length = σ.length → (∀ j, j ∉ js → σ'[j]? = σ[j]?) → P env' → Q σ' H') → t x σ H Q
def SimGs (W : WX) (js : List Nat) (t : TGs) (d : DGs) : Prop := ∀ (F H : Hp) (env : DEnv) (σ : L2.St) (A : List Addr) (xs : List V) (ds : List D) (Q : L2.St → Hp → Prop) (P : DEnv → Prop) (X : DX), Good F H env σ A → RepL F ds xs → d ds env P X → XOk F H env σ A W X →
  (∀ env' σ' F' H' A', Good F' H' env' σ' A' → Step F H env σ A F' H' env' σ' A' → σ'.length = σ.length → (∀ j, j ∉ js → σ'[j]? = σ[j]?) → P env' → Q σ' H') → t xs σ H Q
def dName (i : Nat) : DG := fun o env P _ => match env[i]? with
  | some (.bo _) => False
  | some _ => P (env.set i (.ow o))
  | none => False
def dGNil : DGs := fun ds env P _ => ds = [] ∧ P env
def dGCons (g : DG) (gs : DGs) : DGs := fun ds env P X => match ds with
  | [] => False
  | d :: r => g (.fr d) env (fun env1 => gs r env1 P X) X
def dGTup (n : Nat) (gs : DGs) : DG := fun o env P X => match o with
  | .fr (.tup ds) => ds.length = n ∧ gs ds env P X
  | _ => False
def dAsg (a : DTE) (g : DG) : DTS := fun DD env => a env (fun r env1 => toO r env1 fun o env2 => g o env2 DD.nx DD.ex) DD.ex
section
variable {W : WX} {ta : TE} {da : DTE} {js ks : List Nat}
/-- a slot gets another content -/
theorem Good.setS {F H : Hp} {env : DEnv} {σ : L2.St} {A C : List Addr} {i : Nat} {s : S} {o : O} {x : V} (g : Good F H env σ A) (hr : RepR F H σ A (.o o) x C) (e : env[i]? = some s) :
    ∃ A', Good F H (env.set i (.ow o)) (σ.set i (some x)) A' ∧ ∀ a ∈ A', a ∈ A ++ C := by
  obtain ⟨v, B, R, h1, h2, h3, h4⟩ := g.rep.out e
  obtain ⟨r1, r2, r3⟩ := hr
  have hs : RepSl F H (.ow o) (some x) C := ⟨x, rfl, r1⟩
  obtain ⟨A', p1, p2⟩ := RepS.put hs h4 (get_set e)
  rw [List.set_set] at p2
  have mR : ∀ a ∈ R, a ∈ A := fun a m => h3.mem_iff.mpr (List.mem_append_right _ m)
  have nd : (B ++ R).Nodup := h3.nodup_iff.mp g.nd
  refine ⟨A', ⟨g.sub, p2, p1.nodup_iff.mpr (List.nodup_append.mpr ⟨nodup_r r2, nodup_r nd, fun a ha b hb z => by subst z; exact nodup_d r2 (mR a hb) ha⟩), fun a m => ?_⟩, fun a m => ?_⟩
  · rcases List.mem_append.mp (p1.mem_iff.mp m) with m | m
    · exact r3 a m
    · exact g.dis a (mR a m)
  · rcases List.mem_append.mp (p1.mem_iff.mp m) with m | m
    · exact List.mem_append_right _ m
    · exact List.mem_append_left _ (mR a m)
theorem sim_name {i : Nat} : SimG W [i] (gName i) (dName i) := by
  intro F H env σ A C x o Q P X g hr h xo k
  unfold dName at h
  cases e : env[i]? with
  | none => rw [e] at h; exact h.elim
  | some s =>
    rw [e] at h
    obtain ⟨A', g', m'⟩ := g.setS hr e
    have hb : ∀ o, s ≠ .bo o := fun o z => by subst z; exact h
    have h' : P (env.set i (.ow o)) := by cases s with
      | un => exact h
      | ow _ => exact h
      | bo o => exact (hb o rfl).elim
    refine k _ _ F H A' g' ⟨.refl _, fun _ _ h _ _ _ => h, fun _ h => h, fun a m => .inl (m' a m), fun _ h => .inl h, fun j w hj => ?_⟩ List.length_set (fun j hj => List.getElem?_set_ne fun z => hj (by rw [z]; exact List.mem_singleton.mpr rfl)) h'
    have ne : i ≠ j := fun z => by subst z; rw [e] at hj; cases hj; exact hb _ rfl
    rw [List.getElem?_set_ne ne, List.getElem?_set_ne ne]
    exact ⟨w, hj, rfl⟩
theorem sim_gnil : SimGs W [] gNil dGNil := fun F H env σ A xs ds Q P X g hr h xo k => by
  obtain ⟨rfl, h⟩ := h
  exact ⟨hr, k env σ F H A g .refl rfl (fun _ _ => rfl) h⟩
theorem sim_gcons {tg : TG} {tgs : TGs} {dg : DG} {dgs : DGs} (h1 : SimG W js tg dg) (h2 : SimGs W ks tgs dgs) : SimGs W (js ++ ks) (gCons tg tgs) (dGCons dg dgs) := by
  intro F H env σ A xs ds Q P X g hr h xo k
  cases ds with
  | nil => exact h.elim
  | cons d r =>
    obtain ⟨x, ys, ex, hx, ht⟩ := hr
    refine ⟨x, ys, ex, ?_⟩
    refine h1 F H env σ A [] x (.fr d) _ _ X g (.dat g hx) h xo fun env1 σ1 F1 H1 A1 g1 s1 l1 j1 h1 => ?_
    rw [List.append_nil] at s1
    refine h2 F1 H1 env1 σ1 A1 ys r _ _ X g1 (RepL.mono s1.f ht) h1 (xo.step s1) fun env2 σ2 F2 H2 A2 g2 s2 l2 j2 h3 => ?_
    exact k env2 σ2 F2 H2 A2 g2 (s1.trans s2) (l2.trans l1) (fun j hj => (j2 j fun z => hj (List.mem_append_right _ z)).trans (j1 j fun z => hj (List.mem_append_left _ z))) h3
theorem sim_gtup {K : PySem.W.Frag} {n : Nat} {tgs : TGs} {dgs : DGs} (h1 : SimGs W js tgs dgs) : SimG W js (gTup K n tgs) (dGTup n dgs) := by
  intro F H env σ A C x o Q P X g hr h xo k
  cases o with
  | lst _ => exact h.elim
  | dct _ _ => exact h.elim
  | ins _ _ => exact h.elim
  | fr d =>
    cases d with
    | tup ds =>
      obtain ⟨hl, h⟩ := h
      obtain ⟨⟨eC, a, xs, ex, hf, rl⟩, _, _⟩ := hr
      subst eC
      refine ⟨a, xs, ex, SqT.of (g.sub _ _ hf), by rw [rl.length]; exact hl, ?_⟩
      rw [List.append_nil] at k
      exact h1 F H env σ A xs ds _ _ X g rl h xo k
    | _ => exact h.elim
theorem sim_asg {tg : TG} {dg : DG} (ha : SimE W ta da) (hg : SimG W js tg dg) : SimS W (tAsg ta tg) (dAsg da dg) := by
  intro F H env σ A E DD g h eo
  refine ha F H env σ A _ _ _ g h eo.ex fun x r env1 F1 H1 A1 C1 g1 s1 rr h1 => ?_
  obtain ⟨F2, A2, o, env2, C2, h2, g2, s2, r2⟩ := toO_ok g1 rr h1
  have s12 := s1.trans s2
  refine hg F2 H1 env2 σ A2 C2 x o _ _ _ g2 r2 h2 (eo.ex.step (s12.mem fun a m => List.mem_append_left _ m)) fun env3 σ3 F3 H3 A3 g3 s3 _ _ h3 => ?_
  exact eo.nx env3 σ3 F3 H3 A3 g3 (s12.trans s3) h3
end
/-! ### xs[i] = e -/
/-- a place is written -/
def setAt (env : DEnv) (i : Nat) (path : List PSt) (o : O) : DEnv := match env[i]? with
  | some s => (match s.cont with
    | some u => env.set i (s.re (u.put path o))
    | none => env)
  | none => env
def dSub (da di : DTE) : DG := fun o env P X => da env (fun r1 env1 => di env1 (fun r2 env2 => match r1, peek r2 env2 with
  | .p i path, some (.int k) => oth (contAt env2 i path) fun u => (match u with
    | .lst os => oth (ixN os.length k) fun j => P (setAt env2 i path (.lst (os.set j o)))
    | _ => False)
  | _, _ => False) X) X
/-- the object at a place is changed: it stays where it is -/
theorem Good.write {F H : Hp} {env : DEnv} {σ : L2.St} {A C : List Addr} {i : Nat} {path : List PSt} {o1 o2 : O} {x : V} {H' : Hp} (g : Good F H env σ A) (hc : contAt env i path = some o1) (hp : ∃ y, σ[i]? = some (some y) ∧ PathV H y path x)
    (hC : ∀ a ∈ C, a ∉ A ∧ F a = none) (ndC : C.Nodup) (f : Same F H') (fr : ∀ a, H' a = none → H a = none)
    (hw : ∀ B R, RepO F H o1 x B → A.Perm (B ++ R) → (B ++ R).Nodup → (∀ a o, H a = some o → a ∉ B → H' a = some o) ∧ ∃ B', RepO F H' o2 x B' ∧ B'.Nodup ∧ ∀ a ∈ B', a ∈ B ∨ a ∈ C) :
    ∃ A', Good F H' (setAt env i path o2) σ A' ∧ Step F H env σ (A ++ C) F H' (setAt env i path o2) σ A' := by
  obtain ⟨s, o, e1, e2, e3⟩ := contAt_ok hc
  obtain ⟨y, hy, hv⟩ := hp
  obtain ⟨B, R, h1, h2, h3⟩ := g.rep.focus e1 e2 e3 hy hv
  have nd : (B ++ R).Nodup := h2.nodup_iff.mp g.nd
  have mB : ∀ a ∈ B, a ∈ A := fun a m => h2.mem_iff.mpr (List.mem_append_left _ m)
  have mR : ∀ a ∈ R, a ∈ A := fun a m => h2.mem_iff.mpr (List.mem_append_right _ m)
  obtain ⟨kp, B', r', ndB, mB'⟩ := hw B R h1 h2 nd
  obtain ⟨A', p1, p2⟩ := h3 F H' o2 B' ⟨.refl _, fun a m o e => kp a o e fun z => nodup_d nd z m⟩ r'
  have es : setAt env i path o2 = env.set i (s.re (o.put path o2)) := by
    unfold setAt
    rw [e1]
    simp only
    rw [e2]
  rw [es]
  refine ⟨A', ⟨f, p1, p2.nodup_iff.mpr (List.nodup_append.mpr ⟨ndB, nodup_r nd, fun a ha b hb z => ?_⟩), fun a m => ?_⟩, ⟨.refl _, fun a o e _ n _ => kp a o e fun z => n (List.mem_append_left _ (mB a z)), fr, fun a m => .inl ?_, fun _ h => .inl h, fun j w hj => ?_⟩⟩
  · subst z
    rcases mB' a ha with m | m
    · exact nodup_d nd m hb
    · exact (hC a m).1 (mR a hb)
  · rcases List.mem_append.mp (p2.mem_iff.mp m) with m | m
    · rcases mB' a m with m | m
      · exact g.dis a (mB a m)
      · exact (hC a m).2
    · exact g.dis a (mR a m)
  · rcases List.mem_append.mp (p2.mem_iff.mp m) with m | m
    · rcases mB' a m with m | m
      · exact List.mem_append_left _ (mB a m)
      · exact List.mem_append_right _ m
    · exact List.mem_append_left _ (mR a m)
  · obtain ⟨o', eo⟩ := bor_re (o := o.put path o2) e1 j w hj
    exact ⟨o', eo, rfl⟩
theorem same_own {F H : Hp} {a : Addr} {o : HO} (s : Same F H) (n : F a = none) : Same F (upd H a o) := fun b x e => by
  rw [upd_ne (ne_of_none e n)]
  exact s b x e
theorem upd_free {H : Hp} {a b : Addr} {o : HO} (h : upd H a o b = none) : H b = none := by
  by_cases e : b = a
  · rw [e, upd_same] at h; cases h
  · rw [upd_ne e] at h; exact h
theorem sim_sub {W : WX} {ta ti : TE} {da di : DTE} (ha : SimP ta da) (hi : SimP ti di) : SimG W [] (gSub ta ti rSetL) (dSub da di) := by
  intro F H env σ A C x o Q P X g hr h xo k
  refine ha F H env σ A _ _ X g h fun v r1 F1 H1 C1 x1 rr1 h1 => ?_
  have g1 := x1.good g
  refine hi F1 H1 env σ A _ _ X g1 h1 fun w r2 F2 H2 C2 x2 rr2 h2 => ?_
  have g2 := x2.good g1
  have x12 := x1.trans x2
  have hr2 := (hr.ext x1).ext x2
  cases r1 with
  | o _ => exact h2.elim
  | p i path =>
    cases e2 : peek r2 env with
    | none => rw [e2] at h2; exact h2.elim
    | some d2 =>
      rw [e2] at h2
      cases d2 with
      | int kk =>
        have rw2 := peek_ok g2 rr2 e2
        have ew : w = .int kk := rw2
        obtain ⟨u, eu, h3⟩ := oth_ok h2
        cases u with
        | lst os =>
          obtain ⟨j, ej, h4⟩ := oth_ok h3
          obtain ⟨hC1, y, hy, hv⟩ := rr1.ext x2
          have hC : ∀ a ∈ C, a ∉ A ∧ F2 a = none := fun a m => ⟨fun z => nodup_d hr2.2.1 z m, hr2.2.2 a m⟩
          obtain ⟨s0, o0, q1, q2, q3⟩ := contAt_ok eu
          obtain ⟨B0, R0, k1, k2, _⟩ := g2.rep.focus q1 q2 q3 hy hv
          obtain ⟨a, xs, Bc, ea, eB, hxs, rl⟩ := k1
          have hl : xs.length = os.length := by
            clear k2 eB ej h4 eu q3
            revert rl
            generalize Bc = Z
            revert xs Z
            intro xs hxs Z rl
            exact repOL_len rl
          refine ⟨a, xs, kk, j, ea, ew, hxs, by rw [hl]; exact ej, ?_⟩
          have naF : F2 a = none := g2.dis a (k2.mem_iff.mpr (by rw [eB]; exact List.mem_cons_self))
          obtain ⟨A', g', s'⟩ := g2.write (H' := upd H2 a (.lst (xs.set j x))) (o2 := .lst (os.set j o)) eu ⟨y, hy, hv⟩ hC (nodup_r hr2.2.1) (same_own g2.sub naF) (fun b => upd_free) (fun B R b1 b2 b3 => by
            obtain ⟨a', xs', Bc', ea', eB', hxs', rl'⟩ := b1
            rw [ea] at ea'
            cases ea'
            rw [hxs] at hxs'
            cases hxs'
            have ndB := nodup_l b3
            rw [eB'] at ndB
            have naB := (List.nodup_cons.mp ndB).1
            refine ⟨fun b o e n => by rw [upd_ne (fun z => n (by rw [z, eB']; exact List.mem_cons_self))]; exact e, ?_⟩
            have hj : j < os.length := (ixN_seq ej).2.1
            obtain ⟨z, Bj, Rj, f1, f2, f3, f4⟩ := rl'.focus (List.getElem?_eq_getElem hj)
            have naC : ∀ b ∈ C, b ≠ a := fun b m z => (hC b m).1 (by rw [z]; exact b2.mem_iff.mpr (List.mem_append_left _ (by rw [eB']; exact List.mem_cons_self)))
            have naR : ∀ b ∈ Rj, b ≠ a := fun b m z => naB (by rw [← z]; exact f3.mem_iff.mpr (List.mem_append_right _ m))
            obtain ⟨A'', f5, f6⟩ := f4 F2 (upd H2 a (.lst (xs.set j x))) o C x ⟨.refl _, fun b m o e => by rw [upd_ne (naR b m)]; exact e⟩ (hr2.1.stay ⟨.refl _, fun b m o e => by rw [upd_ne (naC b m)]; exact e⟩)
            have ndBR : (Bj ++ Rj).Nodup := f3.nodup_iff.mp (List.nodup_cons.mp ndB).2
            have mem6 : ∀ b ∈ A'', b ∈ Bc' ∨ b ∈ C := fun b m => by
              rcases List.mem_append.mp (f6.mem_iff.mp m) with m | m
              · exact .inr m
              · exact .inl (f3.mem_iff.mpr (List.mem_append_right _ m))
            refine ⟨a :: A'', ⟨a, _, A'', ea, rfl, upd_same, f5⟩, List.nodup_cons.mpr ⟨fun m => ?_, f6.nodup_iff.mpr (List.nodup_append.mpr ⟨nodup_r hr2.2.1, nodup_r ndBR, fun b hb c hc z => ?_⟩)⟩, fun b m => ?_⟩
            · rcases mem6 a m with m | m
              · exact naB m
              · exact naC a m rfl
            · subst z
              exact (hC b hb).1 (b2.mem_iff.mpr (List.mem_append_left _ (by rw [eB']; exact List.mem_cons_of_mem _ (f3.mem_iff.mpr (List.mem_append_right _ hc)))))
            · rcases List.mem_cons.mp m with m | m
              · exact .inl (by rw [m, eB']; exact List.mem_cons_self)
              · rcases mem6 b m with m | m
                · exact .inl (by rw [eB']; exact List.mem_cons_of_mem _ m)
                · exact .inr m)
          exact k _ σ F2 _ A' g' (Step.trans (⟨x12.f, fun a o e nt _ f => x12.hx a o e nt f, fun a z => x12.h.free z, fun a m => .inl m, fun a h => (x12.fnew a h).elim .inl fun z => .inr (.inr z), fun _ _ h => ⟨_, h, rfl⟩⟩ : Step F H env σ (A ++ C) F2 H2 env σ (A ++ C)) s') rfl (fun _ _ => rfl) h4
        | _ => exact h3.elim
      | _ => exact h2.elim
where repOL_len {F H : Hp} : ∀ {os : List O} {xs : List V} {A : List Addr}, RepOL F H os xs A → xs.length = os.length
  | [], _, _, ⟨e, _⟩ => by rw [e]; rfl
  | o :: os, _, _, ⟨x, r, B, C, e, _, _, t⟩ => by rw [e, List.length_cons, List.length_cons, repOL_len t]

/-! ### what is walked -/
abbrev DTI := DEnv → (List D → DEnv → Prop) → DX → Prop
def IterOk (F : Hp) (J : It) (ds : List D) : Prop := ∀ (F' H' : Hp) (i : Nat), Sm F F' → Same F' H' → (∀ d, ds[i]? = some d → J.go i H' ∧ ∀ x H'', J.yld i H' x H'' → ∃ F'', Ext F' H' F'' H'' [] ∧ Rep F'' d x) ∧ (ds.length ≤ i → J.stop i H')
theorem IterOk.mono {F F' : Hp} {J : It} {ds : List D} (s : Sm F F') (h : IterOk F J ds) : IterOk F' J ds := fun F1 H1 i s1 s2 => h F1 H1 i (s.trans s1) s2
def SimI (W : WX) (t : TI) (d : DTI) : Prop := ∀ (F H : Hp) (env : DEnv) (σ : L2.St) (A : List Addr) (Q : It → Hp → Prop) (P : List D → DEnv → Prop) (X : DX), Good F H env σ A → d env P X → XOk F H env σ A W X →
  (∀ J ds env' F' H' A', Good F' H' env' σ A' → Step F H env σ A F' H' env' σ A' → IterOk F' J ds → P ds env' → Q J H') → t σ H Q
def dForGo (g : DG) (body : DTS) (DD : DEnds) : List D → DEnv → Prop
  | [], env => DD.nx env
  | d :: r, env => g (.fr d) env (fun env1 => body { DD with nx := dForGo g body DD r, ct := dForGo g body DD r, bk := DD.nx } env1) DD.ex
def dFor (di : DTI) (g : DG) (body : DTS) : DTS := fun DD env => di env (fun ds env1 => dForGo g body DD ds env1) DD.ex
section
variable {W : WX} {js : List Nat}
theorem sim_for {wi : TI} {di : DTI} {tg : TG} {dg : DG} {tb : TS} {db : DTS} (hi : SimI W wi di) (hg : SimG W js tg dg) (hb : SimS W tb db) : SimS W (tFor wi tg tb) (dFor di dg db) := by
  intro F H env σ A E DD g h eo
  refine hi F H env σ A _ _ _ g h eo.ex fun J ds env1 F1 H1 A1 g1 s1 io h1 => ?_
  refine ⟨fun i m σ' H' => m + i = ds.length ∧ ∃ env' F' A', Good F' H' env' σ' A' ∧ Step F1 H1 env1 σ A1 F' H' env' σ' A' ∧ dForGo dg db DD (ds.drop i) env', ⟨ds.length, rfl, env1, F1, A1, g1, .refl, h1⟩, ?_⟩
  rintro i m σ' H' ⟨hm, env', F', A', g', s', h'⟩
  cases e : ds[i]? with
  | none =>
    have hl : ds.length ≤ i := List.getElem?_eq_none_iff.mp e
    rw [List.drop_eq_nil_of_le hl] at h'
    exact .inl ⟨(io F' H' i s'.f g'.sub).2 hl, eo.nx env' σ' F' H' A' g' (s1.trans s') h'⟩
  | some d =>
    have hi := (List.getElem?_eq_some_iff.mp e).1
    obtain ⟨go, yl⟩ := (io F' H' i s'.f g'.sub).1 d e
    have ed : ds.drop i = d :: ds.drop (i + 1) := by
      rw [List.drop_eq_getElem_cons hi]
      rw [(List.getElem?_eq_some_iff.mp e).2]
    rw [ed] at h'
    refine .inr ⟨go, fun σ2 H2 => ∃ env2 F2 A2, Good F2 H2 env2 σ2 A2 ∧ Step F1 H1 env1 σ A1 F2 H2 env2 σ2 A2 ∧ dForGo dg db DD (ds.drop (i + 1)) env2, fun σ2 H2 ⟨env2, F2, A2, q1, q2, q3⟩ => ⟨m - 1, by omega, by omega, env2, F2, A2, q1, q2, q3⟩, fun x H'' hy => ?_⟩
    obtain ⟨F'', x1, rd⟩ := yl x H'' hy
    have g2 := x1.good g'
    have s2 := s'.trans ((x1.step (env := env') (σ := σ') (A := A')).mem fun a m => List.mem_append_left _ m)
    refine hg F'' H'' env' σ' A' [] x (.fr d) _ _ _ g2 (.dat g2 rd) h' (eo.ex.step (s1.trans s2)) fun env3 σ3 F3 H3 A3 g3 s3 _ _ h3 => ?_
    rw [List.append_nil] at s3
    have s13 := s2.trans s3
    refine hb F3 H3 env3 σ3 A3 _ _ g3 h3 ⟨fun e4 σ4 F4 H4 A4 g4 s4 h4 => ⟨e4, F4, A4, g4, s13.trans s4, h4⟩, fun e4 σ4 F4 H4 A4 g4 s4 h4 => eo.nx e4 σ4 F4 H4 A4 g4 ((s1.trans s13).trans s4) h4, fun e4 σ4 F4 H4 A4 g4 s4 h4 => ⟨e4, F4, A4, g4, s13.trans s4, h4⟩, ?_, eo.ex.step (s1.trans s13)⟩
    exact fun v o e4 σ4 F4 H4 A4 C4 g4 s4 r4 h4 => eo.rt v o e4 σ4 F4 H4 A4 C4 g4 ((s1.trans s13).trans s4) r4 h4
end
def dWhileGo (c : DTT) (body : DTS) (DD : DEnds) : Nat → DEnv → Prop
  | 0, _ => False
  | n + 1, env => c env (fun b env1 => if b = true then body { DD with nx := dWhileGo c body DD n, ct := dWhileGo c body DD n, bk := DD.nx } env1 else DD.nx env1) DD.ex
def dWhile (c : DTT) (body : DTS) : DTS := fun DD env => ∃ n, dWhileGo c body DD n env
theorem sim_while {W : WX} {tc : TT} {dc : DTT} {tb : TS} {db : DTS} (hc : SimT W tc dc) (hb : SimS W tb db) : SimS W (tWhile tc tb) (dWhile dc db) := by
  intro F H env σ A E DD g h eo
  obtain ⟨n, h⟩ := h
  refine ⟨fun m σ' H' => ∃ env' F' A', Good F' H' env' σ' A' ∧ Step F H env σ A F' H' env' σ' A' ∧ dWhileGo dc db DD m env', ⟨n, env, F, A, g, .refl, h⟩, ?_⟩
  rintro m σ' H' ⟨env', F', A', g', s', h'⟩
  cases m with
  | zero => exact h'.elim
  | succ m =>
    refine hc F' H' env' σ' A' _ _ _ g' h' (eo.ex.step s') fun b env1 F1 H1 A1 g1 s1 h1 => ?_
    have s01 := s'.trans s1
    cases b with
    | false =>
      rw [if_neg Bool.false_ne_true] at h1 ⊢
      exact eo.nx env1 σ' F1 H1 A1 g1 s01 h1
    | true =>
      rw [if_pos rfl] at h1 ⊢
      refine ⟨fun σ2 H2 => ∃ env2 F2 A2, Good F2 H2 env2 σ2 A2 ∧ Step F H env σ A F2 H2 env2 σ2 A2 ∧ dWhileGo dc db DD m env2, fun σ2 H2 q => ⟨m, Nat.lt_succ_self m, q⟩, ?_⟩
      refine hb F1 H1 env1 σ' A1 _ _ g1 h1 ⟨fun e4 σ4 F4 H4 A4 g4 s4 h4 => ⟨e4, F4, A4, g4, s01.trans s4, h4⟩, fun e4 σ4 F4 H4 A4 g4 s4 h4 => eo.nx e4 σ4 F4 H4 A4 g4 (s01.trans s4) h4, fun e4 σ4 F4 H4 A4 g4 s4 h4 => ⟨e4, F4, A4, g4, s01.trans s4, h4⟩, ?_, eo.ex.step s01⟩
      exact fun v o e4 σ4 F4 H4 A4 C4 g4 s4 r4 h4 => eo.rt v o e4 σ4 F4 H4 A4 C4 g4 (s01.trans s4) r4 h4
/-! ### comprehensions -/
def keepS : S → S
  | .ow (.fr d) => .ow (.fr d)
  | _ => .un
def S.isBo : S → Bool
  | .bo _ => true
  | _ => false
def wipeD (env : DEnv) : List Nat → DEnv
  | [] => env
  | v :: vs => (wipeD env vs).set v .un
def backD (env0 env : DEnv) : List Nat → DEnv
  | [] => env
  | v :: vs => match env0[v]? with
    | some s => (backD env0 env vs).set v (keepS s)
    | none => backD env0 env vs
def noBo (env : DEnv) (vs : List Nat) : Prop := vs.all (fun v => match env[v]? with
  | some s => !s.isBo
  | none => false) = true
def dLcGo (g : DG) (tt : DTT) (te : DTE) (vs : List Nat) (P : List O → DEnv → Prop) (X : DX) : List D → List O → DEnv → Prop
  | [], acc, env => P acc env
  | d :: r, acc, env => noBo env vs ∧ g (.fr d) (wipeD env vs) (fun env1 => tt env1 (fun b env2 => if b = true then te env2 (fun q env3 => toO q env3 fun o env4 => acc.length < sizeLine ∧ dLcGo g tt te vs P X r (acc ++ [o]) (backD env env4 vs)) (fun e _ => X e env) else dLcGo g tt te vs P X r acc (backD env env2 vs)) (fun e _ => X e env)) (fun e _ => X e env)
/-- an error does not leave a comprehension -/
def dLc (di : DTI) (g : DG) (tt : DTT) (te : DTE) (vs : List Nat) : DTE := fun env P X => di env (fun ds env1 => dLcGo g tt te vs (fun acc env2 => P (.o (.lst acc)) env2) (fun _ _ => False) ds [] env1) X
theorem wipe_get (σ : L2.St) : ∀ (vs : List Nat) (j : Nat), (wipe σ vs)[j]? = if j ∈ vs then (if j < σ.length then some none else none) else σ[j]?
  | [], j => by rw [if_neg List.not_mem_nil]; rfl
  | v :: vs, j => by
    show ((wipe σ vs).set v none)[j]? = _
    by_cases e : v = j
    · subst e
      rw [if_pos List.mem_cons_self]
      by_cases hl : v < σ.length
      · rw [if_pos hl, List.getElem?_set_self (by rw [wipe_length]; exact hl)]
      · rw [if_neg hl]
        exact List.getElem?_eq_none_iff.mpr (by rw [List.length_set, wipe_length]; omega)
    · rw [List.getElem?_set_ne e, wipe_get σ vs j]
      by_cases m : j ∈ vs
      · rw [if_pos m, if_pos (List.mem_cons_of_mem _ m)]
      · rw [if_neg m, if_neg (fun z => (List.mem_cons.mp z).elim (fun z => e z.symm) m)]
theorem wipe_eq {σ σ2 : L2.St} {vs : List Nat} (hl : σ2.length = σ.length) (h : ∀ j, j ∉ vs → σ2[j]? = σ[j]?) : wipe σ2 vs = wipe σ vs := by
  refine List.ext_getElem? fun j => ?_
  rw [wipe_get, wipe_get, hl]
  by_cases m : j ∈ vs
  · rw [if_pos m, if_pos m]
  · rw [if_neg m, if_neg m]
    exact h j m
theorem wipe_out {σ : L2.St} {vs : List Nat} {j : Nat} (m : j ∉ vs) : (wipe σ vs)[j]? = σ[j]? := by rw [wipe_get, if_neg m]
/-- some slots forgotten -/
theorem Good.unS {F H : Hp} {env : DEnv} {σ : L2.St} {A : List Addr} (g : Good F H env σ A) (i : Nat) (v : Option V) : ∃ A', Good F H (env.set i .un) (σ.set i v) A' ∧ ∀ a ∈ A', a ∈ A := by
  cases e : env[i]? with
  | none =>
    have hl : env.length ≤ i := List.getElem?_eq_none_iff.mp e
    rw [List.set_eq_of_length_le hl, List.set_eq_of_length_le (by rw [g.rep.len]; exact hl)]
    exact ⟨A, g, fun _ h => h⟩
  | some s =>
    obtain ⟨w, B, R, h1, h2, h3, h4⟩ := g.rep.out e
    obtain ⟨A', p1, p2⟩ := RepS.put (s := .un) (v := v) (B := []) rfl h4 (get_set e)
    rw [List.set_set, List.nil_append] at *
    have nd : (B ++ R).Nodup := h3.nodup_iff.mp g.nd
    have mm : ∀ a ∈ A', a ∈ A := fun a m => h3.mem_iff.mpr (List.mem_append_right _ (p1.mem_iff.mp m))
    exact ⟨A', ⟨g.sub, p2, p1.nodup_iff.mpr (nodup_r nd), fun a m => g.dis a (mm a m)⟩, mm⟩
theorem Good.wipe {F H : Hp} {env : DEnv} {σ : L2.St} {A : List Addr} (g : Good F H env σ A) : ∀ vs : List Nat, ∃ A', Good F H (wipeD env vs) (L2.wipe σ vs) A' ∧ ∀ a ∈ A', a ∈ A
  | [] => ⟨A, g, fun _ h => h⟩
  | v :: vs => by
    obtain ⟨A1, g1, m1⟩ := g.wipe vs
    obtain ⟨A2, g2, m2⟩ := g1.unS v none
    exact ⟨A2, g2, fun a m => m1 a (m2 a m)⟩
/-- the slots put back: σ0 held env0 -/
theorem Good.back {F H F0 H0 : Hp} {env env0 : DEnv} {σ σ0 : L2.St} {A A0 : List Addr} (g : Good F H env σ A) (g0 : Good F0 H0 env0 σ0 A0) (s : Sm F0 F) : ∀ vs : List Nat, (∀ v ∈ vs, ∃ s, env0[v]? = some s ∧ v < env.length) →
    ∃ A' σ', Good F H (backD env0 env vs) σ' A' ∧ (∀ a ∈ A', a ∈ A) ∧ σ'.length = σ.length ∧ (∀ j, j ∉ vs → σ'[j]? = σ[j]?) ∧ (∀ j ∈ vs, σ'[j]? = σ0[j]?) ∧ (backD env0 env vs).length = env.length ∧ (∀ j, j ∉ vs → (backD env0 env vs)[j]? = env[j]?)
  | [], _ => ⟨A, σ, g, fun _ h => h, rfl, fun _ _ => rfl, fun _ h => (nomatch h), rfl, fun _ _ => rfl⟩
  | v :: vs, hv => by
    obtain ⟨A1, σ1, g1, m1, l1, j1, k1, e1, e2⟩ := g.back g0 s vs fun u hu => hv u (List.mem_cons_of_mem _ hu)
    obtain ⟨s0, h0, hl⟩ := hv v List.mem_cons_self
    obtain ⟨w, B, R, q1, q2, q3, q4⟩ := g0.rep.out h0
    have eb : backD env0 env (v :: vs) = (backD env0 env vs).set v (keepS s0) := by
      show (match env0[v]? with
        | some s => (backD env0 env vs).set v (keepS s)
        | none => backD env0 env vs) = _
      rw [h0]
    rw [eb]
    have hv1 : v < (backD env0 env vs).length := by rw [e1]; exact hl
    obtain ⟨sv, hsv⟩ : ∃ sv, (backD env0 env vs)[v]? = some sv := ⟨_, List.getElem?_eq_getElem hv1⟩
    obtain ⟨w', B', R', z1, z2, z3, z4⟩ := g1.rep.out hsv
    have hrep : RepSl F H (keepS s0) w [] := by
      cases s0 with
      | un => rfl
      | bo o => rfl
      | ow o =>
        cases o with
        | fr d =>
          obtain ⟨x, ex, eB, rd⟩ := q2
          exact ⟨x, ex, rfl, rd.mono s⟩
        | _ => rfl
    obtain ⟨A2, p1, p2⟩ := RepS.put hrep z4 (get_set hsv)
    rw [List.set_set, List.nil_append] at *
    have nd : (B' ++ R').Nodup := z3.nodup_iff.mp g1.nd
    have mm : ∀ a ∈ A2, a ∈ A1 := fun a m => z3.mem_iff.mpr (List.mem_append_right _ (p1.mem_iff.mp m))
    have ls : v < σ1.length := by rw [g1.rep.len]; exact hv1
    refine ⟨A2, σ1.set v w, ⟨g1.sub, p2, p1.nodup_iff.mpr (nodup_r nd), fun a m => g1.dis a (mm a m)⟩, fun a m => m1 a (mm a m), by rw [List.length_set, l1], fun j hj => ?_, fun j hj => ?_, by rw [List.length_set, e1], fun j hj => ?_⟩
    · rw [List.getElem?_set_ne (fun z => hj (by rw [z]; exact List.mem_cons_self))]
      exact j1 j fun z => hj (List.mem_cons_of_mem _ z)
    · by_cases e : v = j
      · subst e
        rw [List.getElem?_set_self ls, q1]
      · rw [List.getElem?_set_ne e]
        exact k1 j ((List.mem_cons.mp hj).elim (fun z => absurd z.symm e) id)
    · rw [List.getElem?_set_ne (fun z => hj (by rw [z]; exact List.mem_cons_self))]
      exact e2 j fun z => hj (List.mem_cons_of_mem _ z)
theorem noBo_of {env : DEnv} {vs : List Nat} (h : noBo env vs) {v : Nat} (hv : v ∈ vs) {o : O} (e : env[v]? = some (.bo o)) : False := by
  have := List.all_eq_true.mp h v hv
  rw [e] at this
  exact absurd this (by simp [S.isBo])
theorem noBo_there {env : DEnv} {vs : List Nat} (h : noBo env vs) {v : Nat} (hv : v ∈ vs) : ∃ s, env[v]? = some s := by
  have := List.all_eq_true.mp h v hv
  cases e : env[v]? with
  | none => rw [e] at this; exact absurd this (by simp)
  | some s => exact ⟨s, rfl⟩
theorem wipeD_out (env : DEnv) : ∀ (vs : List Nat) {j : Nat}, j ∉ vs → (wipeD env vs)[j]? = env[j]?
  | [], _, _ => rfl
  | v :: vs, j, m => by
    show ((wipeD env vs).set v .un)[j]? = _
    rw [List.getElem?_set_ne (fun z => m (by rw [z]; exact List.mem_cons_self))]
    exact wipeD_out env vs fun z => m (List.mem_cons_of_mem _ z)
theorem Step.out {F H F' H' : Hp} {env env' : DEnv} {σ σ' : L2.St} {A A' C : List Addr} {o : O} {x : V} (s : Step F H env σ A F' H' env' σ' A') (h : RepO F H o x C) (hC : ∀ a ∈ C, a ∉ A ∧ F a = none) : RepO F' H' o x C ∧ ∀ a ∈ C, a ∉ A' ∧ F' a = none := by
  refine ⟨h.stay ⟨s.f, fun a m o e => s.keep a o e (own_tbl (h.kind a m) e) (hC a m).1 (hC a m).2⟩, fun a m => ⟨fun z => ?_, ?_⟩⟩
  · rcases s.anew a z with q | q
    · exact (hC a m).1 q
    · exact h.there a m q
  · cases q : F' a with
    | none => rfl
    | some u =>
      rcases s.fnew a (by rw [q]; exact Option.some_ne_none _) with z | z | z
      · exact absurd (hC a m).2 z
      · exact absurd z (hC a m).1
      · exact absurd z (h.there a m)
theorem RepOL.app {F H : Hp} : ∀ {os us : List O} {xs ys : List V} {A B : List Addr}, RepOL F H os xs A → RepOL F H us ys B → RepOL F H (os ++ us) (xs ++ ys) (A ++ B)
  | [], _, _, _, _, _, ⟨e, eA⟩, k => by rw [e, eA]; exact k
  | o :: os, _, _, _, _, _, ⟨x, r, B, C, e, eA, h, t⟩, k => ⟨x, _, B, _, by rw [e]; rfl, by rw [eA, List.append_assoc], h, RepOL.app t k⟩
theorem RepOL.len {F H : Hp} : ∀ {os : List O} {xs : List V} {A : List Addr}, RepOL F H os xs A → xs.length = os.length
  | [], _, _, ⟨e, _⟩ => by rw [e]; rfl
  | o :: os, _, _, ⟨x, r, B, C, e, _, _, t⟩ => by rw [e, List.length_cons, List.length_cons, RepOL.len t]
/-- behind a turn of a comprehension -/
theorem lc_back {F H F2 H2 F3 H3 : Hp} {env env3 : DEnv} {σ σ2 : L2.St} {A Aw A3 : List Addr} {vs : List Nat} (g : Good F H env σ A) (nb : noBo env vs) (x1 : Ext F H F2 H2 []) (gw : Good F2 H2 (wipeD env vs) (L2.wipe σ vs) Aw) (mw : ∀ a ∈ Aw, a ∈ A)
    {B : List Addr} (s : Step F2 H2 (wipeD env vs) (L2.wipe σ vs) Aw F3 H3 env3 σ2 (A3 ++ B)) (g3 : Good F3 H3 env3 σ2 A3) (hl : σ2.length = σ.length) (hj : ∀ j, j ∉ vs → σ2[j]? = σ[j]?) (he : env3.length = env.length) :
    ∃ A4, Good F3 H3 (backD env env3 vs) σ A4 ∧ Step F H env σ A F3 H3 (backD env env3 vs) σ (A4 ++ B) ∧ ∀ a ∈ A4, a ∈ A3 := by
  obtain ⟨A4, σ', g4, m4, l4, j4, k4, e4, b4⟩ := g3.back g (x1.f.trans s.f) vs fun v hv => by
    obtain ⟨s0, h0⟩ := noBo_there nb hv
    exact ⟨s0, h0, by rw [he]; exact (List.getElem?_eq_some_iff.mp h0).1⟩
  have es : σ' = σ := List.ext_getElem? fun j => by
    by_cases m : j ∈ vs
    · exact k4 j m
    · rw [j4 j m, hj j m]
  subst es
  refine ⟨A4, g4, ⟨x1.f.trans s.f, fun a o h nt n f => s.keep a o (x1.hx a o h nt f) nt (fun z => n (mw a z)) (x1.fno f h), fun a z => x1.h.free (s.free a z), fun a m => ?_, fun a z => ?_, fun i o hi => ?_⟩, m4⟩
  · have m' : a ∈ A3 ++ B := (List.mem_append.mp m).elim (fun m => List.mem_append_left _ (m4 a m)) fun m => List.mem_append_right _ m
    exact (s.anew a m').elim (fun z => .inl (mw a z)) fun z => .inr (x1.h.free z)
  · rcases s.fnew a z with q | q | q
    · exact (x1.fnew a q).elim .inl fun q => .inr (.inr q)
    · exact .inr (.inl (mw a q))
    · exact .inr (.inr (x1.h.free q))
  · have ni : i ∉ vs := fun z => noBo_of nb z hi
    obtain ⟨o', h1, h2⟩ := s.bor i o (by rw [wipeD_out env vs ni]; exact hi)
    exact ⟨o', by rw [b4 i ni]; exact h1, rfl⟩
theorem wipeD_len (env : DEnv) : ∀ vs : List Nat, (wipeD env vs).length = env.length
  | [] => rfl
  | v :: vs => by
    show ((wipeD env vs).set v .un).length = _
    rw [List.length_set, wipeD_len env vs]
theorem sim_lc {W : WX} {js vs : List Nat} {wi : TI} {di : DTI} {tg : TG} {dg : DG} {tt : TT} {dt : DTT} {te : TE} {de : DTE} (hi : SimI W wi di) (hg : SimG W js tg dg) (ht : SimT W tt dt) (he : SimE W te de) (hjs : ∀ j ∈ js, j ∈ vs) : SimE W (tLc wi tg tt te vs) (dLc di dg dt de vs) := by
  intro F H env σ A Q P X g h xo k
  refine hi F H env σ A _ _ _ g h xo fun J ds env1 F1 H1 A1 g1 s1 io h1 => ?_
  intro D nD
  have x0 := ext_own (o := .lst []) g1.sub nD
  have g0 := x0.good g1
  refine ⟨fun i m H' => m + i = ds.length ∧ ∃ env' F' A' acc C, Good F' H' env' σ A' ∧ Step F1 H1 env1 σ A1 F' H' env' σ (A' ++ C) ∧ RepR F' H' σ A' (.o (.lst acc)) (.ref D) C ∧ dLcGo dg dt de vs (fun acc env2 => P (.o (.lst acc)) env2) (fun _ _ => False) (ds.drop i) acc env',
    ⟨ds.length, rfl, env1, F1, A1, [], [D], g0, x0.step, .new g1 x0 (o := .lst []) ⟨D, [], [], rfl, rfl, upd_same, rfl, rfl⟩ (List.nodup_cons.mpr ⟨List.not_mem_nil, List.nodup_nil⟩) (fun a m => by rw [List.mem_singleton.mp m]; exact g1.sub.free nD), h1⟩, ?_⟩
  rintro i m H' ⟨hm, env', F', A', acc, C, g', s', rC, h'⟩
  cases e : ds[i]? with
  | none =>
    have hl : ds.length ≤ i := List.getElem?_eq_none_iff.mp e
    rw [List.drop_eq_nil_of_le hl] at h'
    exact .inl ⟨(io F' H' i s'.f g'.sub).2 hl, k (.ref D) (.o (.lst acc)) env' F' H' A' C g' (s1.trans s') rC h'⟩
  | some d =>
    have hi := (List.getElem?_eq_some_iff.mp e).1
    obtain ⟨go, yl⟩ := (io F' H' i s'.f g'.sub).1 d e
    have ed : ds.drop i = d :: ds.drop (i + 1) := by
      rw [List.drop_eq_getElem_cons hi]
      rw [(List.getElem?_eq_some_iff.mp e).2]
    rw [ed] at h'
    obtain ⟨nb, h'⟩ := h'
    refine .inr ⟨go, fun H2 => ∃ env2 F2 A2 acc2 C2, Good F2 H2 env2 σ A2 ∧ Step F1 H1 env1 σ A1 F2 H2 env2 σ (A2 ++ C2) ∧ RepR F2 H2 σ A2 (.o (.lst acc2)) (.ref D) C2 ∧ dLcGo dg dt de vs (fun acc env2 => P (.o (.lst acc)) env2) (fun _ _ => False) (ds.drop (i + 1)) acc2 env2,
      fun H2 q => ⟨m - 1, by omega, by omega, q⟩, fun x H'' hy => ?_⟩
    obtain ⟨F'', x1, rd⟩ := yl x H'' hy
    have g2 := x1.good g'
    obtain ⟨Aw, gw, mw⟩ := g2.wipe vs
    have rC2 := rC.ext x1
    have hC : ∀ a ∈ C, a ∉ Aw ∧ F'' a = none := fun a m => ⟨fun z => nodup_d rC2.2.1 (mw a z) m, rC2.2.2 a m⟩
    have xoF : ∀ (F H : Hp) (env : DEnv) (σ : L2.St) (A : List Addr), XOk F H env σ A W (fun e _ => False) := fun _ _ _ _ _ _ _ _ _ _ _ _ _ _ _ _ q => q.elim
    refine hg F'' H'' (wipeD env' vs) (L2.wipe σ vs) Aw [] x (.fr d) _ _ _ gw (.dat gw rd) h' (xoF _ _ _ _ _) fun env3 σ3 F3 H3 A3 g3 s3 l3 j3 h3 => ?_
    rw [List.append_nil] at s3
    have l3' : σ3.length = σ.length := by rw [l3, wipe_length]
    have j3' : ∀ j, j ∉ vs → σ3[j]? = σ[j]? := fun j hj => (j3 j fun z => hj (hjs j z)).trans (wipe_out hj)
    refine ⟨wipe_eq l3' j3', ?_⟩
    refine ht F3 H3 env3 σ3 A3 _ _ _ g3 h3 (xoF _ _ _ _ _) fun b env4 F4 H4 A4 g4 s4 h4 => ?_
    have s34 := s3.trans s4
    have eb : env'.length = σ.length := g'.rep.len.symm
    cases b with
    | false =>
      rw [if_neg Bool.false_ne_true] at h4 ⊢
      obtain ⟨A5, g5, s5, m5⟩ := lc_back (B := []) g' nb x1 gw mw (by rw [List.append_nil]; exact s34) g4 l3' j3' (by rw [eb, ← l3']; exact g4.rep.len.symm)
      rw [List.append_nil] at s5
      obtain ⟨q1, q2⟩ := s34.out rC2.1 hC
      refine ⟨_, F4, A5, acc, C, g5, s'.trans ⟨s5.f, fun a o h nt n f => s5.keep a o h nt (fun z => n (List.mem_append_left _ z)) f, s5.free, fun a m => ?_, fun a z => ?_, s5.bor⟩, ⟨q1, ?_, fun a m => (q2 a m).2⟩, h4⟩
      · rcases List.mem_append.mp m with m | m
        · exact (s5.anew a m).elim (fun z => .inl (List.mem_append_left _ z)) .inr
        · exact .inl (List.mem_append_right _ m)
      · rcases s5.fnew a z with z | z | z
        · exact .inl z
        · exact .inr (.inl (List.mem_append_left _ z))
        · exact .inr (.inr z)
      · exact List.nodup_append.mpr ⟨g5.nd, nodup_r rC.2.1, fun a ha b hb z => by subst z; exact (q2 a hb).1 (m5 a ha)⟩
    | true =>
      rw [if_pos rfl] at h4 ⊢
      refine he F4 H4 env4 σ3 A4 _ _ _ g4 h4 (xoF _ _ _ _ _) fun y r env5 F5 H5 A5 C5 g5 s5 r5 h5 => ?_
      obtain ⟨F6, A6, o, env6, C6, h6, g6, s6, r6⟩ := toO_ok g5 r5 h5
      obtain ⟨hz, h6⟩ := h6
      have s36 := s34.trans (s5.trans s6)
      obtain ⟨q1, q2⟩ := s36.out rC2.1 hC
      obtain ⟨D', xs, Bc, eD, eC, hxs, rl⟩ := q1
      cases eD
      refine ⟨xs, hxs, by rw [rl.len]; exact hz, ?_⟩
      have nDF : F6 D = none := (q2 D (by rw [eC]; exact List.mem_cons_self)).2
      have nDA : D ∉ A6 ++ C6 := (q2 D (by rw [eC]; exact List.mem_cons_self)).1
      have ndC := nodup_r rC.2.1
      rw [eC] at ndC
      have nDB := (List.nodup_cons.mp ndC).1
      have g7 : Good F6 (upd H5 D (.lst (xs ++ [y]))) env6 σ3 A6 := ⟨same_own g6.sub nDF, g6.rep.stay ⟨.refl _, fun a m o e => by rw [upd_ne (fun z => nDA (by rw [← z]; exact List.mem_append_left _ m))]; exact e⟩, g6.nd, g6.dis⟩
      obtain ⟨A7, g8, s8, m8⟩ := lc_back (B := C6) (H3 := H5) g' nb x1 gw mw s36 g6 l3' j3' (by rw [eb, ← l3']; exact g6.rep.len.symm)
      have nD7 : D ∉ A7 := fun z => nDA (List.mem_append_left _ (m8 D z))
      have g9 : Good F6 (upd H5 D (.lst (xs ++ [y]))) (backD env' env6 vs) σ A7 := ⟨g7.sub, g8.rep.stay ⟨.refl _, fun a m o e => by rw [upd_ne (fun z => nD7 (by rw [← z]; exact m))]; exact e⟩, g8.nd, g8.dis⟩
      have ro : RepO F6 (upd H5 D (.lst (xs ++ [y]))) (.lst (acc ++ [o])) (.ref D) (D :: (Bc ++ (C6 ++ []))) :=
        ⟨D, _, _, rfl, rfl, upd_same, (rl.stay ⟨.refl _, fun a m o e => by rw [upd_ne (fun z => nDB (by rw [← z]; exact m))]; exact e⟩).app ⟨y, [], C6, [], rfl, rfl, r6.1.stay ⟨.refl _, fun a m o e => by rw [upd_ne (fun z => nDA (by rw [← z]; exact List.mem_append_right _ m))]; exact e⟩, rfl, rfl⟩⟩
      have mC : ∀ a ∈ D :: (Bc ++ (C6 ++ [])), a ∈ C ∨ a ∈ C6 := fun a m => by
        rcases List.mem_cons.mp m with m | m
        · exact .inl (by rw [m, eC]; exact List.mem_cons_self)
        · rcases List.mem_append.mp m with m | m
          · exact .inl (by rw [eC]; exact List.mem_cons_of_mem _ m)
          · rw [List.append_nil] at m
            exact .inr m
      refine ⟨_, F6, A7, acc ++ [o], D :: (Bc ++ (C6 ++ [])), g9, s'.trans ⟨s8.f, fun a o h nt n f => ?_, fun a z => s8.free a (upd_free z), fun a m => ?_, fun a z => ?_, s8.bor⟩, ⟨ro, ?_, fun a m => ?_⟩, h6⟩
      · rw [upd_ne (fun z => n (List.mem_append_right _ (by rw [z, eC]; exact List.mem_cons_self)))]
        exact s8.keep a o h nt (fun z => n (List.mem_append_left _ z)) f
      · rcases List.mem_append.mp m with m | m
        · exact (s8.anew a (List.mem_append_left _ m)).elim (fun z => .inl (List.mem_append_left _ z)) .inr
        · rcases mC a m with m | m
          · exact .inl (List.mem_append_right _ m)
          · exact (s8.anew a (List.mem_append_right _ m)).elim (fun z => .inl (List.mem_append_left _ z)) .inr
      · rcases s8.fnew a z with z | z | z
        · exact .inl z
        · exact .inr (.inl (List.mem_append_left _ z))
        · exact .inr (.inr z)
      · have ndB : (D :: (Bc ++ (C6 ++ []))).Nodup := by
          rw [List.append_nil]
          refine List.nodup_cons.mpr ⟨fun m => ?_, List.nodup_append.mpr ⟨(List.nodup_cons.mp ndC).2, nodup_r r6.2.1, fun a ha b hb z => ?_⟩⟩
          · rcases List.mem_append.mp m with m | m
            · exact nDB m
            · exact nDA (List.mem_append_right _ m)
          · subst z
            exact (q2 a (by rw [eC]; exact List.mem_cons_of_mem _ ha)).1 (List.mem_append_right _ hb)
        refine List.nodup_append.mpr ⟨g9.nd, ndB, fun a ha b hb z => ?_⟩
        subst z
        rcases mC a hb with m | m
        · exact (q2 a m).1 (List.mem_append_left _ (m8 a ha))
        · exact nodup_d r6.2.1 (m8 a ha) m
      · rcases mC a m with m | m
        · exact (q2 a m).2
        · exact r6.2.2 a m

/-! ### sources of a walk -/
def dIter (da : DTE) : DTI := fun env P X => da env (fun r env1 => force r env1 fun d env2 => match d with
  | .lst ds => P ds env2
  | .tup ds => P ds env2
  | _ => False) X
def iSeq (K : PySem.W.Frag) (te : TE) : TI := fun σ H R => te σ H fun x H1 => ∃ a, x = .ref a ∧ (((∃ xs, SqL K H1 a xs) ∧ R (Itl K a) H1) ∨ ((∃ xs, SqT K H1 a xs) ∧ R (Itt K a) H1))
theorem pi_seq {X : Cx} {tg l : Expr} {tl : TE} (hl : PE X l tl) : PI X tg l (iSeq X.K tl) := by
  refine ⟨fun pins s σ H R I h => ?_⟩
  refine thn (hl.run pins s σ H _ I h) fun v s1 ⟨x, H1, I1, r1, q1⟩ => ?_
  obtain ⟨a, e, q⟩ := q1
  subst e
  cases r1
  rcases q with ⟨⟨xs, hq⟩, q⟩ | ⟨⟨xs, hq⟩, q⟩
  · obtain ⟨its, rv, p, hz⟩ := I1.list hq
    refine wpAny_pyIter_list p.isList ?_
    refine ⟨s1.heap.objs.size, [s1.heap.objs.size], _, _, H1, rfl, I1.kept (t' := s1.toks) fun b o e => Heap.get?_push_of_some _ e, turn_list a _, ⟨_, Heap.get?_push_size _ rfl, rfl, rfl⟩, fun b hb => ?_, q⟩
    have e : b = s1.heap.objs.size := by simpa using hb
    subst e
    exact I1.fpOk (Nat.le_refl _) (I1.hok.fresh (Nat.le_refl _))
  · obtain ⟨its, rv, p, hz⟩ := I1.tuple hq
    refine wpAny_pyIter_tuple (show s1.heap.IsTuple a its.toArray from p) ?_
    refine ⟨s1.heap.objs.size, [s1.heap.objs.size], _, _, H1, rfl, I1.kept (t' := s1.toks) fun b o e => Heap.get?_push_of_some _ e, turn_tuple a _, ⟨_, Heap.get?_push_size _ rfl, rfl, rfl⟩, fun b hb => ?_, q⟩
    have e : b = s1.heap.objs.size := by simpa using hb
    subst e
    exact I1.fpOk (Nat.le_refl _) (I1.hok.fresh (Nat.le_refl _))
def rgD (lo : Int) (n : Nat) : List D := (List.range n).map fun (k : Nat) => D.int (lo + (k : Nat))
def dRng1 (da : DTA) : DTI := fun env P X => da env (fun rs env1 => oth (peekL rs env1) fun ds => match ds with
  | [.int j] => -(2 ^ 62) ≤ j ∧ j < 2 ^ 62 ∧ P (rgD 0 j.toNat) env1
  | _ => False) X
def dRng2 (da : DTA) : DTI := fun env P X => da env (fun rs env1 => oth (peekL rs env1) fun ds => match ds with
  | [.int i, .int j] => (-(2 ^ 62) ≤ i ∧ i < 2 ^ 62 ∧ -(2 ^ 62) ≤ j ∧ j < 2 ^ 62) ∧ P (rgD i (j - i).toNat) env1
  | _ => False) X
section
variable {W : WX} {K : PySem.W.Frag} {te : TE} {de : DTE} {ta : TA} {da : DTA}
theorem iterOk_rng {F : Hp} {lo : Int} {n : Nat} : IterOk F (Itr lo n) (rgD lo n) := fun F' H' i s1 s2 => by
  have hl : (rgD lo n).length = n := by unfold rgD; rw [List.length_map, List.length_range]
  refine ⟨fun d e => ?_, fun h => by rw [hl] at h; exact h⟩
  have hi : i < n := by rw [← hl]; exact (List.getElem?_eq_some_iff.mp e).1
  have ed : d = .int (lo + (i : Nat)) := by
    unfold rgD at e
    rw [List.getElem?_map, List.getElem?_range hi] at e
    exact (Option.some.inj e).symm
  refine ⟨hi, fun x H'' ⟨e1, e2⟩ => ⟨F', ?_, ?_⟩⟩
  · rw [e1]; exact .refl s2
  · rw [ed, e2]; rfl
theorem sim_seq_it (he : SimE W te de) : SimI W (iSeq K te) (dIter de) := by
  intro F H env σ A Q P X g h xo k
  refine he F H env σ A _ _ X g h xo fun x r env1 F1 H1 A1 C1 g1 s1 rr1 h1 => ?_
  obtain ⟨F2, A2, d, env2, h2, g2, s2, rp⟩ := force_ok g1 rr1 h1
  cases d with
  | lst ds =>
    obtain ⟨a, xs, ex, hf, rl⟩ := rp
    refine ⟨a, ex, .inl ⟨⟨xs, SqL.of (g2.sub _ _ hf)⟩, k _ ds env2 F2 H1 A2 g2 (s1.trans s2) (fun F' H' i z1 z2 => ⟨fun d e => ?_, fun hl => ⟨xs, SqL.of (z2 _ _ (z1.ex rfl hf)), by rw [rl.length]; exact hl⟩⟩) h2⟩⟩
    obtain ⟨x, hx, rx⟩ := rl.get e
    refine ⟨⟨xs, x, SqL.of (z2 _ _ (z1.ex rfl hf)), hx⟩, fun y H'' ⟨e1, e2⟩ => ⟨F', by rw [e1]; exact .refl z2, ?_⟩⟩
    have := e2 xs (SqL.of (z2 _ _ (z1.ex rfl hf)))
    rw [hx] at this
    cases this
    exact rx.mono z1
  | tup ds =>
    obtain ⟨a, xs, ex, hf, rl⟩ := rp
    refine ⟨a, ex, .inr ⟨⟨xs, SqT.of (g2.sub _ _ hf)⟩, k _ ds env2 F2 H1 A2 g2 (s1.trans s2) (fun F' H' i z1 z2 => ⟨fun d e => ?_, fun hl => ⟨xs, SqT.of (z2 _ _ (z1.ex rfl hf)), by rw [rl.length]; exact hl⟩⟩) h2⟩⟩
    obtain ⟨x, hx, rx⟩ := rl.get e
    refine ⟨⟨xs, x, SqT.of (z2 _ _ (z1.ex rfl hf)), hx⟩, fun y H'' ⟨e1, e2⟩ => ⟨F', by rw [e1]; exact .refl z2, ?_⟩⟩
    have := e2 xs (SqT.of (z2 _ _ (z1.ex rfl hf)))
    rw [hx] at this
    cases this
    exact rx.mono z1
  | _ => exact h2.elim
theorem repPL_1 {F H : Hp} {d : D} {xs : List V} (h : RepPL F H [d] xs) : ∃ x, xs = [x] ∧ RepP F H d x := by
  obtain ⟨x, r, e, q, t⟩ := h
  exact ⟨x, by rw [e, show r = [] from t], q⟩
theorem repPL_2 {F H : Hp} {d e : D} {xs : List V} (h : RepPL F H [d, e] xs) : ∃ x y, xs = [x, y] ∧ RepP F H d x ∧ RepP F H e y := by
  obtain ⟨x, r, e, q, t⟩ := h
  obtain ⟨y, e2, q2⟩ := repPL_1 t
  exact ⟨x, y, by rw [e, e2], q, q2⟩
theorem sim_rng1 (ha : SimA W ta da) : SimI W (iRng1 ta) (dRng1 da) := by
  intro F H env σ A Q P X g h xo k
  refine ha F H env σ A _ _ X g h xo fun xs rs env1 F1 H1 A1 C1 g1 s1 rr1 h1 => ?_
  obtain ⟨ds, e1, h2⟩ := oth_ok h1
  have rp := peekL_ok g1 rr1 e1
  match ds, h2, rp with
  | [.int j], ⟨b1, b2, h2⟩, rp =>
    obtain ⟨x, ex, rx⟩ := repPL_1 rp
    exact ⟨j, by rw [ex, show x = _ from rx], b1, b2, k _ _ env1 F1 H1 A1 g1 (s1.mem fun a m => List.mem_append_left _ m) iterOk_rng h2⟩
theorem sim_rng2 (ha : SimA W ta da) : SimI W (iRng2 ta) (dRng2 da) := by
  intro F H env σ A Q P X g h xo k
  refine ha F H env σ A _ _ X g h xo fun xs rs env1 F1 H1 A1 C1 g1 s1 rr1 h1 => ?_
  obtain ⟨ds, e1, h2⟩ := oth_ok h1
  have rp := peekL_ok g1 rr1 e1
  match ds, h2, rp with
  | [.int i, .int j], ⟨b, h2⟩, rp =>
    obtain ⟨x, y, ex, rx, ry⟩ := repPL_2 rp
    exact ⟨i, j, by rw [ex, show x = _ from rx, show y = _ from ry], b, k _ _ env1 F1 H1 A1 g1 (s1.mem fun a m => List.mem_append_left _ m) iterOk_rng h2⟩
end
/-! ### functions -/
abbrev Fn := List O → (O → List O → Prop) → (DExc → List O → Prop) → Prop
def sel {α : Type} : List Bool → List α → List α
  | true :: ms, x :: xs => x :: sel ms xs
  | false :: ms, _ :: xs => sel ms xs
  | _, _ => []
/-- what is handed over by value is data -/
def okArgs : List Bool → List O → Prop
  | true :: ms, _ :: os => okArgs ms os
  | false :: ms, o :: os => (∃ d, o = .fr d) ∧ okArgs ms os
  | [], [] => True
  | _, _ => False
def startS : List Bool → List O → List S
  | true :: ms, o :: os => .bo o :: startS ms os
  | false :: ms, o :: os => .ow o :: startS ms os
  | _, _ => []
def startD (ms : List Bool) (n : Nat) (os : List O) : DEnv := startS ms os ++ List.replicate (n - os.length) .un
def outs : List Bool → DEnv → List O
  | true :: ms, .bo o :: env => o :: outs ms env
  | _ :: ms, _ :: env => outs ms env
  | _, _ => []
def dFn (ms : List Bool) (n : Nat) (body : DTS) : Fn := fun os P PE => os.length = ms.length ∧ body ⟨fun env => P (.fr .non) (outs ms env), fun o env => P o (outs ms env), fun _ => False, fun _ => False, fun e env => PE e (outs ms env)⟩ (startD ms n os)
abbrev Ste (F H : Hp) (A : List Addr) (F' H' : Hp) (A' : List Addr) : Prop := Step F H [] [] A F' H' [] [] A'
/-- what a def promises: what its data reading does -/
def spD (ms : List Bool) (f : Fn) : Sp := fun vs H Q E => ∃ F os B P PE, okArgs ms os ∧ Same F H ∧ RepOL F H os vs B ∧ B.Nodup ∧ (∀ a ∈ B, F a = none) ∧ TabOk F ∧ f os P PE ∧
  (∀ x o ps F' H' B' C, Same F' H' → RepOL F' H' ps (sel ms vs) B' → RepO F' H' o x C → (B' ++ C).Nodup → (∀ a ∈ B' ++ C, F' a = none) → Ste F H B F' H' (B' ++ C) → P o ps → Q x H') ∧
  (∀ e ps cls dd F' H' B', Same F' H' → RepOL F' H' ps (sel ms vs) B' → B'.Nodup → (∀ a ∈ B', F' a = none) → Ste F H B F' H' B' → RepX F' e cls dd → PE e ps → E cls dd H')
theorem okArgs_len : ∀ {ms : List Bool} {os : List O}, okArgs ms os → os.length = ms.length
  | true :: ms, _ :: os, h => by rw [List.length_cons, List.length_cons, okArgs_len (ms := ms) (os := os) h]
  | false :: ms, _ :: os, h => by rw [List.length_cons, List.length_cons, okArgs_len h.2]
  | [], [], _ => rfl
  | true :: _, [], h => h.elim
  | false :: _, [], h => h.elim
  | [], _ :: _, h => h.elim
theorem spD_len {ms : List Bool} {f : Fn} {vs : List V} {H : Hp} {Q : VK} {E : XK} (h : spD ms f vs H Q E) : vs.length = ms.length := by
  obtain ⟨F, os, B, P, PE, h1, h2, h3, _⟩ := h
  rw [h3.len, okArgs_len h1]
theorem repS_start {F H : Hp} : ∀ {ms : List Bool} {os : List O} {vs : List V} {B : List Addr} (n : Nat), TabOk F → okArgs ms os → RepOL F H os vs B → RepS F H (startS ms os ++ List.replicate n .un) (vs.map some ++ List.replicate n none) B
  | [], [], vs, B, 0, tb, _, ⟨e1, e2⟩ => by rw [e1, e2]; exact ⟨rfl, rfl, tb⟩
  | [], [], vs, B, n + 1, tb, _, ⟨e1, e2⟩ => by
    have ih := repS_start (F := F) (H := H) (ms := []) (os := []) (vs := []) (B := []) n tb trivial ⟨rfl, rfl⟩
    rw [e1, e2]
    exact ⟨none, _, [], [], rfl, rfl, rfl, ih⟩
  | true :: ms, o :: os, vs, B, n, tb, h, ⟨x, r, B1, C, e, eB, h1, t⟩ => by
    rw [e]
    exact ⟨some x, _, B1, C, rfl, eB, ⟨x, rfl, h1⟩, repS_start (ms := ms) n tb h t⟩
  | false :: ms, o :: os, vs, B, n, tb, h, ⟨x, r, B1, C, e, eB, h1, t⟩ => by
    rw [e]
    exact ⟨some x, _, B1, C, rfl, eB, ⟨x, rfl, h1⟩, repS_start (ms := ms) n tb h.2 t⟩
  | true :: _, [], _, _, _, _, h, _ => h.elim
  | false :: _, [], _, _, _, _, h, _ => h.elim
  | [], _ :: _, _, _, _, _, h, _ => h.elim
theorem sel_nil {α : Type} : ∀ {ms : List Bool} {vs : List α}, (∀ (i : Nat) (v : α), ms[i]? = some true → vs[i]? = some v → False) → sel ms vs = []
  | [], vs, _ => by unfold sel; rfl
  | true :: ms, [], _ => rfl
  | false :: ms, [], _ => rfl
  | true :: ms, v :: vs, h => (h 0 v rfl rfl).elim
  | false :: ms, v :: vs, h => sel_nil (ms := ms) (vs := vs) fun i w e1 e2 => h (i + 1) w e1 e2
theorem outs_ok {F H : Hp} : ∀ {ms : List Bool} {vs : List V} {env : DEnv} {σ : L2.St} {A : List Addr}, RepS F H env σ A → vs.length = ms.length → (∀ (i : Nat) (v : V), ms[i]? = some true → vs[i]? = some v → (∃ o : O, env[i]? = some (S.bo o)) ∧ σ[i]? = some (some v)) →
    ∃ B, RepOL F H (outs ms env) (sel ms vs) B ∧ B.Sublist A
  | [], vs, env, σ, A, h, hl, hb => by
    cases env with
    | nil => exact ⟨[], ⟨by unfold sel; rfl, rfl⟩, List.nil_sublist _⟩
    | cons s env => exact ⟨[], ⟨by unfold sel; rfl, rfl⟩, List.nil_sublist _⟩
  | m :: ms, [], env, σ, A, h, hl, hb => by cases hl
  | m :: ms, v :: vs, [], σ, A, h, hl, hb => by
    have e0 : outs (m :: ms) [] = [] := by cases m <;> rfl
    rw [e0]
    refine ⟨[], ⟨sel_nil fun i w e1 e2 => ?_, rfl⟩, List.nil_sublist _⟩
    obtain ⟨⟨o, ho⟩, _⟩ := hb i w e1 e2
    simp at ho
  | m :: ms, v :: vs, s :: env, σ, A, ⟨w, r, B, C, e, eA, h1, t⟩, hl, hb => by
    obtain ⟨B', q1, q2⟩ := outs_ok (ms := ms) (vs := vs) t (Nat.succ.inj hl) (fun i v hm hv => by
      have := hb (i + 1) v hm hv
      rw [e] at this
      exact this)
    cases m with
    | false =>
      refine ⟨B', ?_, ?_⟩
      · cases s <;> exact q1
      · rw [eA]; exact q2.trans (List.sublist_append_right _ _)
    | true =>
      obtain ⟨⟨o, ho⟩, hv⟩ := hb 0 v rfl rfl
      rw [e] at hv
      cases hv
      cases ho
      obtain ⟨x, ex, ro⟩ := h1
      cases ex
      refine ⟨B ++ B', ⟨v, _, B, B', rfl, rfl, ro, q1⟩, ?_⟩
      rw [eA]
      exact List.Sublist.append (List.Sublist.refl _) q2
theorem startS_get : ∀ {ms : List Bool} {os : List O} {i : Nat}, okArgs ms os → ms[i]? = some true → ∃ o, (startS ms os)[i]? = some (S.bo o)
  | true :: ms, o :: os, 0, _, _ => ⟨o, rfl⟩
  | true :: ms, o :: os, i + 1, h, e => startS_get (ms := ms) (os := os) (i := i) h e
  | false :: ms, o :: os, 0, _, e => by cases e
  | false :: ms, o :: os, i + 1, h, e => startS_get (ms := ms) (os := os) (i := i) h.2 e
  | [], [], _, _, e => by simp at e
  | true :: _, [], _, h, _ => h.elim
  | false :: _, [], _, h, _ => h.elim
  | [], _ :: _, _, h, _ => h.elim
theorem Step.ste {F H F' H' : Hp} {env env' : DEnv} {σ σ' : L2.St} {A A' : List Addr} (s : Step F H env σ A F' H' env' σ' A') : Ste F H A F' H' A' := ⟨s.f, s.keep, s.free, s.anew, s.fnew, fun _ _ h => by simp at h⟩
/-- a def's walk by its data reading -/
theorem fn_ok {ms : List Bool} {n : Nat} {N : List Str} {t : XK → TS} {d : DTS} {vs : List V} {H : Hp} {Q : VK} {E : XK} (hN : N.length = n) (hs : ∀ E, SimS (fun cls dd _ H => E cls dd H) (t E) d) (h : spD ms (dFn ms n d) vs H Q E) : t E { nx := fun _ H' => Q .non H', rt := Q } (L2.start N vs) H := by
  have hl := spD_len h
  obtain ⟨F, os, B, P, PE, ok, sub, ro, nd, dis, tb, ⟨_, hd⟩, hr, he⟩ := h
  have hos := okArgs_len ok
  have eσ : L2.start N vs = vs.map some ++ List.replicate (n - os.length) none := by
    unfold L2.start
    rw [hN, hl, hos]
  have g : Good F H (startD ms n os) (L2.start N vs) B := ⟨sub, by rw [eσ]; exact repS_start _ tb ok ro, nd, dis⟩
  have out : ∀ {env' : DEnv} {σ' : L2.St} {F' H' : Hp} {A' A'' : List Addr}, Good F' H' env' σ' A' → Step F H (startD ms n os) (L2.start N vs) B F' H' env' σ' A'' → ∃ B', RepOL F' H' (outs ms env') (sel ms vs) B' ∧ B'.Sublist A' := fun {env' σ' F' H' A' A''} g' s => by
    refine outs_ok g'.rep hl (fun i v hm hv => ?_)
    obtain ⟨o, ho⟩ := startS_get ok hm
    have ho' : (startD ms n os)[i]? = some (S.bo o) := by
      unfold startD
      rw [List.getElem?_append_left (List.getElem?_eq_some_iff.mp ho).1]
      exact ho
    obtain ⟨o', h1, h2⟩ := s.bor i o ho'
    refine ⟨⟨o', h1⟩, ?_⟩
    rw [h2, eσ, List.getElem?_append_left (by rw [List.length_map]; exact (List.getElem?_eq_some_iff.mp hv).1), List.getElem?_map, hv]
    rfl
  have sub' : ∀ {A' B' C : List Addr}, B'.Sublist A' → ∀ a ∈ B' ++ C, a ∈ A' ++ C := fun s a m => (List.mem_append.mp m).elim (fun z => List.mem_append_left _ (s.subset z)) fun z => List.mem_append_right _ z
  have fin : ∀ {env' : DEnv} {σ' : L2.St} {F' H' : Hp} {A' C : List Addr} {x : V} {o : O}, Good F' H' env' σ' A' → Step F H (startD ms n os) (L2.start N vs) B F' H' env' σ' (A' ++ C) → RepR F' H' σ' A' (.o o) x C → P o (outs ms env') → Q x H' := fun {env' σ' F' H' A' C x o} g' s r h => by
    obtain ⟨B', q1, q2⟩ := out g' s
    refine hr x o _ F' H' B' C g'.sub q1 r.1 ((q2.append (List.Sublist.refl C)).nodup r.2.1) (fun a m => ?_) (s.mem (sub' q2)).ste h
    exact (List.mem_append.mp (sub' q2 a m)).elim (fun z => g'.dis a z) fun z => r.2.2 a z
  refine hs E F H (startD ms n os) (L2.start N vs) B _ _ g hd ⟨fun env' σ' F' H' A' g' s h => ?_, fun env' σ' F' H' A' g' s h => h.elim, fun env' σ' F' H' A' g' s h => h.elim, fun x o env' σ' F' H' A' C g' s r h => fin g' s r h, fun cls dd e env' σ' F' H' A' g' s r h => ?_⟩
  · exact fin (C := []) g' (s.mem fun a m => by rw [List.append_nil] at m; exact m) (.dat g' (d := .non) rfl) h
  · obtain ⟨B', q1, q2⟩ := out g' s
    exact he e _ cls dd F' H' B' g'.sub q1 (q2.nodup g'.nd) (fun a m => g'.dis a (q2.subset m)) (s.mem fun a m => q2.subset m).ste r h
/-! ### calls -/
def dCall (b : Bool) (f : Fn) (dv : DTV) : DTE := fun env P X => dv env (fun ds env1 => f (ds.map .fr) (fun o _ => P (.o o) env1) (fun e _ => b = true ∧ X e env1)) X
/-- the first argument is a slot's own object, which the callee may change -/
def dCallM (b : Bool) (f : Fn) (i : Nat) (dv : DTV) : DTE := fun env P X => (contAt env i []).isSome = true ∧ dv env (fun ds env1 => match env1[i]? with
  | some s => (match s.cont with
    | some o => f (o :: ds.map .fr) (fun r ps => match ps with
      | [o'] => P (.o r) (env1.set i (s.re o'))
      | _ => False) (fun e ps => match ps with
      | [o'] => b = true ∧ X e (env1.set i (s.re o'))
      | _ => False)
    | none => False)
  | none => False) X
/-- C(..) -/
def dMake (b : Bool) (C : Addr) (f : Fn) (dv : DTV) : DTE := fun env P X => dv env (fun ds env1 => f (.ins C [] :: ds.map .fr) (fun r ps => r = .fr .non ∧ match ps with
  | [o'] => P (.o o') env1
  | _ => False) (fun e _ => b = true ∧ X e env1)) X
def vals (n : Nat) : List Bool := List.replicate n false
theorem okArgs_vals : ∀ ds : List D, okArgs (vals ds.length) (ds.map .fr)
  | [] => trivial
  | d :: ds => ⟨⟨d, rfl⟩, okArgs_vals ds⟩
theorem sel_vals {α : Type} : ∀ (n : Nat) (xs : List α), sel (vals n) xs = []
  | 0, xs => by unfold vals sel; rfl
  | n + 1, [] => rfl
  | n + 1, x :: xs => sel_vals n xs
theorem Ste.ext {F H F' H' : Hp} {C : List Addr} (s : Ste F H [] F' H' C) (sub0 : Same F H) (sub : Same F' H') : Ext F H F' H' C :=
  ⟨s.f, fun a o e => s.smH sub0 sub List.not_mem_nil e, fun a o e nt f => s.keep a o e nt List.not_mem_nil f, sub, fun a m => (s.anew a m).elim (fun z => nomatch z) id, fun a z => (s.fnew a z).elim .inl fun z => z.elim (fun z => nomatch z) .inr⟩
section
variable {W : WX} {ta : TA} {dv : DTV} {f : Fn} {n : Nat}
theorem sim_callG {b : Bool} {E : L2.St → XK} (hE : b = true → ∀ σ cls dd H, W cls dd σ H → E σ cls dd H) (hn : ∀ os P PE, f os P PE → os.length = n) (ha : SimV W ta dv) : SimE W (fun σ H Q => ta σ H fun vs H1 => spD (vals n) f vs H1 Q (E σ)) (dCall b f dv) := by
  intro F H env σ A Q P X g h xo k
  refine ha F H env σ A _ _ X g h xo fun xs ds env1 F1 H1 A1 g1 s1 rr1 h1 => ?_
  have el : ds.length = n := by have := hn _ _ _ h1; rw [List.length_map] at this; exact this
  refine ⟨F1, ds.map .fr, [], _, _, by rw [← el]; exact okArgs_vals ds, g1.sub, .ofL rr1, List.nodup_nil, fun _ h => (nomatch h), g1.rep.tab, h1, fun x o ps F' H' B' C sub rp ro nd dis st h2 => ?_, fun e ps cls dd F' H' B' sub rp nd dis st rx h2 => ?_⟩
  · rw [sel_vals] at rp
    have eB : B' = [] := by
      cases ps with
      | nil => exact rp.2
      | cons o ps => obtain ⟨_, _, _, _, e, _⟩ := rp; cases e
    subst eB
    have x1 := Ste.ext st g1.sub sub
    exact k x (.o o) env1 F' H' A1 C (x1.good g1) (s1.trans x1.step) (.new g1 x1 ro nd dis) h2
  · rw [sel_vals] at rp
    have eB : B' = [] := by
      cases ps with
      | nil => exact rp.2
      | cons o ps => obtain ⟨_, _, _, _, e, _⟩ := rp; cases e
    subst eB
    have x1 := Ste.ext st g1.sub sub
    exact hE h2.1 σ cls dd H' (xo cls dd e env1 σ F' H' A1 (x1.good g1) (s1.trans (x1.step.mem fun a m => List.mem_append_left _ m)) rx h2.2)
theorem sim_make {C0 : Addr} {b : Bool} {E : L2.St → XK} (hE : b = true → ∀ σ cls dd H, W cls dd σ H → E σ cls dd H) (hn : ∀ os P PE, f os P PE → os.length = n + 1) (ha : SimV W ta dv) :
    SimE W (fun σ H Q => ta σ H fun vs H1 => ∀ x dx, H1 x = none → H1 dx = none → dx ≠ x → spD (true :: vals n) f (.ref x :: vs) (upd (upd H1 dx (.own x)) x (.ins C0 dx [])) (fun v H2 => v = .non ∧ Q (.ref x) H2) (E σ)) (dMake b C0 f dv) := by
  intro F H env σ A Q P X g h xo k
  refine ha F H env σ A _ _ X g h xo fun xs ds env1 F1 H1 A1 g1 s1 rr1 h1 => ?_
  intro x dx nx ndx ne
  have el : ds.length = n := by have := hn _ _ _ h1; rw [List.length_cons, List.length_map] at this; exact Nat.succ.inj this
  have xa := ext_own (o := .own x) g1.sub ndx
  have nx' : (upd H1 dx (.own x)) x = none := by rw [upd_ne ne.symm]; exact nx
  have xb := ext_own (o := .ins C0 dx []) xa.sub nx'
  have x0 : Ext F1 H1 F1 (upd (upd H1 dx (.own x)) x (.ins C0 dx [])) [] := (xa.trans xb).noC fun _ h => nomatch h
  have g0 := x0.good g1
  refine ⟨F1, .ins C0 [] :: ds.map .fr, [x], _, _, by rw [← el]; exact okArgs_vals ds, x0.sub, ⟨.ref x, xs, [x], [], rfl, rfl, ⟨x, dx, [], [], rfl, rfl, upd_same, rfl, rfl⟩, .ofL rr1⟩, List.nodup_cons.mpr ⟨List.not_mem_nil, List.nodup_nil⟩, fun a m => by rw [List.mem_singleton.mp m]; exact g1.sub.free nx, g1.rep.tab, h1,
    fun y o ps F' H' B' C sub rp ro nd dis st h2 => ?_, fun e ps cls dd F' H' B' sub rp nd dis st rx h2 => ?_⟩
  · obtain ⟨ey, h2⟩ := h2
    have esel : sel (true :: vals n) (V.ref x :: xs) = [.ref x] := by
      show V.ref x :: sel (vals n) xs = _
      rw [sel_vals]
    rw [esel] at rp
    match ps, h2, rp with
    | [o'], h2, ⟨z, r, B1, C1, ez, eB, ro', ⟨er, eC⟩⟩ =>
      rw [er] at ez
      cases ez
      rw [eC, List.append_nil] at eB
      subst eB
      have mB : ∀ a ∈ B', H1 a = none := fun a m => by
        rcases st.anew a (List.mem_append_left _ m) with z | z
        · rw [List.mem_singleton.mp z]; exact nx
        · exact x0.h.free z
      have x1 : Ext F1 H1 F' H' B' := ⟨st.f, fun a o e => (let ⟨o1, h1, c1⟩ := x0.h a o e; let ⟨o2, h2, c2⟩ := st.smH x0.sub sub (fun z => by rw [List.mem_singleton.mp z, nx] at e; cases e) h1; ⟨o2, h2, c1.trans c2⟩), fun a o e nt f => st.keep a o (x0.hx a o e nt f) nt (fun z => by rw [List.mem_singleton.mp z, nx] at e; cases e) f, sub, mB, fun a z => (st.fnew a z).elim .inl fun z => .inr (z.elim (fun z => by rw [List.mem_singleton.mp z]; exact nx) x0.h.free)⟩
      subst ey
      refine ⟨ro.2, k (.ref x) (.o o') env1 F' H' A1 B' (x1.good g1) (s1.trans x1.step) (.new g1 x1 ro' (nodup_l nd) fun a m => dis a (List.mem_append_left _ m)) h2⟩
    | [], h2, _ => exact h2.elim
    | _ :: _ :: _, h2, _ => exact h2.elim
  · have x1 : Ext F1 H1 F' H' [] := ⟨st.f, fun a o e => (let ⟨o1, h1, c1⟩ := x0.h a o e; let ⟨o2, h2, c2⟩ := st.smH x0.sub sub (fun z => by rw [List.mem_singleton.mp z, nx] at e; cases e) h1; ⟨o2, h2, c1.trans c2⟩), fun a o e nt f => st.keep a o (x0.hx a o e nt f) nt (fun z => by rw [List.mem_singleton.mp z, nx] at e; cases e) f, sub, fun _ h => (nomatch h), fun a z => (st.fnew a z).elim .inl fun z => .inr (z.elim (fun z => by rw [List.mem_singleton.mp z]; exact nx) x0.h.free)⟩
    exact hE h2.1 σ cls dd H' (xo cls dd e env1 σ F' H' A1 (x1.good g1) (s1.trans (x1.step.mem fun a m => List.mem_append_left _ m)) rx h2.2)
theorem sim_callMG {i : Nat} {b : Bool} {E : L2.St → XK} (hE : b = true → ∀ σ cls dd H, W cls dd σ H → E σ cls dd H) (hn : ∀ os P PE, f os P PE → os.length = n + 1) (ha : SimV W ta dv) : SimE W (fun σ H Q => (tCons (tVar i) ta) σ H fun vs H1 => spD (true :: vals n) f vs H1 Q (E σ)) (dCallM b f i dv) := by
  intro F H env σ A Q P X g h xo k
  obtain ⟨h0, h⟩ := h
  obtain ⟨v, hv⟩ : ∃ v, σ[i]? = some (some v) := by
    cases e : contAt env i [] with
    | none => rw [e] at h0; cases h0
    | some u =>
      obtain ⟨s, o, e1, e2, e3⟩ := contAt_ok e
      obtain ⟨v, B, R, q1, q2, _⟩ := g.rep.out e1
      obtain ⟨x, ex, _⟩ := q2.cont e2
      exact ⟨x, by rw [q1, ex]⟩
  refine ⟨v, hv, ?_⟩
  refine ha F H env σ A _ _ X g h xo fun xs ds env1 F1 H1 A1 g1 s1 rr1 h1 => ?_
  cases es : env1[i]? with
  | none => rw [es] at h1; exact h1.elim
  | some s =>
    rw [es] at h1
    simp only at h1
    cases eo : s.cont with
    | none => rw [eo] at h1; exact h1.elim
    | some o =>
      rw [eo] at h1
      simp only at h1
      have el : ds.length = n := by have := hn _ _ _ h1; rw [List.length_cons, List.length_map] at this; exact Nat.succ.inj this
      obtain ⟨w, B, R, q1, q2, q3, q4⟩ := g1.rep.out es
      obtain ⟨x, ex, ro⟩ := q2.cont eo
      subst ex
      rw [hv] at q1
      cases q1
      have nd : (B ++ R).Nodup := q3.nodup_iff.mp g1.nd
      have mB : ∀ a ∈ B, a ∈ A1 := fun a m => q3.mem_iff.mpr (List.mem_append_left _ m)
      have mR : ∀ a ∈ R, a ∈ A1 := fun a m => q3.mem_iff.mpr (List.mem_append_right _ m)
      have esel : sel (true :: vals n) (v :: xs) = [v] := by
        show v :: sel (vals n) xs = _
        rw [sel_vals]
      have fin : ∀ {F' H' : Hp} {B' C : List Addr} {o' : O}, Same F' H' → RepO F' H' o' v B' → (B' ++ C).Nodup → (∀ a ∈ B' ++ C, F' a = none) → Ste F1 H1 B F' H' (B' ++ C) →
          ∃ A', Good F' H' (env1.set i (s.re o')) σ A' ∧ Step F1 H1 env1 σ A1 F' H' (env1.set i (s.re o')) σ (A' ++ C) ∧ ∀ a ∈ A', a ∉ C := fun {F' H' B' C o'} sub ro' ndB dis st => by
        have stR : Stay F1 H1 R F' H' := ⟨st.f, fun a m o e => st.keep a o e (own_tbl (g1.rep.kind a (mR a m)) e) (fun z => nodup_d nd z m) (g1.dis a (mR a m))⟩
        obtain ⟨A', p1, p2⟩ := RepS.put (RepSl.re eo ro') (q4.stay stR) (get_set es)
        rw [List.set_set, set_self hv] at p2
        have disR : ∀ a ∈ R, F' a = none := fun a m => by
          cases q : F' a with
          | none => rfl
          | some u =>
            rcases st.fnew a (by rw [q]; exact Option.some_ne_none _) with z | z | z
            · exact absurd (g1.dis a (mR a m)) z
            · exact (nodup_d nd z m).elim
            · exact absurd z (g1.rep.there a (mR a m))
        have sepR : ∀ a ∈ B' ++ C, a ∉ R := fun a m z => by
          rcases st.anew a m with q | q
          · exact nodup_d nd q z
          · exact g1.rep.there a (mR a z) q
        refine ⟨A', ⟨sub, p2, p1.nodup_iff.mpr (List.nodup_append.mpr ⟨nodup_l ndB, nodup_r nd, fun a ha b hb z => by subst z; exact sepR a (List.mem_append_left _ ha) hb⟩), fun a m => ?_⟩, ⟨st.f, fun a o e nt n f => st.keep a o e nt (fun z => n (mB a z)) f, st.free, fun a m => ?_, fun a z => ?_, fun j w hj => ?_⟩, fun a m z => ?_⟩
        · rcases List.mem_append.mp (p1.mem_iff.mp m) with m | m
          · exact dis a (List.mem_append_left _ m)
          · exact disR a m
        · rcases List.mem_append.mp m with m | m
          · rcases List.mem_append.mp (p1.mem_iff.mp m) with m | m
            · exact (st.anew a (List.mem_append_left _ m)).elim (fun z => .inl (mB a z)) .inr
            · exact .inl (mR a m)
          · exact (st.anew a (List.mem_append_right _ m)).elim (fun z => .inl (mB a z)) .inr
        · rcases st.fnew a z with z | z | z
          · exact .inl z
          · exact .inr (.inl (mB a z))
          · exact .inr (.inr z)
        · obtain ⟨o2, h2⟩ := bor_re (o := o') es j w hj
          exact ⟨o2, h2, rfl⟩
        · rcases List.mem_append.mp (p1.mem_iff.mp m) with m | m
          · exact nodup_d ndB m z
          · exact sepR a (List.mem_append_right _ z) m
      refine ⟨F1, o :: ds.map .fr, B, _, _, by rw [← el]; exact okArgs_vals ds, g1.sub, ⟨v, xs, B, [], rfl, by rw [List.append_nil], ro, .ofL rr1⟩, nodup_l nd, fun a m => g1.dis a (mB a m), g1.rep.tab, h1,
        fun y r ps F' H' B' C sub rp ror ndr dis st h2 => ?_, fun e ps cls dd F' H' B' sub rp ndr dis st rx h2 => ?_⟩
      · rw [esel] at rp
        match ps, h2, rp with
        | [o'], h2, ⟨z, r', B1, C1, ez, eB, ro', ⟨er, eC⟩⟩ =>
          rw [er] at ez
          cases ez
          rw [eC, List.append_nil] at eB
          subst eB
          obtain ⟨A', g', s', sep⟩ := fin sub ro' ndr dis st
          exact k y (.o r) _ F' H' A' C g' (s1.trans s') ⟨ror, List.nodup_append.mpr ⟨g'.nd, nodup_r ndr, fun a ha b hb z => by subst z; exact sep a ha hb⟩, fun a m => dis a (List.mem_append_right _ m)⟩ h2
        | [], h2, _ => exact h2.elim
        | _ :: _ :: _, h2, _ => exact h2.elim
      · rw [esel] at rp
        match ps, h2, rp with
        | [o'], h2, ⟨z, r', B1, C1, ez, eB, ro', ⟨er, eC⟩⟩ =>
          rw [er] at ez
          cases ez
          rw [eC, List.append_nil] at eB
          subst eB
          obtain ⟨A', g', s', sep⟩ := fin (C := []) sub ro' (by rw [List.append_nil]; exact ndr) (fun a m => dis a (by rw [List.append_nil] at m; exact m)) (st.mem fun a m => by rw [List.append_nil] at m; exact m)
          exact hE h2.1 σ cls dd H' (xo cls dd e _ σ F' H' A' g' (s1.trans (s'.mem fun a m => List.mem_append_left _ m)) rx h2.2)
        | [], h2, _ => exact h2.elim
        | _ :: _ :: _, h2, _ => exact h2.elim
theorem tCall_eq {sp : Sp} {E : XK} {t : TA} : tCall sp [] E t = fun σ H Q => t σ H fun vs H1 => sp vs H1 Q E := by
  funext σ H Q
  unfold tCall
  simp only [List.append_nil]
theorem tMake_eq {C : Addr} {sp : Sp} {E : XK} {t : TA} : tMake C sp [] E t = fun σ H Q => t σ H fun vs H1 => ∀ x dx, H1 x = none → H1 dx = none → dx ≠ x → sp (.ref x :: vs) (upd (upd H1 dx (.own x)) x (.ins C dx [])) (fun v H2 => v = .non ∧ Q (.ref x) H2) E := by
  funext σ H Q
  unfold tMake
  simp only [List.append_nil]
theorem sim_call0 {E : XK} (hn : ∀ os P PE, f os P PE → os.length = n) (ha : SimV W ta dv) : SimE W (tCall (spD (vals n) f) [] E ta) (dCall false f dv) := by
  rw [tCall_eq]
  exact sim_callG (E := fun _ => E) (fun h => nomatch h) hn ha
theorem sim_callX {E : XK} (hn : ∀ os P PE, f os P PE → os.length = n) (ha : SimV (fun cls dd _ H => E cls dd H) ta dv) : SimE (fun cls dd _ H => E cls dd H) (tCall (spD (vals n) f) [] E ta) (dCall true f dv) := by
  rw [tCall_eq]
  exact sim_callG (E := fun _ => E) (fun _ _ _ _ _ h => h) hn ha
theorem sim_callM0 {i : Nat} {E : XK} (hn : ∀ os P PE, f os P PE → os.length = n + 1) (ha : SimV W ta dv) : SimE W (tCall (spD (true :: vals n) f) [] E (tCons (tVar i) ta)) (dCallM false f i dv) := by
  rw [tCall_eq]
  exact sim_callMG (E := fun _ => E) (fun h => nomatch h) hn ha
theorem sim_make0 {C : Addr} {E : XK} (hn : ∀ os P PE, f os P PE → os.length = n + 1) (ha : SimV W ta dv) : SimE W (tMake C (spD (true :: vals n) f) [] E ta) (dMake false C f dv) := by
  rw [tMake_eq]
  exact sim_make (E := fun _ => E) (fun h => nomatch h) hn ha
end

/-! ### trees: the mathematics -/
theorem pigeon : ∀ (n : Nat) (f : Nat → Nat), (∀ k, k ≤ n → f k < n) → ∃ i j, i < j ∧ j ≤ n ∧ f i = f j
  | 0, f, h => absurd (h 0 (Nat.le_refl _)) (by omega)
  | n + 1, f, h => by
    by_cases e : ∃ i, i ≤ n ∧ f i = f (n + 1)
    · obtain ⟨i, hi, e⟩ := e
      exact ⟨i, n + 1, by omega, Nat.le_refl _, e⟩
    · have ne : ∀ i, i ≤ n → f i ≠ f (n + 1) := fun i hi z => e ⟨i, hi, z⟩
      have hl := h (n + 1) (Nat.le_refl _)
      obtain ⟨i, j, hij, hj, g⟩ := pigeon n (fun k => if f k = n then f (n + 1) else f k) fun k hk => by
        have h1 := h k (by omega)
        have h2 := ne k hk
        by_cases q : f k = n
        · simp only [q, if_true]; omega
        · simp only [q, if_false]; omega
      refine ⟨i, j, hij, by omega, ?_⟩
      have h1 := ne i (by omega)
      have h2 := ne j hj
      by_cases q1 : f i = n
      · by_cases q2 : f j = n
        · rw [q1, q2]
        · simp only [q1, q2, if_true, if_false] at g
          exact absurd g.symm h2
      · by_cases q2 : f j = n
        · simp only [q1, q2, if_true, if_false] at g
          exact absurd g h1
        · simp only [q1, q2, if_false] at g
          exact g
/-- one step up; many -/
def stp (hs : List Int) (h : Int) : Int := if h = 0 then 0 else hs.getD (h.toNat - 1) 0
def up (hs : List Int) : Nat → Int → Int
  | 0, h => h
  | k + 1, h => up hs k (stp hs h)
theorem up_add (hs : List Int) : ∀ (a b : Nat) (h : Int), up hs (a + b) h = up hs b (up hs a h)
  | 0, b, h => by rw [Nat.zero_add]; rfl
  | a + 1, b, h => by
    rw [show a + 1 + b = (a + b) + 1 by omega]
    exact up_add hs a b (stp hs h)
theorem up_succ (hs : List Int) (k : Nat) (h : Int) : up hs (k + 1) h = stp hs (up hs k h) := up_add hs k 1 h
theorem up_zero (hs : List Int) : ∀ k : Nat, up hs k 0 = 0
  | 0 => rfl
  | k + 1 => up_zero hs k
theorem up_past {hs : List Int} {i j : Nat} {h : Int} (e : up hs i h = 0) (l : i ≤ j) : up hs j h = 0 := by
  rw [show j = i + (j - i) by omega, up_add, e, up_zero]
/-- all are places -/
def Pls (hs : List Int) : Prop := ∀ h ∈ hs, 0 ≤ h ∧ h ≤ hs.length
theorem Pls.at {hs : List Int} (p : Pls hs) (i : Nat) : 0 ≤ hs.getD i 0 ∧ hs.getD i 0 ≤ hs.length := by
  by_cases hi : i < hs.length
  · rw [List.getD_eq_getElem?_getD, List.getElem?_eq_getElem hi]
    exact p _ (List.getElem_mem hi)
  · rw [List.getD_eq_getElem?_getD, List.getElem?_eq_none (by omega)]
    exact ⟨Int.le_refl _, Int.natCast_nonneg _⟩
theorem up_in {hs : List Int} (p : Pls hs) : ∀ (k : Nat) (h : Int), 0 ≤ h → h ≤ hs.length → 0 ≤ up hs k h ∧ up hs k h ≤ hs.length
  | 0, h, a, b => ⟨a, b⟩
  | k + 1, h, a, b => by
    refine up_in p k (stp hs h) ?_ ?_
    · unfold stp
      split
      · exact Int.le_refl _
      · exact (p.at _).1
    · unfold stp
      split
      · exact Int.natCast_nonneg _
      · exact (p.at _).2
def leads (hs : List Int) (b : Int) : Bool := (List.range (hs.length + 1)).any fun k => decide (up hs k b = 0)
theorem leads_true {hs : List Int} {b : Int} {k : Nat} (hk : k ≤ hs.length) (e : up hs k b = 0) : leads hs b = true :=
  List.any_eq_true.mpr ⟨k, List.mem_range.mpr (by omega), decide_eq_true e⟩
theorem of_leads {hs : List Int} {b : Int} (h : leads hs b = true) : ∃ k, k ≤ hs.length ∧ up hs k b = 0 := by
  obtain ⟨k, hk, q⟩ := List.any_eq_true.mp h
  exact ⟨k, by have := List.mem_range.mp hk; omega, of_decide_eq_true q⟩
/-! ### what is due for a thing -/
inductive Part where
  | hung
  | blk (k : Nat)
  | ring (k : Nat)
def badAt (xs : List V) (k : Nat) : Bool := match xs[k]? with
  | some (.int i) => !(decide (0 ≤ i ∧ i ≤ xs.length)) || decide (i = k + 1)
  | _ => true
def nums (xs : List V) : List Int := xs.map fun x => match x with
  | .int i => i
  | _ => 0
theorem nums_map (ns : List Int) : nums (ns.map V.int) = ns := by
  unfold nums
  rw [List.map_map]
  exact List.map_id' ns
def partT (xs : List V) : Option Part := if xs.length = 0 ∨ 40 < xs.length then some .hung else match (List.range xs.length).find? (badAt xs) with
  | some k => some (.blk (k + 1))
  | none => match (List.range xs.length).find? (fun (k : Nat) => !leads (nums xs) ((k : Int) + 1)) with
    | some k => some (.ring (k + 1))
    | none => none
theorem find_no {n : Nat} {f : Nat → Bool} (l : ∀ j, j < n → f j = false) : (List.range n).find? f = none := by
  rw [List.find?_eq_none]
  intro j hj
  rw [l j (List.mem_range.mp hj)]
  exact Bool.false_ne_true
theorem partT_none {xs : List V} (h : ¬ (xs.length = 0 ∨ 40 < xs.length)) (g : ∀ j, j < xs.length → badAt xs j = false) (l : ∀ j : Nat, j < xs.length → leads (nums xs) (j + 1) = true) : partT xs = none := by
  unfold partT
  rw [if_neg h, find_no g, find_no fun j hj => by rw [l j hj]; rfl]
/-- a tree's row: places, none the block's own, each leads home -/
def IsTree (hs : List Int) : Prop := 1 ≤ hs.length ∧ hs.length ≤ 40 ∧ Pls hs ∧ (∀ (k : Nat) (h : Int), hs[k]? = some h → h ≠ k + 1) ∧ ∀ b : Nat, b < hs.length → leads hs (b + 1) = true
theorem IsTree.part {hs : List Int} (t : IsTree hs) : partT (hs.map V.int) = none := by
  obtain ⟨h1, h2, p, ns, l⟩ := t
  have hl : (hs.map V.int).length = hs.length := List.length_map _
  refine partT_none (by rw [hl]; omega) (fun j hj => ?_) fun j hj => ?_
  · rw [hl] at hj
    unfold badAt
    rw [List.getElem?_map, List.getElem?_eq_getElem hj, hl]
    have q := p _ (List.getElem_mem hj)
    have n := ns j _ (List.getElem?_eq_getElem hj)
    show (!decide (0 ≤ hs[j] ∧ hs[j] ≤ (hs.length : Int)) || decide (hs[j] = (j : Int) + 1)) = false
    rw [decide_eq_true q, decide_eq_false n]
    rfl
  · rw [hl] at hj
    rw [nums_map]
    exact l j hj

/-! ### things and parts in a heap -/
def Thing (H : Hp) (x : V) (r : Option Part) : Prop := (∃ s, Kind H x s ∧ s ≠ "tuple" ∧ r = some .hung) ∨ ∃ (a : Addr) (xs : List V), x = .ref a ∧ H a = some (.tup xs) ∧ (∀ y ∈ xs, ∃ s, Kind H y s) ∧ r = partT xs
def Enc (H : Hp) (x : V) : Option Part → Prop
  | none => x = .non
  | some .hung => x = .str "hung"
  | some (.blk k) => x = .int k
  | some (.ring k) => ∃ t, x = .ref t ∧ H t = some (.tup [.str "ring", .int k])
theorem Thing.same {H H' : Hp} {x : V} {r : Option Part} (h : Thing H x r) (e : Same H H') : Thing H' x r := by
  rcases h with ⟨s, k, n, q⟩ | ⟨a, xs, q, ha, k, z⟩
  · exact .inl ⟨s, k.same e, n, q⟩
  · exact .inr ⟨a, xs, q, e _ _ ha, fun y hy => let ⟨s, h⟩ := k y hy; ⟨s, h.same e⟩, z⟩
theorem Enc.same {H H' : Hp} {x : V} {r : Option Part} (h : Enc H x r) (e : Same H H') : Enc H' x r := by
  cases r with
  | none => exact h
  | some p =>
    cases p with
    | hung => exact h
    | blk k => exact h
    | ring k =>
      obtain ⟨t, q, ht⟩ := h
      exact ⟨t, q, e _ _ ht⟩

/-! ### X(), X an own exception class without own __init__ -/
section
variable {X : Cx}
end
section
variable {X : Cx} {CX : CXT} {C f : Addr} {fd : FuncData} {ps : List Str} {sp : Sp} {E : XK} {n : Nat}
end
section
variable {X : Cx}
end
/-! ### sorted(t), t a tuple of whole numbers -/
section
open PySem.W PyProof.Rows SrtO
variable {prog : Program} {w : World} {A : Around} {E : Value → Shared → Prop} {s : Shared}
end
section
variable {X : Cx}
end

/-! ### methods of lists that a slot has -/
/-- the object at a place is changed, and something is told -/
theorem Good.writeR {F H : Hp} {env : DEnv} {σ : L2.St} {A C : List Addr} {i : Nat} {path : List PSt} {o1 o2 o3 : O} {x z : V} {H' : Hp} (g : Good F H env σ A) (hc : contAt env i path = some o1) (hp : ∃ y, σ[i]? = some (some y) ∧ PathV H y path x)
    (hC : ∀ a ∈ C, a ∉ A ∧ F a = none) (f : Same F H') (fr : ∀ a, H' a = none → H a = none)
    (hw : ∀ B R, RepO F H o1 x B → A.Perm (B ++ R) → (B ++ R).Nodup → (∀ a o, H a = some o → a ∉ B → H' a = some o) ∧ ∃ B' C', RepO F H' o2 x B' ∧ RepO F H' o3 z C' ∧ (B' ++ C').Nodup ∧ ∀ a ∈ B' ++ C', a ∈ B ∨ a ∈ C) :
    ∃ A' C', Good F H' (setAt env i path o2) σ A' ∧ Step F H env σ (A ++ C) F H' (setAt env i path o2) σ (A' ++ C') ∧ RepR F H' σ A' (.o o3) z C' := by
  obtain ⟨s, o, e1, e2, e3⟩ := contAt_ok hc
  obtain ⟨y, hy, hv⟩ := hp
  obtain ⟨B, R, h1, h2, h3⟩ := g.rep.focus e1 e2 e3 hy hv
  have nd : (B ++ R).Nodup := h2.nodup_iff.mp g.nd
  have mB : ∀ a ∈ B, a ∈ A := fun a m => h2.mem_iff.mpr (List.mem_append_left _ m)
  have mR : ∀ a ∈ R, a ∈ A := fun a m => h2.mem_iff.mpr (List.mem_append_right _ m)
  obtain ⟨kp, B', C', r', r3, ndB, mB'⟩ := hw B R h1 h2 nd
  obtain ⟨A', p1, p2⟩ := h3 F H' o2 B' ⟨.refl _, fun a m o e => kp a o e fun z => nodup_d nd z m⟩ r'
  have es : setAt env i path o2 = env.set i (s.re (o.put path o2)) := by
    unfold setAt
    rw [e1]
    simp only
    rw [e2]
  rw [es]
  have dBC : ∀ a ∈ B' ++ C', F a = none := fun a m => (mB' a m).elim (fun z => g.dis a (mB a z)) fun z => (hC a z).2
  have sep : ∀ a ∈ B' ++ C', a ∉ R := fun a m z => (mB' a m).elim (fun q => nodup_d nd q z) fun q => (hC a q).1 (mR a z)
  have mA' : ∀ a ∈ A', a ∈ B' ∨ a ∈ R := fun a m => List.mem_append.mp (p2.mem_iff.mp m)
  refine ⟨A', C', ⟨f, p1, p2.nodup_iff.mpr (List.nodup_append.mpr ⟨nodup_l ndB, nodup_r nd, fun a ha b hb z => by subst z; exact sep a (List.mem_append_left _ ha) hb⟩), fun a m => (mA' a m).elim (fun z => dBC a (List.mem_append_left _ z)) fun z => g.dis a (mR a z)⟩,
    ⟨.refl _, fun a o e _ n _ => kp a o e fun z => n (List.mem_append_left _ (mB a z)), fr, fun a m => .inl ?_, fun _ h => .inl h, fun j w hj => ?_⟩, ⟨r3, List.nodup_append.mpr ⟨p2.nodup_iff.mpr (List.nodup_append.mpr ⟨nodup_l ndB, nodup_r nd, fun a ha b hb z => by subst z; exact sep a (List.mem_append_left _ ha) hb⟩), nodup_r ndB, fun a ha b hb z => ?_⟩, fun a m => dBC a (List.mem_append_right _ m)⟩⟩
  · rcases List.mem_append.mp m with m | m
    · rcases mA' a m with m | m
      · exact (mB' a (List.mem_append_left _ m)).elim (fun z => List.mem_append_left _ (mB a z)) fun z => List.mem_append_right _ z
      · exact List.mem_append_left _ (mR a m)
    · exact (mB' a (List.mem_append_right _ m)).elim (fun z => List.mem_append_left _ (mB a z)) fun z => List.mem_append_right _ z
  · obtain ⟨o', eo⟩ := bor_re (o := o.put path o2) e1 j w hj
    exact ⟨o', eo, rfl⟩
  · subst z
    rcases mA' a ha with m | m
    · exact nodup_d ndB m hb
    · exact sep a (List.mem_append_right _ hb) m
mutual
theorem RepO.uniq {F H : Hp} : ∀ {o : O} {x : V} {A A' : List Addr}, RepO F H o x A → RepO F H o x A' → A = A'
  | .fr d, _, _, _, ⟨e, _⟩, ⟨e', _⟩ => by rw [e, e']
  | .lst os, _, _, _, ⟨a, xs, B, e, eA, h, r⟩, ⟨a', xs', B', e', eA', h', r'⟩ => by
    rw [e] at e'
    cases e'
    rw [h] at h'
    cases h'
    rw [eA, eA', RepOL.uniq r r']
  | .dct t os, _, _, _, ⟨a, o, xs, B, e, eA, h, c, r⟩, ⟨a', o', xs', B', e', eA', h', c', r'⟩ => by
    rw [e] at e'
    cases e'
    rw [h] at h'
    cases h'
    have q := c.uniq c'
    subst q
    rw [eA, eA', RepOM.uniq r r']
  | .ins C os, _, _, _, ⟨a, dx, xs, B, e, eA, h, r⟩, ⟨a', dx', xs', B', e', eA', h', r'⟩ => by
    rw [e] at e'
    cases e'
    rw [h] at h'
    cases h'
    rw [eA, eA', RepOF.uniq r r']
theorem RepOL.uniq {F H : Hp} : ∀ {os : List O} {xs : List V} {A A' : List Addr}, RepOL F H os xs A → RepOL F H os xs A' → A = A'
  | [], _, _, _, ⟨_, e⟩, ⟨_, e'⟩ => by rw [e, e']
  | o :: os, _, _, _, ⟨x, r, B, C, e, eA, h, t⟩, ⟨x', r', B', C', e', eA', h', t'⟩ => by
    rw [e] at e'
    cases e'
    rw [eA, eA', RepO.uniq h h', RepOL.uniq t t']
theorem RepOM.uniq {F H : Hp} : ∀ {os : List (List Key × O)} {xs : List (List Key × V)} {A A' : List Addr}, RepOM F H os xs A → RepOM F H os xs A' → A = A'
  | [], _, _, _, ⟨_, e⟩, ⟨_, e'⟩ => by rw [e, e']
  | (k, o) :: os, _, _, _, ⟨x, r, B, C, e, eA, h, t⟩, ⟨x', r', B', C', e', eA', h', t'⟩ => by
    rw [e] at e'
    cases e'
    rw [eA, eA', RepO.uniq h h', RepOM.uniq t t']
theorem RepOF.uniq {F H : Hp} : ∀ {os : List (Str × O)} {xs : List (Str × V)} {A A' : List Addr}, RepOF F H os xs A → RepOF F H os xs A' → A = A'
  | [], _, _, _, ⟨_, e⟩, ⟨_, e'⟩ => by rw [e, e']
  | (k, o) :: os, _, _, _, ⟨x, r, B, C, e, eA, h, t⟩, ⟨x', r', B', C', e', eA', h', t'⟩ => by
    rw [e] at e'
    cases e'
    rw [eA, eA', RepO.uniq h h', RepOF.uniq t t']
end
def isL : Option O → Bool
  | some (.lst _) => true
  | _ => false
/-- xs.m(e), xs a slot -/
def dMeth1 (f : List O → O → (List O → O → Prop) → Prop) (i : Nat) (de : DTE) : DTE := fun env P X => isL (contAt env i []) = true ∧ de env (fun r env1 => toO r env1 fun o env2 => oth (contAt env2 i []) fun u => match u with
  | .lst os => f os o fun os' z => P (.o z) (setAt env2 i [] (.lst os'))
  | _ => False) X
def fAppend : List O → O → (List O → O → Prop) → Prop := fun os o k => os.length < sizeLine ∧ k (os ++ [o]) (.fr .non)
def fPopAt : List O → O → (List O → O → Prop) → Prop := fun os o k => match o with
  | .fr (.int i) => (-(2 ^ 63) ≤ i ∧ i < 2 ^ 63) ∧ oth (seqIndex? i os.length) fun j => oth os[j]? fun u => k (os.eraseIdx j) u
  | _ => False
def fExtend : List O → O → (List O → O → Prop) → Prop := fun os o k => match o with
  | .lst us => os.length + us.length ≤ sizeLine ∧ k (os ++ us) (.fr .non)
  | .fr (.lst ds) => os.length + ds.length ≤ sizeLine ∧ k (os ++ ds.map .fr) (.fr .non)
  | _ => False
def SimM1 (r : V → List V → Hp → VK → Prop) (f : List O → O → (List O → O → Prop) → Prop) : Prop := ∀ (F H : Hp) (a : Addr) (xs : List V) (y : V) (os : List O) (o : O) (k : List O → O → Prop) (Q : VK) (B C : List Addr), Same F H → H a = some (.lst xs) → RepOL F H os xs B → RepO F H o y C → (a :: B ++ C).Nodup → F a = none → f os o k →
  (∀ os' z x xs' B' C', k os' z → RepOL F (upd H a (.lst xs')) os' xs' B' → RepO F (upd H a (.lst xs')) z x C' → (B' ++ C').Nodup → (∀ b ∈ B' ++ C', b ∈ B ++ C) → Q x (upd H a (.lst xs'))) → r (.ref a) [y] H Q
theorem RepOL.upd {F H : Hp} {a : Addr} {u : HO} {os : List O} {xs : List V} {B : List Addr} (n : a ∉ B) (h : RepOL F H os xs B) : RepOL F (upd H a u) os xs B := h.stay ⟨.refl _, fun b m o e => by rw [upd_ne (fun z => n (by rw [← z]; exact m))]; exact e⟩
theorem RepO.upd {F H : Hp} {a : Addr} {u : HO} {o : O} {x : V} {B : List Addr} (n : a ∉ B) (h : RepO F H o x B) : RepO F (L2.upd H a u) o x B := h.stay ⟨.refl _, fun b m o e => by rw [upd_ne (fun z => n (by rw [← z]; exact m))]; exact e⟩
theorem simM_append : SimM1 rAppend fAppend := by
  intro F H a xs y os o k Q B C s ha rl ro nd nF h q
  obtain ⟨hl, h⟩ := h
  have ndB : (a :: (B ++ C)).Nodup := nd
  have nB : a ∉ B ++ C := (List.nodup_cons.mp ndB).1
  refine ⟨a, xs, y, rfl, rfl, ha, by rw [rl.len]; exact hl, q _ (.fr .non) .non _ (B ++ (C ++ [])) [] h ?_ ⟨rfl, rfl⟩ ?_ fun b m => by rw [List.append_nil, List.append_nil] at m; exact m⟩
  · exact (rl.upd fun z => nB (List.mem_append_left _ z)).app ⟨y, [], C, [], rfl, rfl, ro.upd fun z => nB (List.mem_append_right _ z), rfl, rfl⟩
  · rw [List.append_nil, List.append_nil]; exact (List.nodup_cons.mp ndB).2
theorem RepOL.erase {F H : Hp} : ∀ {os : List O} {xs : List V} {A : List Addr} {o : O} {j : Nat}, RepOL F H os xs A → os[j]? = some o → ∃ x B C, xs[j]? = some x ∧ RepO F H o x C ∧ RepOL F H (os.eraseIdx j) (xs.eraseIdx j) B ∧ A.Perm (B ++ C)
  | [], _, _, _, _, _, e => by simp at e
  | o1 :: os, xs, A, o, 0, ⟨x, r, B, C, e, eA, h, t⟩, z => by
    cases z
    rw [e, eA]
    exact ⟨x, C, B, rfl, h, t, List.perm_append_comm⟩
  | o1 :: os, xs, A, o, j + 1, ⟨x, r, B, C, e, eA, h, t⟩, z => by
    obtain ⟨y, B1, C1, h1, h2, h3, h4⟩ := RepOL.erase (j := j) t z
    rw [e, eA]
    exact ⟨y, B ++ B1, C1, h1, h2, ⟨x, _, B, B1, rfl, rfl, h, h3⟩, by rw [List.append_assoc]; exact List.Perm.append_left B h4⟩
theorem simM_popAt : SimM1 rPopAt fPopAt := by
  intro F H a xs y os o k Q B C s ha rl ro nd nF h q
  cases o with
  | lst _ => exact h.elim
  | dct _ _ => exact h.elim
  | ins _ _ => exact h.elim
  | fr d =>
    cases d with
    | int i =>
      obtain ⟨b, h⟩ := h
      obtain ⟨j, ej, h⟩ := oth_ok h
      obtain ⟨u, eu, h⟩ := oth_ok h
      obtain ⟨x, B1, C1, h1, h2, h3, h4⟩ := rl.erase eu
      have nB : a ∉ B1 ++ C1 := fun z => (List.nodup_cons.mp nd).1 (List.mem_append_left _ (h4.mem_iff.mpr z))
      exact ⟨a, xs, i, j, x, rfl, by rw [show y = _ from ro.2], ha, b.1, b.2, by rw [rl.len]; exact ej, h1, q _ u x _ B1 C1 h (h3.upd fun z => nB (List.mem_append_left _ z)) (h2.upd fun z => nB (List.mem_append_right _ z)) (h4.nodup_iff.mp (nodup_l (List.nodup_cons.mp nd).2)) fun b m => List.mem_append_left _ (h4.mem_iff.mpr m)⟩
    | _ => exact h.elim
section
variable {W : WX} {K : PySem.W.Frag} {te : TE} {de : DTE} {i : Nat}
theorem var_there {F H : Hp} {env : DEnv} {σ : L2.St} {A : List Addr} (g : Good F H env σ A) {u : O} (e : contAt env i [] = some u) : ∃ v, σ[i]? = some (some v) := by
  obtain ⟨s, o, e1, e2, e3⟩ := contAt_ok e
  obtain ⟨v, B, R, q1, q2, _⟩ := g.rep.out e1
  obtain ⟨x, ex, _⟩ := q2.cont e2
  exact ⟨x, by rw [q1, ex]⟩
theorem lst_at {F H : Hp} {env : DEnv} {σ : L2.St} {A : List Addr} (g : Good F H env σ A) {os : List O} {v : V} (e : contAt env i [] = some (.lst os)) (hv : σ[i]? = some (some v)) : ∃ a xs B, v = .ref a ∧ H a = some (.lst xs) ∧ RepOL F H os xs B ∧ (∀ b ∈ a :: B, b ∈ A) ∧ (a :: B).Nodup := by
  obtain ⟨s, o, e1, e2, e3⟩ := contAt_ok e
  obtain ⟨B, R, h1, h2, _⟩ := g.rep.focus e1 e2 e3 hv rfl
  obtain ⟨a, xs, B1, ex, eB, hx, rl⟩ := h1
  refine ⟨a, xs, B1, ex, hx, rl, fun b m => h2.mem_iff.mpr (List.mem_append_left _ (by rw [eB]; exact m)), ?_⟩
  rw [← eB]
  exact nodup_l (h2.nodup_iff.mp g.nd)
theorem sim_meth1 {r : V → List V → Hp → VK → Prop} {f : List O → O → (List O → O → Prop) → Prop} (hr : SimM1 r f) (he : SimE W te de) : SimE W (tBM K "list" r (tVar i) (tCons te tNil)) (dMeth1 f i de) := by
  intro F H env σ A Q P X g h xo k
  obtain ⟨h0, h⟩ := h
  obtain ⟨os0, e0⟩ : ∃ os, contAt env i [] = some (.lst os) := by
    cases e : contAt env i [] with
    | none => rw [e] at h0; cases h0
    | some u =>
      cases u with
      | lst os => exact ⟨os, rfl⟩
      | _ => rw [e] at h0; cases h0
  obtain ⟨v, hv⟩ := var_there g e0
  obtain ⟨a0, xs0, B0, ev0, ha0, _⟩ := lst_at g e0 hv
  refine ⟨v, hv, by rw [ev0]; exact .inl ⟨rfl, xs0, SqL.of ha0⟩, ?_⟩
  clear ev0 ha0
  · refine he F H env σ A _ _ X g h xo fun y r1 env1 F1 H1 A1 C1 g1 s1 rr1 h1 => ?_
    obtain ⟨F2, A2, o, env2, C2, h2, g2, s2, r2⟩ := toO_ok g1 rr1 h1
    have s12 := s1.trans s2
    obtain ⟨u, eu, h3⟩ := oth_ok h2
    cases u with
    | lst os =>
      obtain ⟨a, xs, B, ev, ha, rl, mB, ndB⟩ := lst_at g2 eu hv
      subst ev
      have nF : F2 a = none := g2.dis a (mB a List.mem_cons_self)
      have sepC : ∀ b ∈ C2, b ∉ A2 ∧ F2 b = none := fun b m => ⟨fun z => nodup_d r2.2.1 z m, r2.2.2 b m⟩
      have ndBC : (a :: B ++ C2).Nodup := List.nodup_append.mpr ⟨ndB, nodup_r r2.2.1, fun b hb c hc z => by subst z; exact (sepC b hc).1 (mB b hb)⟩
      refine hr F2 H1 a xs y os o _ _ B C2 g2.sub ha rl r2.1 ndBC nF h3 fun os' z x xs' B' C' h4 rl' rz nd' m' => ?_
      have naBC : a ∉ B' ++ C' := fun m => (List.nodup_cons.mp ndBC).1 (m' a m)
      obtain ⟨A', C'', g', s', r'⟩ := g2.writeR (H' := upd H1 a (.lst xs')) (o2 := .lst os') (o3 := z) (z := x) eu ⟨.ref a, hv, rfl⟩ sepC (same_own g2.sub nF) (fun b => upd_free) (fun B0 R0 b1 b2 b3 => by
        obtain ⟨a', xs0, B1, ea, eB, hx, rl0⟩ := b1
        cases ea
        rw [ha] at hx
        cases hx
        refine ⟨fun b o e n => by rw [upd_ne (fun z => n (by rw [z, eB]; exact List.mem_cons_self))]; exact e, a :: B', C', ⟨a, xs', B', rfl, rfl, upd_same, rl'⟩, rz, List.nodup_cons.mpr ⟨naBC, nd'⟩, fun b m => ?_⟩
        have eq : B1 = B := rl0.uniq rl
        rcases List.mem_cons.mp m with m | m
        · exact .inl (by rw [m, eB]; exact List.mem_cons_self)
        · rcases List.mem_append.mp (m' b m) with m | m
          · exact .inl (by rw [eB, eq]; exact List.mem_cons_of_mem _ m)
          · exact .inr m)
      exact k x (.o z) _ F2 _ A' C'' g' (s12.trans s') r' h4
    | _ => exact h3.elim
end

/-! ### tuple * n for n ≤ 1 -/
theorem tuple_mulS (l : Addr) (items : Array Value) (n : Nat) (dd : Option Addr) (sl : Array (Option Value)) (x : Int) (u : Tok) (c0 : (decide (x < -(2 ^ 63)) || decide (x ≥ 2 ^ 63)) = false) (c1 : (items.isEmpty || x == 1) = true) :
    Meets (Builtin.«tuple.__mul__» ⟨[.ref l, .int x u], []⟩) (fun _ R s => s.heap.get? l = some { cls := .type "tuple", dict := dd, data := .seq items n, slots := sl } ∧ R (.ok (.ret (Value.ref l))) s) :=
  .of_wp fun prog w A R s h => by
    obtain ⟨hp, g, d, tk, os⟩ := s
    obtain ⟨hl, h⟩ := h
    have f1 := AutoSeq1.idx_int
    wp_walk using wpAny_loadPart' hl
    repeat (first
      | (refine wpAny_ite_false (decide_eq_false (by rw [c0]; exact Bool.false_ne_true)) ?_; wp_walk using wpAny_loadPart' hl)
      | (refine wpAny_ite_true (decide_eq_true c1) ?_; wp_walk using wpAny_loadPart' hl))
    exact ⟨_, rfl, h⟩
theorem tuple_mulN (l : Addr) (items : Array Value) (n : Nat) (dd : Option Addr) (sl : Array (Option Value)) (x : Int) (u : Tok) (c0 : (decide (x < -(2 ^ 63)) || decide (x ≥ 2 ^ 63)) = false) (c1 : (items.isEmpty || x == 1) = false) (c2 : (decide (x ≤ 0) || items.isEmpty) = true) :
    Meets (Builtin.«tuple.__mul__» ⟨[.ref l, .int x u], []⟩) (fun _ R s => s.heap.get? l = some { cls := .type "tuple", dict := dd, data := .seq items n, slots := sl } ∧
      R (.ok (.ret (Value.ref s.heap.objs.size))) { s with heap := s.heap.push { cls := Value.type "tuple", data := Data.seq #[] }, toks := s.toks }) :=
  .of_wp fun prog w A R s h => by
    obtain ⟨hp, g, d, tk, os⟩ := s
    obtain ⟨hl, h⟩ := h
    have f1 := AutoSeq1.idx_int
    wp_walk using wpAny_loadPart' hl
    repeat (first
      | (refine wpAny_ite_false (decide_eq_false (by rw [c0]; exact Bool.false_ne_true)) ?_; wp_walk using wpAny_loadPart' hl)
      | (refine wpAny_ite_false (decide_eq_false (by rw [c1]; exact Bool.false_ne_true)) ?_; wp_walk using wpAny_loadPart' hl)
      | (refine wpAny_ite_true (decide_eq_true c2) ?_; wp_walk using wpAny_loadPart' hl))
    exact ⟨_, rfl, h⟩
def rRepS (K : PySem.W.Frag) : R2 := fun x y H Q => ∃ l xs, x = .ref l ∧ y = .int 1 ∧ SqT K H l xs ∧ Q (.ref l) H
def rRepN (K : PySem.W.Frag) : R2 := fun x y H Q => ∃ l k xs, x = .ref l ∧ y = .int k ∧ SqT K H l xs ∧ xs ≠ [] ∧ -(2 ^ 62) ≤ k ∧ k ≤ 0 ∧ ∀ p, H p = none → Q (.ref p) (upd H p (.tup []))
section
variable {X : Cx}
theorem op_repS : OpR X (binaryOp .Mult) (rRepS X.K) := by
  intro pins s σ H x y v u Q I rx ry h
  obtain ⟨l, xs, rfl, rfl, hT, q⟩ := h
  cases rx
  obtain ⟨t, rfl⟩ := ry
  obtain ⟨its, r, ⟨⟨cls, dd, data, sl⟩, ho, hc, n, hd⟩, hs⟩ := I.tuple hT
  simp only at hc hd
  subst hc hd
  have c0 : (decide ((1 : Int) < -(2 ^ 63)) || decide ((1 : Int) ≥ 2 ^ 63)) = false := by decide
  have c1 : (its.toArray.isEmpty || (1 : Int) == 1) = true := by rw [Bool.or_eq_true]; exact .inr rfl
  refine wpAny_binaryOp_repeat_ref (T := "tuple") (U := "int") (by decide) ⟨_, ho, rfl⟩ (fun s' => typeIs_int s' 1 t) noFill_tuple_mul F.fills_int_mul F.slot_int_rmul repeat_tuple F.slot_int_index.lookup
    (call_meets F.slot_int_rmul (typeIs_int s 1 t) F.entry_int_rmul (F.args_int_rmul_2 _ _) (int_rmul_tuple 1 t l its.toArray n dd sl)
      ⟨ho, rfl, ⟨_, ho, rfl⟩, call_meets F.slot_tuple_mul ⟨_, ho, rfl⟩ F.entry_tuple_mul (F.args_tuple_mul_2 _ _) (tuple_mulS l its.toArray n dd sl 1 t c0 c1) ⟨ho, ?_⟩⟩)
  exact ⟨.ref l, H, I, rfl, q⟩
theorem op_repN : OpR X (binaryOp .Mult) (rRepN X.K) := by
  intro pins s σ H x y v u Q I rx ry h
  obtain ⟨l, k, xs, rfl, rfl, hT, hne, h1, h2, q⟩ := h
  cases rx
  obtain ⟨t, rfl⟩ := ry
  obtain ⟨its, r, ⟨⟨cls, dd, data, sl⟩, ho, hc, n, hd⟩, hs⟩ := I.tuple hT
  simp only at hc hd
  subst hc hd
  have hn : its ≠ [] := fun e => hne (by
    have hle : its.length = xs.length := r.length.symm
    rw [e] at hle
    exact List.eq_nil_of_length_eq_zero hle.symm)
  have hi : its.toArray.isEmpty = false := by
    cases its with
    | nil => exact absurd rfl hn
    | cons a b => rfl
  have c0 : (decide (k < -(2 ^ 63)) || decide (k ≥ 2 ^ 63)) = false := by
    rw [decide_eq_false (by omega), decide_eq_false (by omega)] <;> rfl
  have c1 : (its.toArray.isEmpty || k == 1) = false := by
    rw [hi, Bool.false_or]
    exact beq_eq_false_iff_ne.mpr (by omega)
  have c2 : (decide (k ≤ 0) || its.toArray.isEmpty) = true := by
    rw [hi, Bool.or_false]
    exact decide_eq_true h2
  refine wpAny_binaryOp_repeat_ref (T := "tuple") (U := "int") (by decide) ⟨_, ho, rfl⟩ (fun s' => typeIs_int s' k t) noFill_tuple_mul F.fills_int_mul F.slot_int_rmul repeat_tuple F.slot_int_index.lookup
    (call_meets F.slot_int_rmul (typeIs_int s k t) F.entry_int_rmul (F.args_int_rmul_2 _ _) (int_rmul_tuple k t l its.toArray n dd sl)
      ⟨ho, rfl, ⟨_, ho, rfl⟩, call_meets F.slot_tuple_mul ⟨_, ho, rfl⟩ F.entry_tuple_mul (F.args_tuple_mul_2 _ _) (tuple_mulN l its.toArray n dd sl k t c0 c1 c2) ⟨ho, ?_⟩⟩)
  refine ⟨.ref s.heap.objs.size, _, I.laid (t' := s.toks) (o := .tup []) (fun b ob q => Heap.get?_push_of_some _ q) (Nat.le_refl _) ?_, rfl, q _ (I.hok.fresh (Nat.le_refl _))⟩
  exact ⟨by rw [sizeLine_eq]; exact Nat.zero_le _, [], .nil, IsTup.new _ _⟩
end

/-! ### operations: either .. or -/
theorem OpR.or {X : Cx} {f : Value → Value → Sem Value} {r r' : R2} (h : OpR X f r) (h' : OpR X f r') : OpR X f (fun x y H Q => r x y H Q ∨ r' x y H Q) :=
  fun pins s σ H x y v u Q I rx ry q => q.elim (h pins s σ H x y v u Q I rx ry) (h' pins s σ H x y v u Q I rx ry)
theorem CallR.or {X : Cx} {f : Value} {r r' : List V → Hp → VK → Prop} (h : CallR X f r) (h' : CallR X f r') : CallR X f (fun xs H Q => r xs H Q ∨ r' xs H Q) :=
  fun pins s σ H xs us Q I rx q => q.elim (h pins s σ H xs us Q I rx) (h' pins s σ H xs us Q I rx)
def xAddG (K : PySem.W.Frag) : R2 := fun x y H Q => xAdd x y H Q ∨ (xAddStr x y H Q ∨ (rCat x y H Q ∨ rCatA K x y H Q))
theorem op_addG {X : Cx} : OpR X (binaryOp .Add) (xAddG X.K) := OpR.or op_add (OpR.or op_add_str (OpR.or op_cat op_catA))
def xMulG (K : PySem.W.Frag) : R2 := fun x y H Q => xMul x y H Q ∨ (rRep x y H Q ∨ (rRepT K x y H Q ∨ (rRepS K x y H Q ∨ rRepN K x y H Q)))
theorem op_mulG {X : Cx} : OpR X (binaryOp .Mult) (xMulG X.K) := OpR.or op_mul (OpR.or op_rep (OpR.or op_repT (OpR.or op_repS op_repN)))
def xLtG (K : PySem.W.Frag) : R2 := fun x y H Q => xLt x y H Q ∨ rLtT K x y H Q
theorem rd_core {H : Hp} {a : Addr} {o u : HO} (h : H a = some o) (e : core o = u) (n : isTbl u = false := by rfl) : Rd H a u := by
  unfold core at e
  split at e
  · subst e; exact .inr ⟨_, h⟩
  · subst e; exact .inr ⟨_, h⟩
  · subst e; cases n
  · subst e; exact .inl h
def xLenDR : List V → Hp → VK → Prop := fun xs H Q => ∃ a kvs, xs = [V.ref a] ∧ Rd H a (.dK kvs) ∧ Q (.int kvs.length) H
theorem call_lenDR {X : Cx} : CallR X (.builtin "len") xLenDR := by
  intro pins s σ H xs us Q I r h
  obtain ⟨a, kvs, rfl, ha, q⟩ := h
  obtain ⟨u, rfl, ru⟩ := vals1 r
  cases ru
  exact d_len I ha fun t s' I' => ⟨.int kvs.length, H, I', ⟨t, rfl⟩, q⟩
def xLenTR : List V → Hp → VK → Prop := fun xs H Q => ∃ (a : Addr) (kvs : List (List Key × V)), xs = [V.ref a] ∧ Rd H a (.dT kvs) ∧ Q (.int kvs.length) H
theorem call_lenTR {X : Cx} : CallR X (.builtin "len") xLenTR := by
  intro pins s σ H xs us Q I r h
  obtain ⟨a, kvs, rfl, ha, q⟩ := h
  obtain ⟨u, rfl, ru⟩ := vals1 r
  cases ru
  obtain ⟨z, hd, ys, rel, dd⟩ := dt_rd I.hok ha
  have el : kvs.length = ys.length := Paired.length rel
  refine call_len_dictH hd dd (by rw [PySem.sizeLine_eq] at z; omega) ?_
  rw [← el]
  exact ⟨V.int kvs.length, H, I.tok _, ⟨s.toks + 1, rfl⟩, q⟩
def xIsG : R2 := fun x y H Q => xIsN x y H Q ∨ ∃ b, y = .bl b ∧ (x = .non ∨ ∃ a, x = .bl a) ∧ Q (.bl (decide (x = .bl b))) H
def xNotG : R2 := fun x y H Q => xNotN x y H Q ∨ ∃ b, y = .bl b ∧ (x = .non ∨ ∃ a, x = .bl a) ∧ Q (.bl (!decide (x = .bl b))) H
theorem op_isG {X : Cx} : OpR X (compareOp .Is) xIsG := OpR.or op_isN (by
  intro pins s σ H x y v u Q I rx ry h
  obtain ⟨b, rfl, hx, q⟩ := h
  cases (show u = Value.bool b from ry)
  rcases hx with rfl | ⟨a, rfl⟩
  · cases (show v = Value.none from rx)
    exact wpAny_is_other rfl (fun z => by cases z) ⟨.bl false, H, I, rfl, q⟩
  · cases (show v = Value.bool a from rx)
    by_cases e : a = b
    · subst e
      exact wpAny_is_self rfl ⟨.bl true, H, I, rfl, by simpa using q⟩
    · exact wpAny_is_other rfl (fun z => e (Value.bool.inj z)) ⟨.bl false, H, I, rfl, by simpa [e] using q⟩)
theorem op_notG {X : Cx} : OpR X (compareOp .IsNot) xNotG := OpR.or op_notN (by
  intro pins s σ H x y v u Q I rx ry h
  obtain ⟨b, rfl, hx, q⟩ := h
  cases (show u = Value.bool b from ry)
  rcases hx with rfl | ⟨a, rfl⟩
  · cases (show v = Value.none from rx)
    exact wpAny_isNot_other rfl (fun z => by cases z) ⟨.bl true, H, I, rfl, q⟩
  · cases (show v = Value.bool a from rx)
    by_cases e : a = b
    · subst e
      exact wpAny_isNot_self rfl ⟨.bl false, H, I, rfl, by simpa using q⟩
    · exact wpAny_isNot_other rfl (fun z => e (Value.bool.inj z)) ⟨.bl true, H, I, rfl, by simpa [e] using q⟩)
def xLenG (K : PySem.W.Frag) : List V → Hp → VK → Prop := fun xs H Q => xLen K xs H Q ∨ (xLenDR xs H Q ∨ (xLenS xs H Q ∨ xLenTR xs H Q))
theorem call_lenG {X : Cx} : CallR X (.builtin "len") (xLenG X.K) := CallR.or call_len_seq (CallR.or call_lenDR (CallR.or call_len_str call_lenTR))
def xSlG (K : PySem.W.Frag) : V → Option Int → Option Int → Hp → VK → Prop := fun x lo hi H Q => rSlL K x lo hi H Q ∨ (rSlA K x lo hi H Q ∨ rSlS x lo hi H Q)
theorem sl_G {X : Cx} : SlR X (xSlG X.K) := SlR.or sl_list (SlR.or sl_tupA sl_str)
theorem out_d {F H : Hp} {z : V} {d : D} {P : O → Prop} {Q : VK} (s : Same F H) (hr : Rep F d z) (hp : P (.fr d)) (q : ∀ z o F' H' C, Ext F H F' H' C → RepO F' H' o z C → C.Nodup → (∀ a ∈ C, F' a = none) → P o → Q z H') : Q z H :=
  q z (.fr d) F H [] (.refl s) ⟨rfl, hr⟩ List.nodup_nil (fun _ h => nomatch h) hp
theorem out_lst {F H : Hp} {p : Addr} {xs : List V} {ds : List D} {P : O → Prop} {Q : VK} (s : Same F H) (np : H p = none) (hr : RepL F ds xs) (hp : P (.lst (ds.map .fr))) (q : ∀ z o F' H' C, Ext F H F' H' C → RepO F' H' o z C → C.Nodup → (∀ a ∈ C, F' a = none) → P o → Q z H') : Q (.ref p) (upd H p (.lst xs)) :=
  q (.ref p) (.lst (ds.map .fr)) F _ [p] (ext_own s np) ⟨p, xs, [], rfl, rfl, upd_same, .ofL hr⟩ (List.nodup_cons.mpr ⟨List.not_mem_nil, List.nodup_nil⟩) (fun a m => by rw [List.mem_singleton.mp m]; exact s.free np) hp
theorem out_tup {F H : Hp} {p : Addr} {xs : List V} {ds : List D} {P : O → Prop} {Q : VK} (s : Same F H) (np : H p = none) (hr : RepL F ds xs) (hp : P (.fr (.tup ds))) (q : ∀ z o F' H' C, Ext F H F' H' C → RepO F' H' o z C → C.Nodup → (∀ a ∈ C, F' a = none) → P o → Q z H') : Q (.ref p) (upd H p (.tup xs)) :=
  q (.ref p) (.fr (.tup ds)) _ _ [] (ext_tup s np) ⟨rfl, p, xs, rfl, upd_same, RepL.mono (ext_tup (xs := xs) s np).f hr⟩ List.nodup_nil (fun _ h => nomatch h) hp
def dAdd : D → D → (O → Prop) → Prop
  | .int i, .int j, P => P (.fr (.int (i + j)))
  | .str a, .str b, P => a.length + b.length ≤ sizeLine ∧ P (.fr (.str (a ++ b)))
  | .lst xs, .lst ys, P => xs.length + ys.length ≤ sizeLine ∧ P (.lst ((xs ++ ys).map .fr))
  | .tup xs, .tup ys, P => xs.length + ys.length ≤ sizeLine ∧ P (.fr (.tup (xs ++ ys)))
  | _, _, _ => False
def dI2 (C : Int → Int → Prop) (g : Int → Int → D) : D → D → (O → Prop) → Prop
  | .int i, .int j, P => C i j ∧ P (.fr (g i j))
  | _, _, _ => False
def dI0 (g : Int → Int → D) : D → D → (O → Prop) → Prop
  | .int i, .int j, P => P (.fr (g i j))
  | _, _, _ => False
def dU (g : Int → D) : D → (O → Prop) → Prop
  | .int i, P => P (.fr (g i))
  | _, _ => False
abbrev dSub2 := dI0 fun i j => .int (i - j)
abbrev dLe := dI0 fun i j => .bl (decide (i ≤ j))
abbrev dGt := dI0 fun i j => .bl (decide (j < i))
abbrev dGe := dI0 fun i j => .bl (decide (j ≤ i))
abbrev dMod := dI2 (fun _ j => 0 < j) fun i j => .int (i % j)
abbrev dDiv := dI2 CDivN fun i j => .int (i.fdiv j)
abbrev dPow := dI2 CPow fun i j => .int (i ^ j.toNat)
abbrev dNeg := dU fun i => .int (-i)
def dMul : D → D → (O → Prop) → Prop
  | .int i, .int j, P => CMul i j ∧ P (.fr (.int (i * j)))
  | .lst xs, .int k, P => (-(2 ^ 63) ≤ k ∧ k < 2 ^ 63 ∧ xs.length * k.toNat ≤ sizeLine) ∧ P (.lst ((List.replicate k.toNat xs).flatten.map .fr))
  | .tup xs, .int k, P => (xs ≠ [] ∧ -(2 ^ 62) ≤ k ∧ k ≤ 1000 ∧ xs.length ≤ 1000) ∧ P (.fr (.tup (List.replicate k.toNat xs).flatten))
  | _, _, _ => False
theorem repL_flat {F : Hp} {ds : List D} {xs : List V} (h : RepL F ds xs) : ∀ n : Nat, RepL F (List.replicate n ds).flatten (List.replicate n xs).flatten
  | 0 => rfl
  | n + 1 => by
    rw [List.replicate_succ, List.replicate_succ, List.flatten_cons, List.flatten_cons]
    exact h.app (repL_flat h n)
section
variable {K : PySem.W.Frag}
theorem simr_I0 {g : Int → Int → V} {gd : Int → Int → D} (hg : ∀ F i j, Rep F (gd i j) (g i j)) : SimR2 (rI0 g) (dI0 gd) := by
  intro F H x y d e P Q s hx hy h q
  match d, e, hx, hy, h with
  | .int i, .int j, hx, hy, h => exact ⟨i, j, hx, hy, out_d s (hg F i j) h q⟩
theorem simr_I {C : Int → Int → Prop} {g : Int → Int → V} {gd : Int → Int → D} (hg : ∀ F i j, Rep F (gd i j) (g i j)) : SimR2 (rI C g) (dI2 C gd) := by
  intro F H x y d e P Q s hx hy h q
  match d, e, hx, hy, h with
  | .int i, .int j, hx, hy, h => exact ⟨i, j, hx, hy, h.1, out_d s (hg F i j) h.2 q⟩
theorem simr_sub : SimR2 xSub dSub2 := simr_I0 fun _ _ _ => rfl
theorem simr_le : SimR2 xLe dLe := simr_I0 fun _ _ _ => rfl
theorem simr_gt : SimR2 xGt dGt := simr_I0 fun _ _ _ => rfl
theorem simr_ge : SimR2 xGe dGe := simr_I0 fun _ _ _ => rfl
theorem simr_mod : SimR2 xMod dMod := simr_I fun _ _ _ => rfl
theorem simr_div : SimR2 xDiv dDiv := simr_I fun _ _ _ => rfl
theorem simr_pow : SimR2 xPow dPow := simr_I fun _ _ _ => rfl
theorem simr_neg : SimR1 xNeg dNeg := by
  intro F H x d P Q s hx h q
  match d, hx, h with
  | .int i, hx, h => exact ⟨i, hx, out_d s (d := .int (-i)) rfl h q⟩
theorem simr_add : SimR2 (xAddG K) dAdd := by
  intro F H x y d e P Q s hx hy h q
  match d, e, hx, hy, h with
  | .int i, .int j, hx, hy, h => exact .inl ⟨i, j, hx, hy, out_d s (d := .int (i + j)) rfl h q⟩
  | .str a, .str b, hx, hy, h => exact .inr (.inl ⟨a, b, hx, hy, h.1, out_d s (d := .str (a ++ b)) rfl h.2 q⟩)
  | .lst xs, .lst ys, ⟨a, us, ea, ha, ra⟩, ⟨b, vs, eb, hb, rb⟩, h => exact .inr (.inr (.inl ⟨a, b, us, vs, ea, eb, ha, hb, by rw [ra.length, rb.length]; exact h.1, fun p np => out_lst s np (ra.app rb) h.2 q⟩))
  | .tup xs, .tup ys, ⟨a, us, ea, ha, ra⟩, ⟨b, vs, eb, hb, rb⟩, h =>
    refine .inr (.inr (.inr ⟨a, b, us, vs, ea, eb, SqT.of (s _ _ ha), SqT.of (s _ _ hb), by rw [ra.length, rb.length]; exact h.1, fun e0 => ?_, fun _ e0 => ?_, fun _ _ p np => out_tup s np (ra.app rb) h.2 q⟩))
    · have ex : xs = [] := List.eq_nil_of_length_eq_zero (by rw [← ra.length, e0]; rfl)
      subst ex
      exact out_d s (d := .tup ys) ⟨b, vs, rfl, hb, rb⟩ h.2 q
    · have ex : ys = [] := List.eq_nil_of_length_eq_zero (by rw [← rb.length, e0]; rfl)
      subst ex
      have h2 : P (.fr (.tup (xs ++ []))) := h.2
      rw [List.append_nil] at h2
      exact out_d s (d := .tup xs) ⟨a, us, rfl, ha, ra⟩ h2 q
theorem simr_mul : SimR2 (xMulG K) dMul := by
  intro F H x y d e P Q s hx hy h q
  match d, e, hx, hy, h with
  | .int i, .int j, hx, hy, h => exact .inl ⟨i, j, hx, hy, h.1, out_d s (d := .int (i * j)) rfl h.2 q⟩
  | .lst xs, .int k, ⟨a, us, ea, ha, ra⟩, hy, h => exact .inr (.inl ⟨a, k, us, ea, hy, ha, h.1.1, h.1.2.1, by rw [ra.length]; exact h.1.2.2, fun p np => out_lst s np (repL_flat ra _) h.2 q⟩)
  | .tup xs, .int k, ⟨a, us, ea, ha, ra⟩, hy, h =>
    have ne : us ≠ [] := fun z => h.1.1 (List.eq_nil_of_length_eq_zero (by rw [← ra.length, z]; rfl))
    by_cases h2 : 2 ≤ k
    · exact .inr (.inr (.inl ⟨a, k, us, ea, hy, SqT.of (s _ _ ha), ne, h2, h.1.2.2.1, by rw [ra.length]; exact h.1.2.2.2, fun p np => out_tup s np (repL_flat ra _) h.2 q⟩))
    by_cases h1 : k = 1
    · subst h1
      refine .inr (.inr (.inr (.inl ⟨a, us, ea, hy, SqT.of (s _ _ ha), ?_⟩)))
      have e : (List.replicate (1 : Int).toNat xs).flatten = xs := by show (xs ++ []) = xs; rw [List.append_nil]
      have hp := h.2
      rw [e] at hp
      exact out_d s (d := .tup xs) ⟨a, us, rfl, ha, ra⟩ hp q
    · refine .inr (.inr (.inr (.inr ⟨a, k, us, ea, hy, SqT.of (s _ _ ha), ne, h.1.2.1, by omega, fun p np => out_tup s np (ds := []) (xs := []) rfl ?_ q⟩)))
      have hp := h.2
      rw [show k.toNat = 0 by omega] at hp
      exact hp
/-! ### comparisons -/
theorem repL_ints' {F : Hp} {ds : List D} {xs : List V} {ns : List Int} (e : ds = ns.map .int) (h : RepL F ds xs) : xs = ns.map V.int := by subst e; exact h.ints
def asInts : List D → Option (List Int)
  | [] => some []
  | .int i :: r => (match asInts r with
    | some l => some (i :: l)
    | none => none)
  | _ => none
theorem asInts_ok : ∀ {ds : List D} {ns : List Int}, asInts ds = some ns → ds = ns.map .int
  | [], ns, e => by cases e; rfl
  | .int i :: r, ns, e => by
    unfold asInts at e
    cases q : asInts r with
    | none => rw [q] at e; cases e
    | some l => rw [q] at e; cases e; rw [asInts_ok q]; rfl
  | .non :: _, _, e => by cases e
  | .bl _ :: _, _, e => by cases e
  | .str _ :: _, _, e => by cases e
  | .ty _ :: _, _, e => by cases e
  | .cls _ :: _, _, e => by cases e
  | .tup _ :: _, _, e => by cases e
  | .lst _ :: _, _, e => by cases e
  | .ztp _ :: _, _, e => by cases e
  | .dct _ _ :: _, _, e => by cases e
  | .ins _ _ :: _, _, e => by cases e
theorem asInts_map : ∀ ns : List Int, asInts (ns.map .int) = some ns
  | [] => rfl
  | n :: ns => by
    show (match asInts (ns.map .int) with
      | some l => some (n :: l)
      | none => none) = _
    rw [asInts_map ns]
def dLtG : D → D → (O → Prop) → Prop
  | .int i, .int j, P => P (.fr (.bl (decide (i < j))))
  | .tup xs, .tup ys, P => oth (asInts xs) fun ns => oth (asInts ys) fun ms => P (.fr (.bl (HT.lexLt ns ms)))
  | _, _, _ => False
theorem simr_ltG : SimR2 (xLtG K) dLtG := by
  intro F H x y d e P Q s hx hy h q
  match d, e, hx, hy, h with
  | .int i, .int j, hx, hy, h => exact .inl ⟨i, j, hx, hy, out_d s (d := .bl (decide (i < j))) rfl h q⟩
  | .tup xs, .tup ys, ⟨a, us, ea, ha, ra⟩, ⟨b, vs, eb, hb, rb⟩, h =>
    obtain ⟨ns, e1, h⟩ := oth_ok h
    obtain ⟨ms, e2, h⟩ := oth_ok h
    refine .inr ⟨a, b, ns, ms, ea, eb, SqT.of ?_, SqT.of ?_, out_d s (d := .bl (HT.lexLt ns ms)) rfl h q⟩
    · rw [← repL_ints' (asInts_ok e1) ra]; exact s _ _ ha
    · rw [← repL_ints' (asInts_ok e2) rb]; exact s _ _ hb
mutual
def toPy : D → Option PyData
  | .non => some .none
  | .bl b => some (.bool b)
  | .int i => some (.int i)
  | .str s => some (.str s)
  | .lst ds => (match toPyL ds with
    | some l => some (.list l)
    | none => none)
  | .tup ds => (match toPyL ds with
    | some l => some (.tuple l)
    | none => none)
  | _ => none
def toPyL : List D → Option (List PyData)
  | [] => some []
  | d :: ds => (match toPy d with
    | some p => (match toPyL ds with
      | some l => some (p :: l)
      | none => none)
    | none => none)
end
mutual
theorem toPy_ok {H : Hp} : ∀ {d : D} {x : V} {p : PyData}, toPy d = some p → Rep H d x → Dp K H x p
  | .non, x, p, e, h => by cases e; rw [show x = _ from h]; exact .non
  | .bl b, x, p, e, h => by cases e; rw [show x = _ from h]; exact .bl b
  | .int b, x, p, e, h => by cases e; rw [show x = _ from h]; exact .int b
  | .str b, x, p, e, h => by cases e; rw [show x = _ from h]; exact .str b
  | .lst ds, x, p, e, ⟨a, xs, ea, ha, ra⟩ => by
    unfold toPy at e
    cases q : toPyL ds with
    | none => rw [q] at e; cases e
    | some l =>
      rw [q] at e
      cases e
      rw [ea]
      exact .lst (SqL.of ha) (toPyL_ok q ra)
  | .tup ds, x, p, e, ⟨a, xs, ea, ha, ra⟩ => by
    unfold toPy at e
    cases q : toPyL ds with
    | none => rw [q] at e; cases e
    | some l =>
      rw [q] at e
      cases e
      rw [ea]
      exact .tup (SqT.of ha) (toPyL_ok q ra)
  | .ty _, _, _, e, _ => by cases e
  | .ztp _, _, _, e, _ => by cases e
  | .cls _, _, _, e, _ => by cases e
  | .dct _ _, _, _, e, _ => by cases e
  | .ins _ _, _, _, e, _ => by cases e
theorem toPyL_ok {H : Hp} : ∀ {ds : List D} {xs : List V} {p : List PyData}, toPyL ds = some p → RepL H ds xs → DpAll K H xs p
  | [], xs, p, e, h => by cases e; rw [show xs = [] from h]; exact .nil
  | d :: ds, xs, p, e, ⟨x, r, ex, h, t⟩ => by
    unfold toPyL at e
    cases q : toPy d with
    | none => rw [q] at e; cases e
    | some p1 =>
      rw [q] at e
      simp only at e
      cases q2 : toPyL ds with
      | none => rw [q2] at e; cases e
      | some l =>
        rw [q2] at e
        cases e
        rw [ex]
        exact .cons (toPy_ok q h) (toPyL_ok q2 t)
end
/-- == and !=, through and through -/
def dEq : D → D → (O → Prop) → Prop := fun d e P => oth (toPy d) fun a => oth (toPy e) fun b => SeqAt.shaped a = true ∧ SeqAt.shaped b = true ∧ P (.fr (.bl (PyData.eqv a b)))
def dNe : D → D → (O → Prop) → Prop := fun d e P => oth (toPy d) fun a => oth (toPy e) fun b => SeqAt.shaped a = true ∧ SeqAt.shaped b = true ∧ P (.fr (.bl (!PyData.eqv a b)))
theorem simr_eq : SimR2 (rEqD K) dEq := by
  intro F H x y d e P Q s hx hy h q
  obtain ⟨a, e1, h⟩ := oth_ok h
  obtain ⟨b, e2, h⟩ := oth_ok h
  exact ⟨a, b, toPy_ok e1 (hx.toH s), toPy_ok e2 (hy.toH s), h.1, h.2.1, out_d s (d := .bl (PyData.eqv a b)) rfl h.2.2 q⟩
theorem simr_ne : SimR2 (rNeD K) dNe := by
  intro F H x y d e P Q s hx hy h q
  obtain ⟨a, e1, h⟩ := oth_ok h
  obtain ⟨b, e2, h⟩ := oth_ok h
  exact ⟨a, b, toPy_ok e1 (hx.toH s), toPy_ok e2 (hy.toH s), h.1, h.2.1, out_d s (d := .bl (!PyData.eqv a b)) rfl h.2.2 q⟩
def D.isN : D → Bool
  | .non => true
  | _ => false
def dIs : D → D → (O → Prop) → Prop
  | d, .non, P => P (.fr (.bl d.isN))
  | .bl a, .bl b, P => P (.fr (.bl (decide (a = b))))
  | .non, .bl _, P => P (.fr (.bl false))
  | _, _, _ => False
def dIsNot : D → D → (O → Prop) → Prop
  | d, .non, P => P (.fr (.bl (!d.isN)))
  | .bl a, .bl b, P => P (.fr (.bl (!decide (a = b))))
  | .non, .bl _, P => P (.fr (.bl true))
  | _, _, _ => False
theorem repP_non {F H : Hp} {d : D} {x : V} (h : RepP F H d x) : decide (x = .non) = d.isN := by
  cases d with
  | non => rw [show x = _ from h]; rfl
  | bl _ => rw [show x = _ from h]; rfl
  | int _ => rw [show x = _ from h]; rfl
  | str _ => rw [show x = _ from h]; rfl
  | ty _ => rw [show x = _ from h]; rfl
  | cls _ => rw [show x = _ from h]; rfl
  | tup _ => obtain ⟨_, _, e, _⟩ := h; rw [e]; rfl
  | lst _ => obtain ⟨_, _, e, _⟩ := h; rw [e]; rfl
  | ztp _ => obtain ⟨_, _, e, _⟩ := ZRep.out h; rw [e]; rfl
  | dct _ _ => obtain ⟨_, _, _, e, _⟩ := h; rw [e]; rfl
  | ins _ _ => obtain ⟨_, _, _, e, _⟩ := h; rw [e]; rfl
theorem bl_bl (a b : Bool) : decide (V.bl a = V.bl b) = decide (a = b) := by rw [Bool.eq_iff_iff]; simp
theorem simr_is : SimR2 xIsG dIs := by
  intro F H x y d e P Q s hx hy h q
  unfold dIs at h
  split at h
  · exact .inl ⟨hy, out_d s (d := .bl (decide (x = .non))) rfl (by rw [repP_non hx]; exact h) q⟩
  · rename_i a b
    have ex : x = .bl a := hx
    subst ex
    exact .inr ⟨b, hy, .inr ⟨a, rfl⟩, out_d s (d := .bl (decide (V.bl a = V.bl b))) rfl (by rw [bl_bl]; exact h) q⟩
  · rename_i b
    have ex : x = .non := hx
    subst ex
    exact .inr ⟨b, hy, .inl rfl, out_d s (d := .bl false) rfl h q⟩
  · exact h.elim
theorem simr_isNot : SimR2 xNotG dIsNot := by
  intro F H x y d e P Q s hx hy h q
  unfold dIsNot at h
  split at h
  · exact .inl ⟨hy, out_d s (d := .bl (!decide (x = .non))) rfl (by rw [repP_non hx]; exact h) q⟩
  · rename_i a b
    have ex : x = .bl a := hx
    subst ex
    exact .inr ⟨b, hy, .inr ⟨a, rfl⟩, out_d s (d := .bl (!decide (V.bl a = V.bl b))) rfl (by rw [bl_bl]; exact h) q⟩
  · rename_i b
    have ex : x = .non := hx
    subst ex
    exact .inr ⟨b, hy, .inl rfl, out_d s (d := .bl true) rfl h q⟩
  · exact h.elim
/-! ### built-ins -/
def dLen : List D → (O → Prop) → Prop
  | [.lst ds], P => P (.fr (.int ds.length))
  | [.tup ds], P => P (.fr (.int ds.length))
  | [.dct _ ds], P => P (.fr (.int ds.length))
  | [.str s], P => s.length ≤ sizeLine ∧ P (.fr (.int s.length))
  | _, _ => False
theorem repM_len {F : Hp} : ∀ {ds : List (List Key × D)} {xs : List (List Key × V)}, RepM F ds xs → xs.length = ds.length
  | [], xs, h => by rw [show xs = [] from h]; rfl
  | (k, d) :: ds, xs, ⟨x, r, e, h, t⟩ => by rw [e, List.length_cons, List.length_cons, repM_len t]
theorem sim_len : SimRL (xLenG K) dLen := by
  intro F H xs ds P Q s hx h q
  match ds, hx, h with
  | [.lst ds], hx, h =>
    obtain ⟨x, ex, a, us, ea, ha, ra⟩ := repPL_1 hx
    exact .inl ⟨a, us, by rw [ex, ea], .inl (SqL.of ha), by rw [ra.length]; exact out_d s (d := .int ds.length) rfl h q⟩
  | [.tup ds], hx, h =>
    obtain ⟨x, ex, a, us, ea, ha, ra⟩ := repPL_1 hx
    exact .inl ⟨a, us, by rw [ex, ea], .inr (SqT.of (s _ _ ha)), by rw [ra.length]; exact out_d s (d := .int ds.length) rfl h q⟩
  | [.dct t ds], hx, h =>
    obtain ⟨x, ex, a, o, us, ea, ha, c, ra⟩ := repPL_1 hx
    have hq : Q (.int us.length) H := by rw [repM_len ra]; exact out_d s (d := .int ds.length) rfl h q
    cases t with
    | true => exact .inr (.inr (.inr ⟨a, us, by rw [ex, ea], rd_core ha c, hq⟩))
    | false =>
      obtain ⟨k0, c1, c2⟩ := c
      subst c2
      rw [List.length_map] at hq
      exact .inr (.inl ⟨a, k0, by rw [ex, ea], rd_core ha c1, hq⟩)
  | [.str z], hx, h =>
    obtain ⟨x, ex, ea⟩ := repPL_1 hx
    exact .inr (.inr (.inl ⟨z, by rw [ex, show x = _ from ea], h.1, out_d s (d := .int z.length) rfl h.2 q⟩))
def dAbs : List D → (O → Prop) → Prop
  | [.int i], P => P (.fr (.int (if i < 0 then -i else i)))
  | _, _ => False
def dInt : List D → (O → Prop) → Prop
  | [.int i], P => P (.fr (.int i))
  | [.bl b], P => P (.fr (.int (if b then 1 else 0)))
  | _, _ => False
theorem sim_intB : SimRL xInt dInt := by
  intro F H xs ds P Q s hx h q
  match ds, hx, h with
  | [.int i], hx, h =>
    obtain ⟨x, ex, ea⟩ := repPL_1 hx
    exact .inl ⟨i, by rw [ex, show x = _ from ea], out_d s (d := .int _) rfl h q⟩
  | [.bl i], hx, h =>
    obtain ⟨x, ex, ea⟩ := repPL_1 hx
    exact .inr ⟨i, by rw [ex, show x = _ from ea], out_d s (d := .int _) rfl h q⟩
def dMin2 : List D → (O → Prop) → Prop
  | [.int i, .int j], P => P (.fr (.int (if j < i then j else i)))
  | _, _ => False
def dMax2 : List D → (O → Prop) → Prop
  | [.int i, .int j], P => P (.fr (.int (if j > i then j else i)))
  | _, _ => False
def dTuple : List D → (O → Prop) → Prop
  | [.lst ds], P => P (.fr (.tup ds))
  | [.tup ds], P => P (.fr (.tup ds))
  | _, _ => False
def dList : List D → (O → Prop) → Prop
  | [.lst ds], P => P (.lst (ds.map .fr))
  | [.tup ds], P => P (.lst (ds.map .fr))
  | _, _ => False
theorem sim_tuple : SimRL (xTupleOf K) dTuple := by
  intro F H xs ds P Q s hx h q
  match ds, hx, h with
  | [.lst ds], hx, h =>
    obtain ⟨x, ex, a, us, ea, ha, ra⟩ := repPL_1 hx
    exact ⟨a, us, by rw [ex, ea], .inl ⟨SqL.of ha, fun l nl => out_tup s nl ra h q⟩⟩
  | [.tup ds], hx, h =>
    obtain ⟨x, ex, a, us, ea, ha, ra⟩ := repPL_1 hx
    exact ⟨a, us, by rw [ex, ea], .inr ⟨SqT.of (s _ _ ha), out_d s (d := .tup ds) ⟨a, us, rfl, ha, ra⟩ h q⟩⟩
def asBls : List D → Option (List Bool)
  | [] => some []
  | .bl i :: r => (match asBls r with
    | some l => some (i :: l)
    | none => none)
  | _ => none
theorem asBls_ok : ∀ {ds : List D} {ns : List Bool}, asBls ds = some ns → ds = ns.map .bl
  | [], ns, e => by cases e; rfl
  | .bl i :: r, ns, e => by
    unfold asBls at e
    cases q : asBls r with
    | none => rw [q] at e; cases e
    | some l => rw [q] at e; cases e; rw [asBls_ok q]; rfl
  | .non :: _, _, e => by cases e
  | .int _ :: _, _, e => by cases e
  | .str _ :: _, _, e => by cases e
  | .ty _ :: _, _, e => by cases e
  | .cls _ :: _, _, e => by cases e
  | .tup _ :: _, _, e => by cases e
  | .lst _ :: _, _, e => by cases e
  | .dct _ _ :: _, _, e => by cases e
  | .ins _ _ :: _, _, e => by cases e
theorem asBls_map : ∀ ns : List Bool, asBls (ns.map .bl) = some ns
  | [] => rfl
  | n :: ns => by
    show (match asBls (ns.map .bl) with
      | some l => some (n :: l)
      | none => none) = _
    rw [asBls_map ns]
def dAll : List D → (O → Prop) → Prop
  | [.lst ds], P => oth (asBls ds) fun bs => P (.fr (.bl (bs.all id)))
  | _, _ => False
def dSum : List D → (O → Prop) → Prop
  | [.lst ds], P => oth (asInts ds) fun bs => P (.fr (.int bs.sum))
  | _, _ => False
theorem sim_all : SimRL (rAll K) dAll := by
  intro F H xs ds P Q s hx h q
  match ds, hx, h with
  | [.lst ds], hx, h =>
    obtain ⟨x, ex, a, us, ea, ha, ra⟩ := repPL_1 hx
    obtain ⟨bs, e1, h2⟩ := oth_ok h
    have := asBls_ok e1
    subst this
    exact ⟨a, bs, by rw [ex, ea], SqL.of (by rw [← ra.bls]; exact ha), out_d s (d := .bl _) rfl h2 q⟩
theorem sim_sum : SimRL (rSum K) dSum := by
  intro F H xs ds P Q s hx h q
  match ds, hx, h with
  | [.lst ds], hx, h =>
    obtain ⟨x, ex, a, us, ea, ha, ra⟩ := repPL_1 hx
    obtain ⟨bs, e1, h2⟩ := oth_ok h
    have := asInts_ok e1
    subst this
    exact ⟨a, bs, by rw [ex, ea], SqL.of (by rw [← ra.ints]; exact ha), out_d s (d := .int _) rfl h2 q⟩
end

/-! ### parts: xs[i], o.f -/
def ixR (r1 : R) (k : Int) (env : DEnv) (P : R → Prop) : Prop := match peek r1 env with
  | some (.lst ds) => oth (atI ds k) fun d => P (.d d)
  | some (.tup ds) => oth (atI ds k) fun d => P (.d d)
  | some (.str z) => z.length ≤ sizeLine ∧ oth (atI z.cps.toList k) fun c => P (.d (.str ⟨#[c]⟩))
  | _ => (match r1 with
    | .p i path => oth (contAt env i path) fun u => (match u with
      | .lst os => oth (ixN os.length k) fun j => oth os[j]? fun o => (match o with
        | .fr d => P (.d d)
        | _ => P (.p i (path ++ [.ix j])))
      | _ => False)
    | _ => False)
def asI (r : R) (env : DEnv) (P : Int → Prop) : Prop := oth (peek r env) fun d => match d with
  | .int k => P k
  | _ => False
/-- the index leaves the slots -/
def dIx (da db : DTE) : DTE := fun env P X => da env (fun r1 env1 => db env1 (fun r2 env2 => asI r2 env2 fun k => ixR r1 k env2 fun r => P r env2) X) X
/-- the whole row stays data -/
def dIxE (da db : DTE) : DTE := fun env P X => da env (fun r1 env1 => nrm r1 fun r1 => db env1 (fun r2 env2 => asI r2 env2 fun k => ixR r1 k env2 fun r => P r env2) X) X
theorem asI_ok {F H : Hp} {env : DEnv} {σ : L2.St} {A C : List Addr} {r : R} {x : V} {P : Int → Prop} (g : Good F H env σ A) (hr : RepR F H σ A r x C) (h : asI r env P) : ∃ k, x = .int k ∧ P k := by
  obtain ⟨d, e, h⟩ := oth_ok h
  have rp := peek_ok g hr e
  cases d with
  | int k => exact ⟨k, rp, h⟩
  | _ => exact h.elim
theorem PathV.snoc {H : Hp} {s : PSt} {z : V} : ∀ {p : List PSt} {y x : V}, PathV H y p x → PathV H x [s] z → PathV H y (p ++ [s]) z
  | [], _, _, h, k => by rw [show _ = _ from h]; exact k
  | .ix j :: p, _, _, ⟨a, xs, w, e, h, hz, t⟩, k => ⟨a, xs, w, e, h, hz, PathV.snoc t k⟩
  | .fld f :: p, _, _, ⟨a, C, dx, fs, w, e, h, hz, t⟩, k => ⟨a, C, dx, fs, w, e, h, hz, PathV.snoc t k⟩
  | .key j :: p, _, _, ⟨a, o, t, kvs, w, e, h, dc, hz, tt⟩, k => ⟨a, o, t, kvs, w, e, h, dc, hz, PathV.snoc tt k⟩
theorem ixR_ok {K : PySem.W.Frag} {F H : Hp} {env : DEnv} {σ : L2.St} {A C : List Addr} {r : R} {x : V} {k : Int} {P : R → Prop} {Q : VK} (g : Good F H env σ A) (hr : RepR F H σ A r x C) (h : ixR r k env P)
    (q : ∀ z r', RepR F H σ A r' z [] → P r' → Q z H) : rIx K x (.int k) H Q := by
  unfold ixR at h
  split at h
  · rename_i ds e
    obtain ⟨a, xs, ex, ha, rl⟩ := peek_ok g hr e
    obtain ⟨d, ed, h⟩ := oth_ok h
    unfold atI at ed
    obtain ⟨j, ej, ed⟩ := Option.bind_eq_some_iff.mp ed
    obtain ⟨z, hz, rz⟩ := rl.get ed
    refine .inl ⟨a, xs, k, z, ex, rfl, SqL.of ha, ?_, q z (.d d) (.dat g rz) h⟩
    unfold atI
    rw [rl.length, ej]
    exact hz
  · rename_i ds e
    obtain ⟨a, xs, ex, ha, rl⟩ := peek_ok g hr e
    obtain ⟨d, ed, h⟩ := oth_ok h
    unfold atI at ed
    obtain ⟨j, ej, ed⟩ := Option.bind_eq_some_iff.mp ed
    obtain ⟨z, hz, rz⟩ := rl.get ed
    refine .inr (.inl ⟨a, xs, k, z, ex, rfl, SqT.of (g.sub _ _ ha), ?_, q z (.d d) (.dat g rz) h⟩)
    unfold atI
    rw [rl.length, ej]
    exact hz
  · rename_i z e
    have ex := peek_ok g hr e
    obtain ⟨c, ec, h2⟩ := oth_ok h.2
    exact .inr (.inr ⟨z, k, c, ex, rfl, h.1, ec, q _ (.d (.str ⟨#[c]⟩)) (.dat g (d := .str ⟨#[c]⟩) rfl) h2⟩)
  · cases r with
    | o _ => exact h.elim
    | p i path =>
      obtain ⟨u, eu, h⟩ := oth_ok h
      cases u with
      | lst os =>
        obtain ⟨j, ej, h⟩ := oth_ok h
        obtain ⟨o, eo, h⟩ := oth_ok h
        obtain ⟨eC, y, hy, hv⟩ := hr
        obtain ⟨s, o0, q1, q2, q3⟩ := contAt_ok eu
        obtain ⟨B, R, k1, k2, _⟩ := g.rep.focus q1 q2 q3 hy hv
        obtain ⟨a, xs, B1, ea, eB, hx, rl⟩ := k1
        obtain ⟨z, Bz, Rz, hz, rz, _⟩ := rl.focus eo
        refine .inl ⟨a, xs, k, z, ea, rfl, SqL.of hx, ?_, ?_⟩
        · unfold atI
          rw [rl.len, ej]
          exact hz
        · have pth : RepR F H σ A (.p i (path ++ [.ix j])) z [] := ⟨rfl, y, hy, hv.snoc ⟨a, xs, z, ea, hx, hz, rfl⟩⟩
          cases o with
          | fr d => exact q z (.d d) (.dat g rz.2) h
          | lst _ => exact q z _ pth h
          | dct _ _ => exact q z _ pth h
          | ins _ _ => exact q z _ pth h
      | _ => exact h.elim
section
variable {W : WX} {K : PySem.W.Frag} {ta tb : TE} {da db : DTE}
theorem sim_ix (ha : SimE W ta da) (hb : SimP tb db) : SimE W (tOp (rIx K) ta tb) (dIx da db) := by
  intro F H env σ A Q P X g h xo k
  refine ha F H env σ A _ _ X g h xo fun x r1 env1 F1 H1 A1 C1 g1 s1 rr1 h1 => ?_
  refine hb F1 H1 env1 σ A1 _ _ X g1 h1 fun y r2 F3 H3 C3 e3 rr3 h3 => ?_
  have g3 := e3.good g1
  obtain ⟨i, ei, h4⟩ := asI_ok g3 rr3 h3
  subst ei
  refine ixR_ok g3 (rr1.ext e3) h4 fun z r' rz hp => ?_
  exact k z r' env1 F3 H3 A1 [] g3 ((s1.mem fun a m => List.mem_append_left _ m).trans (e3.step.mem fun a m => by rw [List.append_nil] at m; exact List.mem_append_left _ m)) rz hp
theorem simp_ix (ha : SimP ta da) (hb : SimP tb db) : SimP (tOp (rIx K) ta tb) (dIx da db) := by
  intro F H env σ A Q P X g h k
  refine ha F H env σ A _ _ X g h fun x r1 F1 H1 C1 x1 rr1 h1 => ?_
  have g1 := x1.good g
  refine hb F1 H1 env σ A _ _ X g1 h1 fun y r2 F3 H3 C3 e3 rr3 h3 => ?_
  have g3 := e3.good g1
  obtain ⟨i, ei, h4⟩ := asI_ok g3 rr3 h3
  subst ei
  exact ixR_ok g3 (rr1.ext e3) h4 fun z r' rz hp => k z r' F3 H3 [] ((x1.trans e3).noC fun _ h => nomatch h) rz hp
theorem sim_ixE (ha : SimE W ta da) (hb : SimE W tb db) : SimE W (tOp (rIx K) ta tb) (dIxE da db) := by
  intro F H env σ A Q P X g h xo k
  refine ha F H env σ A _ _ X g h xo fun x r1 env1 F1 H1 A1 C1 g1 s1 rr1 h1 => ?_
  obtain ⟨F2, r1', h2, g2, s2, p2⟩ := nrm_ok g1 rr1 h1
  have s12 := s1.trans s2
  refine hb F2 H1 env1 σ A1 _ _ X g2 h2 (xo.step s12) fun y r2 env2 F3 H3 A3 C3 g3 s3 rr3 h3 => ?_
  obtain ⟨i, ei, h4⟩ := asI_ok g3 rr3 h3
  subst ei
  exact ixR_ok g3 ((p2.mono s3.f).rep g3) h4 fun z r' rz hp => k z r' env2 F3 H3 A3 [] g3 (s12.trans (s3.mem fun a m => by rw [List.append_nil] at m; exact List.mem_append_left _ m)) rz hp
end
/-! ### fields -/
def fldR (Cs : List Addr) (f : Str) (r : R) (env : DEnv) (P : R → Prop) : Prop := match peek r env with
  | some (.ins C gs) => C ∈ Cs ∧ oth (gs.lookup f) fun d => P (.d d)
  | _ => (match r with
    | .p i path => oth (contAt env i path) fun u => (match u with
      | .ins C gs => C ∈ Cs ∧ oth (gs.lookup f) fun o => (match o with
        | .fr d => P (.d d)
        | _ => P (.p i (path ++ [.fld f])))
      | _ => False)
    | _ => False)
def dFld (Cs : List Addr) (f : Str) (da : DTE) : DTE := fun env P X => da env (fun r env1 => fldR Cs f r env1 fun r' => P r' env1) X
theorem fldR_ok {K : PySem.W.Frag} {Cs : List Addr} {f : Str} {F H : Hp} {env : DEnv} {σ : L2.St} {A C : List Addr} {r : R} {x : V} {P : R → Prop} {Q : VK} (hC : ∀ C ∈ Cs, Cls K C ∧ NoAttr K C f) (g : Good F H env σ A) (hr : RepR F H σ A r x C) (h : fldR Cs f r env P)
    (q : ∀ z r', RepR F H σ A r' z [] → P r' → Q z H) : ∃ a C dx fs v, x = .ref a ∧ H a = some (.ins C dx fs) ∧ Cls K C ∧ NoAttr K C f ∧ fs.lookup f = some v ∧ Q v H := by
  unfold fldR at h
  split at h
  · rename_i c gs e
    obtain ⟨a, dx, fs, ex, ha, rl⟩ := peek_ok g hr e
    obtain ⟨d, ed, h2⟩ := oth_ok h.2
    obtain ⟨z, hz, rz⟩ := rl.lookup ed
    exact ⟨a, c, dx, fs, z, ex, ha, (hC c h.1).1, (hC c h.1).2, hz, q z (.d d) (.dat g rz) h2⟩
  · cases r with
    | o _ => exact h.elim
    | p i path =>
      obtain ⟨u, eu, h⟩ := oth_ok h
      cases u with
      | ins c gs =>
        obtain ⟨hc, h⟩ := h
        obtain ⟨o, eo, h⟩ := oth_ok h
        obtain ⟨eC, y, hy, hv⟩ := hr
        obtain ⟨s, o0, q1, q2, q3⟩ := contAt_ok eu
        obtain ⟨B, R, k1, k2, _⟩ := g.rep.focus q1 q2 q3 hy hv
        obtain ⟨a, dx, xs, B1, ea, eB, hx, rl⟩ := k1
        obtain ⟨z, Bz, Rz, hz, rz, _⟩ := rl.focus eo
        refine ⟨a, c, dx, xs, z, ea, hx, (hC c hc).1, (hC c hc).2, hz, ?_⟩
        have pth : RepR F H σ A (.p i (path ++ [.fld f])) z [] := ⟨rfl, y, hy, hv.snoc ⟨a, c, dx, xs, z, ea, hx, hz, rfl⟩⟩
        cases o with
        | fr d => exact q z (.d d) (.dat g rz.2) h
        | lst _ => exact q z _ pth h
        | dct _ _ => exact q z _ pth h
        | ins _ _ => exact q z _ pth h
      | _ => exact h.elim
section
variable {W : WX} {K : PySem.W.Frag} {ta : TE} {da : DTE} {Cs : List Addr} {f : Str}
theorem simp_fld (hC : ∀ C ∈ Cs, Cls K C ∧ NoAttr K C f) (ha : SimP ta da) : SimP (tFld K ta f) (dFld Cs f da) := by
  intro F H env σ A Q P X g h k
  refine ha F H env σ A _ _ X g h fun x r1 F1 H1 C1 x1 rr1 h1 => ?_
  exact fldR_ok hC (x1.good g) rr1 h1 fun z r' rz hp => k z r' F1 H1 [] (x1.noC fun _ h => nomatch h) rz hp
end
/-- self.f = e -/
def putFD {α : Type} (f : Str) (v : α) : List (Str × α) → List (Str × α)
  | [] => [(f, v)]
  | (g, x) :: r => if g = f then (g, v) :: r else (g, x) :: putFD f v r
def dSetF (Cs : List Addr) (i : Nat) (f : Str) (de : DTE) : DTS := fun DD env => de env (fun r env1 => toO r env1 fun o env2 => oth (contAt env2 i []) fun u => match u with
  | .ins C gs => (C ∈ Cs ∧ gs.length < 1000) ∧ DD.nx (setAt env2 i [] (.ins C (putFD f o gs)))
  | _ => False) DD.ex
theorem RepOF.len {F H : Hp} : ∀ {os : List (Str × O)} {xs : List (Str × V)} {A : List Addr}, RepOF F H os xs A → xs.length = os.length
  | [], _, _, ⟨e, _⟩ => by rw [e]; rfl
  | (k, o) :: os, _, _, ⟨x, r, B, C, e, _, _, t⟩ => by rw [e, List.length_cons, List.length_cons, RepOF.len t]
theorem RepOF.putF {F H : Hp} {f : Str} {o : O} {x : V} {C : List Addr} (ro : RepO F H o x C) : ∀ {os : List (Str × O)} {xs : List (Str × V)} {B : List Addr}, RepOF F H os xs B → (B ++ C).Nodup → ∃ B', RepOF F H (putFD f o os) (putF f x xs) B' ∧ B'.Nodup ∧ ∀ a ∈ B', a ∈ B ∨ a ∈ C
  | [], xs, B, ⟨e, eB⟩, nd => by
    rw [e]
    refine ⟨C ++ [], ⟨x, [], C, [], rfl, rfl, ro, rfl, rfl⟩, by rw [List.append_nil]; exact nodup_r nd, fun a m => by rw [List.append_nil] at m; exact .inr m⟩
  | (k, u) :: os, xs, B, ⟨y, r, B1, C1, e, eB, h, t⟩, nd => by
    rw [eB] at nd
    rw [List.append_assoc] at nd
    by_cases q : k = f
    · rw [e]
      unfold putFD L2.putF
      rw [if_pos q, if_pos q]
      refine ⟨C ++ C1, ⟨x, r, C, C1, rfl, rfl, ro, t⟩, (List.perm_append_comm.nodup_iff.mp (nodup_r nd)), fun a m => ?_⟩
      rcases List.mem_append.mp m with m | m
      · exact .inr m
      · exact .inl (by rw [eB]; exact List.mem_append_right _ m)
    · obtain ⟨B', h1, h2, h3⟩ := RepOF.putF ro t (nodup_r nd)
      rw [e]
      unfold putFD L2.putF
      rw [if_neg q, if_neg q]
      refine ⟨B1 ++ B', ⟨y, _, B1, B', rfl, rfl, h, h1⟩, List.nodup_append.mpr ⟨nodup_l nd, h2, fun a ha b hb z => ?_⟩, fun a m => ?_⟩
      · subst z
        exact nodup_d nd ha ((h3 a hb).elim (fun m => List.mem_append_left _ m) fun m => List.mem_append_right _ m)
      · rcases List.mem_append.mp m with m | m
        · exact .inl (by rw [eB]; exact List.mem_append_left _ m)
        · exact (h3 a m).elim (fun z => .inl (by rw [eB]; exact List.mem_append_right _ z)) .inr
theorem RepOF.upd {F H : Hp} {a : Addr} {u : HO} {os : List (Str × O)} {xs : List (Str × V)} {B : List Addr} (n : a ∉ B) (h : RepOF F H os xs B) : RepOF F (L2.upd H a u) os xs B := h.stay ⟨.refl _, fun b m o e => by rw [upd_ne (fun z => n (by rw [← z]; exact m))]; exact e⟩
theorem sim_setF {W : WX} {K : PySem.W.Frag} {te : TE} {de : DTE} {Cs : List Addr} {i : Nat} {f : Str} (hC : ∀ C ∈ Cs, Cls K C ∧ NoAttr K C f) (he : SimE W te de) : SimS W (sFld K (tVar i) te f) (dSetF Cs i f de) := by
  intro F H env σ A E DD g h eo
  refine he F H env σ A _ _ _ g h eo.ex fun y r env1 F1 H1 A1 C1 g1 s1 rr1 h1 => ?_
  obtain ⟨F2, A2, o, env2, C2, h2, g2, s2, r2⟩ := toO_ok g1 rr1 h1
  have s12 := s1.trans s2
  obtain ⟨u, eu, h3⟩ := oth_ok h2
  obtain ⟨v, hv⟩ := var_there g2 eu
  refine ⟨v, hv, ?_⟩
  cases u with
  | ins c gs =>
    obtain ⟨⟨hc, hl⟩, h3⟩ := h3
    obtain ⟨s, o0, e1, e2, e3⟩ := contAt_ok eu
    obtain ⟨B, R, k1, k2, _⟩ := g2.rep.focus e1 e2 e3 hv rfl
    obtain ⟨a, dx, fs, B1, ex, eB, hx, rl⟩ := k1
    have mA : a ∈ A2 := k2.mem_iff.mpr (List.mem_append_left _ (by rw [eB]; exact List.mem_cons_self))
    refine ⟨a, c, dx, fs, ex, hx, (hC c hc).1, (hC c hc).2, by rw [rl.len]; exact hl, ?_⟩
    have sepC : ∀ b ∈ C2, b ∉ A2 ∧ F2 b = none := fun b m => ⟨fun z => nodup_d r2.2.1 z m, r2.2.2 b m⟩
    obtain ⟨A', g', s'⟩ := g2.write (H' := upd H1 a (.ins c dx (L2.putF f y fs))) (o2 := .ins c (putFD f o gs)) eu ⟨v, hv, rfl⟩ sepC (nodup_r r2.2.1) (same_own g2.sub (g2.dis a mA)) (fun b => upd_free) (fun B0 R0 b1 b2 b3 => by
      obtain ⟨a', dx', fs', B1', ex', eB', hx', rl'⟩ := b1
      rw [ex] at ex'
      cases ex'
      rw [hx] at hx'
      cases hx'
      have ndB := nodup_l b3
      rw [eB'] at ndB
      have naB := (List.nodup_cons.mp ndB).1
      have mB0 : ∀ b ∈ B0, b ∈ A2 := fun b m => b2.mem_iff.mpr (List.mem_append_left _ m)
      have naC : a ∉ C2 := fun z => (sepC a z).1 mA
      have ndBC : (B1' ++ C2).Nodup := List.nodup_append.mpr ⟨(List.nodup_cons.mp ndB).2, nodup_r r2.2.1, fun b hb c hc z => by subst z; exact (sepC b hc).1 (mB0 b (by rw [eB']; exact List.mem_cons_of_mem _ hb))⟩
      obtain ⟨B', q1, q2, q3⟩ := RepOF.putF (f := f) (r2.1.upd (u := .ins c dx (L2.putF f y fs)) naC) (rl'.upd (u := .ins c dx (L2.putF f y fs)) naB) ndBC
      refine ⟨fun b o e n => by rw [upd_ne (fun z => n (by rw [z, eB']; exact List.mem_cons_self))]; exact e, a :: B', ⟨a, dx, _, B', ex, rfl, upd_same, q1⟩, List.nodup_cons.mpr ⟨fun m => (q3 a m).elim naB naC, q2⟩, fun b m => ?_⟩
      rcases List.mem_cons.mp m with m | m
      · exact .inl (by rw [m, eB']; exact List.mem_cons_self)
      · exact (q3 b m).elim (fun z => .inl (by rw [eB']; exact List.mem_cons_of_mem _ z)) .inr)
    exact eo.nx _ σ F2 _ A' g' (s12.trans s') h3
  | _ => exact h3.elim
/-! ### slices -/
abbrev DTO := DEnv → (Option Int → DEnv → Prop) → DX → Prop
def SimO (t : TO) (d : DTO) : Prop := ∀ (F H : Hp) (env : DEnv) (σ : L2.St) (A : List Addr) (Q : Option Int → Hp → Prop) (P : Option Int → DEnv → Prop) (X : DX), Good F H env σ A → d env P X →
  (∀ o F' H', Ext F H F' H' [] → P o env → Q o H') → t σ H Q
def dNoPart : DTO := fun env P _ => P none env
def dPart (da : DTE) : DTO := fun env P X => da env (fun r env1 => asI r env1 fun k => P (some k) env1) X
theorem sim_noPart : SimO tNoPart dNoPart := fun F H env σ A Q P X g h k => k none F H (.refl g.sub) h
theorem sim_part {ta : TE} {da : DTE} (ha : SimP ta da) : SimO (tPart ta) (dPart da) := by
  intro F H env σ A Q P X g h k
  refine ha F H env σ A _ _ X g h fun x r1 F1 H1 C1 x1 rr1 h1 => ?_
  obtain ⟨i, ei, h2⟩ := asI_ok (x1.good g) rr1 h1
  exact ⟨i, ei, k (some i) F1 H1 (x1.noC fun _ h => nomatch h) h2⟩
def cutD (ds : List D) (lo hi : Option Int) : List D := (ds.drop (HT.sIx ds.length 0 lo)).take (HT.sIx ds.length ds.length hi - HT.sIx ds.length 0 lo)
def slR (d : D) (lo hi : Option Int) (P : O → Prop) : Prop := match d with
  | .lst ds => P (.lst ((cutD ds lo hi).map .fr))
  | .tup ds => P (.fr (.tup (cutD ds lo hi)))
  | .str z => z.length ≤ sizeLine ∧ P (.fr (.str (cutS z lo hi)))
  | _ => False
def dSl (da : DTE) (dl dh : DTO) : DTE := fun env P X => da env (fun r env1 => dl env1 (fun lo env2 => dh env2 (fun hi env3 => oth (peek r env3) fun d => slR d lo hi fun o => P (.o o) env3) X) X) X
theorem repL_cut {F : Hp} {ds : List D} {xs : List V} {lo hi : Option Int} (h : RepL F ds xs) : RepL F (cutD ds lo hi) (cutV xs lo hi) := by
  unfold cutD cutV
  rw [h.length]
  exact (h.drop _).take _
theorem sim_sl {W : WX} {K : PySem.W.Frag} {ta : TE} {da : DTE} {tl th : TO} {dl dh : DTO} (ha : SimE W ta da) (hl : SimO tl dl) (hh : SimO th dh) : SimE W (tSl (xSlG K) ta tl th) (dSl da dl dh) := by
  intro F H env σ A Q P X g h xo k
  refine ha F H env σ A _ _ X g h xo fun x r1 env1 F1 H1 A1 C1 g1 s1 rr1 h1 => ?_
  refine hl F1 H1 env1 σ A1 _ _ X g1 h1 fun lo F2 H2 x2 h2 => ?_
  have g2 := x2.good g1
  refine hh F2 H2 env1 σ A1 _ _ X g2 h2 fun hi F3 H3 x3 h3 => ?_
  have g3 := x3.good g2
  have x23 := (x2.trans x3).noC (C' := []) fun _ h => nomatch h
  obtain ⟨d, ed, h4⟩ := oth_ok h3
  have rp := peek_ok g3 (rr1.ext x23) ed
  have s3 := (s1.mem fun a m => List.mem_append_left _ m).trans ((x23.step (env := env1) (σ := σ) (A := A1)).mem fun a m => List.mem_append_left _ m)
  have fin : ∀ z o F' H' C, Ext F3 H3 F' H' C → RepO F' H' o z C → C.Nodup → (∀ a ∈ C, F' a = none) → P (.o o) env1 → Q z H' := fun z o F' H' C x4 ro nd dis h6 => k z (.o o) env1 F' H' A1 C (x4.good g3) (s3.trans x4.step) (.new g3 x4 ro nd dis) h6
  cases d with
  | lst ds =>
    obtain ⟨a, xs, ex, ha, rl⟩ := rp
    exact .inl ⟨a, xs, ex, SqL.of ha, fun p np => out_lst (P := fun o => P (.o o) env1) g3.sub np (repL_cut rl) h4 fin⟩
  | tup ds =>
    obtain ⟨a, xs, ex, ha, rl⟩ := rp
    refine .inr (.inl ⟨a, xs, ex, SqT.of (g3.sub _ _ ha), fun w => ?_, fun _ p np => out_tup (P := fun o => P (.o o) env1) g3.sub np (repL_cut rl) h4 fin⟩)
    have e : cutV xs lo hi = xs := by
      unfold cutV
      rw [w.1, w.2]
      show (xs.drop 0).take (xs.length - 0) = xs
      rw [Nat.sub_zero]
      exact List.take_length
    have rc := repL_cut (lo := lo) (hi := hi) rl
    rw [e] at rc
    exact out_d (P := fun o => P (.o o) env1) g3.sub (d := .tup (cutD ds lo hi)) ⟨a, xs, rfl, ha, rc⟩ h4 fin
  | str z => exact .inr (.inr ⟨z, rp, h4.1, out_d (P := fun o => P (.o o) env1) g3.sub (d := .str _) rfl h4.2 fin⟩)
  | _ => exact h4.elim

def xMin : List V → Hp → VK → Prop := fun xs H Q => ∃ i j, xs = [.int i, .int j] ∧ Q (.int (if j < i then j else i)) H
def xMax : List V → Hp → VK → Prop := fun xs H Q => ∃ i j, xs = [.int i, .int j] ∧ Q (.int (if j > i then j else i)) H
section
variable {K : PySem.W.Frag}
theorem sim_min2 : SimRL xMin dMin2 := by
  intro F H xs ds P Q s hx h q
  match ds, hx, h with
  | [.int i, .int j], hx, h =>
    obtain ⟨x, y, ex, ea, eb⟩ := repPL_2 hx
    exact ⟨i, j, by rw [ex, show x = _ from ea, show y = _ from eb], out_d s (d := .int _) rfl h q⟩
theorem sim_max2 : SimRL xMax dMax2 := by
  intro F H xs ds P Q s hx h q
  match ds, hx, h with
  | [.int i, .int j], hx, h =>
    obtain ⟨x, y, ex, ea, eb⟩ := repPL_2 hx
    exact ⟨i, j, by rw [ex, show x = _ from ea, show y = _ from eb], out_d s (d := .int _) rfl h q⟩
end
/-! ### isinstance -/
def D.kind : D → Option String
  | .non => some "NoneType"
  | .bl _ => some "bool"
  | .int _ => some "int"
  | .str _ => some "str"
  | .lst _ => some "list"
  | .tup _ => some "tuple"
  | .dct false _ => some "dict"
  | _ => none
theorem kind_ok {F H : Hp} {d : D} {x : V} {s : String} (sm : Same F H) (e : d.kind = some s) (h : RepP F H d x) : Kind H x s := by
  cases d with
  | non => cases e; rw [show x = _ from h]; exact .non
  | bl b => cases e; rw [show x = _ from h]; exact .bl b
  | int b => cases e; rw [show x = _ from h]; exact .int b
  | str b => cases e; rw [show x = _ from h]; exact .str b
  | lst ds => cases e; obtain ⟨a, us, ea, ha, _⟩ := h; rw [ea]; exact .lst ha
  | tup ds => cases e; obtain ⟨a, us, ea, ha, _⟩ := h; rw [ea]; exact .tup (sm _ _ ha)
  | dct t ds =>
    cases t with
    | true => cases e
    | false =>
      cases e
      obtain ⟨a, o, us, ea, ha, ⟨k0, c1, _⟩, _⟩ := h
      rw [ea]
      rcases rd_core ha c1 with z | ⟨o', z⟩
      · exact .dK z
      · exact .dF z
  | _ => cases e
def okTy (T : String) : Prop := T = "int" ∨ T = "bool" ∨ T = "tuple" ∨ T = "list" ∨ T = "dict" ∨ T = "str"
/-- what is known of a class of the program: isinstance tells its own from what is built in, and from one another -/
structure ClsOk (K : PySem.W.Frag) (Cs : List Addr) : Prop where
  own : ∀ C ∈ Cs, OwnC K C
  ty : ∀ C ∈ Cs, ∀ T, okTy T → PySem.W.kitOne K (.ref C) (.type T) = some false
  ne : ∀ C ∈ Cs, ∀ C' ∈ Cs, C ≠ C' → PySem.W.kitOne K (.ref C) (.ref C') = some false
inductive Ask where
  | ty (T : String) | cls (C : Addr) | tt (S T : String)
def D.ask : D → Option Ask
  | .ty T => some (.ty T)
  | .cls C => some (.cls C)
  | .tup [.ty S, .ty T] => some (.tt S T)
  | _ => none
def D.cl : D → Option Addr
  | .ins C _ => some C
  | _ => none
def isiA (Cs : List Addr) (d : D) (a : Ask) (P : O → Prop) : Prop := match d.cl with
  | some C => C ∈ Cs ∧ (match a with
    | .ty T => okTy T ∧ P (.fr (.bl false))
    | .cls C' => C' ∈ Cs ∧ P (.fr (.bl (decide (C = C'))))
    | .tt S T => (okTy S ∧ okTy T) ∧ P (.fr (.bl false)))
  | none => oth d.kind fun s => (match a with
    | .ty T => okTy T ∧ P (.fr (.bl (isA s T)))
    | .cls C' => C' ∈ Cs ∧ P (.fr (.bl false))
    | .tt S T => (okTy S ∧ okTy T) ∧ P (.fr (.bl (isA s S || isA s T))))
def dIsi (Cs : List Addr) : List D → (O → Prop) → Prop
  | [d, c], P => oth c.ask fun a => isiA Cs d a P
  | _, _ => False
theorem ask_ok {F H : Hp} {c : D} {y : V} {a : Ask} (s : Same F H) (e : c.ask = some a) (h : RepP F H c y) : match a with
    | .ty T => y = .ty T
    | .cls C => y = .ref C
    | .tt S T => ∃ t, y = .ref t ∧ H t = some (.tup [.ty S, .ty T]) := by
  unfold D.ask at e
  split at e
  · cases e; exact h
  · cases e; exact h
  · cases e
    obtain ⟨t, us, ey, ht, u, r, e1, e2, w, r2, e3, e4, e5⟩ := h
    refine ⟨t, ey, ?_⟩
    rw [s _ _ ht, e1, show u = _ from e2, e3, show w = _ from e4, show r2 = _ from e5]
  · cases e
theorem cl_ok {F H : Hp} {d : D} {x : V} {C : Addr} (e : d.cl = some C) (h : RepP F H d x) : ∃ a dx fs, x = .ref a ∧ H a = some (.ins C dx fs) := by
  unfold D.cl at e
  split at e
  · cases e
    obtain ⟨a, dx, fs, e1, e2, _⟩ := h
    exact ⟨a, dx, fs, e1, e2⟩
  · cases e
def xIsiG (K : PySem.W.Frag) : List V → Hp → VK → Prop := fun xs H Q => rIsi K xs H Q ∨ rIsiT K xs H Q
theorem call_isiG {X : Cx} : CallR X (.builtin "isinstance") (xIsiG X.K) := CallR.or call_isi call_isiT
theorem sim_isi {K : PySem.W.Frag} {Cs : List Addr} (hC : ClsOk K Cs) : SimRL (xIsiG K) (dIsi Cs) := by
  intro F H xs ds P Q s hx h q
  match ds, hx, h with
  | [d, c], hx, h =>
    obtain ⟨x, y, ex, rx, ry⟩ := repPL_2 hx
    subst ex
    obtain ⟨a, ea, h⟩ := oth_ok h
    have ya := ask_ok s ea ry
    unfold isiA at h
    cases ec : d.cl with
    | some C =>
      rw [ec] at h
      dsimp only at h
      obtain ⟨hm, h⟩ := h
      obtain ⟨b, dx, fs, eb, hb⟩ := cl_ok ec rx
      subst eb
      have ty := (hC.own C hm).tyx hb
      cases a with
      | ty T =>
        have ey : y = .ty T := ya
        subst ey
        exact .inl ⟨.ref b, .ty T, .ref C, .type T, false, rfl, .ty T, ty, hC.ty C hm T h.1, out_d s (d := .bl false) rfl h.2 q⟩
      | cls C' =>
        have ey : y = .ref C' := ya
        subst ey
        refine .inl ⟨.ref b, .ref C', .ref C, .ref C', decide (C = C'), rfl, .own C', ty, ?_, out_d s (d := .bl _) rfl h.2 q⟩
        by_cases e : C = C'
        · rw [e, decide_eq_true rfl]; exact (hC.own C' h.1).ic.me
        · rw [decide_eq_false e]; exact hC.ne C hm C' h.1 e
      | tt S T =>
        obtain ⟨t, ey, ht⟩ := ya
        subst ey
        refine .inr ⟨.ref b, t, _, .ref C, [.type S, .type T], false, rfl, ht, .cons (.ty S) (.cons (.ty T) .nil), ty, ?_, out_d s (d := .bl _) rfl h.2 q⟩
        exact kitAny_cons (hC.ty C hm S h.1.1) (fun e => kitAny_cons (hC.ty C hm T h.1.2) (fun e' => kitAny_nil) fun e' => by cases e') fun e => by cases e
    | none =>
      rw [ec] at h
      dsimp only at h
      obtain ⟨n, en, h⟩ := oth_ok h
      have kd := kind_ok s en rx
      cases a with
      | ty T =>
        have ey : y = .ty T := ya
        subst ey
        exact .inl (v_isi kd h.1 (out_d s (d := .bl _) rfl h.2 q))
      | cls C' =>
        have ey : y = .ref C' := ya
        subst ey
        exact .inl (v_isiK (hC.own C' h.1) kd (out_d s (d := .bl _) rfl h.2 q))
      | tt S T =>
        obtain ⟨t, ey, ht⟩ := ya
        subst ey
        exact .inr (v_isiT kd ht h.1.1 h.1.2 (out_d s (d := .bl _) rfl h.2 q))
/-! ### list(range(..)), tuple(range(..)) -/
def dRg (b : Bool) (da : DTA) : DTE := fun env P X => da env (fun rs env1 => oth (peekL rs env1) fun ds => match ds with
  | [.int j] => RgOk 0 j ∧ P (if b then .o (.lst ((rgD 0 (j - 0).toNat).map .fr)) else .d (.tup (rgD 0 (j - 0).toNat))) env1
  | [.int i, .int j] => RgOk i j ∧ P (if b then .o (.lst ((rgD i (j - i).toNat).map .fr)) else .d (.tup (rgD i (j - i).toNat))) env1
  | _ => False) X
theorem repL_rg {F : Hp} (i : Int) (n : Nat) : RepL F (rgD i n) ((List.range n).map fun (k : Nat) => V.int (i + (k : Nat))) := by
  unfold rgD
  have := RepL.ofInts (F := F) ((List.range n).map fun (k : Nat) => i + ((k : Nat) : Int))
  rw [List.map_map, List.map_map] at this
  exact this
theorem rgV_eq (i j : Int) : rgV i j = (List.range (j - i).toNat).map fun (k : Nat) => V.int (i + (k : Nat)) := rfl
section
variable {W : WX} {ta tb : TE} {da db : DTE} {n : Nat}
theorem rg_fin {F H : Hp} {env : DEnv} {σ : L2.St} {A : List Addr} {i j : Int} {b : Bool} {P : R → DEnv → Prop} {Q : VK} (g : Good F H env σ A) (h : P (if b then .o (.lst ((rgD i (j - i).toNat).map .fr)) else .d (.tup (rgD i (j - i).toNat))) env)
    (k : ∀ x r F' H' C, Ext F H F' H' C → RepR F' H' σ A r x C → P r env → Q x H') : ∀ p, H p = none → Q (.ref p) (upd H p (if b then .lst (rgV i j) else .tup (rgV i j))) := fun p np => by
  cases b with
  | true => exact out_lst (P := fun o => P (.o o) env) (Q := Q) g.sub np (by rw [rgV_eq]; exact repL_rg i _) h fun z o F' H' C x ro nd dis hp => k z (.o o) F' H' C x (.new g x ro nd dis) hp
  | false => exact out_tup (P := fun o => P (.o o) env) (Q := Q) g.sub np (by rw [rgV_eq]; exact repL_rg i _) h fun z o F' H' C x ro nd dis hp => k z (.o o) F' H' C x (.new g x ro nd dis) hp
theorem sim_rgA2 {b : Bool} (ha : SimE W ta da) (hb : SimE W tb db) : SimE W (fun σ H Q => ta σ H fun x H1 => tb σ H1 fun y H2 => ∃ i j, x = .int i ∧ y = .int j ∧ RgOk i j ∧ ∀ q, H2 q = none → Q (.ref q) (upd H2 q (if b then .lst (rgV i j) else .tup (rgV i j)))) (dRg b (dConsA da (dLastA db))) := by
  intro F H env σ A Q P X g h xo k
  refine ha F H env σ A _ _ X g h xo fun x r1 env1 F1 H1 A1 C1 g1 s1 rr1 h1 => ?_
  obtain ⟨F2, r1', h2, g2, s2, p2⟩ := nrm_ok g1 rr1 h1
  have s12 := s1.trans s2
  refine hb F2 H1 env1 σ A1 _ _ X g2 h2 (xo.step s12) fun y r2 env2 F3 H3 A3 C3 g3 s3 rr3 h3 => ?_
  obtain ⟨ds, e1, h4⟩ := oth_ok h3
  have rp := peekL_ok g3 (rs := [r1', r2]) (xs := [x, y]) ⟨x, [y], rfl, p2.mono s3.f, y, rfl, rr3⟩ e1
  match ds, h4, rp with
  | [.int i, .int j], h4, rp =>
    obtain ⟨u, w, ey, ru, rw'⟩ := repPL_2 rp
    cases ey
    exact ⟨i, j, ru, rw', h4.1, rg_fin g3 h4.2 fun z r F' H' C x1 rr hp => k z r env2 F' H' A3 C (x1.good g3) ((s12.trans (s3.mem fun a m => List.mem_append_left _ m)).trans x1.step) rr hp⟩
  | [.int j], h4, rp =>
    obtain ⟨y, ey, _⟩ := repPL_1 rp
    cases ey
theorem sim_lstRg2 (ha : SimE W ta da) (hb : SimE W tb db) : SimE W (tLstRg (tRg2 ta tb)) (dRg true (dConsA da (dLastA db))) := sim_rgA2 (b := true) ha hb
end
/-! ### raise -/
def dRaise0 (cls : Value) : DTS := fun DD env => DD.ex ⟨cls, none⟩ env
def dRaise1 (C : Addr) (f : Str) (dv : DTV) : DTS := fun DD env => dv env (fun ds env1 => match ds with
  | [d] => DD.ex ⟨.ref C, some [(f, d)]⟩ env1
  | _ => False) DD.ex
theorem sim_raise0 {W : WX} {cls : Value} : SimS W (tRaise0 cls W) (dRaise0 cls) := fun F H env σ A E DD g h eo => eo.ex cls none ⟨cls, none⟩ env σ F H A g .refl ⟨rfl, rfl⟩ h
theorem ext_frz {F H : Hp} {p : Addr} {o : HO} (s : Same F H) (n : H p = none) (nt : isTbl o = false := by rfl) : Ext F H (upd F p o) (upd H p o) [] := by
  refine ⟨sm_new (s.free n) nt, (same_new n).smH, fun a u e _ _ => same_new n a u e, fun a u e => ?_, fun _ h => (nomatch h), fun a h => ?_⟩
  · by_cases q : a = p
    · rw [q, upd_same] at e ⊢; exact e
    · rw [upd_ne q] at e ⊢; exact s a u e
  · by_cases q : a = p
    · exact .inr (by rw [q]; exact n)
    · rw [upd_ne q] at h; exact .inl h
theorem sim_raise1 {W : WX} {C : Addr} {f : Str} {ta : TA} {dv : DTV} (ha : SimV W ta dv) : SimS W (tRaiseO C (spX1 C f) ta W) (dRaise1 C f dv) := by
  intro F H env σ A E DD g h eo
  refine ha F H env σ A _ _ _ g h eo.ex fun xs ds env1 F1 H1 A1 g1 s1 rl h1 => ?_
  match ds, h1, rl with
  | [d], h1, ⟨x, r, ex, rx, er⟩ =>
    have e2 : xs = [x] := by rw [ex, show r = [] from er]
    subst e2
    refine v_raise1 fun dd nd => ?_
    have x1 := ext_frz (o := .xd [(f, x)]) g1.sub nd
    exact eo.ex _ _ ⟨.ref C, some [(f, d)]⟩ env1 σ _ _ A1 (x1.good g1) (s1.trans (x1.step.mem fun a m => List.mem_append_left _ m)) ⟨rfl, dd, _, rfl, upd_same, ⟨x, [], rfl, rx.mono x1.f, rfl⟩⟩ h1
def dPar (i j : Nat) (dv : DTV) : DTS := fun DD env => dv env (fun ds env1 => match ds with
  | [a, b] => dName i (.fr a) env1 (fun env2 => dName j (.fr b) env2 DD.nx DD.ex) DD.ex
  | _ => False) DD.ex
/-! ### xs[i].m(e): a list that another one holds -/
theorem PathV.stay {F H H' : Hp} : ∀ {p : List PSt} {o o1 : O} {y x : V} {B : List Addr}, RepO F H o y B → o.at p = some o1 → PathV H y p x → (∀ a ∈ B, ∀ u, H a = some u → H' a = some u) → PathV H' y p x
  | [], _, _, _, _, _, _, _, v, _ => v
  | .ix j :: p, o, o1, y, x, B, h, e, v, k => by
    cases o with
    | lst os =>
      unfold O.at at e
      cases ej : os[j]? with
      | none => rw [ej] at e; cases e
      | some o2 =>
        rw [ej] at e
        obtain ⟨a, xs, B1, ey, eA, ha, r⟩ := h
        obtain ⟨b, xs', z, ey', hb, hz, v'⟩ := v
        rw [ey] at ey'
        cases ey'
        rw [ha] at hb
        cases hb
        obtain ⟨z', Bz, Rz, g1, g2, g3, _⟩ := RepOL.focus r ej
        rw [hz] at g1
        cases g1
        exact ⟨a, xs, z, ey, k a (by rw [eA]; exact List.mem_cons_self) _ ha, hz, PathV.stay g2 e v' fun b hb => k b (by rw [eA]; exact List.mem_cons_of_mem _ (g3.mem_iff.mpr (List.mem_append_left _ hb)))⟩
    | fr d => unfold O.at at e; cases e
    | dct t d => unfold O.at at e; cases e
    | ins C d => unfold O.at at e; cases e
  | .fld f :: p, o, o1, y, x, B, h, e, v, k => by
    cases o with
    | ins C gs =>
      unfold O.at at e
      cases ej : gs.lookup f with
      | none => rw [ej] at e; cases e
      | some o2 =>
        rw [ej] at e
        obtain ⟨a, dx, xs, B1, ey, eA, ha, r⟩ := h
        obtain ⟨b, C', dx', xs', z, ey', hb, hz, v'⟩ := v
        rw [ey] at ey'
        cases ey'
        rw [ha] at hb
        cases hb
        obtain ⟨z', Bz, Rz, g1, g2, g3, _⟩ := RepOF.focus r ej
        rw [hz] at g1
        cases g1
        exact ⟨a, C, dx, xs, z, ey, k a (by rw [eA]; exact List.mem_cons_self) _ ha, hz, PathV.stay g2 e v' fun b hb => k b (by rw [eA]; exact List.mem_cons_of_mem _ (g3.mem_iff.mpr (List.mem_append_left _ hb)))⟩
    | fr d => unfold O.at at e; cases e
    | dct t d => unfold O.at at e; cases e
    | lst d => unfold O.at at e; cases e
  | .key j :: p, o, o1, y, x, B, h, e, v, k => by
    cases o with
    | dct t gs =>
      unfold O.at at e
      cases ej : getM gs j with
      | none => rw [ej] at e; cases e
      | some o2 =>
        rw [ej] at e
        obtain ⟨a, oh, xs, B1, ey, eA, ha, dc, r⟩ := h
        obtain ⟨b, oh', t', xs', z, ey', hb, dc', hz, v'⟩ := v
        rw [ey] at ey'
        cases ey'
        rw [ha] at hb
        cases hb
        have ex := dc.uniq2 dc'
        subst ex
        obtain ⟨z', Bz, Rz, g1, g2, g3, _⟩ := RepOM.focus r ej
        rw [hz] at g1
        cases g1
        exact ⟨a, oh, t', xs, z, ey, k a (by rw [eA]; exact List.mem_cons_self) _ ha, dc', hz, PathV.stay g2 e v' fun b hb => k b (by rw [eA]; exact List.mem_cons_of_mem _ (g3.mem_iff.mpr (List.mem_append_left _ hb)))⟩
    | fr d => unfold O.at at e; cases e
    | ins C d => unfold O.at at e; cases e
    | lst d => unfold O.at at e; cases e
def S.owO : S → Option O
  | .ow o => some o
  | _ => none
def S.isUn : S → Bool
  | .un => true
  | _ => false
def dMethN1 (f : List O → O → (List O → O → Prop) → Prop) (da de : DTE) : DTE := fun env P X => da env (fun r _ => match r with
  | .p i path => oth env[i]? fun s => oth s.owO fun o0 => isL (o0.at path) = true ∧ de (env.set i .un) (fun q env2 => toO q env2 fun o env3 => oth env3[i]? fun s3 => s3.isUn = true ∧ oth (o0.at path) fun u => (match u with
    | .lst os => f os o fun os' z => P (.o z) (env3.set i (.ow (o0.put path (.lst os'))))
    | _ => False)) (fun _ _ => False)
  | _ => False) (fun _ _ => False)
/-! ### the law's own head: what is made of the script -/
def itO (ns : List Int) : O := .lst (ns.map fun i => .fr (.int i))
def spLaw (K : PySem.W.Frag) : Sp := fun vs H Q _ => ∃ (a : Addr) (ns : List Int), vs = [.ref a] ∧ SqL K H a (ns.map V.int) ∧ ns.length ≤ 63 ∧ (∀ p ∈ tabT, H p.1 = some (.tbl #[])) ∧ ∀ H', Q (.bl true) H'
theorem len_law {K : PySem.W.Frag} {vs : List V} {H : Hp} {Q : VK} {E : XK} (h : spLaw K vs H Q E) : vs.length = 1 := by obtain ⟨_, _, rfl, _⟩ := h; rfl
/-- what makes the first object of the script -/
def spHead (K : PySem.W.Frag) (Ok : O → Prop) : Sp := fun vs H Q _ => ∃ (a : Addr) (ns : List Int), vs = [.ref a] ∧ SqL K H a (ns.map V.int) ∧ ns.length ≤ 63 ∧
  ∀ o x H' A, Ok o → (∀ F : Hp, RepO F H' o x A) → A.Nodup → Same H H' → (∀ b ∈ A, H b = none) → Q x H'
theorem spHead_len {K : PySem.W.Frag} {Ok : O → Prop} {vs : List V} {H : Hp} {Q : VK} {E : XK} (h : spHead K Ok vs H Q E) : vs.length = 1 := by
  obtain ⟨a, ns, rfl, _⟩ := h
  rfl
open Classical in
/-- the tables alone -/
noncomputable def tbF (H : Hp) : Hp := fun b => if ∃ p ∈ tabT, p.1 = b then H b else none
theorem tbF_in {H : Hp} {b : Addr} (h : ∃ p ∈ tabT, p.1 = b) : tbF H b = H b := if_pos h
theorem tbF_sub {H : Hp} : Same (tbF H) H := fun b o e => by
  unfold tbF at e
  split at e
  · exact e
  · cases e
theorem tbF_free {H : Hp} {b : Addr} (h : H b = none) : tbF H b = none := by
  unfold tbF
  rw [h]
  split <;> rfl
theorem tbF_ok {H : Hp} (h : ∀ p ∈ tabT, H p.1 = some (.tbl #[])) : TabOk (tbF H) := ⟨fun p hp => LamX.TabS.nil (by rw [tbF_in ⟨p, hp, rfl⟩]; exact h p hp), fun a ps e => by
  unfold tbF at e
  split at e
  · assumption
  · cases e⟩
/-- the law by its data reading -/
theorem law_ok {K : PySem.W.Frag} {Ok : O → Prop} {n : Nat} {N : List Str} {t : TS} {d : DTS} {vs : List V} {H : Hp} {Q : VK} {E : XK} (hN : N.length = n + 2) (hs : SimS WO t d)
    (hd : ∀ o, Ok o → d ⟨fun _ => False, fun r _ => r = .fr (.bl true), fun _ => False, fun _ => False, fun _ _ => False⟩ (.un :: .ow o :: List.replicate n .un))
    (h : spLaw K vs H Q E) : (tSeq (tAsg (tCall (spHead K Ok) [] E0 (tCons (tVar 0) tNil)) (gName 1)) t) { nx := fun _ H' => Q .non H', rt := Q } (L2.start N vs) H := by
  obtain ⟨a, ns, rfl, hS, hl, hT, q⟩ := h
  have eσ : L2.start N [.ref a] = some (.ref a) :: none :: List.replicate n none := by
    unfold L2.start
    rw [hN]
    show some (V.ref a) :: List.replicate (n + 2 - 1) none = _
    rw [show n + 2 - 1 = n + 1 by omega]
    rfl
  rw [eσ]
  refine v_seq (v_asg (v_call ⟨.ref a, rfl, ?_⟩))
  refine ⟨a, ns, rfl, hS, hl, fun o x H' A hO hR nA sH fA => ?_⟩
  refine v_name ?_
  have g : Good (tbF H) H' (.un :: .ow o :: List.replicate n .un) (some (.ref a) :: some x :: List.replicate n none) A := by
    have hR2 : RepO (tbF H) H' o x A := hR _
    refine ⟨fun b u e => sH b u (tbF_sub b u e), ?_, nA, fun b hb => tbF_free (fA b hb)⟩
    refine ⟨some (.ref a), _, [], A, rfl, rfl, rfl, some x, _, A, [], rfl, by rw [List.append_nil], ⟨x, rfl, hR2⟩, ?_⟩
    have := repS_start (F := tbF H) (H := H') (ms := []) (os := []) (vs := []) (B := []) n (tbF_ok hT) trivial ⟨rfl, rfl⟩
    exact this
  refine hs (tbF H) H' _ _ A _ _ g (hd o hO) ⟨fun _ _ _ _ _ _ _ h => h.elim, fun _ _ _ _ _ _ _ h => h.elim, fun _ _ _ _ _ _ _ h => h.elim, fun v r env' σ' F2 H2 A2 C2 g2 s2 r2 e => ?_, fun _ _ _ _ _ _ _ _ _ _ _ h => h.elim⟩
  subst e
  have ev : v = .bl true := r2.1.2
  subst ev
  exact q H2

section
variable {K : PySem.W.Frag}
end

theorem itO_rep {F H : Hp} : ∀ ns : List Int, RepOL F H (ns.map fun i => .fr (.int i)) (ns.map V.int) []
  | [] => ⟨rfl, rfl⟩
  | n :: ns => ⟨_, _, [], [], rfl, rfl, ⟨rfl, rfl⟩, itO_rep ns⟩
local macro_rules | `(tactic| walk_at "ne") => `(tactic| first | assumption | (refine Ne.symm ?_; assumption))
local macro_rules | `(tactic| walk_at "hp") => `(tactic| first
  | assumption
  | exact upd_same
  | ((with_reducible refine' upd_get (by assumption) ?_); walk_at "hp")
  | ((with_reducible refine' upd_at ?k1 ?_); (case k1 => walk_at "ne"); walk_at "hp"))
local macro_rules | `(tactic| walk_at "vc1") => `(tactic| first
  | (with_reducible refine' v_seq ?_)
  | (with_reducible refine' v_asg ?_)
  | ((with_reducible refine' v_var ?k1 ?_); (case k1 => exact rfl))
  | (with_reducible refine' v_c ?_)
  | (with_reducible refine' v_op ?_)
  | (with_reducible refine' v_I0 ?_)
  | (with_reducible refine' v_name ?_)
  | (with_reducible refine' v_cons ?_)
  | (with_reducible refine' v_nil ?_)
  | (with_reducible refine' v_cb ?_)
  | (with_reducible refine' v_int ?_)
  | (with_reducible refine' v_abs ?_)
  | (with_reducible refine' v_ifs ?_)
  | (with_reducible refine' v_test ?_)
  | (with_reducible refine' v_B ?_)
  | (with_reducible refine' v_bl ?_)
  | (with_reducible refine' v_and ?_)
  | (with_reducible refine' v_or ?_)
  | (with_reducible refine' v_not ?_)
  | (with_reducible refine' v_eqI ?_)
  | (with_reducible refine' v_neI ?_)
  | (with_reducible refine' v_ret ?_)
  | (with_reducible refine' v_retN ?_)
  | (with_reducible refine' v_next ?_)
  | (with_reducible refine' v_drop ?_)
  | (with_reducible refine' v_call ?_)
  | (with_reducible refine' v_sub ?_)
  | (with_reducible refine' v_lst ?_)
  | (with_reducible refine' v_tup ?_)
  | (with_reducible refine' v_sl ?_)
  | (with_reducible refine' v_nopart ?_)
  | (with_reducible refine' v_part ?_)
  | (with_reducible refine' v_partI ?_)
  | (with_reducible refine' v_if ?_)
  | (with_reducible refine' v_chain ?_)
  | (with_reducible refine' v_andV ?_)
  | (with_reducible refine' v_orV ?_)
  | (with_reducible refine' v_notV ?_)
  | (with_reducible refine' v_un ?_)
  | (with_reducible refine' v_U ?_)
  | (with_reducible refine' v_isN ?_)
  | (with_reducible refine' v_notN ?_)
  | (with_reducible refine' v_eqB ?_)
  | (with_reducible refine' v_neB ?_)
  | (with_reducible refine' v_yes ?_)
  | (with_reducible refine' v_dnew ?_)
  | (with_reducible refine' v_iteT ?_)
  | (with_reducible refine' v_iteF ?_)
  | (with_reducible refine' v_iteNT ?_)
  | (with_reducible refine' v_iteNF ?_)
  | (with_reducible refine' v_for ?_)
  | (with_reducible refine' v_lc ?_)
  | (with_reducible refine' v_iR1 ?_)
  | (with_reducible refine' v_iR2 ?_)
  | (with_reducible refine' v_iL ?_)
  | (with_reducible refine' v_iT ?_)
  | (with_reducible refine' v_bm ?_)
  | (with_reducible refine' v_bm0 ?_)
  | (with_reducible refine' v_tRg2 ?_)
  | (with_reducible refine' v_tRg1 ?_)
  | (with_reducible refine' v_rg2e ?_)
  | (with_reducible refine' v_rg1e ?_)
  | (with_reducible refine' v_lstRg ?_)
  | (with_reducible refine' v_tupRg ?_)
  | ((with_reducible refine' v_bmL ?k1 ?_); (case k1 => walk_at "hp"))
  | ((with_reducible refine' v_bm0L ?k1 ?_); (case k1 => walk_at "hp"))
  | ((with_reducible refine' v_ixL' ?k1 ?k2 ?_); (case k1 => walk_at "hp"); (case k2 => exact rfl))
  | ((with_reducible refine' v_ixT' ?k1 ?k2 ?_); (case k1 => walk_at "hp"); (case k2 => exact rfl))
  | ((with_reducible refine' v_setL ?k1 ?k2 ?_); (case k1 => walk_at "hp"); (case k2 => exact rfl))
  | ((with_reducible refine' v_lenL' ?k1 ?_); (case k1 => walk_at "hp"))
  | ((with_reducible refine' v_lenT' ?k1 ?_); (case k1 => walk_at "hp"))
  | ((with_reducible refine' v_bound ?k1 ?_); (case k1 => (first | decide | omega | (simp only [List.length_cons, List.length_nil]; omega)))))
local macro_rules | `(tactic| walk_at "vc") => `(tactic| repeat (walk_at "vc1"))
section
variable {K : PySem.W.Frag}
end

/-! ### the head of laws with a tape -/
def tapeO (ns : List Int) (x y z u : Int) : O := .lst [.lst (ns.map fun i => .fr (.int i)), .fr (.int x), .fr (.int y), .fr (.int z), .fr (.int u)]
section
variable {K : PySem.W.Frag}
end

/-! ### the head of laws with a hand of cells -/
def HandOk (o : O) : Prop := ∃ ns x y z u, o = tapeO ns x y z u ∧ ns.length ≤ 63 ∧ 0 ≤ x
def t_l_hand (K : PySem.W.Frag) : TS :=
  (tSeq (tAsg (tLc (iList K (tSl (rSlL K) (tVar 0) tNoPart (tPart (tC (.int 63))))) (gName 2) tYes (tCB xAbs (tCons (tCB xInt (tCons (tVar 2) tNil)) tNil)) [2]) (gName 1)) (tRet (tLst (tCons (tVar 1) (tCons (tC (.int 0)) (tCons (tC (.int 0)) (tCons (tOp xAdd (tC (.int 1)) (tCB (xLen K) (tCons (tVar 1) tNil))) (tCons (tC (.int 0)) tNil))))))))
local macro_rules | `(tactic| walk_at "ne") => `(tactic| first | assumption | (refine Ne.symm ?_; assumption))
local macro_rules | `(tactic| walk_at "hp") => `(tactic| first
  | assumption
  | exact upd_same
  | ((with_reducible refine' upd_get (by assumption) ?_); walk_at "hp")
  | ((with_reducible refine' upd_at ?k1 ?_); (case k1 => walk_at "ne"); walk_at "hp"))
local macro_rules | `(tactic| walk_at "vc1") => `(tactic| first
  | (with_reducible refine' v_seq ?_)
  | (with_reducible refine' v_asg ?_)
  | ((with_reducible refine' v_var ?k1 ?_); (case k1 => exact rfl))
  | (with_reducible refine' v_c ?_)
  | (with_reducible refine' v_op ?_)
  | (with_reducible refine' v_I0 ?_)
  | (with_reducible refine' v_name ?_)
  | (with_reducible refine' v_cons ?_)
  | (with_reducible refine' v_nil ?_)
  | (with_reducible refine' v_cb ?_)
  | (with_reducible refine' v_int ?_)
  | (with_reducible refine' v_abs ?_)
  | (with_reducible refine' v_ifs ?_)
  | (with_reducible refine' v_test ?_)
  | (with_reducible refine' v_B ?_)
  | (with_reducible refine' v_bl ?_)
  | (with_reducible refine' v_and ?_)
  | (with_reducible refine' v_or ?_)
  | (with_reducible refine' v_not ?_)
  | (with_reducible refine' v_eqI ?_)
  | (with_reducible refine' v_neI ?_)
  | (with_reducible refine' v_ret ?_)
  | (with_reducible refine' v_retN ?_)
  | (with_reducible refine' v_next ?_)
  | (with_reducible refine' v_drop ?_)
  | (with_reducible refine' v_call ?_)
  | (with_reducible refine' v_sub ?_)
  | (with_reducible refine' v_lst ?_)
  | (with_reducible refine' v_tup ?_)
  | (with_reducible refine' v_sl ?_)
  | (with_reducible refine' v_nopart ?_)
  | (with_reducible refine' v_part ?_)
  | (with_reducible refine' v_partI ?_)
  | (with_reducible refine' v_if ?_)
  | (with_reducible refine' v_chain ?_)
  | (with_reducible refine' v_andV ?_)
  | (with_reducible refine' v_orV ?_)
  | (with_reducible refine' v_notV ?_)
  | (with_reducible refine' v_un ?_)
  | (with_reducible refine' v_U ?_)
  | (with_reducible refine' v_isN ?_)
  | (with_reducible refine' v_notN ?_)
  | (with_reducible refine' v_eqB ?_)
  | (with_reducible refine' v_neB ?_)
  | (with_reducible refine' v_yes ?_)
  | (with_reducible refine' v_dnew ?_)
  | (with_reducible refine' v_iteT ?_)
  | (with_reducible refine' v_iteF ?_)
  | (with_reducible refine' v_iteNT ?_)
  | (with_reducible refine' v_iteNF ?_)
  | (with_reducible refine' v_for ?_)
  | (with_reducible refine' v_lc ?_)
  | (with_reducible refine' v_iR1 ?_)
  | (with_reducible refine' v_iR2 ?_)
  | (with_reducible refine' v_iL ?_)
  | (with_reducible refine' v_iT ?_)
  | (with_reducible refine' v_bm ?_)
  | (with_reducible refine' v_bm0 ?_)
  | (with_reducible refine' v_tRg2 ?_)
  | (with_reducible refine' v_tRg1 ?_)
  | (with_reducible refine' v_rg2e ?_)
  | (with_reducible refine' v_rg1e ?_)
  | (with_reducible refine' v_lstRg ?_)
  | (with_reducible refine' v_tupRg ?_)
  | ((with_reducible refine' v_bmL ?k1 ?_); (case k1 => walk_at "hp"))
  | ((with_reducible refine' v_bm0L ?k1 ?_); (case k1 => walk_at "hp"))
  | ((with_reducible refine' v_ixL' ?k1 ?k2 ?_); (case k1 => walk_at "hp"); (case k2 => exact rfl))
  | ((with_reducible refine' v_ixT' ?k1 ?k2 ?_); (case k1 => walk_at "hp"); (case k2 => exact rfl))
  | ((with_reducible refine' v_setL ?k1 ?k2 ?_); (case k1 => walk_at "hp"); (case k2 => exact rfl))
  | ((with_reducible refine' v_lenL' ?k1 ?_); (case k1 => walk_at "hp"))
  | ((with_reducible refine' v_lenT' ?k1 ?_); (case k1 => walk_at "hp"))
  | ((with_reducible refine' v_bound ?k1 ?_); (case k1 => (first | decide | omega | (simp only [List.length_cons, List.length_nil]; omega)))))
local macro_rules | `(tactic| walk_at "vc") => `(tactic| repeat (walk_at "vc1"))
section
variable {K : PySem.W.Frag}
/-! ### the pool's making -/

theorem pure_l_hand {vs : List V} {H : Hp} {Q : VK} {E : XK} (h : spHead K HandOk vs H Q E) : t_l_hand K { nx := fun _ H' => Q .non H', rt := Q } (start ["_law_script", "_law_cells", "_law_cell"] vs) H := by
  obtain ⟨a, ns, rfl, hS, hl, q⟩ := h
  unfold t_l_hand
  walk_at "vc"
  obtain ⟨ms, em, hml⟩ := cut_map ns none (some 63)
  walk_at "vc"
  refine v_slL hS fun l nl => ?_
  refine ⟨l, rfl, ⟨_, SqL.of upd_same⟩, fun D nD => ?_⟩
  have s1 : Same H (upd H l (.lst (cutV (ns.map V.int) none (some 63)))) := same_upd nl
  have hl1 : (upd H l (.lst (cutV (ns.map V.int) none (some 63)))) l = some (.lst (cutV (ns.map V.int) none (some 63))) := upd_same
  generalize upd H l (.lst (cutV (ns.map V.int) none (some 63))) = H1 at *
  rw [em] at hl1
  refine lc_list (xs := ms.map V.int) (fun i H' => ∃ acc : List Int, H' D = some (.lst (acc.map V.int)) ∧ acc.length ≤ i ∧ Same H1 H') ⟨[], upd_same, Nat.le_refl _, same_upd nD⟩ (fun i H' _ ⟨_, _, _, s⟩ => SqL.of (s _ _ hl1)) ?_ ?_
  · rintro i x H2 hx ⟨acc, hacc, hal, s2⟩
    obtain ⟨n, rfl⟩ := map_get hx
    have hi : i < ms.length := by
      have := (List.getElem?_eq_some_iff.mp hx).1
      rw [List.length_map] at this
      exact this
    walk_at "vc"
    refine ⟨rfl, ?_⟩
    walk_at "vc"
    refine ⟨_, hacc, by rw [List.length_map]; exact small1000 (by omega), acc ++ [if n < 0 then -n else n], by rw [upd_same, List.map_append]; rfl, by rw [List.length_append]; show acc.length + 1 ≤ i + 1; omega, fun b o e => ?_⟩
    rw [upd_ne (ne_of_none e nD)]
    exact s2 _ _ e
  · rintro H2 ⟨gs, hgs, hgl, s2⟩
    rw [List.length_map] at hgl
    walk_at "vc"
    intro p np
    have n1 : D ≠ p := fun z => by rw [z, np] at hgs; cases hgs
    refine q (tapeO gs 0 0 (1 + ((gs.map V.int).length : Nat)) 0) (.ref p) _ [p, D] ⟨gs, _, _, _, _, rfl, by omega, by decide⟩ (fun F => ⟨p, [.ref D, .int 0, .int 0, .int (1 + ((gs.map V.int).length : Nat)), .int 0], [D], rfl, rfl, upd_same, ?_⟩) ?_ ((s1.trans s2).trans (same_new np)) ?_
    · refine ⟨.ref D, _, [D], [], rfl, rfl, ⟨D, gs.map V.int, [], rfl, rfl, by rw [upd_ne n1]; exact hgs, itO_rep gs⟩, ?_⟩
      exact ⟨_, _, [], [], rfl, rfl, ⟨rfl, rfl⟩, ⟨_, _, [], [], rfl, rfl, ⟨rfl, rfl⟩, ⟨_, _, [], [], rfl, rfl, ⟨rfl, rfl⟩, ⟨_, _, [], [], rfl, rfl, ⟨rfl, rfl⟩, rfl, rfl⟩⟩⟩⟩
    · simp only [List.nodup_cons, List.mem_cons, List.not_mem_nil, or_false, not_false_eq_true, List.nodup_nil, and_true]
      exact n1.symm
    · refine fun b hb => ?_
      rcases List.mem_cons.mp hb with rfl | hb
      · exact (s1.trans s2).free np
      rcases List.mem_cons.mp hb with rfl | hb
      · exact s1.free nD
      · cases hb
end

/-! ### enumerate(list) -/
def enumD : Nat → List D → List D
  | _, [] => []
  | n, d :: r => .tup [.int (n : Nat), d] :: enumD (n + 1) r
theorem enumD_at : ∀ (ds : List D) (n i : Nat), (enumD n ds)[i]? = (ds[i]?).map fun d => .tup [.int ((n + i : Nat) : Int), d]
  | [], n, i => by
    show ([] : List D)[i]? = Option.map _ (([] : List D)[i]?)
    rw [List.getElem?_nil]
    rfl
  | d :: r, n, 0 => rfl
  | d :: r, n, i + 1 => by
    show (enumD (n + 1) r)[i]? = Option.map _ (r[i]?)
    rw [enumD_at r (n + 1) i, show n + 1 + i = n + (i + 1) by omega]
theorem enumD_len : ∀ (ds : List D) (n : Nat), (enumD n ds).length = ds.length
  | [], _ => rfl
  | d :: r, n => congrArg (· + 1) (enumD_len r (n + 1))
section
variable {W : WX} {K : PySem.W.Frag} {te : TE} {de : DTE}
end

/-! ### zip of two lists, of two tuples -/
def zipD (xs ys : List D) : List D := List.zipWith (fun a b => .tup [a, b]) xs ys
theorem zipD_at {xs ys : List D} {i : Nat} {e : D} (h : (zipD xs ys)[i]? = some e) : ∃ a b, xs[i]? = some a ∧ ys[i]? = some b ∧ e = .tup [a, b] := by
  unfold zipD at h
  rw [List.getElem?_zipWith] at h
  cases qa : xs[i]? with
  | none => rw [qa] at h; cases h
  | some a =>
    cases qb : ys[i]? with
    | none => rw [qa, qb] at h; cases h
    | some b =>
      rw [qa, qb] at h
      cases h
      exact ⟨a, b, rfl, rfl, rfl⟩
theorem zipD_len {xs ys : List D} {i : Nat} (h : (zipD xs ys).length ≤ i) : xs.length ≤ i ∨ ys.length ≤ i := by
  unfold zipD at h
  rw [List.length_zipWith] at h
  omega
def dZip (dv : DTV) : DTI := fun env P X => dv env (fun ds env1 => match ds with
  | [.lst xs, .lst ys] => P (zipD xs ys) env1
  | [.tup xs, .tup ys] => P (zipD xs ys) env1
  | _ => False) X
section
variable {W : WX} {K : PySem.W.Frag} {ta : TA} {dv : DTV}
theorem sim_zip (ha : SimV W ta dv) : SimI W (RZ.iZipA K ta) (dZip dv) := by
  intro F H env σ A Q P X g h xo k
  refine ha F H env σ A _ _ X g h xo fun vs ds env1 F1 H1 A1 g1 s1 rl h1 => ?_
  match ds, h1, rl with
  | [.lst xs, .lst ys], h1, ⟨x, r, ex, ⟨a, us, ea, ha', ra⟩, ⟨y, r2, ey, ⟨b, ws, eb, hb', rb⟩, er⟩⟩ =>
    refine ⟨a, b, us, ws, by rw [ex, ey, show r2 = [] from er, ea, eb], .inl ⟨SqL.of (g1.sub _ _ ha'), SqL.of (g1.sub _ _ hb'), k _ (zipD xs ys) env1 F1 H1 A1 g1 s1 (fun F' H' i z1 z2 => ⟨fun d e => ?_, fun hl => ?_⟩) h1⟩⟩
    · obtain ⟨d1, d2, q1, q2, rfl⟩ := zipD_at e
      obtain ⟨x1, hx1, rx1⟩ := ra.get q1
      obtain ⟨x2, hx2, rx2⟩ := rb.get q2
      refine ⟨⟨us, ws, x1, x2, SqL.of (z2 _ _ (z1.ex rfl ha')), SqL.of (z2 _ _ (z1.ex rfl hb')), hx1, hx2⟩, fun v H'' ⟨T, x1', x2', ev, nT, eH, e1, e2⟩ => ?_⟩
      have t1 := e1 us (SqL.of (z2 _ _ (z1.ex rfl ha')))
      have t2 := e2 ws (SqL.of (z2 _ _ (z1.ex rfl hb')))
      rw [hx1] at t1
      rw [hx2] at t2
      cases t1
      cases t2
      have m := (ext_tup (xs := [x1, x2]) z2 nT).f.toH
      exact ⟨upd F' T (.tup [x1, x2]), by rw [eH]; exact ext_tup z2 nT, T, _, ev, upd_same, x1, [x2], rfl, (rx1.mono z1).mono m, x2, [], rfl, (rx2.mono z1).mono m, rfl⟩
    · exact ⟨us, ws, SqL.of (z2 _ _ (z1.ex rfl ha')), SqL.of (z2 _ _ (z1.ex rfl hb')), by rw [ra.length, rb.length]; exact zipD_len hl⟩
  | [.tup xs, .tup ys], h1, ⟨x, r, ex, ⟨a, us, ea, ha', ra⟩, ⟨y, r2, ey, ⟨b, ws, eb, hb', rb⟩, er⟩⟩ =>
    refine ⟨a, b, us, ws, by rw [ex, ey, show r2 = [] from er, ea, eb], .inr ⟨SqT.of (g1.sub _ _ ha'), SqT.of (g1.sub _ _ hb'), k _ (zipD xs ys) env1 F1 H1 A1 g1 s1 (fun F' H' i z1 z2 => ⟨fun d e => ?_, fun hl => ?_⟩) h1⟩⟩
    · obtain ⟨d1, d2, q1, q2, rfl⟩ := zipD_at e
      obtain ⟨x1, hx1, rx1⟩ := ra.get q1
      obtain ⟨x2, hx2, rx2⟩ := rb.get q2
      refine ⟨⟨us, ws, x1, x2, SqT.of (z2 _ _ (z1.ex rfl ha')), SqT.of (z2 _ _ (z1.ex rfl hb')), hx1, hx2⟩, fun v H'' ⟨T, x1', x2', ev, nT, eH, e1, e2⟩ => ?_⟩
      have t1 := e1 us (SqT.of (z2 _ _ (z1.ex rfl ha')))
      have t2 := e2 ws (SqT.of (z2 _ _ (z1.ex rfl hb')))
      rw [hx1] at t1
      rw [hx2] at t2
      cases t1
      cases t2
      have m := (ext_tup (xs := [x1, x2]) z2 nT).f.toH
      exact ⟨upd F' T (.tup [x1, x2]), by rw [eH]; exact ext_tup z2 nT, T, _, ev, upd_same, x1, [x2], rfl, (rx1.mono z1).mono m, x2, [], rfl, (rx2.mono z1).mono m, rfl⟩
    · exact ⟨us, ws, SqT.of (z2 _ _ (z1.ex rfl ha')), SqT.of (z2 _ _ (z1.ex rfl hb')), by rw [ra.length, rb.length]; exact zipD_len hl⟩
end

/-! ### name op= e, whole numbers -/
theorem aug_eq {i : Nat} {te : TE} {ti : TIp} : tAug i te ti = tAsg (tOp ti (tVar i) te) (gName i) := rfl
theorem simr_ip {f : Int → Int → Int} : SimR2 (ipI f) (dI0 fun i j => .int (f i j)) := by
  intro F H x y d e P Q s hx hy h q
  match d, e, hx, hy, h with
  | .int i, .int j, hx, hy, h => exact ⟨i, j, hx, hy, out_d s (d := .int (f i j)) rfl h q⟩
section
variable {W : WX} {te : TE} {de : DTE} {f : Int → Int → Int} {i : Nat}
def dAug (f : Int → Int → Int) (i : Nat) (de : DTE) : DTS := dAsg (dOp (dI0 fun i j => .int (f i j)) (dVar i) de) (dName i)
theorem sim_aug (he : SimE W te de) : SimS W (tAug i te (ipI f)) (dAug f i de) := by
  rw [aug_eq]
  exact sim_asg (sim_op simr_ip (SimP.e sim_var) he) sim_name
end

/-! ### dicts: {}, d[k], k in d, d.get; keys are numbers and texts, or tuples of these -/
def dDct0 (t : Bool) : DTE := fun env P _ => P (.o (.dct t [])) env
def D.keyS : D → Option Key
  | .int i => some (.inl i)
  | .str s => some (.inr s)
  | _ => none
def keysL : List D → Option (List Key)
  | [] => some []
  | d :: r => (match d.keyS with
    | some k => (match keysL r with
      | some ks => some (k :: ks)
      | none => none)
    | none => none)
/-- a key, in a dict of this kind -/
def D.key (t : Bool) (d : D) : Option (List Key) := match t with
  | false => d.keyS.map fun k => [k]
  | true => (match d with
    | .tup ds => keysL ds
    | _ => none)
section
variable {W : WX}
theorem sim_dctK : SimE W tDNewK (dDct0 false) := by
  intro F H env σ A Q P X g h xo k
  intro p np
  have x := ext_own (o := .dK []) g.sub np
  refine k (.ref p) (.o (.dct false [])) env _ _ A [p] (x.good g) x.step (.new g x (o := .dct false []) ⟨p, .dK [], [], [], rfl, rfl, upd_same, ⟨[], rfl, rfl⟩, rfl, rfl⟩ (List.nodup_cons.mpr ⟨List.not_mem_nil, List.nodup_nil⟩) fun a m => ?_) h
  rw [List.mem_singleton.mp m]
  exact g.sub.free np
end
open AutoSeq1 (wpAny_loadPart')
/-! ### enumerate(tuple) -/
theorem enum_newT (t : Addr) (items : Array Value) (n : Nat) (dd : Option Addr) (sl : Array (Option Value)) :
    Meets (Builtin.«enumerate.__new__» ⟨[.type "enumerate", .ref t], []⟩) (fun _ R s => s.heap.get? t = some { cls := .type "tuple", dict := dd, data := .seq items n, slots := sl } ∧
      R (.ok (.ret (.ref (s.heap.push { cls := .type "tuple_iterator", data := .fields #[.ref t, .int 0 0] }).objs.size)))
        { s with heap := (s.heap.push { cls := .type "tuple_iterator", data := .fields #[.ref t, .int 0 0] }).push { cls := .type "enumerate", data := .fields #[.none, .bool false, .ref s.heap.objs.size, rawInt 0, .none, .none] } }) :=
  .of_wp fun prog w A R s h => by
    obtain ⟨hp, g, d, tk, os⟩ := s
    obtain ⟨hl, h⟩ := h
    have hsub := sub_enumerate
    have hT : Heap.IsTuple (Shared.heap ⟨hp, g, d, tk, os⟩) t items := ⟨_, hl, rfl, n, rfl⟩
    wp_walk using wpAny_loadPart' hl
    refine wpAny_stack_any fun st => wpAny_pure ?_
    split
    · rename_i c _ _ _ _ _
      cases (c == Value.type "enumerate") <;>
      · wp_walk using wpAny_loadPart' hl, wpAny_pyIter_tuple hT
        exact ⟨_, rfl, h⟩
    · wp_walk using wpAny_loadPart' hl, wpAny_pyIter_tuple hT
      exact ⟨_, rfl, h⟩
section
variable {prog : Program} {w : World} {A : Around} {E : Value → Shared → Prop} {s : Shared}
theorem call_enumT {t : Addr} {items : Array Value} {Q : Value → Shared → Prop} (ht : s.heap.IsTuple t items)
    (q : ∀ h', IsEnum h' (s.heap.objs.size + 1) s.heap.objs.size 0 .none → h'.IsTupleIter s.heap.objs.size t 0 → h'.objs.size = s.heap.objs.size + 2 → (∀ b o, s.heap.get? b = some o → h'.get? b = some o) → Q (.ref (s.heap.objs.size + 1)) { s with heap := h' }) :
    wpAny (model prog w) A (call (.type "enumerate") [.ref t]) Q E s := by
  obtain ⟨⟨c, dct, dt, sl⟩, hl, hc, n, hd⟩ := ht
  simp only at hc hd
  subst hc hd
  refine callType_new F.called_enumerate (by decide) (F.typeCall_enumerate_1 _) (F.newCall_enumerate_1 _) (fun obj => F.args_object_init_2 obj _) F.entry_enumerate_new (enum_newT t items n dct sl) ⟨hl, ?_⟩
  generalize eh : s.heap.push { cls := .type "tuple_iterator", data := .fields #[.ref t, .int 0 0] } = h1
  have hz : h1.objs.size = s.heap.objs.size + 1 := by rw [← eh]; exact Heap.size_push ..
  have h0 : ∀ b o, s.heap.get? b = some o → h1.get? b = some o := fun b o x => by rw [← eh]; exact Heap.get?_push_of_some _ x
  have hi : h1.IsTupleIter s.heap.objs.size t 0 := by rw [← eh]; exact ⟨_, Heap.get?_push_size _ rfl, rfl, rfl⟩
  show _ ∧ _
  rw [hz]
  have he : IsEnum (h1.push { cls := .type "enumerate", data := .fields #[.none, .bool false, .ref s.heap.objs.size, rawInt 0, .none, .none] }) (s.heap.objs.size + 1) s.heap.objs.size 0 .none := by
    have := Heap.get?_push_size h1 (o := { cls := .type "enumerate", data := .fields #[.none, .bool false, .ref s.heap.objs.size, rawInt 0, .none, .none] }) rfl
    rw [hz] at this
    exact this
  exact ⟨⟨_, he, rfl⟩, q _ he (hi.at fun o e => Heap.get?_push_of_some _ e) (by rw [Heap.size_push, hz]) fun b o x => Heap.get?_push_of_some _ (h0 b o x)⟩
end
/-- the tuple at a, each item in a new pair -/
def IteT (K : PySem.W.Frag) (a : Addr) : It :=
  ⟨fun i H => ∃ (xs : List V) (x : V), SqT K H a xs ∧ xs[i]? = some x,
    fun i H v H' => ∃ T x, v = .ref T ∧ H T = none ∧ H' = upd H T (.tup [.int (i : Nat), x]) ∧ ∀ xs, SqT K H a xs → xs[i]? = some x,
    fun i H => ∃ xs : List V, SqT K H a xs ∧ xs.length ≤ i⟩
theorem turn_enumT {P : Program} {w : World} {K : PySem.W.Frag} {elts : List Expr} {kk : Nat} {tpos : Pos} (a e it : Addr) (hat : a ≠ it) (hae : e ≠ a) :
    Turn P w K (.Tuple elts kk tpos) (IteT K a) [e, it] e (fun i h => (∃ old, IsEnum h e it ((i : Nat) : Int) old) ∧ h.IsTupleIter it a i ∧ e ≠ it) where
  mem := by simp
  obj := fun i h st b hb => by
    obtain ⟨⟨old, he⟩, ⟨o, ho, hc, hd⟩, _⟩ := st
    have e' : b = e ∨ b = it := by simpa using hb
    rcases e' with z | z
    · rw [z]; exact ⟨_, he, fun v q => nomatch q⟩
    · rw [z]; exact ⟨o, ho, fun v q => by rw [hd] at q; cases q⟩
  keep := fun i h h' st k => let ⟨⟨old, he⟩, hi, hne⟩ := st; ⟨⟨old, k e (by simp) _ he⟩, hi.at fun o q => k it (by simp) o q, hne⟩
  item := by
    intro X hP hw hK hc i pins s σ H E I hf st hg
    subst hP hw hK
    obtain ⟨⟨old, he⟩, hit, hne⟩ := st
    obtain ⟨xs, x, hq, hx⟩ := hg
    obtain ⟨its, rv, p, hz⟩ := I.tuple hq
    obtain ⟨u, hu, ru⟩ := rv.get hx
    have hel : e < s.heap.objs.size := Heap.lt_size he
    have hil : it < s.heap.objs.size := by obtain ⟨_, q, _⟩ := hit; exact Heap.lt_size q
    have hlt : i < its.toArray.size := by
      have := (List.getElem?_eq_some_iff.mp hu).1
      simpa using this
    have D := Draws.tuple (prog := X.prog) (w := X.w) (A := X.A.in1) (show X.A.in1.handled = none from I.ok.hd hc) it a hat its.toArray
    refine wpAny_pyNext_enum_itemD D he ⟨hit, p⟩ hlt hne (by simp [hne, hae]) fun x0 h' tk hx0 ho hit' hT hsz hk => ?_
    have ex0 : x0 = u := by
      have : its.toArray[i]? = some x0 := hx0
      simp only [List.getElem?_toArray] at this
      rw [hu] at this
      exact (Option.some.inj this).symm
    subst ex0
    refine ⟨_, rfl, wpAny_letOwnedTupleGo_enum (s := { s with heap := h', toks := tk + 1 }) ho fun h'' he' sb => ?_⟩
    have hT2 : h''.get? s.heap.objs.size = some { cls := .type "tuple", data := .seq #[.int i tk, x0] } := (sb.2 _ (Nat.ne_of_gt hel)).trans hT
    have new : ObjOk X.prog X.w (upd H s.heap.objs.size (.tup [.int (i : Nat), x])) h'' s.heap.objs.size (.tup [.int (i : Nat), x]) :=
      ⟨by show 2 ≤ sizeLine; rw [PySem.sizeLine_eq]; decide, [.int i tk, x0], .cons ⟨_, rfl⟩ (.cons ru .nil), ⟨_, hT2, rfl, _, rfl⟩⟩
    have I1 : Inv X pins σ (upd H s.heap.objs.size (.tup [.int (i : Nat), x])) { s with heap := h'', toks := tk + 1 } :=
      I.turnedNew (ch := [e, it]) (fun b ob hb q => (sb.2 b (fun z => hb (by simp [z]))).trans (hk b ob (fun z => hb (by simp [z])) (fun z => hb (by simp [z])) q)) hf (Nat.le_refl _) new
    refine ⟨.ref s.heap.objs.size, _, I1, rfl, ⟨_, x, rfl, I.hok.fresh (Nat.le_refl _), rfl, fun ys hy => by rw [I.tuple_inj hy hq]; exact hx⟩, ⟨⟨x0, ?_⟩, hit'.1.at fun o q => (sb.2 it (Ne.symm hne)).trans q, hne⟩, fun b hb => ?_⟩
    · rw [show ((i + 1 : Nat) : Int) = (i : Int) + 1 by omega]; exact he'
    · have hb' : b < s.heap.objs.size := by
        rcases (by simpa using hb : b = e ∨ b = it) with z | z
        · rw [z]; exact hel
        · rw [z]; exact hil
      rw [upd_ne (Nat.ne_of_lt hb')]
      exact (hf b hb).1
  done := by
    intro X hP hw hK hc i pins s σ H E I hf st hg
    subst hP hw hK
    obtain ⟨⟨old, he⟩, hit, hne⟩ := st
    obtain ⟨xs, hq, hx⟩ := hg
    obtain ⟨its, rv, p, hz⟩ := I.tuple hq
    obtain ⟨f0, f1, f2, f3, f4, f5⟩ := hf it (by simp)
    have hl := rv.length
    have ty : s.TypeIs (.ref e) "enumerate" := ⟨_, he, rfl⟩
    have last : its.toArray[i]? = none := by simp; omega
    unfold pyNext
    have slot := F.slot_enumerate_next
    refine wpAny_bind (wpAny_attempt (wpAny_callSpecial?_slot (name := Str.ofString "__next__") ty slot (wpAny_call_entry slot ty F.entry_enumerate_next ?_ (F.args_enumerate_next_1 _))))
    show wpAny _ _ (field (.ref e) 2 >>= _) _ _ _
    refine wpAny_bind (wpAny_field he rfl (x := .ref it) rfl ?_)
    refine wpAny_bind (wpAny_nextOf_tuple_end (I.ok.hd hc) hit p last fun h' x eb hx' => ?_)
    obtain ⟨o, ho, hc'⟩ := hx'
    refine wpAny_bind (wpAny_isInstance (T := "StopIteration") (b := true) ⟨o, ho, hc'⟩ isSubtype_stop ?_)
    exact wpAny_pure ⟨rfl, I.turned (t' := s.toks) (fun b o hb q => eb b o hb q) f0 f1 f3 f4 f5⟩
  self := fun A i s Q E st h => let ⟨⟨_, he⟩, _⟩ := st; wpAny_pyIter_enum he h
/-- enumerate of a list or of a tuple -/
def iEnumA (K : PySem.W.Frag) (ta : TA) : TI := fun σ H R => ta σ H fun vs H1 => ∃ a xs, vs = [.ref a] ∧ ((SqL K H1 a xs ∧ R (Ite K a) H1) ∨ (SqT K H1 a xs ∧ R (IteT K a) H1))
theorem pi_enumA {X : Cx} {e : Expr} {ta : TA} {p pos tpos : Pos} {elts : List Expr} {kk : Nat} (hg : Gl X "enumerate") (hm : X.mg "enumerate" = none) (ha : PA X [e] ta) (hs : starEach [e] X.env = [(false, eval e X.env)] := by rfl) :
    PI X (.Tuple elts kk tpos) (.Call (.Name "enumerate" p) [e] [] pos) (iEnumA X.K ta) := by
  refine ⟨fun pins s σ H R I h => ?_⟩
  refine Call_ (ld_blt I hg hm boot_enumerate (PyProof.Rows.callWith_type1 (thn (ha.run pos pins s σ H _ I h) fun us s1 ⟨vs, H1, I1, r1, q1⟩ => ?_) hs rfl))
  obtain ⟨a, xs, ex, q⟩ := q1
  subst ex
  cases r1 with
  | cons r rr =>
    cases rr
    cases r
    have fresh : ∀ b ∈ [s1.heap.objs.size + 1, s1.heap.objs.size], s1.heap.objs.size ≤ b := fun b hb => by
      rcases (by simpa using hb : b = s1.heap.objs.size + 1 ∨ b = s1.heap.objs.size) with z | z <;> omega
    rcases q with ⟨hq, q⟩ | ⟨hq, q⟩
    · obtain ⟨its, rv, p', hz⟩ := I1.list hq
      refine call_enumerate_list p'.isList fun h' he hit hsz hk => wpAny_pyIter_enum he ?_
      have I2 : Inv X pins σ H1 { s1 with heap := h' } := I1.kept (t' := s1.toks) hk
      exact ⟨_, [s1.heap.objs.size + 1, s1.heap.objs.size], _, _, H1, rfl, I2, turn_enum a (s1.heap.objs.size + 1) s1.heap.objs.size, ⟨⟨.none, he⟩, hit, Nat.succ_ne_self _⟩, fun b hb => I1.fpOk (fresh b hb) (I1.hok.fresh (fresh b hb)), q⟩
    · obtain ⟨its, rv, p', hz⟩ := I1.tuple hq
      have la : a < s1.heap.objs.size := by obtain ⟨o, ho, _⟩ := p'; exact Heap.lt_size ho
      refine call_enumT p' fun h' he hit hsz hk => wpAny_pyIter_enum he ?_
      have I2 : Inv X pins σ H1 { s1 with heap := h' } := I1.kept (t' := s1.toks) hk
      exact ⟨_, [s1.heap.objs.size + 1, s1.heap.objs.size], _, _, H1, rfl, I2, turn_enumT a (s1.heap.objs.size + 1) s1.heap.objs.size (Nat.ne_of_lt la) (Ne.symm (Nat.ne_of_lt (Nat.lt_succ_of_lt la))), ⟨⟨.none, he⟩, hit, Nat.succ_ne_self _⟩, fun b hb => I1.fpOk (fresh b hb) (I1.hok.fresh (fresh b hb)), q⟩
def dEnumA (de : DTE) : DTI := fun env P X => de env (fun r env1 => force r env1 fun d env2 => match d with
  | .lst ds => P (enumD 0 ds) env2
  | .tup ds => P (enumD 0 ds) env2
  | _ => False) X
section
variable {W : WX} {K : PySem.W.Frag} {te : TE} {de : DTE}
theorem sim_enumA (he : SimE W te de) : SimI W (iEnumA K (tCons te tNil)) (dEnumA de) := by
  intro F H env σ A Q P X g h xo k
  refine he F H env σ A _ _ X g h xo fun x r env1 F1 H1 A1 C1 g1 s1 rr1 h1 => ?_
  obtain ⟨F2, A2, d, env2, h2, g2, s2, rp⟩ := force_ok g1 rr1 h1
  have pair : ∀ {F' H' : Hp} {i : Nat} {d0 : D} {x : V} {T : Addr}, Same F' H' → H' T = none → Rep F' d0 x → ∃ F'', Ext F' H' F'' (upd H' T (.tup [.int (i : Nat), x])) [] ∧ Rep F'' (.tup [.int ((0 + i : Nat) : Int), d0]) (.ref T) := fun {F' H' i d0 x T} z2 nT rx => by
    have m := (ext_tup (xs := [.int (i : Nat), x]) z2 nT).f.toH
    refine ⟨_, ext_tup z2 nT, T, _, rfl, upd_same, .int (i : Nat), [x], rfl, ?_, x, [], rfl, rx.mono m, rfl⟩
    show V.int (i : Nat) = V.int ((0 + i : Nat) : Int)
    rw [Nat.zero_add]
  cases d with
  | lst ds =>
    obtain ⟨a, xs, ex, hf, rl⟩ := rp
    refine ⟨a, xs, by rw [ex], .inl ⟨SqL.of (g2.sub _ _ hf), k _ (enumD 0 ds) env2 F2 H1 A2 g2 (s1.trans s2) (fun F' H' i z1 z2 => ⟨fun d e => ?_, fun hl => ⟨xs, SqL.of (z2 _ _ (z1.ex rfl hf)), by rw [rl.length]; rw [enumD_len] at hl; exact hl⟩⟩) h2⟩⟩
    rw [enumD_at] at e
    cases q : ds[i]? with
    | none => rw [q] at e; cases e
    | some d0 =>
      rw [q] at e
      cases e
      obtain ⟨x, hx, rx⟩ := rl.get q
      refine ⟨⟨xs, x, SqL.of (z2 _ _ (z1.ex rfl hf)), hx⟩, fun y H'' ⟨T, x', ey, nT, eH, e2⟩ => ?_⟩
      have := e2 xs (SqL.of (z2 _ _ (z1.ex rfl hf)))
      rw [hx] at this
      cases this
      rw [eH, ey]
      exact pair z2 nT (rx.mono z1)
  | tup ds =>
    obtain ⟨a, xs, ex, hf, rl⟩ := rp
    refine ⟨a, xs, by rw [ex], .inr ⟨SqT.of (g2.sub _ _ hf), k _ (enumD 0 ds) env2 F2 H1 A2 g2 (s1.trans s2) (fun F' H' i z1 z2 => ⟨fun d e => ?_, fun hl => ⟨xs, SqT.of (z2 _ _ (z1.ex rfl hf)), by rw [rl.length]; rw [enumD_len] at hl; exact hl⟩⟩) h2⟩⟩
    rw [enumD_at] at e
    cases q : ds[i]? with
    | none => rw [q] at e; cases e
    | some d0 =>
      rw [q] at e
      cases e
      obtain ⟨x, hx, rx⟩ := rl.get q
      refine ⟨⟨xs, x, SqT.of (z2 _ _ (z1.ex rfl hf)), hx⟩, fun y H'' ⟨T, x', ey, nT, eH, e2⟩ => ?_⟩
      have := e2 xs (SqT.of (z2 _ _ (z1.ex rfl hf)))
      rw [hx] at this
      cases this
      rw [eH, ey]
      exact pair z2 nT (rx.mono z1)
  | _ => exact h2.elim
end

open PySem PySem.SeqAt PySem.Spec PyProof.Rows L2
/-! ### != of tuples whose items are equal, in part by an own == -/
section
variable {prog : Program} {w : World} {A : Around} {R : Result → Shared → Prop}
end
section
variable {prog : Program} {w : World} {A : Around} {E : Value → Shared → Prop} {s : Shared}
end
section
variable {X : Cx} {n : Nat} {D : Eqv}
end

/-! ### slots that no one reads any more are forgotten -/
def killAt (j : Nat) (env : DEnv) : DEnv := match env[j]? with
  | some (.ow _) => env.set j .un
  | _ => env
def killD : List Nat → DEnv → DEnv
  | [], env => env
  | j :: js, env => killD js (killAt j env)
theorem Good.killAt {F H : Hp} {env : DEnv} {σ : L2.St} {A : List Addr} (g : Good F H env σ A) (j : Nat) : ∃ A', Good F H (Fv.killAt j env) σ A' ∧ Step F H env σ A F H (Fv.killAt j env) σ A' := by
  unfold Fv.killAt
  cases e : env[j]? with
  | none => exact ⟨A, g, .refl⟩
  | some s =>
    cases s with
    | un => exact ⟨A, g, .refl⟩
    | bo o => exact ⟨A, g, .refl⟩
    | ow o =>
      obtain ⟨v, B, R, h1, h2, h3, h4⟩ := g.rep.out e
      have mR : ∀ a ∈ R, a ∈ A := fun a m => h3.mem_iff.mpr (List.mem_append_right _ m)
      have nd : (B ++ R).Nodup := h3.nodup_iff.mp g.nd
      refine ⟨R, ⟨g.sub, h4, nodup_r nd, fun a m => g.dis a (mR a m)⟩, .refl _, fun _ _ h _ _ _ => h, fun _ h => h, fun a m => .inl (mR a m), fun _ h => .inl h, fun i u h => ⟨u, ?_, rfl⟩⟩
      have ne : j ≠ i := fun z => by subst z; rw [e] at h; cases h
      rw [List.getElem?_set_ne ne]
      exact h
theorem Good.killD {F H : Hp} {σ : L2.St} : ∀ (js : List Nat) {env : DEnv} {A : List Addr}, Good F H env σ A → ∃ A', Good F H (Fv.killD js env) σ A' ∧ Step F H env σ A F H (Fv.killD js env) σ A'
  | [], _, A, g => ⟨A, g, .refl⟩
  | j :: js, env, A, g => by
    obtain ⟨A1, g1, s1⟩ := g.killAt j
    obtain ⟨A2, g2, s2⟩ := Good.killD js g1
    exact ⟨A2, g2, s1.trans s2⟩
def dPost (js : List Nat) (d : DTS) : DTS := fun DD env => d { DD with nx := fun e => DD.nx (killD js e) } env
def dKill (js : List Nat) (d : DTS) : DTS := fun DD env => d DD (killD js env)
def dIterK (js : List Nat) (di : DTI) : DTI := fun env P X => di env (fun ds env1 => P ds (killD js env1)) X
section
variable {W : WX} {t : TS} {d : DTS} {js : List Nat}
theorem sim_post (h : SimS W t d) : SimS W t (dPost js d) := by
  intro F H env σ A E DD g hd eo
  refine h F H env σ A E _ g hd ⟨fun e σ' F' H' A' g' s' q => ?_, eo.bk, eo.ct, eo.rt, eo.ex⟩
  obtain ⟨A2, g2, s2⟩ := g'.killD js
  exact eo.nx _ σ' F' H' A2 g2 (s'.trans s2) q
theorem sim_kill (h : SimS W t d) : SimS W t (dKill js d) := by
  intro F H env σ A E DD g hd eo
  obtain ⟨A2, g2, s2⟩ := g.killD js
  exact h F H _ σ A2 E DD g2 hd (eo.step s2)
theorem sim_iterK {wi : TI} {di : DTI} (h : SimI W wi di) : SimI W wi (dIterK js di) := by
  intro F H env σ A Q P X g hd xo k
  refine h F H env σ A Q _ X g hd xo fun J ds env1 F1 H1 A1 g1 s1 io h1 => ?_
  obtain ⟨A2, g2, s2⟩ := g1.killD js
  exact k J ds _ F1 H1 A2 g2 (s1.trans s2) io h1
end
section
variable {env : DEnv} {s s2 : DTS} {DD : DEnds} {js : List Nat} {ds : List D}
theorem a_post (h : s { DD with nx := fun e => DD.nx (killD js e) } env) : dPost js s DD env := h
theorem a_kill (h : s DD (killD js env)) : dKill js s DD env := h
theorem a_iterK {di : DTI} {PI : List D → DEnv → Prop} {X : DX} (h : di env (fun ds env1 => PI ds (killD js env1)) X) : dIterK js di env PI X := h
end

/-! ### == and != by an own __eq__ -/
theorem Good.lk {F H : Hp} {env : DEnv} {σ : L2.St} {A : List Addr} {a : Addr} {u : HO} (g : Good F H env σ A) (ha : F a = some u) (iu : isDct u = true) (od : Obj) :
    Good (upd F a (.frz od u)) (upd H a (.frz od u)) env σ A ∧ Step F H env σ A (upd F a (.frz od u)) (upd H a (.frz od u)) env σ A := by
  have sm : Sm F (upd F a (.frz od u)) := ⟨fun b o h => by
    by_cases e : b = a
    · subst e
      rw [ha] at h
      cases h
      exact ⟨_, upd_same, .inr (.inl ⟨od, iu, rfl⟩)⟩
    · exact ⟨o, by rw [upd_ne e]; exact h, .inl rfl⟩, fun b ps h => by
    by_cases e : b = a
    · rw [e, upd_same] at h
      cases h
    · rw [upd_ne e] at h
      exact ⟨ps, h⟩⟩
  have ne : ∀ b, F b = none → b ≠ a := fun b h e => by rw [e, ha] at h; cases h
  refine ⟨⟨fun b o h => ?_, g.rep.stay ⟨sm, fun b m o h => by rw [upd_ne (ne b (g.dis b m))]; exact h⟩, g.nd, fun b m => by rw [upd_ne (ne b (g.dis b m))]; exact g.dis b m⟩, sm, fun b o h _ _ f => by rw [upd_ne (ne b f)]; exact h, fun b h => upd_free h, fun b m => .inl m, fun b h => .inl ?_, fun _ _ h => ⟨_, h, rfl⟩⟩
  · by_cases e : b = a
    · rw [e, upd_same] at h ⊢; exact h
    · rw [upd_ne e] at h ⊢; exact g.sub b o h
  · by_cases e : b = a
    · rw [e, ha]; exact Option.some_ne_none _
    · rw [upd_ne e] at h; exact h
section
variable {W : WX} {te : TE} {de : DTE}
end

end Fv
namespace L2
open PySem PySem.Spec PyProof.Rows

section
variable {X : Cx} {nm n : Str} {c : Value} {i : Nat} {body suite : List Stmt} {s0 : Stmt} {np pos pos' : Pos} {tb : WX → TS} {ts : Addr → Value → Option Addr → TS} {more : List ExceptHandler}
end
end L2
namespace Fv
open PySem PySem.Spec PyProof.Rows L2

open PySem PySem.SeqAt PySem.Spec PyProof.Rows L2
open PySem PySem.SeqAt PySem.Spec PyProof.Rows L2
/-! ### == of two pairs: the first ones equal by an own ==, the second ones data -/
section
variable {prog : Program} {w : World} {A : Around} {R : Result → Shared → Prop}
end
section
variable {prog : Program} {w : World} {A : Around} {E : Value → Shared → Prop} {s : Shared}
end
/-- == inside a tuple tells b, and only makes objects -/
def EqB (X : Cx) (n : Nat) (T : V → V → Bool → Hp → Prop) : Prop :=
  ∀ (A : Around) (pins : List (Addr × Obj)) (s : Shared) (σ : L2.St) (H : Hp) (x y : V) (u v : Value) (b : Bool), Sub X n A → Inv X pins σ H s → RelV x u → RelV y v → T x y b H →
    wpAny (model X.prog X.w) A (eqBool u v) (fun r s' => r = b ∧ ∃ H', Inv X pins σ H' s' ∧ L2.Ext H H') X.xe s
def MonB (T : V → V → Bool → Hp → Prop) : Prop := ∀ x y b H H', L2.Ext H H' → T x y b H → T x y b H'
section
variable {X : Cx} {n : Nat} {D : Eqv} {T T' : V → V → Bool → Hp → Prop}
theorem EqB.or (h : EqB X n T) (h' : EqB X n T') : EqB X n (fun x y b H => T x y b H ∨ T' x y b H) := fun A pins s σ H x y u v b sb I rx ry d => by
  rcases d with d | d
  · exact h A pins s σ H x y u v b sb I rx ry d
  · exact h' A pins s σ H x y u v b sb I rx ry d
theorem MonB.or (h : MonB T) (h' : MonB T') : MonB (fun x y b H => T x y b H ∨ T' x y b H) := fun x y b H H' e d => d.elim (fun d => .inl (h x y b H H' e d)) fun d => .inr (h' x y b H H' e d)
end
/-! ### dict comprehensions, keys of both kinds -/
section
variable {X : Cx} {pins : List (Addr × Obj)} {σ : L2.St} {H : Hp} {s : Shared} {a : Addr} {y v : V} {u r : Value} {A : Around} {E : Value → Shared → Prop}
end
section
variable {X : Cx} {pins : List (Addr × Obj)} {s : Shared} {σ : L2.St} {H : Hp} {Q : VK} {kx vx tg iter : Expr} {ifs : List Expr} {scope : Scope} {own : List (Str × Nat)} {pos pos' : Pos} {wi : TI} {g : TG} {tt : TT} {tk tv : TE} {use : Option (Value → Sem Unit)} {Qf : Value → Shared → Prop} {b : Bool}
end

section
variable {X : Cx} {o : Expr} {p pos apos mpos : Pos} {td : TE}
end
section
variable {X : Cx}
end

end Fv
namespace HR
open PySem PySem.Spec PyProof.Rows HT
section
variable {prog : Program} {w : World} {A : Around} {E : Value → Shared → Prop} {s : Shared}
end
end HR
namespace Fv
open PySem PySem.Spec PyProof.Rows L2

/-! ### {k: v}, one pair, k a number or a text -/
def dDisp1 (dk dv : DTE) : DTE := fun env P X => dk env (fun q env1 => force q env1 fun e env2 => dv env2 (fun q2 env3 => force q2 env3 fun z env4 => oth e.keyS fun k => P (.o (.dct false [([k], .fr z)])) env4) X) X
theorem keyS_kV {F : Hp} {e : D} {x : V} {k : Key} (h : Rep F e x) (ek : e.keyS = some k) : x = kV k := by
  cases e with
  | int i => cases ek; exact h
  | str s => cases ek; exact h
  | _ => cases ek
theorem sim_disp1 {W : WX} {tk tv : TE} {dk dv : DTE} (hk : SimE W tk dk) (hv : SimE W tv dv) : SimE W (tDisp [(tk, tv)]) (dDisp1 dk dv) := by
  intro F H env σ A Q P X g h xo k
  intro p np
  have x := ext_own (o := .dK []) g.sub np
  have x0 : Fv.Ext F H F (upd H p (.dK [])) [] := x.noC fun _ h => nomatch h
  have s0 : Step F H env σ A F (upd H p (.dK [])) env σ A := by
    have := x0.step (env := env) (σ := σ) (A := A)
    rw [List.append_nil] at this
    exact this
  refine hk _ _ env σ A _ _ X (x.good g) h (xo.step s0) fun y r1 env1 F1 H1 A1 C1 g1 s1 r1' h1 => ?_
  obtain ⟨F2, A2, e, env2, h2, g2, s2, p2⟩ := force_ok g1 r1' h1
  have s02 := s0.trans (s1.trans s2)
  refine hv F2 H1 env2 σ A2 _ _ X g2 h2 (xo.step s02) fun w r3 env3 F3 H3 A3 C3 g3 s3 r3' h3 => ?_
  obtain ⟨F4, A4, z, env4, h4, g4, s4, p4⟩ := force_ok g3 r3' h3
  obtain ⟨key, ek, h5⟩ := oth_ok h4
  have s14 := (s1.trans s2).trans (s3.trans s4)
  have nF : F p = none := g.sub.free np
  have nA : p ∉ A := fun m => g.rep.there p m np
  have at3 : H3 p = some (.dK []) := s14.keep p _ upd_same rfl nA nF
  have nA4 : p ∉ A4 := fun m => (s14.anew p m).elim nA fun q => by rw [upd_same] at q; cases q
  have nF4 : F4 p = none := by
    cases q : F4 p with
    | none => rfl
    | some o =>
      rcases s14.fnew p (by rw [q]; exact fun z => nomatch z) with z | z | z
      · exact absurd nF z
      · exact absurd z nA
      · rw [upd_same] at z; cases z
  obtain rfl := keyS_kV p2 ek
  refine ⟨at3, [(key, w)], rfl, by show 1 ≤ 15; decide, ?_⟩
  show Q (.ref p) (upd H3 p (.dK [(key, w)]))
  have g5 : Good F4 (upd H3 p (.dK [(key, w)])) env4 σ A4 := ⟨same_own g4.sub nF4, g4.rep.stay ⟨.refl _, fun z m o e => by rw [upd_ne (fun q => nA4 (by rw [← q]; exact m))]; exact e⟩, g4.nd, g4.dis⟩
  have st := s0.trans s14
  refine k (.ref p) (.o (.dct false [([key], .fr z)])) env4 F4 _ A4 [p] g5 ⟨st.f, fun a o h nt n f => ?_, fun a q => st.free a (upd_free q), fun a m => ?_, st.fnew, st.bor⟩ ⟨⟨p, _, [([key], w)], [], rfl, rfl, upd_same, ⟨[(key, w)], rfl, rfl⟩, w, [], [], [], rfl, rfl, ⟨rfl, p4⟩, rfl, rfl⟩, ?_, fun a m => ?_⟩ h5
  · rw [upd_ne (fun q => by subst q; rw [np] at h; cases h)]
    exact st.keep a o h nt n f
  · rcases List.mem_append.mp m with m | m
    · exact st.anew a m
    · rw [List.mem_singleton.mp m]; exact .inr np
  · refine List.nodup_append.mpr ⟨g4.nd, List.nodup_cons.mpr ⟨List.not_mem_nil, List.nodup_nil⟩, fun a ha b hb e => ?_⟩
    subst e
    rw [List.mem_singleton.mp hb] at ha
    exact nA4 ha
  · rw [List.mem_singleton.mp m]; exact nF4
end Fv
namespace HR
open PySem PySem.Spec PyProof.Rows L2
abbrev noneYet (w : World) : Obj := { cls := .type "set", dict := none, data := .set #[] 0 (.fresh 0 0 (!w.params.followText "set-order")) }
section
variable {P : Program} {w : World} {A : Around} {E : Value → Shared → Prop} {s : Shared}
theorem set_list {l : Addr} {its : Array Value} (ks : List Int) {Q : Value → Shared → Prop} (calm : A.handled = none) (isL : s.heap.IsList l its) (ints_ : IntsAre its.toList ks) (small : ks.length + 1 < scanBound)
    (fin : ∀ (hp : Heap) (tk c : Nat), SetR w hp s.heap.objs.size (fun j => decide (j ∈ ks)) c → c ≤ ks.length → (∀ b o, s.heap.get? b = some o → hp.get? b = some o) → Q (.ref s.heap.objs.size) { s with heap := hp, toks := tk }) :
    wpAny (model P w) A (call (.type "set") [.ref l]) Q E s := by
  have size : its.size = ks.length := by
    have := IntsAre.length ints_
    simpa using this
  obtain ⟨c0, tl, mro⟩ := F.called_set.mro
  have made := F.called_set.made
  have sub := F.called_set.sub
  refine wpAny_call (codeAny_of_tree ?_)
  show wpAny _ _ (callAny (.type "set") _) _ _ _
  refine wpAny_pure ⟨Code.quiet_builtin _ (by decide +kernel), codeAny_builtin F.entry_type_call ?_⟩
  rw [Around.under_plain (weight_type_call_type "set" [.ref l] []) rfl]
  have f1 := F.called_set.notType
  have f2 := F.called_set.canCreate
  have f3 := F.typeCall_set_1 (.ref l)
  repeat (any_goals (first | assumption | wp_step))
  refine codeAny_mono (code_set_led1 (.ref l) (E := E) (Q₁ := fun made sh => made = .ref s.heap.objs.size ∧ sh = { s with heap := s.heap.push (noneYet w) }) ⟨rfl, rfl⟩) fun r sh got => ?_
  cases r with
  | error e => exact got
  | ok fl =>
    cases fl with
    | ret made =>
      obtain ⟨rfl, rfl⟩ := got
      have at0 : (s.heap.push (noneYet w)).get? s.heap.objs.size = some (noneYet w) := Heap.get?_push_size _ rfl
      have ty0 : Shared.TypeIs { s with heap := s.heap.push (noneYet w) } (.ref s.heap.objs.size) "set" := ⟨_, at0, rfl⟩
      have f4 := F.called_set.init.lookup
      have f5 := F.called_set.init.bind (.ref s.heap.objs.size)
      repeat (any_goals (first | assumption | wp_step))
      refine codeAny_mono (codeAny_call_builtin (R := wants (fun r sh => r = .none ∧ ∃ hp tk c, sh = { s with heap := hp, toks := tk } ∧ SetR w hp s.heap.objs.size (fun j => decide (j ∈ ks)) c ∧ c ≤ ks.length ∧ (∀ b o, s.heap.get? b = some o → hp.get? b = some o)) E)
        F.called_set.init.plain F.entry_set_init (check_set_init_1 ty0 ?_)) fun r2 sh2 got2 => ?_
      · obtain ⟨⟨oc, od, odt, osl⟩, hol, hcl, nl, hdl⟩ := isL
        simp only at hcl hdl
        subst hcl hdl
        have hol' : (s.heap.push (noneYet w)).get? l = some { cls := .type "list", dict := od, data := .seq its nl, slots := osl } := Heap.get?_push_of_some _ hol
        have g1 := F.sub_list_set
        have g2 := F.sub_list_frozenset
        have g3 : (Value.type "list" == Value.type "dict") = false := by decide
        have isL1 : (s.heap.push (noneYet w)).IsList l its := ⟨_, hol', rfl, nl, rfl⟩
        unfold Builtin.«set.__init__» noKeywords Builtin.Frozenset.updateFrom
        generalize gPI : pyIter = PI
        wp_walk
        subst gPI
        refine wpAny_pyIter_list isL1 ?_
        refine wpAny_bind (wpAny_runValue ?_)
        have lower : l < s.heap.objs.size := Heap.lt_size hol
        have calm3 : A.in1.in1.in1.handled = none := by simp [calm]
        have sz : (s.heap.push (noneYet w)).objs.size = s.heap.objs.size + 1 := Heap.size_push ..
        have neI : l ≠ (s.heap.push (noneYet w)).objs.size := by rw [sz]; exact Nat.ne_of_lt (Nat.lt_succ_of_lt lower)
        have out : s.heap.objs.size ∉ [(s.heap.push (noneYet w)).objs.size, l] := by
          rw [sz]
          simp only [List.mem_cons, List.not_mem_nil, or_false, not_or]
          exact ⟨Nat.ne_of_lt (Nat.lt_succ_self _), Nat.ne_of_gt lower⟩
        have each : ∀ (i : Nat) (v : Value), its[i]? = some v → ∃ k t, ks[i]? = some k ∧ v = .int k t := fun i v hv => by
          have hi : i < ks.length := by rw [← size]; exact (Array.getElem?_eq_some_iff.mp hv).1
          obtain ⟨t, e⟩ := PyProof.Rows.IntsAre.int_at ints_ i v (by rw [Array.getElem?_toList]; exact hv)
          exact ⟨ks[i], t, List.getElem?_eq_getElem hi, by rw [e, List.getD_eq_getElem?_getD, List.getElem?_eq_getElem hi] <;> rfl⟩
        refine set_update_ints ((Walks.list calm3 _ l neI its).toS) s.heap.objs.size out ks size small each (its.size - 0) 0 _ (by omega) (Nat.zero_le _) ⟨⟨_, Heap.get?_push_size _ rfl, rfl, rfl⟩, (isL1.push _)⟩ ?first ?last
        case first =>
          exact ⟨0, Nat.le_refl 0, setR_new_at (Heap.get?_push_of_some _ at0)⟩
        case last =>
          intro sh c moved le0 isS
          obtain ⟨hp, g, d, tk, os⟩ := sh
          have eg : g = s.gens := moved.gens
          have ed : d = s.drawn := moved.drawn
          have eo : os = s.os := moved.os
          subst eg ed eo
          show wpAny _ _ _ _ _ _
          refine wpAny_pure ?_
          show wpAny _ _ (ret Value.none) _ _ _
          refine wpAny_pure ⟨rfl, hp, tk, c, rfl, isS, by omega, fun b o e => ?_⟩
          have lb : b < s.heap.objs.size := Heap.lt_size e
          refine moved.heap b o ?_ (Heap.get?_push_of_some _ (Heap.get?_push_of_some _ e))
          simp only [List.mem_cons, List.not_mem_nil, or_false, not_or]
          rw [sz]
          exact ⟨Nat.ne_of_lt lb, Nat.ne_of_lt (Nat.lt_succ_of_lt lb)⟩
      · cases r2 with
        | error e => exact got2
        | ok fl2 =>
          cases fl2 with
          | ret r =>
            obtain ⟨rfl, hp, tk, c, rfl, isS, le0, kept⟩ := got2
            repeat (any_goals (first | assumption | wp_step))
            exact fin _ _ _ isS le0 kept
          | _ => exact got2.elim
    | _ => exact got.elim
end
end HR
namespace Fv
open PySem PySem.Spec PyProof.Rows L2

section
variable {X : Cx}
end
/-! ### whole numbers: i << j, name *= e -/
def xShl : R2 := rI CPow fun i j => .int (i * 2 ^ j.toNat)
abbrev dShl := dI2 CPow fun i j => .int (i * 2 ^ j.toNat)
theorem op_shlI {X : Cx} : OpR X (binaryOp .LShift) xShl := op_shl
theorem simr_shl : SimR2 xShl dShl := by
  intro F H x y d e P Q s hx hy h q
  match d, e, hx, hy, h with
  | .int i, .int j, hx, hy, h => exact ⟨i, j, hx, hy, h.1, out_d s (d := .int _) rfl h.2 q⟩
end Fv
namespace HR
open PySem PySem.Spec PyProof.Rows L2
open PySem.W SrtO
section
variable {P : Program} {w : World} {A : Around} {E : Value → Shared → Prop} {s : Shared} {a : Addr}
end
end HR
namespace Fv
open PySem PySem.Spec PyProof.Rows L2

end Fv
/-! ### max(xs), xs a list of tuples of whole numbers -/
namespace Fv
open PySem PySem.Spec PyProof.Rows L2
section
variable {X : Cx}
end
section
variable {X : Cx}
end
end Fv
/-! ### for a, b in d, d a dict by pairs -/
namespace Fv
open PySem PySem.Spec PyProof.Rows L2
def in1 (env : DEnv) (v u : Nat) (d : D) : DEnv := (wipeD env [v, u]).set v (.ow (.fr d))
theorem Good.in {F H : Hp} {env : DEnv} {σ : L2.St} {A : List Addr} {d : D} {x : V} (g : Good F H env σ A) (vs : List Nat) (i : Nat) (hi : i < env.length) (hr : Rep F d x) :
    ∃ A', Good F H ((wipeD env vs).set i (.ow (.fr d))) ((L2.wipe σ vs).set i (some x)) A' := by
  obtain ⟨A1, g1, _⟩ := g.wipe vs
  have hl : i < (wipeD env vs).length := by rw [wipeD_len]; exact hi
  obtain ⟨A2, g2, _⟩ := g1.setS (C := []) (o := .fr d) (x := x) ⟨⟨rfl, hr⟩, by rw [List.append_nil]; exact g1.nd, fun _ h => nomatch h⟩ (List.getElem?_eq_getElem hl)
  exact ⟨A2, g2⟩
structure LcI (F1 H1 : Hp) (env : DEnv) (σ : L2.St) (A : List Addr) (D0 : Addr) (F H : Hp) (acc : List Bool) : Prop where
  g : Good F H env σ A
  s : Step F1 H1 env σ A F H env σ (A ++ [D0])
  h : H D0 = some (.lst (acc.map V.bl))
  nA : D0 ∉ A
  nF : F D0 = none
section
variable {F1 H1 F H F' H' : Hp} {env : DEnv} {σ : L2.St} {A : List Addr} {D0 : Addr} {acc : List Bool}
theorem LcI.ext {C : List Addr} (i : LcI F1 H1 env σ A D0 F H acc) (e : Ext F H F' H' C) : LcI F1 H1 env σ A D0 F' H' acc where
  g := e.good i.g
  s := i.s.trans ((((e.noC (C' := []) fun _ h => nomatch h).step (env := env) (σ := σ) (A := A ++ [D0]))).mem fun a m => by rw [List.append_nil]; exact m)
  h := e.hx _ _ i.h rfl i.nF
  nA := i.nA
  nF := by
    cases q : F' D0 with
    | none => rfl
    | some o =>
      rcases e.fnew D0 (by rw [q]; exact Option.some_ne_none _) with z | z
      · exact absurd i.nF z
      · rw [i.h] at z; cases z
end
def rIsN (K : PySem.W.Frag) (cls : Value) (d : Option Addr) (a : Addr) : List V → Hp → VK → Prop := fun xs H Q => ∃ D : Addr, cls = .ref D ∧ d = none ∧ XCls K D ∧ rIsE K D a xs H Q
theorem call_isN {X : Cx} {a : Addr} {oe : Obj} {cls : Value} {d : Option Addr} {pn : List (Addr × Obj)} (hz : Zc cls d oe) (hf : ∃ vs, oe.data = .fields vs) : CallR (X.suite a ((a, oe) :: pn)) (.builtin "isinstance") (rIsN X.K cls d a) := by
  intro pins s σ H xs us Q I r h
  obtain ⟨D, ec, ed, hx, h⟩ := h
  subst ec
  subst ed
  exact call_isE ⟨hx.ga, hx.gt, hx.be, hx.hd, hx.ha, hx.hn, hx.ht, hx.hm⟩ hz hf pins s σ H xs us Q I r h
end Fv
namespace ZlR
open PySem
open PySem.Sem (wp)
section
variable {prog : Program} {w : World} {A : Around} {E : Value → Shared → Prop} {s : Shared}
end
section
variable {prog : Program} {w : World} {A : Around} {R : Result → Shared → Prop}
end
section
variable {prog : Program} {w : World} {A : Around} {E : Value → Shared → Prop} {s : Shared}
end
end ZlR
namespace Fv
open PySem PySem.Spec PyProof.Rows L2

/-- a number of at most some thousands of bits -/
def Bd (i : Int) : Prop := ∃ k, k ≤ 8000 ∧ i.natAbs < 2 ^ k
theorem Bd.log {i : Int} (h : Bd i) : i.natAbs.log2 < 8001 := by
  obtain ⟨k, hk, hi⟩ := h
  by_cases e : i.natAbs = 0
  · rw [e]; decide
  · exact Nat.lt_of_lt_of_le ((Nat.log2_lt e).mpr hi) (by omega)
theorem Bd.bits {i : Int} (h : Bd i) : Builtin.Int.intBits i ≤ 8001 := by
  unfold Builtin.Int.intBits
  have := h.log
  split <;> omega
def CMulB (i j : Int) : Prop := Bd i ∧ Bd j
def CDivB (_ j : Int) : Prop := j ≠ 0 ∧ Bd j
theorem CMulB.ok {i j : Int} (h : CMulB i j) : IntMulOk i j := by
  have h1 := h.1.bits
  have h2 := h.2.bits
  have h3 : Builtin.Int.intTooBig ((Builtin.Int.intBits i : Int) + Builtin.Int.intBits j) = false := by
    unfold Builtin.Int.intTooBig
    refine decide_eq_false ?_
    unfold bitsLine
    omega
  unfold IntMulOk
  have h3' : Builtin.Int.intTooBig (Builtin.Int.intBits i + Builtin.Int.intBits j) = false := by exact_mod_cast h3
  rw [h3', Bool.and_false]
  exact Bool.false_ne_true
def xMulB : R2 := rI CMulB fun i j => .int (i * j)
def xDivB : R2 := rI CDivB fun i j => .int (i.fdiv j)
def xAndI : R2 := rI0 fun i j => .int (Builtin.bitAnd i j)
def xShrI : R2 := rI (fun _ j => 0 ≤ j) fun i j => .int (i / 2 ^ j.toNat)
abbrev dMulB := dI2 CMulB fun i j => .int (i * j)
abbrev dDivB := dI2 CDivB fun i j => .int (i.fdiv j)
abbrev dAndI := dI0 fun i j => .int (Builtin.bitAnd i j)
abbrev dShrI := dI2 (fun _ j => 0 ≤ j) fun i j => .int (i / 2 ^ j.toNat)
theorem op_mulB {X : Cx} : OpR X (binaryOp .Mult) xMulB := opI fun _ _ _ _ _ _ _ hc q => mul_int q hc.ok
theorem op_divB {X : Cx} : OpR X (binaryOp .FloorDiv) xDivB := opI fun _ _ _ _ _ _ _ hc q => floordiv_int hc.1 q (.inl (PyProof.noPylong_of_log2 (Nat.lt_of_lt_of_le hc.2.log (by decide))))
theorem op_andI {X : Cx} : OpR X (binaryOp .BitAnd) xAndI := op_and
theorem op_shrI {X : Cx} : OpR X (binaryOp .RShift) xShrI := op_shr
theorem simr_mulB : SimR2 xMulB dMulB := simr_I fun _ _ _ => rfl
theorem simr_divB : SimR2 xDivB dDivB := simr_I fun _ _ _ => rfl
theorem simr_andI : SimR2 xAndI dAndI := simr_I0 fun _ _ _ => rfl
theorem simr_shrI : SimR2 xShrI dShrI := simr_I fun _ _ _ => rfl

section
variable {prog : Program} {w : World} {A : Around} {E : Value → Shared → Prop} {s : Shared}
end
section
variable {X : Cx}
end
/-! ### errors whose context is None -/
section
variable {X : Cx}
theorem pmk_own0N {C : Addr} {bmB : List Value} {B newId initId : String} {x : Str} {p pos : Pos} (F : ExcBaseFacts B newId initId bmB) (q : PySem.W.excIn X.K C bmB newId = true) (gC : X.mg x = some (.ref C)) (kC : PySem.W.keepIn X.K (.ref C) = true) (r : Raises X (.ref C)) (hg : Gl X x)
    (hdb : (x == ("__debug__" : Str)) = false := by decide) : L2N.PMk X (.Call (.Name x p) [] [] pos) (fun _ H Q => Q (.ref C) none H) := by
  intro pins s σ H Q I want
  refine wpAny_Call_Name_kw (ld_glob I hg gC ?_ hdb)
  refine PySem.W.callWith_K0 I.kIn kC ?_
  show wpAny _ _ (call (.ref C) []) _ _ _
  obtain ⟨bm, N, nm, qn, bs, hdct, sn, sub, ab, col, dd, k0, k1, k2, k3, k5, mN, hC, hN, hni, T⟩ := exc_obj I.kIn q
  obtain ⟨hp1, g1, d1, tk1, os1⟩ := s
  refine wpAny_call_exc_subT F T hC hN hni (fun h' e made => ?_) (Nat.zero_le _)
  exact L2N.mk_of I made r want (I.hok.gone made.new)
theorem passN {X : Cx} : Passes (L2N.CX X.prog X.w) X E0 := fun _ _ _ _ _ _ _ h => by
  obtain ⟨_, _, _, _, _, _, _, _, _, _, _, _, z⟩ := h
  exact z.elim
theorem takes0N {X : Cx} : L2N.Takes X (fun _ _ _ _ => False) := fun _ _ x => by
  obtain ⟨_, _, _, _, _, _, _, _, _, _, _, _, _, _, _, _, z⟩ := x
  exact z.elim
theorem takes_lenN {W : WX} (t : L2N.Takes X W) : L2N.Takes X fun c d σ H => σ.length = X.N.length → W c d σ H := fun u s' ⟨a, B, sI, pins, σ, H, cls, d, e, I, nb, up, sky, na, os, ag, w⟩ =>
  t u s' ⟨a, B, sI, pins, σ, H, cls, d, e, I, nb, up, sky, na, os, ag, w I.len⟩
variable {P : Program} {w : World} {K : PySem.W.Frag} {mg : Str → Option Value} {base : Heap}
/-- a def that may raise, its errors without a context -/
theorem okN {x qual : Str} {st : Stmt} {f : Addr} {fd : FuncData} {N ps : List Str} {k : Nat} {sp : Sp} (F : Fun K x qual st f fd) (S : FnScope N ps (defScope st)) (len : ∀ vs H Q E, sp vs H Q E → vs.length = ps.length)
    (body : ∀ (cdv : Value) (A : Around) (outer : List Env) (s : Shared) (H : Hp) (vs : List V) (Q : VK) (E : XK), Room k (A.deeper (envOfC qual (defScope st) s.heap.objs.size f cdv)) → sp vs H Q E →
      ∃ t, PSs (cxOf (L2N.CX P w) P w K mg base N qual (defScope st) f cdv A outer s H E) (defBody st) t ∧ t { nx := fun _ H' => Q .non H', rt := Q } (L2.start N vs) H) : FnOk P w K mg base (L2N.CX P w) (k + 1) f fd ps sp := by
  obtain ⟨oc, od, kV, doc, pm, an, cdv, ct, osl, rfl, lk, hcd⟩ := F.ex
  exact fn_of lk hcd S len fun A outer s H vs Q E hr hsp => body cdv A outer s H vs Q E hr hsp
end
/-! ### a lambda handed to a def that calls it within a try -/
/-- the context of the lambda's body -/
def lamCxN (X : Cx) (A : Around) (outer : List Env) (s : Shared) (H : Hp) (E : XK) (sc : Scope) (f d : Addr) : Cx :=
  (LamX.lamCx X A outer s H E sc f d).tr [] fun e s' => wpAny (model X.prog X.w) (A.deeper (LamX.lamEnv X sc s.heap.objs.size f d)) (leaving (LamX.lamEnv X sc s.heap.objs.size f d) e) (fun _ s2 => L2N.CX X.prog X.w outer H s E e s2) (fun e' s2 => L2N.CX X.prog X.w outer H s E e' s2) s'
section
variable {X : Cx} {pins : List (Addr × Obj)} {σ : L2.St} {H : Hp} {s : Shared}
/-- x() in the def that got the lambda -/
theorem pe_actN {CXg : CXT} {Eg : XK} {Ng : List Str} {qg : Str} {sg : Scope} {g f d : Addr} {cdg pm ct : Value} {pa : Arguments} {bo : Expr} {sc : Scope} {k i : Nat} {a : Str} {pn : List (Addr × Obj)} {xe : Value → Shared → Prop} {W : WX} {E : XK} {tb : TE} {p1 p2 : Pos}
    (I : Inv X pins σ H s) (L : LamX.LamS X.env.scope sc) (hf : s.heap.get? f = some (PySem.W.kla_obj "<lambda>" (X.env.qual ++ "<lambda>") pa bo sc (cloFrom X.env.cells sc.names []) pm d ct)) (fF : H f = none) (fS : f ∉ frs X.stack)
    (hb : bindArgs (PySem.W.kla_fn "<lambda>" (X.env.qual ++ "<lambda>") pa bo sc (cloFrom X.env.cells sc.names []) pm (.ref d) ct) ⟨[], []⟩ = pure [])
    (tk : L2N.Takes ((cxOf CXg X.prog X.w X.K X.mg X.base Ng qg sg g cdg X.A X.stack s H Eg).tr pn xe) W) (toW : ∀ cls dd τ G, E cls dd G → W cls dd τ G) (hr : Room (k + 1) (X.A.deeper (envOfC qg sg s.heap.objs.size g cdg)))
    (body : ∀ (A : Around) (outer : List Env) (s : Shared) (H : Hp), Room k (A.deeper (LamX.lamEnv X sc s.heap.objs.size f d)) → PE (lamCxN X A outer s H E sc f d) bo tb)
    (hN : Ng[i]? = some a) (hv : Vis sg a) (hdb : (a == ("__debug__" : Str)) = false := by decide) (hcd : (a == ("__classdict__" : Str)) = false := by decide) :
    PE ((cxOf CXg X.prog X.w X.K X.mg X.base Ng qg sg g cdg X.A X.stack s H Eg).tr pn xe) (.Call (.Name a p1) [] [] p2)
      (fun τ G Q => τ[i]? = some (some (.ref f)) ∧ G d = some (LamX.CodeO d (X.env.qual ++ "<lambda>")) ∧ tb σ G Q) := by
  refine ⟨fun pinsZ sZ τ G Q IZ want => ?_⟩
  obtain ⟨at_, co, go⟩ := want
  refine wpAny_Call_Name_kw (thn ((pe_var (pos := p1) (i := i) hN hv hdb hcd).run pinsZ sZ τ G (fun v G1 => v = .ref f ∧ G1 = G) IZ ⟨.ref f, at_, rfl, rfl⟩) fun u s1 ⟨v, G1, I1, r1, ev, eG⟩ => ?_)
  subst ev
  rw [eG] at I1
  obtain rfl : u = Value.ref f := r1
  have there : s1.heap.get? f = some (PySem.W.kla_obj "<lambda>" (X.env.qual ++ "<lambda>") pa bo sc (cloFrom X.env.cells sc.names []) pm d ct) := I1.base.keep f _ hf fF fS (fun z => nomatch (show f ∈ ([] : List Addr) from z))
  refine PySem.W.callWith_F0 ⟨_, _, _, _, there⟩ ?_
  have since : Un (frs X.stack) [] H G s.heap s1.heap := I1.base
  obtain ⟨⟨oc, vs, t, gc, dc, vc⟩, _, _⟩ := I1.hok d _ co
  have ran : codeAny (model X.prog X.w) (X.A.deeper (envOfC qg sg s.heap.objs.size g cdg)) (.call (.ref f) ⟨[], []⟩) (CR (L2N.CX X.prog X.w) (envOfC qg sg s.heap.objs.size g cdg :: X.stack) X.prog X.w G s1 Q E) s1 := by
    refine PySem.W.kla_callFunE hr.depth there rfl L.co L.gen rfl ⟨d, oc, vs, t, rfl, gc, dc, vc⟩ ?_
    rw [hb]
    refine wpAny_pure (wpAny_newFunctionEnv (fun y hy => (L.own y hy).2) (fun y hy => absurd hy (by simp)) (fun h1 ns sb => ⟨I1.nolimit.fresh _ sb, ?_⟩) L.kind)
    show codeAny _ _ (.expr bo (LamX.lamEnv X sc s1.heap.objs.size f d)) _ _
    have keep : ∀ b o, s1.heap.get? b = some o → h1.get? b = some o := fun b o e => sb.extBut b o (Nat.ne_of_lt (Heap.lt_size e)) (Heap.get?_push_of_some _ e)
    have J0 : Inv (LamX.lamCx X (X.A.deeper (envOfC qg sg s.heap.objs.size g cdg)) (envOfC qg sg s.heap.objs.size g cdg :: X.stack) s1 G E sc f d) [] σ G { s1 with heap := h1, toks := s1.toks + ([] : List (Str × Value)).length } :=
      LamX.lam_start2 I L I1.env0 hr.hd since ns keep
    have J : Inv (lamCxN X (X.A.deeper (envOfC qg sg s.heap.objs.size g cdg)) (envOfC qg sg s.heap.objs.size g cdg :: X.stack) s1 G E sc f d) [] σ G { s1 with heap := h1, toks := s1.toks + ([] : List (Str × Value)).length } := J0.toTry _
    refine PySem.W.kla_codeExpr (wpAny_mono ((body _ _ s1 G (hr.deeper _)).run [] _ _ G Q J go) (fun v s' hq => ?_) fun e s' hq => hq)
    obtain ⟨w', H', J', rv, q⟩ := hq
    exact ⟨w', H', J'.os, J'.bare, J'.base, J'.hok, rv, q⟩
  have px : Passes (L2N.CX X.prog X.w) ((cxOf CXg X.prog X.w X.K X.mg X.base Ng qg sg g cdg X.A X.stack s H Eg).tr pn xe) E := L2N.passes_call tk toW
  refine wpAny_call (codeAny_mono ran fun r s' hq => ?_)
  cases r with
  | error e => exact px pinsZ τ G s1 e s' I1 hq
  | ok fl =>
    cases fl with
    | ret u => exact I1.after hq
    | _ => exact False.elim hq
end
/-- the def that calls what it got; TT: what it makes of the lambda's reading -/
def GivesN (X : Cx) (Ng : List Str) (x : Str) (sg : Scope) (g : Addr) (cdg : Value) (bg : List Stmt) (a : Str) (q : Str) (TT : (XK → Hp → VK → Prop) → Hp → VK → Prop) : Prop :=
  ∀ (f d : Addr) (s : Shared) (H : Hp) (Q : VK) (tl : XK → Hp → VK → Prop),
    (∀ (W : WX) (pn : List (Addr × Obj)) (xe : Value → Shared → Prop) (E : XK) (p1 p2 : Pos), L2N.Takes ((cxOf CX0 X.prog X.w X.K X.mg X.base Ng x sg g cdg X.A X.stack s H E0).tr pn xe) W → (∀ cls dd τ G, E cls dd G → W cls dd τ G) →
      PE ((cxOf CX0 X.prog X.w X.K X.mg X.base Ng x sg g cdg X.A X.stack s H E0).tr pn xe) (.Call (.Name a p1) [] [] p2) (fun τ G Q => τ[0]? = some (some (.ref f)) ∧ G d = some (LamX.CodeO d q) ∧ tl E G Q)) →
    H d = some (LamX.CodeO d q) → TT tl H Q →
    ∃ t, PSs (cxOf CX0 X.prog X.w X.K X.mg X.base Ng x sg g cdg X.A X.stack s H E0).nox bg t ∧ t { nx := fun _ H' => Q .non H', rt := Q } (L2.start Ng [.ref f]) H

/-- what the making of a lambda does: nothing, or one table of T grows by one new code object -/
def LamExt (T : List (Addr × Str)) (H H1 : Hp) : Prop := H1 = H ∨ ∃ (P d : Addr) (q : Str) (ps more : Array Value), (P, q) ∈ T ∧ (∀ p ∈ T, p.1 = P → p.2 = q) ∧ H P = some (.tbl ps) ∧ H d = none ∧ TriplesOk (ps ++ more).toList ∧
  (∀ (at_ : Pos) (u : Value), codeAmong at_ (ps ++ more).toList = some u → codeAmong at_ ps.toList = some u ∨ u = .ref d) ∧ H1 = upd (upd H P (.tbl (ps ++ more))) d (LamX.CodeO d q)
section
variable {X : Cx} {pins : List (Addr × Obj)} {σ : L2.St} {H : Hp} {s : Shared}
abbrev lamN (X : Cx) : Str := X.env.qual ++ "<lambda>"
abbrev lamO (X : Cx) (pa : Arguments) (bo : Expr) (sc : Scope) (pm : Value) (d : Addr) (ct : Value) : Obj := PySem.W.kla_obj "<lambda>" (lamN X) pa bo sc (cloFrom X.env.cells sc.names []) pm d ct
/-- the lambda made, and what it did -/
theorem lam_mk {T : List (Addr × Str)} {c P : Addr} {pa : Arguments} {bo : Expr} {sc : Scope} {at_ : Pos} {E Q : Value → Shared → Prop}
    (I : Inv X pins σ H s) (tb : LamX.TabB X.base X.mg c P) (ec : X.env.code = .ref c) (m : (P, lamN X) ∈ T) (hu : ∀ p ∈ T, p.1 = P → p.2 = lamN X) (ts : LamX.Tabs T H)
    (nd : defaultsOf pa X.env = ([], [])) (hf : ∀ y ∈ sc.names, y.2 = .free → ∃ k, X.env.cells.lookup y.1 = some k)
    (go : ∀ (f d : Addr) (pm ct : Value) (H1 : Hp) (s1 : Shared), Inv X pins σ H1 s1 → LamExt T H H1 → s1.heap.get? f = some (lamO X pa bo sc pm d ct) → H1 f = none → f ∉ frs X.stack →
      H1 d = some (LamX.CodeO d (lamN X)) → Q (.ref f) s1) :
    wpAny (model X.prog X.w) X.A (eval (.Lambda pa bo sc at_) X.env) Q E s := by
  obtain ⟨ps, tP, tr, tc⟩ := ts _ m
  have inT : s.heap.get? P = some { cls := .none, data := .fields ps } := I.hok P _ tP
  have bi := tb.bm.keeps I.bk
  have off : ∀ f, s.heap.objs.size ≤ f → f ∉ frs X.stack := by
    intro f le mem
    rcases List.mem_cons.mp (I.stkSub _ mem) with rfl | mem
    · exact absurd I.lt (Nat.not_lt.mpr le)
    · exact I.nofs le mem
  apply PySem.W.kla_eval nd
  cases hit : codeAmong at_ ps.toList with
  | some u =>
    obtain ⟨d, rfl, hd⟩ := tc at_ u hit
    apply PySem.W.kla_makeFunctionHit (mg := X.mg) (c := c) (P := P) (ps := ps) (closure_ok hf) I.ok.glob (I.mod.glob.keeps I.bk) ec (tb.code.keeps I.bk) inT tr hit bi
    intro ct hp tk ext le
    have J := I.kept (t' := tk) (h' := hp.push (lamO X pa bo sc ((X.mg "__name__").getD .none) d ct)) fun b o e => Heap.get?_push_of_some _ (ext b o e)
    exact go hp.objs.size d _ ct H _ J (.inl rfl) (Heap.get?_push_size _ rfl) (I.hok.fresh le) (off _ le) hd
  | none =>
    apply PySem.W.kla_makeFunction (mg := X.mg) (c := c) (P := P) (ps := ps) (closure_ok hf) I.ok.glob (I.mod.glob.keeps I.bk) ec (tb.code.keeps I.bk) inT tr hit tb.gP bi
    intro d ct hp tk ext ge lt rec tab
    obtain ⟨d1, oc, vs, t, ed, oa, od, ov⟩ := rec
    cases ed
    have le : s.heap.objs.size ≤ hp.objs.size := Nat.le_trans ge (Nat.le_of_lt lt)
    have nd2 : H d = none := I.hok.fresh ge
    have J := LamX.inv_table (t' := tk) (more := #[rawInt at_.line, rawInt at_.col, .ref d]) (h' := hp.push (lamO X pa bo sc ((X.mg "__name__").getD .none) d ct)) I tP
      (fun b o hb e => Heap.get?_push_of_some _ (ext b o hb e)) (Heap.get?_push_of_some _ tab) ge ⟨oc, vs, t, Heap.get?_push_of_some _ oa, od, ov⟩
    have lst : (ps ++ #[rawInt at_.line, rawInt at_.col, .ref d]).toList = ps.toList ++ [rawInt at_.line, rawInt at_.col, .ref d] := by simp
    refine go hp.objs.size d _ ct _ _ J (.inr ⟨P, d, _, ps, _, m, hu, tP, nd2, ?_, fun p u e => ?_, rfl⟩) (Heap.get?_push_size _ rfl) ?_ (off _ le) upd_same
    · rw [lst]
      exact PySem.TriplesOk_snoc _ _ _ _ tr
    · rw [lst] at e
      exact LamX.among_app _ tr e
    · have n1 : hp.objs.size ≠ d := Nat.ne_of_gt lt
      have n2 : hp.objs.size ≠ P := Nat.ne_of_gt (Nat.lt_of_lt_of_le (Heap.lt_size inT) le)
      rw [upd_ne n1, upd_ne n2]
      exact I.hok.fresh le
end
def tLamX (T : List (Addr × Str)) (TT : (XK → Hp → VK → Prop) → Hp → VK → Prop) (t : XK → TE) : TE := fun σ H Q => LamX.Tabs T H ∧ ∀ H1, LamExt T H H1 → TT (fun E H' Q' => t E σ H' Q') H1 Q
section
variable {X : Cx}
/-- x(lambda: e) -/
theorem pe_lamX {T : List (Addr × Str)} {TT : (XK → Hp → VK → Prop) → Hp → VK → Prop} {x a : Str} {g c P : Addr} {k : Nat} {pg : Arguments} {bg : List Stmt} {sg : Scope} {dV kV doc pm cdv ct oc : Value}
    {an od : Option Addr} {osl : Array (Option Value)} {Ng : List Str} {pa : Arguments} {bo : Expr} {sc : Scope} {t : XK → TE} {p lpos pos : Pos}
    (hg : Gl X x) (hm : X.mg x = some (.ref g)) (hk : PySem.W.keepIn X.K (.ref g) = true)
    (lk : X.K.lookup g = some ⟨oc, od, .func (PySem.W.fnOf x x pg bg sg dV kV doc pm an cdv ct), osl⟩) (hcg : PySem.W.codeIn X.K cdv x = true)
    (hb : L2.Binds X.K (PySem.W.fnOf x x pg bg sg dV kV doc pm an cdv ct) [a] []) (Sg : FnScope Ng [a] sg) (hNg : Ng[0]? = some a) (hva : Vis sg a)
    (hG : GivesN X Ng x sg g cdv bg a (lamN X) TT) (tb : LamX.TabB X.base X.mg c P) (ec : X.env.code = .ref c) (m : (P, lamN X) ∈ T) (hu : ∀ p ∈ T, p.1 = P → p.2 = lamN X)
    (hr : Room (k + 2) X.A) (L : LamX.LamS X.env.scope sc) (nd : defaultsOf pa X.env = ([], []))
    (hbind : ∀ (q : Str) (cl : List (Str × Addr)) (pm cv ctv : Value), bindArgs (PySem.W.kla_fn "<lambda>" q pa bo sc cl pm cv ctv) ⟨[], []⟩ = pure [])
    (hbody : ∀ (A : Around) (outer : List Env) (s : Shared) (H : Hp) (E : XK) (f d : Addr), Room k (A.deeper (LamX.lamEnv X sc s.heap.objs.size f d)) → PE (lamCxN X A outer s H E sc f d) bo (t E))
    (hdb : (x == ("__debug__" : Str)) = false := by decide) (hd : (a == ("__debug__" : Str)) = false := by decide) (hcd : (a == ("__classdict__" : Str)) = false := by decide) :
    PE X (.Call (.Name x p) [.Lambda pa bo sc lpos] [] pos) (tLamX T TT t) := by
  refine ⟨fun pins s σ H Q I h => ?_⟩
  obtain ⟨ts, go⟩ := h
  apply wpAny_Call_Name_kw
  apply ld_glob I hg hm _ hdb
  apply PySem.W.callWith_K (h₀ := X.base) I.ok.mod.kin hk _ (by rfl) (by rfl)
  show wpAny _ _ (spliced ((false, eval (.Lambda pa bo sc lpos) X.env) :: backTo pos (starEach [] X.env))) _ _ s
  apply Calls.spliced_cons
  refine lam_mk I tb ec m hu ts nd (L.has I.ok) fun f d pm' ctv H1 s1 I1 ex hf hfn hfr hco => ?_
  refine Calls.spliced_nil ⟨I1.kIn, ?_⟩
  have run : codeAny (model X.prog X.w) X.A (.call (.ref g) ⟨[.ref f], []⟩) (CR CX0 X.stack X.prog X.w H1 s1 Q E0) s1 := by
    apply LamX.run_ofS (N := Ng) (ps := [a]) (us := [.ref f]) (vs := [.ref f]) lk hcg Sg hr I1.env0 (hb s1 [.ref f] I1.kIn rfl) (.cons rfl .nil) rfl
    intro hr'
    obtain ⟨t', ht', hq'⟩ := hG f d s1 H1 Q (fun E H' Q' => t E σ H' Q')
      (fun W pn xe E p1 p2 tk hW => pe_actN (i := 0) I1 L hf hfn hfr (hbind _ _ _ _ _) tk hW hr' (fun A outer s H hr2 => hbody A outer s H E f d hr2) hNg hva hd hcd) hco (go H1 ex)
    exact ⟨t', ht'.nox, hq'⟩
  refine wpAny_call (codeAny_mono run fun r s2 hq => ?_)
  cases r with
  | error e => exact (show False from hq).elim
  | ok fl => cases fl with
    | ret u => exact I1.after hq
    | _ => exact False.elim hq
/-- the same, out of what is known of the def x -/
theorem pe_lamF {T : List (Addr × Str)} {TT : (XK → Hp → VK → Prop) → Hp → VK → Prop} {x a : Str} {g c P : Addr} {k : Nat} {st : Stmt} {fd : FuncData} {Ng : List Str} {pa : Arguments} {bo : Expr} {sc : Scope} {t : XK → TE} {p lpos pos : Pos}
    (hg : Gl X x) (hm : X.mg x = some (.ref g)) (F : Fun X.K x x st g fd) (b : L2.Binds X.K fd [a] []) (Sg : FnScope Ng [a] (defScope st)) (hNg : Ng[0]? = some a) (hva : Vis (defScope st) a)
    (hG : ∀ cdv, GivesN X Ng x (defScope st) g cdv (defBody st) a (lamN X) TT) (tb : LamX.TabB X.base X.mg c P) (ec : X.env.code = .ref c) (m : (P, lamN X) ∈ T) (hu : ∀ p ∈ T, p.1 = P → p.2 = lamN X)
    (hr : Room (k + 2) X.A) (L : LamX.LamS X.env.scope sc) (nd : defaultsOf pa X.env = ([], []))
    (hbind : ∀ (q : Str) (cl : List (Str × Addr)) (pm cv ctv : Value), bindArgs (PySem.W.kla_fn "<lambda>" q pa bo sc cl pm cv ctv) ⟨[], []⟩ = pure [])
    (hbody : ∀ (A : Around) (outer : List Env) (s : Shared) (H : Hp) (E : XK) (f d : Addr), Room k (A.deeper (LamX.lamEnv X sc s.heap.objs.size f d)) → PE (lamCxN X A outer s H E sc f d) bo (t E))
    (hdb : (x == ("__debug__" : Str)) = false := by decide) (hd : (a == ("__debug__" : Str)) = false := by decide) (hcd : (a == ("__classdict__" : Str)) = false := by decide) :
    PE X (.Call (.Name x p) [.Lambda pa bo sc lpos] [] pos) (tLamX T TT t) := by
  obtain ⟨oc, od, kV, doc, pm, an, cdv, ct, osl, rfl, lk, hcd2⟩ := F.ex
  exact pe_lamX hg hm F.kp lk hcd2 b Sg hNg hva (hG cdv) tb ec m hu hr L nd hbind hbody hdb hd hcd
end
theorem hd_of {K : PySem.W.Frag} {c P : Addr} {od : Option Addr} {vs : Array Value} {sl : Array (Option Value)} (h : K.lookup c = some ⟨.type "code", od, .fields vs, sl⟩)
    (e : PySem.W.codeHdIn [(c, ⟨.type "code", od, .fields vs, sl⟩)] c P = true) : PySem.W.codeHdIn K c P = true := by
  unfold PySem.W.codeHdIn at e ⊢
  rw [h]
  rw [show List.lookup c [(c, (⟨.type "code", od, .fields vs, sl⟩ : Obj))] = some ⟨.type "code", od, .fields vs, sl⟩ by simp [List.lookup]] at e
  exact e
/-- a def of the text whose code object is known -/
structure FunC (K : PySem.W.Frag) (x qual : Str) (st : Stmt) (f : Addr) (fd : FuncData) (c : Addr) : Prop where
  ex : ∃ (oc : Value) (od : Option Addr) (kV doc pm : Value) (an : Option Addr) (ct : Value) (osl : Array (Option Value)),
    fd = PySem.W.fnOf x qual (defArgs st) (defBody st) (defScope st) .none kV doc pm an (.ref c) ct ∧ K.lookup f = some ⟨oc, od, .func fd, osl⟩ ∧ PySem.W.codeIn K (.ref c) qual = true
section
variable {P : Program} {w : World} {K : PySem.W.Frag} {mg : Str → Option Value} {base : Heap}
theorem FunC.ok {x qual : Str} {st : Stmt} {f c : Addr} {fd : FuncData} {N ps : List Str} {k : Nat} {sp : Sp} (F : FunC K x qual st f fd c) (S : FnScope N ps (defScope st)) (len : ∀ vs H Q E, sp vs H Q E → vs.length = ps.length)
    (hbody : ∀ (A : Around) (outer : List Env) (s : Shared) (H : Hp) (vs : List V) (Q : VK) (E : XK), Room k (A.deeper (envOfC qual (defScope st) s.heap.objs.size f (.ref c))) → sp vs H Q E →
      ∃ t, PSs (cxOf CX0 P w K mg base N qual (defScope st) f (.ref c) A outer s H E).nox (defBody st) t ∧ t { nx := fun _ H' => Q .non H', rt := Q } (L2.start N vs) H) : FnOk P w K mg base CX0 (k + 1) f fd ps sp := by
  obtain ⟨oc, od, kV, doc, pm, an, ct, osl, rfl, lk, hcd⟩ := F.ex
  refine fn_of lk hcd S len fun A outer s H vs Q E hr hsp => ?_
  obtain ⟨t, h, q⟩ := hbody A outer s H vs Q E hr hsp
  exact ⟨t, h.nox, q⟩
end
section
variable {F H H1 : Hp} {env : DEnv} {σ : L2.St} {A : List Addr}
theorem lam_good (g : Good F H env σ A) (x : LamExt tabT H H1) : ∃ F1, Good F1 H1 env σ A ∧ Step F H env σ A F1 H1 env σ A := by
  rcases x with rfl | ⟨P, d, q, ps, more, m, hu, tP, nd, tr, ha, rfl⟩
  · exact ⟨F, g, .refl⟩
  obtain ⟨ps', fP, tr0, fc⟩ := g.rep.tab.1 _ m
  have e0 := g.sub _ _ fP
  rw [tP] at e0
  cases e0
  have nPd : P ≠ d := ne_of_none tP nd
  have fd : F d = none := g.sub.free nd
  have at1 : ∀ b, b ≠ P → b ≠ d → upd (upd F P (.tbl (ps ++ more))) d (LamX.CodeO d q) b = F b := fun b h1 h2 => by rw [upd_ne h2, upd_ne h1]
  have at2 : ∀ b, b ≠ P → b ≠ d → upd (upd H P (.tbl (ps ++ more))) d (LamX.CodeO d q) b = H b := fun b h1 h2 => by rw [upd_ne h2, upd_ne h1]
  have atP : upd (upd F P (.tbl (ps ++ more))) d (LamX.CodeO d q) P = some (.tbl (ps ++ more)) := by rw [upd_ne nPd, upd_same]
  have atP2 : upd (upd H P (.tbl (ps ++ more))) d (LamX.CodeO d q) P = some (.tbl (ps ++ more)) := by rw [upd_ne nPd, upd_same]
  have same : Same (upd (upd F P (.tbl (ps ++ more))) d (LamX.CodeO d q)) (upd (upd H P (.tbl (ps ++ more))) d (LamX.CodeO d q)) := fun b o h => by
    by_cases h2 : b = d
    · subst h2; rw [upd_same] at h ⊢; exact h
    · by_cases h1 : b = P
      · subst h1; rw [atP] at h; rw [atP2]; exact h
      · rw [at1 b h1 h2] at h; rw [at2 b h1 h2]; exact g.sub b o h
  have old : ∀ b o, F b = some o → b ≠ P → upd (upd F P (.tbl (ps ++ more))) d (LamX.CodeO d q) b = some o := fun b o h h1 => by
    rw [at1 b h1 (fun z => by rw [z, fd] at h; cases h)]; exact h
  have sm : Sm F (upd (upd F P (.tbl (ps ++ more))) d (LamX.CodeO d q)) := ⟨fun a o h => by
    by_cases h1 : a = P
    · subst h1
      rw [fP] at h
      cases h
      refine ⟨_, atP, .inr (.inr ⟨rfl, rfl, fun q' m' t' => ?_⟩)⟩
      have eq : q' = q := hu (a, q') m' rfl
      subst eq
      refine ⟨_, atP, tr, fun pos cv hc => ?_⟩
      rcases ha pos cv hc with z | z
      · obtain ⟨cc, e1, e2⟩ := fc pos cv z
        refine ⟨cc, e1, old cc _ e2 fun w => ?_⟩
        rw [w, fP] at e2
        have := congrArg (Option.map isTbl) e2
        cases this
      · exact ⟨d, z, upd_same⟩
    · exact ⟨o, old a o h h1, .inl rfl⟩, fun a pz h => by
    by_cases h2 : a = d
    · subst h2; rw [upd_same] at h; have := congrArg (Option.map isTbl) h; cases this
    · by_cases h1 : a = P
      · exact ⟨ps, by rw [h1]; exact fP⟩
      · rw [at1 a h1 h2] at h; exact ⟨pz, h⟩⟩
  have kd := g.rep.kind
  have offA : ∀ a ∈ A, a ≠ P ∧ a ≠ d := fun a ma => by
    obtain ⟨u, hu, hk⟩ := kd a ma
    refine ⟨fun z => ?_, fun z => ?_⟩
    · rw [z, tP] at hu; cases hu; cases hk
    · rw [z, nd] at hu; cases hu
  refine ⟨_, ⟨same, g.rep.stay ⟨sm, fun a ma o h => by rw [at2 a (offA a ma).1 (offA a ma).2]; exact h⟩, g.nd, fun a ma => by rw [at1 a (offA a ma).1 (offA a ma).2]; exact g.dis a ma⟩, sm, fun a o h nt _ f => ?_, fun a h => ?_, fun a ma => .inl ma, fun a h => ?_, fun _ _ h => ⟨_, h, rfl⟩⟩
  · rw [at2 a (fun z => by rw [z, fP] at f; cases f) (fun z => by rw [z, nd] at h; cases h)]; exact h
  · by_cases h2 : a = d
    · rw [h2]; exact nd
    · by_cases h1 : a = P
      · rw [h1, atP2] at h; cases h
      · rw [at2 a h1 h2] at h; exact h
  · by_cases h2 : a = d
    · exact .inr (.inr (by rw [h2]; exact nd))
    · by_cases h1 : a = P
      · exact .inl (by rw [h1, fP]; exact Option.some_ne_none _)
      · rw [at1 a h1 h2] at h; exact .inl h
theorem same_good {G : Hp} (g : Good F H env σ A) (s : Same H G) : Good F G env σ A ∧ Step F H env σ A F G env σ A :=
  ⟨⟨g.sub.trans s, g.rep.stay ⟨.refl _, fun a ma o h => s a o h⟩, g.nd, g.dis⟩, ⟨.refl _, fun a o h _ _ _ => s a o h, fun a h => s.free h, fun a m => .inl m, fun a h => .inl h, fun _ _ h => ⟨_, h, rfl⟩⟩⟩
end
/-! ### the data readings, step by step -/
theorem frL_map (ds : List D) : frL (ds.map .fr) = some ds := by
  induction ds with
  | nil => rfl
  | cons d r ih =>
    show (match frL (r.map .fr) with
      | some ds => some (d :: ds)
      | none => none) = _
    rw [ih]
theorem frzL_map (ds : List D) : O.frzL (ds.map .fr) = ds := by
  induction ds with
  | nil => rfl
  | cons d r ih =>
    show d :: O.frzL (r.map .fr) = _
    rw [ih]
/-- a list of data that is owned -/
abbrev oL (ds : List D) : O := .lst (ds.map .fr)
theorem oL_flat (ds : List D) : (oL ds).flat = some (.lst ds) := by
  show (match frL (ds.map .fr) with
    | some ds => some (D.lst ds)
    | none => none) = _
  rw [frL_map]
theorem oL_frz (ds : List D) : (oL ds).frz = .lst ds := by
  show D.lst (O.frzL (ds.map .fr)) = _
  rw [frzL_map]
section
variable {P : R → DEnv → Prop} {PB : Bool → DEnv → Prop} {PL : List R → DEnv → Prop} {PD : List D → DEnv → Prop} {X : DX} {env : DEnv} {i j : Nat} {path : List PSt} {DD : DEnds} {K : O → Prop} {KB : Bool → Prop} {KR : R → Prop} {KD : D → DEnv → Prop} {KO : O → DEnv → Prop} {KI : Int → Prop} {Kd : D → Prop}
  {a b c3 : DTE} {t u : DTT} {s s2 : DTS} {d e : D} {ds es : List D} {o : O} {os : List O} {n m : Int} {dr dr' : D → D → (O → Prop) → Prop} {f : Fn} {ta : DTA} {tv : DTV}
theorem a_seq (h : s { DD with nx := fun e => s2 DD e } env) : dSeq s s2 DD env := h
theorem a_next (h : DD.nx env) : dNext DD env := h
theorem a_break (h : DD.bk env) : dBreak DD env := h
theorem a_cont (h : DD.ct env) : dCont DD env := h
theorem a_ifs (h : t env (fun c env1 => if c = true then s DD env1 else s2 DD env1) DD.ex) : dIfS t s s2 DD env := h
theorem a_drop (h : a env (fun _ env1 => DD.nx env1) DD.ex) : dDrop a DD env := h
theorem a_retN (h : DD.rt (.fr .non) env) : dRetN DD env := h
theorem a_ret (h : a env (fun r env1 => retO r env1 DD.rt) DD.ex) : dRet a DD env := h
theorem a_asg {g : DG} (h : a env (fun r env1 => toO r env1 fun o env2 => g o env2 DD.nx DD.ex) DD.ex) : dAsg a g DD env := h
theorem a_retO (h : KO o env) : retO (.o o) env KO := h
theorem a_retP (h : env[i]? = some (.ow o)) (q : KO o (env.set i .un)) : retO (.p i []) env KO := by
  show (match env[i]? with
    | some (.ow o) => KO o (env.set i .un)
    | _ => False)
  rw [h]
  exact q
theorem a_toO (h : KO o env) : toO (.o o) env KO := h
theorem a_forceD (h : KD d env) : force (.d d) env KD := h
theorem a_forceN (h : KD (.lst ds) env) : force (.o (oL ds)) env KD := by
  show KD (oL ds).frz env
  rw [oL_frz]
  exact h
theorem a_forceL (h : env[i]? = some (.ow (oL ds))) (q : KD (.lst ds) (env.set i (.ow (.fr (.lst ds))))) : force (.p i []) env KD := by
  show (match env[i]? with
    | some (.ow o) => (match o.at [] with
      | some o1 => KD o1.frz (env.set i (.ow (o.put [] (.fr o1.frz))))
      | none => False)
    | some (.bo o) => False
    | _ => False)
  rw [h]
  show KD (oL ds).frz (env.set i (.ow (.fr (oL ds).frz)))
  rw [oL_frz]
  exact q
theorem a_toOL (h : env[i]? = some (.ow (oL ds))) (q : KO (.fr (.lst ds)) (env.set i (.ow (.fr (.lst ds))))) : toO (.p i []) env KO := a_forceL (KD := fun d => KO (.fr d)) h q
theorem a_name {PE : DEnv → Prop} (h : ∃ o', env[i]? = some (.ow o')) (q : PE (env.set i (.ow o))) : dName i o env PE X := by
  obtain ⟨o', h⟩ := h
  unfold dName
  rw [h]
  exact q
theorem a_nameU {PE : DEnv → Prop} (h : env[i]? = some .un) (q : PE (env.set i (.ow o))) : dName i o env PE X := by
  unfold dName
  rw [h]
  exact q
theorem a_varD (h : env[i]? = some (.ow (.fr d))) (q : P (.d d) env) : dVar i env P X := by
  unfold dVar
  rw [h]
  exact q
theorem a_varL (h : env[i]? = some (.ow (.lst os))) (q : P (.p i []) env) : dVar i env P X := by
  unfold dVar
  rw [h]
  exact q
theorem a_varB (h : env[i]? = some (.bo o)) (q : P (.p i []) env) : dVar i env P X := by
  unfold dVar
  rw [h]
  exact q
theorem a_varoL (h : env[i]? = some (.ow (oL ds))) (q : P (.p i []) env) : dVar i env P X := a_varL h q
theorem a_c (q : P (.d d) env) : dC d env P X := q
theorem a_op (h : a env (fun r1 env1 => nrm r1 fun r1' => b env1 (fun r2 env2 => oth (peek r1' env2) fun d1 => oth (peek r2 env2) fun d2 => dr d1 d2 fun o => P (.o o) env2) X) X) : dOp dr a b env P X := h
theorem a_opP (h : a env (fun r1 env1 => b env1 (fun r2 env2 => oth (peek r1 env2) fun d1 => oth (peek r2 env2) fun d2 => dr d1 d2 fun o => P (.o o) env2) X) X) : dOpP dr a b env P X := h
theorem a_un {du : D → (O → Prop) → Prop} (h : a env (fun r1 env1 => oth (peek r1 env1) fun d1 => du d1 fun o => P (.o o) env1) X) : dUn du a env P X := h
theorem a_nrmD (h : KR (.d d)) : nrm (.d d) KR := h
theorem a_nrmP (h : KR (.p i [])) : nrm (.p i []) KR := h
theorem a_nrmL (h : KR (.d (.lst ds))) : nrm (.o (oL ds)) KR := by
  show KR (.d (oL ds).frz)
  rw [oL_frz]
  exact h
theorem a_pkD (h : Kd d) : oth (peek (.d d) env) Kd := h
theorem a_pkN (h : Kd (.lst ds)) : oth (peek (.o (oL ds)) env) Kd := by
  show oth (oL ds).flat Kd
  rw [oL_flat]
  exact h
theorem a_pkL (h : contAt env i path = some (oL ds)) (q : Kd (.lst ds)) : oth (peek (.p i path) env) Kd := by
  show oth (match contAt env i path with
    | some o => o.flat
    | none => none) Kd
  rw [h]
  show oth (oL ds).flat Kd
  rw [oL_flat]
  exact q
theorem a_pkF (h : contAt env i path = some (.fr d)) (q : Kd d) : oth (peek (.p i path) env) Kd := by
  show oth (match contAt env i path with
    | some o => o.flat
    | none => none) Kd
  rw [h]
  exact q
theorem a_test (h : a env (fun r env1 => asB r env1 fun b => PB b env1) X) : dTest a env PB X := h
theorem a_asB {bb : Bool} (h : KB bb) : asB (.d (.bl bb)) env KB := h
theorem a_and (h : t env (fun c env1 => if c = true then u env1 PB X else PB false env1) X) : dAnd t u env PB X := h
theorem a_or (h : t env (fun c env1 => if c = true then PB true env1 else u env1 PB X) X) : dOr t u env PB X := h
theorem a_not (h : t env (fun c env1 => PB (!c) env1) X) : dNot t env PB X := h
theorem a_yes (h : PB true env) : dYes env PB X := h
theorem a_if (h : t env (fun c env1 => if c = true then a env1 P X else b env1 P X) X) : dIf t a b env P X := h
theorem a_andV (h : a env (fun r env1 => asB r env1 fun c => if c = true then b env1 P X else P (.d (.bl false)) env1) X) : dAndV a b env P X := h
theorem a_orV (h : a env (fun r env1 => asB r env1 fun c => if c = true then P (.d (.bl true)) env1 else b env1 P X) X) : dOrV a b env P X := h
theorem a_notV (h : a env (fun r env1 => asB r env1 fun c => P (.d (.bl (!c))) env1) X) : dNotV a env P X := h
theorem a_chain (h : a env (fun r1 env1 => nrm r1 fun r1 => b env1 (fun r2 env2 => nrm r2 fun r2 => oth (peek r1 env2) fun d1 => oth (peek r2 env2) fun d2 => dr d1 d2 fun o => oth o.flat fun z => oth z.asB fun k =>
  if k = true then c3 env2 (fun r3 env3 => oth (peek r2 env3) fun d2 => oth (peek r3 env3) fun d3 => dr' d2 d3 fun o => P (.o o) env3) X else P (.d (.bl false)) env2) X) X) : dChain dr dr' a b c3 env P X := h
theorem a_flD (h : Kd d) : oth (O.fr d).flat Kd := h
theorem a_asb {bb : Bool} (h : KB bb) : oth (D.bl bb).asB KB := h
theorem a_nilA (h : PL [] env) : dNilA env PL X := h
theorem a_lastA (h : a env (fun r env1 => PL [r] env1) X) : dLastA a env PL X := h
theorem a_consA (h : a env (fun r env1 => nrm r fun r => ta env1 (fun rs env2 => PL (r :: rs) env2) X) X) : dConsA a ta env PL X := h
theorem a_nilV (h : PD [] env) : dNilV env PD X := h
theorem a_consV (h : a env (fun r env1 => force r env1 fun d env2 => tv env2 (fun ds env3 => PD (d :: ds) env3) X) X) : dConsV a tv env PD X := h
theorem a_cb {db : List D → (O → Prop) → Prop} (h : ta env (fun rs env1 => oth (peekL rs env1) fun ds => db ds fun o => P (.o o) env1) X) : dCB db ta env P X := h
theorem a_pk1 {r : R} {Kl : List D → Prop} (h : oth (peek r env) fun d => Kl [d]) : oth (peekL [r] env) Kl := by
  unfold peekL
  cases e : peek r env with
  | none => rw [e] at h; exact h.elim
  | some d => rw [e] at h; exact h
theorem a_pk2 {r r2 : R} {Kl : List D → Prop} (h : oth (peek r env) fun d => oth (peek r2 env) fun e => Kl [d, e]) : oth (peekL [r, r2] env) Kl := by
  unfold peekL
  cases e : peek r env with
  | none => rw [e] at h; exact h.elim
  | some d =>
    rw [e] at h
    unfold peekL
    cases e2 : peek r2 env with
    | none => rw [e2] at h; exact h.elim
    | some d2 => rw [e2] at h; exact h
theorem a_tup (h : tv env (fun ds env1 => ds.length ≤ sizeLine ∧ P (.d (.tup ds)) env1) X) : dTup tv env P X := h
theorem a_lst (h : tv env (fun ds env1 => ds.length ≤ sizeLine ∧ P (.o (oL ds)) env1) X) : dLst tv env P X := h
theorem a_call {bb : Bool} (h : tv env (fun ds env1 => f (ds.map .fr) (fun o _ => P (.o o) env1) (fun e _ => bb = true ∧ X e env1)) X) : dCall bb f tv env P X := h
def oneP (K1 : O → Prop) (ps : List O) : Prop := match ps with
  | [o'] => K1 o'
  | _ => False
theorem a_one {K1 : O → Prop} (h : K1 o) : oneP K1 [o] := h
/-- .. a slot's own object -/
def callAt (bb : Bool) (f : Fn) (i : Nat) (P : R → DEnv → Prop) (X : DX) (ds : List D) (env1 : DEnv) : Prop := match env1[i]? with
  | some s => (match s.cont with
    | some o => f (o :: ds.map .fr) (fun r ps => oneP (fun o' => P (.o r) (env1.set i (s.re o'))) ps) (fun e ps => oneP (fun o' => bb = true ∧ X e (env1.set i (s.re o'))) ps)
    | none => False)
  | none => False
theorem a_callM {bb : Bool} {u : O} (h0 : contAt env i [] = some u) (h : tv env (fun ds env1 => callAt bb f i P X ds env1) X) : dCallM bb f i tv env P X := ⟨by rw [h0]; rfl, h⟩
theorem a_callO {bb : Bool} (h : env[i]? = some (.ow o)) (q : f (o :: ds.map .fr) (fun r ps => oneP (fun o' => P (.o r) (env.set i (.ow o'))) ps) (fun e ps => oneP (fun o' => bb = true ∧ X e (env.set i (.ow o'))) ps)) : callAt bb f i P X ds env := by
  unfold callAt
  rw [h]
  exact q
theorem a_callB {bb : Bool} (h : env[i]? = some (.bo o)) (q : f (o :: ds.map .fr) (fun r ps => oneP (fun o' => P (.o r) (env.set i (.bo o'))) ps) (fun e ps => oneP (fun o' => bb = true ∧ X e (env.set i (.bo o'))) ps)) : callAt bb f i P X ds env := by
  unfold callAt
  rw [h]
  exact q
theorem a_make {bb : Bool} {C : Addr} (h : tv env (fun ds env1 => f (.ins C [] :: ds.map .fr) (fun r ps => r = .fr .non ∧ oneP (fun o' => P (.o o') env1) ps) (fun e _ => bb = true ∧ X e env1)) X) : dMake bb C f tv env P X := h
theorem a_fld {Cs : List Addr} {fl : Str} (h : a env (fun r env1 => fldR Cs fl r env1 fun r' => P r' env1) X) : dFld Cs fl a env P X := h
theorem a_fldD {Cs : List Addr} {fl : Str} {C : Addr} {gs : List (Str × D)} (h : C ∈ Cs) (l : gs.lookup fl = some d) (q : KR (.d d)) : fldR Cs fl (.d (.ins C gs)) env KR := by
  show C ∈ Cs ∧ oth (gs.lookup fl) fun d => KR (.d d)
  rw [l]
  exact ⟨h, q⟩
theorem a_setF {Cs : List Addr} {fl : Str} (h : a env (fun r env1 => toO r env1 fun o env2 => oth (contAt env2 i []) fun u => match u with
  | .ins C gs => (C ∈ Cs ∧ gs.length < 1000) ∧ DD.nx (setAt env2 i [] (.ins C (putFD fl o gs)))
  | _ => False) DD.ex) : dSetF Cs i fl a DD env := h
theorem a_ix (h : a env (fun r1 env1 => b env1 (fun r2 env2 => asI r2 env2 fun k => ixR r1 k env2 fun r => P r env2) X) X) : dIx a b env P X := h
theorem a_ixE (h : a env (fun r1 env1 => nrm r1 fun r1 => b env1 (fun r2 env2 => asI r2 env2 fun k => ixR r1 k env2 fun r => P r env2) X) X) : dIxE a b env P X := h
theorem a_asI (h : KI n) : asI (.d (.int n)) env KI := h
theorem a_ixT (l : atI ds n = some d) (q : KR (.d d)) : ixR (.d (.tup ds)) n env KR := by
  show oth (atI ds n) fun d => KR (.d d)
  rw [l]
  exact q
theorem a_ixL (l : atI ds n = some d) (q : KR (.d d)) : ixR (.d (.lst ds)) n env KR := by
  show oth (atI ds n) fun d => KR (.d d)
  rw [l]
  exact q
theorem a_ixP (h : contAt env i path = some (oL ds)) (l : atI ds n = some d) (q : KR (.d d)) : ixR (.p i path) n env KR := by
  unfold ixR
  have e : peek (.p i path) env = some (.lst ds) := by
    show (match contAt env i path with
      | some o => o.flat
      | none => none) = _
    rw [h]
    exact oL_flat ds
  rw [e]
  show oth (atI ds n) fun d => KR (.d d)
  rw [l]
  exact q
theorem a_ixN (h : a = a) (l : atI ds n = some d) (q : KR (.d d)) : ixR (.o (oL ds)) n env KR := by
  unfold ixR
  have e : peek (.o (oL ds)) env = some (.lst ds) := oL_flat ds
  rw [e]
  show oth (atI ds n) fun d => KR (.d d)
  rw [l]
  exact q
theorem a_sl {dl dh : DTO} (h : a env (fun r env1 => dl env1 (fun lo env2 => dh env2 (fun hi env3 => oth (peek r env3) fun d => slR d lo hi fun o => P (.o o) env3) X) X) X) : dSl a dl dh env P X := h
theorem a_noPart {PO : Option Int → DEnv → Prop} (h : PO none env) : dNoPart env PO X := h
theorem a_part {PO : Option Int → DEnv → Prop} (h : a env (fun r env1 => asI r env1 fun k => PO (some k) env1) X) : dPart a env PO X := h
theorem a_slL {lo hi : Option Int} (h : K (oL (cutD ds lo hi))) : slR (.lst ds) lo hi K := h
theorem a_slT {lo hi : Option Int} (h : K (.fr (.tup (cutD ds lo hi)))) : slR (.tup ds) lo hi K := h
theorem a_iter {PI : List D → DEnv → Prop} (h : a env (fun r env1 => force r env1 fun d env2 => match d with
  | .lst ds => PI ds env2
  | .tup ds => PI ds env2
  | _ => False) X) : dIter a env PI X := h
theorem a_rng1 {PI : List D → DEnv → Prop} (h : ta env (fun rs env1 => oth (peekL rs env1) fun ds => match ds with
  | [.int j] => -(2 ^ 62) ≤ j ∧ j < 2 ^ 62 ∧ PI (rgD 0 j.toNat) env1
  | _ => False) X) : dRng1 ta env PI X := h
theorem a_rng2 {PI : List D → DEnv → Prop} (h : ta env (fun rs env1 => oth (peekL rs env1) fun ds => match ds with
  | [.int i, .int j] => (-(2 ^ 62) ≤ i ∧ i < 2 ^ 62 ∧ -(2 ^ 62) ≤ j ∧ j < 2 ^ 62) ∧ PI (rgD i (j - i).toNat) env1
  | _ => False) X) : dRng2 ta env PI X := h
theorem a_rgb {A : Prop} {z : Int} (b : -1000000 ≤ z ∧ z ≤ 1000000) (h : A) : -(2 ^ 62) ≤ z ∧ z < 2 ^ 62 ∧ A := ⟨by omega, by omega, h⟩
theorem a_rgb2 {A : Prop} {y z : Int} (b : -1000000 ≤ y ∧ y ≤ 1000000 ∧ -1000000 ≤ z ∧ z ≤ 1000000) (h : A) : (-(2 ^ 62) ≤ y ∧ y < 2 ^ 62 ∧ -(2 ^ 62) ≤ z ∧ z < 2 ^ 62) ∧ A := ⟨⟨by omega, by omega, by omega, by omega⟩, h⟩
theorem a_for {di : DTI} {g : DG} (h : di env (fun ds env1 => dForGo g s DD ds env1) DD.ex) : dFor di g s DD env := h
/-- a loop by what holds ahead of turn k -/
theorem a_forI {g : DG} (I : Nat → DEnv → Prop) (h0 : I 0 env) (hs : ∀ (k : Nat) (d : D) (env : DEnv) (NX : DEnv → Prop), ds[k]? = some d → I k env → (∀ e, I (k + 1) e → NX e) → g (.fr d) env (fun env1 => s { DD with nx := NX, ct := NX, bk := DD.nx } env1) DD.ex)
    (hd : ∀ env, I ds.length env → DD.nx env) : dForGo g s DD ds env := by
  have go : ∀ (n k : Nat) (env : DEnv), n + k = ds.length → I k env → dForGo g s DD (ds.drop k) env := by
    intro n
    induction n with
    | zero =>
      intro k env e h
      rw [List.drop_eq_nil_of_le (by omega)]
      have : k = ds.length := by omega
      subst this
      exact hd env h
    | succ n ih =>
      intro k env e h
      have hk : k < ds.length := by omega
      rw [List.drop_eq_getElem_cons hk]
      exact hs k ds[k] env _ (List.getElem?_eq_getElem hk) h fun e' h' => ih (k + 1) e' (by omega) h'
  have := go ds.length 0 env (by omega) h0
  exact this
theorem a_while {t : DTT} (I : Nat → DEnv → Prop) {m0 : Nat} (h0 : I m0 env) (hs : ∀ (m : Nat) (env : DEnv) (NX : DEnv → Prop), I m env → (∀ m' e, m' < m → I m' e → NX e) → t env (fun b env1 => if b = true then s { DD with nx := NX, ct := NX, bk := DD.nx } env1 else DD.nx env1) DD.ex) : dWhile t s DD env := by
  have go : ∀ (n m : Nat) (env : DEnv), m < n → I m env → dWhileGo t s DD n env := by
    intro n
    induction n with
    | zero => intro m env h; omega
    | succ n ih => intro m env h hi; exact hs m env _ hi fun m' e h' hi' => ih m' e (by omega) hi'
  exact ⟨m0 + 1, go _ m0 env (Nat.lt_succ_self _) h0⟩
theorem a_lc {di : DTI} {g : DG} {vs : List Nat} (h : di env (fun ds env1 => dLcGo g t a vs (fun acc env2 => P (.o (.lst acc)) env2) (fun _ _ => False) ds [] env1) X) : dLc di g t a vs env P X := h
/-- a turn of a comprehension -/
def lcT (g : DG) (t : DTT) (a : DTE) (vs : List Nat) (d : D) (acc : List O) (env : DEnv) (NX : List O → DEnv → Prop) : Prop :=
  noBo env vs ∧ g (.fr d) (wipeD env vs) (fun env1 => t env1 (fun b env2 => if b = true then a env2 (fun q env3 => toO q env3 fun o env4 => acc.length < sizeLine ∧ NX (acc ++ [o]) (backD env env4 vs)) (fun _ _ => False) else NX acc (backD env env2 vs)) (fun _ _ => False)) (fun _ _ => False)
theorem a_lcI {g : DG} {vs : List Nat} {PA : List O → DEnv → Prop} (I : Nat → List O → DEnv → Prop) (h0 : I 0 [] env) (hs : ∀ (k : Nat) (d : D) (acc : List O) (env : DEnv) (NX : List O → DEnv → Prop), ds[k]? = some d → I k acc env → (∀ acc e, I (k + 1) acc e → NX acc e) → lcT g t a vs d acc env NX)
    (hd : ∀ acc env, I ds.length acc env → PA acc env) : dLcGo g t a vs PA (fun _ _ => False) ds [] env := by
  have go : ∀ (n k : Nat) (acc : List O) (env : DEnv), n + k = ds.length → I k acc env → dLcGo g t a vs PA (fun _ _ => False) (ds.drop k) acc env := by
    intro n
    induction n with
    | zero =>
      intro k acc env e h
      rw [List.drop_eq_nil_of_le (by omega)]
      have : k = ds.length := by omega
      subst this
      exact hd acc env h
    | succ n ih =>
      intro k acc env e h
      have hk : k < ds.length := by omega
      rw [List.drop_eq_getElem_cons hk]
      exact hs k ds[k] acc env _ (List.getElem?_eq_getElem hk) h fun acc' e' h' => ih (k + 1) acc' e' (by omega) h'
  have := go ds.length 0 [] env (by omega) h0
  exact this
/-- a comprehension of data that leaves the slots -/
theorem a_lcP {g : DG} {vs : List Nat} {PA : List O → DEnv → Prop} (fm : D → Option D) (hl : ds.length < sizeLine) (hs : ∀ (k : Nat) (d : D) (acc : List O) (NX : List O → DEnv → Prop), ds[k]? = some d → acc.length < sizeLine → (∀ e, fm d = some e → NX (acc ++ [.fr e]) env) → (fm d = none → NX acc env) → lcT g t a vs d acc env NX)
    (hd : PA ((ds.filterMap fm).map .fr) env) : dLcGo g t a vs PA (fun _ _ => False) ds [] env := by
  refine a_lcI (fun k acc e => e = env ∧ acc = ((ds.take k).filterMap fm).map .fr) ⟨rfl, rfl⟩ ?_ ?_
  · rintro k d acc env' NX hk ⟨rfl, rfl⟩ nx
    have hk' := (List.getElem?_eq_some_iff.mp hk).1
    have tk : ds.take (k + 1) = ds.take k ++ [d] := take_snoc hk
    refine hs k d _ NX hk ?_ (fun e he => nx _ _ ⟨rfl, ?_⟩) fun he => nx _ _ ⟨rfl, ?_⟩
    · rw [List.length_map]
      have := List.length_filterMap_le fm (ds.take k)
      rw [List.length_take] at this
      omega
    · rw [tk, List.filterMap_append, List.map_append, List.filterMap_cons, he]; rfl
    · rw [tk, List.filterMap_append, List.map_append, List.filterMap_cons, he, List.filterMap_nil, List.map_nil, List.append_nil]
  · rintro acc e ⟨rfl, rfl⟩
    rw [List.take_length]
    exact hd
/-- xs.append(e) -/
def appK (i : Nat) (o : O) (env2 : DEnv) (P : R → DEnv → Prop) : Prop := oth (contAt env2 i []) fun u => match u with
  | .lst os => fAppend os o fun os' z => P (.o z) (setAt env2 i [] (.lst os'))
  | _ => False
theorem a_append (h : contAt env i [] = some (.lst os)) (q : a env (fun r env1 => toO r env1 fun o env2 => appK i o env2 P) X) : dMeth1 fAppend i a env P X := ⟨by rw [h]; rfl, q⟩
theorem a_app (h : env[i]? = some (.ow (oL ds))) (l : ds.length < 1000) (q : P (.d .non) (env.set i (.ow (oL (ds ++ [d]))))) : appK i (.fr d) env P := by
  unfold appK
  have e : contAt env i [] = some (oL ds) := by
    unfold contAt
    rw [h]
    rfl
  rw [e]
  refine ⟨by rw [List.length_map]; exact small1000 (by omega), ?_⟩
  have e2 : setAt env i [] (.lst (ds.map .fr ++ [.fr d])) = env.set i (.ow (oL (ds ++ [d]))) := by
    unfold setAt
    rw [h]
    show env.set i (.ow (.lst (ds.map .fr ++ [.fr d]))) = _
    unfold oL
    rw [List.map_append]
    rfl
  show P (.d .non) (setAt env i [] (.lst (ds.map .fr ++ [.fr d])))
  rw [e2]
  exact q
/-! operations -/
theorem a_addI {x y : Int} (h : K (.fr (.int (x + y)))) : dAdd (.int x) (.int y) K := h
theorem a_addT (l : ds.length + es.length ≤ 1000) (h : K (.fr (.tup (ds ++ es)))) : dAdd (.tup ds) (.tup es) K := ⟨Nat.le_of_lt (small1000 l), h⟩
theorem a_addL (l : ds.length + es.length ≤ 1000) (h : K (oL (ds ++ es))) : dAdd (.lst ds) (.lst es) K := ⟨Nat.le_of_lt (small1000 l), h⟩
theorem a_I0 {x y : Int} {g : Int → Int → D} (h : K (.fr (g x y))) : dI0 g (.int x) (.int y) K := h
theorem a_I2 {x y : Int} {C : Int → Int → Prop} {g : Int → Int → D} (c : C x y) (h : K (.fr (g x y))) : dI2 C g (.int x) (.int y) K := ⟨c, h⟩
theorem a_ltI {x y : Int} (h : K (.fr (.bl (decide (x < y))))) : dLtG (.int x) (.int y) K := h
theorem a_eqI {x y : Int} (h : K (.fr (.bl (decide (x = y))))) : dEq (.int x) (.int y) K := ⟨rfl, rfl, by
  have e : PyData.eqv (.int x) (.int y) = decide (x = y) := by rw [Bool.eq_iff_iff]; show (x == y) = true ↔ _; simp
  rw [e]; exact h⟩
theorem a_neI {x y : Int} (h : K (.fr (.bl (!decide (x = y))))) : dNe (.int x) (.int y) K := ⟨rfl, rfl, by
  have e : PyData.eqv (.int x) (.int y) = decide (x = y) := by rw [Bool.eq_iff_iff]; show (x == y) = true ↔ _; simp
  rw [e]; exact h⟩
theorem a_eqB {x y : Bool} (h : K (.fr (.bl (decide (x = y))))) : dEq (.bl x) (.bl y) K := ⟨rfl, rfl, by
  have e : PyData.eqv (.bool x) (.bool y) = decide (x = y) := by cases x <;> cases y <;> rfl
  rw [e]; exact h⟩
theorem a_neB {x y : Bool} (h : K (.fr (.bl (!decide (x = y))))) : dNe (.bl x) (.bl y) K := ⟨rfl, rfl, by
  have e : PyData.eqv (.bool x) (.bool y) = decide (x = y) := by cases x <;> cases y <;> rfl
  rw [e]; exact h⟩
theorem a_isN (h : K (.fr (.bl d.isN))) : dIs d .non K := h
theorem a_isNot (h : K (.fr (.bl (!d.isN)))) : dIsNot d .non K := h
theorem a_lenL (h : K (.fr (.int ds.length))) : dLen [.lst ds] K := h
theorem a_lenT (h : K (.fr (.int ds.length))) : dLen [.tup ds] K := h
theorem a_absI {x : Int} (h : K (.fr (.int (if x < 0 then -x else x)))) : dAbs [.int x] K := h
theorem a_intI {x : Int} (h : K (.fr (.int x))) : dInt [.int x] K := h
theorem a_intB {x : Bool} (h : K (.fr (.int (if x then 1 else 0)))) : dInt [.bl x] K := h
theorem a_tupL (h : K (.fr (.tup ds))) : dTuple [.lst ds] K := h
theorem a_tupT (h : K (.fr (.tup ds))) : dTuple [.tup ds] K := h
theorem a_lstL (h : K (oL ds)) : dList [.lst ds] K := h
theorem a_lstT (h : K (oL ds)) : dList [.tup ds] K := h
theorem a_bound {A : Prop} {k : Nat} (l : k ≤ 1000) (h : A) : k ≤ sizeLine ∧ A := ⟨Nat.le_of_lt (small1000 l), h⟩
/-! parts of lists that are owned -/
theorem a_ixO {jj : Nat} (h : contAt env i path = some (.lst os)) (hn : frL os = none) (hj : ixN os.length n = some jj) (ho : os[jj]? = some (.fr d)) (q : KR (.d d)) : ixR (.p i path) n env KR := by
  unfold ixR
  have e : peek (.p i path) env = none := by
    show (match contAt env i path with
      | some o => o.flat
      | none => none) = _
    rw [h]
    show (match frL os with
      | some ds => some (D.lst ds)
      | none => none) = _
    rw [hn]
  rw [e]
  dsimp only
  rw [h]
  show oth (ixN os.length n) _
  rw [hj]
  show oth os[jj]? _
  rw [ho]
  exact q
theorem a_ixO' {jj : Nat} {us : List O} (h : contAt env i path = some (.lst os)) (hn : frL os = none) (hj : ixN os.length n = some jj) (ho : os[jj]? = some (.lst us)) (q : KR (.p i (path ++ [.ix jj]))) : ixR (.p i path) n env KR := by
  unfold ixR
  have e : peek (.p i path) env = none := by
    show (match contAt env i path with
      | some o => o.flat
      | none => none) = _
    rw [h]
    show (match frL os with
      | some ds => some (D.lst ds)
      | none => none) = _
    rw [hn]
  rw [e]
  dsimp only
  rw [h]
  show oth (ixN os.length n) _
  rw [hj]
  show oth os[jj]? _
  rw [ho]
  exact q
def subK (r1 r2 : R) (o : O) (env2 : DEnv) (PE : DEnv → Prop) : Prop := match r1, peek r2 env2 with
  | .p i path, some (.int k) => oth (contAt env2 i path) fun u => (match u with
    | .lst os => oth (ixN os.length k) fun j => PE (setAt env2 i path (.lst (os.set j o)))
    | _ => False)
  | _, _ => False
theorem a_sub {PE : DEnv → Prop} (h : a env (fun r1 env1 => b env1 (fun r2 env2 => subK r1 r2 o env2 PE) X) X) : dSub a b o env PE X := h
theorem a_subK {PE : DEnv → Prop} {jj : Nat} (h : contAt env i path = some (.lst os)) (hj : ixN os.length n = some jj) (q : PE (setAt env i path (.lst (os.set jj o)))) : subK (.p i path) (.d (.int n)) o env PE := by
  show oth (contAt env i path) fun u => (match u with
    | .lst os => oth (ixN os.length n) fun j => PE (setAt env i path (.lst (os.set j o)))
    | _ => False)
  rw [h]
  show oth (ixN os.length n) _
  rw [hj]
  exact q
theorem oL_ints (ns : List Int) : itO ns = oL (ns.map .int) := by
  unfold itO oL
  rw [List.map_map]
  rfl
/-- a join -/
theorem a_cut (Mid : DEnv → Prop) (h : ∀ NX : DEnv → Prop, (∀ e, Mid e → NX e) → s { DD with nx := NX } env) (k : ∀ e, Mid e → s2 DD e) : dCut s s2 DD env := h _ k
theorem atI_of {α : Type} {xs : List α} {z : Int} {jj : Nat} {x : α} (e : z = (jj : Int)) (h : xs[jj]? = some x) : atI xs z = some x := by
  unfold atI
  rw [ixN_of e (List.getElem?_eq_some_iff.mp h).1]
  exact h
/-- a comprehension without a test -/
theorem a_lcM {g : DG} {vs : List Nat} {PA : List O → DEnv → Prop} (fm : D → D) (hl : ds.length < 1000) (hs : ∀ (k : Nat) (d : D) (acc : List O) (NX : List O → DEnv → Prop), ds[k]? = some d → acc.length < sizeLine → NX (acc ++ [.fr (fm d)]) env → lcT g t a vs d acc env NX)
    (hd : PA ((ds.map fm).map .fr) env) : dLcGo g t a vs PA (fun _ _ => False) ds [] env := by
  refine a_lcP (fun x => some (fm x)) (small1000 (by omega)) (fun k d acc NX hk ha nx _ => hs k d acc NX hk ha (nx _ rfl)) ?_
  rw [List.filterMap_eq_map']
  exact hd
/-- .. that tells the items for which a test holds -/
theorem a_lcF {g : DG} {vs : List Nat} {PA : List O → DEnv → Prop} (p : D → Bool) (hl : ds.length < 1000) (hs : ∀ (k : Nat) (d : D) (acc : List O) (NX : List O → DEnv → Prop), ds[k]? = some d → acc.length < sizeLine → (p d = true → NX (acc ++ [.fr d]) env) → (p d = false → NX acc env) → lcT g t a vs d acc env NX)
    (hd : PA ((ds.filter p).map .fr) env) : dLcGo g t a vs PA (fun _ _ => False) ds [] env := by
  refine a_lcP (fun x => if p x = true then some x else none) (small1000 (by omega)) (fun k d acc NX hk ha nx nx' => hs k d acc NX hk ha (fun e => nx _ (by rw [if_pos e])) fun e => nx' (by rw [if_neg (by rw [e]; decide)])) ?_
  rw [show (fun x => if p x = true then some x else none) = Option.guard p from by funext x; simp [Option.guard]]
  rw [List.filterMap_eq_filter]
  exact hd
theorem a_allE {bs : List Bool} (e : asBls ds = some bs) (h : K (.fr (.bl (bs.all id)))) : dAll [.lst ds] K := by
  show oth (asBls ds) _
  rw [e]
  exact h
theorem a_sumE {ns : List Int} (e : asInts ds = some ns) (h : K (.fr (.int ns.sum))) : dSum [.lst ds] K := by
  show oth (asInts ds) _
  rw [e]
  exact h
/-- xs.extend(e) -/
def extK (i : Nat) (o : O) (env2 : DEnv) (P : R → DEnv → Prop) : Prop := oth (contAt env2 i []) fun u => match u with
  | .lst os => fExtend os o fun os' z => P (.o z) (setAt env2 i [] (.lst os'))
  | _ => False
theorem a_extend (h : contAt env i [] = some (.lst os)) (q : a env (fun r env1 => toO r env1 fun o env2 => extK i o env2 P) X) : dMeth1 fExtend i a env P X := ⟨by rw [h]; rfl, q⟩
theorem rgD_len (lo : Int) (k : Nat) : (rgD lo k).length = k := by unfold rgD; rw [List.length_map, List.length_range]
theorem rgD_at {lo : Int} {k l : Nat} {d : D} (h : (rgD lo k)[l]? = some d) : l < k ∧ d = .int (lo + (l : Nat)) := by
  have hl := (List.getElem?_eq_some_iff.mp h).1
  rw [rgD_len] at hl
  unfold rgD at h
  rw [List.getElem?_map, List.getElem?_range hl] at h
  exact ⟨hl, (Option.some.inj h).symm⟩
theorem cutD_take {α : Type} (f : α → D) (ns : List α) (v : Nat) : cutD (ns.map f) none (some (v : Int)) = (ns.take v).map f := by
  unfold cutD
  rw [HT.sIx_none, HT.sIx_nat]
  show ((ns.map f).drop 0).take (min v (ns.map f).length - 0) = _
  rw [List.drop_zero, Nat.sub_zero, List.map_take]
  by_cases hv : v ≤ (ns.map f).length
  · rw [Nat.min_eq_left hv]
  · rw [Nat.min_eq_right (by omega), List.take_length, List.take_of_length_le (by omega)]
theorem a_nameS {PE : DEnv → Prop} {sl : S} (h : env[i]? = some sl) (hb : sl.isBo = false) (q : PE (env.set i (.ow o))) : dName i o env PE X := by
  unfold dName
  rw [h]
  cases sl with
  | bo _ => cases hb
  | _ => exact q
theorem a_gtup {PE : DEnv → Prop} {gs : DGs} {k : Nat} (l : ds.length = k) (h : gs ds env PE X) : dGTup k gs (.fr (.tup ds)) env PE X := ⟨l, h⟩
theorem a_gcons {PE : DEnv → Prop} {g : DG} {gs : DGs} (h : g (.fr d) env (fun env1 => gs ds env1 PE X) X) : dGCons g gs (d :: ds) env PE X := h
theorem a_gnil {PE : DEnv → Prop} (h : PE env) : dGNil [] env PE X := ⟨rfl, h⟩
/-! xs[i].append(e) -/
def methNF (fm : List O → O → (List O → O → Prop) → Prop) (i : Nat) (path : List PSt) (o0 o : O) (env3 : DEnv) (P : R → DEnv → Prop) : Prop := oth env3[i]? fun s3 => s3.isUn = true ∧ oth (o0.at path) fun u => (match u with
    | .lst os => fm os o fun os' z => P (.o z) (env3.set i (.ow (o0.put path (.lst os'))))
    | _ => False)
def methNK (fm : List O → O → (List O → O → Prop) → Prop) (b : DTE) (env : DEnv) (P : R → DEnv → Prop) (r : R) : Prop := match r with
  | .p i path => oth env[i]? fun s => oth s.owO fun o0 => isL (o0.at path) = true ∧ b (env.set i .un) (fun q env2 => toO q env2 fun o env3 => methNF fm i path o0 o env3 P) (fun _ _ => False)
  | _ => False
theorem a_methN {fm : List O → O → (List O → O → Prop) → Prop} (h : a env (fun r _ => methNK fm b env P r) (fun _ _ => False)) : dMethN1 fm a b env P X := h
end

section
variable {K : PySem.W.Frag} {σ : L2.St} {H : Hp} {Q : VK} {D : Ends} {a C C' : Addr} {b : Bool} {d : Option Addr}
end
def tTryN (K : PySem.W.Frag) (c : Value) (i : Nat) (tb : WX → TS) (ts : Addr → Value → Option Addr → TS) : TS := fun D σ H => tb (wAs K c i ts (fun _ _ _ _ => False) D) D σ H
/-! l.count(x), flat items -/
def rCntF (K : PySem.W.Frag) : V → List V → Hp → VK → Prop := fun x xs H Q => ∃ (p : Addr) (ys : List V) (y : V), x = .ref p ∧ xs = [y] ∧ SqL K H p ys ∧ flatV y = true ∧ ys.all flatV = true ∧ Q (.int (ys.countP (fun z => eqV z y) : Nat)) H
theorem eqU_count {y : V} : ∀ {ys : List V} {its : List Value}, Vals ys its → ys.all flatV = true → its.countP (eqU y) = ys.countP (fun z => eqV z y)
  | _, _, .nil, _ => rfl
  | _, _, .cons ru rt, f => by
    rw [List.all_cons, Bool.and_eq_true] at f
    rw [List.countP_cons, List.countP_cons, eqU_count rt f.2, eqU_of ru f.1]
theorem mt_countF {X : Cx} : MtR X "list.count" (rCntF X.K) := by
  intro pins s σ H x xs v us Q I rx rxs h
  obtain ⟨p, ys, y, rfl, rfl, hs, fy, fys, q⟩ := h
  cases rx
  obtain ⟨u, rfl, ru⟩ := rxs.one
  obtain ⟨its, rv, ⟨⟨cls, dd, data, sl⟩, n, ho, hc, hdn, hd⟩, hlen⟩ := I.list hs
  simp only at hc hd
  subst hc hd
  refine call_meets PySem.F.slot_list_count ⟨_, ho, rfl⟩ PySem.F.entry_list_count (PySem.F.args_list_count_2 _ _)
    (SeqAt.list_countAt p its.toArray n dd sl u (eqU y)) ⟨ho, fun u' hu' => mem_eqAt ru fy rv fys u' (by simpa using hu'), ?_⟩
  have ec : its.toArray.toList.countP (eqU y) = ys.countP (fun z => eqV z y) := eqU_count rv fys
  refine ⟨.int (ys.countP (fun z => eqV z y) : Nat), H, I.tok _, ⟨s.toks, ?_⟩, q⟩
  show Value.int ((its.toArray.toList.countP (eqU y) : Nat) : Int) s.toks = Value.int ((ys.countP (fun z => eqV z y) : Nat) : Int) s.toks
  rw [ec]
/-! isinstance of a caught error, with fields or without -/
def XF (d : Option Addr) (H : Hp) : Prop := d = none ∨ ∃ (dd : Addr) (fs : List (Str × V)), d = some dd ∧ H dd = some (.xd fs)
theorem XF.same {d : Option Addr} {H G : Hp} (h : XF d H) (s : Same H G) : XF d G := h.imp id fun ⟨dd, fs, e, hd⟩ => ⟨dd, fs, e, s _ _ hd⟩
def rIsA (K : PySem.W.Frag) (cls : Value) (d : Option Addr) (a : Addr) : List V → Hp → VK → Prop := fun xs H Q => rIsN K cls d a xs H Q ∨ rIsX K cls d a xs H Q
theorem call_isA {X : Cx} {a : Addr} {oe : Obj} {cls : Value} {d : Option Addr} {pn : List (Addr × Obj)} (hz : Zc cls d oe) (hf : ∃ vs, oe.data = .fields vs) : CallR (X.suite a ((a, oe) :: pn)) (.builtin "isinstance") (rIsA X.K cls d a) :=
  fun pins s σ H xs us Q I r h => h.elim (call_isN hz hf pins s σ H xs us Q I r) (call_isX hz hf pins s σ H xs us Q I r)
def isA31 (K : PySem.W.Frag) (a : Addr) (cls : Value) (d : Option Addr) (c : V) : TE := tCB (rIsA K cls d a) (tCons (tVar 2) (tCons (tC c) tNil))
section
variable {K : PySem.W.Frag} {σ : L2.St} {H : Hp} {Q : VK} {D : Ends} {a C C' : Addr} {b : Bool} {d : Option Addr}
theorem v_isA {c : V} {cv : Value} (hx : XCls K C) (xf : XF d H) (hc : ClsV c cv) (k : PySem.W.kitOne K (.ref C) cv = some b) (q : Q (.bl b) H) : rIsA K (.ref C) d a [.ref a, c] H Q := by
  rcases xf with rfl | ⟨dd, fs, rfl, hd⟩
  · exact .inl ⟨C, rfl, rfl, hx, c, cv, b, rfl, (fun u r => hc.eq r), k, q⟩
  · exact .inr ⟨c, cv, b, C, dd, fs, rfl, rfl, rfl, hd, hx, hc, k, q⟩
theorem clsV_ref : ClsV (.ref C') (.ref C') := .own C'
theorem clsV_ve : ClsV (.ty "ValueError") (.type "ValueError") := .ty _
theorem v_isAW (h : σ[2]? = some (some (.ref a))) (hx : XCls K C) (xf : XF d H) (k : PySem.W.kitOne K (.ref C) (.ref C') = some b) (q : Q (.bl b) H) : isA31 K a (.ref C) d (.ref C') σ H Q := ⟨.ref a, h, v_isA hx xf clsV_ref k q⟩
end
def words31 : List Str := ["block", "place", "others", "many"]
def t_w31 (K : PySem.W.Frag) (c0 c1 c2 c3 : Addr) (a : Addr) (cls : Value) (d : Option Addr) : TS :=
  tSeq (tAsg (tLst (tCons (isA31 K a cls d (.ref c0)) (tCons (isA31 K a cls d (.ref c1)) (tCons (isA31 K a cls d (.ref c2)) (tCons (isA31 K a cls d (.ref c3)) tNil))))) (gName 3))
  (tSeq (tAsg (tC (.str "odd")) (gName 1))
  (tSeq (tIfS (tAnd (tTest (tOp rEq (tBM K "list" (rCntF K) (tVar 3) (tCons (tC (.bl true)) tNil)) (tC (.int 1)))) (tB (isA31 K a cls d (.ty "ValueError"))))
    (tAsg (tOp (rIx K) (tLst (tCons (tC (.str "block")) (tCons (tC (.str "place")) (tCons (tC (.str "others")) (tCons (tC (.str "many")) tNil))))) (tBM K "list" (rIndex K) (tVar 3) (tCons (tC (.bl true)) tNil))) (gName 1)) tNext)
  (tIfS (tAnd (tTest (tOp rEq (tVar 1) (tC (.str "many")))) (tTest (tOp rNe (tXf a cls d c3 "most" (tVar 2)) (tC (.int 10)))))
    (tAsg (tC (.str "odd")) (gName 1)) tNext)))
section
variable {K : PySem.W.Frag} {σ : L2.St} {H : Hp} {Q : VK} {D : Ends} {a C C' : Addr} {b : Bool} {d : Option Addr}
theorem w31_run {c0 c1 c2 c3 : Addr} {j : Nat} (hx : XCls K C) (xf : XF d H) (kv : PySem.W.kitOne K (.ref C) (.type "ValueError") = some true)
    (k0 : PySem.W.kitOne K (.ref C) (.ref c0) = some (decide (j = 0))) (k1 : PySem.W.kitOne K (.ref C) (.ref c1) = some (decide (j = 1))) (k2 : PySem.W.kitOne K (.ref C) (.ref c2) = some (decide (j = 2))) (k3 : PySem.W.kitOne K (.ref C) (.ref c3) = some (decide (j = 3)))
    (hj : j < 4) (mo : j = 3 → C = c3 ∧ ∃ dd, d = some dd ∧ H dd = some (.xd [("most", .int 10)])) (l : σ.length = 4)
    (nx : ∀ (σ' : L2.St) (H' : Hp) (w : Str), σ'.length = 4 → words31[j]? = some w → σ'[1]? = some (some (.str w)) → Same H H' → D.nx σ' H') :
    t_w31 K c0 c1 c2 c3 a (.ref C) d D (σ.set 2 (some (.ref a))) H := by
  obtain ⟨s0, s1, s2, s3, rfl⟩ : ∃ s0 s1 s2 s3, σ = [s0, s1, s2, s3] := by
    match σ, l with
    | [s0, s1, s2, s3], _ => exact ⟨_, _, _, _, rfl⟩
  have j4 : j = 0 ∨ j = 1 ∨ j = 2 ∨ j = 3 := by omega
  unfold t_w31
  refine v_seq (v_asg (v_lst ?_))
  refine v_isAW rfl hx xf k0 ?_
  refine v_isAW rfl hx xf k1 ?_
  refine v_isAW rfl hx xf k2 ?_
  refine v_isAW rfl hx xf k3 ?_
  refine ⟨by show 4 ≤ sizeLine; decide, fun p np => ?_⟩
  refine v_name ?_
  dsimp only
  refine v_seq (v_asg (v_c (v_name ?_)))
  dsimp only
  have sG := same_new (o := .lst [.bl (decide (j = 0)), .bl (decide (j = 1)), .bl (decide (j = 2)), .bl (decide (j = 3))]) np
  have gp : (upd H p (.lst [.bl (decide (j = 0)), .bl (decide (j = 1)), .bl (decide (j = 2)), .bl (decide (j = 3))])) p = some (.lst ([decide (j = 0), decide (j = 1), decide (j = 2), decide (j = 3)].map V.bl)) := upd_same
  generalize upd H p (.lst [.bl (decide (j = 0)), .bl (decide (j = 1)), .bl (decide (j = 2)), .bl (decide (j = 3))]) = G at sG gp ⊢
  generalize hfl : [decide (j = 0), decide (j = 1), decide (j = 2), decide (j = 3)] = fl at gp ⊢
  have cnt : (fl.map V.bl).countP (fun z => eqV z (.bl true)) = 1 := by
    rw [← hfl]
    rcases j4 with rfl | rfl | rfl | rfl <;> rfl
  have hz : fl[j]? = some true := by
    rw [← hfl]
    rcases j4 with rfl | rfl | rfl | rfl <;> rfl
  have fst : ∀ m z, m < j → fl[m]? = some z → z = false := by
    rw [← hfl]
    intro m z hm hz
    have m3 : m = 0 ∨ m = 1 ∨ m = 2 := by omega
    rcases j4 with rfl | rfl | rfl | rfl <;> rcases m3 with rfl | rfl | rfl <;> first | omega | exact (Option.some.inj hz).symm
  have fla : (fl.map V.bl).all flatV = true := by
    rw [List.all_map]
    exact List.all_eq_true.mpr fun _ _ => rfl
  refine v_seq (v_ifs ?_)
  show tAnd _ _ [s0, some (.str "odd"), some (.ref a), some (.ref p)] G _
  refine v_and (v_test (v_op (v_bm (v_var rfl (v_bmL gp (v_cons (v_c (v_nil ?_))))))))
  refine ⟨p, fl.map V.bl, .bl true, rfl, rfl, SqL.of gp, rfl, fla, ?_⟩
  rw [cnt]
  refine v_c (v_eqI ⟨_, rfl, ?_⟩)
  refine v_iteT ?_
  refine v_B ?_
  refine ⟨.ref a, rfl, v_isA hx (xf.same sG) clsV_ve kv ⟨_, rfl, v_iteT ?_⟩⟩
  refine v_asg (v_op (v_lst ?_))
  refine v_cons (v_c (v_cons (v_c (v_cons (v_c (v_cons (v_c (v_nil ⟨by show 4 ≤ sizeLine; decide, fun pw npw => ?_⟩))))))))
  have gq : (upd G pw (.lst [.str "block", .str "place", .str "others", .str "many"])) p = some (.lst (fl.map V.bl)) := by
    rw [upd_ne (ne_of_none gp npw)]
    exact gp
  have sG2 := sG.trans (same_new (o := .lst [.str "block", .str "place", .str "others", .str "many"]) npw)
  have gw : (upd G pw (.lst [.str "block", .str "place", .str "others", .str "many"])) pw = some (.lst (words31.map V.str)) := upd_same
  generalize upd G pw (.lst [.str "block", .str "place", .str "others", .str "many"]) = G2 at gq sG2 gw ⊢
  refine v_bm (v_var rfl (v_bmL gq (v_cons (v_c (v_nil ?_)))))
  refine ⟨p, fl.map V.bl, .bl true, j, .bl true, rfl, rfl, SqL.of gq, rfl, fla, by rw [List.getElem?_map, hz]; rfl, rfl, fun m z' hm hz' => ?_, ?_⟩
  · rw [List.getElem?_map] at hz'
    cases e : fl[m]? with
    | none => rw [e] at hz'; cases hz'
    | some b =>
      rw [e] at hz'
      cases hz'
      rw [fst m b hm e]
      rfl
  obtain ⟨w, hw⟩ : ∃ w, words31[j]? = some w := ⟨_, List.getElem?_eq_getElem (show j < words31.length from hj)⟩
  refine .inl ⟨pw, words31.map V.str, j, .str w, rfl, rfl, SqL.of gw, ?_, ?_⟩
  · refine atI_of (jj := j) rfl ?_
    rw [List.getElem?_map, hw]
    rfl
  refine v_name ?_
  dsimp only
  refine v_ifs (v_and (v_test (v_op (v_var rfl (v_c ⟨rfl, _, rfl, ?_⟩)))))
  by_cases e3 : j = 3
  · obtain ⟨rfl, dd, rfl, hdd⟩ := mo e3
    have ew : w = "many" := by
      rw [e3] at hw
      exact (Option.some.inj hw).symm
    subst ew
    rw [decide_eq_true rfl]
    refine v_iteT ?_
    refine v_test (v_op (v_xf (v_var rfl ⟨rfl, rfl, dd, _, .int 10, rfl, sG2 _ _ hdd, rfl, ?_⟩)))
    refine v_c (v_neI ⟨_, rfl, ?_⟩)
    refine v_iteF ?_
    exact nx _ _ "many" rfl hw rfl sG2
  · have ew : (V.str w = V.str "many") = False := by
      rcases j4 with rfl | rfl | rfl | rfl
      · cases hw; decide
      · cases hw; decide
      · cases hw; decide
      · exact absurd rfl e3
    rw [decide_eq_false (fun z => by rw [ew] at z; exact z)]
    refine v_iteF (v_iteF ?_)
    exact nx _ _ w rfl hw rfl sG2
end
/-- what is known of the four classes -/
structure W31 (K : PySem.W.Frag) (cs : List Addr) (V : Addr) : Prop where
  xc : ∀ C ∈ cs, XCls K C
  kv : ∀ C ∈ cs, PySem.W.kitOne K (.ref C) (.type "ValueError") = some true
  ex : ∀ C ∈ cs, PySem.W.exmOne K (.ref C) (.ref V) = some true
  k : ∀ (i j : Nat) (C C' : Addr), cs[i]? = some C → cs[j]? = some C' → PySem.W.kitOne K (.ref C) (.ref C') = some (decide (i = j))
/-- what x makes of it: an own error's word, or let; the last one keeps a number -/
def TTwM (tab : List (Addr × Str)) (C0 : Addr) (w0 f0 : Str) (z0 : Int) : (XK → Hp → VK → Prop) → Hp → VK → Prop := fun tl H Q =>
  tl (fun cls d H' => (d = none ∧ ∃ (C : Addr) (w : Str), cls = .ref C ∧ (C, w) ∈ tab ∧ ∀ G, Same H' G → Q (.str w) G) ∨ (cls = .ref C0 ∧ ∃ dd, d = some dd ∧ H' dd = some (.xd [(f0, .int z0)]) ∧ ∀ G, Same H' G → Q (.str w0) G)) H
    (fun _ H' => ∃ v, (some (some (V.str "let")) : Option (Option V)) = some (some v) ∧ Q v H')
def tb4 (f c' : Addr) (q : Str) (tl : XK → Hp → VK → Prop) : WX → TS := fun W D σ H => ∃ E : XK, (∀ cls d σ' H', E cls d H' → σ'.length = 4 → W cls d σ' H') ∧ σ[0]? = some (some (.ref f)) ∧ H c' = some (LamX.CodeO c' q) ∧ σ[1]? = some (some (.str "let")) ∧ tl E H (fun _ H' => D.nx σ H')
def tab31 (cs : List Addr) : List (Addr × Str) := cs.zip ["block", "place", "others"]
def tW31 (K : PySem.W.Frag) (V c0 c1 c2 c3 : Addr) (tb : WX → TS) : TS :=
  tSeq (tAsg (tC (.str "let")) (gName 1)) (tSeq (tTryN K (.ref V) 2 tb (t_w31 K c0 c1 c2 c3)) (tRet (tVar 1)))
theorem word_out31 {K : PySem.W.Frag} {c0 c1 c2 c3 V f c' : Addr} {q : Str} (w : W31 K [c0, c1, c2, c3] V) {tl : XK → Hp → VK → Prop} {H : Hp} {Q : VK} {QN : L2.St → Hp → Prop}
    (hc : H c' = some (LamX.CodeO c' q)) (h : TTwM (tab31 [c0, c1, c2]) c3 "many" "most" 10 tl H Q) :
    tW31 K V c0 c1 c2 c3 (tb4 f c' q tl) { nx := QN, rt := Q } [some (.ref f), none, none, none] H := by
  unfold tW31
  refine v_seq (v_asg (v_c (v_name ?_)))
  refine v_seq ?_
  refine ⟨_, ?_, rfl, hc, rfl, h⟩
  have key : ∀ (j : Nat) (C : Addr) (wd : Str) (d : Option Addr) (σ' : L2.St) (H' : Hp), σ'.length = 4 → (∀ G, Same H' G → Q (.str wd) G) → j < 4 → [c0, c1, c2, c3][j]? = some C → words31[j]? = some wd → XF d H' → (j = 3 → C = c3 ∧ ∃ dd, d = some dd ∧ H' dd = some (.xd [("most", .int 10)])) →
      wAs K (.ref V) 2 (t_w31 K c0 c1 c2 c3) (fun _ _ _ _ => False) { nx := fun τ G => tRet (tVar 1) { nx := QN, rt := Q } τ G, rt := Q } (.ref C) d σ' H' := by
    intro j C wd d σ' H' l4 hq hj hC hw xf mo
    have mC := List.mem_of_getElem? hC
    refine ⟨true, w.ex C mC, fun _ z _ => ?_, fun h => nomatch h⟩
    refine w31_run (j := j) (w.xc C mC) xf (w.kv C mC) (w.k j 0 C c0 hC rfl) (w.k j 1 C c1 hC rfl) (w.k j 2 C c2 hC rfl) (w.k j 3 C c3 hC rfl) hj mo l4 ?_
    intro σ2 G w2 l2 hw2 hs sG
    have : w2 = wd := by rw [hw] at hw2; exact (Option.some.inj hw2).symm
    subst this
    show tRet (tVar 1) _ (σ2.set 2 none) G
    refine ⟨.str w2, ?_, hq G sG⟩
    rw [List.getElem?_set_ne (by decide)]
    exact hs
  rintro cls d σ' H' (⟨rfl, C, wd, rfl, hm, hq⟩ | ⟨rfl, dd, rfl, hd, hq⟩) l4
  · simp only [tab31, List.zip_cons_cons, List.zip_nil_right, List.mem_cons, List.not_mem_nil, or_false, Prod.mk.injEq] at hm
    rcases hm with ⟨rfl, rfl⟩ | ⟨rfl, rfl⟩ | ⟨rfl, rfl⟩
    · exact key 0 _ _ _ _ _ l4 hq (by decide) rfl rfl (.inl rfl) (fun z => absurd z (by decide))
    · exact key 1 _ _ _ _ _ l4 hq (by decide) rfl rfl (.inl rfl) (fun z => absurd z (by decide))
    · exact key 2 _ _ _ _ _ l4 hq (by decide) rfl rfl (.inl rfl) (fun z => absurd z (by decide))
  · exact key 3 _ _ _ _ _ l4 hq (by decide) rfl rfl (.inr ⟨dd, _, rfl, hd⟩) (fun _ => ⟨rfl, dd, rfl, hd⟩)
/-! ### its data rule -/
def dLamM (tab : List (Addr × Str)) (C0 : Addr) (w0 f0 : Str) (z0 : Int) (f : Fn) (dv : DTV) : DTE := fun env P X => dCall true f dv env (fun _ env1 => P (.o (.fr (.str "let"))) env1)
  (fun e env1 => (e.fs = none ∧ ∃ (C : Addr) (w : Str), e.cls = .ref C ∧ (C, w) ∈ tab ∧ P (.o (.fr (.str w))) env1) ∨ (e.fs = some [(f0, .int z0)] ∧ e.cls = .ref C0 ∧ P (.o (.fr (.str w0))) env1))
theorem sim_lamM {W : WX} {tab : List (Addr × Str)} {C0 : Addr} {w0 f0 : Str} {z0 : Int} {ta : TA} {dv : DTV} {f : Fn} {n : Nat} (hn : ∀ os P PE, f os P PE → os.length = n) (ha : ∀ W, SimV W ta dv) :
    SimE W (tLamX tabT (TTwM tab C0 w0 f0 z0) fun E => tCall (spD (vals n) f) [] E ta) (dLamM tab C0 w0 f0 z0 f dv) := by
  intro F H env σ A Q P X g h xo k
  refine ⟨fun p hp => (g.rep.tab.1 p hp).ext g.sub, fun H1 ex => ?_⟩
  obtain ⟨F1, g1, s1⟩ := lam_good g ex
  have key := sim_callG (W := fun cls dd σ' H' => σ' = σ → ((dd = none ∧ ∃ (C : Addr) (w : Str), cls = .ref C ∧ (C, w) ∈ tab ∧ ∀ G, Same H' G → Q (.str w) G) ∨ (cls = .ref C0 ∧ ∃ a, dd = some a ∧ H' a = some (.xd [(f0, .int z0)]) ∧ ∀ G, Same H' G → Q (.str w0) G))) (b := true)
    (E := fun σ' cls dd H' => σ' = σ → ((dd = none ∧ ∃ (C : Addr) (w : Str), cls = .ref C ∧ (C, w) ∈ tab ∧ ∀ G, Same H' G → Q (.str w) G) ∨ (cls = .ref C0 ∧ ∃ a, dd = some a ∧ H' a = some (.xd [(f0, .int z0)]) ∧ ∀ G, Same H' G → Q (.str w0) G))) (fun _ _ _ _ _ h => h) hn (ha _)
    F1 H1 env σ A (fun _ H' => ∃ v, (some (some (V.str "let")) : Option (Option V)) = some (some v) ∧ Q v H') _ _ g1 h
    (fun cls dd e env' σ' F' H' A' g' s' rx hx eσ => by
      subst eσ
      have out : ∀ (w : Str), P (.o (.fr (.str w))) env' → ∀ G, Same H' G → Q (.str w) G := fun w hp G sG => by
        obtain ⟨g2, s2⟩ := same_good g' sG
        exact k (.str w) (.o (.fr (.str w))) env' F' G A' [] g2 (((s1.trans s').trans s2).mem fun a m => by rw [List.append_nil] at m; exact m) (.dat g2 (d := .str w) rfl) hp
      rcases hx with ⟨en, C, w, ec, hm, hp⟩ | ⟨en, ec, hp⟩
      · exact .inl ⟨by have := rx.2; rw [en] at this; exact this, C, w, by rw [rx.1, ec], hm, out w hp⟩
      · have r2 := rx.2
        rw [en] at r2
        obtain ⟨a, xs, e1, e2, e3⟩ := r2
        refine .inr ⟨by rw [rx.1, ec], a, e1, ?_, out w0 hp⟩
        rw [g'.sub _ _ e2]
        obtain ⟨x, r, rfl, rx', rr⟩ := e3
        obtain rfl : r = [] := rr
        obtain rfl : x = .int z0 := rx'
        rfl)
    (fun x r env' F' H' A' C g' s' rr hp => ⟨_, rfl, k (.str "let") (.o (.fr (.str "let"))) env' F' H' A' [] g' ((s1.trans s').mem fun a m => by rw [List.append_nil] at m; exact List.mem_append_left _ m) (.dat g' (d := .str "let") rfl) hp⟩)
  simp only [true_implies] at key
  show tCall _ _ _ _ _ _ _
  rw [tCall_eq]
  exact key

section
variable {X : Cx} {e : Expr} {es : List Expr} {ta : TA} {p pos : Pos}
theorem pmk_oexN {CX : CXT} {x : Str} {C gi : Addr} {k : Nat} {fd : FuncData} {ps : List Str} {sp : Sp} (T : OexC X.K C)
    (iC : PySem.W.findIn X.K (.ref C) "__init__" = some (some (.ref gi)))
    (tI : PySem.W.typeIn X.K (.ref gi) = some (.type "function"))
    (F1 : FnOk X.prog X.w X.K X.mg X.base CX k gi fd ps sp)
    (hr : Room (k + 1) X.A) (hb : Binds X.K fd ps []) (hx : Passes CX X (fun _ _ _ => False))
    (hg : Gl X x) (hm : X.mg x = some (.ref C)) (ha : PA X (e :: es) ta)
    (hdb : (x == ("__debug__" : Str)) = false := by decide)
    (he : starEach (e :: es) X.env = (false, eval e X.env) :: starEach es X.env := by rfl)
    (hpl : (backTo pos (starEach es X.env)).any (·.1) = false := by rfl) :
    L2N.PMk X (.Call (.Name x p) (e :: es) [] pos) (tMkO C sp [] ta) := by
  intro pins s0 σ H Q I0 want
  obtain ⟨_, _, _, _, bm, _, _, _, _, _, _, _, _, _, _, hC, hbm⟩ := T.cls
  refine wpAny_Call_Name_kw (ld_glob I0 hg hm ?_ hdb)
  refine PySem.W.callWith_K (h₀ := X.base) I0.ok.mod.kin T.kC
    (thn (ha.run pos pins s0 σ H _ I0 want) fun us s1 hh => ?_) he hpl
  obtain ⟨vs, H1, J, r1, _, q1⟩ := hh
  refine ⟨J.kIn, ?_⟩
  show wpAny _ _ (call (.ref C) us) _ _ _
  obtain ⟨hp, g, dr, tk, os⟩ := s1
  generalize hn : hp.objs.size = n
  have fresh : H1 (n + 1) = none := J.hok.fresh (by rw [← hn]; exact Nat.le_succ _)
  have hq := q1 (n + 1) fresh
  rw [List.append_nil] at hq
  generalize hh2 : (hp.push (PySem.W.kdv_tup us)).push (PySem.HandSPX.excO C n) = hp2
  have old : ∀ b o, hp.get? b = some o → hp2.get? b = some o := fun b o z => by
    rw [← hh2]
    exact Heap.get?_push_of_some _ (Heap.get?_push_of_some _ z)
  have there : hp2.get? (n + 1) = some (PySem.HandSPX.excO C n) := by
    rw [← hh2, ← hn]
    heap_get
  have J2 : Inv X pins σ (upd H1 (n + 1) (exo (n + 1) C none)) ⟨hp2, g, dr, tk, os⟩ :=
    J.laid (t' := tk) (h' := hp2) old (by rw [← hn]; exact Nat.le_succ _) (exo_ok there)
  have r2 : Vals (V.ref (n + 1) :: vs) (Value.ref (n + 1) :: us) := .cons rfl r1
  have len : (Value.ref (n + 1) :: us ++ []).length = ps.length := by
    have z := r2.length
    rw [F1.len _ _ _ _ hq] at z
    rw [List.append_nil]
    exact z.symm
  have small : us.length ≤ sizeLine := by
    have z := Paired.length r1
    rw [sizeLine_eq]
    omega
  have bound := hb _ (Value.ref (n + 1) :: us) J2.kIn len
  rw [List.append_nil] at bound
  have ran := F1.run _ X.stack _ _ ⟨Value.ref (n + 1) :: us, []⟩ (Value.ref (n + 1) :: us) _ _ (fun _ _ _ => False) (hr.make C us []) (J2.env0.make C us []) bound r2 hq
  subst hn
  subst hh2
  refine wpAny_call (PySem.HandSPX.call_own F.excBase_ValueError (fun Y => PySem.HandSPX.refsVE_contains Y bm hbm) (J.kIn _ _ hC) (PySem.W.looks_findIn J.kIn iC)
    (fun self => PySem.W.bind_fn J.kIn self tI) small (codeAny_mono ran fun r s2 hr2 => ?_))
  cases r with
  | error er => exact hx pins σ _ _ er s2 J2 hr2
  | ok fl =>
    cases fl with
    | ret u =>
      obtain ⟨v, H2, o2, b2, un2, k2, rv, ev, d, fs, ea, ed, hd1, q2⟩ := hr2
      subst ev
      obtain ⟨h2, g2, d2, t2, os'⟩ := s2
      obtain ⟨t0, G, J3, kG, ge, hoe, na⟩ := mk_end0 (d2 := d2) (t2 := t2) J (Nat.le_succ _) old un2 k2 o2 b2 ea ed hd1
      exact ⟨rv, hp.objs.size + 1, _, _, ⟨G, g2, d2, t2, os'⟩, _, .ref C, some d, rfl, J3, kG, ge, hoe, ⟨rfl, rfl, fun ws z => by cases z; rfl⟩, rfl, rfl, na, rfl, b2, raises_own T.exC T.tyC, q2⟩
    | next => exact False.elim hr2
    | brk => exact False.elim hr2
    | cont => exact False.elim hr2
end

/-! more step rules -/
section
variable {c : Addr} {P : O → List O → Prop}
theorem a_par {i j : Nat} {ta : DTV} {DD : DEnds} {env : DEnv} (h : ta env (fun ds env1 => match ds with
  | [d, e] => dName i (.fr d) env1 (fun env2 => dName j (.fr e) env2 DD.nx DD.ex) DD.ex
  | _ => False) DD.ex) : dPar i j ta DD env := h

end
section
variable {P : R → DEnv → Prop} {X : DX} {env : DEnv} {i : Nat} {a : DTE} {d : D} {ds : List D} {os : List O}
/-- xs.pop(i) -/
def popAtK (i : Nat) (o : O) (env2 : DEnv) (P : R → DEnv → Prop) : Prop := oth (contAt env2 i []) fun u => match u with
  | .lst os => fPopAt os o fun os' z => P (.o z) (setAt env2 i [] (.lst os'))
  | _ => False
theorem a_popAtM (h : contAt env i [] = some (.lst os)) (q : a env (fun r env1 => toO r env1 fun o env2 => popAtK i o env2 P) X) : dMeth1 fPopAt i a env P X := ⟨by rw [h]; rfl, q⟩
theorem map_erase' {α β : Type} (f : α → β) : ∀ (l : List α) (i : Nat), (l.map f).eraseIdx i = (l.eraseIdx i).map f
  | [], _ => rfl
  | _ :: _, 0 => rfl
  | a :: l, i + 1 => by
    show f a :: (l.map f).eraseIdx i = f a :: (l.eraseIdx i).map f
    rw [map_erase' f l i]
theorem a_popAt {n : Int} {j : Nat} (h : env[i]? = some (.ow (oL ds))) (e : n = (j : Int)) (hj : ds[j]? = some d) (l : ds.length ≤ 1000) (q : P (.d d) (env.set i (.ow (oL (ds.eraseIdx j))))) : popAtK i (.fr (.int n)) env P := by
  subst e
  unfold popAtK
  have hl := (List.getElem?_eq_some_iff.mp hj).1
  have ec : contAt env i [] = some (oL ds) := by
    unfold contAt
    rw [h]
    rfl
  rw [ec]
  refine ⟨⟨by omega, by omega⟩, ?_⟩
  have e1 : seqIndex? (j : Int) (ds.map O.fr).length = some j := by
    exact (ixN_seq (ixN_of rfl (by rw [List.length_map]; exact hl))).1
  rw [e1]
  show oth (ds.map O.fr)[j]? fun u => P (.o u) (setAt env i [] (.lst ((ds.map O.fr).eraseIdx j)))
  rw [List.getElem?_map, hj, map_erase']
  have e3 : setAt env i [] (oL (ds.eraseIdx j)) = env.set i (.ow (oL (ds.eraseIdx j))) := by
    unfold setAt
    rw [h]
    rfl
  show P (.d d) (setAt env i [] (oL (ds.eraseIdx j)))
  rw [e3]
  exact q
/-! objects of own classes in slots -/
theorem a_varI {C : Addr} {gs : List (Str × O)} (h : env[i]? = some (.ow (.ins C gs))) (q : P (.p i []) env) : dVar i env P X := by
  unfold dVar
  rw [h]
  exact q
theorem a_fldI {Cs : List Addr} {fl : Str} {C : Addr} {gs : List (Str × O)} {gd : List (Str × D)} {KR : R → Prop} {path : List PSt} (h : contAt env i path = some (.ins C gs)) (e : (O.ins C gs).flat = some (.ins C gd)) (hC : C ∈ Cs) (l : gd.lookup fl = some d) (q : KR (.d d)) : fldR Cs fl (.p i path) env KR := by
  unfold fldR
  have e1 : peek (.p i path) env = some (.ins C gd) := by
    show (match contAt env i path with
      | some o => o.flat
      | none => none) = _
    rw [h]
    exact e
  rw [e1]
  dsimp only
  rw [l]
  exact ⟨hC, q⟩
theorem a_forceI {KD : D → DEnv → Prop} {o : O} (h : env[i]? = some (.ow o)) (q : KD o.frz (env.set i (.ow (.fr o.frz)))) : force (.p i []) env KD := by
  show (match env[i]? with
    | some (.ow o) => (match o.at [] with
      | some o1 => KD o1.frz (env.set i (.ow (o.put [] (.fr o1.frz))))
      | none => False)
    | some (.bo o) => False
    | _ => False)
  rw [h]
  exact q
end
theorem cutD_drop {α : Type} (f : α → D) (ns : List α) (v : Nat) : cutD (ns.map f) (some (v : Int)) none = (ns.drop v).map f := by
  unfold cutD
  rw [HT.sIx_none, HT.sIx_nat, List.length_map, List.map_drop]
  by_cases hv : v ≤ ns.length
  · rw [Nat.min_eq_left hv]
    exact List.take_of_length_le (by rw [List.length_drop, List.length_map]; omega)
  · rw [Nat.min_eq_right (by omega), List.drop_eq_nil_of_le (by rw [List.length_map]; omega), List.drop_eq_nil_of_le (by rw [List.length_map]; omega), List.take_nil]

/-! ### ways up, blocks beneath -/
def way (hs : List Int) : Nat → Int → List Int
  | 0, _ => []
  | k + 1, h => if h = 0 then [] else stp hs h :: way hs k (stp hs h)
def wy (hs : List Int) (h : Int) : List Int := way hs hs.length h
theorem way_zero (hs : List Int) : ∀ k, way hs k 0 = []
  | 0 => rfl
  | k + 1 => if_pos rfl
theorem way_more {hs : List Int} : ∀ {k : Nat} {h : Int}, up hs k h = 0 → way hs (k + 1) h = way hs k h
  | 0, h, e => by
    have e' : h = 0 := e
    subst e'
    exact if_pos rfl
  | k + 1, h, e => by
    by_cases z : h = 0
    · subst z
      rw [way_zero, way_zero]
    · show (if h = 0 then [] else stp hs h :: way hs (k + 1) (stp hs h)) = (if h = 0 then [] else stp hs h :: way hs k (stp hs h))
      rw [if_neg z, if_neg z, way_more (k := k) e]
section
variable {hs : List Int} {c p h : Int}
theorem IsTree.up0 (t : IsTree hs) (h0 : 0 ≤ h) (h1 : h ≤ hs.length) : up hs hs.length h = 0 := by
  by_cases z : h = 0
  · rw [z, up_zero]
  · obtain ⟨k, hk, e⟩ := of_leads (t.2.2.2.2 (h.toNat - 1) (by omega))
    rw [show (((h.toNat - 1 : Nat) : Int) + 1) = h by omega] at e
    exact up_past e hk
theorem wy_zero : wy hs 0 = [] := way_zero ..
theorem wy_cons (t : IsTree hs) (h0 : 1 ≤ h) (h1 : h ≤ hs.length) : wy hs h = stp hs h :: wy hs (stp hs h) := by
  unfold wy
  rw [← way_more (t.up0 (by omega) h1)]
  show (if h = 0 then [] else _) = _
  rw [if_neg (by omega)]
theorem stp_in (p : Pls hs) (h : Int) : 0 ≤ stp hs h ∧ stp hs h ≤ hs.length := by
  unfold stp
  split
  · exact ⟨Int.le_refl _, Int.natCast_nonneg _⟩
  · exact p.at _
theorem stp_at {k : Nat} {z : Int} (h : hs[k]? = some z) : stp hs ((k : Int) + 1) = z := by
  unfold stp
  rw [if_neg (by omega), show (((k : Int) + 1).toNat - 1) = k by omega, List.getD_eq_getElem?_getD, h]
  rfl
theorem stp_get (h0 : 1 ≤ h) (h1 : h ≤ hs.length) : hs[h.toNat - 1]? = some (stp hs h) := by
  have hk : h.toNat - 1 < hs.length := by omega
  have := stp_at (List.getElem?_eq_getElem hk)
  rw [show (((h.toNat - 1 : Nat) : Int) + 1) = h by omega] at this
  rw [this, List.getElem?_eq_getElem hk]
theorem dep_stp (t : IsTree hs) (h0 : 1 ≤ h) (h1 : h ≤ hs.length) : (wy hs h).length = (wy hs (stp hs h)).length + 1 := by
  rw [wy_cons t h0 h1, List.length_cons]
/-- along the way up it is ever less deep -/
theorem dep_mem (t : IsTree hs) : ∀ (d : Nat) (c : Int), (wy hs c).length = d → 0 ≤ c → c ≤ hs.length → ∀ p, p ∈ wy hs c → (wy hs p).length < d ∧ 0 ≤ p ∧ p ≤ hs.length
  | 0, c, e, _, _, p, m => by rw [List.length_eq_zero_iff.mp e] at m; cases m
  | d + 1, c, e, h0, h1, p, m => by
    have nz : c ≠ 0 := fun z => by rw [z, wy_zero] at m; cases m
    have ds := dep_stp t (h := c) (by omega) h1
    have si := stp_in t.2.2.1 c
    rw [wy_cons t (by omega) h1] at m
    rcases List.mem_cons.mp m with z | m
    · rw [z]
      exact ⟨by omega, si⟩
    · have q := dep_mem t d (stp hs c) (by omega) si.1 si.2 p m
      exact ⟨by omega, q.2⟩
def blocks (n : Nat) : List Int := (List.range n).map fun (k : Nat) => (k : Int) + 1
theorem blocks_len (n : Nat) : (blocks n).length = n := by
  unfold blocks
  rw [List.length_map, List.length_range]
theorem blocks_mem {n : Nat} : c ∈ blocks n ↔ 1 ≤ c ∧ c ≤ n := by
  unfold blocks
  rw [List.mem_map]
  constructor
  · rintro ⟨k, hk, rfl⟩
    have := List.mem_range.mp hk
    omega
  · rintro ⟨a, b⟩
    exact ⟨c.toNat - 1, List.mem_range.mpr (by omega), by omega⟩
theorem blocks_nodup (n : Nat) : (blocks n).Nodup := by
  unfold blocks
  refine List.Pairwise.map _ (fun a b h => ?_) List.nodup_range
  intro e
  exact h (by omega)
theorem blocks_sorted (n : Nat) : (blocks n).Pairwise (· < ·) := by
  unfold blocks
  refine List.Pairwise.map _ (fun a b h => ?_) List.pairwise_lt_range
  omega
/-- the first i blocks that hang at p -/
def hangN (hs : List Int) (p : Int) (i : Nat) : List Int := (blocks i).filter fun c => decide (stp hs c = p)
def hang (hs : List Int) (p : Int) : List Int := hangN hs p hs.length
/-- the first i blocks beneath p -/
def benN (hs : List Int) (p : Int) (i : Nat) : List Int := (blocks i).filter fun c => decide (p ∈ wy hs c)
def ben (hs : List Int) (p : Int) : List Int := benN hs p hs.length
theorem mem_hang : c ∈ hang hs p ↔ (1 ≤ c ∧ c ≤ hs.length) ∧ stp hs c = p := by
  unfold hang hangN
  rw [List.mem_filter, blocks_mem, decide_eq_true_eq]
theorem mem_ben : c ∈ ben hs p ↔ (1 ≤ c ∧ c ≤ hs.length) ∧ p ∈ wy hs c := by
  unfold ben benN
  rw [List.mem_filter, blocks_mem, decide_eq_true_eq]
theorem hang_nodup : (hang hs p).Nodup := (blocks_nodup _).filter _
theorem ben_nodup : (ben hs p).Nodup := (blocks_nodup _).filter _
theorem ben_sorted : (ben hs p).Pairwise (· < ·) := (blocks_sorted _).filter _
/-- the search for what is beneath p: F found, W waiting -/
structure Dfs (hs : List Int) (p : Int) (F W : List Int) : Prop where
  fn : F.Nodup
  fb : ∀ c ∈ F, (1 ≤ c ∧ c ≤ hs.length) ∧ p ∈ wy hs c
  wn : W.Nodup
  wf : ∀ w ∈ W, w = p ∨ w ∈ F
  np : ∀ c ∈ F, stp hs c ∉ W
  pf : ∀ c ∈ F, stp hs c = p ∨ stp hs c ∈ F
  cl : ∀ c : Int, 1 ≤ c → c ≤ hs.length → (stp hs c = p ∨ stp hs c ∈ F) → stp hs c ∉ W → c ∈ F
theorem Dfs.start : Dfs hs p [] [p] where
  fn := List.nodup_nil
  fb := fun _ h => nomatch h
  wn := List.nodup_cons.mpr ⟨List.not_mem_nil, List.nodup_nil⟩
  wf := fun w h => .inl (List.mem_singleton.mp h)
  np := fun _ h => nomatch h
  pf := fun _ h => nomatch h
  cl := fun c _ _ h n => by
    rcases h with h | h
    · exact absurd (List.mem_singleton.mpr h) n
    · exact nomatch h
theorem Dfs.step (t : IsTree hs) (p0 : 0 ≤ p) (p1 : p ≤ hs.length) {F W : List Int} {w : Int} (d : Dfs hs p F (W ++ [w])) : Dfs hs p (F ++ hang hs w) (W ++ hang hs w) := by
  have hw : w = p ∨ w ∈ F := d.wf w (List.mem_append_right _ (List.mem_singleton.mpr rfl))
  have hA : ∀ c, c ∈ hang hs w → c ∉ F := fun c hc hf => d.np c hf (by rw [(mem_hang.mp hc).2]; exact List.mem_append_right _ (List.mem_singleton.mpr rfl))
  have hdep : (wy hs p).length ≤ (wy hs w).length := by
    rcases hw with z | z
    · rw [z]; exact Nat.le_refl _
    · have b := d.fb w z
      exact Nat.le_of_lt (dep_mem t _ w rfl (by omega) b.1.2 p b.2).1
  have hB : ∀ c, c ∈ hang hs w → c ≠ p := fun c hc z => by
    have m := mem_hang.mp hc
    have := dep_stp t m.1.1 m.1.2
    rw [m.2, z] at this
    omega
  have hC : w ∉ hang hs w := fun hc => by
    have m := mem_hang.mp hc
    have := dep_stp t m.1.1 m.1.2
    rw [m.2] at this
    omega
  have wn := List.nodup_append.mp d.wn
  have wW : w ∉ W := fun z => wn.2.2 w z w (List.mem_singleton.mpr rfl) rfl
  refine ⟨?_, ?_, ?_, ?_, ?_, ?_, ?_⟩
  · exact List.nodup_append.mpr ⟨d.fn, hang_nodup, fun a ha b hb z => hA b hb (z ▸ ha)⟩
  · intro c hc
    rcases List.mem_append.mp hc with hc | hc
    · exact d.fb c hc
    · have m := mem_hang.mp hc
      refine ⟨m.1, ?_⟩
      rw [wy_cons t m.1.1 m.1.2, m.2]
      rcases hw with z | z
      · rw [z]; exact List.mem_cons_self
      · exact List.mem_cons_of_mem _ (d.fb w z).2
  · refine List.nodup_append.mpr ⟨wn.1, hang_nodup, fun a ha b hb z => ?_⟩
    subst z
    rcases d.wf a (List.mem_append_left _ ha) with z | z
    · exact hB a hb z
    · exact hA a hb z
  · intro x hx
    rcases List.mem_append.mp hx with hx | hx
    · rcases d.wf x (List.mem_append_left _ hx) with z | z
      · exact .inl z
      · exact .inr (List.mem_append_left _ z)
    · exact .inr (List.mem_append_right _ hx)
  · intro c hc hx
    rcases List.mem_append.mp hc with hc | hc
    · rcases List.mem_append.mp hx with hx | hx
      · exact d.np c hc (List.mem_append_left _ hx)
      · rcases d.pf c hc with z | z
        · exact hB _ hx z
        · exact hA _ hx z
    · rw [(mem_hang.mp hc).2] at hx
      rcases List.mem_append.mp hx with hx | hx
      · exact wW hx
      · exact hC hx
  · intro c hc
    rcases List.mem_append.mp hc with hc | hc
    · rcases d.pf c hc with z | z
      · exact .inl z
      · exact .inr (List.mem_append_left _ z)
    · rw [(mem_hang.mp hc).2]
      rcases hw with z | z
      · exact .inl z
      · exact .inr (List.mem_append_left _ z)
  · intro c c0 c1 hs' hn
    by_cases e : stp hs c = w
    · exact List.mem_append_right _ (mem_hang.mpr ⟨⟨c0, c1⟩, e⟩)
    · refine List.mem_append_left _ (d.cl c c0 c1 ?_ fun z => ?_)
      · rcases hs' with z | z
        · exact .inl z
        · rcases List.mem_append.mp z with z | z
          · exact .inr z
          · exact absurd (List.mem_append_right _ z) hn
      · rcases List.mem_append.mp z with z | z
        · exact hn (List.mem_append_left _ z)
        · exact e (List.mem_singleton.mp z)
theorem Dfs.len {F W : List Int} (d : Dfs hs p F W) : F.length ≤ hs.length := by
  have := List.Nodup.length_le_of_subset d.fn (l₂ := blocks hs.length) fun c hc => blocks_mem.mpr (d.fb c hc).1
  rwa [blocks_len] at this
theorem Dfs.all (t : IsTree hs) {F : List Int} (d : Dfs hs p F []) : ∀ (k : Nat) (c : Int), (wy hs c).length = k → c ∈ ben hs p → c ∈ F
  | 0, c, e, h => by
    have m := mem_ben.mp h
    rw [List.length_eq_zero_iff.mp e] at m
    cases m.2
  | k + 1, c, e, h => by
    have m := mem_ben.mp h
    have ds := dep_stp t m.1.1 m.1.2
    have q := m.2
    rw [wy_cons t m.1.1 m.1.2] at q
    rcases List.mem_cons.mp q with z | z
    · exact d.cl c m.1.1 m.1.2 (.inl z.symm) List.not_mem_nil
    · have nz : stp hs c ≠ 0 := fun y => by rw [y, wy_zero] at z; cases z
      have si := stp_in t.2.2.1 c
      exact d.cl c m.1.1 m.1.2 (.inr (d.all t k (stp hs c) (by omega) (mem_ben.mpr ⟨⟨by omega, si.2⟩, z⟩))) List.not_mem_nil
theorem Dfs.done (t : IsTree hs) {F S : List Int} (d : Dfs hs p F []) (pm : S.Perm F) (so : S.Pairwise (· ≤ ·)) : S = ben hs p := by
  refine List.Perm.eq_of_pairwise (le := (· ≤ ·)) (fun a b _ _ h1 h2 => Int.le_antisymm h1 h2) so (ben_sorted.imp fun h => Int.le_of_lt h) ?_
  refine pm.trans ((List.perm_ext_iff_of_nodup d.fn ben_nodup).mpr fun c => ⟨fun h => ?_, fun h => d.all t _ c rfl h⟩)
  exact mem_ben.mpr (d.fb c h)
end

/-! ### blocks hung elsewhere -/
theorem lead_any {hs : List Int} (p : Pls hs) {b : Int} (h0 : 0 ≤ b) (h1 : b ≤ hs.length) : ∀ (m k : Nat), k ≤ m → up hs k b = 0 → leads hs b = true
  | m, k, hm, e => by
    by_cases hk : k ≤ hs.length
    · exact leads_true hk e
    · by_cases q : ∃ j, j ≤ hs.length ∧ up hs j b = 0
      · obtain ⟨j, hj, q⟩ := q
        exact leads_true hj q
      · have nz : ∀ j, j ≤ hs.length → up hs j b ≠ 0 := fun j hj z => q ⟨j, hj, z⟩
        obtain ⟨i, j, hij, hj, g⟩ := pigeon hs.length (fun k => (up hs k b).toNat - 1) fun k hk => by
          have := up_in p k b h0 h1
          have := nz k hk
          omega
        have e1 : up hs i b = up hs j b := by
          have := up_in p i b h0 h1
          have := up_in p j b h0 h1
          have := nz i (by omega)
          have := nz j hj
          have g' : (up hs i b).toNat - 1 = (up hs j b).toNat - 1 := g
          omega
        cases m with
        | zero => omega
        | succ m =>
          refine lead_any p h0 h1 m (i + (k - j)) (by omega) ?_
          rw [up_add, e1, ← up_add, show j + (k - j) = k by omega]
          exact e
section
variable {hs ms : List Int} {b c p h : Int}
theorem stp_set (b0 : 1 ≤ b) (b1 : b ≤ hs.length) (c0 : 0 ≤ c) : stp (hs.set (b.toNat - 1) p) c = if c = b then p else stp hs c := by
  unfold stp
  by_cases z : c = 0
  · rw [if_pos z, if_pos z, if_neg (by omega)]
  · rw [if_neg z, if_neg z, List.getD_eq_getElem?_getD, List.getD_eq_getElem?_getD]
    by_cases e : c = b
    · subst e
      rw [List.getElem?_set_self (by omega), if_pos rfl]
      rfl
    · rw [List.getElem?_set_ne (by omega), if_neg e]
theorem IsTree.ne (t : IsTree hs) (h0 : 1 ≤ h) (h1 : h ≤ hs.length) : stp hs h ≠ h := fun e => by
  have := t.2.2.2.1 (h.toNat - 1) _ (stp_get h0 h1)
  omega
/-- what a tree's row must be, by steps up -/
theorem tree_of (l1 : 1 ≤ hs.length) (l2 : hs.length ≤ 40) (pl : ∀ c, 1 ≤ c → c ≤ (hs.length : Int) → 0 ≤ stp hs c ∧ stp hs c ≤ hs.length) (ne : ∀ c, 1 ≤ c → c ≤ (hs.length : Int) → stp hs c ≠ c)
    (ld : ∀ c, 1 ≤ c → c ≤ (hs.length : Int) → ∃ k, up hs k c = 0) : IsTree hs := by
  have P : Pls hs := fun x hx => by
    obtain ⟨k, hk⟩ := List.mem_iff_getElem?.mp hx
    have hl := (List.getElem?_eq_some_iff.mp hk).1
    have := pl ((k : Int) + 1) (by omega) (by omega)
    rw [stp_at hk] at this
    exact this
  refine ⟨l1, l2, P, fun k x hk e => ?_, fun k hk => ?_⟩
  · have hl := (List.getElem?_eq_some_iff.mp hk).1
    have := ne ((k : Int) + 1) (by omega) (by omega)
    rw [stp_at hk] at this
    exact this e
  · obtain ⟨m, e⟩ := ld ((k : Int) + 1) (by omega) (by omega)
    exact lead_any P (by omega) (by omega) m m (Nat.le_refl _) e
/-! ### blocks called anew -/
/-- an order of n blocks -/
structure Ord (n : Nat) (ms : List Int) : Prop where
  len : ms.length = n
  nd : ms.Nodup
  bl : ∀ m ∈ ms, 1 ≤ m ∧ m ≤ n
theorem Ord.at {n : Nat} (o : Ord n ms) (c0 : 1 ≤ c) (c1 : c ≤ n) : ms[c.toNat - 1]? = some (stp ms c) ∧ 1 ≤ stp ms c ∧ stp ms c ≤ n := by
  have e := stp_get (hs := ms) c0 (by rw [o.len]; exact c1)
  exact ⟨e, o.bl _ (List.mem_of_getElem? e)⟩
theorem stp_zero : stp ms 0 = 0 := if_pos rfl
theorem Ord.inj {n : Nat} (o : Ord n ms) {c d : Int} (c0 : 0 ≤ c) (c1 : c ≤ n) (d0 : 0 ≤ d) (d1 : d ≤ n) (e : stp ms c = stp ms d) : c = d := by
  by_cases z : c = 0
  · by_cases y : d = 0
    · rw [z, y]
    · have := (o.at (c := d) (by omega) d1).2
      rw [z, stp_zero] at e
      omega
  · by_cases y : d = 0
    · have := (o.at (c := c) (by omega) c1).2
      rw [y, stp_zero] at e
      omega
    · have hc := (o.at (c := c) (by omega) c1).1
      have hd := (o.at (c := d) (by omega) d1).1
      rw [e, ← hd] at hc
      have := (List.getElem?_inj (by rw [o.len]; omega) o.nd).mp hc
      omega
theorem Ord.perm {n : Nat} (o : Ord n ms) : ms.Perm (blocks n) := by
  refine (List.perm_ext_iff_of_nodup o.nd (blocks_nodup n)).mpr fun c => ⟨fun h => blocks_mem.mpr (o.bl c h), fun h => ?_⟩
  refine Classical.byContradiction fun nh => ?_
  have q := List.Nodup.length_le_of_subset (l₁ := c :: ms) (l₂ := blocks n) (List.nodup_cons.mpr ⟨nh, o.nd⟩) fun x hx => by
    rcases List.mem_cons.mp hx with z | z
    · rw [z]; exact h
    · exact blocks_mem.mpr (o.bl x z)
  rw [List.length_cons, o.len, blocks_len] at q
  omega
theorem Ord.sur {n : Nat} (o : Ord n ms) (c0 : 1 ≤ c) (c1 : c ≤ n) : ∃ d, 1 ≤ d ∧ d ≤ (n : Int) ∧ stp ms d = c := by
  obtain ⟨k, hk⟩ := List.mem_iff_getElem?.mp (o.perm.mem_iff.mpr (blocks_mem.mpr ⟨c0, c1⟩))
  have hl := (List.getElem?_eq_some_iff.mp hk).1
  rw [o.len] at hl
  exact ⟨(k : Int) + 1, by omega, by omega, stp_at hk⟩
/-- the row of what is called anew, block by block -/
def callF (hs ms : List Int) : Nat → List Int
  | 0 => List.replicate hs.length 0
  | i + 1 => (callF hs ms i).set ((stp ms ((i : Int) + 1)).toNat - 1) (stp ms (stp hs ((i : Int) + 1)))
def callL (hs ms : List Int) : List Int := callF hs ms hs.length
theorem callF_len : ∀ i, (callF hs ms i).length = hs.length
  | 0 => List.length_replicate
  | i + 1 => by
    show ((callF hs ms i).set _ _).length = _
    rw [List.length_set, callF_len i]
theorem callF_at (o : Ord hs.length ms) : ∀ (i : Nat), i ≤ hs.length → ∀ c, 1 ≤ c → c ≤ (i : Int) → stp (callF hs ms i) (stp ms c) = stp ms (stp hs c)
  | 0, _, c, c0, c1 => by omega
  | i + 1, hi, c, c0, c1 => by
    have w := o.at (c := (i : Int) + 1) (by omega) (by omega)
    have wc := o.at (c := c) c0 (by omega)
    show stp ((callF hs ms i).set _ _) _ = _
    rw [stp_set w.2.1 (by rw [callF_len]; exact w.2.2) (by omega)]
    by_cases e : c = (i : Int) + 1
    · rw [if_pos (by rw [e]), e]
    · rw [if_neg (fun z => e (o.inj (by omega) (by omega) (by omega) (by omega) z))]
      exact callF_at o i (by omega) c c0 (by omega)
theorem callL_len : (callL hs ms).length = hs.length := callF_len _
theorem callL_at (o : Ord hs.length ms) (c0 : 0 ≤ c) (c1 : c ≤ hs.length) : stp (callL hs ms) (stp ms c) = stp ms (stp hs c) := by
  by_cases z : c = 0
  · rw [z, stp_zero, stp_zero, stp_zero, stp_zero]
  · exact callF_at o _ (Nat.le_refl _) c (by omega) c1
theorem up_call (t : IsTree hs) (o : Ord hs.length ms) : ∀ (k : Nat) (c : Int), 0 ≤ c → c ≤ hs.length → up (callL hs ms) k (stp ms c) = stp ms (up hs k c)
  | 0, c, _, _ => rfl
  | k + 1, c, c0, c1 => by
    show up _ k (stp _ _) = stp ms (up hs k (stp hs c))
    rw [callL_at o c0 c1]
    have si := stp_in t.2.2.1 c
    exact up_call t o k _ si.1 si.2
theorem IsTree.call (t : IsTree hs) (o : Ord hs.length ms) : IsTree (callL hs ms) := by
  refine tree_of (by rw [callL_len]; exact t.1) (by rw [callL_len]; exact t.2.1) (fun c c0 c1 => ?_) (fun c c0 c1 => ?_) (fun c c0 c1 => ?_)
  all_goals
    rw [callL_len] at c1
    obtain ⟨d, d0, d1, rfl⟩ := o.sur c0 c1
    have si := stp_in t.2.2.1 d
  · rw [callL_at o (by omega) d1, callL_len]
    by_cases z : stp hs d = 0
    · rw [z, stp_zero]; omega
    · have := (o.at (c := stp hs d) (by omega) si.2).2
      omega
  · rw [callL_at o (by omega) d1]
    intro e
    exact t.ne d0 d1 (o.inj si.1 si.2 (by omega) d1 e)
  · refine ⟨hs.length, ?_⟩
    rw [up_call t o _ _ (by omega) d1, t.up0 (by omega) d1, stp_zero]
end

/-! ### tellings -/
section
variable {hs ks ms : List Int} {c p h : Int}
/-- layer by layer beneath a place -/
def layer (hs : List Int) (p : Int) : Nat → List Int
  | 0 => [p]
  | k + 1 => (layer hs p k).flatMap (hang hs)
/-- what is found in s steps -/
def found (hs : List Int) (p : Int) : Nat → List Int
  | 0 => []
  | s + 1 => found hs p s ++ layer hs p (s + 1)
/-- the blocks within s steps beneath p, ascending -/
def tieN (hs : List Int) (p : Int) (s : Nat) (i : Nat) : List Int := (blocks i).filter fun c => decide (p ∈ (wy hs c).take s)
def tie (hs : List Int) (p : Int) (s : Nat) : List Int := tieN hs p s hs.length
/-- ties: blocks with their places -/
def ties (hs : List Int) (p : Int) (s : Nat) : List (Int × Int) := (tie hs p s).map fun c => (c, stp hs c)
/-- what a place tells -/
def tell (hs : List Int) (v w : Nat) (p : Int) : List Int × List (Int × Int) := ((wy hs p).take v, ties hs p w)
end

section
variable {hs ks ms : List Int} {b c p h : Int}
/-! ### places that tell otherwise -/
def places (n : Nat) : List Int := (List.range n).map fun (k : Nat) => (k : Int)
end

/-! two unlike trees whose heads tell alike are unlike at so many places at least -/
section
variable {hs ks : List Int} {b c p : Int} {v w : Nat}
theorem least {Q : Int → Prop} (f : Int → Nat) : ∀ (n : Nat) (b : Int), Q b → f b ≤ n → ∃ b, Q b ∧ ∀ c, Q c → f b ≤ f c
  | 0, b, h, e => ⟨b, h, fun c _ => by omega⟩
  | n + 1, b, h, e => by
    by_cases z : ∃ c, Q c ∧ f c ≤ n
    · obtain ⟨c, hc, ec⟩ := z
      exact least f n c hc ec
    · refine ⟨b, h, fun c hc => ?_⟩
      have : ¬ f c ≤ n := fun q => z ⟨c, hc, q⟩
      omega
end

/-! the two trees of twins, of any size: a row of w blocks, two brothers beneath it, the rest at the head -/
section
variable {hs ks : List Int} {b c p : Int} {v w : Nat}
end

/-! ### drawn orders and trees: the mathematics -/
theorem nodup_at {l : List Int} (h : l.Nodup) {i j : Nat} {x : Int} (a : l[i]? = some x) (b : l[j]? = some x) : i = j := by
  obtain ⟨h1, e1⟩ := List.getElem?_eq_some_iff.mp a
  obtain ⟨h2, e2⟩ := List.getElem?_eq_some_iff.mp b
  exact (List.getElem_inj h).mp (e1.trans e2.symm)
theorem cover {n : Nat} {ms : List Int} (lm : ms.length = n) (nd : ms.Nodup) (rg : ∀ m ∈ ms, 1 ≤ m ∧ m ≤ n) {b : Int} (b0 : 1 ≤ b) (b1 : b ≤ n) : ∃ j : Nat, ms[j]? = some b := by
  by_cases hb : b ∈ ms
  · exact List.mem_iff_getElem?.mp hb
  · exfalso
    have nd2 : (b :: ms).Nodup := List.nodup_cons.mpr ⟨hb, nd⟩
    have rg2 : ∀ m ∈ b :: ms, 1 ≤ m ∧ m ≤ n := fun m hm => by
      rcases List.mem_cons.mp hm with e | hm
      · rw [e]; exact ⟨b0, b1⟩
      · exact rg m hm
    have at2 : ∀ k, k ≤ n → ∃ x, (b :: ms)[k]? = some x := fun k hk => ⟨_, List.getElem?_eq_getElem (by rw [List.length_cons]; omega)⟩
    obtain ⟨i, j, hij, hj, g⟩ := pigeon n (fun k => ((b :: ms).getD k 0).toNat - 1) fun k hk => by
      obtain ⟨x, hx⟩ := at2 k hk
      have := rg2 x (List.mem_of_getElem? hx)
      show ((b :: ms).getD k 0).toNat - 1 < n
      rw [List.getD_eq_getElem?_getD, hx]
      show x.toNat - 1 < n
      omega
    obtain ⟨x, hx⟩ := at2 i (by omega)
    obtain ⟨y, hy⟩ := at2 j hj
    have hx' := rg2 x (List.mem_of_getElem? hx)
    have hy' := rg2 y (List.mem_of_getElem? hy)
    have g' : ((b :: ms).getD i 0).toNat - 1 = ((b :: ms).getD j 0).toNat - 1 := g
    rw [List.getD_eq_getElem?_getD, hx, List.getD_eq_getElem?_getD, hy] at g'
    have g2 : x.toNat - 1 = y.toNat - 1 := g'
    have e : x = y := by omega
    rw [e] at hx
    exact absurd (nodup_at nd2 hx hy) (by omega)
theorem tree_of_order {n : Nat} {ms fs : List Int} (lm : ms.length = n) (nd : ms.Nodup) (rg : ∀ m ∈ ms, 1 ≤ m ∧ m ≤ n) (lf : fs.length = n) (h1 : 1 ≤ n) (h40 : n ≤ 40) (pl : ∀ h ∈ fs, 0 ≤ h ∧ h ≤ n)
    (inv : ∀ (j : Nat) (x : Int), 1 ≤ j → j ≤ n → (0 :: ms)[j]? = some x → ∃ (a : Nat) (y : Int), a < j ∧ (0 :: ms)[a]? = some y ∧ fs[(x - 1).toNat]? = some y) : IsTree fs := by
  have nd0 : (0 :: ms).Nodup := List.nodup_cons.mpr ⟨fun h => absurd (rg 0 h).1 (by decide), nd⟩
  have block : ∀ k : Nat, k < n → ∃ j : Nat, 1 ≤ j ∧ j ≤ n ∧ (0 :: ms)[j]? = some ((k : Int) + 1) := fun k hk => by
    obtain ⟨j, hj⟩ := cover lm nd rg (b := (k : Int) + 1) (by omega) (by omega)
    refine ⟨j + 1, by omega, ?_, by rw [List.getElem?_cons_succ]; exact hj⟩
    have := (List.getElem?_eq_some_iff.mp hj).1
    omega
  have home : ∀ (m j : Nat) (x : Int), j ≤ m → j ≤ n → (0 :: ms)[j]? = some x → ∃ k, k ≤ j ∧ up fs k x = 0 := by
    intro m
    induction m with
    | zero =>
      intro j x hj _ hx
      have e : j = 0 := by omega
      subst e
      exact ⟨0, Nat.le_refl _, (Option.some.inj hx).symm⟩
    | succ m ih =>
      intro j x hj hn hx
      by_cases j0 : j = 0
      · subst j0
        exact ⟨0, Nat.le_refl _, (Option.some.inj hx).symm⟩
      · obtain ⟨a, y, ha, hy, hf⟩ := inv j x (by omega) hn hx
        obtain ⟨k, hk, hu⟩ := ih a y (by omega) (by omega) hy
        have xp : 1 ≤ x := by
          obtain ⟨i, e⟩ : ∃ i, j = i + 1 := ⟨j - 1, by omega⟩
          rw [e, List.getElem?_cons_succ] at hx
          exact (rg x (List.mem_of_getElem? hx)).1
        refine ⟨k + 1, by omega, ?_⟩
        show up fs k (stp fs x) = 0
        have e : stp fs x = y := by
          unfold stp
          rw [if_neg (by omega), List.getD_eq_getElem?_getD, show x.toNat - 1 = (x - 1).toNat by omega, hf]
          rfl
        rw [e]
        exact hu
  refine ⟨by omega, by omega, fun h hh => by rw [lf]; exact pl h hh, fun k h hk => ?_, fun b hb => ?_⟩
  · have hk' : k < n := by rw [← lf]; exact (List.getElem?_eq_some_iff.mp hk).1
    obtain ⟨j, hj1, hjn, hj⟩ := block k hk'
    obtain ⟨a, y, ha, hy, hf⟩ := inv j _ hj1 hjn hj
    rw [show (((k : Int) + 1) - 1).toNat = k by omega, hk] at hf
    have e := Option.some.inj hf
    intro z
    rw [← e, z] at hy
    exact absurd (nodup_at nd0 hy hj) (by omega)
  · obtain ⟨j, hj1, hjn, hj⟩ := block b (by omega)
    obtain ⟨k, hk, hu⟩ := home j j _ (Nat.le_refl _) hjn hj
    exact leads_true (k := k) (by omega) hu
theorem perm_erase : ∀ (l : List Int) (i : Nat) (h : i < l.length), (l[i] :: l.eraseIdx i).Perm l
  | [], _, h => absurd h (Nat.not_lt_zero _)
  | _ :: _, 0, _ => List.Perm.refl _
  | a :: l, i + 1, h => by
    have ih := perm_erase l i (Nat.lt_of_succ_lt_succ h)
    show (l[i]'(Nat.lt_of_succ_lt_succ h) :: a :: l.eraseIdx i).Perm (a :: l)
    exact (List.Perm.swap _ _ _).trans (List.Perm.cons a ih)
section
variable {m w v : Nat}
end

/-! ### pairs in a heap -/
inductive Prs (H : Hp) : List V → List (Int × Int) → Prop where
  | nil : Prs H [] []
  | cons {t : Addr} {a b : Int} {xs : List V} {ps : List (Int × Int)} (h : H t = some (.tup [.int a, .int b])) (r : Prs H xs ps) : Prs H (.ref t :: xs) ((a, b) :: ps)
theorem Prs.same {H H' : Hp} {xs : List V} {ps : List (Int × Int)} (h : Prs H xs ps) (s : Same H H') : Prs H' xs ps := by
  induction h with
  | nil => exact .nil
  | cons h _ ih => exact .cons (s _ _ h) ih
theorem Prs.app {H : Hp} {xs ys : List V} {ps qs : List (Int × Int)} (h : Prs H xs ps) (k : Prs H ys qs) : Prs H (xs ++ ys) (ps ++ qs) := by
  induction h with
  | nil => exact k
  | cons h _ ih => exact .cons h ih
theorem Prs.len {H : Hp} {xs : List V} {ps : List (Int × Int)} (h : Prs H xs ps) : xs.length = ps.length := by
  induction h with
  | nil => rfl
  | cons _ _ ih => rw [List.length_cons, List.length_cons, ih]
theorem Prs.get {H : Hp} {xs : List V} {ps : List (Int × Int)} (h : Prs H xs ps) : ∀ {i : Nat} {x : V}, xs[i]? = some x → ∃ t a b, x = .ref t ∧ H t = some (.tup [.int a, .int b]) ∧ ps[i]? = some (a, b) := by
  induction h with
  | nil => intro i x e; cases e
  | cons h _ ih =>
    intro i x e
    cases i with
    | zero => cases e; exact ⟨_, _, _, rfl, h, rfl⟩
    | succ i => exact ih e
def pairOf (H : Hp) (x : V) : Int × Int := match x with
  | .ref t => (match H t with
    | some (.tup [.int a, .int b]) => (a, b)
    | _ => (0, 0))
  | _ => (0, 0)
theorem pairOf_ref {H : Hp} {t : Addr} {a b : Int} (h : H t = some (.tup [.int a, .int b])) : pairOf H (.ref t) = (a, b) := by
  show (match H t with
    | some (.tup [.int a, .int b]) => (a, b)
    | _ => (0, 0)) = _
  rw [h]
theorem Prs.map {H : Hp} {xs : List V} {ps : List (Int × Int)} (h : Prs H xs ps) : xs.map (pairOf H) = ps := by
  induction h with
  | nil => rfl
  | cons h _ ih => rw [List.map_cons, pairOf_ref h, ih]
theorem Prs.mem {H : Hp} {xs : List V} {ps : List (Int × Int)} (h : Prs H xs ps) : ∀ x ∈ xs, ∃ t, x = .ref t ∧ H t = some (.tup [.int (pairOf H x).1, .int (pairOf H x).2]) := by
  induction h with
  | nil => intro x hx; cases hx
  | cons h _ ih =>
    intro x hx
    rcases List.mem_cons.mp hx with e | hx
    · rw [e, pairOf_ref h]
      exact ⟨_, rfl, h⟩
    · exact ih x hx
/-! ### tellings in a heap -/
def TellAt (H : Hp) (x : V) (tl : List Int × List (Int × Int)) : Prop := ∃ (t a b : Addr) (xs : List V), x = .ref t ∧ H t = some (.tup [.ref a, .ref b]) ∧ H a = some (.tup (tl.1.map V.int)) ∧ H b = some (.tup xs) ∧ Prs H xs tl.2 ∧ tl.1.length ≤ 1000 ∧ tl.2.length ≤ 1000
theorem TellAt.same {H H' : Hp} {x : V} {tl : List Int × List (Int × Int)} (h : TellAt H x tl) (s : Same H H') : TellAt H' x tl := by
  obtain ⟨t, a, b, xs, e, h1, h2, h3, h4, h5⟩ := h
  exact ⟨t, a, b, xs, e, s _ _ h1, s _ _ h2, s _ _ h3, h4.same s, h5⟩
structure Cl where
  (Tree Words NoBlock NoPlace OtherBlocks TooMany BadTree BadWords VoteError : Addr)
structure Fa (K : PySem.W.Frag) (c : Cl) : Prop where
  cls : ClsOk K [c.Tree, c.Words]
  f_hung : ∀ C ∈ [c.Tree], Cls K C ∧ NoAttr K C "hung"
  f_blocks : ∀ C ∈ [c.Words], Cls K C ∧ NoAttr K C "blocks"
  f_ups : ∀ C ∈ [c.Words], Cls K C ∧ NoAttr K C "ups"
  f_lists : ∀ C ∈ [c.Words], Cls K C ∧ NoAttr K C "lists"
  w31 : W31 K [c.NoBlock, c.NoPlace, c.OtherBlocks, c.TooMany] c.VoteError



def u_is_integer (K : PySem.W.Frag) (c : Cl) : TS :=
  (tRet (tAndV (tCB (xIsiG K) (tCons (tVar 0) (tCons (tC (.ty "int")) tNil))) (tNotV (tCB (xIsiG K) (tCons (tVar 0) (tCons (tC (.ty "bool")) tNil))))))
def B_is_integer (c : Cl) : DTS :=
  (dRet (dAndV (dCB (dIsi [c.Tree, c.Words]) (dConsA (dVar 0) (dLastA (dC (.ty "int"))))) (dNotV (dCB (dIsi [c.Tree, c.Words]) (dConsA (dVar 0) (dLastA (dC (.ty "bool"))))))))
def D_is_integer (c : Cl) : Fn := dFn (vals 1) 1 (B_is_integer c)
theorem D_is_integer_in {c : Cl} {o0 : O} {P : O → List O → Prop} {PE : DExc → List O → Prop} (h : B_is_integer c ⟨fun env => P (.fr .non) (outs [false] env), fun o env => P o (outs [false] env), fun _ => False, fun _ => False, fun e env => PE e (outs [false] env)⟩ [S.ow o0]) : D_is_integer c [o0] P PE := ⟨rfl, h⟩
theorem D_is_integer_n {c : Cl} : ∀ os P PE, D_is_integer c os P PE → os.length = 1 := fun _ _ _ h => h.1
theorem sim_is_integer {K : PySem.W.Frag} {c : Cl} (fa : Fa K c) (E : XK) : SimS (fun cls dd _ H => E cls dd H) (u_is_integer K c) (B_is_integer c) :=
  (sim_ret (sim_andV (sim_cb (sim_isi fa.cls) (sim_consA (SimP.e sim_var) (sim_lastA (SimP.e sim_ty)))) (sim_notV (sim_cb (sim_isi fa.cls) (sim_consA (SimP.e sim_var) (sim_lastA (SimP.e sim_ty)))))))
def u_is_within (K : PySem.W.Frag) (c : Cl) : TS :=
  (tRet (tAndV (tCall (spD (vals 1) (D_is_integer c)) [] E0 (tCons (tVar 0) tNil)) (tChain xLe xLe (tVar 1) (tVar 0) (tVar 2))))
def B_is_within (c : Cl) : DTS :=
  (dRet (dAndV (dCall false (D_is_integer c) (dConsV (dVar 0) dNilV)) (dChain dLe dLe (dVar 1) (dVar 0) (dVar 2))))
def D_is_within (c : Cl) : Fn := dFn (vals 3) 3 (B_is_within c)
theorem D_is_within_in {c : Cl} {o0 o1 o2 : O} {P : O → List O → Prop} {PE : DExc → List O → Prop} (h : B_is_within c ⟨fun env => P (.fr .non) (outs [false, false, false] env), fun o env => P o (outs [false, false, false] env), fun _ => False, fun _ => False, fun e env => PE e (outs [false, false, false] env)⟩ [S.ow o0, S.ow o1, S.ow o2]) : D_is_within c [o0, o1, o2] P PE := ⟨rfl, h⟩
theorem D_is_within_n {c : Cl} : ∀ os P PE, D_is_within c os P PE → os.length = 3 := fun _ _ _ h => h.1
theorem sim_is_within {K : PySem.W.Frag} {c : Cl} (fa : Fa K c) (E : XK) : SimS (fun cls dd _ H => E cls dd H) (u_is_within K c) (B_is_within c) :=
  (sim_ret (sim_andV (sim_call0 D_is_integer_n (sim_consV (SimP.e sim_var) sim_nilV)) (sim_chain simr_le simr_le (SimP.e sim_var) (SimP.e sim_var) (SimP.e sim_var))))
def u_is_flag (K : PySem.W.Frag) (c : Cl) : TS :=
  (tRet (tCB (xIsiG K) (tCons (tVar 0) (tCons (tC (.ty "bool")) tNil))))
def B_is_flag (c : Cl) : DTS :=
  (dRet (dCB (dIsi [c.Tree, c.Words]) (dConsA (dVar 0) (dLastA (dC (.ty "bool"))))))
def D_is_flag (c : Cl) : Fn := dFn (vals 1) 1 (B_is_flag c)
theorem D_is_flag_in {c : Cl} {o0 : O} {P : O → List O → Prop} {PE : DExc → List O → Prop} (h : B_is_flag c ⟨fun env => P (.fr .non) (outs [false] env), fun o env => P o (outs [false] env), fun _ => False, fun _ => False, fun e env => PE e (outs [false] env)⟩ [S.ow o0]) : D_is_flag c [o0] P PE := ⟨rfl, h⟩
theorem D_is_flag_n {c : Cl} : ∀ os P PE, D_is_flag c os P PE → os.length = 1 := fun _ _ _ h => h.1
theorem sim_is_flag {K : PySem.W.Frag} {c : Cl} (fa : Fa K c) (E : XK) : SimS (fun cls dd _ H => E cls dd H) (u_is_flag K c) (B_is_flag c) :=
  (sim_ret (sim_cb (sim_isi fa.cls) (sim_consA (SimP.e sim_var) (sim_lastA (SimP.e sim_ty)))))
def u_check_block (K : PySem.W.Frag) (c : Cl) (E : XK) : TS :=
  (tIfS (tNot (tB (tCall (spD (vals 3) (D_is_within c)) [] E0 (tCons (tVar 1) (tCons (tC (.int 1)) (tCons (tVar 0) tNil)))))) (tRaise0 (.ref c.NoBlock) (wE E)) tNext)
def B_check_block (c : Cl) : DTS :=
  (dIfS (dNot (dTest (dCall false (D_is_within c) (dConsV (dVar 1) (dConsV (dC (.int 1)) (dConsV (dVar 0) dNilV)))))) (dRaise0 (.ref c.NoBlock)) (dKill [0, 1] dNext))
def D_check_block (c : Cl) : Fn := dFn (vals 2) 2 (B_check_block c)
theorem D_check_block_in {c : Cl} {o0 o1 : O} {P : O → List O → Prop} {PE : DExc → List O → Prop} (h : B_check_block c ⟨fun env => P (.fr .non) (outs [false, false] env), fun o env => P o (outs [false, false] env), fun _ => False, fun _ => False, fun e env => PE e (outs [false, false] env)⟩ [S.ow o0, S.ow o1]) : D_check_block c [o0, o1] P PE := ⟨rfl, h⟩
theorem D_check_block_n {c : Cl} : ∀ os P PE, D_check_block c os P PE → os.length = 2 := fun _ _ _ h => h.1
theorem sim_check_block {K : PySem.W.Frag} {c : Cl} (fa : Fa K c) (E : XK) : SimS (fun cls dd _ H => E cls dd H) (u_check_block K c E) (B_check_block c) :=
  (sim_ifs (sim_not (sim_b (sim_call0 D_is_within_n (sim_consV (SimP.e sim_var) (sim_consV (SimP.e sim_int) (sim_consV (SimP.e sim_var) sim_nilV)))))) sim_raise0 (sim_kill sim_next))
def u_check_place (K : PySem.W.Frag) (c : Cl) (E : XK) : TS :=
  (tIfS (tNot (tB (tCall (spD (vals 3) (D_is_within c)) [] E0 (tCons (tVar 1) (tCons (tC (.int 0)) (tCons (tVar 0) tNil)))))) (tRaise0 (.ref c.NoPlace) (wE E)) tNext)
def B_check_place (c : Cl) : DTS :=
  (dIfS (dNot (dTest (dCall false (D_is_within c) (dConsV (dVar 1) (dConsV (dC (.int 0)) (dConsV (dVar 0) dNilV)))))) (dRaise0 (.ref c.NoPlace)) (dKill [0, 1] dNext))
def D_check_place (c : Cl) : Fn := dFn (vals 2) 2 (B_check_place c)
theorem D_check_place_in {c : Cl} {o0 o1 : O} {P : O → List O → Prop} {PE : DExc → List O → Prop} (h : B_check_place c ⟨fun env => P (.fr .non) (outs [false, false] env), fun o env => P o (outs [false, false] env), fun _ => False, fun _ => False, fun e env => PE e (outs [false, false] env)⟩ [S.ow o0, S.ow o1]) : D_check_place c [o0, o1] P PE := ⟨rfl, h⟩
theorem D_check_place_n {c : Cl} : ∀ os P PE, D_check_place c os P PE → os.length = 2 := fun _ _ _ h => h.1
theorem sim_check_place {K : PySem.W.Frag} {c : Cl} (fa : Fa K c) (E : XK) : SimS (fun cls dd _ H => E cls dd H) (u_check_place K c E) (B_check_place c) :=
  (sim_ifs (sim_not (sim_b (sim_call0 D_is_within_n (sim_consV (SimP.e sim_var) (sim_consV (SimP.e sim_int) (sim_consV (SimP.e sim_var) sim_nilV)))))) sim_raise0 (sim_kill sim_next))
def u_check_ups (K : PySem.W.Frag) (c : Cl) (E : XK) : TS :=
  (tSeq (tIfS (tOr (tNot (tB (tCB (xIsiG K) (tCons (tVar 1) (tCons (tC (.ty "tuple")) tNil))))) (tTest (tOp (rNeD K) (tCB (xLenG K) (tCons (tVar 1) tNil)) (tVar 0)))) (tRaiseO c.BadWords (spX1 c.BadWords "part") (tCons (tC (.str "ups")) tNil) (wE E)) tNext) (tFor (iRng2 (tCons (tC (.int 1)) (tCons (tOp (xAddG K) (tVar 0) (tC (.int 1))) tNil))) (gName 2) (tSeq (tAsg (tOp (rIx K) (tVar 1) (tOp xSub (tVar 2) (tC (.int 1)))) (gName 3)) (tIfS (tAnd (tTest (tOp xNotG (tVar 3) (tC .non))) (tOr (tNot (tB (tCall (spD (vals 3) (D_is_within c)) [] E0 (tCons (tVar 3) (tCons (tC (.int 0)) (tCons (tVar 0) tNil)))))) (tTest (tOp (rEqD K) (tVar 3) (tVar 2))))) (tRaiseO c.BadWords (spX1 c.BadWords "part") (tCons (tVar 2) tNil) (wE E)) tNext))))
def B_check_ups (c : Cl) : DTS :=
  (dSeq (dIfS (dOr (dNot (dTest (dCB (dIsi [c.Tree, c.Words]) (dConsA (dVar 1) (dLastA (dC (.ty "tuple"))))))) (dTest (dOpP dNe (dCB dLen (dLastA (dVar 1))) (dVar 0)))) (dRaise1 c.BadWords "part" (dConsV (dC (.str "ups")) dNilV)) dNext) (dPost [0, 1, 2, 3] (dFor (dRng2 (dConsA (dC (.int 1)) (dLastA (dOpP dAdd (dVar 0) (dC (.int 1)))))) (dName 2) (dSeq (dAsg (dIx (dVar 1) (dOpP dSub2 (dVar 2) (dC (.int 1)))) (dName 3)) (dIfS (dAnd (dTest (dOpP dIsNot (dVar 3) (dC .non))) (dOr (dNot (dTest (dCall false (D_is_within c) (dConsV (dVar 3) (dConsV (dC (.int 0)) (dConsV (dVar 0) dNilV)))))) (dTest (dOpP dEq (dVar 3) (dVar 2))))) (dRaise1 c.BadWords "part" (dConsV (dVar 2) dNilV)) (dKill [2, 3] dNext))))))
def D_check_ups (c : Cl) : Fn := dFn (vals 2) 4 (B_check_ups c)
theorem D_check_ups_in {c : Cl} {o0 o1 : O} {P : O → List O → Prop} {PE : DExc → List O → Prop} (h : B_check_ups c ⟨fun env => P (.fr .non) (outs [false, false] env), fun o env => P o (outs [false, false] env), fun _ => False, fun _ => False, fun e env => PE e (outs [false, false] env)⟩ [S.ow o0, S.ow o1, S.un, S.un]) : D_check_ups c [o0, o1] P PE := ⟨rfl, h⟩
theorem D_check_ups_n {c : Cl} : ∀ os P PE, D_check_ups c os P PE → os.length = 2 := fun _ _ _ h => h.1
theorem sim_check_ups {K : PySem.W.Frag} {c : Cl} (fa : Fa K c) (E : XK) : SimS (fun cls dd _ H => E cls dd H) (u_check_ups K c E) (B_check_ups c) :=
  (sim_seq (sim_ifs (sim_or (sim_not (sim_b (sim_cb (sim_isi fa.cls) (sim_consA (SimP.e sim_var) (sim_lastA (SimP.e sim_ty)))))) (sim_test (SimP.e (simp_op simr_ne (simp_cb1 sim_len sim_var) sim_var)))) (sim_raise1 (sim_consV (SimP.e sim_str) sim_nilV)) sim_next) (sim_post (sim_for (sim_rng2 (sim_consA (SimP.e sim_int) (sim_lastA (SimP.e (simp_op simr_add sim_var sim_int))))) sim_name (sim_seq (sim_asg (SimP.e (simp_ix sim_var (simp_op simr_sub sim_var sim_int))) sim_name) (sim_ifs (sim_and (sim_test (SimP.e (simp_op simr_isNot sim_var sim_non))) (sim_or (sim_not (sim_b (sim_call0 D_is_within_n (sim_consV (SimP.e sim_var) (sim_consV (SimP.e sim_int) (sim_consV (SimP.e sim_var) sim_nilV)))))) (sim_test (SimP.e (simp_op simr_eq sim_var sim_var))))) (sim_raise1 (sim_consV (SimP.e sim_var) sim_nilV)) (sim_kill sim_next))))))
def u_check_lists (K : PySem.W.Frag) (c : Cl) (E : XK) : TS :=
  (tSeq (tIfS (tOr (tNot (tB (tCB (xIsiG K) (tCons (tVar 1) (tCons (tC (.ty "tuple")) tNil))))) (tTest (tOp (rNeD K) (tCB (xLenG K) (tCons (tVar 1) tNil)) (tOp (xAddG K) (tVar 0) (tC (.int 1)))))) (tRaiseO c.BadWords (spX1 c.BadWords "part") (tCons (tC (.str "lists")) tNil) (wE E)) tNext) (tSeq (tFor (iRng1 (tCons (tOp (xAddG K) (tVar 0) (tC (.int 1))) tNil)) (gName 2) (tIfS (tOr (tNot (tB (tCB (xIsiG K) (tCons (tOp (rIx K) (tVar 1) (tVar 2)) (tCons (tC (.ty "tuple")) tNil))))) (tTest (tOp (rNeD K) (tCB (xLenG K) (tCons (tOp (rIx K) (tVar 1) (tVar 2)) tNil)) (tVar 0)))) (tRaiseO c.BadWords (spX1 c.BadWords "part") (tCons (tTup (tCons (tVar 2) tNil)) tNil) (wE E)) tNext)) (tFor (iRng1 (tCons (tOp (xAddG K) (tVar 0) (tC (.int 1))) tNil)) (gName 2) (tFor (iRng2 (tCons (tC (.int 1)) (tCons (tOp (xAddG K) (tVar 0) (tC (.int 1))) tNil))) (gName 3) (tSeq (tAsg (tOp (rIx K) (tOp (rIx K) (tVar 1) (tVar 2)) (tOp xSub (tVar 3) (tC (.int 1)))) (gName 4)) (tIfS (tOr (tAnd (tTest (tOp xNotG (tVar 4) (tC .non))) (tNot (tB (tCall (spD (vals 1) (D_is_flag c)) [] E0 (tCons (tVar 4) tNil))))) (tAnd (tTest (tOp (rEqD K) (tVar 2) (tVar 3))) (tTest (tOp xNotG (tVar 4) (tC (.bl false)))))) (tRaiseO c.BadWords (spX1 c.BadWords "part") (tCons (tTup (tCons (tVar 2) (tCons (tVar 3) tNil))) tNil) (wE E)) tNext))))))
def B_check_lists (c : Cl) : DTS :=
  (dSeq (dIfS (dOr (dNot (dTest (dCB (dIsi [c.Tree, c.Words]) (dConsA (dVar 1) (dLastA (dC (.ty "tuple"))))))) (dTest (dOpP dNe (dCB dLen (dLastA (dVar 1))) (dOpP dAdd (dVar 0) (dC (.int 1)))))) (dRaise1 c.BadWords "part" (dConsV (dC (.str "lists")) dNilV)) dNext) (dSeq (dPost [2] (dFor (dRng1 (dLastA (dOpP dAdd (dVar 0) (dC (.int 1))))) (dName 2) (dIfS (dOr (dNot (dTest (dCB (dIsi [c.Tree, c.Words]) (dConsA (dIx (dVar 1) (dVar 2)) (dLastA (dC (.ty "tuple"))))))) (dTest (dOpP dNe (dCB dLen (dLastA (dIx (dVar 1) (dVar 2)))) (dVar 0)))) (dRaise1 c.BadWords "part" (dConsV (dTup (dConsV (dVar 2) dNilV)) dNilV)) (dKill [2] dNext)))) (dPost [0, 1, 2, 3, 4] (dFor (dRng1 (dLastA (dOpP dAdd (dVar 0) (dC (.int 1))))) (dName 2) (dPost [2, 3, 4] (dFor (dRng2 (dConsA (dC (.int 1)) (dLastA (dOpP dAdd (dVar 0) (dC (.int 1)))))) (dName 3) (dSeq (dAsg (dIx (dIx (dVar 1) (dVar 2)) (dOpP dSub2 (dVar 3) (dC (.int 1)))) (dName 4)) (dIfS (dOr (dAnd (dTest (dOpP dIsNot (dVar 4) (dC .non))) (dNot (dTest (dCall false (D_is_flag c) (dConsV (dVar 4) dNilV))))) (dAnd (dTest (dOpP dEq (dVar 2) (dVar 3))) (dTest (dOpP dIsNot (dVar 4) (dC (.bl false)))))) (dRaise1 c.BadWords "part" (dConsV (dTup (dConsV (dVar 2) (dConsV (dVar 3) dNilV))) dNilV)) (dKill [3, 4] dNext)))))))))
def D_check_lists (c : Cl) : Fn := dFn (vals 2) 5 (B_check_lists c)
theorem D_check_lists_in {c : Cl} {o0 o1 : O} {P : O → List O → Prop} {PE : DExc → List O → Prop} (h : B_check_lists c ⟨fun env => P (.fr .non) (outs [false, false] env), fun o env => P o (outs [false, false] env), fun _ => False, fun _ => False, fun e env => PE e (outs [false, false] env)⟩ [S.ow o0, S.ow o1, S.un, S.un, S.un]) : D_check_lists c [o0, o1] P PE := ⟨rfl, h⟩
theorem D_check_lists_n {c : Cl} : ∀ os P PE, D_check_lists c os P PE → os.length = 2 := fun _ _ _ h => h.1
theorem sim_check_lists {K : PySem.W.Frag} {c : Cl} (fa : Fa K c) (E : XK) : SimS (fun cls dd _ H => E cls dd H) (u_check_lists K c E) (B_check_lists c) :=
  (sim_seq (sim_ifs (sim_or (sim_not (sim_b (sim_cb (sim_isi fa.cls) (sim_consA (SimP.e sim_var) (sim_lastA (SimP.e sim_ty)))))) (sim_test (SimP.e (simp_op simr_ne (simp_cb1 sim_len sim_var) (simp_op simr_add sim_var sim_int))))) (sim_raise1 (sim_consV (SimP.e sim_str) sim_nilV)) sim_next) (sim_seq (sim_post (sim_for (sim_rng1 (sim_lastA (SimP.e (simp_op simr_add sim_var sim_int)))) sim_name (sim_ifs (sim_or (sim_not (sim_b (sim_cb (sim_isi fa.cls) (sim_consA (SimP.e (simp_ix sim_var sim_var)) (sim_lastA (SimP.e sim_ty)))))) (sim_test (SimP.e (simp_op simr_ne (simp_cb1 sim_len (simp_ix sim_var sim_var)) sim_var)))) (sim_raise1 (sim_consV (sim_tup (sim_consV (SimP.e sim_var) sim_nilV)) sim_nilV)) (sim_kill sim_next)))) (sim_post (sim_for (sim_rng1 (sim_lastA (SimP.e (simp_op simr_add sim_var sim_int)))) sim_name (sim_post (sim_for (sim_rng2 (sim_consA (SimP.e sim_int) (sim_lastA (SimP.e (simp_op simr_add sim_var sim_int))))) sim_name (sim_seq (sim_asg (SimP.e (simp_ix (simp_ix sim_var sim_var) (simp_op simr_sub sim_var sim_int))) sim_name) (sim_ifs (sim_or (sim_and (sim_test (SimP.e (simp_op simr_isNot sim_var sim_non))) (sim_not (sim_b (sim_call0 D_is_flag_n (sim_consV (SimP.e sim_var) sim_nilV))))) (sim_and (sim_test (SimP.e (simp_op simr_eq sim_var sim_var))) (sim_test (SimP.e (simp_op simr_isNot sim_var sim_bl))))) (sim_raise1 (sim_consV (sim_tup (sim_consV (SimP.e sim_var) (sim_consV (SimP.e sim_var) sim_nilV))) sim_nilV)) (sim_kill sim_next)))))))))
def u_Words_init (K : PySem.W.Frag) (c : Cl) (E : XK) : TS :=
  (tSeq (tIfS (tNot (tB (tCall (spD (vals 3) (D_is_within c)) [] E0 (tCons (tVar 1) (tCons (tC (.int 1)) (tCons (tC (.int 40)) tNil)))))) (tRaiseO c.BadWords (spX1 c.BadWords "part") (tCons (tC (.str "blocks")) tNil) (wE E)) tNext) (tSeq (tDrop (tCall (spD (vals 2) (D_check_ups c)) [] E (tCons (tVar 1) (tCons (tVar 2) tNil)))) (tSeq (tDrop (tCall (spD (vals 2) (D_check_lists c)) [] E (tCons (tVar 1) (tCons (tVar 3) tNil)))) (tSeq (sFld K (tVar 0) (tVar 1) "blocks") (tSeq (sFld K (tVar 0) (tVar 2) "ups") (sFld K (tVar 0) (tVar 3) "lists"))))))
def B_Words_init (c : Cl) : DTS :=
  (dSeq (dIfS (dNot (dTest (dCall false (D_is_within c) (dConsV (dVar 1) (dConsV (dC (.int 1)) (dConsV (dC (.int 40)) dNilV)))))) (dRaise1 c.BadWords "part" (dConsV (dC (.str "blocks")) dNilV)) dNext) (dSeq (dDrop (dCall true (D_check_ups c) (dConsV (dVar 1) (dConsV (dVar 2) dNilV)))) (dSeq (dDrop (dCall true (D_check_lists c) (dConsV (dVar 1) (dConsV (dVar 3) dNilV)))) (dSeq (dPost [1] (dSetF [c.Words] 0 "blocks" (dVar 1))) (dSeq (dPost [2] (dSetF [c.Words] 0 "ups" (dVar 2))) (dPost [3] (dSetF [c.Words] 0 "lists" (dVar 3))))))))
def D_Words_init (c : Cl) : Fn := dFn (true :: vals 3) 4 (B_Words_init c)
theorem D_Words_init_in {c : Cl} {o0 o1 o2 o3 : O} {P : O → List O → Prop} {PE : DExc → List O → Prop} (h : B_Words_init c ⟨fun env => P (.fr .non) (outs [true, false, false, false] env), fun o env => P o (outs [true, false, false, false] env), fun _ => False, fun _ => False, fun e env => PE e (outs [true, false, false, false] env)⟩ [S.bo o0, S.ow o1, S.ow o2, S.ow o3]) : D_Words_init c [o0, o1, o2, o3] P PE := ⟨rfl, h⟩
theorem D_Words_init_n {c : Cl} : ∀ os P PE, D_Words_init c os P PE → os.length = 3 + 1 := fun _ _ _ h => h.1
theorem sim_Words_init {K : PySem.W.Frag} {c : Cl} (fa : Fa K c) (E : XK) : SimS (fun cls dd _ H => E cls dd H) (u_Words_init K c E) (B_Words_init c) :=
  (sim_seq (sim_ifs (sim_not (sim_b (sim_call0 D_is_within_n (sim_consV (SimP.e sim_var) (sim_consV (SimP.e sim_int) (sim_consV (SimP.e sim_int) sim_nilV)))))) (sim_raise1 (sim_consV (SimP.e sim_str) sim_nilV)) sim_next) (sim_seq (sim_drop (sim_callX D_check_ups_n (sim_consV (SimP.e sim_var) (sim_consV (SimP.e sim_var) sim_nilV)))) (sim_seq (sim_drop (sim_callX D_check_lists_n (sim_consV (SimP.e sim_var) (sim_consV (SimP.e sim_var) sim_nilV)))) (sim_seq (sim_post (sim_setF fa.f_blocks (SimP.e sim_var))) (sim_seq (sim_post (sim_setF fa.f_ups (SimP.e sim_var))) (sim_post (sim_setF fa.f_lists (SimP.e sim_var))))))))
def u_raw_costs (K : PySem.W.Frag) (c : Cl) : TS :=
  (tSeq (tAsg (tOp (rIx K) (tFld K (tVar 0) "ups") (tOp xSub (tVar 1) (tC (.int 1)))) (gName 2)) (tSeq (tAsg (tLc (iSeq K (tFld K (tVar 0) "lists")) (gName 9) tYes (tOp (rIx K) (tVar 9) (tOp xSub (tVar 1) (tC (.int 1)))) [9]) (gName 3)) (tSeq (tAsg (tCB (xLenG K) (tCons (tLc (iSeq K (tVar 3)) (gName 7) (tTest (tOp xIsG (tVar 7) (tC (.bl true)))) (tVar 7) [7]) tNil)) (gName 4)) (tSeq (tAsg (tLst tNil) (gName 5)) (tSeq (tFor (iEnumA K (tCons (tVar 3) tNil)) (gTup K 2 (gCons (gName 6) (gCons (gName 7) gNil))) (tSeq (tAsg (tIf (tAnd (tTest (tOp xNotG (tVar 2) (tC .non))) (tTest (tOp (rNeD K) (tVar 2) (tVar 6)))) (tC (.int 1)) (tC (.int 0))) (gName 8)) (tSeq (tAug 8 (tIf (tTest (tOp xIsG (tVar 7) (tC (.bl false)))) (tC (.int 1)) (tC (.int 0))) (ipI (fun i j => i + j))) (tSeq (tAug 8 (tIf (tTest (tOp xIsG (tVar 7) (tC (.bl true)))) (tOp xSub (tVar 4) (tC (.int 1))) (tVar 4)) (ipI (fun i j => i + j))) (tDrop (tBM K "list" rAppend (tVar 5) (tCons (tIf (tTest (tOp (rNeD K) (tVar 6) (tVar 1))) (tVar 8) (tC .non)) tNil))))))) (tRet (tVar 5)))))))
def B_raw_costs (c : Cl) : DTS :=
  (dSeq (dAsg (dIx (dFld [c.Words] "ups" (dVar 0)) (dOpP dSub2 (dVar 1) (dC (.int 1)))) (dName 2)) (dSeq (dPost [0] (dAsg (dLc (dIter (dFld [c.Words] "lists" (dVar 0))) (dName 9) dYes (dIx (dVar 9) (dOpP dSub2 (dVar 1) (dC (.int 1)))) [9]) (dName 3))) (dCut (dAsg (dCB dLen (dLastA (dLc (dIter (dVar 3)) (dName 7) (dTest (dOpP dIs (dVar 7) (dC (.bl true)))) (dVar 7) [7]))) (dName 4)) (dSeq (dAsg (dLst dNilV) (dName 5)) (dSeq (dPost [1, 2, 3, 4, 6, 7, 8] (dFor (dIterK [3] (dEnumA (dVar 3))) (dGTup 2 (dGCons (dName 6) (dGCons (dName 7) dGNil))) (dCut (dAsg (dIf (dAnd (dTest (dOpP dIsNot (dVar 2) (dC .non))) (dTest (dOpP dNe (dVar 2) (dVar 6)))) (dC (.int 1)) (dC (.int 0))) (dName 8)) (dCut (dAug (fun i j => i + j) 8 (dIf (dTest (dOpP dIs (dVar 7) (dC (.bl false)))) (dC (.int 1)) (dC (.int 0)))) (dCut (dPost [7] (dAug (fun i j => i + j) 8 (dIf (dTest (dOpP dIs (dVar 7) (dC (.bl true)))) (dOpP dSub2 (dVar 4) (dC (.int 1))) (dVar 4)))) (dPost [6, 8] (dDrop (dMeth1 fAppend 5 (dIf (dTest (dOpP dNe (dVar 6) (dVar 1))) (dVar 8) (dC .non)))))))))) (dRet (dVar 5)))))))
def D_raw_costs (c : Cl) : Fn := dFn (vals 2) 10 (B_raw_costs c)
theorem D_raw_costs_in {c : Cl} {o0 o1 : O} {P : O → List O → Prop} {PE : DExc → List O → Prop} (h : B_raw_costs c ⟨fun env => P (.fr .non) (outs [false, false] env), fun o env => P o (outs [false, false] env), fun _ => False, fun _ => False, fun e env => PE e (outs [false, false] env)⟩ [S.ow o0, S.ow o1, S.un, S.un, S.un, S.un, S.un, S.un, S.un, S.un]) : D_raw_costs c [o0, o1] P PE := ⟨rfl, h⟩
theorem D_raw_costs_n {c : Cl} : ∀ os P PE, D_raw_costs c os P PE → os.length = 2 := fun _ _ _ h => h.1
theorem sim_raw_costs {K : PySem.W.Frag} {c : Cl} (fa : Fa K c) (E : XK) : SimS (fun cls dd _ H => E cls dd H) (u_raw_costs K c) (B_raw_costs c) :=
  (sim_seq (sim_asg (SimP.e (simp_ix (simp_fld fa.f_ups sim_var) (simp_op simr_sub sim_var sim_int))) sim_name) (sim_seq (sim_post (sim_asg (sim_lc (sim_seq_it (SimP.e (simp_fld fa.f_lists sim_var))) sim_name sim_yes (SimP.e (simp_ix sim_var (simp_op simr_sub sim_var sim_int))) (by decide)) sim_name)) (sim_cut (sim_asg (sim_cb sim_len (sim_lastA (sim_lc (sim_seq_it (SimP.e sim_var)) sim_name (sim_test (SimP.e (simp_op simr_is sim_var sim_bl))) (SimP.e sim_var) (by decide)))) sim_name) (sim_seq (sim_asg (sim_lst sim_nilV) sim_name) (sim_seq (sim_post (sim_for (sim_iterK (sim_enumA (SimP.e sim_var))) (sim_gtup (sim_gcons sim_name (sim_gcons sim_name sim_gnil))) (sim_cut (sim_asg (sim_if (sim_and (sim_test (SimP.e (simp_op simr_isNot sim_var sim_non))) (sim_test (SimP.e (simp_op simr_ne sim_var sim_var)))) (SimP.e sim_int) (SimP.e sim_int)) sim_name) (sim_cut (sim_aug (sim_if (sim_test (SimP.e (simp_op simr_is sim_var sim_bl))) (SimP.e sim_int) (SimP.e sim_int))) (sim_cut (sim_post (sim_aug (sim_if (sim_test (SimP.e (simp_op simr_is sim_var sim_bl))) (SimP.e (simp_op simr_sub sim_var sim_int)) (SimP.e sim_var)))) (sim_post (sim_drop (sim_meth1 simM_append (sim_if (sim_test (SimP.e (simp_op simr_ne sim_var sim_var))) (SimP.e sim_var) (SimP.e sim_non)))))))))) (sim_ret (SimP.e sim_var)))))))
def u_cost (K : PySem.W.Frag) (c : Cl) (E : XK) : TS :=
  (tSeq (tDrop (tCall (spD (vals 2) (D_check_block c)) [] E (tCons (tFld K (tVar 0) "blocks") (tCons (tVar 1) tNil)))) (tSeq (tDrop (tCall (spD (vals 2) (D_check_place c)) [] E (tCons (tFld K (tVar 0) "blocks") (tCons (tVar 2) tNil)))) (tSeq (tIfS (tTest (tOp (rEqD K) (tVar 2) (tVar 1))) (tRaise0 (.ref c.NoPlace) (wE E)) tNext) (tRet (tOp (rIx K) (tCall (spD (vals 2) (D_raw_costs c)) [] E0 (tCons (tVar 0) (tCons (tVar 1) tNil))) (tVar 2))))))
def B_cost (c : Cl) : DTS :=
  (dSeq (dDrop (dCall true (D_check_block c) (dConsV (dFld [c.Words] "blocks" (dVar 0)) (dConsV (dVar 1) dNilV)))) (dSeq (dDrop (dCall true (D_check_place c) (dConsV (dFld [c.Words] "blocks" (dVar 0)) (dConsV (dVar 2) dNilV)))) (dSeq (dIfS (dTest (dOpP dEq (dVar 2) (dVar 1))) (dRaise0 (.ref c.NoPlace)) dNext) (dRet (dIx (dCall false (D_raw_costs c) (dConsV (dVar 0) (dConsV (dVar 1) dNilV))) (dVar 2))))))
def D_cost (c : Cl) : Fn := dFn (vals 3) 3 (B_cost c)
theorem D_cost_in {c : Cl} {o0 o1 o2 : O} {P : O → List O → Prop} {PE : DExc → List O → Prop} (h : B_cost c ⟨fun env => P (.fr .non) (outs [false, false, false] env), fun o env => P o (outs [false, false, false] env), fun _ => False, fun _ => False, fun e env => PE e (outs [false, false, false] env)⟩ [S.ow o0, S.ow o1, S.ow o2]) : D_cost c [o0, o1, o2] P PE := ⟨rfl, h⟩
theorem D_cost_n {c : Cl} : ∀ os P PE, D_cost c os P PE → os.length = 3 := fun _ _ _ h => h.1
theorem sim_cost {K : PySem.W.Frag} {c : Cl} (fa : Fa K c) (E : XK) : SimS (fun cls dd _ H => E cls dd H) (u_cost K c E) (B_cost c) :=
  (sim_seq (sim_drop (sim_callX D_check_block_n (sim_consV (SimP.e (simp_fld fa.f_blocks sim_var)) (sim_consV (SimP.e sim_var) sim_nilV)))) (sim_seq (sim_drop (sim_callX D_check_place_n (sim_consV (SimP.e (simp_fld fa.f_blocks sim_var)) (sim_consV (SimP.e sim_var) sim_nilV)))) (sim_seq (sim_ifs (sim_test (SimP.e (simp_op simr_eq sim_var sim_var))) sim_raise0 sim_next) (sim_ret (sim_ix (sim_call0 D_raw_costs_n (sim_consV (SimP.e sim_var) (sim_consV (SimP.e sim_var) sim_nilV))) sim_var)))))
def u_raw_wrong_words (K : PySem.W.Frag) (c : Cl) : TS :=
  (tRet (tCB (rSum K) (tCons (tLc (iEnumA K (tCons (tVar 1) tNil)) (gTup K 2 (gCons (gName 2) (gCons (gName 3) gNil))) tYes (tOp (rIx K) (tCall (spD (vals 2) (D_raw_costs c)) [] E0 (tCons (tVar 0) (tCons (tOp (xAddG K) (tVar 2) (tC (.int 1))) tNil))) (tVar 3)) [2, 3]) tNil)))
def B_raw_wrong_words (c : Cl) : DTS :=
  (dRet (dCB dSum (dLastA (dLc (dEnumA (dVar 1)) (dGTup 2 (dGCons (dName 2) (dGCons (dName 3) dGNil))) dYes (dIx (dCall false (D_raw_costs c) (dConsV (dVar 0) (dConsV (dOpP dAdd (dVar 2) (dC (.int 1))) dNilV))) (dVar 3)) [2, 3]))))
def D_raw_wrong_words (c : Cl) : Fn := dFn (vals 2) 4 (B_raw_wrong_words c)
theorem D_raw_wrong_words_in {c : Cl} {o0 o1 : O} {P : O → List O → Prop} {PE : DExc → List O → Prop} (h : B_raw_wrong_words c ⟨fun env => P (.fr .non) (outs [false, false] env), fun o env => P o (outs [false, false] env), fun _ => False, fun _ => False, fun e env => PE e (outs [false, false] env)⟩ [S.ow o0, S.ow o1, S.un, S.un]) : D_raw_wrong_words c [o0, o1] P PE := ⟨rfl, h⟩
theorem D_raw_wrong_words_n {c : Cl} : ∀ os P PE, D_raw_wrong_words c os P PE → os.length = 2 := fun _ _ _ h => h.1
theorem sim_raw_wrong_words {K : PySem.W.Frag} {c : Cl} (fa : Fa K c) (E : XK) : SimS (fun cls dd _ H => E cls dd H) (u_raw_wrong_words K c) (B_raw_wrong_words c) :=
  (sim_ret (sim_cb sim_sum (sim_lastA (sim_lc (sim_enumA (SimP.e sim_var)) (sim_gtup (sim_gcons sim_name (sim_gcons sim_name sim_gnil))) sim_yes (sim_ix (sim_call0 D_raw_costs_n (sim_consV (SimP.e sim_var) (sim_consV (SimP.e (simp_op simr_add sim_var sim_int)) sim_nilV))) sim_var) (by decide)))))
def u_wrong_words (K : PySem.W.Frag) (c : Cl) (E : XK) : TS :=
  (tSeq (tIfS (tTest (tOp (rNeD K) (tCB (xLenG K) (tCons (tFld K (tVar 1) "hung") tNil)) (tFld K (tVar 0) "blocks"))) (tRaise0 (.ref c.OtherBlocks) (wE E)) tNext) (tRet (tCall (spD (vals 2) (D_raw_wrong_words c)) [] E0 (tCons (tVar 0) (tCons (tFld K (tVar 1) "hung") tNil)))))
def B_wrong_words (c : Cl) : DTS :=
  (dSeq (dIfS (dTest (dOpP dNe (dCB dLen (dLastA (dFld [c.Tree] "hung" (dVar 1)))) (dFld [c.Words] "blocks" (dVar 0)))) (dRaise0 (.ref c.OtherBlocks)) dNext) (dRet (dCall false (D_raw_wrong_words c) (dConsV (dVar 0) (dConsV (dFld [c.Tree] "hung" (dVar 1)) dNilV)))))
def D_wrong_words (c : Cl) : Fn := dFn (vals 2) 2 (B_wrong_words c)
theorem D_wrong_words_in {c : Cl} {o0 o1 : O} {P : O → List O → Prop} {PE : DExc → List O → Prop} (h : B_wrong_words c ⟨fun env => P (.fr .non) (outs [false, false] env), fun o env => P o (outs [false, false] env), fun _ => False, fun _ => False, fun e env => PE e (outs [false, false] env)⟩ [S.ow o0, S.ow o1]) : D_wrong_words c [o0, o1] P PE := ⟨rfl, h⟩
theorem D_wrong_words_n {c : Cl} : ∀ os P PE, D_wrong_words c os P PE → os.length = 2 := fun _ _ _ h => h.1
theorem sim_wrong_words {K : PySem.W.Frag} {c : Cl} (fa : Fa K c) (E : XK) : SimS (fun cls dd _ H => E cls dd H) (u_wrong_words K c E) (B_wrong_words c) :=
  (sim_seq (sim_ifs (sim_test (SimP.e (simp_op simr_ne (simp_cb1 sim_len (simp_fld fa.f_hung sim_var)) (simp_fld fa.f_blocks sim_var)))) sim_raise0 sim_next) (sim_ret (sim_call0 D_raw_wrong_words_n (sim_consV (SimP.e sim_var) (sim_consV (SimP.e (simp_fld fa.f_hung sim_var)) sim_nilV)))))
def u_rows_of (K : PySem.W.Frag) (c : Cl) : TS :=
  (tSeq (tAsg (tLst tNil) (gName 1)) (tSeq (tFor (iRng2 (tCons (tC (.int 1)) (tCons (tOp (xAddG K) (tFld K (tVar 0) "blocks") (tC (.int 1))) tNil))) (gName 2) (tSeq (tAsg (tLc (iSeq K (tCall (spD (vals 2) (D_raw_costs c)) [] E0 (tCons (tVar 0) (tCons (tVar 2) tNil)))) (gName 5) tYes (tIf (tTest (tOp xIsG (tVar 5) (tC .non))) (tC (.int 0)) (tOp xShl (tC (.int 1)) (tOp (xMulG K) (tC (.int 40)) (tVar 5)))) [5]) (gName 3)) (tSeq (tAsg (tLc (iSeq K (tSl (xSlG K) (tVar 3) (tPart (tC (.int 1))) tNoPart)) (gName 6) tYes (tUn xNeg (tVar 6)) [6]) (gName 4)) (tSeq (tAsg (tCB (rSum K) (tCons (tVar 3) tNil)) (gSub (tVar 4) (tOp xSub (tVar 2) (tC (.int 1))) rSetL)) (tDrop (tBM K "list" rAppend (tVar 1) (tCons (tVar 4) tNil))))))) (tRet (tVar 1))))
def B_rows_of (c : Cl) : DTS :=
  (dSeq (dAsg (dLst dNilV) (dName 1)) (dSeq (dPost [0, 2, 3, 4] (dFor (dRng2 (dConsA (dC (.int 1)) (dLastA (dOpP dAdd (dFld [c.Words] "blocks" (dVar 0)) (dC (.int 1)))))) (dName 2) (dSeq (dAsg (dLc (dIter (dCall false (D_raw_costs c) (dConsV (dVar 0) (dConsV (dVar 2) dNilV)))) (dName 5) dYes (dIf (dTest (dOpP dIs (dVar 5) (dC .non))) (dC (.int 0)) (dOpP dShl (dC (.int 1)) (dOpP dMul (dC (.int 40)) (dVar 5)))) [5]) (dName 3)) (dSeq (dAsg (dLc (dIter (dSl (dVar 3) (dPart (dC (.int 1))) dNoPart)) (dName 6) dYes (dUn dNeg (dVar 6)) [6]) (dName 4)) (dSeq (dPost [2, 3] (dAsg (dCB dSum (dLastA (dVar 3))) (dSub (dVar 4) (dOpP dSub2 (dVar 2) (dC (.int 1)))))) (dPost [4] (dDrop (dMeth1 fAppend 1 (dVar 4))))))))) (dRet (dVar 1))))
def D_rows_of (c : Cl) : Fn := dFn (vals 1) 7 (B_rows_of c)
theorem D_rows_of_in {c : Cl} {o0 : O} {P : O → List O → Prop} {PE : DExc → List O → Prop} (h : B_rows_of c ⟨fun env => P (.fr .non) (outs [false] env), fun o env => P o (outs [false] env), fun _ => False, fun _ => False, fun e env => PE e (outs [false] env)⟩ [S.ow o0, S.un, S.un, S.un, S.un, S.un, S.un]) : D_rows_of c [o0] P PE := ⟨rfl, h⟩
theorem D_rows_of_n {c : Cl} : ∀ os P PE, D_rows_of c os P PE → os.length = 1 := fun _ _ _ h => h.1
theorem sim_rows_of {K : PySem.W.Frag} {c : Cl} (fa : Fa K c) (E : XK) : SimS (fun cls dd _ H => E cls dd H) (u_rows_of K c) (B_rows_of c) :=
  (sim_seq (sim_asg (sim_lst sim_nilV) sim_name) (sim_seq (sim_post (sim_for (sim_rng2 (sim_consA (SimP.e sim_int) (sim_lastA (SimP.e (simp_op simr_add (simp_fld fa.f_blocks sim_var) sim_int))))) sim_name (sim_seq (sim_asg (sim_lc (sim_seq_it (sim_call0 D_raw_costs_n (sim_consV (SimP.e sim_var) (sim_consV (SimP.e sim_var) sim_nilV)))) sim_name sim_yes (sim_if (sim_test (SimP.e (simp_op simr_is sim_var sim_non))) (SimP.e sim_int) (SimP.e (simp_op simr_shl sim_int (simp_op simr_mul sim_int sim_var)))) (by decide)) sim_name) (sim_seq (sim_asg (sim_lc (sim_seq_it (sim_sl (SimP.e sim_var) (sim_part sim_int) sim_noPart)) sim_name sim_yes (SimP.e (simp_un simr_neg sim_var)) (by decide)) sim_name) (sim_seq (sim_post (sim_asg (SimP.e (simp_cb1 sim_sum sim_var)) (sim_sub sim_var (simp_op simr_sub sim_var sim_int)))) (sim_post (sim_drop (sim_meth1 simM_append (SimP.e sim_var))))))))) (sim_ret (SimP.e sim_var))))
def u_led_down (K : PySem.W.Frag) (c : Cl) : TS :=
  (tSeq (tAsg (tOp (rIx K) (tVar 0) (tC (.int 0))) (gName 3)) (tSeq (tAsg (tLst tNil) (gName 4)) (tSeq (tFor (iSeq K (tSl (xSlG K) (tVar 0) (tPart (tC (.int 1))) tNoPart)) (gName 5) (tDrop (tBM K "list" rAppend (tVar 4) (tCons (tLc (iRng1 (tCons (tCB (xLenG K) (tCons (tVar 3) tNil)) tNil)) (gName 6) tYes (tOp xDivB (tOp xSub (tOp xMulB (tOp (rIx K) (tVar 5) (tVar 6)) (tOp (rIx K) (tVar 3) (tVar 1))) (tOp xMulB (tOp (rIx K) (tVar 5) (tVar 1)) (tOp (rIx K) (tVar 3) (tVar 6)))) (tVar 2)) [6]) tNil)))) (tRet (tVar 4)))))
def B_led_down (c : Cl) : DTS :=
  (dSeq (dAsg (dIx (dVar 0) (dC (.int 0))) (dName 3)) (dSeq (dAsg (dLst dNilV) (dName 4)) (dSeq (dPost [0, 1, 2, 3, 5] (dFor (dIterK [0] (dIter (dSl (dVar 0) (dPart (dC (.int 1))) dNoPart))) (dName 5) (dPost [5] (dDrop (dMeth1 fAppend 4 (dLc (dRng1 (dLastA (dCB dLen (dLastA (dVar 3))))) (dName 6) dYes (dOpP dDivB (dOpP dSub2 (dOpP dMulB (dIx (dVar 5) (dVar 6)) (dIx (dVar 3) (dVar 1))) (dOpP dMulB (dIx (dVar 5) (dVar 1)) (dIx (dVar 3) (dVar 6)))) (dVar 2)) [6])))))) (dRet (dVar 4)))))
def D_led_down (c : Cl) : Fn := dFn (vals 3) 7 (B_led_down c)
theorem D_led_down_in {c : Cl} {o0 o1 o2 : O} {P : O → List O → Prop} {PE : DExc → List O → Prop} (h : B_led_down c ⟨fun env => P (.fr .non) (outs [false, false, false] env), fun o env => P o (outs [false, false, false] env), fun _ => False, fun _ => False, fun e env => PE e (outs [false, false, false] env)⟩ [S.ow o0, S.ow o1, S.ow o2, S.un, S.un, S.un, S.un]) : D_led_down c [o0, o1, o2] P PE := ⟨rfl, h⟩
theorem D_led_down_n {c : Cl} : ∀ os P PE, D_led_down c os P PE → os.length = 3 := fun _ _ _ h => h.1
theorem sim_led_down {K : PySem.W.Frag} {c : Cl} (fa : Fa K c) (E : XK) : SimS (fun cls dd _ H => E cls dd H) (u_led_down K c) (B_led_down c) :=
  (sim_seq (sim_asg (SimP.e (simp_ix sim_var sim_int)) sim_name) (sim_seq (sim_asg (sim_lst sim_nilV) sim_name) (sim_seq (sim_post (sim_for (sim_iterK (sim_seq_it (sim_sl (SimP.e sim_var) (sim_part sim_int) sim_noPart))) sim_name (sim_post (sim_drop (sim_meth1 simM_append (sim_lc (sim_rng1 (sim_lastA (SimP.e (simp_cb1 sim_len sim_var)))) sim_name sim_yes (SimP.e (simp_op simr_divB (simp_op simr_sub (simp_op simr_mulB (simp_ix sim_var sim_var) (simp_ix sim_var sim_var)) (simp_op simr_mulB (simp_ix sim_var sim_var) (simp_ix sim_var sim_var))) sim_var)) (by decide))))))) (sim_ret (SimP.e sim_var)))))
def u_determinant (K : PySem.W.Frag) (c : Cl) : TS :=
  (tSeq (tAsg (tC (.int 1)) (gName 1)) (tSeq (tFor (iRng1 (tCons (tOp xSub (tCB (xLenG K) (tCons (tVar 0) tNil)) (tC (.int 1))) tNil)) (gName 2) (tSeq (tAsg (tCall (spD (vals 3) (D_led_down c)) [] E0 (tCons (tVar 0) (tCons (tVar 2) (tCons (tVar 1) tNil)))) (gName 3)) (tSeq (tAsg (tOp (rIx K) (tOp (rIx K) (tVar 0) (tC (.int 0))) (tVar 2)) (gName 1)) (tAsg (tVar 3) (gName 0))))) (tRet (tOp (rIx K) (tOp (rIx K) (tVar 0) (tC (.int 0))) (tUn xNeg (tC (.int 1)))))))
def B_determinant (c : Cl) : DTS :=
  (dSeq (dAsg (dC (.int 1)) (dName 1)) (dSeq (dPost [1, 2, 3] (dFor (dRng1 (dLastA (dOpP dSub2 (dCB dLen (dLastA (dVar 0))) (dC (.int 1))))) (dName 2) (dSeq (dPost [1] (dAsg (dCall false (D_led_down c) (dConsV (dVar 0) (dConsV (dVar 2) (dConsV (dVar 1) dNilV)))) (dName 3))) (dSeq (dPost [0, 2] (dAsg (dIx (dIx (dVar 0) (dC (.int 0))) (dVar 2)) (dName 1))) (dPost [3] (dAsg (dVar 3) (dName 0))))))) (dRet (dIx (dIx (dVar 0) (dC (.int 0))) (dUn dNeg (dC (.int 1)))))))
def D_determinant (c : Cl) : Fn := dFn (vals 1) 4 (B_determinant c)
theorem D_determinant_in {c : Cl} {o0 : O} {P : O → List O → Prop} {PE : DExc → List O → Prop} (h : B_determinant c ⟨fun env => P (.fr .non) (outs [false] env), fun o env => P o (outs [false] env), fun _ => False, fun _ => False, fun e env => PE e (outs [false] env)⟩ [S.ow o0, S.un, S.un, S.un]) : D_determinant c [o0] P PE := ⟨rfl, h⟩
theorem D_determinant_n {c : Cl} : ∀ os P PE, D_determinant c os P PE → os.length = 1 := fun _ _ _ h => h.1
theorem sim_determinant {K : PySem.W.Frag} {c : Cl} (fa : Fa K c) (E : XK) : SimS (fun cls dd _ H => E cls dd H) (u_determinant K c) (B_determinant c) :=
  (sim_seq (sim_asg (SimP.e sim_int) sim_name) (sim_seq (sim_post (sim_for (sim_rng1 (sim_lastA (SimP.e (simp_op simr_sub (simp_cb1 sim_len sim_var) sim_int)))) sim_name (sim_seq (sim_post (sim_asg (sim_call0 D_led_down_n (sim_consV (SimP.e sim_var) (sim_consV (SimP.e sim_var) (sim_consV (SimP.e sim_var) sim_nilV)))) sim_name)) (sim_seq (sim_post (sim_asg (SimP.e (simp_ix (simp_ix sim_var sim_int) sim_var)) sim_name)) (sim_post (sim_asg (SimP.e sim_var) sim_name)))))) (sim_ret (SimP.e (simp_ix (simp_ix sim_var sim_int) (simp_un simr_neg sim_int))))))
def u_many_by_wrong (K : PySem.W.Frag) (c : Cl) (E : XK) : TS :=
  (tSeq (tIfS (tTest (tOp xGt (tFld K (tVar 0) "blocks") (tC (.int 10)))) (tRaiseO c.TooMany (spX1 c.TooMany "most") (tCons (tC (.int 10)) tNil) (wE E)) tNext) (tSeq (tAsg (tCall (spD (vals 1) (D_determinant c)) [] E0 (tCons (tCall (spD (vals 1) (D_rows_of c)) [] E0 (tCons (tVar 0) tNil)) tNil)) (gName 1)) (tSeq (tAsg (tLst tNil) (gName 2)) (tSeq (tWhile (tTest (tOp xGt (tVar 1) (tC (.int 0)))) (tSeq (tDrop (tBM K "list" rAppend (tVar 2) (tCons (tOp xAndI (tVar 1) (tOp xSub (tOp xShl (tC (.int 1)) (tC (.int 40))) (tC (.int 1)))) tNil))) (tAsg (tOp xShrI (tVar 1) (tC (.int 40))) (gName 1)))) (tRet (tCB (xTupleOf K) (tCons (tVar 2) tNil)))))))
def B_many_by_wrong (c : Cl) : DTS :=
  (dSeq (dIfS (dTest (dOpP dGt (dFld [c.Words] "blocks" (dVar 0)) (dC (.int 10)))) (dRaise1 c.TooMany "most" (dConsV (dC (.int 10)) dNilV)) dNext) (dSeq (dPost [0] (dAsg (dCall false (D_determinant c) (dConsV (dCall false (D_rows_of c) (dConsV (dVar 0) dNilV)) dNilV)) (dName 1))) (dSeq (dAsg (dLst dNilV) (dName 2)) (dSeq (dPost [1] (dWhile (dTest (dOpP dGt (dVar 1) (dC (.int 0)))) (dSeq (dDrop (dMeth1 fAppend 2 (dOpP dAndI (dVar 1) (dOpP dSub2 (dOpP dShl (dC (.int 1)) (dC (.int 40))) (dC (.int 1)))))) (dAsg (dOpP dShrI (dVar 1) (dC (.int 40))) (dName 1))))) (dRet (dCB dTuple (dLastA (dVar 2))))))))
def D_many_by_wrong (c : Cl) : Fn := dFn (vals 1) 3 (B_many_by_wrong c)
theorem D_many_by_wrong_in {c : Cl} {o0 : O} {P : O → List O → Prop} {PE : DExc → List O → Prop} (h : B_many_by_wrong c ⟨fun env => P (.fr .non) (outs [false] env), fun o env => P o (outs [false] env), fun _ => False, fun _ => False, fun e env => PE e (outs [false] env)⟩ [S.ow o0, S.un, S.un]) : D_many_by_wrong c [o0] P PE := ⟨rfl, h⟩
theorem D_many_by_wrong_n {c : Cl} : ∀ os P PE, D_many_by_wrong c os P PE → os.length = 1 := fun _ _ _ h => h.1
theorem sim_many_by_wrong {K : PySem.W.Frag} {c : Cl} (fa : Fa K c) (E : XK) : SimS (fun cls dd _ H => E cls dd H) (u_many_by_wrong K c E) (B_many_by_wrong c) :=
  (sim_seq (sim_ifs (sim_test (SimP.e (simp_op simr_gt (simp_fld fa.f_blocks sim_var) sim_int))) (sim_raise1 (sim_consV (SimP.e sim_int) sim_nilV)) sim_next) (sim_seq (sim_post (sim_asg (sim_call0 D_determinant_n (sim_consV (sim_call0 D_rows_of_n (sim_consV (SimP.e sim_var) sim_nilV)) sim_nilV)) sim_name)) (sim_seq (sim_asg (sim_lst sim_nilV) sim_name) (sim_seq (sim_post (sim_while (sim_test (SimP.e (simp_op simr_gt sim_var sim_int))) (sim_seq (sim_drop (sim_meth1 simM_append (SimP.e (simp_op simr_andI sim_var (simp_op simr_sub (simp_op simr_shl sim_int sim_int) sim_int))))) (sim_asg (SimP.e (simp_op simr_shrI sim_var sim_int)) sim_name)))) (sim_ret (SimP.e (simp_cb1 sim_tuple sim_var)))))))
def u_leads_home (K : PySem.W.Frag) (c : Cl) : TS :=
  (tSeq (tAsg (tVar 1) (gName 2)) (tSeq (tFor (iRng1 (tCons (tOp (xAddG K) (tCB (xLenG K) (tCons (tVar 0) tNil)) (tC (.int 1))) tNil)) (gName 3) (tSeq (tIfS (tTest (tOp (rEqD K) (tVar 2) (tC (.int 0)))) (tRet (tC (.bl true))) tNext) (tAsg (tOp (rIx K) (tVar 0) (tOp xSub (tVar 2) (tC (.int 1)))) (gName 2)))) (tRet (tC (.bl false)))))
def B_leads_home (c : Cl) : DTS :=
  (dSeq (dPost [1] (dAsg (dVar 1) (dName 2))) (dSeq (dPost [0, 2, 3] (dFor (dRng1 (dLastA (dOpP dAdd (dCB dLen (dLastA (dVar 0))) (dC (.int 1))))) (dName 3) (dKill [3] (dSeq (dIfS (dTest (dOpP dEq (dVar 2) (dC (.int 0)))) (dRet (dC (.bl true))) dNext) (dAsg (dIx (dVar 0) (dOpP dSub2 (dVar 2) (dC (.int 1)))) (dName 2)))))) (dRet (dC (.bl false)))))
def D_leads_home (c : Cl) : Fn := dFn (vals 2) 4 (B_leads_home c)
theorem D_leads_home_in {c : Cl} {o0 o1 : O} {P : O → List O → Prop} {PE : DExc → List O → Prop} (h : B_leads_home c ⟨fun env => P (.fr .non) (outs [false, false] env), fun o env => P o (outs [false, false] env), fun _ => False, fun _ => False, fun e env => PE e (outs [false, false] env)⟩ [S.ow o0, S.ow o1, S.un, S.un]) : D_leads_home c [o0, o1] P PE := ⟨rfl, h⟩
theorem D_leads_home_n {c : Cl} : ∀ os P PE, D_leads_home c os P PE → os.length = 2 := fun _ _ _ h => h.1
theorem sim_leads_home {K : PySem.W.Frag} {c : Cl} (fa : Fa K c) (E : XK) : SimS (fun cls dd _ H => E cls dd H) (u_leads_home K c) (B_leads_home c) :=
  (sim_seq (sim_post (sim_asg (SimP.e sim_var) sim_name)) (sim_seq (sim_post (sim_for (sim_rng1 (sim_lastA (SimP.e (simp_op simr_add (simp_cb1 sim_len sim_var) sim_int)))) sim_name (sim_kill (sim_seq (sim_ifs (sim_test (SimP.e (simp_op simr_eq sim_var sim_int))) (sim_ret (SimP.e sim_bl)) sim_next) (sim_asg (SimP.e (simp_ix sim_var (simp_op simr_sub sim_var sim_int))) sim_name))))) (sim_ret (SimP.e sim_bl))))
def u_Tree_init (K : PySem.W.Frag) (c : Cl) (E : XK) : TS :=
  (tSeq (tIfS (tOr (tNot (tB (tCB (xIsiG K) (tCons (tVar 1) (tCons (tC (.ty "tuple")) tNil))))) (tNot (tTest (tChain xLe xLe (tC (.int 1)) (tCB (xLenG K) (tCons (tVar 1) tNil)) (tC (.int 40)))))) (tRaiseO c.BadTree (spX1 c.BadTree "part") (tCons (tC (.str "hung")) tNil) (wE E)) tNext) (tSeq (tFor (iRng2 (tCons (tC (.int 1)) (tCons (tOp (xAddG K) (tCB (xLenG K) (tCons (tVar 1) tNil)) (tC (.int 1))) tNil))) (gName 2) (tIfS (tOr (tNot (tB (tCall (spD (vals 3) (D_is_within c)) [] E0 (tCons (tOp (rIx K) (tVar 1) (tOp xSub (tVar 2) (tC (.int 1)))) (tCons (tC (.int 0)) (tCons (tCB (xLenG K) (tCons (tVar 1) tNil)) tNil)))))) (tTest (tOp (rEqD K) (tOp (rIx K) (tVar 1) (tOp xSub (tVar 2) (tC (.int 1)))) (tVar 2)))) (tRaiseO c.BadTree (spX1 c.BadTree "part") (tCons (tVar 2) tNil) (wE E)) tNext)) (tSeq (tFor (iRng2 (tCons (tC (.int 1)) (tCons (tOp (xAddG K) (tCB (xLenG K) (tCons (tVar 1) tNil)) (tC (.int 1))) tNil))) (gName 2) (tIfS (tNot (tB (tCall (spD (vals 2) (D_leads_home c)) [] E0 (tCons (tVar 1) (tCons (tVar 2) tNil))))) (tRaiseO c.BadTree (spX1 c.BadTree "part") (tCons (tTup (tCons (tC (.str "ring")) (tCons (tVar 2) tNil))) tNil) (wE E)) tNext)) (sFld K (tVar 0) (tVar 1) "hung"))))
def B_Tree_init (c : Cl) : DTS :=
  (dSeq (dIfS (dOr (dNot (dTest (dCB (dIsi [c.Tree, c.Words]) (dConsA (dVar 1) (dLastA (dC (.ty "tuple"))))))) (dNot (dTest (dChain dLe dLe (dC (.int 1)) (dCB dLen (dLastA (dVar 1))) (dC (.int 40)))))) (dRaise1 c.BadTree "part" (dConsV (dC (.str "hung")) dNilV)) dNext) (dSeq (dPost [2] (dFor (dRng2 (dConsA (dC (.int 1)) (dLastA (dOpP dAdd (dCB dLen (dLastA (dVar 1))) (dC (.int 1)))))) (dName 2) (dIfS (dOr (dNot (dTest (dCall false (D_is_within c) (dConsV (dIx (dVar 1) (dOpP dSub2 (dVar 2) (dC (.int 1)))) (dConsV (dC (.int 0)) (dConsV (dCB dLen (dLastA (dVar 1))) dNilV)))))) (dTest (dOpP dEq (dIx (dVar 1) (dOpP dSub2 (dVar 2) (dC (.int 1)))) (dVar 2)))) (dRaise1 c.BadTree "part" (dConsV (dVar 2) dNilV)) (dKill [2] dNext)))) (dSeq (dPost [2] (dFor (dRng2 (dConsA (dC (.int 1)) (dLastA (dOpP dAdd (dCB dLen (dLastA (dVar 1))) (dC (.int 1)))))) (dName 2) (dIfS (dNot (dTest (dCall false (D_leads_home c) (dConsV (dVar 1) (dConsV (dVar 2) dNilV))))) (dRaise1 c.BadTree "part" (dConsV (dTup (dConsV (dC (.str "ring")) (dConsV (dVar 2) dNilV))) dNilV)) (dKill [2] dNext)))) (dPost [1] (dSetF [c.Tree] 0 "hung" (dVar 1))))))
def D_Tree_init (c : Cl) : Fn := dFn (true :: vals 1) 3 (B_Tree_init c)
theorem D_Tree_init_in {c : Cl} {o0 o1 : O} {P : O → List O → Prop} {PE : DExc → List O → Prop} (h : B_Tree_init c ⟨fun env => P (.fr .non) (outs [true, false] env), fun o env => P o (outs [true, false] env), fun _ => False, fun _ => False, fun e env => PE e (outs [true, false] env)⟩ [S.bo o0, S.ow o1, S.un]) : D_Tree_init c [o0, o1] P PE := ⟨rfl, h⟩
theorem D_Tree_init_n {c : Cl} : ∀ os P PE, D_Tree_init c os P PE → os.length = 1 + 1 := fun _ _ _ h => h.1
theorem sim_Tree_init {K : PySem.W.Frag} {c : Cl} (fa : Fa K c) (E : XK) : SimS (fun cls dd _ H => E cls dd H) (u_Tree_init K c E) (B_Tree_init c) :=
  (sim_seq (sim_ifs (sim_or (sim_not (sim_b (sim_cb (sim_isi fa.cls) (sim_consA (SimP.e sim_var) (sim_lastA (SimP.e sim_ty)))))) (sim_not (sim_test (sim_chain simr_le simr_le (SimP.e sim_int) (SimP.e (simp_cb1 sim_len sim_var)) (SimP.e sim_int))))) (sim_raise1 (sim_consV (SimP.e sim_str) sim_nilV)) sim_next) (sim_seq (sim_post (sim_for (sim_rng2 (sim_consA (SimP.e sim_int) (sim_lastA (SimP.e (simp_op simr_add (simp_cb1 sim_len sim_var) sim_int))))) sim_name (sim_ifs (sim_or (sim_not (sim_b (sim_call0 D_is_within_n (sim_consV (SimP.e (simp_ix sim_var (simp_op simr_sub sim_var sim_int))) (sim_consV (SimP.e sim_int) (sim_consV (SimP.e (simp_cb1 sim_len sim_var)) sim_nilV)))))) (sim_test (SimP.e (simp_op simr_eq (simp_ix sim_var (simp_op simr_sub sim_var sim_int)) sim_var)))) (sim_raise1 (sim_consV (SimP.e sim_var) sim_nilV)) (sim_kill sim_next)))) (sim_seq (sim_post (sim_for (sim_rng2 (sim_consA (SimP.e sim_int) (sim_lastA (SimP.e (simp_op simr_add (simp_cb1 sim_len sim_var) sim_int))))) sim_name (sim_ifs (sim_not (sim_b (sim_call0 D_leads_home_n (sim_consV (SimP.e sim_var) (sim_consV (SimP.e sim_var) sim_nilV))))) (sim_raise1 (sim_consV (sim_tup (sim_consV (SimP.e sim_str) (sim_consV (SimP.e sim_var) sim_nilV))) sim_nilV)) (sim_kill sim_next)))) (sim_post (sim_setF fa.f_hung (SimP.e sim_var))))))

def u_l_draw (K : PySem.W.Frag) (c : Cl) : TS :=
  (tSeq (tIfS (tAnd (tTest (tOp (rEqD K) (tOp (rIx K) (tVar 0) (tC (.int 2))) (tC (.int 0)))) (tTest (tOp (xLtG K) (tOp (rIx K) (tVar 0) (tC (.int 1))) (tCB (xLenG K) (tCons (tOp (rIx K) (tVar 0) (tC (.int 0))) tNil))))) (tSeq (tAsg (tOp (rIx K) (tOp (rIx K) (tVar 0) (tC (.int 0))) (tOp (rIx K) (tVar 0) (tC (.int 1)))) (gName 2)) (tSeq (tAsg (tOp (xAddG K) (tOp (rIx K) (tVar 0) (tC (.int 1))) (tC (.int 1))) (gSub (tVar 0) (tC (.int 1)) rSetL)) (tSeq (tAsg (tOp xMod (tCB xInt (tCons (tOp (xAddG K) (tOp (xAddG K) (tOp (xMulG K) (tOp (rIx K) (tVar 0) (tC (.int 3))) (tC (.int 69621))) (tVar 2)) (tC (.int 11))) tNil)) (tC (.int 2147483629))) (gSub (tVar 0) (tC (.int 3)) rSetL)) (tIfS (tTest (tOp xGe (tVar 2) (tOp xPow (tC (.int 10)) (tC (.int 18))))) (tAsg (tVar 2) (gSub (tVar 0) (tC (.int 2)) rSetL)) tNext)))) tNext) (tSeq (tIfS (tTest (tOp xGt (tOp (rIx K) (tVar 0) (tC (.int 2))) (tC (.int 0)))) (tSeq (tAsg (tOp xMod (tCB xInt (tCons (tOp (rIx K) (tVar 0) (tC (.int 2))) tNil)) (tVar 1)) (gName 3)) (tSeq (tAsg (tOp xDiv (tOp (rIx K) (tVar 0) (tC (.int 2))) (tVar 1)) (gSub (tVar 0) (tC (.int 2)) rSetL)) (tRet (tVar 3)))) tNext) (tSeq (tAsg (tOp (xAddG K) (tOp (rIx K) (tVar 0) (tC (.int 4))) (tC (.int 1))) (gSub (tVar 0) (tC (.int 4)) rSetL)) (tSeq (tAsg (tOp xMod (tCB xInt (tCons (tOp (xMulG K) (tCB xInt (tCons (tOp (xAddG K) (tOp (rIx K) (tVar 0) (tC (.int 3))) (tOp (xMulG K) (tC (.int 7919)) (tOp (rIx K) (tVar 0) (tC (.int 4))))) tNil)) (tC (.int 48271))) tNil)) (tC (.int 2147483647))) (gName 4)) (tSeq (tAsg (tOp xMod (tCB xInt (tCons (tOp (xMulG K) (tVar 4) (tOp (xAddG K) (tOp xDiv (tVar 4) (tC (.int 1009))) (tC (.int 69621)))) tNil)) (tC (.int 2147483647))) (gName 4)) (tSeq (tAsg (tOp xMod (tCB xInt (tCons (tOp (xMulG K) (tVar 4) (tOp (xAddG K) (tOp xDiv (tVar 4) (tC (.int 2003))) (tC (.int 40692)))) tNil)) (tC (.int 2147483399))) (gName 4)) (tRet (tOp xMod (tCB xInt (tCons (tOp xDiv (tVar 4) (tC (.int 16))) tNil)) (tVar 1)))))))))
def B_l_draw (c : Cl) : DTS :=
  (dCut (dIfS (dAnd (dTest (dOpP dEq (dIx (dVar 0) (dC (.int 2))) (dC (.int 0)))) (dTest (dOpP dLtG (dIx (dVar 0) (dC (.int 1))) (dCB dLen (dLastA (dIx (dVar 0) (dC (.int 0)))))))) (dSeq (dAsg (dIx (dIx (dVar 0) (dC (.int 0))) (dIx (dVar 0) (dC (.int 1)))) (dName 2)) (dSeq (dAsg (dOpP dAdd (dIx (dVar 0) (dC (.int 1))) (dC (.int 1))) (dSub (dVar 0) (dC (.int 1)))) (dSeq (dAsg (dOpP dMod (dCB dInt (dLastA (dOpP dAdd (dOpP dAdd (dOpP dMul (dIx (dVar 0) (dC (.int 3))) (dC (.int 69621))) (dVar 2)) (dC (.int 11))))) (dC (.int 2147483629))) (dSub (dVar 0) (dC (.int 3)))) (dIfS (dTest (dOpP dGe (dVar 2) (dOpP dPow (dC (.int 10)) (dC (.int 18))))) (dPost [2] (dAsg (dVar 2) (dSub (dVar 0) (dC (.int 2))))) (dKill [2] dNext))))) dNext) (dSeq (dIfS (dTest (dOpP dGt (dIx (dVar 0) (dC (.int 2))) (dC (.int 0)))) (dSeq (dAsg (dOpP dMod (dCB dInt (dLastA (dIx (dVar 0) (dC (.int 2))))) (dVar 1)) (dName 3)) (dSeq (dPost [1] (dAsg (dOpP dDiv (dIx (dVar 0) (dC (.int 2))) (dVar 1)) (dSub (dVar 0) (dC (.int 2))))) (dRet (dVar 3)))) dNext) (dSeq (dAsg (dOpP dAdd (dIx (dVar 0) (dC (.int 4))) (dC (.int 1))) (dSub (dVar 0) (dC (.int 4)))) (dSeq (dAsg (dOpP dMod (dCB dInt (dLastA (dOpP dMul (dCB dInt (dLastA (dOpP dAdd (dIx (dVar 0) (dC (.int 3))) (dOpP dMul (dC (.int 7919)) (dIx (dVar 0) (dC (.int 4))))))) (dC (.int 48271))))) (dC (.int 2147483647))) (dName 4)) (dSeq (dAsg (dOpP dMod (dCB dInt (dLastA (dOpP dMul (dVar 4) (dOpP dAdd (dOpP dDiv (dVar 4) (dC (.int 1009))) (dC (.int 69621)))))) (dC (.int 2147483647))) (dName 4)) (dSeq (dAsg (dOpP dMod (dCB dInt (dLastA (dOpP dMul (dVar 4) (dOpP dAdd (dOpP dDiv (dVar 4) (dC (.int 2003))) (dC (.int 40692)))))) (dC (.int 2147483399))) (dName 4)) (dRet (dOpP dMod (dCB dInt (dLastA (dOpP dDiv (dVar 4) (dC (.int 16))))) (dVar 1)))))))))
def D_l_draw (c : Cl) : Fn := dFn (true :: vals 1) 5 (B_l_draw c)
theorem D_l_draw_in {c : Cl} {o0 o1 : O} {P : O → List O → Prop} {PE : DExc → List O → Prop} (h : B_l_draw c ⟨fun env => P (.fr .non) (outs [true, false] env), fun o env => P o (outs [true, false] env), fun _ => False, fun _ => False, fun e env => PE e (outs [true, false] env)⟩ [S.bo o0, S.ow o1, S.un, S.un, S.un]) : D_l_draw c [o0, o1] P PE := ⟨rfl, h⟩
theorem D_l_draw_n {c : Cl} : ∀ os P PE, D_l_draw c os P PE → os.length = 1 + 1 := fun _ _ _ h => h.1
theorem sim_l_draw {K : PySem.W.Frag} {c : Cl} (fa : Fa K c) (E : XK) : SimS (fun cls dd _ H => E cls dd H) (u_l_draw K c) (B_l_draw c) :=
  (sim_cut (sim_ifs (sim_and (sim_test (SimP.e (simp_op simr_eq (simp_ix sim_var sim_int) sim_int))) (sim_test (SimP.e (simp_op simr_ltG (simp_ix sim_var sim_int) (simp_cb1 sim_len (simp_ix sim_var sim_int)))))) (sim_seq (sim_asg (SimP.e (simp_ix (simp_ix sim_var sim_int) (simp_ix sim_var sim_int))) sim_name) (sim_seq (sim_asg (SimP.e (simp_op simr_add (simp_ix sim_var sim_int) sim_int)) (sim_sub sim_var sim_int)) (sim_seq (sim_asg (SimP.e (simp_op simr_mod (simp_cb1 sim_intB (simp_op simr_add (simp_op simr_add (simp_op simr_mul (simp_ix sim_var sim_int) sim_int) sim_var) sim_int)) sim_int)) (sim_sub sim_var sim_int)) (sim_ifs (sim_test (SimP.e (simp_op simr_ge sim_var (simp_op simr_pow sim_int sim_int)))) (sim_post (sim_asg (SimP.e sim_var) (sim_sub sim_var sim_int))) (sim_kill sim_next))))) sim_next) (sim_seq (sim_ifs (sim_test (SimP.e (simp_op simr_gt (simp_ix sim_var sim_int) sim_int))) (sim_seq (sim_asg (SimP.e (simp_op simr_mod (simp_cb1 sim_intB (simp_ix sim_var sim_int)) sim_var)) sim_name) (sim_seq (sim_post (sim_asg (SimP.e (simp_op simr_div (simp_ix sim_var sim_int) sim_var)) (sim_sub sim_var sim_int))) (sim_ret (SimP.e sim_var)))) sim_next) (sim_seq (sim_asg (SimP.e (simp_op simr_add (simp_ix sim_var sim_int) sim_int)) (sim_sub sim_var sim_int)) (sim_seq (sim_asg (SimP.e (simp_op simr_mod (simp_cb1 sim_intB (simp_op simr_mul (simp_cb1 sim_intB (simp_op simr_add (simp_ix sim_var sim_int) (simp_op simr_mul sim_int (simp_ix sim_var sim_int)))) sim_int)) sim_int)) sim_name) (sim_seq (sim_asg (SimP.e (simp_op simr_mod (simp_cb1 sim_intB (simp_op simr_mul sim_var (simp_op simr_add (simp_op simr_div sim_var sim_int) sim_int))) sim_int)) sim_name) (sim_seq (sim_asg (SimP.e (simp_op simr_mod (simp_cb1 sim_intB (simp_op simr_mul sim_var (simp_op simr_add (simp_op simr_div sim_var sim_int) sim_int))) sim_int)) sim_name) (sim_ret (SimP.e (simp_op simr_mod (simp_cb1 sim_intB (simp_op simr_div sim_var sim_int)) sim_var)))))))))
def BB_l_is (c : Cl) (D_rec : Fn) : DTS :=
  (dSeq (dIfS (dTest (dCB (dIsi [c.Tree, c.Words]) (dConsA (dVar 1) (dLastA (dTup (dConsV (dC (.ty "tuple")) (dConsV (dC (.ty "list")) dNilV))))))) (dSeq (dIfS (dOr (dTest (dOp dNe (dCB (dIsi [c.Tree, c.Words]) (dConsA (dVar 0) (dLastA (dC (.ty "tuple"))))) (dCB (dIsi [c.Tree, c.Words]) (dConsA (dVar 1) (dLastA (dC (.ty "tuple"))))))) (dNot (dTest (dCB (dIsi [c.Tree, c.Words]) (dConsA (dVar 0) (dLastA (dTup (dConsV (dC (.ty "tuple")) (dConsV (dC (.ty "list")) dNilV))))))))) (dRet (dC (.bl false))) dNext) (dRet (dAndV (dOpP dEq (dCB dLen (dLastA (dVar 0))) (dCB dLen (dLastA (dVar 1)))) (dCB dAll (dLastA (dLc (dZip (dConsV (dVar 0) (dConsV (dVar 1) dNilV))) (dGTup 2 (dGCons (dName 2) (dGCons (dName 3) dGNil))) dYes (dCall false D_rec (dConsV (dVar 2) (dConsV (dVar 3) dNilV))) [2, 3])))))) dNext) (dRet (dAndV (dOp dEq (dCB (dIsi [c.Tree, c.Words]) (dConsA (dVar 0) (dLastA (dC (.ty "bool"))))) (dCB (dIsi [c.Tree, c.Words]) (dConsA (dVar 1) (dLastA (dC (.ty "bool")))))) (dOpP dEq (dVar 0) (dVar 1)))))
def D_l_is (c : Cl) : Nat → Fn
  | 0 => fun _ _ _ => False
  | k + 1 => dFn (vals 2) 4 (BB_l_is c (D_l_is c k))
theorem D_l_is_in {c : Cl} {k : Nat} {o0 o1 : O} {P : O → List O → Prop} {PE : DExc → List O → Prop} (h : BB_l_is c (D_l_is c k) ⟨fun env => P (.fr .non) (outs [false, false] env), fun o env => P o (outs [false, false] env), fun _ => False, fun _ => False, fun e env => PE e (outs [false, false] env)⟩ [S.ow o0, S.ow o1, S.un, S.un]) : D_l_is c (k + 1) [o0, o1] P PE := ⟨rfl, h⟩
theorem D_l_is_n {c : Cl} : ∀ {k : Nat} os P PE, D_l_is c k os P PE → os.length = 2
  | 0, _, _, _, h => h.elim
  | _ + 1, _, _, _, h => h.1
def u_l_is (K : PySem.W.Frag) (c : Cl) (k : Nat) : TS :=
  (tSeq (tIfS (tB (tCB (xIsiG K) (tCons (tVar 1) (tCons (tTup (tCons (tC (.ty "tuple")) (tCons (tC (.ty "list")) tNil))) tNil)))) (tSeq (tIfS (tOr (tTest (tOp (rNeD K) (tCB (xIsiG K) (tCons (tVar 0) (tCons (tC (.ty "tuple")) tNil))) (tCB (xIsiG K) (tCons (tVar 1) (tCons (tC (.ty "tuple")) tNil))))) (tNot (tB (tCB (xIsiG K) (tCons (tVar 0) (tCons (tTup (tCons (tC (.ty "tuple")) (tCons (tC (.ty "list")) tNil))) tNil)))))) (tRet (tC (.bl false))) tNext) (tRet (tAndV (tOp (rEqD K) (tCB (xLenG K) (tCons (tVar 0) tNil)) (tCB (xLenG K) (tCons (tVar 1) tNil))) (tCB (rAll K) (tCons (tLc (RZ.iZipA K (tCons (tVar 0) (tCons (tVar 1) tNil))) (gTup K 2 (gCons (gName 2) (gCons (gName 3) gNil))) tYes (tCall (spD (vals 2) (D_l_is c k)) [] E0 (tCons (tVar 2) (tCons (tVar 3) tNil))) [2, 3]) tNil))))) tNext) (tRet (tAndV (tOp (rEqD K) (tCB (xIsiG K) (tCons (tVar 0) (tCons (tC (.ty "bool")) tNil))) (tCB (xIsiG K) (tCons (tVar 1) (tCons (tC (.ty "bool")) tNil)))) (tOp (rEqD K) (tVar 0) (tVar 1)))))
theorem sim_l_is {K : PySem.W.Frag} {c : Cl} (fa : Fa K c) (k : Nat) (E : XK) : SimS (fun cls dd _ H => E cls dd H) (u_l_is K c k) (BB_l_is c (D_l_is c k)) :=
  (sim_seq (sim_ifs (sim_b (sim_cb (sim_isi fa.cls) (sim_consA (SimP.e sim_var) (sim_lastA (sim_tup (sim_consV (SimP.e sim_ty) (sim_consV (SimP.e sim_ty) sim_nilV))))))) (sim_seq (sim_ifs (sim_or (sim_test (sim_op simr_ne (sim_cb (sim_isi fa.cls) (sim_consA (SimP.e sim_var) (sim_lastA (SimP.e sim_ty)))) (sim_cb (sim_isi fa.cls) (sim_consA (SimP.e sim_var) (sim_lastA (SimP.e sim_ty)))))) (sim_not (sim_b (sim_cb (sim_isi fa.cls) (sim_consA (SimP.e sim_var) (sim_lastA (sim_tup (sim_consV (SimP.e sim_ty) (sim_consV (SimP.e sim_ty) sim_nilV))))))))) (sim_ret (SimP.e sim_bl)) sim_next) (sim_ret (sim_andV (SimP.e (simp_op simr_eq (simp_cb1 sim_len sim_var) (simp_cb1 sim_len sim_var))) (sim_cb sim_all (sim_lastA (sim_lc (sim_zip (sim_consV (SimP.e sim_var) (sim_consV (SimP.e sim_var) sim_nilV))) (sim_gtup (sim_gcons sim_name (sim_gcons sim_name sim_gnil))) sim_yes (sim_call0 D_l_is_n (sim_consV (SimP.e sim_var) (sim_consV (SimP.e sim_var) sim_nilV))) (by decide))))))) sim_next) (sim_ret (sim_andV (sim_op simr_eq (sim_cb (sim_isi fa.cls) (sim_consA (SimP.e sim_var) (sim_lastA (SimP.e sim_ty)))) (sim_cb (sim_isi fa.cls) (sim_consA (SimP.e sim_var) (sim_lastA (SimP.e sim_ty))))) (SimP.e (simp_op simr_eq sim_var sim_var)))))
def u_l_deep (K : PySem.W.Frag) (c : Cl) : TS :=
  (tSeq (tAsg (tOp (rIx K) (tLst (tCons (tC .non) (tCons (tC (.str "a")) (tCons (tUn xNeg (tC (.int 1))) (tCons tDNewK tNil))))) (tCall (spD (true :: vals 1) (D_l_draw c)) [] E0 (tCons (tVar 0) (tCons (tC (.int 4)) tNil)))) (gName 1)) (tSeq (tFor (iRng1 (tCons (tOp (xAddG K) (tC (.int 1)) (tCall (spD (true :: vals 1) (D_l_draw c)) [] E0 (tCons (tVar 0) (tCons (tC (.int 30)) tNil)))) tNil)) (gName 2) (tAsg (tOp (rIx K) (tLst (tCons (tTup (tCons (tVar 1) tNil)) (tCons (tLst (tCons (tVar 1) tNil)) (tCons (tSl (xSlG K) (tTup (tCons (tVar 1) (tCons (tVar 1) tNil))) tNoPart (tPart (tC (.int 1)))) (tCons (tDisp [((tC (.int 0)), (tVar 1))]) tNil))))) (tCall (spD (true :: vals 1) (D_l_draw c)) [] E0 (tCons (tVar 0) (tCons (tC (.int 4)) tNil)))) (gName 1))) (tRet (tVar 1))))
def B_l_deep (c : Cl) : DTS :=
  (dSeq (dAsg (dIxE (dLst (dConsV (dC .non) (dConsV (dC (.str "a")) (dConsV (dUn dNeg (dC (.int 1))) (dConsV (dDct0 false) dNilV))))) (dCallM false (D_l_draw c) 0 (dConsV (dC (.int 4)) dNilV))) (dName 1)) (dSeq (dPost [2] (dFor (dRng1 (dLastA (dOp dAdd (dC (.int 1)) (dCallM false (D_l_draw c) 0 (dConsV (dC (.int 30)) dNilV))))) (dName 2) (dKill [2] (dAsg (dIxE (dLst (dConsV (dTup (dConsV (dVar 1) dNilV)) (dConsV (dLst (dConsV (dVar 1) dNilV)) (dConsV (dSl (dTup (dConsV (dVar 1) (dConsV (dVar 1) dNilV))) dNoPart (dPart (dC (.int 1)))) (dConsV (dDisp1 (dC (.int 0)) (dVar 1)) dNilV))))) (dCallM false (D_l_draw c) 0 (dConsV (dC (.int 4)) dNilV))) (dName 1))))) (dRet (dVar 1))))
def D_l_deep (c : Cl) : Fn := dFn (true :: vals 0) 3 (B_l_deep c)
theorem D_l_deep_in {c : Cl} {o0 : O} {P : O → List O → Prop} {PE : DExc → List O → Prop} (h : B_l_deep c ⟨fun env => P (.fr .non) (outs [true] env), fun o env => P o (outs [true] env), fun _ => False, fun _ => False, fun e env => PE e (outs [true] env)⟩ [S.bo o0, S.un, S.un]) : D_l_deep c [o0] P PE := ⟨rfl, h⟩
theorem D_l_deep_n {c : Cl} : ∀ os P PE, D_l_deep c os P PE → os.length = 0 + 1 := fun _ _ _ h => h.1
theorem sim_l_deep {K : PySem.W.Frag} {c : Cl} (fa : Fa K c) (E : XK) : SimS (fun cls dd _ H => E cls dd H) (u_l_deep K c) (B_l_deep c) :=
  (sim_seq (sim_asg (sim_ixE (sim_lst (sim_consV (SimP.e sim_non) (sim_consV (SimP.e sim_str) (sim_consV (SimP.e (simp_un simr_neg sim_int)) (sim_consV sim_dctK sim_nilV))))) (sim_callM0 D_l_draw_n (sim_consV (SimP.e sim_int) sim_nilV))) sim_name) (sim_seq (sim_post (sim_for (sim_rng1 (sim_lastA (sim_op simr_add (SimP.e sim_int) (sim_callM0 D_l_draw_n (sim_consV (SimP.e sim_int) sim_nilV))))) sim_name (sim_kill (sim_asg (sim_ixE (sim_lst (sim_consV (sim_tup (sim_consV (SimP.e sim_var) sim_nilV)) (sim_consV (sim_lst (sim_consV (SimP.e sim_var) sim_nilV)) (sim_consV (sim_sl (sim_tup (sim_consV (SimP.e sim_var) (sim_consV (SimP.e sim_var) sim_nilV))) sim_noPart (sim_part sim_int)) (sim_consV (sim_disp1 (SimP.e sim_int) (SimP.e sim_var)) sim_nilV))))) (sim_callM0 D_l_draw_n (sim_consV (SimP.e sim_int) sim_nilV))) sim_name)))) (sim_ret (SimP.e sim_var))))
def u_l_tree (K : PySem.W.Frag) (c : Cl) : TS :=
  (tSeq (tAsg (tLstRg (tRg2 (tC (.int 1)) (tOp (xAddG K) (tVar 1) (tC (.int 1))))) (gName 2)) (tSeq (tAsg (tLst (tCons (tC (.int 0)) tNil)) (gName 3)) (tSeq (tAsg (tOp (xMulG K) (tLst (tCons (tC (.int 0)) tNil)) (tVar 1)) (gName 4)) (tSeq (tAsg (tCall (spD (true :: vals 1) (D_l_draw c)) [] E0 (tCons (tVar 0) (tCons (tC (.int 3)) tNil))) (gName 5)) (tSeq (tFor (iRng1 (tCons (tVar 1) tNil)) (gName 6) (tSeq (tAsg (tBM K "list" rPopAt (tVar 2) (tCons (tCall (spD (true :: vals 1) (D_l_draw c)) [] E0 (tCons (tVar 0) (tCons (tCB (xLenG K) (tCons (tVar 2) tNil)) tNil))) tNil)) (gName 7)) (tSeq (tAsg (tCB xMax (tCons (tC (.int 1)) (tCons (tOp (rIx K) (tLst (tCons (tCB (xLenG K) (tCons (tVar 3) tNil)) (tCons (tC (.int 2)) (tCons (tC (.int 1)) tNil)))) (tVar 5)) tNil))) (gName 8)) (tSeq (tAsg (tOp (rIx K) (tVar 3) (tOp xSub (tOp xSub (tCB (xLenG K) (tCons (tVar 3) tNil)) (tC (.int 1))) (tCall (spD (true :: vals 1) (D_l_draw c)) [] E0 (tCons (tVar 0) (tCons (tCB xMin (tCons (tVar 8) (tCons (tCB (xLenG K) (tCons (tVar 3) tNil)) tNil))) tNil))))) (gSub (tVar 4) (tOp xSub (tVar 7) (tC (.int 1))) rSetL)) (tDrop (tBM K "list" rAppend (tVar 3) (tCons (tVar 7) tNil))))))) (tRet (tCB (xTupleOf K) (tCons (tVar 4) tNil))))))))
def B_l_tree (c : Cl) : DTS :=
  (dSeq (dAsg (dRg true (dConsA (dC (.int 1)) (dLastA (dOpP dAdd (dVar 1) (dC (.int 1)))))) (dName 2)) (dSeq (dAsg (dLst (dConsV (dC (.int 0)) dNilV)) (dName 3)) (dSeq (dAsg (dOpP dMul (dLst (dConsV (dC (.int 0)) dNilV)) (dVar 1)) (dName 4)) (dSeq (dAsg (dCallM false (D_l_draw c) 0 (dConsV (dC (.int 3)) dNilV)) (dName 5)) (dSeq (dPost [1, 2, 3, 5, 6, 7, 8] (dFor (dIterK [1] (dRng1 (dLastA (dVar 1)))) (dName 6) (dKill [6] (dSeq (dAsg (dMeth1 fPopAt 2 (dCallM false (D_l_draw c) 0 (dConsV (dCB dLen (dLastA (dVar 2))) dNilV))) (dName 7)) (dSeq (dAsg (dCB dMax2 (dConsA (dC (.int 1)) (dLastA (dIx (dLst (dConsV (dCB dLen (dLastA (dVar 3))) (dConsV (dC (.int 2)) (dConsV (dC (.int 1)) dNilV)))) (dVar 5))))) (dName 8)) (dSeq (dPost [8] (dAsg (dIxE (dVar 3) (dOp dSub2 (dOpP dSub2 (dCB dLen (dLastA (dVar 3))) (dC (.int 1))) (dCallM false (D_l_draw c) 0 (dConsV (dCB dMin2 (dConsA (dVar 8) (dLastA (dCB dLen (dLastA (dVar 3)))))) dNilV)))) (dSub (dVar 4) (dOpP dSub2 (dVar 7) (dC (.int 1)))))) (dPost [7] (dDrop (dMeth1 fAppend 3 (dVar 7)))))))))) (dRet (dCB dTuple (dLastA (dVar 4)))))))))
def D_l_tree (c : Cl) : Fn := dFn (true :: vals 1) 9 (B_l_tree c)
theorem D_l_tree_in {c : Cl} {o0 o1 : O} {P : O → List O → Prop} {PE : DExc → List O → Prop} (h : B_l_tree c ⟨fun env => P (.fr .non) (outs [true, false] env), fun o env => P o (outs [true, false] env), fun _ => False, fun _ => False, fun e env => PE e (outs [true, false] env)⟩ [S.bo o0, S.ow o1, S.un, S.un, S.un, S.un, S.un, S.un, S.un]) : D_l_tree c [o0, o1] P PE := ⟨rfl, h⟩
theorem D_l_tree_n {c : Cl} : ∀ os P PE, D_l_tree c os P PE → os.length = 1 + 1 := fun _ _ _ h => h.1
theorem sim_l_tree {K : PySem.W.Frag} {c : Cl} (fa : Fa K c) (E : XK) : SimS (fun cls dd _ H => E cls dd H) (u_l_tree K c) (B_l_tree c) :=
  (sim_seq (sim_asg (sim_lstRg2 (SimP.e sim_int) (SimP.e (simp_op simr_add sim_var sim_int))) sim_name) (sim_seq (sim_asg (sim_lst (sim_consV (SimP.e sim_int) sim_nilV)) sim_name) (sim_seq (sim_asg (sim_opP simr_mul (sim_lst (sim_consV (SimP.e sim_int) sim_nilV)) sim_var) sim_name) (sim_seq (sim_asg (sim_callM0 D_l_draw_n (sim_consV (SimP.e sim_int) sim_nilV)) sim_name) (sim_seq (sim_post (sim_for (sim_iterK (sim_rng1 (sim_lastA (SimP.e sim_var)))) sim_name (sim_kill (sim_seq (sim_asg (sim_meth1 simM_popAt (sim_callM0 D_l_draw_n (sim_consV (SimP.e (simp_cb1 sim_len sim_var)) sim_nilV))) sim_name) (sim_seq (sim_asg (sim_cb sim_max2 (sim_consA (SimP.e sim_int) (sim_lastA (sim_ix (sim_lst (sim_consV (SimP.e (simp_cb1 sim_len sim_var)) (sim_consV (SimP.e sim_int) (sim_consV (SimP.e sim_int) sim_nilV)))) sim_var)))) sim_name) (sim_seq (sim_post (sim_asg (sim_ixE (SimP.e sim_var) (sim_op simr_sub (SimP.e (simp_op simr_sub (simp_cb1 sim_len sim_var) sim_int)) (sim_callM0 D_l_draw_n (sim_consV (sim_cb sim_min2 (sim_consA (SimP.e sim_var) (sim_lastA (SimP.e (simp_cb1 sim_len sim_var))))) sim_nilV)))) (sim_sub sim_var (simp_op simr_sub sim_var sim_int)))) (sim_post (sim_drop (sim_meth1 simM_append (SimP.e sim_var)))))))))) (sim_ret (SimP.e (simp_cb1 sim_tuple sim_var))))))))
def u_l_right (K : PySem.W.Frag) (c : Cl) : TS :=
  (tSeq (tAsg (tLst tNil) (gName 1)) (tSeq (tFor (iRng1 (tCons (tOp (xAddG K) (tCB (xLenG K) (tCons (tVar 0) tNil)) (tC (.int 1))) tNil)) (gName 2) (tDrop (tBM K "list" rAppend (tVar 1) (tCons (tCB (xTupleOf K) (tCons (tLc (iSeq K (tVar 0)) (gName 3) tYes (tOp (rEqD K) (tVar 3) (tVar 2)) [3]) tNil)) tNil)))) (tRet (tTup (tCons (tVar 0) (tCons (tCB (xTupleOf K) (tCons (tVar 1) tNil)) tNil))))))
def B_l_right (c : Cl) : DTS :=
  (dSeq (dAsg (dLst dNilV) (dName 1)) (dSeq (dPost [2] (dFor (dRng1 (dLastA (dOpP dAdd (dCB dLen (dLastA (dVar 0))) (dC (.int 1))))) (dName 2) (dPost [2] (dDrop (dMeth1 fAppend 1 (dCB dTuple (dLastA (dLc (dIter (dVar 0)) (dName 3) dYes (dOpP dEq (dVar 3) (dVar 2)) [3])))))))) (dRet (dTup (dConsV (dVar 0) (dConsV (dCB dTuple (dLastA (dVar 1))) dNilV))))))
def D_l_right (c : Cl) : Fn := dFn (vals 1) 4 (B_l_right c)
theorem D_l_right_in {c : Cl} {o0 : O} {P : O → List O → Prop} {PE : DExc → List O → Prop} (h : B_l_right c ⟨fun env => P (.fr .non) (outs [false] env), fun o env => P o (outs [false] env), fun _ => False, fun _ => False, fun e env => PE e (outs [false] env)⟩ [S.ow o0, S.un, S.un, S.un]) : D_l_right c [o0] P PE := ⟨rfl, h⟩
theorem D_l_right_n {c : Cl} : ∀ os P PE, D_l_right c os P PE → os.length = 1 := fun _ _ _ h => h.1
theorem sim_l_right {K : PySem.W.Frag} {c : Cl} (fa : Fa K c) (E : XK) : SimS (fun cls dd _ H => E cls dd H) (u_l_right K c) (B_l_right c) :=
  (sim_seq (sim_asg (sim_lst sim_nilV) sim_name) (sim_seq (sim_post (sim_for (sim_rng1 (sim_lastA (SimP.e (simp_op simr_add (simp_cb1 sim_len sim_var) sim_int)))) sim_name (sim_post (sim_drop (sim_meth1 simM_append (sim_cb sim_tuple (sim_lastA (sim_lc (sim_seq_it (SimP.e sim_var)) sim_name sim_yes (SimP.e (simp_op simr_eq sim_var sim_var)) (by decide))))))))) (sim_ret (sim_tup (sim_consV (SimP.e sim_var) (sim_consV (SimP.e (simp_cb1 sim_tuple sim_var)) sim_nilV))))))
def u_l_put (K : PySem.W.Frag) (c : Cl) : TS :=
  (tRet (tOp (xAddG K) (tOp (xAddG K) (tSl (xSlG K) (tVar 0) tNoPart (tPart (tVar 1))) (tTup (tCons (tVar 2) tNil))) (tSl (xSlG K) (tVar 0) (tPart (tOp (xAddG K) (tVar 1) (tC (.int 1)))) tNoPart)))
def B_l_put (c : Cl) : DTS :=
  (dRet (dOp dAdd (dOp dAdd (dSl (dVar 0) dNoPart (dPart (dVar 1))) (dTup (dConsV (dVar 2) dNilV))) (dSl (dVar 0) (dPart (dOpP dAdd (dVar 1) (dC (.int 1)))) dNoPart)))
def D_l_put (c : Cl) : Fn := dFn (vals 3) 3 (B_l_put c)
theorem D_l_put_in {c : Cl} {o0 o1 o2 : O} {P : O → List O → Prop} {PE : DExc → List O → Prop} (h : B_l_put c ⟨fun env => P (.fr .non) (outs [false, false, false] env), fun o env => P o (outs [false, false, false] env), fun _ => False, fun _ => False, fun e env => PE e (outs [false, false, false] env)⟩ [S.ow o0, S.ow o1, S.ow o2]) : D_l_put c [o0, o1, o2] P PE := ⟨rfl, h⟩
theorem D_l_put_n {c : Cl} : ∀ os P PE, D_l_put c os P PE → os.length = 3 := fun _ _ _ h => h.1
theorem sim_l_put {K : PySem.W.Frag} {c : Cl} (fa : Fa K c) (E : XK) : SimS (fun cls dd _ H => E cls dd H) (u_l_put K c) (B_l_put c) :=
  (sim_ret (sim_op simr_add (sim_op simr_add (sim_sl (SimP.e sim_var) sim_noPart (sim_part sim_var)) (sim_tup (sim_consV (SimP.e sim_var) sim_nilV))) (sim_sl (SimP.e sim_var) (sim_part (simp_op simr_add sim_var sim_int)) sim_noPart)))
def u_l_worn (K : PySem.W.Frag) (c : Cl) : TS :=
  (tSeq (tAsg (tCB (xLenG K) (tCons (tVar 1) tNil)) (gName 4)) (tSeq (tFor (iRng1 (tCons (tVar 3) tNil)) (gName 5) (tSeq (tAsg (tCall (spD (true :: vals 1) (D_l_draw c)) [] E0 (tCons (tVar 0) (tCons (tVar 4) tNil))) (gName 6)) (tSeq (tAsg (tCall (spD (true :: vals 1) (D_l_draw c)) [] E0 (tCons (tVar 0) (tCons (tOp (xAddG K) (tVar 4) (tC (.int 1))) tNil))) (gName 7)) (tSeq (tAsg (tOp (rEqD K) (tCall (spD (true :: vals 1) (D_l_draw c)) [] E0 (tCons (tVar 0) (tCons (tC (.int 3)) tNil))) (tC (.int 0))) (gName 8)) (tIfS (tAnd (tTest (tOp (rEqD K) (tCall (spD (true :: vals 1) (D_l_draw c)) [] E0 (tCons (tVar 0) (tCons (tC (.int 2)) tNil))) (tC (.int 0)))) (tTest (tOp (rNeD K) (tVar 7) (tOp (xAddG K) (tVar 6) (tC (.int 1)))))) (tAsg (tCall (spD (vals 3) (D_l_put c)) [] E0 (tCons (tVar 1) (tCons (tVar 6) (tCons (tIf (tB (tVar 8)) (tC .non) (tVar 7)) tNil)))) (gName 1)) (tIfS (tTest (tOp (rNeD K) (tVar 7) (tOp (xAddG K) (tVar 6) (tC (.int 1))))) (tSeq (tAsg (tOp (rIx K) (tVar 2) (tVar 7)) (gName 9)) (tSeq (tAsg (tCall (spD (vals 3) (D_l_put c)) [] E0 (tCons (tVar 9) (tCons (tVar 6) (tCons (tIf (tB (tVar 8)) (tC .non) (tOp xNotG (tOp (rIx K) (tVar 9) (tVar 6)) (tC (.bl true)))) tNil)))) (gName 9)) (tAsg (tCall (spD (vals 3) (D_l_put c)) [] E0 (tCons (tVar 2) (tCons (tVar 7) (tCons (tVar 9) tNil)))) (gName 2)))) tNext)))))) (tRet (tTup (tCons (tVar 1) (tCons (tVar 2) tNil))))))
def B_l_worn (c : Cl) : DTS :=
  (dSeq (dAsg (dCB dLen (dLastA (dVar 1))) (dName 4)) (dSeq (dPost [3, 4, 5, 6, 7, 8, 9] (dFor (dIterK [3] (dRng1 (dLastA (dVar 3)))) (dName 5) (dKill [5] (dSeq (dAsg (dCallM false (D_l_draw c) 0 (dConsV (dVar 4) dNilV)) (dName 6)) (dSeq (dAsg (dCallM false (D_l_draw c) 0 (dConsV (dOpP dAdd (dVar 4) (dC (.int 1))) dNilV)) (dName 7)) (dCut (dAsg (dOpP dEq (dCallM false (D_l_draw c) 0 (dConsV (dC (.int 3)) dNilV)) (dC (.int 0))) (dName 8)) (dIfS (dAnd (dTest (dOpP dEq (dCallM false (D_l_draw c) 0 (dConsV (dC (.int 2)) dNilV)) (dC (.int 0)))) (dTest (dOpP dNe (dVar 7) (dOpP dAdd (dVar 6) (dC (.int 1)))))) (dPost [6, 7, 8] (dAsg (dCall false (D_l_put c) (dConsV (dVar 1) (dConsV (dVar 6) (dConsV (dIf (dTest (dVar 8)) (dC .non) (dVar 7)) dNilV)))) (dName 1))) (dIfS (dTest (dOpP dNe (dVar 7) (dOpP dAdd (dVar 6) (dC (.int 1))))) (dSeq (dAsg (dIx (dVar 2) (dVar 7)) (dName 9)) (dSeq (dPost [6, 8] (dAsg (dCall false (D_l_put c) (dConsV (dVar 9) (dConsV (dVar 6) (dConsV (dIf (dTest (dVar 8)) (dC .non) (dOpP dIsNot (dIx (dVar 9) (dVar 6)) (dC (.bl true)))) dNilV)))) (dName 9))) (dPost [7, 9] (dAsg (dCall false (D_l_put c) (dConsV (dVar 2) (dConsV (dVar 7) (dConsV (dVar 9) dNilV)))) (dName 2))))) (dKill [6, 7, 8] dNext))))))))) (dRet (dTup (dConsV (dVar 1) (dConsV (dVar 2) dNilV))))))
def D_l_worn (c : Cl) : Fn := dFn (true :: vals 3) 10 (B_l_worn c)
theorem D_l_worn_in {c : Cl} {o0 o1 o2 o3 : O} {P : O → List O → Prop} {PE : DExc → List O → Prop} (h : B_l_worn c ⟨fun env => P (.fr .non) (outs [true, false, false, false] env), fun o env => P o (outs [true, false, false, false] env), fun _ => False, fun _ => False, fun e env => PE e (outs [true, false, false, false] env)⟩ [S.bo o0, S.ow o1, S.ow o2, S.ow o3, S.un, S.un, S.un, S.un, S.un, S.un]) : D_l_worn c [o0, o1, o2, o3] P PE := ⟨rfl, h⟩
theorem D_l_worn_n {c : Cl} : ∀ os P PE, D_l_worn c os P PE → os.length = 3 + 1 := fun _ _ _ h => h.1
theorem sim_l_worn {K : PySem.W.Frag} {c : Cl} (fa : Fa K c) (E : XK) : SimS (fun cls dd _ H => E cls dd H) (u_l_worn K c) (B_l_worn c) :=
  (sim_seq (sim_asg (SimP.e (simp_cb1 sim_len sim_var)) sim_name) (sim_seq (sim_post (sim_for (sim_iterK (sim_rng1 (sim_lastA (SimP.e sim_var)))) sim_name (sim_kill (sim_seq (sim_asg (sim_callM0 D_l_draw_n (sim_consV (SimP.e sim_var) sim_nilV)) sim_name) (sim_seq (sim_asg (sim_callM0 D_l_draw_n (sim_consV (SimP.e (simp_op simr_add sim_var sim_int)) sim_nilV)) sim_name) (sim_cut (sim_asg (sim_opP simr_eq (sim_callM0 D_l_draw_n (sim_consV (SimP.e sim_int) sim_nilV)) sim_int) sim_name) (sim_ifs (sim_and (sim_test (sim_opP simr_eq (sim_callM0 D_l_draw_n (sim_consV (SimP.e sim_int) sim_nilV)) sim_int)) (sim_test (SimP.e (simp_op simr_ne sim_var (simp_op simr_add sim_var sim_int))))) (sim_post (sim_asg (sim_call0 D_l_put_n (sim_consV (SimP.e sim_var) (sim_consV (SimP.e sim_var) (sim_consV (sim_if (sim_b (SimP.e sim_var)) (SimP.e sim_non) (SimP.e sim_var)) sim_nilV)))) sim_name)) (sim_ifs (sim_test (SimP.e (simp_op simr_ne sim_var (simp_op simr_add sim_var sim_int)))) (sim_seq (sim_asg (SimP.e (simp_ix sim_var sim_var)) sim_name) (sim_seq (sim_post (sim_asg (sim_call0 D_l_put_n (sim_consV (SimP.e sim_var) (sim_consV (SimP.e sim_var) (sim_consV (sim_if (sim_b (SimP.e sim_var)) (SimP.e sim_non) (SimP.e (simp_op simr_isNot (simp_ix sim_var sim_var) sim_bl))) sim_nilV)))) sim_name)) (sim_post (sim_asg (sim_call0 D_l_put_n (sim_consV (SimP.e sim_var) (sim_consV (SimP.e sim_var) (sim_consV (SimP.e sim_var) sim_nilV)))) sim_name)))) (sim_kill sim_next))))))))) (sim_ret (sim_tup (sim_consV (SimP.e sim_var) (sim_consV (SimP.e sim_var) sim_nilV))))))
def u_l_any (K : PySem.W.Frag) (c : Cl) : TS :=
  (tSeq (tAsg (tLst tNil) (gName 2)) (tSeq (tFor (iRng2 (tCons (tC (.int 1)) (tCons (tOp (xAddG K) (tVar 1) (tC (.int 1))) tNil))) (gName 3) (tSeq (tAsg (tOp (xAddG K) (tLc (iRng1 (tCons (tOp (xAddG K) (tVar 1) (tC (.int 1))) tNil)) (gName 6) (tTest (tOp (rNeD K) (tVar 6) (tVar 3))) (tVar 6) [6]) (tLst (tCons (tC .non) tNil))) (gName 4)) (tDrop (tBM K "list" rAppend (tVar 2) (tCons (tOp (rIx K) (tVar 4) (tCall (spD (true :: vals 1) (D_l_draw c)) [] E0 (tCons (tVar 0) (tCons (tCB (xLenG K) (tCons (tVar 4) tNil)) tNil)))) tNil))))) (tSeq (tAsg (tLst tNil) (gName 5)) (tSeq (tFor (iRng1 (tCons (tOp (xAddG K) (tVar 1) (tC (.int 1))) tNil)) (gName 6) (tSeq (tAsg (tLc (iRng1 (tCons (tVar 1) tNil)) (gName 3) tYes (tOp (rIx K) (tLst (tCons (tC (.bl false)) (tCons (tC (.bl false)) (tCons (tC (.bl true)) (tCons (tC .non) tNil))))) (tCall (spD (true :: vals 1) (D_l_draw c)) [] E0 (tCons (tVar 0) (tCons (tC (.int 4)) tNil)))) [3]) (gName 7)) (tSeq (tIfS (tTest (tOp xGt (tVar 6) (tC (.int 0)))) (tAsg (tC (.bl false)) (gSub (tVar 7) (tOp xSub (tVar 6) (tC (.int 1))) rSetL)) tNext) (tDrop (tBM K "list" rAppend (tVar 5) (tCons (tCB (xTupleOf K) (tCons (tVar 7) tNil)) tNil)))))) (tRet (tTup (tCons (tCB (xTupleOf K) (tCons (tVar 2) tNil)) (tCons (tCB (xTupleOf K) (tCons (tVar 5) tNil)) tNil))))))))
def B_l_any (c : Cl) : DTS :=
  (dSeq (dAsg (dLst dNilV) (dName 2)) (dSeq (dPost [3, 4] (dFor (dRng2 (dConsA (dC (.int 1)) (dLastA (dOpP dAdd (dVar 1) (dC (.int 1)))))) (dName 3) (dSeq (dPost [3] (dAsg (dOp dAdd (dLc (dRng1 (dLastA (dOpP dAdd (dVar 1) (dC (.int 1))))) (dName 6) (dTest (dOpP dNe (dVar 6) (dVar 3))) (dVar 6) [6]) (dLst (dConsV (dC .non) dNilV))) (dName 4))) (dPost [4] (dDrop (dMeth1 fAppend 2 (dIxE (dVar 4) (dCallM false (D_l_draw c) 0 (dConsV (dCB dLen (dLastA (dVar 4))) dNilV))))))))) (dSeq (dAsg (dLst dNilV) (dName 5)) (dSeq (dPost [1, 6, 7] (dFor (dRng1 (dLastA (dOpP dAdd (dVar 1) (dC (.int 1))))) (dName 6) (dSeq (dAsg (dLc (dRng1 (dLastA (dVar 1))) (dName 3) dYes (dIxE (dLst (dConsV (dC (.bl false)) (dConsV (dC (.bl false)) (dConsV (dC (.bl true)) (dConsV (dC .non) dNilV))))) (dCallM false (D_l_draw c) 0 (dConsV (dC (.int 4)) dNilV))) [3]) (dName 7)) (dCut (dIfS (dTest (dOpP dGt (dVar 6) (dC (.int 0)))) (dPost [6] (dAsg (dC (.bl false)) (dSub (dVar 7) (dOpP dSub2 (dVar 6) (dC (.int 1)))))) (dKill [6] dNext)) (dPost [7] (dDrop (dMeth1 fAppend 5 (dCB dTuple (dLastA (dVar 7)))))))))) (dRet (dTup (dConsV (dCB dTuple (dLastA (dVar 2))) (dConsV (dCB dTuple (dLastA (dVar 5))) dNilV))))))))
def D_l_any (c : Cl) : Fn := dFn (true :: vals 1) 8 (B_l_any c)
theorem D_l_any_in {c : Cl} {o0 o1 : O} {P : O → List O → Prop} {PE : DExc → List O → Prop} (h : B_l_any c ⟨fun env => P (.fr .non) (outs [true, false] env), fun o env => P o (outs [true, false] env), fun _ => False, fun _ => False, fun e env => PE e (outs [true, false] env)⟩ [S.bo o0, S.ow o1, S.un, S.un, S.un, S.un, S.un, S.un]) : D_l_any c [o0, o1] P PE := ⟨rfl, h⟩
theorem D_l_any_n {c : Cl} : ∀ os P PE, D_l_any c os P PE → os.length = 1 + 1 := fun _ _ _ h => h.1
theorem sim_l_any {K : PySem.W.Frag} {c : Cl} (fa : Fa K c) (E : XK) : SimS (fun cls dd _ H => E cls dd H) (u_l_any K c) (B_l_any c) :=
  (sim_seq (sim_asg (sim_lst sim_nilV) sim_name) (sim_seq (sim_post (sim_for (sim_rng2 (sim_consA (SimP.e sim_int) (sim_lastA (SimP.e (simp_op simr_add sim_var sim_int))))) sim_name (sim_seq (sim_post (sim_asg (sim_op simr_add (sim_lc (sim_rng1 (sim_lastA (SimP.e (simp_op simr_add sim_var sim_int)))) sim_name (sim_test (SimP.e (simp_op simr_ne sim_var sim_var))) (SimP.e sim_var) (by decide)) (sim_lst (sim_consV (SimP.e sim_non) sim_nilV))) sim_name)) (sim_post (sim_drop (sim_meth1 simM_append (sim_ixE (SimP.e sim_var) (sim_callM0 D_l_draw_n (sim_consV (SimP.e (simp_cb1 sim_len sim_var)) sim_nilV))))))))) (sim_seq (sim_asg (sim_lst sim_nilV) sim_name) (sim_seq (sim_post (sim_for (sim_rng1 (sim_lastA (SimP.e (simp_op simr_add sim_var sim_int)))) sim_name (sim_seq (sim_asg (sim_lc (sim_rng1 (sim_lastA (SimP.e sim_var))) sim_name sim_yes (sim_ixE (sim_lst (sim_consV (SimP.e sim_bl) (sim_consV (SimP.e sim_bl) (sim_consV (SimP.e sim_bl) (sim_consV (SimP.e sim_non) sim_nilV))))) (sim_callM0 D_l_draw_n (sim_consV (SimP.e sim_int) sim_nilV))) (by decide)) sim_name) (sim_cut (sim_ifs (sim_test (SimP.e (simp_op simr_gt sim_var sim_int))) (sim_post (sim_asg (SimP.e sim_bl) (sim_sub sim_var (simp_op simr_sub sim_var sim_int)))) (sim_kill sim_next)) (sim_post (sim_drop (sim_meth1 simM_append (SimP.e (simp_cb1 sim_tuple sim_var))))))))) (sim_ret (sim_tup (sim_consV (SimP.e (simp_cb1 sim_tuple sim_var)) (sim_consV (SimP.e (simp_cb1 sim_tuple sim_var)) sim_nilV))))))))
def u_l_drawn (K : PySem.W.Frag) (c : Cl) : TS :=
  (tSeq (tAsg (tOp (xAddG K) (tC (.int 1)) (tCall (spD (true :: vals 1) (D_l_draw c)) [] E0 (tCons (tVar 0) (tCons (tVar 1) tNil)))) (gName 2)) (tSeq (tIfS (tTest (tOp (rEqD K) (tCall (spD (true :: vals 1) (D_l_draw c)) [] E0 (tCons (tVar 0) (tCons (tC (.int 3)) tNil))) (tC (.int 0)))) (tRet (tCall (spD (true :: vals 1) (D_l_any c)) [] E0 (tCons (tVar 0) (tCons (tVar 2) tNil)))) tNext) (tSeq (tAsg (tCall (spD (vals 1) (D_l_right c)) [] E0 (tCons (tCall (spD (true :: vals 1) (D_l_tree c)) [] E0 (tCons (tVar 0) (tCons (tVar 2) tNil))) tNil)) (gTup K 2 (gCons (gName 3) (gCons (gName 4) gNil)))) (tRet (tCall (spD (true :: vals 3) (D_l_worn c)) [] E0 (tCons (tVar 0) (tCons (tVar 3) (tCons (tVar 4) (tCons (tCall (spD (true :: vals 1) (D_l_draw c)) [] E0 (tCons (tVar 0) (tCons (tC (.int 8)) tNil))) tNil)))))))))
def B_l_drawn (c : Cl) : DTS :=
  (dSeq (dPost [1] (dAsg (dOp dAdd (dC (.int 1)) (dCallM false (D_l_draw c) 0 (dConsV (dVar 1) dNilV))) (dName 2))) (dSeq (dIfS (dTest (dOpP dEq (dCallM false (D_l_draw c) 0 (dConsV (dC (.int 3)) dNilV)) (dC (.int 0)))) (dRet (dCallM false (D_l_any c) 0 (dConsV (dVar 2) dNilV))) dNext) (dSeq (dPost [2] (dAsg (dCall false (D_l_right c) (dConsV (dCallM false (D_l_tree c) 0 (dConsV (dVar 2) dNilV)) dNilV)) (dGTup 2 (dGCons (dName 3) (dGCons (dName 4) dGNil))))) (dRet (dCallM false (D_l_worn c) 0 (dConsV (dVar 3) (dConsV (dVar 4) (dConsV (dCallM false (D_l_draw c) 0 (dConsV (dC (.int 8)) dNilV)) dNilV))))))))
def D_l_drawn (c : Cl) : Fn := dFn (true :: vals 1) 5 (B_l_drawn c)
theorem D_l_drawn_in {c : Cl} {o0 o1 : O} {P : O → List O → Prop} {PE : DExc → List O → Prop} (h : B_l_drawn c ⟨fun env => P (.fr .non) (outs [true, false] env), fun o env => P o (outs [true, false] env), fun _ => False, fun _ => False, fun e env => PE e (outs [true, false] env)⟩ [S.bo o0, S.ow o1, S.un, S.un, S.un]) : D_l_drawn c [o0, o1] P PE := ⟨rfl, h⟩
theorem D_l_drawn_n {c : Cl} : ∀ os P PE, D_l_drawn c os P PE → os.length = 1 + 1 := fun _ _ _ h => h.1
theorem sim_l_drawn {K : PySem.W.Frag} {c : Cl} (fa : Fa K c) (E : XK) : SimS (fun cls dd _ H => E cls dd H) (u_l_drawn K c) (B_l_drawn c) :=
  (sim_seq (sim_post (sim_asg (sim_op simr_add (SimP.e sim_int) (sim_callM0 D_l_draw_n (sim_consV (SimP.e sim_var) sim_nilV))) sim_name)) (sim_seq (sim_ifs (sim_test (sim_opP simr_eq (sim_callM0 D_l_draw_n (sim_consV (SimP.e sim_int) sim_nilV)) sim_int)) (sim_ret (sim_callM0 D_l_any_n (sim_consV (SimP.e sim_var) sim_nilV))) sim_next) (sim_seq (sim_post (sim_asg (sim_call0 D_l_right_n (sim_consV (sim_callM0 D_l_tree_n (sim_consV (SimP.e sim_var) sim_nilV)) sim_nilV)) (sim_gtup (sim_gcons sim_name (sim_gcons sim_name sim_gnil))))) (sim_ret (sim_callM0 D_l_worn_n (sim_consV (SimP.e sim_var) (sim_consV (SimP.e sim_var) (sim_consV (sim_callM0 D_l_draw_n (sim_consV (SimP.e sim_int) sim_nilV)) sim_nilV))))))))
def u_l_is_whole (K : PySem.W.Frag) (c : Cl) : TS :=
  (tRet (tAndV (tCB (xIsiG K) (tCons (tVar 0) (tCons (tC (.ty "int")) tNil))) (tAndV (tNotV (tCB (xIsiG K) (tCons (tVar 0) (tCons (tC (.ty "bool")) tNil)))) (tChain xLe xLe (tVar 1) (tVar 0) (tVar 2)))))
def B_l_is_whole (c : Cl) : DTS :=
  (dRet (dAndV (dCB (dIsi [c.Tree, c.Words]) (dConsA (dVar 0) (dLastA (dC (.ty "int"))))) (dAndV (dNotV (dCB (dIsi [c.Tree, c.Words]) (dConsA (dVar 0) (dLastA (dC (.ty "bool")))))) (dChain dLe dLe (dVar 1) (dVar 0) (dVar 2)))))
def D_l_is_whole (c : Cl) : Fn := dFn (vals 3) 3 (B_l_is_whole c)
theorem D_l_is_whole_in {c : Cl} {o0 o1 o2 : O} {P : O → List O → Prop} {PE : DExc → List O → Prop} (h : B_l_is_whole c ⟨fun env => P (.fr .non) (outs [false, false, false] env), fun o env => P o (outs [false, false, false] env), fun _ => False, fun _ => False, fun e env => PE e (outs [false, false, false] env)⟩ [S.ow o0, S.ow o1, S.ow o2]) : D_l_is_whole c [o0, o1, o2] P PE := ⟨rfl, h⟩
theorem D_l_is_whole_n {c : Cl} : ∀ os P PE, D_l_is_whole c os P PE → os.length = 3 := fun _ _ _ h => h.1
theorem sim_l_is_whole {K : PySem.W.Frag} {c : Cl} (fa : Fa K c) (E : XK) : SimS (fun cls dd _ H => E cls dd H) (u_l_is_whole K c) (B_l_is_whole c) :=
  (sim_ret (sim_andV (sim_cb (sim_isi fa.cls) (sim_consA (SimP.e sim_var) (sim_lastA (SimP.e sim_ty)))) (sim_andV (sim_notV (sim_cb (sim_isi fa.cls) (sim_consA (SimP.e sim_var) (sim_lastA (SimP.e sim_ty))))) (sim_chain simr_le simr_le (SimP.e sim_var) (SimP.e sim_var) (SimP.e sim_var)))))
abbrev tab31c (c : Cl) : List (Addr × Str) := tab31 [c.NoBlock, c.NoPlace, c.OtherBlocks]
def u_l_odd (K : PySem.W.Frag) (c : Cl) : TS :=
  (tSeq (tAsg (tLst (tCons (tC .non) (tCons (tC (.bl true)) (tCons (tC (.bl false)) (tCons (tUn xNeg (tC (.int 1))) (tCons (tC (.int 0)) (tCons (tVar 1) (tCons (tOp (xAddG K) (tVar 1) (tC (.int 1))) (tCons (tC (.str "1")) (tCons (tTup (tCons (tC (.int 1)) tNil)) (tCons (tLst (tCons (tC (.int 1)) tNil)) (tCons tDNewK (tCons (tOp xPow (tC (.int 10)) (tC (.int 30))) (tCons (tVar 2) (tCons (tCall (spD (true :: vals 0) (D_l_deep c)) [] E0 (tCons (tVar 0) tNil)) (tCons (tC (.int 1)) (tCons (tC (.int 1)) tNil))))))))))))))))) (gName 3)) (tRet (tOp (rIx K) (tVar 3) (tCall (spD (true :: vals 1) (D_l_draw c)) [] E0 (tCons (tVar 0) (tCons (tC (.int 16)) tNil))))))
def B_l_odd (c : Cl) : DTS :=
  (dSeq (dPost [1, 2] (dAsg (dLst (dConsV (dC .non) (dConsV (dC (.bl true)) (dConsV (dC (.bl false)) (dConsV (dUn dNeg (dC (.int 1))) (dConsV (dC (.int 0)) (dConsV (dVar 1) (dConsV (dOpP dAdd (dVar 1) (dC (.int 1))) (dConsV (dC (.str "1")) (dConsV (dTup (dConsV (dC (.int 1)) dNilV)) (dConsV (dLst (dConsV (dC (.int 1)) dNilV)) (dConsV (dDct0 false) (dConsV (dOpP dPow (dC (.int 10)) (dC (.int 30))) (dConsV (dVar 2) (dConsV (dCallM false (D_l_deep c) 0 dNilV) (dConsV (dC (.int 1)) (dConsV (dC (.int 1)) dNilV))))))))))))))))) (dName 3))) (dRet (dIxE (dVar 3) (dCallM false (D_l_draw c) 0 (dConsV (dC (.int 16)) dNilV)))))
def D_l_odd (c : Cl) : Fn := dFn (true :: vals 2) 4 (B_l_odd c)
theorem D_l_odd_in {c : Cl} {o0 o1 o2 : O} {P : O → List O → Prop} {PE : DExc → List O → Prop} (h : B_l_odd c ⟨fun env => P (.fr .non) (outs [true, false, false] env), fun o env => P o (outs [true, false, false] env), fun _ => False, fun _ => False, fun e env => PE e (outs [true, false, false] env)⟩ [S.bo o0, S.ow o1, S.ow o2, S.un]) : D_l_odd c [o0, o1, o2] P PE := ⟨rfl, h⟩
theorem D_l_odd_n {c : Cl} : ∀ os P PE, D_l_odd c os P PE → os.length = 2 + 1 := fun _ _ _ h => h.1
theorem sim_l_odd {K : PySem.W.Frag} {c : Cl} (fa : Fa K c) (E : XK) : SimS (fun cls dd _ H => E cls dd H) (u_l_odd K c) (B_l_odd c) :=
  (sim_seq (sim_post (sim_asg (sim_lst (sim_consV (SimP.e sim_non) (sim_consV (SimP.e sim_bl) (sim_consV (SimP.e sim_bl) (sim_consV (SimP.e (simp_un simr_neg sim_int)) (sim_consV (SimP.e sim_int) (sim_consV (SimP.e sim_var) (sim_consV (SimP.e (simp_op simr_add sim_var sim_int)) (sim_consV (SimP.e sim_str) (sim_consV (sim_tup (sim_consV (SimP.e sim_int) sim_nilV)) (sim_consV (sim_lst (sim_consV (SimP.e sim_int) sim_nilV)) (sim_consV sim_dctK (sim_consV (SimP.e (simp_op simr_pow sim_int sim_int)) (sim_consV (SimP.e sim_var) (sim_consV (sim_callM0 D_l_deep_n sim_nilV) (sim_consV (SimP.e sim_int) (sim_consV (SimP.e sim_int) sim_nilV))))))))))))))))) sim_name)) (sim_ret (sim_ixE (SimP.e sim_var) (sim_callM0 D_l_draw_n (sim_consV (SimP.e sim_int) sim_nilV)))))
def uR_law (K : PySem.W.Frag) (c : Cl) : TS :=
  (tSeq (tFor (iRng1 (tCons (tC (.int 3)) tNil)) (gName 2) (tSeq (tAsg (tCall (spD (true :: vals 1) (D_l_drawn c)) [] E0 (tCons (tVar 1) (tCons (tC (.int 12)) tNil))) (gTup K 2 (gCons (gName 3) (gCons (gName 4) gNil)))) (tSeq (tAsg (tCB (xLenG K) (tCons (tVar 3) tNil)) (gName 5)) (tSeq (tAsg (tMake c.Words (spD (true :: vals 3) (D_Words_init c)) [] E0 (tCons (tVar 5) (tCons (tVar 3) (tCons (tVar 4) tNil)))) (gName 6)) (tSeq (tFor (iRng1 (tCons (tC (.int 6)) tNil)) (gName 7) (tSeq (tAsg (tTup (tCons (tCall (spD (true :: vals 2) (D_l_odd c)) [] E0 (tCons (tVar 1) (tCons (tVar 5) (tCons (tVar 6) tNil)))) (tCons (tCall (spD (true :: vals 2) (D_l_odd c)) [] E0 (tCons (tVar 1) (tCons (tVar 5) (tCons (tVar 6) tNil)))) tNil))) (gTup K 2 (gCons (gName 8) (gCons (gName 9) gNil)))) (tSeq (tIfS (tTest (tOp (rEqD K) (tCall (spD (true :: vals 1) (D_l_draw c)) [] E0 (tCons (tVar 1) (tCons (tC (.int 3)) tNil))) (tC (.int 0)))) (tAsg (tOp (xAddG K) (tC (.int 1)) (tCall (spD (true :: vals 1) (D_l_draw c)) [] E0 (tCons (tVar 1) (tCons (tVar 5) tNil)))) (gName 8)) tNext) (tSeq (tIfS (tTest (tOp (rEqD K) (tCall (spD (true :: vals 1) (D_l_draw c)) [] E0 (tCons (tVar 1) (tCons (tC (.int 3)) tNil))) (tC (.int 0)))) (tAsg (tOp (rIx K) (tLst (tCons (tVar 8) (tCons (tCall (spD (true :: vals 1) (D_l_draw c)) [] E0 (tCons (tVar 1) (tCons (tOp (xAddG K) (tVar 5) (tC (.int 1))) tNil))) tNil))) (tCall (spD (true :: vals 1) (D_l_draw c)) [] E0 (tCons (tVar 1) (tCons (tC (.int 2)) tNil)))) (gName 9)) tNext) (tSeq (tAsg (tC (.str "block")) (gName 10)) (tSeq (tIfS (tB (tCall (spD (vals 3) (D_l_is_whole c)) [] E0 (tCons (tVar 8) (tCons (tC (.int 1)) (tCons (tVar 5) tNil))))) (tAsg (tIf (tAnd (tB (tCall (spD (vals 3) (D_l_is_whole c)) [] E0 (tCons (tVar 9) (tCons (tC (.int 0)) (tCons (tVar 5) tNil))))) (tTest (tOp (rNeD K) (tVar 9) (tVar 8)))) (tC (.str "let")) (tC (.str "place"))) (gName 10)) tNext) (tIfS (tTest (tOp (rNeD K) (tLamX tabT (TTwM (tab31c c) c.TooMany "many" "most" 10) fun E => tCall (spD (vals 3) (D_cost c)) [] E (tCons (tVar 6) (tCons (tVar 8) (tCons (tVar 9) tNil)))) (tVar 10))) (tRet (tC (.bl false))) tNext))))))) (tSeq (tAsg (tOp (xAddG K) (tC (.int 1)) (tCall (spD (true :: vals 1) (D_l_draw c)) [] E0 (tCons (tVar 1) (tCons (tC (.int 12)) tNil)))) (gName 11)) (tSeq (tIfS (tTest (tOp (rEqD K) (tCall (spD (true :: vals 1) (D_l_draw c)) [] E0 (tCons (tVar 1) (tCons (tC (.int 2)) tNil))) (tC (.int 0)))) (tAsg (tVar 5) (gName 11)) tNext) (tSeq (tAsg (tMake c.Tree (spD (true :: vals 1) (D_Tree_init c)) [] E0 (tCons (tCall (spD (true :: vals 1) (D_l_tree c)) [] E0 (tCons (tVar 1) (tCons (tVar 11) tNil))) tNil)) (gName 12)) (tSeq (tIfS (tTest (tOp (rNeD K) (tLamX tabT (TTwM (tab31c c) c.TooMany "many" "most" 10) fun E => tCall (spD (vals 2) (D_wrong_words c)) [] E (tCons (tVar 6) (tCons (tVar 12) tNil))) (tIf (tTest (tOp (rEqD K) (tVar 11) (tVar 5))) (tC (.str "let")) (tC (.str "others"))))) (tRet (tC (.bl false))) tNext) (tSeq (tIfS (tOr (tTest (tOp xGt (tVar 5) (tC (.int 10)))) (tTest (tOp (xLtG K) (tVar 5) (tC (.int 6))))) (tIfS (tTest (tOp (rNeD K) (tLamX tabT (TTwM (tab31c c) c.TooMany "many" "most" 10) fun E => tCall (spD (vals 1) (D_many_by_wrong c)) [] E (tCons (tVar 6) tNil)) (tIf (tTest (tOp xGt (tVar 5) (tC (.int 10)))) (tC (.str "many")) (tC (.str "let"))))) (tRet (tC (.bl false))) tNext) tNext) (tIfS (tNot (tB (tCall (spD (vals 2) (D_l_is c 4)) [] E0 (tCons (tLst (tCons (tFld K (tVar 6) "ups") (tCons (tFld K (tVar 6) "lists") tNil))) (tCons (tLst (tCons (tVar 3) (tCons (tVar 4) tNil))) tNil))))) (tRet (tC (.bl false))) tNext))))))))))) (tRet (tC (.bl true))))
def u_law (K : PySem.W.Frag) (c : Cl) : TS := tSeq (tAsg (tCall (spHead K HandOk) [] E0 (tCons (tVar 0) tNil)) (gName 1)) (uR_law K c)
def D_law (c : Cl) : DTS :=
  (dSeq (dPost [1, 2, 3, 4, 5, 6, 7, 8, 9, 10, 11, 12] (dFor (dRng1 (dLastA (dC (.int 3)))) (dName 2) (dKill [2] (dSeq (dAsg (dCallM false (D_l_drawn c) 1 (dConsV (dC (.int 12)) dNilV)) (dGTup 2 (dGCons (dName 3) (dGCons (dName 4) dGNil)))) (dSeq (dAsg (dCB dLen (dLastA (dVar 3))) (dName 5)) (dSeq (dAsg (dMake false c.Words (D_Words_init c) (dConsV (dVar 5) (dConsV (dVar 3) (dConsV (dVar 4) dNilV)))) (dName 6)) (dSeq (dPost [7, 8, 9, 10] (dFor (dRng1 (dLastA (dC (.int 6)))) (dName 7) (dKill [7] (dCut (dAsg (dTup (dConsV (dCallM false (D_l_odd c) 1 (dConsV (dVar 5) (dConsV (dVar 6) dNilV))) (dConsV (dCallM false (D_l_odd c) 1 (dConsV (dVar 5) (dConsV (dVar 6) dNilV))) dNilV))) (dGTup 2 (dGCons (dName 8) (dGCons (dName 9) dGNil)))) (dCut (dIfS (dTest (dOpP dEq (dCallM false (D_l_draw c) 1 (dConsV (dC (.int 3)) dNilV)) (dC (.int 0)))) (dKill [8] (dAsg (dOp dAdd (dC (.int 1)) (dCallM false (D_l_draw c) 1 (dConsV (dVar 5) dNilV))) (dName 8))) dNext) (dCut (dIfS (dTest (dOpP dEq (dCallM false (D_l_draw c) 1 (dConsV (dC (.int 3)) dNilV)) (dC (.int 0)))) (dKill [9] (dAsg (dIxE (dLst (dConsV (dVar 8) (dConsV (dCallM false (D_l_draw c) 1 (dConsV (dOpP dAdd (dVar 5) (dC (.int 1))) dNilV)) dNilV))) (dCallM false (D_l_draw c) 1 (dConsV (dC (.int 2)) dNilV))) (dName 9))) dNext) (dSeq (dAsg (dC (.str "block")) (dName 10)) (dCut (dIfS (dTest (dCall false (D_l_is_whole c) (dConsV (dVar 8) (dConsV (dC (.int 1)) (dConsV (dVar 5) dNilV))))) (dKill [10] (dAsg (dIf (dAnd (dTest (dCall false (D_l_is_whole c) (dConsV (dVar 9) (dConsV (dC (.int 0)) (dConsV (dVar 5) dNilV))))) (dTest (dOpP dNe (dVar 9) (dVar 8)))) (dC (.str "let")) (dC (.str "place"))) (dName 10))) dNext) (dIfS (dTest (dOpP dNe (dLamM (tab31c c) c.TooMany "many" "most" 10 (D_cost c) (dConsV (dVar 6) (dConsV (dVar 8) (dConsV (dVar 9) dNilV)))) (dVar 10))) (dRet (dC (.bl false))) (dKill [8, 9, 10] dNext)))))))))) (dSeq (dAsg (dOp dAdd (dC (.int 1)) (dCallM false (D_l_draw c) 1 (dConsV (dC (.int 12)) dNilV))) (dName 11)) (dCut (dIfS (dTest (dOpP dEq (dCallM false (D_l_draw c) 1 (dConsV (dC (.int 2)) dNilV)) (dC (.int 0)))) (dKill [11] (dAsg (dVar 5) (dName 11))) dNext) (dSeq (dAsg (dMake false c.Tree (D_Tree_init c) (dConsV (dCallM false (D_l_tree c) 1 (dConsV (dVar 11) dNilV)) dNilV)) (dName 12)) (dCut (dIfS (dTest (dOp dNe (dLamM (tab31c c) c.TooMany "many" "most" 10 (D_wrong_words c) (dConsV (dVar 6) (dConsV (dVar 12) dNilV))) (dIf (dTest (dOpP dEq (dVar 11) (dVar 5))) (dC (.str "let")) (dC (.str "others"))))) (dRet (dC (.bl false))) (dKill [11, 12] dNext)) (dCut (dIfS (dOr (dTest (dOpP dGt (dVar 5) (dC (.int 10)))) (dTest (dOpP dLtG (dVar 5) (dC (.int 6))))) (dIfS (dTest (dOp dNe (dLamM (tab31c c) c.TooMany "many" "most" 10 (D_many_by_wrong c) (dConsV (dVar 6) dNilV)) (dIf (dTest (dOpP dGt (dVar 5) (dC (.int 10)))) (dC (.str "many")) (dC (.str "let"))))) (dRet (dC (.bl false))) (dKill [5] dNext)) (dKill [5] dNext)) (dIfS (dNot (dTest (dCall false (D_l_is c 4) (dConsV (dLst (dConsV (dFld [c.Words] "ups" (dVar 6)) (dConsV (dFld [c.Words] "lists" (dVar 6)) dNilV))) (dConsV (dLst (dConsV (dVar 3) (dConsV (dVar 4) dNilV))) dNilV))))) (dRet (dC (.bl false))) (dKill [3, 4, 6] dNext)))))))))))))) (dRet (dC (.bl true))))
theorem sim_law {K : PySem.W.Frag} {c : Cl} (fa : Fa K c) : SimS WO (uR_law K c) (D_law c) :=
  (sim_seq (sim_post (sim_for (sim_rng1 (sim_lastA (SimP.e sim_int))) sim_name (sim_kill (sim_seq (sim_asg (sim_callM0 D_l_drawn_n (sim_consV (SimP.e sim_int) sim_nilV)) (sim_gtup (sim_gcons sim_name (sim_gcons sim_name sim_gnil)))) (sim_seq (sim_asg (SimP.e (simp_cb1 sim_len sim_var)) sim_name) (sim_seq (sim_asg (sim_make0 D_Words_init_n (sim_consV (SimP.e sim_var) (sim_consV (SimP.e sim_var) (sim_consV (SimP.e sim_var) sim_nilV)))) sim_name) (sim_seq (sim_post (sim_for (sim_rng1 (sim_lastA (SimP.e sim_int))) sim_name (sim_kill (sim_cut (sim_asg (sim_tup (sim_consV (sim_callM0 D_l_odd_n (sim_consV (SimP.e sim_var) (sim_consV (SimP.e sim_var) sim_nilV))) (sim_consV (sim_callM0 D_l_odd_n (sim_consV (SimP.e sim_var) (sim_consV (SimP.e sim_var) sim_nilV))) sim_nilV))) (sim_gtup (sim_gcons sim_name (sim_gcons sim_name sim_gnil)))) (sim_cut (sim_ifs (sim_test (sim_opP simr_eq (sim_callM0 D_l_draw_n (sim_consV (SimP.e sim_int) sim_nilV)) sim_int)) (sim_kill (sim_asg (sim_op simr_add (SimP.e sim_int) (sim_callM0 D_l_draw_n (sim_consV (SimP.e sim_var) sim_nilV))) sim_name)) sim_next) (sim_cut (sim_ifs (sim_test (sim_opP simr_eq (sim_callM0 D_l_draw_n (sim_consV (SimP.e sim_int) sim_nilV)) sim_int)) (sim_kill (sim_asg (sim_ixE (sim_lst (sim_consV (SimP.e sim_var) (sim_consV (sim_callM0 D_l_draw_n (sim_consV (SimP.e (simp_op simr_add sim_var sim_int)) sim_nilV)) sim_nilV))) (sim_callM0 D_l_draw_n (sim_consV (SimP.e sim_int) sim_nilV))) sim_name)) sim_next) (sim_seq (sim_asg (SimP.e sim_str) sim_name) (sim_cut (sim_ifs (sim_b (sim_call0 D_l_is_whole_n (sim_consV (SimP.e sim_var) (sim_consV (SimP.e sim_int) (sim_consV (SimP.e sim_var) sim_nilV))))) (sim_kill (sim_asg (sim_if (sim_and (sim_b (sim_call0 D_l_is_whole_n (sim_consV (SimP.e sim_var) (sim_consV (SimP.e sim_int) (sim_consV (SimP.e sim_var) sim_nilV))))) (sim_test (SimP.e (simp_op simr_ne sim_var sim_var)))) (SimP.e sim_str) (SimP.e sim_str)) sim_name)) sim_next) (sim_ifs (sim_test (sim_opP simr_ne (sim_lamM D_cost_n (fun W => (sim_consV (SimP.e sim_var) (sim_consV (SimP.e sim_var) (sim_consV (SimP.e sim_var) sim_nilV))))) sim_var)) (sim_ret (SimP.e sim_bl)) (sim_kill sim_next)))))))))) (sim_seq (sim_asg (sim_op simr_add (SimP.e sim_int) (sim_callM0 D_l_draw_n (sim_consV (SimP.e sim_int) sim_nilV))) sim_name) (sim_cut (sim_ifs (sim_test (sim_opP simr_eq (sim_callM0 D_l_draw_n (sim_consV (SimP.e sim_int) sim_nilV)) sim_int)) (sim_kill (sim_asg (SimP.e sim_var) sim_name)) sim_next) (sim_seq (sim_asg (sim_make0 D_Tree_init_n (sim_consV (sim_callM0 D_l_tree_n (sim_consV (SimP.e sim_var) sim_nilV)) sim_nilV)) sim_name) (sim_cut (sim_ifs (sim_test (sim_op simr_ne (sim_lamM D_wrong_words_n (fun W => (sim_consV (SimP.e sim_var) (sim_consV (SimP.e sim_var) sim_nilV)))) (sim_if (sim_test (SimP.e (simp_op simr_eq sim_var sim_var))) (SimP.e sim_str) (SimP.e sim_str)))) (sim_ret (SimP.e sim_bl)) (sim_kill sim_next)) (sim_cut (sim_ifs (sim_or (sim_test (SimP.e (simp_op simr_gt sim_var sim_int))) (sim_test (SimP.e (simp_op simr_ltG sim_var sim_int)))) (sim_ifs (sim_test (sim_op simr_ne (sim_lamM D_many_by_wrong_n (fun W => (sim_consV (SimP.e sim_var) sim_nilV))) (sim_if (sim_test (SimP.e (simp_op simr_gt sim_var sim_int))) (SimP.e sim_str) (SimP.e sim_str)))) (sim_ret (SimP.e sim_bl)) (sim_kill sim_next)) (sim_kill sim_next)) (sim_ifs (sim_not (sim_b (sim_call0 D_l_is_n (sim_consV (sim_lst (sim_consV (SimP.e (simp_fld fa.f_ups sim_var)) (sim_consV (SimP.e (simp_fld fa.f_lists sim_var)) sim_nilV))) (sim_consV (sim_lst (sim_consV (SimP.e sim_var) (sim_consV (SimP.e sim_var) sim_nilV))) sim_nilV))))) (sim_ret (SimP.e sim_bl)) (sim_kill sim_next)))))))))))))) (sim_ret (SimP.e sim_bl)))
local macro_rules | `(tactic| walk_at "dw1") => `(tactic| ((with_reducible refine' a_bound ?k1 ?_); (case k1 => (first | decide | omega | (simp only [List.length_cons, List.length_nil]; omega)))))
local macro_rules | `(tactic| walk_at "dw1") => `(tactic| ((with_reducible refine' a_fldD ?k1 ?k2 ?_); (case k1 => exact List.mem_cons_self); (case k2 => exact rfl)))
local macro_rules | `(tactic| walk_at "dw1") => `(tactic| (with_reducible refine' a_par ?_))
local macro_rules | `(tactic| walk_at "dw1") => `(tactic| ((with_reducible refine' a_popAtM ?k1 ?_); (case k1 => exact rfl)))
local macro_rules | `(tactic| walk_at "dw1") => `(tactic| ((with_reducible refine' a_append ?k1 ?_); (case k1 => exact rfl)))
local macro_rules | `(tactic| walk_at "dw1") => `(tactic| ((with_reducible refine' a_extend ?k1 ?_); (case k1 => exact rfl)))
local macro_rules | `(tactic| walk_at "dw1") => `(tactic| ((with_reducible refine' a_callB ?k1 ?_); (case k1 => exact rfl)))
local macro_rules | `(tactic| walk_at "dw1") => `(tactic| ((with_reducible refine' a_callO ?k1 ?_); (case k1 => exact rfl)))
local macro_rules | `(tactic| walk_at "dw1") => `(tactic| ((with_reducible refine' a_callM ?k1 ?_); (case k1 => exact rfl)))
local macro_rules | `(tactic| walk_at "dw1") => `(tactic| ((with_reducible refine' a_toOL ?k1 ?_); (case k1 => exact rfl)))
local macro_rules | `(tactic| walk_at "dw1") => `(tactic| ((with_reducible refine' a_forceL ?k1 ?_); (case k1 => exact rfl)))
local macro_rules | `(tactic| walk_at "dw1") => `(tactic| ((with_reducible refine' a_fldI ?k1 ?k2 ?k3 ?k4 ?_); (case k1 => exact rfl); (case k2 => exact rfl); (case k3 => exact List.mem_cons_self); (case k4 => exact rfl)))
local macro_rules | `(tactic| walk_at "dw1") => `(tactic| ((with_reducible refine' a_varI ?k1 ?_); (case k1 => exact rfl)))
local macro_rules | `(tactic| walk_at "dw1") => `(tactic| ((with_reducible refine' a_retP ?k1 ?_); (case k1 => exact rfl)))
local macro_rules | `(tactic| walk_at "dw1") => `(tactic| ((with_reducible refine' a_pkF ?k1 ?_); (case k1 => exact rfl)))
local macro_rules | `(tactic| walk_at "dw1") => `(tactic| ((with_reducible refine' a_pkL ?k1 ?_); (case k1 => exact rfl)))
local macro_rules | `(tactic| walk_at "dw1") => `(tactic| ((with_reducible refine' a_subK ?k1 ?k2 ?_); (case k1 => exact rfl); (case k2 => exact rfl)))
local macro_rules | `(tactic| walk_at "dw1") => `(tactic| ((with_reducible refine' a_ixO' ?k1 ?k2 ?k3 ?k4 ?_); (case k1 => exact rfl); (case k2 => exact rfl); (case k3 => exact rfl); (case k4 => exact rfl)))
local macro_rules | `(tactic| walk_at "dw1") => `(tactic| ((with_reducible refine' a_ixO ?k1 ?k2 ?k3 ?k4 ?_); (case k1 => exact rfl); (case k2 => exact rfl); (case k3 => exact rfl); (case k4 => exact rfl)))
local macro_rules | `(tactic| walk_at "dw1") => `(tactic| (with_reducible refine' a_sub ?_))
local macro_rules | `(tactic| walk_at "dw1") => `(tactic| (with_reducible refine' v_iteNF ?_))
local macro_rules | `(tactic| walk_at "dw1") => `(tactic| (with_reducible refine' v_iteNT ?_))
local macro_rules | `(tactic| walk_at "dw1") => `(tactic| (with_reducible refine' v_iteF ?_))
local macro_rules | `(tactic| walk_at "dw1") => `(tactic| (with_reducible refine' v_iteT ?_))
local macro_rules | `(tactic| walk_at "dw1") => `(tactic| (with_reducible refine' a_lstT ?_))
local macro_rules | `(tactic| walk_at "dw1") => `(tactic| (with_reducible refine' a_lstL ?_))
local macro_rules | `(tactic| walk_at "dw1") => `(tactic| (with_reducible refine' a_tupT ?_))
local macro_rules | `(tactic| walk_at "dw1") => `(tactic| (with_reducible refine' a_tupL ?_))
local macro_rules | `(tactic| walk_at "dw1") => `(tactic| (with_reducible refine' a_intB ?_))
local macro_rules | `(tactic| walk_at "dw1") => `(tactic| (with_reducible refine' a_intI ?_))
local macro_rules | `(tactic| walk_at "dw1") => `(tactic| (with_reducible refine' a_absI ?_))
local macro_rules | `(tactic| walk_at "dw1") => `(tactic| (with_reducible refine' a_lenT ?_))
local macro_rules | `(tactic| walk_at "dw1") => `(tactic| (with_reducible refine' a_lenL ?_))
local macro_rules | `(tactic| walk_at "dw1") => `(tactic| (with_reducible refine' a_isNot ?_))
local macro_rules | `(tactic| walk_at "dw1") => `(tactic| (with_reducible refine' a_isN ?_))
local macro_rules | `(tactic| walk_at "dw1") => `(tactic| (with_reducible refine' a_neB ?_))
local macro_rules | `(tactic| walk_at "dw1") => `(tactic| (with_reducible refine' a_eqB ?_))
local macro_rules | `(tactic| walk_at "dw1") => `(tactic| (with_reducible refine' a_neI ?_))
local macro_rules | `(tactic| walk_at "dw1") => `(tactic| (with_reducible refine' a_eqI ?_))
local macro_rules | `(tactic| walk_at "dw1") => `(tactic| (with_reducible refine' a_ltI ?_))
local macro_rules | `(tactic| walk_at "dw1") => `(tactic| (with_reducible refine' a_I0 ?_))
local macro_rules | `(tactic| walk_at "dw1") => `(tactic| (with_reducible refine' a_addI ?_))
local macro_rules | `(tactic| walk_at "dw1") => `(tactic| (with_reducible refine' a_lc ?_))
local macro_rules | `(tactic| walk_at "dw1") => `(tactic| (with_reducible refine' a_for ?_))
local macro_rules | `(tactic| walk_at "dw1") => `(tactic| (with_reducible refine' a_rng2 ?_))
local macro_rules | `(tactic| walk_at "dw1") => `(tactic| (with_reducible refine' a_rng1 ?_))
local macro_rules | `(tactic| walk_at "dw1") => `(tactic| (with_reducible refine' a_iterK ?_))
local macro_rules | `(tactic| walk_at "dw1") => `(tactic| (with_reducible refine' a_kill ?_))
local macro_rules | `(tactic| walk_at "dw1") => `(tactic| (with_reducible refine' a_post ?_))
local macro_rules | `(tactic| walk_at "dw1") => `(tactic| (with_reducible refine' a_iter ?_))
local macro_rules | `(tactic| walk_at "dw1") => `(tactic| (with_reducible refine' a_slT ?_))
local macro_rules | `(tactic| walk_at "dw1") => `(tactic| (with_reducible refine' a_slL ?_))
local macro_rules | `(tactic| walk_at "dw1") => `(tactic| (with_reducible refine' a_part ?_))
local macro_rules | `(tactic| walk_at "dw1") => `(tactic| (with_reducible refine' a_noPart ?_))
local macro_rules | `(tactic| walk_at "dw1") => `(tactic| (with_reducible refine' a_sl ?_))
local macro_rules | `(tactic| walk_at "dw1") => `(tactic| (with_reducible refine' a_asI ?_))
local macro_rules | `(tactic| walk_at "dw1") => `(tactic| (with_reducible refine' a_ixE ?_))
local macro_rules | `(tactic| walk_at "dw1") => `(tactic| (with_reducible refine' a_ix ?_))
local macro_rules | `(tactic| walk_at "dw1") => `(tactic| (with_reducible refine' a_fld ?_))
local macro_rules | `(tactic| walk_at "dw1") => `(tactic| (with_reducible refine' a_make ?_))
local macro_rules | `(tactic| walk_at "dw1") => `(tactic| (with_reducible refine' a_one ?_))
local macro_rules | `(tactic| walk_at "dw1") => `(tactic| (with_reducible refine' a_call ?_))
local macro_rules | `(tactic| walk_at "dw1") => `(tactic| (with_reducible refine' a_lst ?_))
local macro_rules | `(tactic| walk_at "dw1") => `(tactic| (with_reducible refine' a_tup ?_))
local macro_rules | `(tactic| walk_at "dw1") => `(tactic| (with_reducible refine' a_pk2 ?_))
local macro_rules | `(tactic| walk_at "dw1") => `(tactic| (with_reducible refine' a_pk1 ?_))
local macro_rules | `(tactic| walk_at "dw1") => `(tactic| (with_reducible refine' a_cb ?_))
local macro_rules | `(tactic| walk_at "dw1") => `(tactic| (with_reducible refine' a_consV ?_))
local macro_rules | `(tactic| walk_at "dw1") => `(tactic| (with_reducible refine' a_nilV ?_))
local macro_rules | `(tactic| walk_at "dw1") => `(tactic| (with_reducible refine' a_consA ?_))
local macro_rules | `(tactic| walk_at "dw1") => `(tactic| (with_reducible refine' a_lastA ?_))
local macro_rules | `(tactic| walk_at "dw1") => `(tactic| (with_reducible refine' a_nilA ?_))
local macro_rules | `(tactic| walk_at "dw1") => `(tactic| (with_reducible refine' a_asb ?_))
local macro_rules | `(tactic| walk_at "dw1") => `(tactic| (with_reducible refine' a_flD ?_))
local macro_rules | `(tactic| walk_at "dw1") => `(tactic| (with_reducible refine' a_chain ?_))
local macro_rules | `(tactic| walk_at "dw1") => `(tactic| (with_reducible refine' a_notV ?_))
local macro_rules | `(tactic| walk_at "dw1") => `(tactic| (with_reducible refine' a_orV ?_))
local macro_rules | `(tactic| walk_at "dw1") => `(tactic| (with_reducible refine' a_andV ?_))
local macro_rules | `(tactic| walk_at "dw1") => `(tactic| (with_reducible refine' a_if ?_))
local macro_rules | `(tactic| walk_at "dw1") => `(tactic| (with_reducible refine' a_yes ?_))
local macro_rules | `(tactic| walk_at "dw1") => `(tactic| (with_reducible refine' a_not ?_))
local macro_rules | `(tactic| walk_at "dw1") => `(tactic| (with_reducible refine' a_or ?_))
local macro_rules | `(tactic| walk_at "dw1") => `(tactic| (with_reducible refine' a_and ?_))
local macro_rules | `(tactic| walk_at "dw1") => `(tactic| (with_reducible refine' a_asB ?_))
local macro_rules | `(tactic| walk_at "dw1") => `(tactic| (with_reducible refine' a_test ?_))
local macro_rules | `(tactic| walk_at "dw1") => `(tactic| (with_reducible refine' a_pkN ?_))
local macro_rules | `(tactic| walk_at "dw1") => `(tactic| (with_reducible refine' a_pkD ?_))
local macro_rules | `(tactic| walk_at "dw1") => `(tactic| (with_reducible refine' a_nrmL ?_))
local macro_rules | `(tactic| walk_at "dw1") => `(tactic| (with_reducible refine' a_nrmP ?_))
local macro_rules | `(tactic| walk_at "dw1") => `(tactic| (with_reducible refine' a_nrmD ?_))
local macro_rules | `(tactic| walk_at "dw1") => `(tactic| (with_reducible refine' a_un ?_))
local macro_rules | `(tactic| walk_at "dw1") => `(tactic| (with_reducible refine' a_opP ?_))
local macro_rules | `(tactic| walk_at "dw1") => `(tactic| (with_reducible refine' a_op ?_))
local macro_rules | `(tactic| walk_at "dw1") => `(tactic| (with_reducible refine' a_c ?_))
local macro_rules | `(tactic| walk_at "dw1") => `(tactic| (with_reducible refine' a_forceN ?_))
local macro_rules | `(tactic| walk_at "dw1") => `(tactic| (with_reducible refine' a_forceD ?_))
local macro_rules | `(tactic| walk_at "dw1") => `(tactic| (with_reducible refine' a_toO ?_))
local macro_rules | `(tactic| walk_at "dw1") => `(tactic| (with_reducible refine' a_retO ?_))
local macro_rules | `(tactic| walk_at "dw1") => `(tactic| (with_reducible refine' a_asg ?_))
local macro_rules | `(tactic| walk_at "dw1") => `(tactic| (with_reducible refine' a_ret ?_))
local macro_rules | `(tactic| walk_at "dw1") => `(tactic| (with_reducible refine' a_retN ?_))
local macro_rules | `(tactic| walk_at "dw1") => `(tactic| (with_reducible refine' a_drop ?_))
local macro_rules | `(tactic| walk_at "dw1") => `(tactic| (with_reducible refine' a_ifs ?_))
local macro_rules | `(tactic| walk_at "dw1") => `(tactic| (with_reducible refine' a_cont ?_))
local macro_rules | `(tactic| walk_at "dw1") => `(tactic| (with_reducible refine' a_break ?_))
local macro_rules | `(tactic| walk_at "dw1") => `(tactic| (with_reducible refine' a_next ?_))
local macro_rules | `(tactic| walk_at "dw1") => `(tactic| (with_reducible refine' a_seq ?_))
local macro_rules | `(tactic| walk_at "dw1") => `(tactic| (with_reducible refine' a_methN ?_))
local macro_rules | `(tactic| walk_at "dw1") => `(tactic| (with_reducible refine' a_gnil ?_))
local macro_rules | `(tactic| walk_at "dw1") => `(tactic| (with_reducible refine' a_gcons ?_))
local macro_rules | `(tactic| walk_at "dw1") => `(tactic| ((with_reducible refine' a_gtup ?k1 ?_); (case k1 => exact rfl)))
local macro_rules | `(tactic| walk_at "dw1") => `(tactic| ((with_reducible refine' a_nameS ?k1 ?k2 ?_); (case k1 => exact rfl); (case k2 => assumption)))
local macro_rules | `(tactic| walk_at "dw1") => `(tactic| ((with_reducible refine' a_name ?k1 ?_); (case k1 => exact ⟨_, rfl⟩)))
local macro_rules | `(tactic| walk_at "dw1") => `(tactic| ((with_reducible refine' a_nameU ?k1 ?_); (case k1 => exact rfl)))
local macro_rules | `(tactic| walk_at "dw1") => `(tactic| ((with_reducible refine' a_varB ?k1 ?_); (case k1 => exact rfl)))
local macro_rules | `(tactic| walk_at "dw1") => `(tactic| ((with_reducible refine' a_varoL ?k1 ?_); (case k1 => exact rfl)))
local macro_rules | `(tactic| walk_at "dw1") => `(tactic| ((with_reducible refine' a_varD ?k1 ?_); (case k1 => exact rfl)))
local macro_rules | `(tactic| walk_at "dw") => `(tactic| (repeat (walk_at "dw1")); (try dsimp only))
section
def D.isI : D → Bool
  | .int _ => true
  | _ => false
def withinD (lo hi : Int) : D → Bool
  | .int i => decide (lo ≤ i ∧ i ≤ hi)
  | _ => false
def isKd (d : D) (T : String) : Bool := match d.kind with
  | some s => isA s T
  | none => false
def PlainD (Cs : List Addr) (d : D) : Prop := d.kind.isSome = true ∨ ∃ C, C ∈ Cs ∧ d.cl = some C
theorem PlainD.int {Cs : List Addr} {i : Int} : PlainD Cs (.int i) := .inl rfl
theorem PlainD.tup {Cs : List Addr} {ds : List D} : PlainD Cs (.tup ds) := .inl rfl
theorem cl_kind {d : D} {C : Addr} (h : d.cl = some C) : d.kind = none := by cases d <;> first | rfl | cases h
theorem kind_cl {d : D} (h : d.kind.isSome = true) : d.cl = none := by cases d <;> first | rfl | cases h
variable {c : Cl} {P : O → List O → Prop} {PE : DExc → List O → Prop} {Cs : List Addr} {d : D} {K : O → Prop} {T : String} {C : Addr}
theorem e_isi (hp : PlainD Cs d) (hT : okTy T) (q : K (.fr (.bl (isKd d T)))) : dIsi Cs [d, .ty T] K := by
  show isiA Cs d (.ty T) K
  unfold isiA
  rcases hp with h | ⟨C, hC, h⟩
  · rw [kind_cl h]
    cases e : d.kind with
    | none => rw [e] at h; cases h
    | some s =>
      refine ⟨hT, ?_⟩
      unfold isKd at q
      rw [e] at q
      exact q
  · rw [h]
    refine ⟨hC, hT, ?_⟩
    unfold isKd at q
    rw [cl_kind h] at q
    exact q
theorem isKd_int : (isKd d "int" && !isKd d "bool") = d.isI := by
  cases d <;> first | rfl | decide | (rename_i t kvs; cases t <;> rfl)
theorem e_integer (hp : PlainD [c.Tree, c.Words] d) (q : P (.fr (.bl d.isI)) []) : D_is_integer c [.fr d] P PE := by
  refine D_is_integer_in ?_
  unfold B_is_integer
  walk_at "dw"
  refine e_isi hp (.inl rfl) ?_
  walk_at "dw"
  rw [← isKd_int] at q
  cases e : isKd d "int" with
  | false =>
    rw [e] at q
    walk_at "dw"
    exact q
  | true =>
    rw [e] at q
    walk_at "dw"
    refine e_isi hp (.inr (.inl rfl)) ?_
    walk_at "dw"
    exact q
theorem e_within {lo hi : Int} (hp : PlainD [c.Tree, c.Words] d) (q : P (.fr (.bl (withinD lo hi d))) []) : D_is_within c [.fr d, .fr (.int lo), .fr (.int hi)] P PE := by
  refine D_is_within_in ?_
  unfold B_is_within
  walk_at "dw"
  refine e_integer hp ?_
  walk_at "dw"
  cases d with
  | int i =>
    refine v_iteT ?_
    walk_at "dw"
    by_cases h : lo ≤ i
    · rw [decide_eq_true h]
      walk_at "dw"
      have e : withinD lo hi (.int i) = decide (i ≤ hi) := by
        show decide (lo ≤ i ∧ i ≤ hi) = _
        rw [Bool.eq_iff_iff]
        simp [h]
      rw [e] at q
      exact q
    · rw [decide_eq_false h]
      walk_at "dw"
      have e : withinD lo hi (.int i) = false := decide_eq_false fun z => h z.1
      rw [e] at q
      exact q
  | _ =>
    refine v_iteF ?_
    walk_at "dw"
    exact q
theorem a_ifT {b : Bool} {A B : Prop} (e : b = true) (h : A) : if b = true then A else B := by rw [if_pos e]; exact h
theorem a_ifF {b : Bool} {A B : Prop} (e : b = false) (h : B) : if b = true then A else B := by rw [e]; exact h
end
section
abbrev rowD (hs : List Int) : D := .tup (hs.map .int)
theorem getD {hs : List Int} {z : Int} (h0 : 1 ≤ z) (h1 : z ≤ hs.length) : atI (hs.map D.int) (z - 1) = some (.int (stp hs z)) :=
  atI_of (jj := z.toNat - 1) (by omega) (by rw [List.getElem?_map, stp_get h0 h1]; rfl)
variable {c : Cl} {P : O → List O → Prop} {PE : DExc → List O → Prop} {hs ks : List Int} {p b : Int} {K : O → Prop} {env : DEnv} {X : DX}
def blkF (f : Int → Bool) : D → Bool
  | .int i => f i
  | _ => false
theorem filt_blk0 (f : Int → Bool) (n : Nat) : (rgD 0 n).filter (blkF f) = (((List.range n).map fun (k : Nat) => (k : Int)).filter f).map .int := by
  have e : rgD 0 n = ((List.range n).map fun (k : Nat) => (k : Int)).map .int := by
    unfold rgD
    rw [List.map_map]
    refine List.map_congr_left fun k _ => ?_
    show D.int (0 + (k : Int)) = D.int (k : Int)
    rw [Int.zero_add]
  rw [e, List.filter_map]
  rfl
def treeD (c : Cl) (hs : List Int) : D := .ins c.Tree [("hung", rowD hs)]
theorem e_leads (tr : IsTree hs) (b0 : 1 ≤ b) (b1 : b ≤ hs.length) (q : P (.fr (.bl true)) []) : D_leads_home c [.fr (rowD hs), .fr (.int b)] P PE := by
  refine D_leads_home_in ?_
  unfold B_leads_home
  have l40 := tr.2.1
  walk_at "dw"
  refine a_rgb (by rw [List.length_map]; omega) ?_
  refine a_forI (fun k e => e = [S.ow (.fr (rowD hs)), .un, S.ow (.fr (.int (up hs k b))), .un] ∧ ∀ j, j < k → up hs j b ≠ 0) ⟨rfl, fun j h => absurd h (Nat.not_lt_zero _)⟩ ?_ ?_
  · rintro k d e NX hd ⟨rfl, un⟩ nx
    obtain ⟨hk, rfl⟩ := rgD_at hd
    walk_at "dw"
    refine v_ite (fun h => ?_) (fun h => ?_)
    · walk_at "dw"
      exact q
    · walk_at "dw"
      have ui := up_in tr.2.2.1 k b (by omega) b1
      refine a_ixT (getD (by omega) ui.2) ?_
      walk_at "dw"
      refine nx _ ⟨?_, fun j hj => ?_⟩
      · rw [up_succ]
        rfl
      · rcases Nat.lt_succ_iff_lt_or_eq.mp hj with h' | rfl
        · exact un j h'
        · exact h
  · rw [rgD_len, List.length_map]
    rintro e ⟨rfl, un⟩
    exact absurd (tr.up0 (by omega) b1) (un _ (by omega))
theorem e_init (tr : IsTree hs) (q : P (.fr .non) [.ins c.Tree [("hung", .fr (rowD hs))]]) : D_Tree_init c [.ins c.Tree [], .fr (rowD hs)] P PE := by
  refine D_Tree_init_in ?_
  unfold B_Tree_init
  have l40 := tr.2.1
  have l1 := tr.1
  walk_at "dw"
  refine e_isi .tup (.inr (.inr (.inl rfl))) ?_
  rw [show isKd (rowD hs) "tuple" = true from rfl]
  refine v_ite (fun _ => ?_) (fun h => absurd h (by rw [List.length_map]; omega))
  walk_at "dw"
  refine a_ifF (by rw [decide_eq_true (by rw [List.length_map]; omega)]; rfl) ?_
  walk_at "dw"
  refine a_rgb2 (by rw [List.length_map]; omega) ?_
  refine a_forI (fun k e => e = [S.bo (.ins c.Tree []), S.ow (.fr (rowD hs)), .un]) rfl ?_ ?_
  · rintro k d e NX hd rfl nx
    obtain ⟨hk, rfl⟩ := rgD_at hd
    rw [List.length_map] at hk
    walk_at "dw"
    refine a_ixT (getD (by omega) (by omega)) ?_
    walk_at "dw"
    refine e_within .int ?_
    have si := stp_in tr.2.2.1 (1 + (k : Int))
    rw [show withinD 0 (((hs.map D.int).length : Nat) : Int) (.int (stp hs (1 + (k : Int)))) = true from decide_eq_true (by rw [List.length_map]; exact si)]
    walk_at "dw"
    refine a_ixT (getD (by omega) (by omega)) ?_
    walk_at "dw"
    refine a_ifF (decide_eq_false (tr.ne (by omega) (by omega))) ?_
    walk_at "dw"
    exact nx _ rfl
  rintro e rfl
  walk_at "dw"
  refine a_rgb2 (by rw [List.length_map]; omega) ?_
  refine a_forI (fun k e => e = [S.bo (.ins c.Tree []), S.ow (.fr (rowD hs)), .un]) rfl ?_ ?_
  · rintro k d e NX hd rfl nx
    obtain ⟨hk, rfl⟩ := rgD_at hd
    rw [List.length_map] at hk
    walk_at "dw"
    refine e_leads tr (by omega) (by omega) ?_
    walk_at "dw"
    exact nx _ rfl
  rintro e rfl
  walk_at "dw"
  refine a_setF ?_
  walk_at "dw"
  exact ⟨⟨List.mem_cons_self, by decide⟩, q⟩
def numL (n : Nat) : List Int := (List.range n).map fun (k : Nat) => 1 + (k : Int)
theorem rgD_num (n : Nat) : rgD 1 n = (numL n).map .int := by
  unfold rgD numL
  rw [List.map_map]
  rfl
theorem numL_len (n : Nat) : (numL n).length = n := by unfold numL; rw [List.length_map, List.length_range]
theorem numL_nodup (n : Nat) : (numL n).Nodup := by
  unfold numL
  refine List.Pairwise.map _ ?_ List.nodup_range
  intro a b hab z
  have z' : (1 : Int) + (a : Int) = 1 + (b : Int) := z
  exact hab (by omega)
theorem numL_in {n : Nat} : ∀ m ∈ numL n, 1 ≤ m ∧ m ≤ n := fun m hm => by
  unfold numL at hm
  obtain ⟨k, hk, rfl⟩ := List.mem_map.mp hm
  have := List.mem_range.mp hk
  omega
theorem a_mulL {xs : List D} {k : Int} {K : O → Prop} (b : 0 ≤ k ∧ k ≤ 1000 ∧ xs.length ≤ 1000) (h : K (oL (List.replicate k.toNat xs).flatten)) : dMul (.lst xs) (.int k) K := by
  refine ⟨⟨by omega, by omega, ?_⟩, h⟩
  have : xs.length * k.toNat ≤ 1000 * 1000 := Nat.mul_le_mul b.2.2 (by omega)
  rw [PySem.sizeLine_eq]
  omega
theorem rep_int (n : Nat) (x : Int) : (List.replicate n [D.int x]).flatten = (List.replicate n x).map .int := by
  rw [flat_one, List.map_replicate]
theorem a_enumA {PI : List D → DEnv → Prop} {a : DTE} (h : a env (fun r env1 => force r env1 fun d env2 => match d with
  | .lst ds => PI (enumD 0 ds) env2
  | .tup ds => PI (enumD 0 ds) env2
  | _ => False) X) : dEnumA a env PI X := h
theorem a_I1 {x : Int} {g : Int → D} (h : K (.fr (g x))) : dU g (.int x) K := h
theorem a_setFD {Cs : List Addr} {fl : Str} {C : Addr} {gs : List (Str × O)} {DD : DEnds} {i j : Nat} (h : env[j]? = some (.ow (.fr d))) (hi : env[i]? = some (.bo (.ins C gs))) (hC : C ∈ Cs) (l : gs.length < 1000) (q : DD.nx (env.set i (.bo (.ins C (putFD fl (.fr d) gs))))) : dSetF Cs i fl (dVar j) DD env := by
  refine a_setF (a_varD h ?_)
  show oth (contAt env i []) _
  have e : contAt env i [] = some (.ins C gs) := by
    unfold contAt
    rw [hi]
    rfl
  rw [e]
  refine ⟨⟨hC, l⟩, ?_⟩
  have e2 : setAt env i [] (.ins C (putFD fl (.fr d) gs)) = env.set i (.bo (.ins C (putFD fl (.fr d) gs))) := by
    unfold setAt
    rw [hi]
    rfl
  rw [e2]
  exact q
end
section
variable {xs : List D} {z : Int} {env : DEnv} {KR : R → Prop}
theorem a_ixAny {Q : D → Prop} {m : Int} (z0 : 0 ≤ z) (z1 : z < m) (l : m ≤ xs.length) (h : ∀ x ∈ xs, Q x) (q : ∀ x, Q x → KR (.d x)) : ixR (.d (.lst xs)) z env KR := by
  have hz : z.toNat < xs.length := by omega
  exact a_ixL (atI_of (jj := z.toNat) (by omega) (List.getElem?_eq_getElem hz)) (q _ (h _ (List.getElem_mem hz)))
variable {PR : R → DEnv → Prop} {KD : D → DEnv → Prop} {tt : Bool} {X : DX}
theorem a_dct0 (h : PR (.o (.dct tt [])) env) : dDct0 tt env PR X := h
theorem a_forceDct (h : KD (.dct tt []) env) : force (.o (.dct tt [])) env KD := h
theorem all_nil {α : Type} {Q : α → Prop} : ∀ y ∈ ([] : List α), Q y := fun _ h => nomatch h
theorem all_cons {α : Type} {Q : α → Prop} {x : α} {r : List α} (h : Q x) (t : ∀ y ∈ r, Q y) : ∀ y ∈ x :: r, Q y := fun y m => by
  rcases List.mem_cons.mp m with e | m
  · rw [e]; exact h
  · exact t y m
theorem all_app {α : Type} {Q : α → Prop} {l r : List α} (h : ∀ y ∈ l, Q y) (t : ∀ y ∈ r, Q y) : ∀ y ∈ l ++ r, Q y := fun y m => (List.mem_append.mp m).elim (h y) (t y)
end
/-! ### things of all sorts -/
section
def PlN (Cs : List Addr) : Nat → D → Prop
  | 0, _ => True
  | n + 1, d => PlainD Cs d ∧ ∀ xs, d = .tup xs → ∀ x ∈ xs, PlN Cs n x
def PlA (Cs : List Addr) (d : D) : Prop := ∀ n, PlN Cs n d
variable {Cs : List Addr} {d x y : D} {xs : List D} {C : Addr} {gs : List (Str × D)}
theorem PlA.plain (h : PlA Cs d) : PlainD Cs d := (h 1).1
theorem PlA.item (h : PlA Cs (.tup xs)) (m : x ∈ xs) : PlA Cs x := fun n => (h (n + 1)).2 xs rfl x m
theorem PlA.flat (h : d.kind.isSome = true) (nt : ∀ xs, d ≠ .tup xs) : PlA Cs d := fun n => match n with
  | 0 => trivial
  | _ + 1 => ⟨.inl h, fun xs e => absurd e (nt xs)⟩
theorem PlA.int {i : Int} : PlA Cs (.int i) := .flat rfl fun _ e => nomatch e
theorem PlA.bl {b : Bool} : PlA Cs (.bl b) := .flat rfl fun _ e => nomatch e
theorem PlA.non : PlA Cs .non := .flat rfl fun _ e => nomatch e
theorem PlA.str {s : Str} : PlA Cs (.str s) := .flat rfl fun _ e => nomatch e
theorem PlA.lst : PlA Cs (.lst xs) := .flat rfl fun _ e => nomatch e
theorem PlA.dct {kvs : List (List Key × D)} : PlA Cs (.dct false kvs) := .flat rfl fun _ e => nomatch e
theorem PlA.ins (h : C ∈ Cs) : PlA Cs (.ins C gs) := fun n => match n with
  | 0 => trivial
  | _ + 1 => ⟨.inr ⟨C, h, rfl⟩, fun xs e => nomatch e⟩
theorem PlA.tup (h : ∀ x ∈ xs, PlA Cs x) : PlA Cs (.tup xs) := fun n => match n with
  | 0 => trivial
  | n + 1 => ⟨.inl rfl, fun xs' e x m => by
    cases e
    exact h x m n⟩
theorem PlA.tup0 : PlA Cs (.tup []) := .tup fun _ h => nomatch h
theorem PlA.cons (h : PlA Cs x) (t : PlA Cs (.tup xs)) : PlA Cs (.tup (x :: xs)) := .tup fun y m => by
  rcases List.mem_cons.mp m with rfl | m
  · exact h
  · exact t.item m
theorem PlA.ints {ns : List Int} : PlA Cs (.tup (ns.map .int)) := .tup fun x m => by
  obtain ⟨n, _, rfl⟩ := List.mem_map.mp m
  exact .int
end
/-! ### draws -/
section
variable {c : Cl} {P : O → List O → Prop} {PE : DExc → List O → Prop} {hs ks : List Int} {p b : Int} {K : O → Prop} {d x y t : D} {xs ys : List D} {env : DEnv} {X : DX}
theorem hand_mk {ns : List Int} {x y z u : Int} (l : ns.length ≤ 63) (h : 0 ≤ x) : HandOk (.lst [oL (ns.map .int), .fr (.int x), .fr (.int y), .fr (.int z), .fr (.int u)]) := ⟨ns, x, y, z, u, by unfold tapeO; rw [← oL_ints]; rfl, l, h⟩
theorem hand_eq {o : O} (h : HandOk o) : ∃ (ns : List Int) (x y z u : Int), o = .lst [oL (ns.map .int), .fr (.int x), .fr (.int y), .fr (.int z), .fr (.int u)] ∧ ns.length ≤ 63 ∧ 0 ≤ x := by
  obtain ⟨ns, x, y, z, u, rfl, l, h⟩ := h
  exact ⟨ns, x, y, z, u, by unfold tapeO; rw [← oL_ints]; rfl, l, h⟩
theorem e_draw {o : O} {m : Int} (ho : HandOk o) (h1 : 1 ≤ m) (h2 : m ≤ 1000000) (q : ∀ d o', HandOk o' → 0 ≤ d → d < m → P (.fr (.int d)) [o']) : D_l_draw c [o, .fr (.int m)] P PE := by
  obtain ⟨gs, x, y, z, u, rfl, lg, hx⟩ := hand_eq ho
  refine D_l_draw_in ?_
  unfold B_l_draw
  refine a_cut (fun e => ∃ (x y z : Int) (s : S), 0 ≤ x ∧ e = [S.bo (.lst [oL (gs.map .int), .fr (.int x), .fr (.int y), .fr (.int z), .fr (.int u)]), S.ow (.fr (.int m)), s, .un, .un]) (fun NX nx => ?_) ?_
  · walk_at "dw"
    refine v_ite (fun hy => ?_) (fun hy => ?_)
    · walk_at "dw"
      refine v_ite (fun hl => ?_) (fun hl => ?_)
      · rw [List.length_map] at hl
        have hlt : x.toNat < gs.length := by omega
        walk_at "dw"
        refine a_ixP rfl (atI_of (jj := x.toNat) (x := .int gs[x.toNat]) (by omega) (by rw [List.getElem?_map, List.getElem?_eq_getElem hlt]; rfl)) ?_
        walk_at "dw"
        refine ⟨.inr (by decide), ?_⟩
        walk_at "dw"
        refine a_I2 (by decide) ?_
        walk_at "dw"
        refine a_I2 (by unfold CPow; decide) ?_
        walk_at "dw"
        refine v_ite (fun hb => ?_) (fun hb => ?_)
        · walk_at "dw"
          exact nx _ ⟨_, _, _, _, by omega, rfl⟩
        · walk_at "dw"
          exact nx _ ⟨_, _, _, _, by omega, rfl⟩
      · walk_at "dw"
        exact nx _ ⟨x, y, z, _, hx, rfl⟩
    · walk_at "dw"
      exact nx _ ⟨x, y, z, _, hx, rfl⟩
  clear hx ho
  clear x y z
  rintro e ⟨x, y, z, s, hx, rfl⟩
  walk_at "dw"
  refine v_ite (fun hy => ?_) (fun hy => ?_)
  · walk_at "dw"
    refine a_I2 (by show (0 : Int) < m; omega) ?_
    walk_at "dw"
    refine a_I2 (by show m ≠ 0 ∧ m.natAbs < 1073741824; omega) ?_
    walk_at "dw"
    exact q _ _ (hand_mk lg hx) (Int.emod_nonneg _ (by omega)) (Int.emod_lt_of_pos _ (by omega))
  · walk_at "dw"
    refine ⟨.inl (by decide), ?_⟩
    walk_at "dw"
    refine ⟨.inr (by decide), ?_⟩
    walk_at "dw"
    refine a_I2 (by decide) ?_
    walk_at "dw"
    generalize hz : (z + 7919 * (u + 1)) * 48271 % 2147483647 = w
    have z0 := Int.emod_nonneg ((z + 7919 * (u + 1)) * 48271) (b := 2147483647) (by decide)
    have z1 := Int.emod_lt_of_pos ((z + 7919 * (u + 1)) * 48271) (b := 2147483647) (by decide)
    rw [hz] at z0 z1
    refine a_I2 ⟨by decide, by decide⟩ ?_
    walk_at "dw"
    refine ⟨.inl (by omega), ?_⟩
    walk_at "dw"
    refine a_I2 (by decide) ?_
    walk_at "dw"
    generalize hv : w * (w.fdiv 1009 + 69621) % 2147483647 = v
    have u0 := Int.emod_nonneg (w * (w.fdiv 1009 + 69621)) (b := 2147483647) (by decide)
    have u1 := Int.emod_lt_of_pos (w * (w.fdiv 1009 + 69621)) (b := 2147483647) (by decide)
    rw [hv] at u0 u1
    refine a_I2 ⟨by decide, by decide⟩ ?_
    walk_at "dw"
    refine ⟨.inl (by omega), ?_⟩
    walk_at "dw"
    refine a_I2 (by decide) ?_
    walk_at "dw"
    refine a_I2 ⟨by decide, by decide⟩ ?_
    walk_at "dw"
    refine a_I2 (by show (0 : Int) < m; omega) ?_
    walk_at "dw"
    exact q _ _ (hand_mk lg hx) (Int.emod_nonneg _ (by omega)) (Int.emod_lt_of_pos _ (by omega))
end
section
theorem pl_take {Cs : List Addr} {ds : List D} {lo hi : Option Int} (h : ∀ x ∈ ds, PlA Cs x) : ∀ x ∈ cutD ds lo hi, PlA Cs x := fun x m => by
  unfold cutD at m
  exact h x (List.mem_of_mem_drop (List.mem_of_mem_take m))
variable {d : D}
theorem within_inv {lo hi : Int} (h : withinD lo hi d = true) : ∃ i, d = .int i ∧ lo ≤ i ∧ i ≤ hi := by
  unfold withinD at h
  split at h
  · have := of_decide_eq_true h
    exact ⟨_, rfl, this⟩
  · cases h
variable {K : O → Prop} {env : DEnv} {i : Nat} {ds : List D} {PI : List D → DEnv → Prop} {X : DX}
def upD : Option Int → D
  | none => .non
  | some p => .int p
def flD : Option Bool → D
  | none => .non
  | some b => .bl b
def rowF (r : List (Option Bool)) : D := .tup (r.map flD)
def upsD (us : List (Option Int)) : D := .tup (us.map upD)
def lstsD (ls : List (List (Option Bool))) : D := .tup (ls.map rowF)
def rightL (hs : List Int) : List (List (Option Bool)) := (List.range (hs.length + 1)).map fun (k : Nat) => hs.map fun h => some (decide (h = (k : Int)))
theorem row_ups (hs : List Int) : rowD hs = upsD (hs.map some) := by
  unfold upsD
  rw [List.map_map]
  rfl
structure WOk (n : Nat) (us : List (Option Int)) (ls : List (List (Option Bool))) : Prop where
  lu : us.length = n
  ll : ls.length = n + 1
  lr : ∀ r ∈ ls, r.length = n
  u : ∀ (k : Nat) (p : Int), us[k]? = some (some p) → 0 ≤ p ∧ p ≤ n ∧ p ≠ k + 1
  f : ∀ (b : Nat) r, 1 ≤ b → ls[b]? = some r → r[b - 1]? = some (some false)
theorem a_isFl {w : Option Bool} {x : Bool} (q : K (.fr (.bl (decide (w = some x))))) : dIs (flD w) (.bl x) K := by
  cases w with
  | none => exact q
  | some y =>
    show K (.fr (.bl (decide (y = x))))
    rw [show decide (y = x) = decide (some y = some x) by rw [Bool.eq_iff_iff]; simp]
    exact q
theorem a_neUp {w : Option Int} {x : Int} (q : K (.fr (.bl (!decide (w = some x))))) : dNe (upD w) (.int x) K := by
  cases w with
  | none => exact ⟨rfl, rfl, q⟩
  | some y =>
    refine a_neI ?_
    rw [show decide (y = x) = decide (some y = some x) by rw [Bool.eq_iff_iff]; simp]
    exact q
theorem a_eqUp {w : Option Int} {x : Int} (q : K (.fr (.bl (decide (w = some x))))) : dEq (upD w) (.int x) K := by
  cases w with
  | none => exact ⟨rfl, rfl, q⟩
  | some y =>
    refine a_eqI ?_
    rw [show decide (y = x) = decide (some y = some x) by rw [Bool.eq_iff_iff]; simp]
    exact q
variable {hs : List Int}
theorem right_ok (tr : IsTree hs) : WOk hs.length (hs.map some) (rightL hs) where
  lu := by rw [List.length_map]
  ll := by unfold rightL; rw [List.length_map, List.length_range]
  lr r hr := by
    unfold rightL at hr
    obtain ⟨k, _, rfl⟩ := List.mem_map.mp hr
    rw [List.length_map]
  u k p e := by
    rw [List.getElem?_map] at e
    cases ex : hs[k]? with
    | none => rw [ex] at e; cases e
    | some x =>
      rw [ex] at e
      cases e
      have := tr.2.2.1 p (List.mem_of_getElem? ex)
      exact ⟨this.1, this.2, tr.2.2.2.1 k p ex⟩
  f b r b1 e := by
    unfold rightL at e
    have hb := (List.getElem?_eq_some_iff.mp e).1
    rw [List.length_map, List.length_range] at hb
    rw [List.getElem?_map, List.getElem?_range hb] at e
    cases e
    have hb2 : b - 1 < hs.length := by omega
    rw [List.getElem?_map, List.getElem?_eq_getElem hb2]
    have := tr.2.2.2.1 (b - 1) hs[b - 1] (List.getElem?_eq_getElem hb2)
    show some (some (decide (hs[b - 1] = (b : Int)))) = _
    rw [decide_eq_false (by omega)]
end

/-! ### drawn trees -/
section
variable {c : Cl} {P : O → List O → Prop} {PE : DExc → List O → Prop} {hs ks : List Int} {p b : Int} {K : O → Prop} {d x y t : D} {xs ys : List D} {env : DEnv} {X : DX}
theorem a_ixAnyN {zs : List D} {KR : R → Prop} {z : Int} {Q : D → Prop} {m : Int} (z0 : 0 ≤ z) (z1 : z < m) (l : m ≤ zs.length) (h : ∀ x ∈ zs, Q x) (q : ∀ x, Q x → KR (.d x)) : ixR (.o (oL zs)) z env KR := by
  have hz : z.toNat < zs.length := by omega
  exact a_ixN (a := dC .non) rfl (atI_of (jj := z.toNat) (by omega) (List.getElem?_eq_getElem hz)) (q _ (h _ (List.getElem_mem hz)))
theorem a_maxI {i j : Int} (h : K (.fr (.int (if j > i then j else i)))) : dMax2 [.int i, .int j] K := h
theorem a_minI {i j : Int} (h : K (.fr (.int (if j < i then j else i)))) : dMin2 [.int i, .int j] K := h
theorem e_tree {o : O} {n : Nat} (ho : HandOk o) (h1 : 1 ≤ n) (h2 : n ≤ 40) (q : ∀ (hs : List Int) o', HandOk o' → hs.length = n → IsTree hs → P (.fr (rowD hs)) [o']) : D_l_tree c [o, .fr (.int n)] P PE := by
  refine D_l_tree_in ?_
  unfold B_l_tree
  walk_at "dw"
  refine ⟨⟨by omega, by omega⟩, ?_⟩
  dsimp only
  rw [show ((n : Int) + 1 - 1).toNat = n by omega, rgD_num, if_pos rfl]
  walk_at "dw"
  refine a_mulL ⟨by omega, by omega, by decide⟩ ?_
  rw [rep_int, show ((n : Int)).toNat = n by omega]
  walk_at "dw"
  refine e_draw ho (by decide) (by decide) fun kd o1 ho1 k0 k1 => ?_
  walk_at "dw"
  refine a_rgb (by omega) ?_
  refine a_forI (fun i e => ∃ (o : O) (ms left fs : List Int), HandOk o ∧ e = [S.bo o, .un, .ow (oL (left.map .int)), .ow (oL ((0 :: ms).map .int)), .ow (oL (fs.map .int)), .ow (.fr (.int kd)), .un, .un, .un] ∧ ms.length = i ∧ ms.length + left.length = n ∧ (ms ++ left).Perm (numL n) ∧ fs.length = n ∧ (∀ h ∈ fs, 0 ≤ h ∧ h ≤ n) ∧
      ∀ (j : Nat) (x : Int), 1 ≤ j → (0 :: ms)[j]? = some x → ∃ (a : Nat) (y : Int), a < j ∧ (0 :: ms)[a]? = some y ∧ fs[(x - 1).toNat]? = some y)
    ⟨o1, [], numL n, List.replicate n 0, ho1, rfl, rfl, by rw [numL_len]; exact Nat.zero_add n, List.Perm.refl _, List.length_replicate, fun h hh => by rw [List.eq_of_mem_replicate hh]; omega, fun j x a b => by
      obtain ⟨k, rfl⟩ : ∃ k, j = k + 1 := ⟨j - 1, by omega⟩
      cases b⟩ ?_ ?_
  · clear ho1 o1 ho
    rintro i d e NX hd ⟨o, ms, left, fs, ho, rfl, lm, ln, pm, lf, pl, inv⟩ nx
    obtain ⟨hi, rfl⟩ := rgD_at hd
    have nd : (ms ++ left).Nodup := pm.nodup_iff.mpr (numL_nodup n)
    have rg : ∀ z ∈ ms ++ left, 1 ≤ z ∧ z ≤ n := fun z hz => numL_in z (pm.mem_iff.mp hz)
    walk_at "dw"
    refine e_draw ho (by rw [List.length_map]; omega) (by rw [List.length_map]; omega) fun r o1 ho1 r0 r1 => ?_
    rw [List.length_map] at r1
    have hr : r.toNat < left.length := by omega
    walk_at "dw"
    refine a_popAt (ds := left.map .int) (j := r.toNat) (d := .int left[r.toNat]) rfl (by omega) (by rw [List.getElem?_map, List.getElem?_eq_getElem hr]; rfl) (by rw [List.length_map]; omega) ?_
    have hb : left[r.toNat] ∈ left := List.getElem_mem hr
    have hbr := rg _ (List.mem_append_right _ hb)
    have nin : left[r.toNat] ∉ ms := fun z => (List.nodup_append.mp nd).2.2 _ z _ hb rfl
    have pe := perm_erase left r.toNat hr
    generalize left[r.toNat] = B at *
    walk_at "dw"
    refine a_ixAnyN (Q := fun d => ∃ w : Int, d = .int w) k0 k1 (by show (3 : Int) ≤ ((3 : Nat) : Int); decide) (all_cons ⟨_, rfl⟩ (all_cons ⟨_, rfl⟩ (all_cons ⟨_, rfl⟩ all_nil))) fun d hd => ?_
    obtain ⟨w, rfl⟩ := hd
    walk_at "dw"
    refine a_maxI ?_
    generalize hw : (if w > 1 then w else 1) = w1
    have w1p : 1 ≤ w1 := by
      rw [← hw]
      split <;> omega
    walk_at "dw"
    refine a_minI ?_
    rw [List.length_map, List.length_cons]
    generalize hv : (if ((ms.length + 1 : Nat) : Int) < w1 then ((ms.length + 1 : Nat) : Int) else w1) = v
    have v1 : 1 ≤ v ∧ v ≤ ((ms.length + 1 : Nat) : Int) := by
      rw [← hv]
      split <;> omega
    walk_at "dw"
    refine e_draw ho1 v1.1 (by omega) fun k o2 ho2 k0 k1 => ?_
    walk_at "dw"
    have hk : (((ms.length + 1 : Nat) : Int) - 1 - k).toNat < (0 :: ms).length := by rw [List.length_cons]; omega
    refine a_ixP (d := .int (0 :: ms)[(((ms.length + 1 : Nat) : Int) - 1 - k).toNat]) rfl (atI_of (jj := (((ms.length + 1 : Nat) : Int) - 1 - k).toNat) (by omega) (by rw [List.getElem?_map, List.getElem?_eq_getElem hk]; rfl)) ?_
    generalize (((ms.length + 1 : Nat) : Int) - 1 - k).toNat = kn at *
    have hy : (0 :: ms)[kn]? = some (0 :: ms)[kn] := List.getElem?_eq_getElem hk
    have hyr : 0 ≤ (0 :: ms)[kn] ∧ (0 :: ms)[kn] ≤ n := by
      rcases List.mem_cons.mp (List.getElem_mem hk) with e | hm
      · rw [e]; omega
      · have := rg _ (List.mem_append_left _ hm); omega
    generalize (0 :: ms)[kn] = Y at *
    walk_at "dw"
    refine a_subK (os := (fs.map D.int).map .fr) (jj := (B - 1).toNat) rfl (ixN_of (by omega) (by rw [List.length_map, List.length_map]; omega)) ?_
    walk_at "dw"
    refine a_app (ds := (0 :: ms).map .int) rfl (by rw [List.length_map, List.length_cons]; omega) ?_
    refine nx _ ⟨o2, ms ++ [B], left.eraseIdx r.toNat, fs.set (B - 1).toNat Y, ho2, ?_, by rw [List.length_append, lm]; rfl, by rw [List.length_append, List.length_eraseIdx_of_lt hr]; show ms.length + 1 + _ = n; omega, ?_, by rw [List.length_set]; exact lf, fun h hh => ?_, fun j x j1 hx => ?_⟩
    · have e3 : (0 :: (ms ++ [B])).map D.int = (0 :: ms).map D.int ++ [.int B] := by rw [← List.cons_append, List.map_append]; rfl
      rw [map_erase', e3]
      unfold oL
      rw [List.map_set, List.map_set]
      rfl
    · refine List.Perm.trans ?_ pm
      rw [List.append_assoc]
      exact List.Perm.append_left _ pe
    · rcases List.mem_or_eq_of_mem_set hh with hh | e
      · exact pl h hh
      · rw [e]; exact hyr
    · rw [← List.cons_append] at hx
      by_cases hj : j < (0 :: ms).length
      · rw [List.getElem?_append_left hj] at hx
        obtain ⟨a, y', ha, hya, hf⟩ := inv j x j1 hx
        refine ⟨a, y', ha, ?_, ?_⟩
        · rw [← List.cons_append, List.getElem?_append_left (by omega)]
          exact hya
        · have xm : x ∈ ms := by
            obtain ⟨i, rfl⟩ : ∃ i, j = i + 1 := ⟨j - 1, by omega⟩
            rw [List.getElem?_cons_succ] at hx
            exact List.mem_of_getElem? hx
          have xr := rg x (List.mem_append_left _ xm)
          have ne : x ≠ B := fun z => nin (z ▸ xm)
          rw [List.getElem?_set_ne (by omega)]
          exact hf
      · rw [List.getElem?_append_right (by omega)] at hx
        have j0 : j - (0 :: ms).length = 0 := by
          have := (List.getElem?_eq_some_iff.mp hx).1
          rw [List.length_singleton] at this
          omega
        rw [j0] at hx
        have ex : B = x := Option.some.inj hx
        refine ⟨kn, Y, by omega, ?_, ?_⟩
        · rw [← List.cons_append, List.getElem?_append_left hk]
          exact hy
        · rw [← ex, List.getElem?_set_self (by omega)]
  · rw [rgD_len]
    rintro e ⟨o, ms, left, fs, ho, rfl, lm, ln, pm, lf, pl, inv⟩
    have e0 : left = [] := List.eq_nil_of_length_eq_zero (by omega)
    subst e0
    rw [List.append_nil] at pm
    have nd : ms.Nodup := pm.nodup_iff.mpr (numL_nodup n)
    have rg : ∀ z ∈ ms, 1 ≤ z ∧ z ≤ n := fun z hz => numL_in z (pm.mem_iff.mp hz)
    walk_at "dw"
    refine q fs o ho lf (tree_of_order (by omega) nd rg lf h1 h2 pl fun j x j1 jn hx => inv j x j1 hx)
/-! ### right words -/
theorem e_right (l40 : hs.length ≤ 40) (q : P (.fr (.tup [rowD hs, lstsD (rightL hs)])) []) : D_l_right c [.fr (rowD hs)] P PE := by
  refine D_l_right_in ?_
  unfold B_l_right
  walk_at "dw"
  refine a_rgb (by rw [List.length_map]; omega) ?_
  refine a_forI (fun i e => e = [S.ow (.fr (rowD hs)), .ow (oL (((List.range i).map fun (k : Nat) => hs.map fun h => some (decide (h = (k : Int)))).map rowF)), .un, .un]) rfl ?_ ?_
  · rintro i d e NX hd rfl nx
    obtain ⟨hi, rfl⟩ := rgD_at hd
    rw [List.length_map] at hi
    rw [Int.zero_add]
    walk_at "dw"
    refine a_lcM (fun d => match d with
      | .int h => .bl (decide (h = (i : Int)))
      | d => d) (by rw [List.length_map]; omega) (fun m d acc NX3 hm ha n3 => ?_) ?_
    · rw [List.getElem?_map] at hm
      cases eh : hs[m]? with
      | none => rw [eh] at hm; cases hm
      | some h =>
        rw [eh] at hm
        cases hm
        refine ⟨by rfl, ?_⟩
        walk_at "dw"
        exact ⟨ha, n3⟩
    · walk_at "dw"
      refine a_app rfl (by rw [List.length_map, List.length_map, List.length_range]; omega) ?_
      refine nx _ ?_
      rw [List.range_succ, List.map_append, List.map_append]
      have e1 : D.tup ((hs.map D.int).map fun d => match d with
        | .int h => .bl (decide (h = (i : Int)))
        | d => d) = rowF (hs.map fun h => some (decide (h = (i : Int)))) := by
        unfold rowF
        rw [List.map_map, List.map_map]
        rfl
      rw [e1]
      rfl
  · rw [rgD_len, List.length_map, show ((hs.length : Int) + 1).toNat = hs.length + 1 by omega]
    rintro e rfl
    walk_at "dw"
    exact q
end

/-! ### words with some told otherwise -/
section
variable {c : Cl} {P : O → List O → Prop} {PE : DExc → List O → Prop} {hs ks : List Int} {p b : Int} {K : O → Prop} {d x y t : D} {xs ys : List D} {env : DEnv} {X : DX} {n : Nat} {us : List (Option Int)} {ls : List (List (Option Bool))}
theorem cut_take (xs : List D) (v : Nat) : cutD xs none (some (v : Int)) = xs.take v := by
  have := cutD_take id xs v
  rw [List.map_id, List.map_id] at this
  exact this
theorem cut_drop (xs : List D) (v : Nat) : cutD xs (some (v : Int)) none = xs.drop v := by
  have := cutD_drop id xs v
  rw [List.map_id, List.map_id] at this
  exact this
theorem e_put {k : Nat} (hk : k < xs.length) (l : xs.length ≤ 100) (q : P (.fr (.tup (xs.set k x))) []) : D_l_put c [.fr (.tup xs), .fr (.int k), .fr x] P PE := by
  refine D_l_put_in ?_
  unfold B_l_put
  walk_at "dw"
  rw [cut_take]
  walk_at "dw"
  refine a_addT (by rw [List.length_take]; show _ + 1 ≤ _; omega) ?_
  walk_at "dw"
  rw [show ((k : Int) + 1) = ((k + 1 : Nat) : Int) by omega, cut_drop]
  refine a_addT (by rw [List.length_append, List.length_take, List.length_drop]; show _ + 1 + _ ≤ _; omega) ?_
  have e : xs.take k ++ [x] ++ xs.drop (k + 1) = xs.set k x := by
    rw [List.set_eq_take_append_cons_drop, if_pos hk, List.append_assoc]
    rfl
  rw [e]
  walk_at "dw"
  exact q
theorem WOk.setU (w : WOk n us ls) {k : Nat} {v : Option Int} (hv : ∀ p, v = some p → 0 ≤ p ∧ p ≤ n ∧ p ≠ k + 1) : WOk n (us.set k v) ls where
  lu := by rw [List.length_set]; exact w.lu
  ll := w.ll
  lr := w.lr
  u := fun j p e => by
    by_cases h : k = j
    · subst h
      have hj := (List.getElem?_eq_some_iff.mp e).1
      rw [List.length_set] at hj
      rw [List.getElem?_set_self hj] at e
      exact hv p (Option.some.inj e)
    · rw [List.getElem?_set_ne h] at e
      exact w.u j p e
  f := w.f
theorem WOk.setL (w : WOk n us ls) {r : List (Option Bool)} {p k : Nat} {v : Option Bool} (hr : ls[p]? = some r) (ne : p ≠ k + 1) : WOk n us (ls.set p (r.set k v)) where
  lu := w.lu
  ll := by rw [List.length_set]; exact w.ll
  lr := fun r' h => by
    rcases List.mem_or_eq_of_mem_set h with h | h
    · exact w.lr r' h
    · rw [h, List.length_set]; exact w.lr r (List.mem_of_getElem? hr)
  u := w.u
  f := fun b r' b1 e => by
    by_cases h : p = b
    · subst h
      have hj := (List.getElem?_eq_some_iff.mp e).1
      rw [List.length_set] at hj
      rw [List.getElem?_set_self hj] at e
      cases e
      rw [List.getElem?_set_ne (by omega)]
      exact w.f p r b1 hr
    · rw [List.getElem?_set_ne h] at e
      exact w.f b r' b1 e
theorem a_isNotFl {w : Option Bool} {x : Bool} (q : K (.fr (.bl (!decide (w = some x))))) : dIsNot (flD w) (.bl x) K := by
  cases w with
  | none => exact q
  | some y =>
    show K (.fr (.bl (!decide (y = x))))
    rw [show decide (y = x) = decide (some y = some x) by rw [Bool.eq_iff_iff]; simp]
    exact q
theorem put_ups {k : Nat} {v : Option Int} : D.tup ((us.map upD).set k (upD v)) = upsD (us.set k v) := by
  unfold upsD
  rw [List.map_set]
theorem put_row {r : List (Option Bool)} {k : Nat} {v : Option Bool} : D.tup ((r.map flD).set k (flD v)) = rowF (r.set k v) := by
  unfold rowF
  rw [List.map_set]
theorem put_lists {r : List (Option Bool)} {k : Nat} : D.tup ((ls.map rowF).set k (rowF r)) = lstsD (ls.set k r) := by
  unfold lstsD
  rw [List.map_set]
theorem e_worn {o : O} {m : Int} (ho : HandOk o) (w : WOk n us ls) (n1 : 1 ≤ n) (n40 : n ≤ 40) (m0 : 0 ≤ m) (m8 : m ≤ 8) (q : ∀ us ls o', HandOk o' → WOk n us ls → P (.fr (.tup [upsD us, lstsD ls])) [o']) : D_l_worn c [o, .fr (upsD us), .fr (lstsD ls), .fr (.int m)] P PE := by
  refine D_l_worn_in ?_
  unfold B_l_worn
  have el : ((us.map upD).length : Int) = n := by rw [List.length_map, w.lu]
  unfold upsD
  walk_at "dw"
  rw [el]
  walk_at "dw"
  refine a_rgb (by omega) ?_
  refine a_forI (fun i e => ∃ (o : O) (us : List (Option Int)) (ls : List (List (Option Bool))), HandOk o ∧ WOk n us ls ∧ e = [S.bo o, .ow (.fr (upsD us)), .ow (.fr (lstsD ls)), .un, .ow (.fr (.int n)), .un, .un, .un, .un, .un]) ⟨o, us, ls, ho, w, rfl⟩ ?_ ?_
  · clear el ho w
    clear o
    rintro i d e NX hd ⟨o, us, ls, ho, w, rfl⟩ nx
    obtain ⟨hi, rfl⟩ := rgD_at hd
    walk_at "dw"
    refine e_draw ho (by omega) (by omega) fun b o1 ho1 b0 b1 => ?_
    walk_at "dw"
    refine e_draw ho1 (by omega) (by omega) fun p o2 ho2 p0 p1 => ?_
    walk_at "dw"
    refine a_cut (fun e => ∃ (o3 : O) (l : Int), HandOk o3 ∧ e = [S.bo o3, .ow (.fr (upsD us)), .ow (.fr (lstsD ls)), .un, .ow (.fr (.int n)), .un, .ow (.fr (.int b)), .ow (.fr (.int p)), .ow (.fr (.bl (decide (l = 0)))), .un]) (fun NX2 nx2 => ?_) ?_
    · walk_at "dw"
      refine e_draw ho2 (by decide) (by decide) fun l o3 ho3 l0 l1 => ?_
      walk_at "dw"
      exact nx2 _ ⟨o3, l, ho3, rfl⟩
    rintro e ⟨o3, l, ho3, rfl⟩
    walk_at "dw"
    refine e_draw ho3 (by decide) (by decide) fun z o4 ho4 z0 z1 => ?_
    obtain ⟨k, rfl⟩ : ∃ k : Nat, b = k := ⟨b.toNat, by omega⟩
    obtain ⟨j, rfl⟩ : ∃ j : Nat, p = j := ⟨p.toNat, by omega⟩
    have lu := w.lu
    have ll := w.ll
    have two : ∀ (rt : O → DEnv → Prop) (bk ct : DEnv → Prop) (ex : DX), ((j : Int) ≠ (k : Int) + 1) → dSeq (dAsg (dIx (dVar 2) (dVar 7)) (dName 9)) (dSeq (dPost [6, 8] (dAsg (dCall false (D_l_put c) (dConsV (dVar 9) (dConsV (dVar 6) (dConsV (dIf (dTest (dVar 8)) (dC .non) (dOpP dIsNot (dIx (dVar 9) (dVar 6)) (dC (.bl true)))) dNilV)))) (dName 9))) (dPost [7, 9] (dAsg (dCall false (D_l_put c) (dConsV (dVar 2) (dConsV (dVar 7) (dConsV (dVar 9) dNilV)))) (dName 2))))
        { nx := NX, rt := rt, bk := bk, ct := ct, ex := ex } [S.bo o4, .ow (.fr (upsD us)), .ow (.fr (lstsD ls)), .un, .ow (.fr (.int n)), .un, .ow (.fr (.int k)), .ow (.fr (.int j)), .ow (.fr (.bl (decide (l = 0)))), .un] := fun rt bk ct ex ne => by
      have hj : j < ls.length := by omega
      have hr : ls[j]? = some ls[j] := List.getElem?_eq_getElem hj
      have lr := w.lr _ (List.getElem_mem hj)
      have up := fun v => w.setL (k := k) (v := v) hr (by omega)
      generalize ls[j] = r at *
      rw [show lstsD ls = D.tup (ls.map rowF) from rfl]
      walk_at "dw"
      refine a_ixT (d := rowF r) (atI_of (jj := j) rfl (by rw [List.getElem?_map, hr]; rfl)) ?_
      rw [show rowF r = D.tup (r.map flD) from rfl]
      walk_at "dw"
      have fin : ∀ v : Option Bool, NX [S.bo o4, .ow (.fr (upsD us)), .ow (.fr (lstsD (ls.set j (r.set k v)))), .un, .ow (.fr (.int n)), .un, .un, .un, .un, .un] := fun v => nx _ ⟨o4, us, _, ho4, up v, rfl⟩
      refine v_ite (fun hl => ?_) (fun hl => ?_)
      · walk_at "dw"
        refine e_put (x := flD none) (by rw [List.length_map]; omega) (by rw [List.length_map]; omega) ?_
        rw [put_row]
        walk_at "dw"
        refine e_put (by rw [List.length_map]; omega) (by rw [List.length_map]; omega) ?_
        rw [put_lists]
        walk_at "dw"
        exact fin none
      · walk_at "dw"
        have hk : k < r.length := by omega
        refine a_ixT (d := flD r[k]) (atI_of (jj := k) rfl (by rw [List.getElem?_map, List.getElem?_eq_getElem hk]; rfl)) ?_
        walk_at "dw"
        refine a_isNotFl ?_
        walk_at "dw"
        refine e_put (x := flD (some (!decide (r[k] = some true)))) (by rw [List.length_map]; omega) (by rw [List.length_map]; omega) ?_
        rw [put_row]
        walk_at "dw"
        refine e_put (by rw [List.length_map]; omega) (by rw [List.length_map]; omega) ?_
        rw [put_lists]
        walk_at "dw"
        exact fin _
    have non : NX [S.bo o4, .ow (.fr (upsD us)), .ow (.fr (lstsD ls)), .un, .ow (.fr (.int n)), .un, .un, .un, .un, .un] := nx _ ⟨o4, us, ls, ho4, w, rfl⟩
    have upu : ∀ v : Option Int, (∀ p : Int, v = some p → 0 ≤ p ∧ p ≤ n ∧ p ≠ k + 1) → NX [S.bo o4, .ow (.fr (upsD (us.set k v))), .ow (.fr (lstsD ls)), .un, .ow (.fr (.int n)), .un, .un, .un, .un, .un] := fun v hv => nx _ ⟨o4, _, ls, ho4, w.setU hv, rfl⟩
    walk_at "dw"
    refine v_ite (fun hz => ?_) (fun hz => ?_)
    · walk_at "dw"
      refine v_iteN (fun ne => ?_) (fun e => ?_)
      · rw [show upsD us = D.tup (us.map upD) from rfl]
        walk_at "dw"
        refine v_ite (fun hl => ?_) (fun hl => ?_)
        · walk_at "dw"
          refine e_put (x := upD none) (by rw [List.length_map]; omega) (by rw [List.length_map]; omega) ?_
          rw [put_ups]
          walk_at "dw"
          exact upu none fun p e => nomatch e
        · walk_at "dw"
          refine e_put (x := upD (some (j : Int))) (by rw [List.length_map]; omega) (by rw [List.length_map]; omega) ?_
          rw [put_ups]
          walk_at "dw"
          exact upu (some (j : Int)) fun p e => by cases e; exact ⟨p0, by omega, ne⟩
      · walk_at "dw"
        refine v_iteN (fun ne => absurd e ne) (fun e => ?_)
        walk_at "dw"
        exact non
    · walk_at "dw"
      refine v_iteN (fun ne => two _ _ _ _ ne) (fun e => ?_)
      walk_at "dw"
      exact non
  · rintro e ⟨o, us, ls, ho, w, rfl⟩
    walk_at "dw"
    exact q us ls o ho w
end

/-! ### drawn words -/
section
variable {c : Cl} {P : O → List O → Prop} {PE : DExc → List O → Prop} {hs ks : List Int} {p b : Int} {K : O → Prop} {d x y t : D} {xs ys : List D} {env : DEnv} {X : DX} {n : Nat}
theorem pick_mem {ds : List D} {r : Int} (r0 : 0 ≤ r) (r1 : r < ds.length) : ∃ d, d ∈ ds ∧ atI ds r = some d := by
  have h : r.toNat < ds.length := by omega
  exact ⟨ds[r.toNat], List.getElem_mem h, atI_of (jj := r.toNat) (by omega) (List.getElem?_eq_getElem h)⟩
theorem e_any {o : O} (ho : HandOk o) (n1 : 1 ≤ n) (n40 : n ≤ 40) (q : ∀ us ls o', HandOk o' → WOk n us ls → P (.fr (.tup [upsD us, lstsD ls])) [o']) : D_l_any c [o, .fr (.int n)] P PE := by
  refine D_l_any_in ?_
  unfold B_l_any
  walk_at "dw"
  refine a_rgb2 (by omega) ?_
  refine a_forI (fun i e => ∃ (o : O) (us : List (Option Int)), HandOk o ∧ us.length = i ∧ (∀ (k : Nat) (p : Int), us[k]? = some (some p) → 0 ≤ p ∧ p ≤ n ∧ p ≠ k + 1) ∧
    e = [S.bo o, .ow (.fr (.int n)), .ow (oL (us.map upD)), .un, .un, .un, .un, .un]) ⟨o, [], ho, rfl, fun k p e => by simp at e, rfl⟩ ?_ ?_
  · clear ho
    clear o
    rintro i d e NX hd ⟨o, us, ho, lu, hu, rfl⟩ nx
    obtain ⟨hi, rfl⟩ := rgD_at hd
    walk_at "dw"
    refine a_rgb (by omega) ?_
    refine a_lcF (blkF fun z => !decide (z = 1 + (i : Int))) (by rw [rgD_len]; omega) (fun k d acc NX hk ha n1 n2 => ?_) ?_
    · obtain ⟨hl, rfl⟩ := rgD_at hk
      refine ⟨by rfl, ?_⟩
      walk_at "dw"
      refine v_iteB (fun h => ?_) (fun h => ?_)
      · walk_at "dw"
        exact ⟨ha, n1 h⟩
      · exact n2 h
    · rw [show ((n : Int) + 1).toNat = n + 1 by omega, filt_blk0]
      have mem : ∀ z ∈ (((List.range (n + 1)).map fun (k : Nat) => (k : Int)).filter fun z => !decide (z = 1 + (i : Int))), 0 ≤ z ∧ z ≤ n ∧ z ≠ i + 1 := fun z hz => by
        obtain ⟨h1, h2⟩ := List.mem_filter.mp hz
        obtain ⟨k, hk, rfl⟩ := List.mem_map.mp h1
        have := List.mem_range.mp hk
        have h2 : ¬ ((k : Int) = 1 + i) := by simpa using h2
        omega
      have len : (((List.range (n + 1)).map fun (k : Nat) => (k : Int)).filter fun z => !decide (z = 1 + (i : Int))).length ≤ n + 1 := by
        refine Nat.le_trans (List.length_filter_le _ _) ?_
        rw [List.length_map, List.length_range]
        exact Nat.le_refl _
      generalize (((List.range (n + 1)).map fun (k : Nat) => (k : Int)).filter fun z => !decide (z = 1 + (i : Int))) = L at *
      change nrm (.o (oL (L.map .int))) _
      walk_at "dw"
      refine a_addL (by rw [List.length_map]; show _ + 1 ≤ 1000; omega) ?_
      have all : ∀ d ∈ L.map D.int ++ [D.non], ∃ w : Option Int, d = upD w ∧ ∀ p, w = some p → 0 ≤ p ∧ p ≤ n ∧ p ≠ i + 1 := all_app (fun d hd => by
        obtain ⟨z, hz, rfl⟩ := List.mem_map.mp hd
        exact ⟨some z, rfl, fun p e => by cases e; exact mem z hz⟩) (all_cons ⟨none, rfl, fun p e => nomatch e⟩ all_nil)
      have len2 : 1 ≤ (L.map D.int ++ [D.non]).length ∧ (L.map D.int ++ [D.non]).length ≤ 100 := by
        rw [List.length_append, List.length_map]
        show 1 ≤ _ + 1 ∧ _ + 1 ≤ 100
        omega
      generalize L.map D.int ++ [D.non] = M at *
      walk_at "dw"
      refine e_draw ho (by omega) (by omega) fun r o1 ho1 r0 r1 => ?_
      walk_at "dw"
      obtain ⟨d, hd, at_⟩ := pick_mem r0 r1
      obtain ⟨w, rfl, hw⟩ := all d hd
      refine a_ixP rfl at_ ?_
      walk_at "dw"
      refine a_app rfl (by rw [List.length_map]; omega) ?_
      refine nx _ ⟨o1, us ++ [w], ho1, by rw [List.length_append, lu]; rfl, fun k p e => ?_, by rw [List.map_append]; rfl⟩
      by_cases hk : k < us.length
      · rw [List.getElem?_append_left hk] at e
        exact hu k p e
      · rw [List.getElem?_append_right (by omega)] at e
        have k0 : k - us.length = 0 := by
          have := (List.getElem?_eq_some_iff.mp e).1
          rw [List.length_singleton] at this
          omega
        rw [k0] at e
        have := hw p (Option.some.inj e)
        omega
  · clear ho
    clear o
    rw [rgD_len]
    rintro e ⟨o, us, ho, lu, hu, rfl⟩
    have lu : us.length = n := by omega
    walk_at "dw"
    refine a_rgb (by omega) ?_
    refine a_forI (fun i e => ∃ (o : O) (ls : List (List (Option Bool))), HandOk o ∧ ls.length = i ∧ (∀ r ∈ ls, r.length = n) ∧ (∀ (b : Nat) r, 1 ≤ b → ls[b]? = some r → r[b - 1]? = some (some false)) ∧
      e = [S.bo o, .ow (.fr (.int n)), .ow (oL (us.map upD)), .un, .un, .ow (oL (ls.map rowF)), .un, .un]) ⟨o, [], ho, rfl, (fun _ h => nomatch h), fun b r _ e => by simp at e, rfl⟩ ?_ ?_
    · clear ho
      clear o
      rintro i d e NX hd ⟨o, ls, ho, ll, lr, lf, rfl⟩ nx
      obtain ⟨hi, rfl⟩ := rgD_at hd
      rw [Int.zero_add]
      walk_at "dw"
      refine a_rgb (by omega) ?_
      refine a_lcI (fun k acc e => ∃ (o : O) (fs : List (Option Bool)), HandOk o ∧ fs.length = k ∧ acc = (fs.map flD).map .fr ∧ e = [S.bo o, .ow (.fr (.int n)), .ow (oL (us.map upD)), .un, .un, .ow (oL (ls.map rowF)), .ow (.fr (.int i)), .un]) ⟨o, [], ho, rfl, rfl, rfl⟩ ?_ ?_
      · clear ho
        clear o
        rintro k d acc e NX3 hk ⟨o, fs, ho, lf0, rfl, rfl⟩ n3
        have hk' := (List.getElem?_eq_some_iff.mp hk).1
        rw [rgD_len] at hk'
        refine ⟨by rfl, ?_⟩
        walk_at "dw"
        refine e_draw ho (by decide) (by decide) fun r o1 ho1 r0 r1 => ?_
        walk_at "dw"
        refine a_ixAny (Q := fun d => ∃ w : Option Bool, d = flD w) r0 r1 (by show (4 : Int) ≤ ((4 : Nat) : Int); decide) (all_cons ⟨some false, rfl⟩ (all_cons ⟨some false, rfl⟩ (all_cons ⟨some true, rfl⟩ (all_cons ⟨none, rfl⟩ all_nil)))) fun d hd => ?_
        obtain ⟨w, rfl⟩ := hd
        walk_at "dw"
        refine ⟨by rw [List.length_map, List.length_map]; exact small1000 (by omega), ?_⟩
        refine n3 _ _ ⟨o1, fs ++ [w], ho1, by rw [List.length_append, lf0]; rfl, by rw [List.map_append, List.map_append]; rfl, rfl⟩
      · clear ho
        clear o
        rw [rgD_len]
        rintro acc e ⟨o, fs, ho, lf0, rfl, rfl⟩
        have lf0 : fs.length = n := by omega
        change toO (.o (oL (fs.map flD))) _ _
        walk_at "dw"
        refine a_cut (fun e => ∃ fs : List (Option Bool), fs.length = n ∧ (1 ≤ i → fs[i - 1]? = some (some false)) ∧ e = [S.bo o, .ow (.fr (.int n)), .ow (oL (us.map upD)), .un, .un, .ow (oL (ls.map rowF)), .un, .ow (oL (fs.map flD))]) (fun NX2 nx2 => ?_) ?_
        · walk_at "dw"
          refine v_ite (fun hp => ?_) (fun hp => ?_)
          · walk_at "dw"
            refine a_subK (os := (fs.map flD).map .fr) (jj := i - 1) rfl (ixN_of (by omega) (by rw [List.length_map, List.length_map]; omega)) ?_
            refine nx2 _ ⟨fs.set (i - 1) (some false), by rw [List.length_set]; exact lf0, fun _ => List.getElem?_set_self (by omega), ?_⟩
            unfold oL
            rw [List.map_set, List.map_set]
            rfl
          · walk_at "dw"
            exact nx2 _ ⟨fs, lf0, fun h => absurd h (by omega), rfl⟩
        rintro e ⟨fs, lf0, f2, rfl⟩
        walk_at "dw"
        refine a_app rfl (by rw [List.length_map]; omega) ?_
        refine nx _ ⟨o, ls ++ [fs], ho, by rw [List.length_append, ll]; rfl, fun r hr => ?_, fun b r b1 e => ?_, by rw [List.map_append]; rfl⟩
        · rcases List.mem_append.mp hr with hr | hr
          · exact lr r hr
          · rw [List.mem_singleton.mp hr]; exact lf0
        · by_cases hb : b < ls.length
          · rw [List.getElem?_append_left hb] at e
            exact lf b r b1 e
          · have hb2 := (List.getElem?_eq_some_iff.mp e).1
            rw [List.length_append, List.length_singleton] at hb2
            have eb : b = i := by omega
            subst eb
            rw [List.getElem?_append_right (by omega), ll, Nat.sub_self] at e
            cases e
            exact f2 b1
    · clear ho
      clear o
      rw [rgD_len]
      rintro e ⟨o, ls, ho, ll, lr, lf, rfl⟩
      have ll : ls.length = n + 1 := by omega
      walk_at "dw"
      exact q us ls o ho ⟨lu, ll, lr, hu, lf⟩
theorem e_drawn {o : O} {m : Int} (ho : HandOk o) (m1 : 1 ≤ m) (m40 : m ≤ 40) (q : ∀ (n : Nat) us ls o', HandOk o' → 1 ≤ n → n ≤ 40 → WOk n us ls → P (.fr (.tup [upsD us, lstsD ls])) [o']) : D_l_drawn c [o, .fr (.int m)] P PE := by
  refine D_l_drawn_in ?_
  unfold B_l_drawn
  walk_at "dw"
  refine e_draw ho m1 (by omega) fun b o1 ho1 b0 b1 => ?_
  obtain ⟨n, hn⟩ : ∃ n : Nat, 1 + b = n := ⟨(1 + b).toNat, by omega⟩
  walk_at "dw"
  rw [hn]
  walk_at "dw"
  refine e_draw ho1 (by decide) (by decide) fun r o2 ho2 r0 r1 => ?_
  walk_at "dw"
  refine v_ite (fun h => ?_) (fun h => ?_)
  · walk_at "dw"
    refine e_any ho2 (by omega) (by omega) fun us ls o3 ho3 w => ?_
    walk_at "dw"
    exact q n us ls o3 ho3 (by omega) (by omega) w
  · walk_at "dw"
    refine e_tree ho2 (by omega) (by omega) fun hs o3 ho3 lh tr => ?_
    walk_at "dw"
    refine e_right (by omega) ?_
    walk_at "dw"
    refine e_draw ho3 (by decide) (by decide) fun k o4 ho4 k0 k1 => ?_
    walk_at "dw"
    rw [row_ups]
    refine e_worn ho4 (lh ▸ right_ok tr) (by omega) (by omega) k0 (by omega) fun us ls o5 ho5 w => ?_
    walk_at "dw"
    exact q n us ls o5 ho5 (by omega) (by omega) w
end

section
def D.isBl : D → Bool
  | .bl _ => true
  | _ => false
variable {d : D}
theorem isBl_kd : isKd d "bool" = d.isBl := by cases d <;> first | rfl | decide | (rename_i t kvs; cases t <;> rfl)
end
section
variable {P : R → DEnv → Prop} {DD : DEnds} {env : DEnv} {C : Addr} {f : Str} {i j : Nat} {db : DTS} {K : O → Prop} {d : D}
theorem oth_some {α : Type} {o : Option α} {x : α} {k : α → Prop} (e : o = some x) (h : k x) : oth o k := by
  subst e
  exact h
end
section
variable {c : Cl} {P : O → List O → Prop} {PE : DExc → List O → Prop} {K : O → Prop} {d x y z t : D} {xs ys : List D} {env : DEnv} {X : DX} {n : Nat}
theorem e_whole {lo hi : Int} (hp : PlainD [c.Tree, c.Words] d) (q : P (.fr (.bl (withinD lo hi d))) []) : D_l_is_whole c [.fr d, .fr (.int lo), .fr (.int hi)] P PE := by
  refine D_l_is_whole_in ?_
  unfold B_l_is_whole
  have e := @isKd_int d
  walk_at "dw"
  refine e_isi hp (.inl rfl) ?_
  walk_at "dw"
  cases h1 : isKd d "int" with
  | false =>
    have w : withinD lo hi d = false := by
      cases d <;> first | rfl | (rename_i t kvs; cases t <;> rfl) | cases h1
    rw [w] at q
    walk_at "dw"
    exact q
  | true =>
    walk_at "dw"
    refine e_isi hp (.inr (.inl rfl)) ?_
    rw [h1] at e
    cases h2 : isKd d "bool" with
    | true =>
      have w : withinD lo hi d = false := by
        cases d <;> first | rfl | (rename_i t kvs; cases t <;> rfl) | cases h2
      rw [w] at q
      walk_at "dw"
      exact q
    | false =>
      rw [h2] at e
      have : ∃ i, d = .int i := by
        cases d <;> first | exact ⟨_, rfl⟩ | cases e
      obtain ⟨i, rfl⟩ := this
      walk_at "dw"
      by_cases h : lo ≤ i
      · rw [decide_eq_true h]
        walk_at "dw"
        have e : withinD lo hi (.int i) = decide (i ≤ hi) := by
          show decide (lo ≤ i ∧ i ≤ hi) = _
          rw [Bool.eq_iff_iff]
          simp [h]
        rw [e] at q
        exact q
      · rw [decide_eq_false h]
        walk_at "dw"
        have e : withinD lo hi (.int i) = false := decide_eq_false fun z => h z.1
        rw [e] at q
        exact q
end
/-! ### alike through and through; words compared -/
section
noncomputable def eqB {α : Type} (x y : α) : Bool := @decide (x = y) (Classical.propDecidable _)
theorem eqB_eq {α : Type} {x y : α} (h : x = y) : eqB x y = true := @decide_eq_true _ (Classical.propDecidable _) h
theorem eqB_ne {α : Type} {x y : α} (h : x ≠ y) : eqB x y = false := @decide_eq_false _ (Classical.propDecidable _) h
theorem eqB_iff {α : Type} {x y : α} : eqB x y = true ↔ x = y := ⟨fun h => Classical.byContradiction fun n => (by rw [eqB_ne n] at h; cases h), eqB_eq⟩
theorem eqB_dec {α : Type} {x y : α} {p : Prop} [Decidable p] (h : x = y ↔ p) : eqB x y = decide p := by
  rw [Bool.eq_iff_iff, eqB_iff, decide_eq_true_iff, h]
theorem eqB_inj {α β : Type} {f : α → β} {x y : α} (h : f x = f y → x = y) : eqB x y = eqB (f x) (f y) := by
  rw [Bool.eq_iff_iff, eqB_iff, eqB_iff]
  exact ⟨fun e => by rw [e], h⟩
def leafD : D → Bool
  | .non => true
  | .bl _ => true
  | .int _ => true
  | .str s => SeqAt.shaped (.str s)
  | _ => false
def sqT (t : Bool) (xs : List D) : D := if t then .lst xs else .tup xs
def PrD : Nat → D → D → Prop
  | 0, d, e => leafD d = true ∧ leafD e = true
  | k + 1, d, e => (leafD d = true ∧ leafD e = true) ∨ ∃ t xs ys, d = sqT t xs ∧ e = sqT t ys ∧ xs.length ≤ 100 ∧ ys.length ≤ 100 ∧ ∀ (i : Nat) x y, xs[i]? = some x → ys[i]? = some y → PrD k x y
variable {c : Cl} {P : O → List O → Prop} {PE : DExc → List O → Prop} {K : O → Prop} {d e x y z t : D} {xs ys : List D} {env : DEnv} {X : DX} {n k : Nat} {us vs : List (Option Int)} {ls ms : List (List (Option Bool))}
theorem e_isi2 {Cs : List Addr} {d : D} {T U : String} {K : O → Prop} (hk : d.kind.isSome = true) (hT : okTy T) (hU : okTy U) (q : K (.fr (.bl (isKd d T || isKd d U)))) : dIsi Cs [d, .tup [.ty T, .ty U]] K := by
  show isiA Cs d (.tt T U) K
  unfold isiA
  rw [kind_cl hk]
  cases e : d.kind with
  | none => rw [e] at hk; cases hk
  | some s =>
    refine ⟨⟨hT, hU⟩, ?_⟩
    unfold isKd at q
    rw [e] at q
    exact q
theorem a_zip {dv : DTV} {env : DEnv} {PI : List D → DEnv → Prop} {X : DX} (h : dv env (fun ds env1 => match ds with
  | [.lst xs, .lst ys] => PI (zipD xs ys) env1
  | [.tup xs, .tup ys] => PI (zipD xs ys) env1
  | _ => False) X) : dZip dv env PI X := h
theorem leaf_eq (hd : leafD d = true) (he : leafD e = true) (h : d.isBl = e.isBl) (q : K (.fr (.bl (eqB d e)))) : dEq d e K := by
  cases d with
  | non =>
    cases e with
    | non => rw [eqB_eq rfl] at q; exact ⟨rfl, rfl, q⟩
    | int j => rw [eqB_ne (by simp)] at q; exact ⟨rfl, rfl, q⟩
    | str s => rw [eqB_ne (by simp)] at q; exact ⟨rfl, he, q⟩
    | bl b => cases h
    | _ => cases he
  | bl a =>
    cases e with
    | bl b =>
      rw [← eqB_inj (f := D.bl) (fun e => by injection e), eqB_dec (p := _ = _) Iff.rfl] at q
      exact a_eqB q
    | _ => first | cases h | cases he
  | int i =>
    cases e with
    | non => rw [eqB_ne (by simp)] at q; exact ⟨rfl, rfl, q⟩
    | int j =>
      rw [← eqB_inj (f := D.int) (fun e => by injection e), eqB_dec (p := _ = _) Iff.rfl] at q
      exact a_eqI q
    | str s => rw [eqB_ne (by simp)] at q; exact ⟨rfl, he, q⟩
    | bl b => cases h
    | _ => cases he
  | str s =>
    cases e with
    | non => rw [eqB_ne (by simp)] at q; exact ⟨hd, rfl, q⟩
    | int j => rw [eqB_ne (by simp)] at q; exact ⟨hd, rfl, q⟩
    | str u =>
      refine ⟨hd, he, ?_⟩
      rw [show PyData.eqv (.str s) (.str u) = (s == u) from rfl, show (s == u) = eqB (D.str s) (D.str u) by
        rw [← eqB_inj (f := D.str) (fun e => by injection e), Bool.eq_iff_iff, eqB_iff, beq_iff_eq]]
      exact q
    | bl b => cases h
    | _ => cases he
  | _ => cases hd
theorem e_isLeaf (hd : leafD d = true) (he : leafD e = true) (q : P (.fr (.bl (eqB d e))) []) : D_l_is c (k + 1) [.fr d, .fr e] P PE := by
  have kd : d.kind.isSome = true := by cases d <;> first | rfl | cases hd
  have ke : e.kind.isSome = true := by cases e <;> first | rfl | cases he
  refine D_l_is_in ?_
  unfold BB_l_is
  walk_at "dw"
  refine e_isi2 ke (.inr (.inr (.inl rfl))) (.inr (.inr (.inr (.inl rfl)))) ?_
  walk_at "dw"
  refine a_ifF (by cases e <;> first | rfl | cases he) ?_
  walk_at "dw"
  refine e_isi (.inl kd) (.inr (.inl rfl)) ?_
  walk_at "dw"
  refine e_isi (.inl ke) (.inr (.inl rfl)) ?_
  rw [isBl_kd, isBl_kd]
  walk_at "dw"
  by_cases h : d.isBl = e.isBl
  · rw [decide_eq_true h]
    walk_at "dw"
    refine leaf_eq hd he h ?_
    walk_at "dw"
    exact q
  · rw [decide_eq_false h]
    rw [eqB_ne fun z => h (by rw [z])] at q
    walk_at "dw"
    exact q
noncomputable def prB : D → Bool
  | .tup [x, y] => eqB x y
  | _ => true
noncomputable def prE (d : D) : D := .bl (prB d)
theorem zip_all : ∀ {xs ys : List D}, xs.length = ys.length → ((zipD xs ys).map prB).all id = eqB xs ys
  | [], [], _ => (eqB_eq rfl).symm
  | x :: xs, y :: ys, h => by
    show (eqB x y && ((zipD xs ys).map prB).all id) = _
    rw [zip_all (xs := xs) (ys := ys) (by simpa using h), Bool.eq_iff_iff, Bool.and_eq_true, eqB_iff, eqB_iff, eqB_iff, List.cons.injEq]
  | [], _ :: _, h => by cases h
  | _ :: _, [], h => by cases h
theorem e_isSeq (t : Bool) (l1 : xs.length ≤ 100) (l2 : ys.length ≤ 100) (hr : ∀ (i : Nat) x y, xs[i]? = some x → ys[i]? = some y → ∀ (P : O → List O → Prop) (PE : DExc → List O → Prop), P (.fr (.bl (eqB x y))) [] → D_l_is c k [.fr x, .fr y] P PE) (q : P (.fr (.bl (eqB (sqT t xs) (sqT t ys)))) []) : D_l_is c (k + 1) [.fr (sqT t xs), .fr (sqT t ys)] P PE := by
  cases t with
  | true =>
    rw [show sqT true xs = D.lst xs from rfl, show sqT true ys = D.lst ys from rfl] at q ⊢
    refine D_l_is_in ?_
    unfold BB_l_is
    walk_at "dw"
    refine e_isi2 rfl (.inr (.inr (.inl rfl))) (.inr (.inr (.inr (.inl rfl)))) ?_
    walk_at "dw"
    refine a_ifT rfl ?_
    walk_at "dw"
    refine e_isi (.inl rfl) (.inr (.inr (.inl rfl))) ?_
    walk_at "dw"
    refine e_isi (.inl rfl) (.inr (.inr (.inl rfl))) ?_
    walk_at "dw"
    refine a_ifF rfl ?_
    walk_at "dw"
    refine e_isi2 rfl (.inr (.inr (.inl rfl))) (.inr (.inr (.inr (.inl rfl)))) ?_
    walk_at "dw"
    refine a_ifF rfl ?_
    walk_at "dw"
    by_cases l : xs.length = ys.length
    · rw [decide_eq_true (by rw [l])]
      walk_at "dw"
      refine a_zip ?_
      walk_at "dw"
      have lz : (zipD xs ys).length < 1000 := by
        unfold zipD
        rw [List.length_zipWith]
        omega
      refine a_lcM prE lz (fun m d acc NX3 hm ha n3 => ?_) ?_
      · obtain ⟨x, y, ex, ey, rfl⟩ := zipD_at hm
        refine ⟨by rfl, ?_⟩
        walk_at "dw"
        refine hr m x y ex ey _ _ ?_
        walk_at "dw"
        exact ⟨ha, n3⟩
      · change oth (peekL [.o (oL ((zipD xs ys).map prE))] _) _
        walk_at "dw"
        refine a_allE (bs := (zipD xs ys).map prB) (by rw [← asBls_map, List.map_map]; rfl) ?_
        rw [zip_all l, show eqB xs ys = eqB (D.lst xs) (D.lst ys) from eqB_inj fun e => by injection e]
        walk_at "dw"
        exact q
    · rw [decide_eq_false (by omega)]
      walk_at "dw"
      rw [show eqB (D.lst xs) (D.lst ys) = false from eqB_ne fun e => l (by injection e with e; rw [e])] at q
      exact q
  | false =>
    rw [show sqT false xs = D.tup xs from rfl, show sqT false ys = D.tup ys from rfl] at q ⊢
    refine D_l_is_in ?_
    unfold BB_l_is
    walk_at "dw"
    refine e_isi2 rfl (.inr (.inr (.inl rfl))) (.inr (.inr (.inr (.inl rfl)))) ?_
    walk_at "dw"
    refine a_ifT rfl ?_
    walk_at "dw"
    refine e_isi (.inl rfl) (.inr (.inr (.inl rfl))) ?_
    walk_at "dw"
    refine e_isi (.inl rfl) (.inr (.inr (.inl rfl))) ?_
    walk_at "dw"
    refine a_ifF rfl ?_
    walk_at "dw"
    refine e_isi2 rfl (.inr (.inr (.inl rfl))) (.inr (.inr (.inr (.inl rfl)))) ?_
    walk_at "dw"
    refine a_ifF rfl ?_
    walk_at "dw"
    by_cases l : xs.length = ys.length
    · rw [decide_eq_true (by rw [l])]
      walk_at "dw"
      refine a_zip ?_
      walk_at "dw"
      have lz : (zipD xs ys).length < 1000 := by
        unfold zipD
        rw [List.length_zipWith]
        omega
      refine a_lcM prE lz (fun m d acc NX3 hm ha n3 => ?_) ?_
      · obtain ⟨x, y, ex, ey, rfl⟩ := zipD_at hm
        refine ⟨by rfl, ?_⟩
        walk_at "dw"
        refine hr m x y ex ey _ _ ?_
        walk_at "dw"
        exact ⟨ha, n3⟩
      · change oth (peekL [.o (oL ((zipD xs ys).map prE))] _) _
        walk_at "dw"
        refine a_allE (bs := (zipD xs ys).map prB) (by rw [← asBls_map, List.map_map]; rfl) ?_
        rw [zip_all l, show eqB xs ys = eqB (D.tup xs) (D.tup ys) from eqB_inj fun e => by injection e]
        walk_at "dw"
        exact q
    · rw [decide_eq_false (by omega)]
      walk_at "dw"
      rw [show eqB (D.tup xs) (D.tup ys) = false from eqB_ne fun e => l (by injection e with e; rw [e])] at q
      exact q
theorem e_is : ∀ (k : Nat) (d e : D) (P : O → List O → Prop) (PE : DExc → List O → Prop), PrD k d e → P (.fr (.bl (eqB d e))) [] → D_l_is c (k + 1) [.fr d, .fr e] P PE
  | 0, d, e, P, PE, h, q => e_isLeaf h.1 h.2 q
  | k + 1, d, e, P, PE, h, q => by
    rcases h with h | ⟨t, xs, ys, rfl, rfl, l1, l2, hr⟩
    · exact e_isLeaf h.1 h.2 q
    · exact e_isSeq t l1 l2 (fun i x y ex ey P PE q => e_is k x y P PE (hr i x y ex ey) q) q
/-! which things are compared -/
theorem pr_leaf (h1 : leafD d = true) (h2 : leafD e = true) : PrD k d e := by
  cases k with
  | zero => exact ⟨h1, h2⟩
  | succ k => exact .inl ⟨h1, h2⟩
theorem pr_ups (h1 : us.length ≤ 100) (h2 : vs.length ≤ 100) : PrD (k + 1) (upsD us) (upsD vs) :=
  .inr ⟨false, _, _, rfl, rfl, by rw [List.length_map]; exact h1, by rw [List.length_map]; exact h2, fun i x y ex ey => by
    rw [List.getElem?_map, Option.map_eq_some_iff] at ex ey
    obtain ⟨a, _, rfl⟩ := ex
    obtain ⟨b, _, rfl⟩ := ey
    refine pr_leaf ?_ ?_
    · cases a <;> rfl
    · cases b <;> rfl⟩
theorem pr_row {r s : List (Option Bool)} (h1 : r.length ≤ 100) (h2 : s.length ≤ 100) : PrD (k + 1) (rowF r) (rowF s) :=
  .inr ⟨false, _, _, rfl, rfl, by rw [List.length_map]; exact h1, by rw [List.length_map]; exact h2, fun i x y ex ey => by
    rw [List.getElem?_map, Option.map_eq_some_iff] at ex ey
    obtain ⟨a, _, rfl⟩ := ex
    obtain ⟨b, _, rfl⟩ := ey
    refine pr_leaf ?_ ?_
    · cases a <;> rfl
    · cases b <;> rfl⟩
theorem pr_lsts {m : Nat} (w : WOk n us ls) (w' : WOk m vs ms) (hn : n ≤ 99) (hm : m ≤ 99) : PrD (k + 2) (lstsD ls) (lstsD ms) :=
  .inr ⟨false, _, _, rfl, rfl, by rw [List.length_map, w.ll]; omega, by rw [List.length_map, w'.ll]; omega, fun i x y ex ey => by
    rw [List.getElem?_map, Option.map_eq_some_iff] at ex ey
    obtain ⟨a, ea, rfl⟩ := ex
    obtain ⟨b, eb, rfl⟩ := ey
    have := w.lr a (List.mem_of_getElem? ea)
    have := w'.lr b (List.mem_of_getElem? eb)
    exact pr_row (by omega) (by omega)⟩
theorem pr_cons {x y : D} {xs ys : List D} {k : Nat} (h : PrD k x y) (t : ∀ (i : Nat) x y, xs[i]? = some x → ys[i]? = some y → PrD k x y) : ∀ (i : Nat) a b, (x :: xs)[i]? = some a → (y :: ys)[i]? = some b → PrD k a b
  | 0, a, b, ea, eb => by
    cases ea
    cases eb
    exact h
  | i + 1, a, b, ea, eb => t i a b ea eb
theorem pr_nil {k : Nat} : ∀ (i : Nat) a b, ([] : List D)[i]? = some a → ([] : List D)[i]? = some b → PrD k a b := fun i a b ea => by simp at ea
end

/-! ### other things -/
section
variable {c : Cl} {P : O → List O → Prop} {PE : DExc → List O → Prop} {K : O → Prop} {d e x y z t w : D} {xs ys : List D} {env : DEnv} {X : DX} {n m : Nat} {us vs : List (Option Int)} {ls ms : List (List (Option Bool))}
theorem a_disp1 {dk dv : DTE} {PR : R → DEnv → Prop} (h : dk env (fun q env1 => force q env1 fun e env2 => dv env2 (fun q2 env3 => force q2 env3 fun z env4 => oth e.keyS fun k => PR (.o (.dct false [([k], .fr z)])) env4) X) X) : dDisp1 dk dv env PR X := h
theorem a_forceDctM {tt : Bool} {kos : List (List Key × O)} {KD : D → DEnv → Prop} (h : KD (.dct tt (O.frzM kos)) env) : force (.o (.dct tt kos)) env KD := h
theorem e_deep {o : O} (ho : HandOk o) (q : ∀ d o', HandOk o' → PlA [c.Tree, c.Words] d → d.cl = none → P (.fr d) [o']) : D_l_deep c [o] P PE := by
  refine D_l_deep_in ?_
  unfold B_l_deep
  walk_at "dw"
  refine a_I1 ?_
  walk_at "dw"
  refine a_dct0 (a_forceDct ?_)
  walk_at "dw"
  refine e_draw ho (by decide) (by decide) fun r o1 ho1 r0 r1 => ?_
  walk_at "dw"
  refine a_ixAny (Q := fun d => PlA [c.Tree, c.Words] d ∧ d.cl = none) r0 r1 (by show (4 : Int) ≤ ((4 : Nat) : Int); decide) (all_cons ⟨.non, rfl⟩ (all_cons ⟨.str, rfl⟩ (all_cons ⟨.int, rfl⟩ (all_cons ⟨.dct, rfl⟩ all_nil)))) fun d hd => ?_
  obtain ⟨p1, c1⟩ := hd
  walk_at "dw"
  refine e_draw ho1 (by decide) (by decide) fun k o2 ho2 k0 k1 => ?_
  walk_at "dw"
  refine a_rgb (by omega) ?_
  refine a_forI (fun i e => ∃ (o : O) (d : D), HandOk o ∧ PlA [c.Tree, c.Words] d ∧ d.cl = none ∧ e = [S.bo o, .ow (.fr d), .un]) ⟨o2, d, ho2, p1, c1, rfl⟩ ?_ ?_
  · rintro i d0 e NX hd ⟨o, x, ho, px, cx, rfl⟩ nx
    walk_at "dw"
    refine a_disp1 ?_
    walk_at "dw"
    refine oth_some (x := .inl 0) rfl ?_
    refine a_forceDctM ?_
    walk_at "dw"
    have pc : PlA [c.Tree, c.Words] (.tup (cutD [x, x] none (some 1))) := .tup (pl_take (all_cons px (all_cons px all_nil)))
    generalize cutD [x, x] none (some 1) = u at *
    refine e_draw ho (by decide) (by decide) fun r o1 ho1 r0 r1 => ?_
    walk_at "dw"
    refine a_ixAny (Q := fun d => PlA [c.Tree, c.Words] d ∧ d.cl = none) r0 r1 (by show (4 : Int) ≤ ((4 : Nat) : Int); decide) (all_cons ⟨.cons px .tup0, rfl⟩ (all_cons ⟨.lst, rfl⟩ (all_cons ⟨pc, rfl⟩ (all_cons ⟨.dct, rfl⟩ all_nil)))) fun d hd => ?_
    walk_at "dw"
    exact nx _ ⟨o1, d, ho1, hd.1, hd.2, rfl⟩
  · rintro e ⟨o, x, ho, px, cx, rfl⟩
    walk_at "dw"
    exact q x o ho px cx
end

section
variable {c : Cl} {P : O → List O → Prop} {PE : DExc → List O → Prop} {hs ks : List Int} {K : O → Prop} {ds : List D} {n : Nat} {us : List (Option Int)} {ls : List (List (Option Bool))} {b p : Int}
def wat (ls : List (List (Option Bool))) (b : Int) (k : Nat) : Option Bool := (ls.getD k []).getD (b.toNat - 1) none
def say (us : List (Option Int)) (b : Int) : Option Int := us.getD (b.toNat - 1) none
def isW {α : Type} [DecidableEq α] (w : Option α) (x : α) : Bool := decide (w ≠ none ∧ w ≠ some x)
def cnt (b : Bool) : Int := if b = true then 1 else 0
def wrongN (ls : List (List (Option Bool))) (b p : Int) : Nat → Int
  | 0 => 0
  | i + 1 => wrongN ls b p i + cnt (isW (wat ls b i) (decide ((i : Int) = p)))
def costT (us : List (Option Int)) (ls : List (List (Option Bool))) (b p : Int) : Int := cnt (isW (say us b) p) + wrongN ls b p ls.length
theorem wat_at {r : List (Option Bool)} {k : Nat} (w : WOk n us ls) (b0 : 1 ≤ b) (b1 : b ≤ n) (e : ls[k]? = some r) : atI (r.map flD) (b - 1) = some (flD (wat ls b k)) := by
  have lr := w.lr r (List.mem_of_getElem? e)
  have hb : b.toNat - 1 < r.length := by omega
  refine atI_of (jj := b.toNat - 1) (by omega) ?_
  unfold wat
  rw [show ls.getD k [] = r by rw [List.getD_eq_getElem?_getD, e]; rfl, List.getElem?_map, List.getElem?_eq_getElem hb]
  show _ = some (flD (r.getD (b.toNat - 1) none))
  rw [List.getD_eq_getElem?_getD, List.getElem?_eq_getElem hb]
  rfl
theorem say_at (w : WOk n us ls) (b0 : 1 ≤ b) (b1 : b ≤ n) : atI (us.map upD) (b - 1) = some (upD (say us b)) := by
  have hb : b.toNat - 1 < us.length := by rw [w.lu]; omega
  refine atI_of (jj := b.toNat - 1) (by omega) ?_
  unfold say
  rw [List.getElem?_map, List.getElem?_eq_getElem hb, List.getD_eq_getElem?_getD, List.getElem?_eq_getElem hb]
  rfl
end
/-! ### the program's costs -/
section
variable {c : Cl} {P : O → List O → Prop} {PE : DExc → List O → Prop} {hs ks : List Int} {K : O → Prop} {ds : List D} {n : Nat} {us : List (Option Int)} {ls : List (List (Option Bool))} {b p : Int}
def trueN (ls : List (List (Option Bool))) (b : Int) : Nat → Int
  | 0 => 0
  | i + 1 => trueN ls b i + cnt (decide (wat ls b i = some true))
def col (ls : List (List (Option Bool))) (b : Int) : List (Option Bool) := ls.map fun r => r.getD (b.toNat - 1) none
theorem col_at {k : Nat} (h : k < ls.length) : (col ls b)[k]? = some (wat ls b k) := by
  unfold col wat
  rw [List.getElem?_map, List.getElem?_eq_getElem h, show ls.getD k [] = ls[k] by rw [List.getD_eq_getElem?_getD, List.getElem?_eq_getElem h]; rfl]
  rfl
def isTr : D → Bool
  | .bl b => b
  | _ => false
theorem true_len : ∀ i, i ≤ ls.length → ((((((col ls b).take i).map flD).filter isTr).length : Nat) : Int) = trueN ls b i
  | 0, _ => rfl
  | i + 1, h => by
    have ih := true_len i (by omega)
    have tk : (col ls b).take (i + 1) = (col ls b).take i ++ [wat ls b i] := take_snoc (col_at (by omega))
    rw [tk, List.map_append, List.filter_append, List.length_append]
    show _ = trueN ls b i + cnt (decide (wat ls b i = some true))
    rw [← ih]
    cases hw : wat ls b i with
    | none => rfl
    | some f => cases f <;> rfl
theorem wrong_true (p0 : 0 ≤ p) : ∀ i, wrongN ls b p i = trueN ls b i + if p < (i : Int) then cnt (decide (wat ls b p.toNat = some false)) - cnt (decide (wat ls b p.toNat = some true)) else 0
  | 0 => by
    rw [if_neg (by omega)]
    rfl
  | i + 1 => by
    show wrongN ls b p i + cnt (isW (wat ls b i) (decide ((i : Int) = p))) = trueN ls b i + cnt (decide (wat ls b i = some true)) + _
    rw [wrong_true p0 i]
    by_cases h : (i : Int) = p
    · have ei : p.toNat = i := by omega
      rw [if_neg (by omega), if_pos (by omega), ei, decide_eq_true h]
      have : cnt (isW (wat ls b i) true) = cnt (decide (wat ls b i = some false)) := by
        cases wat ls b i with
        | none => rfl
        | some f => cases f <;> rfl
      rw [this]
      omega
    · rw [decide_eq_false h]
      have : cnt (isW (wat ls b i) false) = cnt (decide (wat ls b i = some true)) := by
        cases wat ls b i with
        | none => rfl
        | some f => cases f <;> rfl
      rw [this]
      by_cases h2 : p < (i : Int)
      · rw [if_pos h2, if_pos (by omega)]
        omega
      · rw [if_neg h2, if_neg (by omega)]
        omega
theorem cost_at {k : Nat} (h : k < ls.length) : costT us ls b k = cnt (isW (say us b) (k : Int)) + cnt (decide (wat ls b k = some false)) + (trueN ls b ls.length - cnt (decide (wat ls b k = some true))) := by
  unfold costT
  rw [wrong_true (by omega), if_pos (by omega), show ((k : Int)).toNat = k by omega]
  omega
def wordsD (c : Cl) (n : Nat) (us : List (Option Int)) (ls : List (List (Option Bool))) : D := .ins c.Words [("blocks", .int n), ("ups", upsD us), ("lists", lstsD ls)]
def costD (us : List (Option Int)) (ls : List (List (Option Bool))) (b : Int) (k : Nat) : D := if (k : Int) = b then .non else .int (costT us ls b k)
def costsD (us : List (Option Int)) (ls : List (List (Option Bool))) (b : Int) (n : Nat) : List D := (List.range n).map (costD us ls b)
theorem e_raw (w : WOk n us ls) (n40 : n ≤ 40) (b0 : 1 ≤ b) (b1 : b ≤ n) (q : P (oL (costsD us ls b (n + 1))) []) : D_raw_costs c [.fr (wordsD c n us ls), .fr (.int b)] P PE := by
  refine D_raw_costs_in ?_
  unfold B_raw_costs wordsD
  have ll := w.ll
  walk_at "dw"
  refine a_ixT (say_at w b0 b1) ?_
  walk_at "dw"
  unfold lstsD
  refine a_lcM (fun d => match d with
    | .tup r => (atI r (b - 1)).getD .non
    | d => d) (by rw [List.length_map]; omega) (fun m d acc NX3 hm ha n3 => ?_) ?_
  · rw [List.getElem?_map] at hm
    cases er : ls[m]? with
    | none => rw [er] at hm; cases hm
    | some r =>
      rw [er] at hm
      cases hm
      have at_ := wat_at w b0 b1 er
      refine ⟨by rfl, ?_⟩
      unfold rowF at n3 ⊢
      walk_at "dw"
      refine a_ixT at_ ?_
      walk_at "dw"
      refine ⟨ha, ?_⟩
      dsimp only at n3
      rw [at_] at n3
      exact n3
  have ec : (ls.map rowF).map (fun d => match d with
    | .tup r => (atI r (b - 1)).getD .non
    | d => d) = (col ls b).map flD := by
    refine List.ext_getElem? fun k => ?_
    rw [List.getElem?_map, List.getElem?_map, List.getElem?_map]
    by_cases hk : k < ls.length
    · rw [List.getElem?_eq_getElem hk, col_at hk]
      show some ((atI (ls[k].map flD) (b - 1)).getD .non) = _
      rw [wat_at w b0 b1 (List.getElem?_eq_getElem hk)]
      rfl
    · rw [List.getElem?_eq_none (by omega), List.getElem?_eq_none (by unfold col; rw [List.length_map]; omega)]
      rfl
  rw [ec]
  change toO (.o (oL ((col ls b).map flD))) _ _
  have lc : (col ls b).length = ls.length := by unfold col; rw [List.length_map]
  have el := true_len (ls := ls) (b := b) ls.length (Nat.le_refl _)
  rw [List.take_of_length_le (by omega)] at el
  walk_at "dw"
  refine a_cut (fun e => e = [.un, .ow (.fr (.int b)), .ow (.fr (upD (say us b))), .ow (.fr (.lst ((col ls b).map flD))), .ow (.fr (.int (trueN ls b ls.length))), .un, .un, .un, .un, .un]) (fun NX nx => ?_) ?_
  · walk_at "dw"
    refine a_lcF isTr (by rw [List.length_map]; omega) (fun m d acc NX3 hm ha n1 n2 => ⟨by rfl, ?_⟩) ?_
    · rw [List.getElem?_map] at hm
      cases er : (col ls b)[m]? with
      | none => rw [er] at hm; cases hm
      | some r =>
        rw [er] at hm
        cases hm
        walk_at "dw"
        refine a_isFl ?_
        walk_at "dw"
        refine v_ite (fun h => ?_) (fun h => ?_)
        · walk_at "dw"
          exact ⟨ha, n1 (by rw [h]; rfl)⟩
        · refine n2 ?_
          cases r with
          | none => rfl
          | some f =>
            cases f with
            | true => exact absurd rfl h
            | false => rfl
    · walk_at "dw"
      rw [el]
      exact nx _ rfl
  rintro e rfl
  walk_at "dw"
  refine a_enumA ?_
  walk_at "dw"
  refine a_forI (fun i e => e = [.un, .ow (.fr (.int b)), .ow (.fr (upD (say us b))), .un, .ow (.fr (.int (trueN ls b ls.length))), .ow (oL (costsD us ls b i)), .un, .un, .un, .un]) rfl ?_ ?_
  · rintro i d e NX hd rfl nx
    rw [enumD_at, List.getElem?_map] at hd
    cases ex : (col ls b)[i]? with
    | none => rw [ex] at hd; cases hd
    | some r =>
      have hi := (List.getElem?_eq_some_iff.mp ex).1
      have er : r = wat ls b i := by
        rw [col_at (by omega)] at ex
        exact (Option.some.inj ex).symm
      rw [ex] at hd
      cases hd
      have ca := cost_at (us := us) (b := b) (show i < ls.length by omega)
      rw [← er] at ca
      rw [Nat.zero_add]
      walk_at "dw"
      refine a_cut (fun e => e = [.un, .ow (.fr (.int b)), .ow (.fr (upD (say us b))), .un, .ow (.fr (.int (trueN ls b ls.length))), .ow (oL (costsD us ls b i)), .ow (.fr (.int i)), .ow (.fr (flD r)), .ow (.fr (.int (cnt (isW (say us b) (i : Int))))), .un]) (fun NX2 nx2 => ?_) ?_
      · cases hs : say us b with
        | none =>
          walk_at "dw"
          refine a_ifF rfl ?_
          walk_at "dw"
          exact nx2 _ (by rw [hs]; rfl)
        | some s =>
          walk_at "dw"
          refine a_ifT rfl ?_
          walk_at "dw"
          refine a_neUp ?_
          have ew : isW (some s) (i : Int) = !decide (some s = some (i : Int)) := by
            unfold isW
            rw [Bool.eq_iff_iff]
            simp
          walk_at "dw"
          refine v_iteN (fun h => ?_) (fun h => ?_)
          · walk_at "dw"
            exact nx2 _ (by rw [hs, ew, decide_eq_false h]; rfl)
          · walk_at "dw"
            exact nx2 _ (by rw [hs, ew, decide_eq_true h]; rfl)
      rintro e rfl
      refine a_cut (fun e => e = [.un, .ow (.fr (.int b)), .ow (.fr (upD (say us b))), .un, .ow (.fr (.int (trueN ls b ls.length))), .ow (oL (costsD us ls b i)), .ow (.fr (.int i)), .ow (.fr (flD r)), .ow (.fr (.int (cnt (isW (say us b) (i : Int)) + cnt (decide (r = some false))))), .un]) (fun NX2 nx2 => ?_) ?_
      · unfold dAug
        walk_at "dw"
        refine a_isFl ?_
        walk_at "dw"
        refine v_ite (fun h => ?_) (fun h => ?_)
        · walk_at "dw"
          exact nx2 _ (by rw [decide_eq_true h]; rfl)
        · walk_at "dw"
          exact nx2 _ (by rw [decide_eq_false h]; rfl)
      rintro e rfl
      refine a_cut (fun e => e = [.un, .ow (.fr (.int b)), .ow (.fr (upD (say us b))), .un, .ow (.fr (.int (trueN ls b ls.length))), .ow (oL (costsD us ls b i)), .ow (.fr (.int i)), .un, .ow (.fr (.int (costT us ls b i))), .un]) (fun NX2 nx2 => ?_) ?_
      · unfold dAug
        walk_at "dw"
        refine a_isFl ?_
        walk_at "dw"
        refine v_ite (fun h => ?_) (fun h => ?_)
        · walk_at "dw"
          refine nx2 _ ?_
          rw [ca, decide_eq_true h]
          rfl
        · walk_at "dw"
          refine nx2 _ ?_
          rw [ca, decide_eq_false h, show cnt false = 0 from rfl, Int.sub_zero]
          rfl
      rintro e rfl
      have lcs : (costsD us ls b i).length = i := by unfold costsD; rw [List.length_map, List.length_range]
      have su : costsD us ls b (i + 1) = costsD us ls b i ++ [costD us ls b i] := by
        unfold costsD
        rw [List.range_succ, List.map_append]
        rfl
      walk_at "dw"
      refine v_iteN (fun h => ?_) (fun h => ?_)
      · walk_at "dw"
        refine a_app rfl (by omega) ?_
        refine nx _ ?_
        rw [su, show costD us ls b i = .int (costT us ls b i) from if_neg h]
        rfl
      · walk_at "dw"
        refine a_app rfl (by omega) ?_
        refine nx _ ?_
        rw [su, show costD us ls b i = .non from if_pos h]
        rfl
  · rw [enumD_len, List.length_map, lc, ll]
    rintro e rfl
    walk_at "dw"
    exact q
end

section
variable {c : Cl} {P : O → List O → Prop} {PE : DExc → List O → Prop} {hs ks : List Int} {K : O → Prop} {ds : List D} {n : Nat} {us : List (Option Int)} {ls : List (List (Option Bool))} {b p : Int}
theorem costs_at {k : Int} (k0 : 0 ≤ k) (k1 : k ≤ n) : atI (costsD us ls b (n + 1)) k = some (costD us ls b k.toNat) := by
  refine atI_of (jj := k.toNat) (by omega) ?_
  unfold costsD
  rw [List.getElem?_map, List.getElem?_range (by omega)]
  rfl
theorem costD_ne {k : Int} (k0 : 0 ≤ k) (ne : k ≠ b) : costD us ls b k.toNat = .int (costT us ls b k) := by
  unfold costD
  rw [if_neg (by omega), show ((k.toNat : Nat) : Int) = k by omega]
def tots (us : List (Option Int)) (ls : List (List (Option Bool))) (hs : List Int) : List Int := (List.range hs.length).map fun (k : Nat) => costT us ls ((k : Int) + 1) (stp hs ((k : Int) + 1))
def totF (us : List (Option Int)) (ls : List (List (Option Bool))) : D → D
  | .tup [.int k, .int h] => .int (costT us ls (k + 1) h)
  | d => d
theorem enum_tots : (enumD 0 (hs.map D.int)).map (totF us ls) = (tots us ls hs).map .int := by
  refine List.ext_getElem? fun k => ?_
  unfold tots
  rw [List.getElem?_map, List.getElem?_map, List.getElem?_map, enumD_at, List.getElem?_map, Nat.zero_add]
  by_cases hk : k < hs.length
  · rw [List.getElem?_eq_getElem hk, List.getElem?_range hk]
    show some (D.int (costT us ls ((k : Int) + 1) hs[k])) = some (D.int (costT us ls ((k : Int) + 1) (stp hs ((k : Int) + 1))))
    rw [stp_at (List.getElem?_eq_getElem hk)]
  · rw [List.getElem?_eq_none (by omega), List.getElem?_eq_none (by rw [List.length_range]; omega)]
    rfl
theorem enum_row {m : Nat} {d : D} (h : (enumD 0 (hs.map D.int))[m]? = some d) : ∃ x, hs[m]? = some x ∧ d = .tup [.int m, .int x] := by
  rw [enumD_at, List.getElem?_map, Nat.zero_add] at h
  cases ex : hs[m]? with
  | none => rw [ex] at h; cases h
  | some x =>
    rw [ex] at h
    exact ⟨x, rfl, (Option.some.inj h).symm⟩
theorem e_rawWrong (w : WOk n us ls) (tr : IsTree hs) (l : hs.length = n) (q : P (.fr (.int (tots us ls hs).sum)) []) : D_raw_wrong_words c [.fr (wordsD c n us ls), .fr (rowD hs)] P PE := by
  refine D_raw_wrong_words_in ?_
  unfold B_raw_wrong_words
  have l40 := tr.2.1
  walk_at "dw"
  refine a_enumA ?_
  walk_at "dw"
  refine a_lcM (totF us ls) (by rw [enumD_len, List.length_map]; omega) (fun m d acc NX3 hm ha n3 => ?_) ?_
  · obtain ⟨x, ex, rfl⟩ := enum_row hm
    have hi := (List.getElem?_eq_some_iff.mp ex).1
    have xr := tr.2.2.1 x (List.mem_of_getElem? ex)
    have xn := tr.2.2.2.1 m x ex
    refine ⟨by rfl, ?_⟩
    walk_at "dw"
    refine e_raw w (by omega) (by omega) (by omega) ?_
    walk_at "dw"
    refine a_ixN (a := dC .non) rfl (d := .int (costT us ls ((m : Int) + 1) x)) (by rw [costs_at xr.1 (by omega), costD_ne xr.1 xn]) ?_
    walk_at "dw"
    exact ⟨ha, n3⟩
  · rw [enum_tots]
    walk_at "dw"
    refine a_sumE (asInts_map _) ?_
    walk_at "dw"
    exact q
theorem e_checkUps (w : WOk n us ls) (n40 : n ≤ 40) (q : P (.fr .non) []) : D_check_ups c [.fr (.int n), .fr (upsD us)] P PE := by
  refine D_check_ups_in ?_
  unfold B_check_ups upsD
  have lu := w.lu
  walk_at "dw"
  refine e_isi .tup (.inr (.inr (.inl rfl))) ?_
  rw [show isKd (.tup (us.map upD)) "tuple" = true from rfl]
  walk_at "dw"
  refine a_ifF (by rw [List.length_map, lu, decide_eq_true rfl]; rfl) ?_
  walk_at "dw"
  refine a_rgb2 (by omega) ?_
  refine a_forI (fun k e => e = [S.ow (.fr (.int n)), .ow (.fr (.tup (us.map upD))), .un, .un]) rfl ?_ ?_
  · rintro k d e NX hd rfl nx
    obtain ⟨hk, rfl⟩ := rgD_at hd
    have hk2 : k < us.length := by omega
    walk_at "dw"
    refine a_ixT (d := upD us[k]) (atI_of (jj := k) (by omega) (by rw [List.getElem?_map, List.getElem?_eq_getElem hk2]; rfl)) ?_
    cases hu : us[k] with
    | none =>
      walk_at "dw"
      refine a_ifF rfl ?_
      walk_at "dw"
      exact nx _ rfl
    | some p =>
      have pr := w.u k p (by rw [List.getElem?_eq_getElem hk2, hu])
      walk_at "dw"
      refine a_ifT rfl ?_
      walk_at "dw"
      refine e_within .int ?_
      rw [show withinD 0 (n : Int) (upD (some p)) = true from decide_eq_true ⟨pr.1, pr.2.1⟩]
      walk_at "dw"
      refine a_eqUp ?_
      walk_at "dw"
      refine a_ifF (decide_eq_false (fun z => by have := Option.some.inj z; omega)) ?_
      walk_at "dw"
      exact nx _ rfl
  · rintro e rfl
    walk_at "dw"
    exact q
end
section
variable {c : Cl} {P : O → List O → Prop} {PE : DExc → List O → Prop} {hs ks : List Int} {K : O → Prop} {ds : List D} {n : Nat} {us : List (Option Int)} {ls : List (List (Option Bool))} {b p : Int}
theorem e_flag {f : Bool} (q : P (.fr (.bl true)) []) : D_is_flag c [.fr (.bl f)] P PE := by
  refine D_is_flag_in ?_
  unfold B_is_flag
  walk_at "dw"
  refine e_isi (.inl rfl) (.inr (.inl rfl)) ?_
  walk_at "dw"
  exact q
theorem rows_at {k : Nat} (w : WOk n us ls) (h : k < n + 1) : ∃ r, ls[k]? = some r ∧ r.length = n ∧ atI (ls.map rowF) (k : Int) = some (.tup (r.map flD)) := by
  have h' : k < ls.length := by rw [w.ll]; exact h
  refine ⟨ls[k], List.getElem?_eq_getElem h', w.lr _ (List.getElem_mem h'), atI_of (jj := k) rfl ?_⟩
  rw [List.getElem?_map, List.getElem?_eq_getElem h']
  rfl
theorem e_checkLists (w : WOk n us ls) (n40 : n ≤ 40) (q : P (.fr .non) []) : D_check_lists c [.fr (.int n), .fr (lstsD ls)] P PE := by
  refine D_check_lists_in ?_
  unfold B_check_lists lstsD
  have ll := w.ll
  walk_at "dw"
  refine e_isi .tup (.inr (.inr (.inl rfl))) ?_
  rw [show isKd (.tup (ls.map rowF)) "tuple" = true from rfl]
  walk_at "dw"
  refine a_ifF (by rw [List.length_map, ll, decide_eq_true (by omega)]; rfl) ?_
  walk_at "dw"
  refine a_rgb (by omega) ?_
  refine a_forI (fun k e => e = [S.ow (.fr (.int n)), .ow (.fr (.tup (ls.map rowF))), .un, .un, .un]) rfl ?_ ?_
  · rintro k d e NX hd rfl nx
    obtain ⟨hk, rfl⟩ := rgD_at hd
    obtain ⟨r, er, lr, ar⟩ := rows_at w (k := k) (by omega)
    rw [Int.zero_add]
    walk_at "dw"
    refine a_ixT ar ?_
    walk_at "dw"
    refine e_isi .tup (.inr (.inr (.inl rfl))) ?_
    rw [show isKd (.tup (r.map flD)) "tuple" = true from rfl]
    walk_at "dw"
    refine a_ixT ar ?_
    walk_at "dw"
    refine a_ifF (by rw [List.length_map, lr, decide_eq_true rfl]; rfl) ?_
    walk_at "dw"
    exact nx _ rfl
  rintro e rfl
  walk_at "dw"
  refine a_rgb (by omega) ?_
  refine a_forI (fun k e => e = [S.ow (.fr (.int n)), .ow (.fr (.tup (ls.map rowF))), .un, .un, .un]) rfl ?_ ?_
  · rintro k d e NX hd rfl nx
    obtain ⟨hk, rfl⟩ := rgD_at hd
    obtain ⟨r, er, lr, ar⟩ := rows_at w (k := k) (by omega)
    rw [Int.zero_add]
    walk_at "dw"
    refine a_rgb2 (by omega) ?_
    refine a_forI (fun j e => e = [S.ow (.fr (.int n)), .ow (.fr (.tup (ls.map rowF))), .ow (.fr (.int k)), .un, .un]) rfl ?_ ?_
    · rintro j d e NX2 hd rfl nx2
      obtain ⟨hj, rfl⟩ := rgD_at hd
      have hj2 : j < r.length := by omega
      walk_at "dw"
      refine a_ixT ar ?_
      walk_at "dw"
      refine a_ixT (d := flD r[j]) (atI_of (jj := j) (by omega) (by rw [List.getElem?_map, List.getElem?_eq_getElem hj2]; rfl)) ?_
      have diag : (k : Int) = 1 + (j : Int) → r[j] = some false := fun h => by
        have := w.f k r (by omega) er
        rw [show k - 1 = j by omega, List.getElem?_eq_getElem hj2] at this
        exact Option.some.inj this
      cases hw : r[j] with
      | none =>
        rw [hw] at diag
        walk_at "dw"
        refine a_ifF rfl ?_
        walk_at "dw"
        refine a_ifF (decide_eq_false fun z => nomatch diag z) ?_
        walk_at "dw"
        exact nx2 _ rfl
      | some f =>
        rw [hw] at diag
        walk_at "dw"
        refine a_ifT rfl ?_
        walk_at "dw"
        refine e_flag ?_
        walk_at "dw"
        refine v_ite (fun h => ?_) (fun h => ?_)
        · have ef : f = false := Option.some.inj (diag h)
          subst ef
          walk_at "dw"
          exact nx2 _ rfl
        · walk_at "dw"
          exact nx2 _ rfl
    · rintro e rfl
      walk_at "dw"
      exact nx _ rfl
  · rintro e rfl
    walk_at "dw"
    exact q
theorem e_words (w : WOk n us ls) (n1 : 1 ≤ n) (n40 : n ≤ 40) (q : P (.fr .non) [.ins c.Words [("blocks", .fr (.int n)), ("ups", .fr (upsD us)), ("lists", .fr (lstsD ls))]]) : D_Words_init c [.ins c.Words [], .fr (.int n), .fr (upsD us), .fr (lstsD ls)] P PE := by
  refine D_Words_init_in ?_
  unfold B_Words_init
  walk_at "dw"
  refine e_within .int ?_
  rw [show withinD 1 40 (.int n) = true from decide_eq_true (by omega)]
  walk_at "dw"
  refine e_checkUps w n40 ?_
  walk_at "dw"
  refine e_checkLists w n40 ?_
  walk_at "dw"
  refine a_setFD rfl rfl (by exact List.mem_cons_self) (by decide) ?_
  walk_at "dw"
  refine a_setFD rfl rfl (by exact List.mem_cons_self) (by show 1 < 1000; decide) ?_
  walk_at "dw"
  refine a_setFD rfl rfl (by exact List.mem_cons_self) (by show 2 < 1000; decide) ?_
  exact q
end


/-! ### leading a determinant down: plain -/
def sumN (f : Nat → Int) : Nat → Int
  | 0 => 0
  | c + 1 => sumN f c + f c
def ent (rs : List (List Int)) (j k : Nat) : Int := (rs.getD j []).getD k 0
def ledR (f r : List Int) (i : Nat) (a : Int) : List Int := (List.range f.length).map fun k => (r.getD k 0 * f.getD i 0 - r.getD i 0 * f.getD k 0).fdiv a
def led (rs : List (List Int)) (i : Nat) (a : Int) : List (List Int) := rs.tail.map fun r => ledR (rs.getD 0 []) r i a
theorem sumN_succ (f : Nat → Int) : ∀ c, sumN f (c + 1) = f 0 + sumN (fun k => f (k + 1)) c
  | 0 => by simp [sumN]
  | c + 1 => by
    show sumN f (c + 1) + f (c + 1) = f 0 + (sumN (fun k => f (k + 1)) c + f (c + 1))
    rw [sumN_succ f c]
    omega
theorem sumN_mono {f g : Nat → Int} : ∀ c, (∀ k, k < c → f k ≤ g k) → sumN f c ≤ sumN g c
  | 0, _ => Int.le_refl _
  | c + 1, h => Int.add_le_add (sumN_mono c fun k hk => h k (by omega)) (h c (by omega))
theorem sumN_const (z : Int) : ∀ c : Nat, sumN (fun _ => z) c = c * z
  | 0 => by simp [sumN]
  | c + 1 => by
    show sumN (fun _ => z) c + z = _
    rw [sumN_const z c]
    push_cast
    rw [Int.add_mul, Int.one_mul]
theorem sumN_mul (f : Nat → Int) (a : Int) : ∀ c, sumN (fun k => a * f k) c = a * sumN f c
  | 0 => by simp [sumN]
  | c + 1 => by
    show sumN (fun k => a * f k) c + a * f c = a * (sumN f c + f c)
    rw [sumN_mul f a c, Int.mul_add]
theorem sumN_sub (f g : Nat → Int) : ∀ c, sumN (fun k => f k - g k) c = sumN f c - sumN g c
  | 0 => by simp [sumN]
  | c + 1 => by
    show sumN (fun k => f k - g k) c + (f c - g c) = sumN f c + f c - (sumN g c + g c)
    rw [sumN_sub f g c]
    omega
theorem sumN_congr {f g : Nat → Int} : ∀ c, (∀ k, k < c → f k = g k) → sumN f c = sumN g c
  | 0, _ => rfl
  | c + 1, h => by
    show sumN f c + f c = sumN g c + g c
    rw [sumN_congr c fun k hk => h k (by omega), h c (by omega)]
theorem fdiv_lo {n a : Int} (ha : 1 ≤ a) : n - (a - 1) ≤ a * n.fdiv a := by
  rw [Int.fdiv_eq_ediv_of_nonneg n (by omega)]
  have h1 := Int.mul_ediv_add_emod n a
  have h2 := Int.emod_lt_of_pos n (show 0 < a by omega)
  omega
theorem fdiv_le {n a q : Int} (ha : 1 ≤ a) (h : n ≤ q * a) : n.fdiv a ≤ q := by
  rw [Int.fdiv_eq_ediv_of_nonneg n (by omega)]
  exact Int.ediv_le_of_le_mul (by omega) h
theorem fdiv_abs {n a : Int} (ha : 1 ≤ a) : (n.fdiv a).natAbs ≤ n.natAbs := by
  rw [Int.fdiv_eq_ediv_of_nonneg n (by omega)]
  by_cases hn : 0 ≤ n
  · have h1 := Int.ediv_le_self a hn
    have h2 := Int.ediv_nonneg hn (show 0 ≤ a by omega)
    omega
  · have h1 := Int.mul_ediv_add_emod n a
    have h2 := Int.emod_lt_of_pos n (show 0 < a by omega)
    have h3 : n / a < 0 := Int.ediv_neg_of_neg_of_pos (by omega) (by omega)
    have h4 : (a - 1) * (n / a) ≤ (a - 1) * (-1) := Int.mul_le_mul_of_nonneg_left (by omega) (by omega)
    have h5 : (a - 1) * (n / a) = a * (n / a) - n / a := by rw [Int.sub_mul, Int.one_mul]
    omega
theorem abs_two {x y z w : Int} {B : Nat} (hx : x.natAbs < 2 ^ B) (hy : y.natAbs < 2 ^ B) (hz : z.natAbs < 2 ^ B) (hw : w.natAbs < 2 ^ B) : (x * y - z * w).natAbs < 2 ^ (2 * B + 1) := by
  have h1 : (x * y).natAbs < 2 ^ (2 * B) := by
    rw [Int.natAbs_mul, show 2 * B = B + B by omega, Nat.pow_add]
    exact Nat.mul_lt_mul'' hx hy
  have h2 : (z * w).natAbs < 2 ^ (2 * B) := by
    rw [Int.natAbs_mul, show 2 * B = B + B by omega, Nat.pow_add]
    exact Nat.mul_lt_mul'' hz hw
  rw [Nat.pow_succ]
  omega
structure DInv (n i : Nat) (a : Int) (B : Nat) (rs : List (List Int)) : Prop where
  len : rs.length + i = n
  rl : ∀ r ∈ rs, r.length = n
  bd : ∀ j k, (ent rs j k).natAbs < 2 ^ B
  off : ∀ j k, j < rs.length → i ≤ k → k < n → k ≠ i + j → ent rs j k ≤ -a
  tot : ∀ j, j < rs.length → a ≤ sumN (fun k => ent rs j (i + k)) rs.length
  pos : 1 ≤ a
  big : a = 1 ∨ (rs.length : Int) - 1 ≤ a
  ab : a.natAbs < 2 ^ B
theorem ent_led {rs : List (List Int)} {i j k : Nat} {a : Int} (hj : j + 1 < rs.length) (hk : k < (rs.getD 0 []).length) :
    ent (led rs i a) j k = (ent rs (j + 1) k * ent rs 0 i - ent rs (j + 1) i * ent rs 0 k).fdiv a := by
  have e1 : (led rs i a)[j]? = some (ledR (rs.getD 0 []) (rs.getD (j + 1) []) i a) := by
    unfold led
    rw [List.getElem?_map, List.getElem?_tail, List.getElem?_eq_getElem hj, List.getD_eq_getElem?_getD (l := rs) (i := j + 1), List.getElem?_eq_getElem hj]
    rfl
  unfold ent
  rw [List.getD_eq_getElem?_getD (l := led rs i a), e1]
  show (ledR (rs.getD 0 []) (rs.getD (j + 1) []) i a).getD k 0 = _
  unfold ledR
  rw [List.getD_eq_getElem?_getD (l := List.map _ _), List.getElem?_map, List.getElem?_range hk]
  rfl
theorem ent_out {rs : List (List Int)} {i j k : Nat} {a : Int} (h : ¬ (j + 1 < rs.length ∧ k < (rs.getD 0 []).length)) : ent (led rs i a) j k = 0 := by
  unfold ent
  by_cases hj : j + 1 < rs.length
  · have hk : ¬ k < (rs.getD 0 []).length := fun z => h ⟨hj, z⟩
    have e1 : (led rs i a)[j]? = some (ledR (rs.getD 0 []) (rs.getD (j + 1) []) i a) := by
      unfold led
      rw [List.getElem?_map, List.getElem?_tail, List.getElem?_eq_getElem hj, List.getD_eq_getElem?_getD (l := rs) (i := j + 1), List.getElem?_eq_getElem hj]
      rfl
    rw [List.getD_eq_getElem?_getD (l := led rs i a), e1]
    show (ledR (rs.getD 0 []) (rs.getD (j + 1) []) i a).getD k 0 = _
    unfold ledR
    rw [List.getD_eq_getElem?_getD, List.getElem?_eq_none (by rw [List.length_map, List.length_range]; omega)]
    rfl
  · rw [List.getD_eq_getElem?_getD (l := led rs i a), List.getElem?_eq_none (by unfold led; rw [List.length_map, List.length_tail]; omega)]
    simp
theorem DInv.step {n i : Nat} {a : Int} {B : Nat} {rs : List (List Int)} (D : DInv n i a B rs) (h2 : 2 ≤ rs.length) : a ≤ ent rs 0 i ∧ DInv n (i + 1) (ent rs 0 i) (2 * B + 1) (led rs i a) := by
  obtain ⟨len, rl, bd, off, tot, pos, big, ab⟩ := D
  have hl0 : (rs.getD 0 []).length = n := by
    rw [List.getD_eq_getElem?_getD, List.getElem?_eq_getElem (by omega)]
    exact rl _ (List.getElem_mem _)
  have ll : (led rs i a).length = rs.length - 1 := by unfold led; rw [List.length_map, List.length_tail]
  generalize hm : rs.length = m at *
  obtain ⟨m', rfl⟩ : ∃ m', m = m' + 1 := ⟨m - 1, by omega⟩
  have t0 := tot 0 (by omega)
  rw [sumN_succ] at t0
  have s0 : sumN (fun k => ent rs 0 (i + (k + 1))) m' ≤ sumN (fun _ => -a) m' := sumN_mono _ fun k hk => off 0 _ (by omega) (by omega) (by omega) (by omega)
  rw [sumN_const] at s0
  have e0 : (m' : Int) * -a = -((m' : Int) * a) := by rw [Int.mul_neg]
  rw [Nat.add_zero] at t0
  have m1 : (1 : Int) * a ≤ (m' : Int) * a := Int.mul_le_mul_of_nonneg_right (by omega) (by omega)
  have mm : (m' : Int) * 1 ≤ (m' : Int) * a := Int.mul_le_mul_of_nonneg_left (by omega) (by omega)
  have hp : a + (m' : Int) * a ≤ ent rs 0 i := by omega
  have pa : a ≤ ent rs 0 i := by omega
  generalize hpp : ent rs 0 i = p at *
  refine ⟨pa, ⟨by omega, ?_, ?_, ?_, ?_, by omega, ?_, ?_⟩⟩
  · intro r hr
    unfold led at hr
    obtain ⟨r', _, rfl⟩ := List.mem_map.mp hr
    unfold ledR
    rw [List.length_map, List.length_range, hl0]
  · intro j k
    by_cases h : j + 1 < rs.length ∧ k < (rs.getD 0 []).length
    · rw [ent_led h.1 h.2, hpp]
      refine Nat.lt_of_le_of_lt (fdiv_abs pos) (abs_two (bd _ _) ?_ (bd _ _) (bd _ _))
      rw [← hpp]; exact bd _ _
    · rw [ent_out h]
      exact Nat.two_pow_pos _
  · intro j k hj hk1 hk2 ne
    rw [ll] at hj
    rw [ent_led (by omega) (by omega), hpp]
    refine fdiv_le pos ?_
    have o1 := off (j + 1) k (by omega) (by omega) hk2 (by omega)
    have o2 := off (j + 1) i (by omega) (by omega) (by omega) (by omega)
    have o3 := off 0 k (by omega) (by omega) hk2 (by omega)
    have q1 : ent rs (j + 1) k * p ≤ (-a) * p := Int.mul_le_mul_of_nonneg_right o1 (by omega)
    have q2 : 0 ≤ ent rs (j + 1) i * ent rs 0 k := Int.mul_nonneg_of_nonpos_of_nonpos (by omega) (by omega)
    have q3 : (-a) * p = -p * a := by rw [Int.neg_mul, Int.neg_mul, Int.mul_comm]
    omega
  · intro j hj
    rw [ll] at hj ⊢
    rw [show m' + 1 - 1 = m' by omega]
    have tj := tot (j + 1) (by omega)
    rw [sumN_succ, Nat.add_zero] at tj
    have o2 := off (j + 1) i (by omega) (by omega) (by omega) (by omega)
    have T0 := tot 0 (by omega)
    rw [sumN_succ, Nat.add_zero, hpp] at T0
    have key : sumN (fun k => (ent rs (j + 1) (i + 1 + k) * p - ent rs (j + 1) i * ent rs 0 (i + 1 + k)) - (a - 1)) m' ≤ sumN (fun k => a * ent (led rs i a) j (i + 1 + k)) m' := by
      refine sumN_mono _ fun k hk => ?_
      rw [ent_led (by omega) (by omega), hpp]
      exact fdiv_lo pos
    rw [sumN_mul, sumN_sub, sumN_sub, sumN_const, sumN_mul] at key
    have c1 : sumN (fun k => ent rs (j + 1) (i + 1 + k) * p) m' = p * sumN (fun k => ent rs (j + 1) (i + (k + 1))) m' := by
      rw [← sumN_mul]
      exact sumN_congr _ fun k _ => by rw [Int.mul_comm, show i + 1 + k = i + (k + 1) by omega]
    have c2 : sumN (fun k => ent rs 0 (i + 1 + k)) m' = sumN (fun k => ent rs 0 (i + (k + 1))) m' := sumN_congr _ fun k _ => by rw [show i + 1 + k = i + (k + 1) by omega]
    rw [c1, c2] at key
    generalize sumN (fun k => ent rs (j + 1) (i + (k + 1))) m' = s at *
    generalize sumN (fun k => ent rs 0 (i + (k + 1))) m' = u at *
    generalize sumN (fun k => ent (led rs i a) j (i + 1 + k)) m' = T' at *
    generalize ent rs (j + 1) i = r at *
    -- p s - r u - m'(a-1) ≤ a T', with r + s ≥ a, p + u ≥ a, r ≤ -a
    have b1 : p * a ≤ p * (r + s) := Int.mul_le_mul_of_nonneg_left tj (by omega)
    rw [Int.mul_add] at b1
    have b2 : a * a ≤ (-r) * (p + u) := Int.mul_le_mul (by omega) T0 (by omega) (by omega)
    have b3 : (-r) * (p + u) = -(p * r) - r * u := by rw [Int.mul_add, Int.neg_mul, Int.neg_mul, Int.mul_comm r p]; omega
    have b4 : (m' : Int) * (a - 1) ≤ a * a := by
      rcases big with e | e
      · rw [e]; omega
      · refine Int.le_trans (Int.mul_le_mul_of_nonneg_right (c := a - 1) (show (m' : Int) ≤ a by omega) (by omega)) ?_
        exact Int.mul_le_mul_of_nonneg_left (by omega) (by omega)
    have b5 : a * p ≤ a * T' := by
      rw [Int.mul_comm a p]
      omega
    exact Int.le_of_mul_le_mul_left b5 (by omega)
  · rw [ll]
    exact .inr (by omega)
  · have := bd 0 i
    rw [hpp] at this
    exact Nat.lt_of_lt_of_le this (Nat.pow_le_pow_right (by omega) (by omega))

/-! ### leading a determinant down: the walk -/
section
variable {c : Cl} {P : O → List O → Prop} {PE : DExc → List O → Prop} {K : O → Prop} {d : D} {n i B : Nat} {a z : Int} {rs : List (List Int)} {env : DEnv}
abbrev rowL (r : List Int) : D := .lst (r.map .int)
abbrev rowsD (rs : List (List Int)) : D := .lst (rs.map rowL)
abbrev rowsO (rs : List (List Int)) : O := .lst (rs.map fun r => oL (r.map .int))
theorem rowsO_frz (rs : List (List Int)) : (rowsO rs).frz = rowsD rs := by
  show D.lst (O.frzL (rs.map fun r => oL (r.map .int))) = _
  congr 1
  induction rs with
  | nil => rfl
  | cons r t ih =>
    show (oL (r.map .int)).frz :: O.frzL (t.map fun r => oL (r.map .int)) = _
    rw [oL_frz, ih]
    rfl
theorem a_appO {os : List O} {o : O} {i : Nat} {P : R → DEnv → Prop} (h : env[i]? = some (.ow (.lst os))) (l : os.length < 1000) (q : P (.d .non) (env.set i (.ow (.lst (os ++ [o]))))) : appK i o env P := by
  unfold appK
  have e : contAt env i [] = some (.lst os) := by
    unfold contAt
    rw [h]
    rfl
  rw [e]
  refine ⟨small1000 (by omega), ?_⟩
  have e2 : setAt env i [] (.lst (os ++ [o])) = env.set i (.ow (.lst (os ++ [o]))) := by
    unfold setAt
    rw [h]
    rfl
  show P (.d .non) (setAt env i [] (.lst (os ++ [o])))
  rw [e2]
  exact q
theorem a_toOI {o : O} {i : Nat} {KO : O → DEnv → Prop} (h : env[i]? = some (.ow o)) (q : KO (.fr o.frz) (env.set i (.ow (.fr o.frz)))) : toO (.p i []) env KO := a_forceI (KD := fun d => KO (.fr d)) h q
theorem getI {r : List Int} {k : Nat} (h : k < r.length) : atI (r.map D.int) (k : Int) = some (.int (r.getD k 0)) := by
  refine atI_of (jj := k) rfl ?_
  rw [List.getElem?_map, List.getElem?_eq_getElem h, List.getD_eq_getElem?_getD, List.getElem?_eq_getElem h]
  rfl
theorem getR {j : Nat} (h : j < rs.length) : atI (rs.map rowL) (j : Int) = some (rowL (rs.getD j [])) := by
  refine atI_of (jj := j) rfl ?_
  rw [List.getElem?_map, List.getElem?_eq_getElem h, List.getD_eq_getElem?_getD, List.getElem?_eq_getElem h]
  rfl
theorem DInv.bde (I : DInv n i a B rs) (hB : B ≤ 8000) {j k : Nat} : Bd (ent rs j k) := ⟨B, hB, I.bd j k⟩
def ledF (f r : List Int) (i : Nat) (a : Int) : D → D
  | .int k => .int ((r.getD k.toNat 0 * f.getD i 0 - r.getD i 0 * f.getD k.toNat 0).fdiv a)
  | d => d
theorem led_map {f r : List Int} : (rgD 0 f.length).map (ledF f r i a) = (ledR f r i a).map .int := by
  unfold rgD ledR
  rw [List.map_map, List.map_map]
  refine List.map_congr_left fun k _ => ?_
  show ledF f r i a (.int (0 + (k : Nat))) = _
  unfold ledF
  rw [Int.zero_add]
  simp only [Int.toNat_natCast]
  rfl
theorem e_led (I : DInv n i a B rs) (h2 : 2 ≤ rs.length) (hB : B ≤ 8000) (n40 : n ≤ 40) (q : P (rowsO (led rs i a)) []) : D_led_down c [.fr (rowsD rs), .fr (.int i), .fr (.int a)] P PE := by
  refine D_led_down_in ?_
  unfold B_led_down
  have lt : rs.tail.length = rs.length - 1 := List.length_tail
  have hin : i < n := by have := I.len; omega
  have l0 : (rs.getD 0 []).length = n := by
    rw [List.getD_eq_getElem?_getD, List.getElem?_eq_getElem (by omega)]
    exact I.rl _ (List.getElem_mem _)
  walk_at "dw"
  refine a_ixL (getR (j := 0) (by omega)) ?_
  walk_at "dw"
  have ec : cutD (rs.map rowL) (some 1) none = rs.tail.map rowL := by
    have e := cutD_drop rowL rs 1
    rw [List.drop_one] at e
    exact e
  rw [ec]
  refine a_forI (fun j e => e = [.un, .ow (.fr (.int i)), .ow (.fr (.int a)), .ow (.fr (rowL (rs.getD 0 []))), .ow (rowsO ((rs.tail.take j).map fun r => ledR (rs.getD 0 []) r i a)), .un, .un]) rfl ?_ ?_
  · rintro j d e NX hd rfl nx
    rw [List.getElem?_map] at hd
    cases er : rs.tail[j]? with
    | none => rw [er] at hd; cases hd
    | some r =>
    rw [er] at hd
    cases hd
    have hj := (List.getElem?_eq_some_iff.mp er).1
    have er' : rs.getD (j + 1) [] = r := by
      rw [List.getElem?_tail] at er
      rw [List.getD_eq_getElem?_getD, er]
      rfl
    have lr : r.length = n := I.rl r (List.mem_of_mem_tail (List.mem_of_getElem? er))
    have b0 : ∀ k, Bd ((rs.getD 0 []).getD k 0) := fun k => I.bde hB (j := 0) (k := k)
    have br : ∀ k, Bd (r.getD k 0) := fun k => by rw [← er']; exact I.bde hB (j := j + 1) (k := k)
    walk_at "dw"
    rw [List.length_map]
    refine a_rgb (by omega) ?_
    rw [show (((rs.getD 0 []).length : Nat) : Int).toNat = (rs.getD 0 []).length by omega]
    refine a_lcM (ledF (rs.getD 0 []) r i a) (by rw [rgD_len]; omega) (fun k d acc NX3 hk ha n3 => ?_) ?_
    · obtain ⟨hk, rfl⟩ := rgD_at hk
      have e2 : ledF (rs.getD 0 []) r i a (.int (0 + (k : Nat))) = .int ((r.getD k 0 * (rs.getD 0 []).getD i 0 - r.getD i 0 * (rs.getD 0 []).getD k 0).fdiv a) := by
        unfold ledF
        rw [Int.zero_add]
        simp only [Int.toNat_natCast]
      rw [e2] at n3
      rw [Int.zero_add]
      refine ⟨by rfl, ?_⟩
      walk_at "dw"
      refine a_ixL (getI (r := r) (k := k) (by omega)) ?_
      walk_at "dw"
      refine a_ixL (getI (r := rs.getD 0 []) (k := i) (by omega)) ?_
      walk_at "dw"
      refine a_I2 ⟨br k, b0 i⟩ ?_
      walk_at "dw"
      refine a_ixL (getI (r := r) (k := i) (by omega)) ?_
      walk_at "dw"
      refine a_ixL (getI (r := rs.getD 0 []) (k := k) (by omega)) ?_
      walk_at "dw"
      refine a_I2 ⟨br i, b0 k⟩ ?_
      walk_at "dw"
      refine a_I2 ⟨by have := I.pos; omega, B, hB, I.ab⟩ ?_
      walk_at "dw"
      exact ⟨ha, n3⟩
    · rw [led_map]
      walk_at "dw"
      refine a_appO rfl (by rw [List.length_map, List.length_map, List.length_take]; have := I.len; omega) ?_
      walk_at "dw"
      refine nx _ ?_
      rw [take_snoc er, List.map_append]
      unfold rowsO
      rw [List.map_append]
      rfl
  · rintro e rfl
    rw [List.length_map, List.take_length]
    walk_at "dw"
    exact q
def Bn : Nat → Nat
  | 0 => 283
  | i + 1 => 2 * Bn i + 1
theorem Bn_le {i : Nat} (h : i ≤ 4) : Bn i ≤ 4543 := by
  have : i = 0 ∨ i = 1 ∨ i = 2 ∨ i = 3 ∨ i = 4 := by omega
  rcases this with rfl | rfl | rfl | rfl | rfl <;> decide
theorem e_det (I : DInv n 0 1 283 rs) (n1 : 1 ≤ n) (n5 : n ≤ 5) (q : ∀ z : Int, z.natAbs < 2 ^ 4543 → P (.fr (.int z)) []) : D_determinant c [.fr (rowsD rs)] P PE := by
  refine D_determinant_in ?_
  unfold B_determinant
  have l0 := I.len
  walk_at "dw"
  rw [List.length_map]
  refine a_rgb (by omega) ?_
  rw [show ((rs.length : Int) - 1).toNat = n - 1 by omega]
  refine a_forI (fun i e => ∃ (a : Int) (us : List (List Int)), DInv n i a (Bn i) us ∧ i + 1 ≤ n ∧ e = [S.ow (.fr (rowsD us)), .ow (.fr (.int a)), .un, .un]) ⟨1, rs, I, n1, rfl⟩ ?_ ?_
  · rintro i d e NX hd ⟨a, us, J, hi, rfl⟩ nx
    obtain ⟨hi2, rfl⟩ := rgD_at hd
    have lu := J.len
    have hB : Bn i ≤ 8000 := Nat.le_trans (Bn_le (by omega)) (by decide)
    rw [Int.zero_add]
    walk_at "dw"
    refine e_led J (by omega) hB (by omega) ?_
    walk_at "dw"
    refine a_ixL (getR (j := 0) (by omega)) ?_
    walk_at "dw"
    refine a_ixL (getI (r := us.getD 0 []) (k := i) (by
      rw [List.getD_eq_getElem?_getD, List.getElem?_eq_getElem (by omega)]
      rw [show (some us[0]).getD [] = us[0] from rfl, J.rl _ (List.getElem_mem _)]
      omega)) ?_
    walk_at "dw"
    have st := J.step (by omega)
    refine a_varL (os := (led us i a).map fun r => oL (r.map .int)) rfl ?_
    refine a_toOI (o := rowsO (led us i a)) rfl ?_
    rw [rowsO_frz]
    walk_at "dw"
    exact nx _ ⟨_, _, st.2, by omega, rfl⟩
  · rw [rgD_len]
    rintro e ⟨a, us, J, hi, rfl⟩
    walk_at "dw"
    have lu := J.len
    refine a_ixL (getR (j := 0) (by omega)) ?_
    have lr : (us.getD 0 []).length = n := by
      rw [List.getD_eq_getElem?_getD, List.getElem?_eq_getElem (by omega)]
      exact J.rl _ (List.getElem_mem _)
    have ix : ixN ((us.getD 0 []).map D.int).length (-1) = some (n - 1) := by
      unfold ixN
      rw [List.length_map, lr, if_neg (by omega), if_pos (by omega)]
      congr 1
      omega
    have at_ : atI ((us.getD 0 []).map D.int) (-1) = some (.int ((us.getD 0 []).getD (n - 1) 0)) := by
      unfold atI
      rw [ix]
      show ((us.getD 0 []).map D.int)[n - 1]? = _
      generalize us.getD 0 [] = r at lr
      rw [List.getElem?_map, List.getD_eq_getElem?_getD, List.getElem?_eq_getElem (by omega)]
      rfl
    walk_at "dw"
    refine a_I1 ?_
    walk_at "dw"
    refine a_ixL at_ ?_
    walk_at "dw"
    refine q _ ?_
    exact Nat.lt_of_lt_of_le (J.bd 0 (n - 1)) (Nat.pow_le_pow_right (by decide) (Bn_le (by omega)))
end

/-! ### the rows of words; how many trees by wrong words -/
section
variable {c : Cl} {P : O → List O → Prop} {PE : DExc → List O → Prop} {K : O → Prop} {d : D} {n : Nat} {us : List (Option Int)} {ls : List (List (Option Bool))} {b z : Int} {env : DEnv}
def wgt (us : List (Option Int)) (ls : List (List (Option Bool))) (b : Int) (k : Nat) : Int := if (k : Int) = b then 0 else 2 ^ (40 * costT us ls b k).toNat
def wts (us : List (Option Int)) (ls : List (List (Option Bool))) (b : Int) (n : Nat) : List Int := (List.range (n + 1)).map (wgt us ls b)
def wrow (us : List (Option Int)) (ls : List (List (Option Bool))) (n j : Nat) : List Int := (((wts us ls (1 + (j : Int)) n).drop 1).map fun z => -z).set j (wts us ls (1 + (j : Int)) n).sum
def wrows (us : List (Option Int)) (ls : List (List (Option Bool))) (n : Nat) : List (List Int) := (List.range n).map (wrow us ls n)
variable {X : DX}
theorem a_raise1 {C : Addr} {f : Str} {dv : DTV} {DD : DEnds} (h : dv env (fun ds env1 => match ds with
  | [d] => DD.ex ⟨.ref C, some [(f, d)]⟩ env1
  | _ => False) DD.ex) : dRaise1 C f dv DD env := h
theorem cnt_in (f : Bool) : 0 ≤ cnt f ∧ cnt f ≤ 1 := by cases f <;> decide
theorem wrongN_in (p : Int) : ∀ i : Nat, 0 ≤ wrongN ls b p i ∧ wrongN ls b p i ≤ i
  | 0 => ⟨Int.le_refl _, Int.le_refl _⟩
  | i + 1 => by
    have h1 := wrongN_in p i
    have h2 := cnt_in (isW (wat ls b i) (decide ((i : Int) = p)))
    show 0 ≤ wrongN ls b p i + cnt (isW (wat ls b i) (decide ((i : Int) = p))) ∧ wrongN ls b p i + cnt (isW (wat ls b i) (decide ((i : Int) = p))) ≤ ((i + 1 : Nat) : Int)
    omega
theorem costT_in (p : Int) : 0 ≤ costT us ls b p ∧ costT us ls b p ≤ ls.length + 1 := by
  have h1 := wrongN_in (ls := ls) (b := b) p ls.length
  have h2 := cnt_in (isW (say us b) p)
  unfold costT
  omega
theorem pow_pos2 (k : Nat) : (1 : Int) ≤ 2 ^ k := by
  have h : (0 : Int) < 2 ^ k := Int.pow_pos (by decide)
  omega
theorem wgt_pos {k : Nat} (h : (k : Int) ≠ b) : 1 ≤ wgt us ls b k := by
  unfold wgt
  rw [if_neg h]
  exact pow_pos2 _
theorem wgt_in (l : ls.length ≤ 6) (k : Nat) : 0 ≤ wgt us ls b k ∧ wgt us ls b k ≤ 2 ^ 280 := by
  unfold wgt
  split
  · exact ⟨Int.le_refl _, by decide⟩
  · refine ⟨by have := pow_pos2 (40 * costT us ls b k).toNat; omega, ?_⟩
    have h := costT_in (us := us) (ls := ls) (b := b) (k : Int)
    exact_mod_cast Nat.pow_le_pow_right (n := 2) (by decide) (show (40 * costT us ls b k).toNat ≤ 280 by omega)
theorem sum_range (f : Nat → Int) : ∀ m, ((List.range m).map f).sum = sumN f m
  | 0 => rfl
  | m + 1 => by
    rw [List.range_succ, List.map_append, List.sum_append, sum_range f m]
    show _ + (f m + 0) = sumN f m + f m
    omega
theorem sumN_one (h : Nat → Int) (s : Int) (j : Nat) : ∀ m, sumN (fun k => if k = j then s else h k) m = sumN h m + if j < m then s - h j else 0
  | 0 => by simp [sumN]
  | m + 1 => by
    show sumN (fun k => if k = j then s else h k) m + (if m = j then s else h m) = sumN h m + h m + _
    rw [sumN_one h s j m]
    by_cases e : m = j
    · subst e
      rw [if_pos rfl, if_neg (by omega), if_pos (by omega)]
      omega
    · rw [if_neg e]
      by_cases l : j < m
      · rw [if_pos l, if_pos (by omega)]; omega
      · rw [if_neg l, if_neg (by omega)]; omega
theorem wrow_len (j : Nat) : (wrow us ls n j).length = n := by
  unfold wrow wts
  rw [List.length_set, List.length_map, List.length_drop, List.length_map, List.length_range]
  omega
theorem ent_w {j k : Nat} (hj : j < n) (hk : k < n) : ent (wrows us ls n) j k = if k = j then (wts us ls (1 + (j : Int)) n).sum else -wgt us ls (1 + (j : Int)) (k + 1) := by
  unfold ent wrows
  rw [List.getD_eq_getElem?_getD (l := List.map _ _), List.getElem?_map, List.getElem?_range hj]
  show (wrow us ls n j).getD k 0 = _
  unfold wrow
  rw [List.getD_eq_getElem?_getD]
  by_cases e : k = j
  · subst e
    rw [if_pos rfl, List.getElem?_set_self (by unfold wts; rw [List.length_map, List.length_drop, List.length_map, List.length_range]; omega)]
    rfl
  · rw [if_neg e, List.getElem?_set_ne (fun z => e z.symm), List.getElem?_map, List.getElem?_drop]
    unfold wts
    rw [List.getElem?_map, List.getElem?_range (by omega), Nat.add_comm 1 k]
    rfl
theorem ent_w0 {j k : Nat} (h : ¬ (j < n ∧ k < n)) : ent (wrows us ls n) j k = 0 := by
  unfold ent wrows
  by_cases hj : j < n
  · rw [List.getD_eq_getElem?_getD (l := List.map _ _), List.getElem?_map, List.getElem?_range hj]
    show (wrow us ls n j).getD k 0 = _
    rw [List.getD_eq_getElem?_getD, List.getElem?_eq_none (by rw [wrow_len]; omega)]
    rfl
  · rw [List.getD_eq_getElem?_getD (l := List.map _ _), List.getElem?_eq_none (by rw [List.length_map, List.length_range]; omega)]
    simp
theorem wInv (n1 : 1 ≤ n) (n5 : n ≤ 5) (l : ls.length = n + 1) : DInv n 0 1 283 (wrows us ls n) := by
  have ll : (wrows us ls n).length = n := by unfold wrows; rw [List.length_map, List.length_range]
  have ts : ∀ b : Int, 0 ≤ (wts us ls b n).sum ∧ (wts us ls b n).sum ≤ 6 * 2 ^ 280 := fun b => by
    unfold wts
    rw [sum_range]
    have h1 : sumN (fun _ => 0) (n + 1) ≤ sumN (wgt us ls b) (n + 1) := sumN_mono _ fun k _ => (wgt_in (by omega) k).1
    have h2 : sumN (wgt us ls b) (n + 1) ≤ sumN (fun _ => 2 ^ 280) (n + 1) := sumN_mono _ fun k _ => (wgt_in (by omega) k).2
    rw [sumN_const] at h1 h2
    refine ⟨by omega, Int.le_trans h2 (Int.mul_le_mul_of_nonneg_right (by omega) (by decide))⟩
  refine ⟨by omega, fun r hr => ?_, fun j k => ?_, fun j k hj _ hk ne => ?_, fun j hj => ?_, Int.le_refl _, .inl rfl, by decide⟩
  · unfold wrows at hr
    obtain ⟨j, _, rfl⟩ := List.mem_map.mp hr
    exact wrow_len j
  · by_cases h : j < n ∧ k < n
    · rw [ent_w h.1 h.2]
      have t := ts (1 + (j : Int))
      have w := wgt_in (us := us) (ls := ls) (b := 1 + (j : Int)) (by omega) (k + 1)
      have e : (2 : Int) ^ 280 = ((2 ^ 280 : Nat) : Int) := by decide
      have e2 : 8 * (2 ^ 280 : Nat) = 2 ^ 283 := by decide
      rw [e] at t w
      rw [← e2]
      generalize (2 ^ 280 : Nat) = M at *
      split <;> omega
    · rw [ent_w0 h]
      exact Nat.two_pow_pos _
  · rw [ent_w (by omega) hk, if_neg (by omega)]
    have := wgt_pos (us := us) (ls := ls) (b := 1 + (j : Int)) (k := k + 1) (by omega)
    omega
  · rw [ll] at hj ⊢
    have e : sumN (fun k => ent (wrows us ls n) j (0 + k)) n = sumN (fun k => if k = j then (wts us ls (1 + (j : Int)) n).sum else -wgt us ls (1 + (j : Int)) (k + 1)) n := sumN_congr _ fun k hk => by rw [Nat.zero_add, ent_w hj hk]
    rw [e, sumN_one (fun k => -wgt us ls (1 + (j : Int)) (k + 1)), if_pos hj]
    have z : wgt us ls (1 + (j : Int)) (j + 1) = 0 := by
      unfold wgt
      rw [if_pos (by omega)]
    have s : (wts us ls (1 + (j : Int)) n).sum = wgt us ls (1 + (j : Int)) 0 + sumN (fun k => wgt us ls (1 + (j : Int)) (k + 1)) n := by
      unfold wts
      rw [sum_range, sumN_succ]
    have m : sumN (fun k => -wgt us ls (1 + (j : Int)) (k + 1)) n = -sumN (fun k => wgt us ls (1 + (j : Int)) (k + 1)) n := by
      rw [sumN_congr (g := fun k => (-1) * wgt us ls (1 + (j : Int)) (k + 1)) n (fun k _ => by omega), sumN_mul]
      omega
    have p := wgt_pos (us := us) (ls := ls) (b := 1 + (j : Int)) (k := 0) (by omega)
    rw [z, m, s]
    omega
/-! the walk -/
def shF : D → D
  | .non => .int 0
  | .int z => .int (1 * 2 ^ (40 * z).toNat)
  | d => d
theorem sh_costs : (costsD us ls b (n + 1)).map shF = (wts us ls b n).map .int := by
  unfold costsD wts
  rw [List.map_map, List.map_map]
  refine List.map_congr_left fun k _ => ?_
  show shF (costD us ls b k) = .int (wgt us ls b k)
  unfold costD wgt
  split
  · rfl
  · show D.int (1 * _) = _
    rw [Int.one_mul]
def ngF : D → D
  | .int z => .int (-z)
  | d => d
theorem e_rowsOf (w : WOk n us ls) (n1 : 1 ≤ n) (n5 : n ≤ 5) (q : P (oL ((wrows us ls n).map rowL)) []) : D_rows_of c [.fr (wordsD c n us ls)] P PE := by
  refine D_rows_of_in ?_
  unfold B_rows_of
  have ll := w.ll
  have ew : wordsD c n us ls = .ins c.Words [("blocks", .int n), ("ups", upsD us), ("lists", lstsD ls)] := rfl
  rw [ew]
  walk_at "dw"
  refine a_rgb2 (by omega) ?_
  rw [show ((n : Int) + 1 - 1).toNat = n by omega]
  refine a_forI (fun j e => e = [S.ow (.fr (wordsD c n us ls)), .ow (oL (((List.range j).map (wrow us ls n)).map rowL)), .un, .un, .un, .un, .un]) rfl ?_ ?_
  · rintro j d e NX hd rfl nx
    obtain ⟨hj, rfl⟩ := rgD_at hd
    walk_at "dw"
    refine e_raw w (by omega) (by omega) (by omega) ?_
    walk_at "dw"
    have lcs : (costsD us ls (1 + (j : Int)) (n + 1)).length = n + 1 := by unfold costsD; rw [List.length_map, List.length_range]
    refine a_lcM shF (by omega) (fun m d acc NX3 hm ha n3 => ⟨by rfl, ?_⟩) ?_
    · unfold costsD at hm
      rw [List.getElem?_map] at hm
      cases em : (List.range (n + 1))[m]? with
      | none => rw [em] at hm; cases hm
      | some k =>
      rw [em] at hm
      obtain rfl := Option.some.inj hm
      unfold costD at n3 ⊢
      have ci := costT_in (us := us) (ls := ls) (b := 1 + (j : Int)) (k : Int)
      by_cases h : (k : Int) = 1 + (j : Int)
      · rw [if_pos h] at n3 ⊢
        walk_at "dw"
        refine a_ifT rfl ?_
        walk_at "dw"
        exact ⟨ha, n3⟩
      · rw [if_neg h] at n3 ⊢
        walk_at "dw"
        refine a_ifF rfl ?_
        walk_at "dw"
        refine ⟨.inl (by decide), ?_⟩
        walk_at "dw"
        refine a_I2 ⟨by omega, by omega, by decide⟩ ?_
        walk_at "dw"
        exact ⟨ha, n3⟩
    rw [sh_costs]
    change toO (.o (oL ((wts us ls (1 + (j : Int)) n).map .int))) _ _
    walk_at "dw"
    have ec : cutD ((wts us ls (1 + (j : Int)) n).map D.int) (some 1) none = ((wts us ls (1 + (j : Int)) n).drop 1).map .int := cutD_drop D.int _ 1
    rw [ec]
    have lw : (wts us ls (1 + (j : Int)) n).length = n + 1 := by unfold wts; rw [List.length_map, List.length_range]
    refine a_lcM ngF (by rw [List.length_map, List.length_drop]; omega) (fun m d acc NX3 hm ha n3 => ⟨by rfl, ?_⟩) ?_
    · rw [List.getElem?_map] at hm
      cases em : ((wts us ls (1 + (j : Int)) n).drop 1)[m]? with
      | none => rw [em] at hm; cases hm
      | some k =>
      rw [em] at hm
      obtain rfl := Option.some.inj hm
      walk_at "dw"
      refine a_I1 ?_
      walk_at "dw"
      exact ⟨ha, n3⟩
    have en : (((wts us ls (1 + (j : Int)) n).drop 1).map D.int).map ngF = (((wts us ls (1 + (j : Int)) n).drop 1).map fun z => -z).map .int := by
      rw [List.map_map, List.map_map]
      rfl
    rw [en]
    change toO (.o (oL ((((wts us ls (1 + (j : Int)) n).drop 1).map fun z => -z).map .int))) _ _
    walk_at "dw"
    refine a_sumE (asInts_map _) ?_
    walk_at "dw"
    refine a_subK (os := ((((wts us ls (1 + (j : Int)) n).drop 1).map fun z => -z).map D.int).map .fr) (jj := j) rfl (ixN_of (by omega) (by rw [List.length_map, List.length_map, List.length_map, List.length_drop]; omega)) ?_
    have es : ((((wts us ls (1 + (j : Int)) n).drop 1).map fun z => -z).map D.int |>.map O.fr).set j (.fr (.int (wts us ls (1 + (j : Int)) n).sum)) = ((wrow us ls n j).map D.int).map .fr := by
      unfold wrow
      rw [List.map_set, List.map_set]
    rw [es]
    change dPost [4] _ _ [S.ow (.fr (wordsD c n us ls)), .ow (oL (((List.range j).map (wrow us ls n)).map rowL)), .un, .un, .ow (oL ((wrow us ls n j).map .int)), .un, .un]
    walk_at "dw"
    refine a_app rfl (by rw [List.length_map, List.length_map, List.length_range]; omega) ?_
    walk_at "dw"
    refine nx _ ?_
    rw [List.range_succ, List.map_append, List.map_append]
    rfl
  · rw [rgD_len]
    rintro e rfl
    walk_at "dw"
    exact q
/-- all left below 2 ^ (40 * m): so many figures at most -/
theorem shr_lt {z : Int} {m : Nat} (h : z < 2 ^ (40 * (m + 1))) : z / 2 ^ (40 : Nat) < 2 ^ (40 * m) := by
  have e : (2 : Int) ^ (40 * (m + 1)) = 2 ^ (40 * m) * 2 ^ (40 : Nat) := by rw [show 40 * (m + 1) = 40 * m + 40 by omega, Int.pow_add]
  rw [e] at h
  exact Int.ediv_lt_of_lt_mul (by decide) h
theorem e_many (w : WOk n us ls) (n1 : 1 ≤ n) (yes : n ≤ 5 → ∀ o, P o []) (no : 10 < n → PE ⟨.ref c.TooMany, some [("most", .int 10)]⟩ []) (h : n ≤ 5 ∨ 10 < n) : D_many_by_wrong c [.fr (wordsD c n us ls)] P PE := by
  refine D_many_by_wrong_in ?_
  unfold B_many_by_wrong
  have ew : wordsD c n us ls = .ins c.Words [("blocks", .int n), ("ups", upsD us), ("lists", lstsD ls)] := rfl
  rw [ew]
  walk_at "dw"
  refine v_ite (fun h1 => ?_) (fun h1 => ?_)
  · refine a_raise1 ?_
    walk_at "dw"
    exact no (by omega)
  have n5 : n ≤ 5 := by omega
  walk_at "dw"
  rw [← ew]
  refine e_rowsOf w n1 n5 ?_
  walk_at "dw"
  refine e_det (wInv n1 n5 w.ll) n1 n5 fun z hz => ?_
  walk_at "dw"
  refine a_while (fun m e => ∃ (z : Int) (ds : List D), (z < 2 ^ (40 * m) ∧ ds.length + m ≤ 200) ∧ e = [.un, .ow (.fr (.int z)), .ow (oL ds)]) (m0 := 114) ⟨z, [], ⟨?_, by decide⟩, rfl⟩ ?_
  · have e : (2 : Int) ^ (40 * 114) = ((2 ^ 4560 : Nat) : Int) := by norm_cast
    have l : (2 ^ 4543 : Nat) ≤ 2 ^ 4560 := Nat.pow_le_pow_right (by decide) (by decide)
    rw [e]
    generalize (2 ^ 4543 : Nat) = A at *
    generalize (2 ^ 4560 : Nat) = B at *
    omega
  rintro m e NX ⟨z, ds, ⟨hz, hd⟩, rfl⟩ nx
  walk_at "dw"
  refine v_ite (fun h2 => ?_) (fun h2 => ?_)
  · cases m with
    | zero =>
      have : (2 : Int) ^ (40 * 0) = 1 := rfl
      omega
    | succ m =>
    walk_at "dw"
    refine a_I2 ⟨by decide, by decide, by decide⟩ ?_
    walk_at "dw"
    refine a_app rfl (by omega) ?_
    walk_at "dw"
    refine a_I2 (show (0 : Int) ≤ 40 by decide) ?_
    walk_at "dw"
    refine nx m _ (by omega) ⟨_, _, ⟨shr_lt hz, ?_⟩, rfl⟩
    rw [List.length_append]
    show ds.length + 1 + m ≤ 200
    omega
  · walk_at "dw"
    exact yes n5 _
end

/-! ### what is refused -/
section
variable {c : Cl} {P : O → List O → Prop} {PE : DExc → List O → Prop} {K : O → Prop} {d x y w : D} {n : Nat} {us : List (Option Int)} {ls : List (List (Option Bool))} {hs : List Int} {b p : Int} {env : DEnv} {X : DX}
theorem e_checkBlock (hp : PlainD [c.Tree, c.Words] d) (yes : withinD 1 n d = true → P (.fr .non) []) (no : withinD 1 n d = false → PE ⟨.ref c.NoBlock, none⟩ []) : D_check_block c [.fr (.int n), .fr d] P PE := by
  refine D_check_block_in ?_
  unfold B_check_block
  walk_at "dw"
  refine e_within hp ?_
  cases h : withinD 1 n d with
  | true =>
    walk_at "dw"
    exact yes h
  | false =>
    walk_at "dw"
    exact no h
theorem e_checkPlace (hp : PlainD [c.Tree, c.Words] d) (yes : withinD 0 n d = true → P (.fr .non) []) (no : withinD 0 n d = false → PE ⟨.ref c.NoPlace, none⟩ []) : D_check_place c [.fr (.int n), .fr d] P PE := by
  refine D_check_place_in ?_
  unfold B_check_place
  walk_at "dw"
  refine e_within hp ?_
  cases h : withinD 0 n d with
  | true =>
    walk_at "dw"
    exact yes h
  | false =>
    walk_at "dw"
    exact no h
abbrev lamR (c : Cl) (R : Str → Prop) : DExc → List O → Prop := fun e _ => true = true ∧ ((e.fs = none ∧ ∃ (C : Addr) (w : Str), e.cls = .ref C ∧ (C, w) ∈ tab31c c ∧ R w) ∨ (e.fs = some [(("most" : Str), D.int 10)] ∧ e.cls = .ref c.TooMany ∧ R "many"))
theorem tab_block : (c.NoBlock, ("block" : Str)) ∈ tab31c c := List.mem_of_getElem? (i := 0) rfl
theorem tab_place : (c.NoPlace, ("place" : Str)) ∈ tab31c c := List.mem_of_getElem? (i := 1) rfl
theorem tab_others : (c.OtherBlocks, ("others" : Str)) ∈ tab31c c := List.mem_of_getElem? (i := 2) rfl
def neqI : D → D → Bool
  | .int i, .int j => !decide (i = j)
  | _, _ => true
def wCost (n : Nat) (d x : D) : Str := if withinD 1 n d then (if withinD 0 n x && neqI x d then "let" else "place") else "block"
theorem w_cost {R : Str → Prop} (w : WOk n us ls) (n40 : n ≤ 40) (pd : PlainD [c.Tree, c.Words] d) (px : PlainD [c.Tree, c.Words] x) (q : R (wCost n d x)) : D_cost c [.fr (wordsD c n us ls), .fr d, .fr x] (fun _ _ => R "let") (lamR c R) := by
  refine D_cost_in ?_
  unfold B_cost
  unfold wCost at q
  have ew : wordsD c n us ls = .ins c.Words [("blocks", .int n), ("ups", upsD us), ("lists", lstsD ls)] := rfl
  rw [ew]
  walk_at "dw"
  refine e_checkBlock pd (fun h => ?_) (fun h => ⟨rfl, rfl, .inl ⟨rfl, _, _, rfl, tab_block, by rw [h] at q; exact q⟩⟩)
  obtain ⟨b, rfl, b0, b1⟩ := within_inv h
  rw [h] at q
  walk_at "dw"
  refine e_checkPlace px (fun h2 => ?_) (fun h2 => ⟨rfl, rfl, .inl ⟨rfl, _, _, rfl, tab_place, by rw [h2] at q; exact q⟩⟩)
  obtain ⟨p, rfl, p0, p1⟩ := within_inv h2
  rw [h2, show neqI (.int p) (.int b) = !decide (p = b) from rfl] at q
  walk_at "dw"
  by_cases e : p = b
  · rw [decide_eq_true e] at q ⊢
    walk_at "dw"
    exact ⟨rfl, .inl ⟨rfl, _, _, rfl, tab_place, q⟩⟩
  rw [decide_eq_false e] at q ⊢
  walk_at "dw"
  rw [← ew]
  refine e_raw w n40 b0 b1 ?_
  walk_at "dw"
  refine a_ixN (a := dC .non) rfl (d := .int (costT us ls b p)) (by rw [costs_at p0 p1, costD_ne p0 e]) ?_
  walk_at "dw"
  exact q
def wOth (b : Bool) : Str := if b then "let" else "others"
theorem w_wrong {R : Str → Prop} (w : WOk n us ls) (n40 : n ≤ 40) (tr : IsTree hs) (q : R (wOth (decide ((hs.length : Int) = n)))) : D_wrong_words c [.fr (wordsD c n us ls), .fr (treeD c hs)] (fun _ _ => R "let") (lamR c R) := by
  refine D_wrong_words_in ?_
  unfold B_wrong_words treeD
  have ew : wordsD c n us ls = .ins c.Words [("blocks", .int n), ("ups", upsD us), ("lists", lstsD ls)] := rfl
  rw [ew]
  walk_at "dw"
  rw [List.length_map]
  by_cases e : (hs.length : Int) = n
  · rw [decide_eq_true e] at q ⊢
    walk_at "dw"
    rw [← ew]
    refine e_rawWrong w tr (by omega) ?_
    walk_at "dw"
    exact q
  · rw [decide_eq_false e] at q ⊢
    walk_at "dw"
    exact ⟨rfl, .inl ⟨rfl, _, _, rfl, tab_others, q⟩⟩
def wMany (b : Bool) : Str := if b then "many" else "let"
theorem w_many {R : Str → Prop} (w : WOk n us ls) (n1 : 1 ≤ n) (h : n ≤ 5 ∨ 10 < n) (q : R (wMany (decide ((10 : Int) < n)))) : D_many_by_wrong c [.fr (wordsD c n us ls)] (fun _ _ => R "let") (lamR c R) := by
  refine e_many w n1 (fun h o => ?_) (fun h => ⟨rfl, .inr ⟨rfl, rfl, ?_⟩⟩) h
  · rw [decide_eq_false (by omega)] at q
    exact q
  · rw [decide_eq_true (by omega)] at q
    exact q
theorem a_lamM {f : Fn} {dv : DTV} {P : R → DEnv → Prop} {w : Str} (ds : List D) (env1 : DEnv) (hv : ∀ (PD : List D → DEnv → Prop) (X : DX), PD ds env1 → dv env PD X)
    (hf : ∀ R : Str → Prop, R w → f (ds.map .fr) (fun _ _ => R "let") (lamR c R)) (q : P (.o (.fr (.str w))) env1) : dLamM (tab31c c) c.TooMany "many" "most" 10 f dv env P X :=
  hv _ _ (hf (fun w => P (.o (.fr (.str w))) env1) q)
abbrev shS (s : Str) : Prop := SeqAt.shaped (.str s) = true
theorem a_neSame {s : Str} (h : shS s) (q : K (.fr (.bl false))) : dNe (.str s) (.str s) K := by
  refine ⟨h, h, ?_⟩
  rw [show PyData.eqv (.str s) (.str s) = (s == s) from rfl, beq_self_eq_true]
  exact q
theorem sh_cost (d x : D) : shS (wCost n d x) := by
  have h2 : shS "let" := by decide +kernel
  have h3 : shS "place" := by decide +kernel
  have h4 : shS "block" := by decide +kernel
  unfold wCost
  split
  · split <;> assumption
  · assumption
theorem sh_oth (b : Bool) : shS (wOth b) := by cases b <;> decide +kernel
theorem sh_many (b : Bool) : shS (wMany b) := by cases b <;> decide +kernel
theorem e_odd {o : O} (ho : HandOk o) (pd : PlA [c.Tree, c.Words] w) (q : ∀ (x : D) o', HandOk o' → PlA [c.Tree, c.Words] x → P (.fr x) [o']) : D_l_odd c [o, .fr (.int n), .fr w] P PE := by
  refine D_l_odd_in ?_
  unfold B_l_odd
  walk_at "dw"
  refine a_I1 ?_
  walk_at "dw"
  refine a_dct0 (a_forceDct ?_)
  walk_at "dw"
  refine a_I2 (by unfold CPow; decide) ?_
  walk_at "dw"
  refine e_deep ho fun d o1 ho1 p1 c1 => ?_
  walk_at "dw"
  have all : ∀ x ∈ [D.non, .bl true, .bl false, .int (-1), .int 0, .int n, .int ((n : Int) + 1), .str "1", .tup [.int 1], .lst [.int 1], .dct false [], .int (10 ^ (30 : Int).toNat), w, d, .int 1, .int 1], PlA [c.Tree, c.Words] x :=
    all_cons .non (all_cons .bl (all_cons .bl (all_cons .int (all_cons .int (all_cons .int (all_cons .int (all_cons .str (all_cons (.cons .int .tup0) (all_cons .lst (all_cons .dct (all_cons .int (all_cons pd (all_cons p1 (all_cons .int (all_cons .int all_nil)))))))))))))))
  refine e_draw ho1 (by decide) (by decide) fun r o2 ho2 r0 r1 => ?_
  walk_at "dw"
  obtain ⟨x, hx, at_⟩ := pick_mem (ds := [D.non, .bl true, .bl false, .int (-1), .int 0, .int n, .int ((n : Int) + 1), .str "1", .tup [.int 1], .lst [.int 1], .dct false [], .int (10 ^ (30 : Int).toNat), w, d, .int 1, .int 1]) r0 (by show r < ((16 : Nat) : Int); omega)
  refine a_ixP rfl at_ ?_
  walk_at "dw"
  exact q x o2 ho2 (all x hx)
end

/-! ### the law -/
section
variable {c : Cl} {P : O → List O → Prop} {PE : DExc → List O → Prop} {K : O → Prop} {d x y w : D} {n : Nat} {us : List (Option Int)} {ls : List (List (Option Bool))} {hs : List Int} {b p : Int} {env : DEnv} {X : DX}
def lawE (PE : DExc → DEnv → Prop) : DEnds := ⟨fun _ => False, fun r _ => r = .fr (.bl true), fun _ => False, fun _ => False, PE⟩
def insW (c : Cl) (n : Nat) (us : List (Option Int)) (ls : List (List (Option Bool))) : O := .ins c.Words [("blocks", .fr (.int n)), ("ups", .fr (upsD us)), ("lists", .fr (lstsD ls))]
theorem insW_frz : (insW c n us ls).frz = wordsD c n us ls := rfl
theorem pl_words {d : D} (h : d = wordsD c n us ls) : PlA [c.Tree, c.Words] d := by
  rw [h]
  exact .ins (by simp)
theorem e_law {o : O} {PE : DExc → DEnv → Prop} (ho : HandOk o) : D_law c (lawE PE) (.un :: .ow o :: List.replicate 11 .un) := by
  unfold D_law lawE
  walk_at "dw"
  refine a_rgb (by decide) ?_
  refine a_forI (fun _ e => ∃ o, HandOk o ∧ e = .un :: .ow o :: List.replicate 11 .un) ⟨o, ho, rfl⟩ ?_ ?_
  · clear ho
    clear o
    rintro i d0 e NX hd ⟨o, ho, rfl⟩ nx
    dsimp only [List.replicate]
    walk_at "dw"
    refine e_drawn ho (by decide) (by decide) fun n us ls o1 ho1 n1 n40 wk => ?_
    walk_at "dw"
    have el : ((us.map upD).length : Int) = n := by rw [List.length_map, wk.lu]
    rw [show upsD us = D.tup (us.map upD) from rfl]
    walk_at "dw"
    rw [el]
    rw [show D.tup (us.map upD) = upsD us from rfl]
    walk_at "dw"
    refine e_words wk n1 n40 ⟨rfl, a_one ?_⟩
    walk_at "dw"
    refine a_rgb (by decide) ?_
    refine a_forI (fun j e => ∃ (o : O) (s6 : O), (HandOk o ∧ (j = 0 ∧ s6 = insW c n us ls ∨ 0 < j ∧ s6 = .fr (wordsD c n us ls))) ∧ e = [.un, .ow o, .un, .ow (.fr (upsD us)), .ow (.fr (lstsD ls)), .ow (.fr (.int n)), .ow s6, .un, .un, .un, .un, .un, .un]) ⟨o1, _, ⟨ho1, .inl ⟨rfl, rfl⟩⟩, rfl⟩ ?_ ?_
    · rintro j d1 e NX2 hd1 ⟨o2, s6, ⟨ho2, h6⟩, rfl⟩ nx2
      walk_at "dw"
      refine a_cut (fun e => ∃ (o : O) (x y : D), (HandOk o ∧ PlA [c.Tree, c.Words] x ∧ PlA [c.Tree, c.Words] y) ∧ e = [.un, .ow o, .un, .ow (.fr (upsD us)), .ow (.fr (lstsD ls)), .ow (.fr (.int n)), .ow (.fr (wordsD c n us ls)), .un, .ow (.fr x), .ow (.fr y), .un, .un, .un]) (fun NX3 nx3 => ?_) ?_
      · rcases h6 with ⟨_, rfl⟩ | ⟨_, rfl⟩
        · walk_at "dw"
          refine a_forceI (o := insW c n us ls) rfl ?_
          rw [insW_frz]
          walk_at "dw"
          refine e_odd ho2 (pl_words rfl) fun x o3 ho3 hx => ?_
          walk_at "dw"
          refine e_odd ho3 (pl_words rfl) fun y o4 ho4 hy => ?_
          walk_at "dw"
          exact nx3 _ ⟨o4, x, y, ⟨ho4, hx, hy⟩, rfl⟩
        · walk_at "dw"
          refine e_odd ho2 (pl_words rfl) fun x o3 ho3 hx => ?_
          walk_at "dw"
          refine e_odd ho3 (pl_words rfl) fun y o4 ho4 hy => ?_
          walk_at "dw"
          exact nx3 _ ⟨o4, x, y, ⟨ho4, hx, hy⟩, rfl⟩
      rintro e ⟨o3, x, y, ⟨ho3, hx, hy⟩, rfl⟩
      refine a_cut (fun e => ∃ (o : O) (x : D), (HandOk o ∧ PlA [c.Tree, c.Words] x) ∧ e = [.un, .ow o, .un, .ow (.fr (upsD us)), .ow (.fr (lstsD ls)), .ow (.fr (.int n)), .ow (.fr (wordsD c n us ls)), .un, .ow (.fr x), .ow (.fr y), .un, .un, .un]) (fun NX3 nx3 => ?_) ?_
      · walk_at "dw"
        refine e_draw ho3 (by decide) (by decide) fun r o4 ho4 r0 r1 => ?_
        walk_at "dw"
        refine v_ite (fun h => ?_) (fun h => ?_)
        · walk_at "dw"
          refine e_draw ho4 (by omega) (by omega) fun r o5 ho5 r0 r1 => ?_
          walk_at "dw"
          exact nx3 _ ⟨o5, _, ⟨ho5, .int⟩, rfl⟩
        · walk_at "dw"
          exact nx3 _ ⟨o4, _, ⟨ho4, hx⟩, rfl⟩
      clear hx
      rintro e ⟨o4, x, ⟨ho4, hx⟩, rfl⟩
      refine a_cut (fun e => ∃ (o : O) (y : D), (HandOk o ∧ PlA [c.Tree, c.Words] y) ∧ e = [.un, .ow o, .un, .ow (.fr (upsD us)), .ow (.fr (lstsD ls)), .ow (.fr (.int n)), .ow (.fr (wordsD c n us ls)), .un, .ow (.fr x), .ow (.fr y), .un, .un, .un]) (fun NX3 nx3 => ?_) ?_
      · walk_at "dw"
        refine e_draw ho4 (by decide) (by decide) fun r o5 ho5 r0 r1 => ?_
        walk_at "dw"
        refine v_ite (fun h => ?_) (fun h => ?_)
        · walk_at "dw"
          refine e_draw ho5 (by omega) (by omega) fun r o6 ho6 r0 r1 => ?_
          walk_at "dw"
          refine e_draw ho6 (by decide) (by decide) fun r2 o7 ho7 r3 r4 => ?_
          walk_at "dw"
          obtain ⟨z, hz, at_⟩ := pick_mem (ds := [x, .int r]) r3 (by show r2 < ((2 : Nat) : Int); omega)
          refine a_ixL at_ ?_
          walk_at "dw"
          exact nx3 _ ⟨o7, z, ⟨ho7, (all_cons (Q := PlA [c.Tree, c.Words]) hx (all_cons .int all_nil)) z hz⟩, rfl⟩
        · walk_at "dw"
          exact nx3 _ ⟨o5, _, ⟨ho5, hy⟩, rfl⟩
      clear hy
      rintro e ⟨o5, y, ⟨ho5, hy⟩, rfl⟩
      walk_at "dw"
      refine a_cut (fun e => e = [.un, .ow o5, .un, .ow (.fr (upsD us)), .ow (.fr (lstsD ls)), .ow (.fr (.int n)), .ow (.fr (wordsD c n us ls)), .un, .ow (.fr x), .ow (.fr y), .ow (.fr (.str (wCost n x y))), .un, .un]) (fun NX3 nx3 => ?_) ?_
      · unfold wCost at nx3
        walk_at "dw"
        refine e_whole hx.plain ?_
        cases h1 : withinD 1 n x with
        | false =>
          rw [h1] at nx3
          walk_at "dw"
          exact nx3 _ rfl
        | true =>
        rw [h1] at nx3
        obtain ⟨b, rfl, b0, b1⟩ := within_inv h1
        walk_at "dw"
        refine e_whole hy.plain ?_
        cases h2 : withinD 0 n y with
        | false =>
          rw [h2] at nx3
          walk_at "dw"
          exact nx3 _ rfl
        | true =>
        rw [h2] at nx3
        obtain ⟨p, rfl, p0, p1⟩ := within_inv h2
        rw [show neqI (.int p) (.int b) = !decide (p = b) from rfl] at nx3
        walk_at "dw"
        by_cases e : p = b
        · rw [decide_eq_true e] at nx3 ⊢
          walk_at "dw"
          exact nx3 _ rfl
        · rw [decide_eq_false e] at nx3 ⊢
          walk_at "dw"
          exact nx3 _ rfl
      rintro e rfl
      walk_at "dw"
      refine a_lamM [wordsD c n us ls, x, y] _ (fun PD X h => by walk_at "dw"; exact h) (fun R r => w_cost wk n40 hx.plain hy.plain r) ?_
      walk_at "dw"
      refine a_neSame (sh_cost _ _) ?_
      walk_at "dw"
      exact nx2 _ ⟨o5, _, ⟨ho5, .inr ⟨by omega, rfl⟩⟩, rfl⟩
    rw [rgD_len]
    rintro e ⟨o2, s6, ⟨ho2, h6⟩, rfl⟩
    obtain rfl : s6 = .fr (wordsD c n us ls) := by
      rcases h6 with ⟨h, _⟩ | ⟨_, h⟩
      · exact absurd h (by decide)
      · exact h
    walk_at "dw"
    refine e_draw ho2 (by decide) (by decide) fun r o3 ho3 r0 r1 => ?_
    walk_at "dw"
    obtain ⟨m, em⟩ : ∃ m : Nat, 1 + r = (m : Int) := ⟨(1 + r).toNat, by omega⟩
    rw [em]
    refine a_cut (fun e => ∃ (o : O) (m : Nat), (HandOk o ∧ 1 ≤ m ∧ m ≤ 40) ∧ e = [.un, .ow o, .un, .ow (.fr (upsD us)), .ow (.fr (lstsD ls)), .ow (.fr (.int n)), .ow (.fr (wordsD c n us ls)), .un, .un, .un, .un, .ow (.fr (.int m)), .un]) (fun NX3 nx3 => ?_) ?_
    · walk_at "dw"
      refine e_draw ho3 (by decide) (by decide) fun r o4 ho4 _ _ => ?_
      walk_at "dw"
      refine v_ite (fun h => ?_) (fun h => ?_)
      · walk_at "dw"
        exact nx3 _ ⟨o4, n, ⟨ho4, n1, n40⟩, rfl⟩
      · walk_at "dw"
        exact nx3 _ ⟨o4, m, ⟨ho4, by omega, by omega⟩, rfl⟩
    clear em m
    rintro e ⟨o4, m, ⟨ho4, m1, m40⟩, rfl⟩
    walk_at "dw"
    refine e_tree ho4 m1 m40 fun hs o5 ho5 lh tr => ?_
    walk_at "dw"
    refine e_init tr ⟨rfl, a_one ?_⟩
    walk_at "dw"
    refine a_cut (fun e => e = [.un, .ow o5, .un, .ow (.fr (upsD us)), .ow (.fr (lstsD ls)), .ow (.fr (.int n)), .ow (.fr (wordsD c n us ls)), .un, .un, .un, .un, .un, .un]) (fun NX3 nx3 => ?_) ?_
    · walk_at "dw"
      refine a_lamM [wordsD c n us ls, treeD c hs] [.un, .ow o5, .un, .ow (.fr (upsD us)), .ow (.fr (lstsD ls)), .ow (.fr (.int n)), .ow (.fr (wordsD c n us ls)), .un, .un, .un, .un, .ow (.fr (.int m)), .ow (.fr (treeD c hs))] (fun PD X h => by walk_at "dw"; refine a_forceI rfl ?_; walk_at "dw"; exact h) (fun R r => w_wrong wk n40 tr r) ?_
      walk_at "dw"
      have so := sh_oth (decide ((hs.length : Int) = n))
      by_cases e : (hs.length : Int) = n
      · rw [decide_eq_true e] at so ⊢
        rw [decide_eq_true (show (m : Int) = n by omega)]
        walk_at "dw"
        refine a_neSame so ?_
        walk_at "dw"
        exact nx3 _ rfl
      · rw [decide_eq_false e] at so ⊢
        rw [decide_eq_false (show ¬ (m : Int) = n by omega)]
        walk_at "dw"
        refine a_neSame so ?_
        walk_at "dw"
        exact nx3 _ rfl
    rintro e rfl
    refine a_cut (fun e => e = [.un, .ow o5, .un, .ow (.fr (upsD us)), .ow (.fr (lstsD ls)), .un, .ow (.fr (wordsD c n us ls)), .un, .un, .un, .un, .un, .un]) (fun NX3 nx3 => ?_) ?_
    · walk_at "dw"
      by_cases g : (10 : Int) < n
      · have so := sh_many (decide ((10 : Int) < n))
        rw [decide_eq_true g] at so ⊢
        walk_at "dw"
        refine a_lamM [wordsD c n us ls] _ (fun PD X h => by walk_at "dw"; exact h) (fun R r => w_many wk n1 (.inr (by omega)) r) ?_
        rw [decide_eq_true g]
        walk_at "dw"
        rw [decide_eq_true g]
        walk_at "dw"
        refine a_neSame so ?_
        walk_at "dw"
        exact nx3 _ rfl
      have so := sh_many (decide ((10 : Int) < n))
      rw [decide_eq_false g] at so ⊢
      walk_at "dw"
      refine v_ite (fun h => ?_) (fun h => ?_)
      · walk_at "dw"
        refine a_lamM [wordsD c n us ls] _ (fun PD X h => by walk_at "dw"; exact h) (fun R r => w_many wk n1 (.inl (by omega)) r) ?_
        rw [decide_eq_false g]
        walk_at "dw"
        rw [decide_eq_false g]
        walk_at "dw"
        refine a_neSame so ?_
        walk_at "dw"
        exact nx3 _ rfl
      · walk_at "dw"
        exact nx3 _ rfl
    rintro e rfl
    have ew : wordsD c n us ls = .ins c.Words [("blocks", .int n), ("ups", upsD us), ("lists", lstsD ls)] := rfl
    rw [ew]
    walk_at "dw"
    have pU : us.length ≤ 100 := by rw [wk.lu]; omega
    refine e_is 3 _ _ _ _ (.inr ⟨true, _, _, rfl, rfl, by show 2 ≤ 100; decide, by show 2 ≤ 100; decide, pr_cons (pr_ups pU pU) (pr_cons (pr_lsts wk wk (by omega) (by omega)) pr_nil)⟩) ?_
    rw [eqB_eq rfl]
    walk_at "dw"
    exact nx _ ⟨o5, ho5, rfl⟩
  · rintro e ⟨o', ho', rfl⟩
    walk_at "dw"
end

theorem pure_law {K : PySem.W.Frag} {c : Cl} {vs : List V} {H : Hp} {Q : VK} {E : XK} (fa : Fa K c) (h : spLaw K vs H Q E) : u_law K c { nx := fun _ H' => Q .non H', rt := Q } (L2.start ["_law_script", "_law_hand_here", "_law_turn", "_law_ups", "_law_lists", "_law_blocks", "_law_words", "_law_again", "_law_block", "_law_place", "_law_due", "_law_many", "_law_tree_here"] vs) H :=
  law_ok (WO := fun _ _ _ _ => False) (n := 11) (N := ["_law_script", "_law_hand_here", "_law_turn", "_law_ups", "_law_lists", "_law_blocks", "_law_words", "_law_again", "_law_block", "_law_place", "_law_due", "_law_many", "_law_tree_here"]) rfl (sim_law fa) (fun o ho => e_law ho) h

def topS (i : Nat) : Stmt := PySem.Challenge.pw_foldervotes_k31_words_refused.main.body.getD i (.Pass ⟨0, 0, 0, 0⟩)
abbrev s_BadTree_init : Stmt := (inClass (topS 2) 0)
abbrev N_BadTree_init : List Str := ["self", "part"]
theorem sc_BadTree_init : FnScope N_BadTree_init ["self", "part"] (defScope s_BadTree_init) := ⟨rfl, rfl, rfl, by decide +kernel, rfl, by decide +kernel, by decide +kernel⟩
abbrev s_BadWords_init : Stmt := (inClass (topS 7) 0)
abbrev N_BadWords_init : List Str := ["self", "part"]
theorem sc_BadWords_init : FnScope N_BadWords_init ["self", "part"] (defScope s_BadWords_init) := ⟨rfl, rfl, rfl, by decide +kernel, rfl, by decide +kernel, by decide +kernel⟩
abbrev s_TooMany_init : Stmt := (inClass (topS 6) 0)
abbrev N_TooMany_init : List Str := ["self", "most"]
theorem sc_TooMany_init : FnScope N_TooMany_init ["self", "most"] (defScope s_TooMany_init) := ⟨rfl, rfl, rfl, by decide +kernel, rfl, by decide +kernel, by decide +kernel⟩
abbrev s_is_integer : Stmt := (topS 10)
abbrev N_is_integer : List Str := ["thing"]
theorem sc_is_integer : FnScope N_is_integer ["thing"] (defScope s_is_integer) := ⟨rfl, rfl, rfl, by decide +kernel, rfl, by decide +kernel, by decide +kernel⟩
abbrev s_is_within : Stmt := (topS 11)
abbrev N_is_within : List Str := ["thing", "least", "most"]
theorem sc_is_within : FnScope N_is_within ["thing", "least", "most"] (defScope s_is_within) := ⟨rfl, rfl, rfl, by decide +kernel, rfl, by decide +kernel, by decide +kernel⟩
abbrev s_is_flag : Stmt := (topS 12)
abbrev N_is_flag : List Str := ["thing"]
theorem sc_is_flag : FnScope N_is_flag ["thing"] (defScope s_is_flag) := ⟨rfl, rfl, rfl, by decide +kernel, rfl, by decide +kernel, by decide +kernel⟩
abbrev s_check_block : Stmt := (topS 13)
abbrev N_check_block : List Str := ["blocks", "thing"]
theorem sc_check_block : FnScope N_check_block ["blocks", "thing"] (defScope s_check_block) := ⟨rfl, rfl, rfl, by decide +kernel, rfl, by decide +kernel, by decide +kernel⟩
abbrev s_check_place : Stmt := (topS 14)
abbrev N_check_place : List Str := ["blocks", "thing"]
theorem sc_check_place : FnScope N_check_place ["blocks", "thing"] (defScope s_check_place) := ⟨rfl, rfl, rfl, by decide +kernel, rfl, by decide +kernel, by decide +kernel⟩
abbrev s_check_ups : Stmt := (topS 16)
abbrev N_check_ups : List Str := ["blocks", "ups", "block", "told"]
theorem sc_check_ups : FnScope N_check_ups ["blocks", "ups"] (defScope s_check_ups) := ⟨rfl, rfl, rfl, by decide +kernel, rfl, by decide +kernel, by decide +kernel⟩
abbrev s_check_lists : Stmt := (topS 17)
abbrev N_check_lists : List Str := ["blocks", "lists", "place", "block", "told"]
theorem sc_check_lists : FnScope N_check_lists ["blocks", "lists"] (defScope s_check_lists) := ⟨rfl, rfl, rfl, by decide +kernel, rfl, by decide +kernel, by decide +kernel⟩
abbrev s_Words_init : Stmt := (inClass (topS 18) 0)
abbrev N_Words_init : List Str := ["self", "blocks", "ups", "lists"]
theorem sc_Words_init : FnScope N_Words_init ["self", "blocks", "ups", "lists"] (defScope s_Words_init) := ⟨rfl, rfl, rfl, by decide +kernel, rfl, by decide +kernel, by decide +kernel⟩
abbrev s_raw_costs : Stmt := (topS 19)
abbrev N_raw_costs : List Str := ["words", "block", "said", "column", "listed", "found", "place", "told", "wrong", "row"]
theorem sc_raw_costs : FnScope N_raw_costs ["words", "block"] (defScope s_raw_costs) := ⟨rfl, rfl, rfl, by decide +kernel, rfl, by decide +kernel, by decide +kernel⟩
abbrev s_cost : Stmt := (topS 20)
abbrev N_cost : List Str := ["words", "block", "place"]
theorem sc_cost : FnScope N_cost ["words", "block", "place"] (defScope s_cost) := ⟨rfl, rfl, rfl, by decide +kernel, rfl, by decide +kernel, by decide +kernel⟩
abbrev s_raw_wrong_words : Stmt := (topS 21)
abbrev N_raw_wrong_words : List Str := ["words", "hung", "number", "place"]
theorem sc_raw_wrong_words : FnScope N_raw_wrong_words ["words", "hung"] (defScope s_raw_wrong_words) := ⟨rfl, rfl, rfl, by decide +kernel, rfl, by decide +kernel, by decide +kernel⟩
abbrev s_wrong_words : Stmt := (topS 22)
abbrev N_wrong_words : List Str := ["words", "tree"]
theorem sc_wrong_words : FnScope N_wrong_words ["words", "tree"] (defScope s_wrong_words) := ⟨rfl, rfl, rfl, by decide +kernel, rfl, by decide +kernel, by decide +kernel⟩
abbrev s_rows_of : Stmt := (topS 26)
abbrev N_rows_of : List Str := ["words", "found", "block", "weights", "row", "one", "weight"]
theorem sc_rows_of : FnScope N_rows_of ["words"] (defScope s_rows_of) := ⟨rfl, rfl, rfl, by decide +kernel, rfl, by decide +kernel, by decide +kernel⟩
abbrev s_led_down : Stmt := (topS 27)
abbrev N_led_down : List Str := ["rows", "at", "ahead", "first", "found", "row", "k"]
theorem sc_led_down : FnScope N_led_down ["rows", "at", "ahead"] (defScope s_led_down) := ⟨rfl, rfl, rfl, by decide +kernel, rfl, by decide +kernel, by decide +kernel⟩
abbrev s_determinant : Stmt := (topS 28)
abbrev N_determinant : List Str := ["rows", "ahead", "at", "later"]
theorem sc_determinant : FnScope N_determinant ["rows"] (defScope s_determinant) := ⟨rfl, rfl, rfl, by decide +kernel, rfl, by decide +kernel, by decide +kernel⟩
abbrev s_many_by_wrong : Stmt := (topS 29)
abbrev N_many_by_wrong : List Str := ["words", "left", "found"]
theorem sc_many_by_wrong : FnScope N_many_by_wrong ["words"] (defScope s_many_by_wrong) := ⟨rfl, rfl, rfl, by decide +kernel, rfl, by decide +kernel, by decide +kernel⟩
abbrev s_leads_home : Stmt := (topS 32)
abbrev N_leads_home : List Str := ["hung", "block", "here", "turn"]
theorem sc_leads_home : FnScope N_leads_home ["hung", "block"] (defScope s_leads_home) := ⟨rfl, rfl, rfl, by decide +kernel, rfl, by decide +kernel, by decide +kernel⟩
abbrev s_Tree_init : Stmt := (inClass (topS 33) 0)
abbrev N_Tree_init : List Str := ["self", "hung", "block"]
theorem sc_Tree_init : FnScope N_Tree_init ["self", "hung"] (defScope s_Tree_init) := ⟨rfl, rfl, rfl, by decide +kernel, rfl, by decide +kernel, by decide +kernel⟩
abbrev s_l_hand : Stmt := (topS 35)
abbrev N_l_hand : List Str := ["_law_script", "_law_cells", "_law_cell"]
theorem sc_l_hand : FnScope N_l_hand ["_law_script"] (defScope s_l_hand) := ⟨rfl, rfl, rfl, by decide +kernel, rfl, by decide +kernel, by decide +kernel⟩
abbrev s_l_draw : Stmt := (topS 36)
abbrev N_l_draw : List Str := ["_law_hand_here", "_law_many", "_law_cell", "_law_digit", "_law_number"]
theorem sc_l_draw : FnScope N_l_draw ["_law_hand_here", "_law_many"] (defScope s_l_draw) := ⟨rfl, rfl, rfl, by decide +kernel, rfl, by decide +kernel, by decide +kernel⟩
abbrev s_l_is : Stmt := (topS 37)
abbrev N_l_is : List Str := ["_law_told", "_law_due", "_law_one", "_law_two"]
theorem sc_l_is : FnScope N_l_is ["_law_told", "_law_due"] (defScope s_l_is) := ⟨rfl, rfl, rfl, by decide +kernel, rfl, by decide +kernel, by decide +kernel⟩
abbrev s_l_deep : Stmt := (topS 38)
abbrev N_l_deep : List Str := ["_law_hand_here", "_law_found", "_law_turn"]
theorem sc_l_deep : FnScope N_l_deep ["_law_hand_here"] (defScope s_l_deep) := ⟨rfl, rfl, rfl, by decide +kernel, rfl, by decide +kernel, by decide +kernel⟩
abbrev s_l_tree : Stmt := (topS 39)
abbrev N_l_tree : List Str := ["_law_hand_here", "_law_blocks", "_law_left", "_law_order", "_law_hung", "_law_kind", "_law_turn", "_law_block", "_law_near"]
theorem sc_l_tree : FnScope N_l_tree ["_law_hand_here", "_law_blocks"] (defScope s_l_tree) := ⟨rfl, rfl, rfl, by decide +kernel, rfl, by decide +kernel, by decide +kernel⟩
abbrev s_l_right : Stmt := (topS 40)
abbrev N_l_right : List Str := ["_law_hung", "_law_lists", "_law_place", "_law_here"]
theorem sc_l_right : FnScope N_l_right ["_law_hung"] (defScope s_l_right) := ⟨rfl, rfl, rfl, by decide +kernel, rfl, by decide +kernel, by decide +kernel⟩
abbrev s_l_put : Stmt := (topS 41)
abbrev N_l_put : List Str := ["_law_things", "_law_at", "_law_thing"]
theorem sc_l_put : FnScope N_l_put ["_law_things", "_law_at", "_law_thing"] (defScope s_l_put) := ⟨rfl, rfl, rfl, by decide +kernel, rfl, by decide +kernel, by decide +kernel⟩
abbrev s_l_worn : Stmt := (topS 42)
abbrev N_l_worn : List Str := ["_law_hand_here", "_law_ups", "_law_lists", "_law_many", "_law_blocks", "_law_turn", "_law_block", "_law_place", "_law_is_lost", "_law_row"]
theorem sc_l_worn : FnScope N_l_worn ["_law_hand_here", "_law_ups", "_law_lists", "_law_many"] (defScope s_l_worn) := ⟨rfl, rfl, rfl, by decide +kernel, rfl, by decide +kernel, by decide +kernel⟩
abbrev s_l_any : Stmt := (topS 43)
abbrev N_l_any : List Str := ["_law_hand_here", "_law_blocks", "_law_ups", "_law_block", "_law_places", "_law_lists", "_law_place", "_law_row"]
theorem sc_l_any : FnScope N_l_any ["_law_hand_here", "_law_blocks"] (defScope s_l_any) := ⟨rfl, rfl, rfl, by decide +kernel, rfl, by decide +kernel, by decide +kernel⟩
abbrev s_l_drawn : Stmt := (topS 44)
abbrev N_l_drawn : List Str := ["_law_hand_here", "_law_most", "_law_blocks", "_law_ups", "_law_lists"]
theorem sc_l_drawn : FnScope N_l_drawn ["_law_hand_here", "_law_most"] (defScope s_l_drawn) := ⟨rfl, rfl, rfl, by decide +kernel, rfl, by decide +kernel, by decide +kernel⟩
abbrev s_l_is_whole : Stmt := (topS 45)
abbrev N_l_is_whole : List Str := ["_law_thing", "_law_least", "_law_most"]
theorem sc_l_is_whole : FnScope N_l_is_whole ["_law_thing", "_law_least", "_law_most"] (defScope s_l_is_whole) := ⟨rfl, rfl, rfl, by decide +kernel, rfl, by decide +kernel, by decide +kernel⟩
abbrev s_l_word : Stmt := (topS 46)
abbrev N_l_word : List Str := ["_law_call", "_law_word_here", "e", "_law_flags"]
theorem sc_l_word : FnScope N_l_word ["_law_call"] (defScope s_l_word) := ⟨rfl, rfl, rfl, by decide +kernel, rfl, by decide +kernel, by decide +kernel⟩
abbrev s_l_odd : Stmt := (topS 47)
abbrev N_l_odd : List Str := ["_law_hand_here", "_law_blocks", "_law_words", "_law_odds"]
theorem sc_l_odd : FnScope N_l_odd ["_law_hand_here", "_law_blocks", "_law_words"] (defScope s_l_odd) := ⟨rfl, rfl, rfl, by decide +kernel, rfl, by decide +kernel, by decide +kernel⟩
abbrev s_law : Stmt := (topS 48)
abbrev N_law : List Str := ["_law_script", "_law_hand_here", "_law_turn", "_law_ups", "_law_lists", "_law_blocks", "_law_words", "_law_again", "_law_block", "_law_place", "_law_due", "_law_many", "_law_tree_here"]
theorem sc_law : FnScope N_law ["_law_script"] (defScope s_law) := ⟨rfl, rfl, rfl, by decide +kernel, rfl, by decide +kernel, by decide +kernel⟩
structure Txt (K : PySem.W.Frag) (mg : Str → Option Value) where
  z_ValueError : mg "ValueError" = none
  z_abs : mg "abs" = none
  z_all : mg "all" = none
  z_bool : mg "bool" = none
  z_enumerate : mg "enumerate" = none
  z_int : mg "int" = none
  z_isinstance : mg "isinstance" = none
  z_len : mg "len" = none
  z_list : mg "list" = none
  z_max : mg "max" = none
  z_min : mg "min" = none
  z_range : mg "range" = none
  z_sum : mg "sum" = none
  z_tuple : mg "tuple" = none
  z_zip : mg "zip" = none
  k_FIGURE : Tok
  c_FIGURE : mg "FIGURE" = some (.int 40 k_FIGURE)
  k_HEAD : Tok
  c_HEAD : mg "HEAD" = some (.int 0 k_HEAD)
  k_MOST_BLOCKS_checks : Tok
  c_MOST_BLOCKS_checks : mg "MOST_BLOCKS_checks" = some (.int 40 k_MOST_BLOCKS_checks)
  k_MOST_BLOCKS_counts : Tok
  c_MOST_BLOCKS_counts : mg "MOST_BLOCKS_counts" = some (.int 10 k_MOST_BLOCKS_counts)
  C_Tree : Addr
  g_Tree : mg "Tree" = some (.ref C_Tree)
  C_Words : Addr
  g_Words : mg "Words" = some (.ref C_Words)
  C_NoBlock : Addr
  g_NoBlock : mg "NoBlock" = some (.ref C_NoBlock)
  C_NoPlace : Addr
  g_NoPlace : mg "NoPlace" = some (.ref C_NoPlace)
  C_OtherBlocks : Addr
  g_OtherBlocks : mg "OtherBlocks" = some (.ref C_OtherBlocks)
  C_TooMany : Addr
  g_TooMany : mg "TooMany" = some (.ref C_TooMany)
  C_BadTree : Addr
  g_BadTree : mg "BadTree" = some (.ref C_BadTree)
  C_BadWords : Addr
  g_BadWords : mg "BadWords" = some (.ref C_BadWords)
  C_VoteError : Addr
  g_VoteError : mg "VoteError" = some (.ref C_VoteError)
  f_BadTree_init : Addr
  fd_BadTree_init : FuncData
  F_BadTree_init : Fun K "__init__" "BadTree.__init__" s_BadTree_init f_BadTree_init fd_BadTree_init
  b_BadTree_init : Binds K fd_BadTree_init ["self", "part"] []
  f_BadWords_init : Addr
  fd_BadWords_init : FuncData
  F_BadWords_init : Fun K "__init__" "BadWords.__init__" s_BadWords_init f_BadWords_init fd_BadWords_init
  b_BadWords_init : Binds K fd_BadWords_init ["self", "part"] []
  f_TooMany_init : Addr
  fd_TooMany_init : FuncData
  F_TooMany_init : Fun K "__init__" "TooMany.__init__" s_TooMany_init f_TooMany_init fd_TooMany_init
  b_TooMany_init : Binds K fd_TooMany_init ["self", "most"] []
  f_is_integer : Addr
  fd_is_integer : FuncData
  F_is_integer : Fun K "is_integer" "is_integer" s_is_integer f_is_integer fd_is_integer
  b_is_integer : Binds K fd_is_integer ["thing"] []
  g_is_integer : mg "is_integer" = some (.ref f_is_integer)
  f_is_within : Addr
  fd_is_within : FuncData
  F_is_within : Fun K "is_within" "is_within" s_is_within f_is_within fd_is_within
  b_is_within : Binds K fd_is_within ["thing", "least", "most"] []
  g_is_within : mg "is_within" = some (.ref f_is_within)
  f_is_flag : Addr
  fd_is_flag : FuncData
  F_is_flag : Fun K "is_flag" "is_flag" s_is_flag f_is_flag fd_is_flag
  b_is_flag : Binds K fd_is_flag ["thing"] []
  g_is_flag : mg "is_flag" = some (.ref f_is_flag)
  f_check_block : Addr
  fd_check_block : FuncData
  F_check_block : Fun K "check_block" "check_block" s_check_block f_check_block fd_check_block
  b_check_block : Binds K fd_check_block ["blocks", "thing"] []
  g_check_block : mg "check_block" = some (.ref f_check_block)
  f_check_place : Addr
  fd_check_place : FuncData
  F_check_place : Fun K "check_place" "check_place" s_check_place f_check_place fd_check_place
  b_check_place : Binds K fd_check_place ["blocks", "thing"] []
  g_check_place : mg "check_place" = some (.ref f_check_place)
  f_check_ups : Addr
  fd_check_ups : FuncData
  F_check_ups : Fun K "check_ups" "check_ups" s_check_ups f_check_ups fd_check_ups
  b_check_ups : Binds K fd_check_ups ["blocks", "ups"] []
  g_check_ups : mg "check_ups" = some (.ref f_check_ups)
  f_check_lists : Addr
  fd_check_lists : FuncData
  F_check_lists : Fun K "check_lists" "check_lists" s_check_lists f_check_lists fd_check_lists
  b_check_lists : Binds K fd_check_lists ["blocks", "lists"] []
  g_check_lists : mg "check_lists" = some (.ref f_check_lists)
  f_Words_init : Addr
  fd_Words_init : FuncData
  F_Words_init : Fun K "__init__" "Words.__init__" s_Words_init f_Words_init fd_Words_init
  b_Words_init : Binds K fd_Words_init ["self", "blocks", "ups", "lists"] []
  f_raw_costs : Addr
  fd_raw_costs : FuncData
  F_raw_costs : Fun K "raw_costs" "raw_costs" s_raw_costs f_raw_costs fd_raw_costs
  b_raw_costs : Binds K fd_raw_costs ["words", "block"] []
  g_raw_costs : mg "raw_costs" = some (.ref f_raw_costs)
  f_cost : Addr
  fd_cost : FuncData
  F_cost : Fun K "cost" "cost" s_cost f_cost fd_cost
  b_cost : Binds K fd_cost ["words", "block", "place"] []
  g_cost : mg "cost" = some (.ref f_cost)
  f_raw_wrong_words : Addr
  fd_raw_wrong_words : FuncData
  F_raw_wrong_words : Fun K "raw_wrong_words" "raw_wrong_words" s_raw_wrong_words f_raw_wrong_words fd_raw_wrong_words
  b_raw_wrong_words : Binds K fd_raw_wrong_words ["words", "hung"] []
  g_raw_wrong_words : mg "raw_wrong_words" = some (.ref f_raw_wrong_words)
  f_wrong_words : Addr
  fd_wrong_words : FuncData
  F_wrong_words : Fun K "wrong_words" "wrong_words" s_wrong_words f_wrong_words fd_wrong_words
  b_wrong_words : Binds K fd_wrong_words ["words", "tree"] []
  g_wrong_words : mg "wrong_words" = some (.ref f_wrong_words)
  f_rows_of : Addr
  fd_rows_of : FuncData
  F_rows_of : Fun K "rows_of" "rows_of" s_rows_of f_rows_of fd_rows_of
  b_rows_of : Binds K fd_rows_of ["words"] []
  g_rows_of : mg "rows_of" = some (.ref f_rows_of)
  f_led_down : Addr
  fd_led_down : FuncData
  F_led_down : Fun K "led_down" "led_down" s_led_down f_led_down fd_led_down
  b_led_down : Binds K fd_led_down ["rows", "at", "ahead"] []
  g_led_down : mg "led_down" = some (.ref f_led_down)
  f_determinant : Addr
  fd_determinant : FuncData
  F_determinant : Fun K "determinant" "determinant" s_determinant f_determinant fd_determinant
  b_determinant : Binds K fd_determinant ["rows"] []
  g_determinant : mg "determinant" = some (.ref f_determinant)
  f_many_by_wrong : Addr
  fd_many_by_wrong : FuncData
  F_many_by_wrong : Fun K "many_by_wrong" "many_by_wrong" s_many_by_wrong f_many_by_wrong fd_many_by_wrong
  b_many_by_wrong : Binds K fd_many_by_wrong ["words"] []
  g_many_by_wrong : mg "many_by_wrong" = some (.ref f_many_by_wrong)
  f_leads_home : Addr
  fd_leads_home : FuncData
  F_leads_home : Fun K "leads_home" "leads_home" s_leads_home f_leads_home fd_leads_home
  b_leads_home : Binds K fd_leads_home ["hung", "block"] []
  g_leads_home : mg "leads_home" = some (.ref f_leads_home)
  f_Tree_init : Addr
  fd_Tree_init : FuncData
  F_Tree_init : Fun K "__init__" "Tree.__init__" s_Tree_init f_Tree_init fd_Tree_init
  b_Tree_init : Binds K fd_Tree_init ["self", "hung"] []
  f_l_hand : Addr
  fd_l_hand : FuncData
  F_l_hand : Fun K "_law_hand" "_law_hand" s_l_hand f_l_hand fd_l_hand
  b_l_hand : Binds K fd_l_hand ["_law_script"] []
  g_l_hand : mg "_law_hand" = some (.ref f_l_hand)
  f_l_draw : Addr
  fd_l_draw : FuncData
  F_l_draw : Fun K "_law_draw" "_law_draw" s_l_draw f_l_draw fd_l_draw
  b_l_draw : Binds K fd_l_draw ["_law_hand_here", "_law_many"] []
  g_l_draw : mg "_law_draw" = some (.ref f_l_draw)
  f_l_is : Addr
  fd_l_is : FuncData
  F_l_is : Fun K "_law_is" "_law_is" s_l_is f_l_is fd_l_is
  b_l_is : Binds K fd_l_is ["_law_told", "_law_due"] []
  g_l_is : mg "_law_is" = some (.ref f_l_is)
  f_l_deep : Addr
  fd_l_deep : FuncData
  F_l_deep : Fun K "_law_deep" "_law_deep" s_l_deep f_l_deep fd_l_deep
  b_l_deep : Binds K fd_l_deep ["_law_hand_here"] []
  g_l_deep : mg "_law_deep" = some (.ref f_l_deep)
  f_l_tree : Addr
  fd_l_tree : FuncData
  F_l_tree : Fun K "_law_tree" "_law_tree" s_l_tree f_l_tree fd_l_tree
  b_l_tree : Binds K fd_l_tree ["_law_hand_here", "_law_blocks"] []
  g_l_tree : mg "_law_tree" = some (.ref f_l_tree)
  f_l_right : Addr
  fd_l_right : FuncData
  F_l_right : Fun K "_law_right" "_law_right" s_l_right f_l_right fd_l_right
  b_l_right : Binds K fd_l_right ["_law_hung"] []
  g_l_right : mg "_law_right" = some (.ref f_l_right)
  f_l_put : Addr
  fd_l_put : FuncData
  F_l_put : Fun K "_law_put" "_law_put" s_l_put f_l_put fd_l_put
  b_l_put : Binds K fd_l_put ["_law_things", "_law_at", "_law_thing"] []
  g_l_put : mg "_law_put" = some (.ref f_l_put)
  f_l_worn : Addr
  fd_l_worn : FuncData
  F_l_worn : Fun K "_law_worn" "_law_worn" s_l_worn f_l_worn fd_l_worn
  b_l_worn : Binds K fd_l_worn ["_law_hand_here", "_law_ups", "_law_lists", "_law_many"] []
  g_l_worn : mg "_law_worn" = some (.ref f_l_worn)
  f_l_any : Addr
  fd_l_any : FuncData
  F_l_any : Fun K "_law_any" "_law_any" s_l_any f_l_any fd_l_any
  b_l_any : Binds K fd_l_any ["_law_hand_here", "_law_blocks"] []
  g_l_any : mg "_law_any" = some (.ref f_l_any)
  f_l_drawn : Addr
  fd_l_drawn : FuncData
  F_l_drawn : Fun K "_law_drawn" "_law_drawn" s_l_drawn f_l_drawn fd_l_drawn
  b_l_drawn : Binds K fd_l_drawn ["_law_hand_here", "_law_most"] []
  g_l_drawn : mg "_law_drawn" = some (.ref f_l_drawn)
  f_l_is_whole : Addr
  fd_l_is_whole : FuncData
  F_l_is_whole : Fun K "_law_is_whole" "_law_is_whole" s_l_is_whole f_l_is_whole fd_l_is_whole
  b_l_is_whole : Binds K fd_l_is_whole ["_law_thing", "_law_least", "_law_most"] []
  g_l_is_whole : mg "_law_is_whole" = some (.ref f_l_is_whole)
  f_l_word : Addr
  fd_l_word : FuncData
  F_l_word : Fun K "_law_word" "_law_word" s_l_word f_l_word fd_l_word
  b_l_word : Binds K fd_l_word ["_law_call"] []
  g_l_word : mg "_law_word" = some (.ref f_l_word)
  f_l_odd : Addr
  fd_l_odd : FuncData
  F_l_odd : Fun K "_law_odd" "_law_odd" s_l_odd f_l_odd fd_l_odd
  b_l_odd : Binds K fd_l_odd ["_law_hand_here", "_law_blocks", "_law_words"] []
  g_l_odd : mg "_law_odd" = some (.ref f_l_odd)
  f_law : Addr
  fd_law : FuncData
  F_law : Fun K "law" "law" s_law f_law fd_law
  cc_law : Addr
  P_law : Addr
  FC_law : FunC K "law" "law" s_law f_law fd_law cc_law
  tm_law : (P_law, ((("law" : Str) ++ ".<locals>.") ++ "<lambda>")) ∈ tabT
  tu_law : ∀ p ∈ tabT, p.1 = P_law → p.2 = ((("law" : Str) ++ ".<locals>.") ++ "<lambda>")
  b_law : Binds K fd_law ["_law_script"] []
  g_law : mg "law" = some (.ref f_law)
  M_Tree : Mk K C_Tree f_Tree_init
  o_Tree : OwnC K C_Tree
  nf_Tree_hung : NoAttr K C_Tree "hung"
  kf_Tree : ∀ T, okTy T → PySem.W.kitOne K (.ref C_Tree) (.type T) = some false
  M_Words : Mk K C_Words f_Words_init
  o_Words : OwnC K C_Words
  nf_Words_blocks : NoAttr K C_Words "blocks"
  nf_Words_ups : NoAttr K C_Words "ups"
  nf_Words_lists : NoAttr K C_Words "lists"
  kf_Words : ∀ T, okTy T → PySem.W.kitOne K (.ref C_Words) (.type T) = some false
  xc_NoBlock : XCls K C_NoBlock
  te_NoBlock : PySem.W.exmOne K (.ref C_NoBlock) (.ref C_NoBlock) = some true
  X_NoBlock : OexC K C_NoBlock
  x0_NoBlock : PySem.W.excIn K C_NoBlock [.type "ValueError", .type "Exception", .type "BaseException", .type "object"] "ValueError.__new__" = true
  xc_NoPlace : XCls K C_NoPlace
  te_NoPlace : PySem.W.exmOne K (.ref C_NoPlace) (.ref C_NoPlace) = some true
  X_NoPlace : OexC K C_NoPlace
  x0_NoPlace : PySem.W.excIn K C_NoPlace [.type "ValueError", .type "Exception", .type "BaseException", .type "object"] "ValueError.__new__" = true
  xc_OtherBlocks : XCls K C_OtherBlocks
  te_OtherBlocks : PySem.W.exmOne K (.ref C_OtherBlocks) (.ref C_OtherBlocks) = some true
  X_OtherBlocks : OexC K C_OtherBlocks
  x0_OtherBlocks : PySem.W.excIn K C_OtherBlocks [.type "ValueError", .type "Exception", .type "BaseException", .type "object"] "ValueError.__new__" = true
  xc_TooMany : XCls K C_TooMany
  te_TooMany : PySem.W.exmOne K (.ref C_TooMany) (.ref C_TooMany) = some true
  X_TooMany : OexC K C_TooMany
  i_TooMany : PySem.W.findIn K (.ref C_TooMany) "__init__" = some (some (.ref f_TooMany_init))
  ti_TooMany : PySem.W.typeIn K (.ref f_TooMany_init) = some (.type "function")
  nf_TooMany_most : PySem.W.findIn K (.ref C_TooMany) "most" = some none
  xc_BadTree : XCls K C_BadTree
  te_BadTree : PySem.W.exmOne K (.ref C_BadTree) (.ref C_BadTree) = some true
  X_BadTree : OexC K C_BadTree
  i_BadTree : PySem.W.findIn K (.ref C_BadTree) "__init__" = some (some (.ref f_BadTree_init))
  ti_BadTree : PySem.W.typeIn K (.ref f_BadTree_init) = some (.type "function")
  nf_BadTree_part : PySem.W.findIn K (.ref C_BadTree) "part" = some none
  xc_BadWords : XCls K C_BadWords
  te_BadWords : PySem.W.exmOne K (.ref C_BadWords) (.ref C_BadWords) = some true
  X_BadWords : OexC K C_BadWords
  i_BadWords : PySem.W.findIn K (.ref C_BadWords) "__init__" = some (some (.ref f_BadWords_init))
  ti_BadWords : PySem.W.typeIn K (.ref f_BadWords_init) = some (.type "function")
  nf_BadWords_part : PySem.W.findIn K (.ref C_BadWords) "part" = some none
  xc_VoteError : XCls K C_VoteError
  te_VoteError : PySem.W.exmOne K (.ref C_VoteError) (.ref C_VoteError) = some true
  X_VoteError : OexC K C_VoteError
  kn_Tree_Words : PySem.W.kitOne K (.ref C_Tree) (.ref C_Words) = some false
  kn_Words_Tree : PySem.W.kitOne K (.ref C_Words) (.ref C_Tree) = some false
  te_NoBlock_VoteError : PySem.W.exmOne K (.ref C_NoBlock) (.ref C_VoteError) = some true
  kv_NoBlock_ValueError : PySem.W.kitOne K (.ref C_NoBlock) (.type "ValueError") = some true
  kx_NoBlock_NoBlock : PySem.W.kitOne K (.ref C_NoBlock) (.ref C_NoBlock) = some true
  kx_NoBlock_NoPlace : PySem.W.kitOne K (.ref C_NoBlock) (.ref C_NoPlace) = some false
  kx_NoBlock_OtherBlocks : PySem.W.kitOne K (.ref C_NoBlock) (.ref C_OtherBlocks) = some false
  kx_NoBlock_TooMany : PySem.W.kitOne K (.ref C_NoBlock) (.ref C_TooMany) = some false
  te_NoPlace_VoteError : PySem.W.exmOne K (.ref C_NoPlace) (.ref C_VoteError) = some true
  kv_NoPlace_ValueError : PySem.W.kitOne K (.ref C_NoPlace) (.type "ValueError") = some true
  kx_NoPlace_NoBlock : PySem.W.kitOne K (.ref C_NoPlace) (.ref C_NoBlock) = some false
  kx_NoPlace_NoPlace : PySem.W.kitOne K (.ref C_NoPlace) (.ref C_NoPlace) = some true
  kx_NoPlace_OtherBlocks : PySem.W.kitOne K (.ref C_NoPlace) (.ref C_OtherBlocks) = some false
  kx_NoPlace_TooMany : PySem.W.kitOne K (.ref C_NoPlace) (.ref C_TooMany) = some false
  te_OtherBlocks_VoteError : PySem.W.exmOne K (.ref C_OtherBlocks) (.ref C_VoteError) = some true
  kv_OtherBlocks_ValueError : PySem.W.kitOne K (.ref C_OtherBlocks) (.type "ValueError") = some true
  kx_OtherBlocks_NoBlock : PySem.W.kitOne K (.ref C_OtherBlocks) (.ref C_NoBlock) = some false
  kx_OtherBlocks_NoPlace : PySem.W.kitOne K (.ref C_OtherBlocks) (.ref C_NoPlace) = some false
  kx_OtherBlocks_OtherBlocks : PySem.W.kitOne K (.ref C_OtherBlocks) (.ref C_OtherBlocks) = some true
  kx_OtherBlocks_TooMany : PySem.W.kitOne K (.ref C_OtherBlocks) (.ref C_TooMany) = some false
  te_TooMany_VoteError : PySem.W.exmOne K (.ref C_TooMany) (.ref C_VoteError) = some true
  kv_TooMany_ValueError : PySem.W.kitOne K (.ref C_TooMany) (.type "ValueError") = some true
  kx_TooMany_NoBlock : PySem.W.kitOne K (.ref C_TooMany) (.ref C_NoBlock) = some false
  kx_TooMany_NoPlace : PySem.W.kitOne K (.ref C_TooMany) (.ref C_NoPlace) = some false
  kx_TooMany_OtherBlocks : PySem.W.kitOne K (.ref C_TooMany) (.ref C_OtherBlocks) = some false
  kx_TooMany_TooMany : PySem.W.kitOne K (.ref C_TooMany) (.ref C_TooMany) = some true
section
variable {P : Program} {w : World} {K : PySem.W.Frag} {mg : Str → Option Value} {base : Heap}
abbrev Txt.cl {K : PySem.W.Frag} {mg : Str → Option Value} (T : Txt K mg) : Cl := ⟨T.C_Tree, T.C_Words, T.C_NoBlock, T.C_NoPlace, T.C_OtherBlocks, T.C_TooMany, T.C_BadTree, T.C_BadWords, T.C_VoteError⟩
theorem ok_BadTree_init (T : Txt K mg)  : FnOk P w K mg base CX0 1 T.f_BadTree_init T.fd_BadTree_init ["self", "part"] (spX1 T.C_BadTree "part") := by
  refine T.F_BadTree_init.ok sc_BadTree_init (fun vs H Q E h => len_x1 h) (fun cdv A outer s H vs Q E hr h => ?_)
  have nd := sc_BadTree_init.nd
  exact ⟨tOst K "part" (tVar 0) (tVar 1), (pss_one (ps_ost (pv 0) (pv 1))), pure_x1 T.X_BadTree T.nf_BadTree_part h rfl⟩
theorem ok_BadWords_init (T : Txt K mg)  : FnOk P w K mg base CX0 1 T.f_BadWords_init T.fd_BadWords_init ["self", "part"] (spX1 T.C_BadWords "part") := by
  refine T.F_BadWords_init.ok sc_BadWords_init (fun vs H Q E h => len_x1 h) (fun cdv A outer s H vs Q E hr h => ?_)
  have nd := sc_BadWords_init.nd
  exact ⟨tOst K "part" (tVar 0) (tVar 1), (pss_one (ps_ost (pv 0) (pv 1))), pure_x1 T.X_BadWords T.nf_BadWords_part h rfl⟩
theorem ok_TooMany_init (T : Txt K mg)  : FnOk P w K mg base CX0 1 T.f_TooMany_init T.fd_TooMany_init ["self", "most"] (spX1 T.C_TooMany "most") := by
  refine T.F_TooMany_init.ok sc_TooMany_init (fun vs H Q E h => len_x1 h) (fun cdv A outer s H vs Q E hr h => ?_)
  have nd := sc_TooMany_init.nd
  exact ⟨tOst K "most" (tVar 0) (tVar 1), (pss_one (ps_ost (pv 0) (pv 1))), pure_x1 T.X_TooMany T.nf_TooMany_most h rfl⟩
theorem ok_is_integer (T : Txt K mg) (fa : Fa K T.cl)  : FnOk P w K mg base CX0 1 T.f_is_integer T.fd_is_integer ["thing"] (spD (vals 1) (D_is_integer T.cl)) := by
  refine T.F_is_integer.ok sc_is_integer (fun vs H Q E h => spD_len h) (fun cdv A outer s H vs Q E hr h => ?_)
  have nd := sc_is_integer.nd
  exact ⟨u_is_integer K T.cl, (pss_one (ps_ret (pe_and (pe_callB call_isiG (by rfl) T.z_isinstance (by decide +kernel) (pa_cons (pv 0) (pa_cons (pe_bltn (v := .ty "int") (by rfl) T.z_int (by decide +kernel) rfl) pa_nil))) (pe_one (pe_not (pe_callB call_isiG (by rfl) T.z_isinstance (by decide +kernel) (pa_cons (pv 0) (pa_cons (pe_bltn (v := .ty "bool") (by rfl) T.z_bool (by decide +kernel) rfl) pa_nil)))))))), fn_ok (N := N_is_integer) (t := fun E => u_is_integer K T.cl) rfl (fun E => sim_is_integer fa E) h⟩
theorem ok_is_within (T : Txt K mg) (fa : Fa K T.cl) (G_is_integer : FnOk P w K mg base CX0 1 T.f_is_integer T.fd_is_integer ["thing"] (spD (vals 1) (D_is_integer T.cl))) : FnOk P w K mg base CX0 2 T.f_is_within T.fd_is_within ["thing", "least", "most"] (spD (vals 3) (D_is_within T.cl)) := by
  refine T.F_is_within.ok sc_is_within (fun vs H Q E h => spD_len h) (fun cdv A outer s H vs Q E hr h => ?_)
  have nd := sc_is_within.nd
  exact ⟨u_is_within K T.cl, (pss_one (ps_ret (pe_and (pe_call G_is_integer (hr.mono (by decide)) (by rfl) T.g_is_integer T.F_is_integer.kp T.b_is_integer .nil pass0 (pa_cons (pv 0) pa_nil)) (pe_one (pe_chain op_le op_le (pv 1) (pv 0) (pv 2)))))), fn_ok (N := N_is_within) (t := fun E => u_is_within K T.cl) rfl (fun E => sim_is_within fa E) h⟩
theorem ok_is_flag (T : Txt K mg) (fa : Fa K T.cl)  : FnOk P w K mg base CX0 1 T.f_is_flag T.fd_is_flag ["thing"] (spD (vals 1) (D_is_flag T.cl)) := by
  refine T.F_is_flag.ok sc_is_flag (fun vs H Q E h => spD_len h) (fun cdv A outer s H vs Q E hr h => ?_)
  have nd := sc_is_flag.nd
  exact ⟨u_is_flag K T.cl, (pss_one (ps_ret (pe_callB call_isiG (by rfl) T.z_isinstance (by decide +kernel) (pa_cons (pv 0) (pa_cons (pe_bltn (v := .ty "bool") (by rfl) T.z_bool (by decide +kernel) rfl) pa_nil))))), fn_ok (N := N_is_flag) (t := fun E => u_is_flag K T.cl) rfl (fun E => sim_is_flag fa E) h⟩
theorem ok_check_block (T : Txt K mg) (fa : Fa K T.cl) (G_is_within : FnOk P w K mg base CX0 2 T.f_is_within T.fd_is_within ["thing", "least", "most"] (spD (vals 3) (D_is_within T.cl))) : FnOk P w K mg base (L2N.CX P w) 3 T.f_check_block T.fd_check_block ["blocks", "thing"] (spD (vals 2) (D_check_block T.cl)) := by
  refine okN T.F_check_block sc_check_block (fun vs H Q E h => spD_len h) (fun cdv A outer s H vs Q E hr h => ?_)
  have nd := sc_check_block.nd
  exact ⟨u_check_block K T.cl E, (pss_one (ps_if (pt_not (pt_val (pe_call G_is_within (hr.mono (by decide)) (by rfl) T.g_is_within T.F_is_within.kp T.b_is_within .nil pass0 (pa_cons (pv 1) (pa_cons pe_int (pa_cons (pv 0) pa_nil)))))) (pss_one (L2N.ps_raise rfl (L2N.takes_of rfl rfl rfl rfl) (pmk_own0N PySem.F.excBase_ValueError T.x0_NoBlock T.g_NoBlock T.X_NoBlock.kC (raises_own T.X_NoBlock.exC T.X_NoBlock.tyC) (by rfl)))) pss_nil)), fn_ok (N := N_check_block) (t := fun E => u_check_block K T.cl E) rfl (fun E => sim_check_block fa E) h⟩
theorem ok_check_place (T : Txt K mg) (fa : Fa K T.cl) (G_is_within : FnOk P w K mg base CX0 2 T.f_is_within T.fd_is_within ["thing", "least", "most"] (spD (vals 3) (D_is_within T.cl))) : FnOk P w K mg base (L2N.CX P w) 3 T.f_check_place T.fd_check_place ["blocks", "thing"] (spD (vals 2) (D_check_place T.cl)) := by
  refine okN T.F_check_place sc_check_place (fun vs H Q E h => spD_len h) (fun cdv A outer s H vs Q E hr h => ?_)
  have nd := sc_check_place.nd
  exact ⟨u_check_place K T.cl E, (pss_one (ps_if (pt_not (pt_val (pe_call G_is_within (hr.mono (by decide)) (by rfl) T.g_is_within T.F_is_within.kp T.b_is_within .nil pass0 (pa_cons (pv 1) (pa_cons pe_int (pa_cons (pv 0) pa_nil)))))) (pss_one (L2N.ps_raise rfl (L2N.takes_of rfl rfl rfl rfl) (pmk_own0N PySem.F.excBase_ValueError T.x0_NoPlace T.g_NoPlace T.X_NoPlace.kC (raises_own T.X_NoPlace.exC T.X_NoPlace.tyC) (by rfl)))) pss_nil)), fn_ok (N := N_check_place) (t := fun E => u_check_place K T.cl E) rfl (fun E => sim_check_place fa E) h⟩
theorem ok_check_ups (T : Txt K mg) (fa : Fa K T.cl) (G_BadWords_init : FnOk P w K mg base CX0 1 T.f_BadWords_init T.fd_BadWords_init ["self", "part"] (spX1 T.C_BadWords "part")) (G_is_within : FnOk P w K mg base CX0 2 T.f_is_within T.fd_is_within ["thing", "least", "most"] (spD (vals 3) (D_is_within T.cl))) : FnOk P w K mg base (L2N.CX P w) 3 T.f_check_ups T.fd_check_ups ["blocks", "ups"] (spD (vals 2) (D_check_ups T.cl)) := by
  refine okN T.F_check_ups sc_check_ups (fun vs H Q E h => spD_len h) (fun cdv A outer s H vs Q E hr h => ?_)
  have nd := sc_check_ups.nd
  exact ⟨u_check_ups K T.cl E, (pss_cons (ps_if (PW.pt (pw_or (pt_not (pt_val (pe_callB call_isiG (by rfl) T.z_isinstance (by decide +kernel) (pa_cons (pv 1) (pa_cons (pe_bltn (v := .ty "tuple") (by rfl) T.z_tuple (by decide +kernel) rfl) pa_nil))))) (pw_or1 (pt_cmpR (op_neD hr.units) (pe_callB call_lenG (by rfl) T.z_len PySem.boot_len (pa_cons (pv 1) pa_nil)) (pv 0) (nomark _))))) (pss_one (L2N.ps_raise rfl (L2N.takes_of rfl rfl rfl rfl) (pmk_oexN T.X_BadWords T.i_BadWords T.ti_BadWords G_BadWords_init (hr.mono (by decide)) T.b_BadWords_init pass0 (by rfl) T.g_BadWords (pa_cons pe_str pa_nil)))) pss_nil) (pss_one (ps_for (passes_of rfl) rfl (pi_range2 (by rfl) T.z_range (pa_cons pe_int (pa_cons (pe_op op_addG (pv 0) pe_int) pa_nil))) (pg_name (i := 2) nd rfl (Or.inl rfl)) (pss_cons (ps_set (i := 3) nd rfl (Or.inl rfl) (pe_ix ix_seq (pv 1) (pe_op op_sub (pv 2) pe_int) (fun _ _ => rfl))) (pss_one (ps_if (PW.pt (pw_and (pt_cmpR op_notG (pv 3) pe_non (nomark _)) (pw_and1 (PW.pt (pw_or (pt_not (pt_val (pe_call G_is_within (hr.mono (by decide)) (by rfl) T.g_is_within T.F_is_within.kp T.b_is_within .nil pass0 (pa_cons (pv 3) (pa_cons pe_int (pa_cons (pv 0) pa_nil)))))) (pw_or1 (pt_cmpR (op_eqD hr.units) (pv 3) (pv 2) (nomark _)))))))) (pss_one (L2N.ps_raise rfl (L2N.takes_of rfl rfl rfl rfl) (pmk_oexN T.X_BadWords T.i_BadWords T.ti_BadWords G_BadWords_init (hr.mono (by decide)) T.b_BadWords_init pass0 (by rfl) T.g_BadWords (pa_cons (pv 2) pa_nil)))) pss_nil)))))), fn_ok (N := N_check_ups) (t := fun E => u_check_ups K T.cl E) rfl (fun E => sim_check_ups fa E) h⟩
theorem ok_check_lists (T : Txt K mg) (fa : Fa K T.cl) (G_BadWords_init : FnOk P w K mg base CX0 1 T.f_BadWords_init T.fd_BadWords_init ["self", "part"] (spX1 T.C_BadWords "part")) (G_is_flag : FnOk P w K mg base CX0 1 T.f_is_flag T.fd_is_flag ["thing"] (spD (vals 1) (D_is_flag T.cl))) : FnOk P w K mg base (L2N.CX P w) 3 T.f_check_lists T.fd_check_lists ["blocks", "lists"] (spD (vals 2) (D_check_lists T.cl)) := by
  refine okN T.F_check_lists sc_check_lists (fun vs H Q E h => spD_len h) (fun cdv A outer s H vs Q E hr h => ?_)
  have nd := sc_check_lists.nd
  exact ⟨u_check_lists K T.cl E, (pss_cons (ps_if (PW.pt (pw_or (pt_not (pt_val (pe_callB call_isiG (by rfl) T.z_isinstance (by decide +kernel) (pa_cons (pv 1) (pa_cons (pe_bltn (v := .ty "tuple") (by rfl) T.z_tuple (by decide +kernel) rfl) pa_nil))))) (pw_or1 (pt_cmpR (op_neD hr.units) (pe_callB call_lenG (by rfl) T.z_len PySem.boot_len (pa_cons (pv 1) pa_nil)) (pe_op op_addG (pv 0) pe_int) (nomark _))))) (pss_one (L2N.ps_raise rfl (L2N.takes_of rfl rfl rfl rfl) (pmk_oexN T.X_BadWords T.i_BadWords T.ti_BadWords G_BadWords_init (hr.mono (by decide)) T.b_BadWords_init pass0 (by rfl) T.g_BadWords (pa_cons pe_str pa_nil)))) pss_nil) (pss_cons (ps_for (passes_of rfl) rfl (pi_range1 (by rfl) T.z_range (pa_cons (pe_op op_addG (pv 0) pe_int) pa_nil)) (pg_name (i := 2) nd rfl (Or.inl rfl)) (pss_one (ps_if (PW.pt (pw_or (pt_not (pt_val (pe_callB call_isiG (by rfl) T.z_isinstance (by decide +kernel) (pa_cons (pe_ix ix_seq (pv 1) (pv 2) (fun _ _ => rfl)) (pa_cons (pe_bltn (v := .ty "tuple") (by rfl) T.z_tuple (by decide +kernel) rfl) pa_nil))))) (pw_or1 (pt_cmpR (op_neD hr.units) (pe_callB call_lenG (by rfl) T.z_len PySem.boot_len (pa_cons (pe_ix ix_seq (pv 1) (pv 2) (fun _ _ => rfl)) pa_nil)) (pv 0) (nomark _))))) (pss_one (L2N.ps_raise rfl (L2N.takes_of rfl rfl rfl rfl) (pmk_oexN T.X_BadWords T.i_BadWords T.ti_BadWords G_BadWords_init (hr.mono (by decide)) T.b_BadWords_init pass0 (by rfl) T.g_BadWords (pa_cons (pe_tup (pa_cons (pv 2) pa_nil)) pa_nil)))) pss_nil))) (pss_one (ps_for (passes_of rfl) rfl (pi_range1 (by rfl) T.z_range (pa_cons (pe_op op_addG (pv 0) pe_int) pa_nil)) (pg_name (i := 2) nd rfl (Or.inl rfl)) (pss_one (ps_for (passes_of rfl) rfl (pi_range2 (by rfl) T.z_range (pa_cons pe_int (pa_cons (pe_op op_addG (pv 0) pe_int) pa_nil))) (pg_name (i := 3) nd rfl (Or.inl rfl)) (pss_cons (ps_set (i := 4) nd rfl (Or.inl rfl) (pe_ix ix_seq (pe_ix ix_seq (pv 1) (pv 2) (fun _ _ => rfl)) (pe_op op_sub (pv 3) pe_int) (fun _ _ => rfl))) (pss_one (ps_if (PW.pt (pw_or (PW.pt (pw_and (pt_cmpR op_notG (pv 4) pe_non (nomark _)) (pw_and1 (pt_not (pt_val (pe_call G_is_flag (hr.mono (by decide)) (by rfl) T.g_is_flag T.F_is_flag.kp T.b_is_flag .nil pass0 (pa_cons (pv 4) pa_nil))))))) (pw_or1 (PW.pt (pw_and (pt_cmpR (op_eqD hr.units) (pv 2) (pv 3) (nomark _)) (pw_and1 (pt_cmpR op_notG (pv 4) pe_bl (nomark _)))))))) (pss_one (L2N.ps_raise rfl (L2N.takes_of rfl rfl rfl rfl) (pmk_oexN T.X_BadWords T.i_BadWords T.ti_BadWords G_BadWords_init (hr.mono (by decide)) T.b_BadWords_init pass0 (by rfl) T.g_BadWords (pa_cons (pe_tup (pa_cons (pv 2) (pa_cons (pv 3) pa_nil))) pa_nil)))) pss_nil))))))))), fn_ok (N := N_check_lists) (t := fun E => u_check_lists K T.cl E) rfl (fun E => sim_check_lists fa E) h⟩
theorem ok_Words_init (T : Txt K mg) (fa : Fa K T.cl) (G_BadWords_init : FnOk P w K mg base CX0 1 T.f_BadWords_init T.fd_BadWords_init ["self", "part"] (spX1 T.C_BadWords "part")) (G_check_lists : FnOk P w K mg base (L2N.CX P w) 3 T.f_check_lists T.fd_check_lists ["blocks", "lists"] (spD (vals 2) (D_check_lists T.cl))) (G_check_ups : FnOk P w K mg base (L2N.CX P w) 3 T.f_check_ups T.fd_check_ups ["blocks", "ups"] (spD (vals 2) (D_check_ups T.cl))) (G_is_within : FnOk P w K mg base CX0 2 T.f_is_within T.fd_is_within ["thing", "least", "most"] (spD (vals 3) (D_is_within T.cl))) : FnOk P w K mg base (L2N.CX P w) 4 T.f_Words_init T.fd_Words_init ["self", "blocks", "ups", "lists"] (spD (true :: vals 3) (D_Words_init T.cl)) := by
  refine okN T.F_Words_init sc_Words_init (fun vs H Q E h => spD_len h) (fun cdv A outer s H vs Q E hr h => ?_)
  have nd := sc_Words_init.nd
  exact ⟨u_Words_init K T.cl E, (pss_cons (ps_if (pt_not (pt_val (pe_call G_is_within (hr.mono (by decide)) (by rfl) T.g_is_within T.F_is_within.kp T.b_is_within .nil pass0 (pa_cons (pv 1) (pa_cons pe_int (pa_cons (pe_glob (by rfl) T.c_MOST_BLOCKS_checks ⟨_, rfl⟩) pa_nil)))))) (pss_one (L2N.ps_raise rfl (L2N.takes_of rfl rfl rfl rfl) (pmk_oexN T.X_BadWords T.i_BadWords T.ti_BadWords G_BadWords_init (hr.mono (by decide)) T.b_BadWords_init pass0 (by rfl) T.g_BadWords (pa_cons pe_str pa_nil)))) pss_nil) (pss_cons (ps_expr (pe_call G_check_ups (hr.mono (by decide)) (by rfl) T.g_check_ups T.F_check_ups.kp T.b_check_ups .nil (L2N.passes_call (L2N.takes_of rfl rfl rfl rfl) (fun _ _ _ _ h => h)) (pa_cons (pv 1) (pa_cons (pv 2) pa_nil)))) (pss_cons (ps_expr (pe_call G_check_lists (hr.mono (by decide)) (by rfl) T.g_check_lists T.F_check_lists.kp T.b_check_lists .nil (L2N.passes_call (L2N.takes_of rfl rfl rfl rfl) (fun _ _ _ _ h => h)) (pa_cons (pv 1) (pa_cons (pv 3) pa_nil)))) (pss_cons (ps_fld (pv 0) (pv 1) rfl) (pss_cons (ps_fld (pv 0) (pv 2) rfl) (pss_one (ps_fld (pv 0) (pv 3) rfl))))))), fn_ok (N := N_Words_init) (t := fun E => u_Words_init K T.cl E) rfl (fun E => sim_Words_init fa E) h⟩
theorem ok_raw_costs (T : Txt K mg) (fa : Fa K T.cl)  : FnOk P w K mg base CX0 1 T.f_raw_costs T.fd_raw_costs ["words", "block"] (spD (vals 2) (D_raw_costs T.cl)) := by
  refine T.F_raw_costs.ok sc_raw_costs (fun vs H Q E h => spD_len h) (fun cdv A outer s H vs Q E hr h => ?_)
  have nd := sc_raw_costs.nd
  exact ⟨u_raw_costs K T.cl, (pss_cons (ps_set (i := 2) nd rfl (Or.inl rfl) (pe_ix ix_seq (pe_fld (pv 0) rfl) (pe_op op_sub (pv 1) pe_int) (fun _ _ => rfl))) (pss_cons (ps_setLc (i := 3) (own := [("row", 9)]) (by rfl) nd rfl rfl (sw_true rfl rfl rfl (by decide +kernel)) (pi_seq (pe_fld (pv 0) rfl)) (blkOk_by (N := N_raw_costs) (sc := defScope s_raw_costs) (by decide +kernel)) (fun _ _ _ _ _ => (pg_name (i := 9) nd rfl (Or.inl rfl))) (fun _ _ _ _ _ => pts_nil) (fun _ _ _ _ _ => (pe_ix ix_seq (pv 9) (pe_op op_sub (pv 1) pe_int) (fun _ _ => rfl)))) (pss_cons (ps_set (i := 4) nd rfl (Or.inl rfl) (pe_callB call_lenG (by rfl) T.z_len PySem.boot_len (pa_cons (pe_lc (own := [("told", 7)]) (by rfl) nd (pi_seq (pv 3)) (blkOk_by (N := N_raw_costs) (sc := defScope s_raw_costs) (by decide +kernel)) (fun _ _ _ _ _ => (pg_name (i := 7) nd rfl (Or.inl rfl))) (fun _ _ _ _ _ => (pts_one (pt_cmpR op_isG (pv 7) pe_bl (nomark _)))) (fun _ _ _ _ _ => (pv 7))) pa_nil))) (pss_cons (ps_set (i := 5) nd rfl (Or.inl rfl) (pe_lst pa_nil)) (pss_cons (ps_for PassesOwn.never rfl (pi_enumA (by rfl) T.z_enumerate (pa_cons (pv 3) pa_nil)) (pg_tup rfl (pgs_cons (pg_name (i := 6) nd rfl (Or.inl rfl)) (pgs_cons (pg_name (i := 7) nd rfl (Or.inl rfl)) pgs_nil))) (pss_cons (ps_set (i := 8) nd rfl (Or.inl rfl) (pe_ifExp (PW.pt (pw_and (pt_cmpR op_notG (pv 2) pe_non (nomark _)) (pw_and1 (pt_cmpR (op_neD hr.units) (pv 2) (pv 6) (nomark _))))) pe_int pe_int)) (pss_cons (ps_aug (i := 8) nd rfl (Or.inl rfl) (pe_ifExp (pt_cmpR op_isG (pv 7) pe_bl (nomark _)) pe_int pe_int) ip_add) (pss_cons (ps_aug (i := 8) nd rfl (Or.inl rfl) (pe_ifExp (pt_cmpR op_isG (pv 7) pe_bl (nomark _)) (pe_op op_sub (pv 4) pe_int) (pv 4)) ip_add) (pss_one (ps_expr (pe_bm PySem.F.plainAttrs_list PySem.F.slot_list_append PySem.F.type_list_append mt_append (pv 5) (pa_cons (pe_ifExp (pt_cmpR (op_neD hr.units) (pv 6) (pv 1) (nomark _)) (pv 8) pe_non) pa_nil)))))))) (pss_one (ps_ret (pv 5)))))))), fn_ok (N := N_raw_costs) (t := fun E => u_raw_costs K T.cl) rfl (fun E => sim_raw_costs fa E) h⟩
theorem ok_cost (T : Txt K mg) (fa : Fa K T.cl) (G_check_block : FnOk P w K mg base (L2N.CX P w) 3 T.f_check_block T.fd_check_block ["blocks", "thing"] (spD (vals 2) (D_check_block T.cl))) (G_check_place : FnOk P w K mg base (L2N.CX P w) 3 T.f_check_place T.fd_check_place ["blocks", "thing"] (spD (vals 2) (D_check_place T.cl))) (G_raw_costs : FnOk P w K mg base CX0 1 T.f_raw_costs T.fd_raw_costs ["words", "block"] (spD (vals 2) (D_raw_costs T.cl))) : FnOk P w K mg base (L2N.CX P w) 4 T.f_cost T.fd_cost ["words", "block", "place"] (spD (vals 3) (D_cost T.cl)) := by
  refine okN T.F_cost sc_cost (fun vs H Q E h => spD_len h) (fun cdv A outer s H vs Q E hr h => ?_)
  have nd := sc_cost.nd
  exact ⟨u_cost K T.cl E, (pss_cons (ps_expr (pe_call G_check_block (hr.mono (by decide)) (by rfl) T.g_check_block T.F_check_block.kp T.b_check_block .nil (L2N.passes_call (L2N.takes_of rfl rfl rfl rfl) (fun _ _ _ _ h => h)) (pa_cons (pe_fld (pv 0) rfl) (pa_cons (pv 1) pa_nil)))) (pss_cons (ps_expr (pe_call G_check_place (hr.mono (by decide)) (by rfl) T.g_check_place T.F_check_place.kp T.b_check_place .nil (L2N.passes_call (L2N.takes_of rfl rfl rfl rfl) (fun _ _ _ _ h => h)) (pa_cons (pe_fld (pv 0) rfl) (pa_cons (pv 2) pa_nil)))) (pss_cons (ps_if (pt_cmpR (op_eqD hr.units) (pv 2) (pv 1) (nomark _)) (pss_one (L2N.ps_raise rfl (L2N.takes_of rfl rfl rfl rfl) (pmk_own0N PySem.F.excBase_ValueError T.x0_NoPlace T.g_NoPlace T.X_NoPlace.kC (raises_own T.X_NoPlace.exC T.X_NoPlace.tyC) (by rfl)))) pss_nil) (pss_one (ps_ret (pe_ix ix_seq (pe_call G_raw_costs (hr.mono (by decide)) (by rfl) T.g_raw_costs T.F_raw_costs.kp T.b_raw_costs .nil pass0 (pa_cons (pv 0) (pa_cons (pv 1) pa_nil))) (pv 2) (fun _ _ => rfl))))))), fn_ok (N := N_cost) (t := fun E => u_cost K T.cl E) rfl (fun E => sim_cost fa E) h⟩
theorem ok_raw_wrong_words (T : Txt K mg) (fa : Fa K T.cl) (G_raw_costs : FnOk P w K mg base CX0 1 T.f_raw_costs T.fd_raw_costs ["words", "block"] (spD (vals 2) (D_raw_costs T.cl))) : FnOk P w K mg base CX0 2 T.f_raw_wrong_words T.fd_raw_wrong_words ["words", "hung"] (spD (vals 2) (D_raw_wrong_words T.cl)) := by
  refine T.F_raw_wrong_words.ok sc_raw_wrong_words (fun vs H Q E h => spD_len h) (fun cdv A outer s H vs Q E hr h => ?_)
  have nd := sc_raw_wrong_words.nd
  exact ⟨u_raw_wrong_words K T.cl, (pss_one (ps_ret (pe_callB (cr_sum rfl) (by rfl) T.z_sum (by decide +kernel) (pa_cons (pe_lc (own := [("number", 2), ("place", 3)]) (by rfl) nd (pi_enumA (by rfl) T.z_enumerate (pa_cons (pv 1) pa_nil)) (blkOk_by (N := N_raw_wrong_words) (sc := defScope s_raw_wrong_words) (by decide +kernel)) (fun _ _ _ _ _ => (pg_tup rfl (pgs_cons (pg_name (i := 2) nd rfl (Or.inl rfl)) (pgs_cons (pg_name (i := 3) nd rfl (Or.inl rfl)) pgs_nil)))) (fun _ _ _ _ _ => pts_nil) (fun _ _ _ _ _ => (pe_ix ix_seq (pe_call G_raw_costs (hr.mono (by decide)) (by rfl) T.g_raw_costs T.F_raw_costs.kp T.b_raw_costs .nil pass0 (pa_cons (pv 0) (pa_cons (pe_op op_addG (pv 2) pe_int) pa_nil))) (pv 3) (fun _ _ => rfl)))) pa_nil)))), fn_ok (N := N_raw_wrong_words) (t := fun E => u_raw_wrong_words K T.cl) rfl (fun E => sim_raw_wrong_words fa E) h⟩
theorem ok_wrong_words (T : Txt K mg) (fa : Fa K T.cl) (G_raw_wrong_words : FnOk P w K mg base CX0 2 T.f_raw_wrong_words T.fd_raw_wrong_words ["words", "hung"] (spD (vals 2) (D_raw_wrong_words T.cl))) : FnOk P w K mg base (L2N.CX P w) 3 T.f_wrong_words T.fd_wrong_words ["words", "tree"] (spD (vals 2) (D_wrong_words T.cl)) := by
  refine okN T.F_wrong_words sc_wrong_words (fun vs H Q E h => spD_len h) (fun cdv A outer s H vs Q E hr h => ?_)
  have nd := sc_wrong_words.nd
  exact ⟨u_wrong_words K T.cl E, (pss_cons (ps_if (pt_cmpR (op_neD hr.units) (pe_callB call_lenG (by rfl) T.z_len PySem.boot_len (pa_cons (pe_fld (pv 1) rfl) pa_nil)) (pe_fld (pv 0) rfl) (nomark _)) (pss_one (L2N.ps_raise rfl (L2N.takes_of rfl rfl rfl rfl) (pmk_own0N PySem.F.excBase_ValueError T.x0_OtherBlocks T.g_OtherBlocks T.X_OtherBlocks.kC (raises_own T.X_OtherBlocks.exC T.X_OtherBlocks.tyC) (by rfl)))) pss_nil) (pss_one (ps_ret (pe_call G_raw_wrong_words (hr.mono (by decide)) (by rfl) T.g_raw_wrong_words T.F_raw_wrong_words.kp T.b_raw_wrong_words .nil pass0 (pa_cons (pv 0) (pa_cons (pe_fld (pv 1) rfl) pa_nil)))))), fn_ok (N := N_wrong_words) (t := fun E => u_wrong_words K T.cl E) rfl (fun E => sim_wrong_words fa E) h⟩
theorem ok_rows_of (T : Txt K mg) (fa : Fa K T.cl) (G_raw_costs : FnOk P w K mg base CX0 1 T.f_raw_costs T.fd_raw_costs ["words", "block"] (spD (vals 2) (D_raw_costs T.cl))) : FnOk P w K mg base CX0 2 T.f_rows_of T.fd_rows_of ["words"] (spD (vals 1) (D_rows_of T.cl)) := by
  refine T.F_rows_of.ok sc_rows_of (fun vs H Q E h => spD_len h) (fun cdv A outer s H vs Q E hr h => ?_)
  have nd := sc_rows_of.nd
  exact ⟨u_rows_of K T.cl, (pss_cons (ps_set (i := 1) nd rfl (Or.inl rfl) (pe_lst pa_nil)) (pss_cons (ps_for PassesOwn.never rfl (pi_range2 (by rfl) T.z_range (pa_cons pe_int (pa_cons (pe_op op_addG (pe_fld (pv 0) rfl) pe_int) pa_nil))) (pg_name (i := 2) nd rfl (Or.inl rfl)) (pss_cons (ps_setLc (i := 3) (own := [("one", 5)]) (by rfl) nd rfl rfl (sw_true rfl rfl rfl (by decide +kernel)) (pi_seq (pe_call G_raw_costs (hr.mono (by decide)) (by rfl) T.g_raw_costs T.F_raw_costs.kp T.b_raw_costs .nil pass0 (pa_cons (pv 0) (pa_cons (pv 2) pa_nil)))) (blkOk_by (N := N_rows_of) (sc := defScope s_rows_of) (by decide +kernel)) (fun _ _ _ _ _ => (pg_name (i := 5) nd rfl (Or.inl rfl))) (fun _ _ _ _ _ => pts_nil) (fun _ _ _ _ _ => (pe_ifExp (pt_cmpR op_isG (pv 5) pe_non (nomark _)) pe_int (pe_op op_shlI pe_int (pe_op op_mulG (pe_glob (by rfl) T.c_FIGURE ⟨_, rfl⟩) (pv 5)))))) (pss_cons (ps_setLc (i := 4) (own := [("weight", 6)]) (by rfl) nd rfl rfl (sw_true rfl rfl rfl (by decide +kernel)) (pi_seq (pe_slice sl_G (pv 3) (po_some pe_int) po_none)) (blkOk_by (N := N_rows_of) (sc := defScope s_rows_of) (by decide +kernel)) (fun _ _ _ _ _ => (pg_name (i := 6) nd rfl (Or.inl rfl))) (fun _ _ _ _ _ => pts_nil) (fun _ _ _ _ _ => (pe_un un_neg (pv 6)))) (pss_cons (ps_asg (pe_callB (cr_sum rfl) (by rfl) T.z_sum (by decide +kernel) (pa_cons (pv 3) pa_nil)) (pg_sub (pv 4) (pe_op op_sub (pv 2) pe_int) set_list)) (pss_one (ps_expr (pe_bm PySem.F.plainAttrs_list PySem.F.slot_list_append PySem.F.type_list_append mt_append (pv 1) (pa_cons (pv 4) pa_nil)))))))) (pss_one (ps_ret (pv 1))))), fn_ok (N := N_rows_of) (t := fun E => u_rows_of K T.cl) rfl (fun E => sim_rows_of fa E) h⟩
theorem ok_led_down (T : Txt K mg) (fa : Fa K T.cl)  : FnOk P w K mg base CX0 1 T.f_led_down T.fd_led_down ["rows", "at", "ahead"] (spD (vals 3) (D_led_down T.cl)) := by
  refine T.F_led_down.ok sc_led_down (fun vs H Q E h => spD_len h) (fun cdv A outer s H vs Q E hr h => ?_)
  have nd := sc_led_down.nd
  exact ⟨u_led_down K T.cl, (pss_cons (ps_set (i := 3) nd rfl (Or.inr rfl) (pe_ix ix_seq (pv 0) pe_int (fun _ _ => rfl))) (pss_cons (ps_set (i := 4) nd rfl (Or.inl rfl) (pe_lst pa_nil)) (pss_cons (ps_for PassesOwn.never rfl (pi_seq (pe_slice sl_G (pv 0) (po_some pe_int) po_none)) (pg_name (i := 5) nd rfl (Or.inr rfl)) (pss_one (ps_expr (pe_bm PySem.F.plainAttrs_list PySem.F.slot_list_append PySem.F.type_list_append mt_append (pv 4) (pa_cons (pe_lc (own := [("k", 6)]) (by rfl) nd (pi_range1 (by rfl) T.z_range (pa_cons (pe_callB call_lenG (by rfl) T.z_len PySem.boot_len (pa_cons (pv 3) pa_nil)) pa_nil)) (blkOk_by (N := N_led_down) (sc := defScope s_led_down) (by decide +kernel)) (fun _ _ _ _ _ => (pg_name (i := 6) nd rfl (Or.inl rfl))) (fun _ _ _ _ _ => pts_nil) (fun _ _ _ _ _ => (pe_op op_divB (pe_op op_sub (pe_op op_mulB (pe_ix ix_seq (pv 5) (pv 6) (fun _ _ => rfl)) (pe_ix ix_seq (pv 3) (pv 1) (fun _ _ => rfl))) (pe_op op_mulB (pe_ix ix_seq (pv 5) (pv 1) (fun _ _ => rfl)) (pe_ix ix_seq (pv 3) (pv 6) (fun _ _ => rfl)))) (pv 2)))) pa_nil))))) (pss_one (ps_ret (pv 4)))))), fn_ok (N := N_led_down) (t := fun E => u_led_down K T.cl) rfl (fun E => sim_led_down fa E) h⟩
theorem ok_determinant (T : Txt K mg) (fa : Fa K T.cl) (G_led_down : FnOk P w K mg base CX0 1 T.f_led_down T.fd_led_down ["rows", "at", "ahead"] (spD (vals 3) (D_led_down T.cl))) : FnOk P w K mg base CX0 2 T.f_determinant T.fd_determinant ["rows"] (spD (vals 1) (D_determinant T.cl)) := by
  refine T.F_determinant.ok sc_determinant (fun vs H Q E h => spD_len h) (fun cdv A outer s H vs Q E hr h => ?_)
  have nd := sc_determinant.nd
  exact ⟨u_determinant K T.cl, (pss_cons (ps_set (i := 1) nd rfl (Or.inl rfl) pe_int) (pss_cons (ps_for PassesOwn.never rfl (pi_range1 (by rfl) T.z_range (pa_cons (pe_op op_sub (pe_callB call_lenG (by rfl) T.z_len PySem.boot_len (pa_cons (pv 0) pa_nil)) pe_int) pa_nil)) (pg_name (i := 2) nd rfl (Or.inl rfl)) (pss_cons (ps_set (i := 3) nd rfl (Or.inl rfl) (pe_call G_led_down (hr.mono (by decide)) (by rfl) T.g_led_down T.F_led_down.kp T.b_led_down .nil pass0 (pa_cons (pv 0) (pa_cons (pv 2) (pa_cons (pv 1) pa_nil))))) (pss_cons (ps_set (i := 1) nd rfl (Or.inl rfl) (pe_ix ix_seq (pe_ix ix_seq (pv 0) pe_int (fun _ _ => rfl)) (pv 2) (fun _ _ => rfl))) (pss_one (ps_set (i := 0) nd rfl (Or.inl rfl) (pv 3)))))) (pss_one (ps_ret (pe_ix ix_seq (pe_ix ix_seq (pv 0) pe_int (fun _ _ => rfl)) (pe_un un_neg pe_int) (fun _ _ => rfl)))))), fn_ok (N := N_determinant) (t := fun E => u_determinant K T.cl) rfl (fun E => sim_determinant fa E) h⟩
theorem ok_many_by_wrong (T : Txt K mg) (fa : Fa K T.cl) (G_TooMany_init : FnOk P w K mg base CX0 1 T.f_TooMany_init T.fd_TooMany_init ["self", "most"] (spX1 T.C_TooMany "most")) (G_determinant : FnOk P w K mg base CX0 2 T.f_determinant T.fd_determinant ["rows"] (spD (vals 1) (D_determinant T.cl))) (G_rows_of : FnOk P w K mg base CX0 2 T.f_rows_of T.fd_rows_of ["words"] (spD (vals 1) (D_rows_of T.cl))) : FnOk P w K mg base (L2N.CX P w) 3 T.f_many_by_wrong T.fd_many_by_wrong ["words"] (spD (vals 1) (D_many_by_wrong T.cl)) := by
  refine okN T.F_many_by_wrong sc_many_by_wrong (fun vs H Q E h => spD_len h) (fun cdv A outer s H vs Q E hr h => ?_)
  have nd := sc_many_by_wrong.nd
  exact ⟨u_many_by_wrong K T.cl E, (pss_cons (ps_if (pt_cmpR op_gt (pe_fld (pv 0) rfl) (pe_glob (by rfl) T.c_MOST_BLOCKS_counts ⟨_, rfl⟩) (nomark _)) (pss_one (L2N.ps_raise rfl (L2N.takes_of rfl rfl rfl rfl) (pmk_oexN T.X_TooMany T.i_TooMany T.ti_TooMany G_TooMany_init (hr.mono (by decide)) T.b_TooMany_init pass0 (by rfl) T.g_TooMany (pa_cons (pe_glob (by rfl) T.c_MOST_BLOCKS_counts ⟨_, rfl⟩) pa_nil)))) pss_nil) (pss_cons (ps_set (i := 1) nd rfl (Or.inl rfl) (pe_call G_determinant (hr.mono (by decide)) (by rfl) T.g_determinant T.F_determinant.kp T.b_determinant .nil pass0 (pa_cons (pe_call G_rows_of (hr.mono (by decide)) (by rfl) T.g_rows_of T.F_rows_of.kp T.b_rows_of .nil pass0 (pa_cons (pv 0) pa_nil)) pa_nil))) (pss_cons (ps_set (i := 2) nd rfl (Or.inl rfl) (pe_lst pa_nil)) (pss_cons (ps_while (passes_of rfl) (pt_cmpR op_gt (pv 1) pe_int (nomark _)) (pss_cons (ps_expr (pe_bm PySem.F.plainAttrs_list PySem.F.slot_list_append PySem.F.type_list_append mt_append (pv 2) (pa_cons (pe_op op_andI (pv 1) (pe_op op_sub (pe_op op_shlI pe_int (pe_glob (by rfl) T.c_FIGURE ⟨_, rfl⟩)) pe_int)) pa_nil))) (pss_one (ps_set (i := 1) nd rfl (Or.inl rfl) (pe_op op_shrI (pv 1) (pe_glob (by rfl) T.c_FIGURE ⟨_, rfl⟩)))))) (pss_one (ps_ret (pe_callTy call_tuple_of (by rfl) T.z_tuple (by decide +kernel) (pa_cons (pv 2) pa_nil)))))))), fn_ok (N := N_many_by_wrong) (t := fun E => u_many_by_wrong K T.cl E) rfl (fun E => sim_many_by_wrong fa E) h⟩
theorem ok_leads_home (T : Txt K mg) (fa : Fa K T.cl)  : FnOk P w K mg base CX0 1 T.f_leads_home T.fd_leads_home ["hung", "block"] (spD (vals 2) (D_leads_home T.cl)) := by
  refine T.F_leads_home.ok sc_leads_home (fun vs H Q E h => spD_len h) (fun cdv A outer s H vs Q E hr h => ?_)
  have nd := sc_leads_home.nd
  exact ⟨u_leads_home K T.cl, (pss_cons (ps_set (i := 2) nd rfl (Or.inl rfl) (pv 1)) (pss_cons (ps_for PassesOwn.never rfl (pi_range1 (by rfl) T.z_range (pa_cons (pe_op op_addG (pe_callB call_lenG (by rfl) T.z_len PySem.boot_len (pa_cons (pv 0) pa_nil)) pe_int) pa_nil)) (pg_name (i := 3) nd rfl (Or.inl rfl)) (pss_cons (ps_if (pt_cmpR (op_eqD hr.units) (pv 2) (pe_glob (by rfl) T.c_HEAD ⟨_, rfl⟩) (nomark _)) (pss_one (ps_ret pe_bl)) pss_nil) (pss_one (ps_set (i := 2) nd rfl (Or.inl rfl) (pe_ix ix_seq (pv 0) (pe_op op_sub (pv 2) pe_int) (fun _ _ => rfl)))))) (pss_one (ps_ret pe_bl)))), fn_ok (N := N_leads_home) (t := fun E => u_leads_home K T.cl) rfl (fun E => sim_leads_home fa E) h⟩
theorem ok_Tree_init (T : Txt K mg) (fa : Fa K T.cl) (G_BadTree_init : FnOk P w K mg base CX0 1 T.f_BadTree_init T.fd_BadTree_init ["self", "part"] (spX1 T.C_BadTree "part")) (G_is_within : FnOk P w K mg base CX0 2 T.f_is_within T.fd_is_within ["thing", "least", "most"] (spD (vals 3) (D_is_within T.cl))) (G_leads_home : FnOk P w K mg base CX0 1 T.f_leads_home T.fd_leads_home ["hung", "block"] (spD (vals 2) (D_leads_home T.cl))) : FnOk P w K mg base (L2N.CX P w) 3 T.f_Tree_init T.fd_Tree_init ["self", "hung"] (spD (true :: vals 1) (D_Tree_init T.cl)) := by
  refine okN T.F_Tree_init sc_Tree_init (fun vs H Q E h => spD_len h) (fun cdv A outer s H vs Q E hr h => ?_)
  have nd := sc_Tree_init.nd
  exact ⟨u_Tree_init K T.cl E, (pss_cons (ps_if (PW.pt (pw_or (pt_not (pt_val (pe_callB call_isiG (by rfl) T.z_isinstance (by decide +kernel) (pa_cons (pv 1) (pa_cons (pe_bltn (v := .ty "tuple") (by rfl) T.z_tuple (by decide +kernel) rfl) pa_nil))))) (pw_or1 (pt_not (pt_chain op_le op_le pe_int (pe_callB call_lenG (by rfl) T.z_len PySem.boot_len (pa_cons (pv 1) pa_nil)) (pe_glob (by rfl) T.c_MOST_BLOCKS_checks ⟨_, rfl⟩)))))) (pss_one (L2N.ps_raise rfl (L2N.takes_of rfl rfl rfl rfl) (pmk_oexN T.X_BadTree T.i_BadTree T.ti_BadTree G_BadTree_init (hr.mono (by decide)) T.b_BadTree_init pass0 (by rfl) T.g_BadTree (pa_cons pe_str pa_nil)))) pss_nil) (pss_cons (ps_for (passes_of rfl) rfl (pi_range2 (by rfl) T.z_range (pa_cons pe_int (pa_cons (pe_op op_addG (pe_callB call_lenG (by rfl) T.z_len PySem.boot_len (pa_cons (pv 1) pa_nil)) pe_int) pa_nil))) (pg_name (i := 2) nd rfl (Or.inl rfl)) (pss_one (ps_if (PW.pt (pw_or (pt_not (pt_val (pe_call G_is_within (hr.mono (by decide)) (by rfl) T.g_is_within T.F_is_within.kp T.b_is_within .nil pass0 (pa_cons (pe_ix ix_seq (pv 1) (pe_op op_sub (pv 2) pe_int) (fun _ _ => rfl)) (pa_cons pe_int (pa_cons (pe_callB call_lenG (by rfl) T.z_len PySem.boot_len (pa_cons (pv 1) pa_nil)) pa_nil)))))) (pw_or1 (pt_cmpR (op_eqD hr.units) (pe_ix ix_seq (pv 1) (pe_op op_sub (pv 2) pe_int) (fun _ _ => rfl)) (pv 2) (nomark _))))) (pss_one (L2N.ps_raise rfl (L2N.takes_of rfl rfl rfl rfl) (pmk_oexN T.X_BadTree T.i_BadTree T.ti_BadTree G_BadTree_init (hr.mono (by decide)) T.b_BadTree_init pass0 (by rfl) T.g_BadTree (pa_cons (pv 2) pa_nil)))) pss_nil))) (pss_cons (ps_for (passes_of rfl) rfl (pi_range2 (by rfl) T.z_range (pa_cons pe_int (pa_cons (pe_op op_addG (pe_callB call_lenG (by rfl) T.z_len PySem.boot_len (pa_cons (pv 1) pa_nil)) pe_int) pa_nil))) (pg_name (i := 2) nd rfl (Or.inl rfl)) (pss_one (ps_if (pt_not (pt_val (pe_call G_leads_home (hr.mono (by decide)) (by rfl) T.g_leads_home T.F_leads_home.kp T.b_leads_home .nil pass0 (pa_cons (pv 1) (pa_cons (pv 2) pa_nil))))) (pss_one (L2N.ps_raise rfl (L2N.takes_of rfl rfl rfl rfl) (pmk_oexN T.X_BadTree T.i_BadTree T.ti_BadTree G_BadTree_init (hr.mono (by decide)) T.b_BadTree_init pass0 (by rfl) T.g_BadTree (pa_cons (pe_tup (pa_cons pe_str (pa_cons (pv 2) pa_nil))) pa_nil)))) pss_nil))) (pss_one (ps_fld (pv 0) (pv 1) rfl))))), fn_ok (N := N_Tree_init) (t := fun E => u_Tree_init K T.cl E) rfl (fun E => sim_Tree_init fa E) h⟩
theorem ok_l_hand (T : Txt K mg)  : FnOk P w K mg base CX0 1 T.f_l_hand T.fd_l_hand ["_law_script"] (spHead K HandOk) := by
  refine T.F_l_hand.ok sc_l_hand (fun vs H Q E h => spHead_len h) (fun cdv A outer s H vs Q E hr h => ?_)
  have nd := sc_l_hand.nd
  exact ⟨_, (pss_cons (ps_setLc (i := 1) (own := [("_law_cell", 2)]) (by rfl) nd rfl rfl (sw_true rfl rfl rfl (by decide +kernel)) (pi_list (pe_slice sl_list (pv 0) po_none (po_some pe_int))) (blkOk_by (N := N_l_hand) (sc := defScope s_l_hand) (by decide +kernel)) (fun _ _ _ _ _ => (pg_name (i := 2) nd rfl (Or.inl rfl))) (fun _ _ _ _ _ => pts_nil) (fun _ _ _ _ _ => (pe_callB call_abs (by rfl) T.z_abs (by decide +kernel) (pa_cons (pe_callTy call_int1 (by rfl) T.z_int (by decide +kernel) (pa_cons (pv 2) pa_nil)) pa_nil)))) (pss_one (ps_ret (pe_lst (pa_cons (pv 1) (pa_cons pe_int (pa_cons pe_int (pa_cons (pe_op op_add pe_int (pe_callB call_len_seq (by rfl) T.z_len PySem.boot_len (pa_cons (pv 1) pa_nil))) (pa_cons pe_int pa_nil))))))))), pure_l_hand h⟩
theorem ok_l_draw (T : Txt K mg) (fa : Fa K T.cl)  : FnOk P w K mg base CX0 1 T.f_l_draw T.fd_l_draw ["_law_hand_here", "_law_many"] (spD (true :: vals 1) (D_l_draw T.cl)) := by
  refine T.F_l_draw.ok sc_l_draw (fun vs H Q E h => spD_len h) (fun cdv A outer s H vs Q E hr h => ?_)
  have nd := sc_l_draw.nd
  exact ⟨u_l_draw K T.cl, (pss_cons (ps_if (PW.pt (pw_and (pt_cmpR (op_eqD hr.units) (pe_ix ix_seq (pv 0) pe_int (fun _ _ => rfl)) pe_int (nomark _)) (pw_and1 (pt_cmpR (OpR.or op_lt (op_ltT hr.units0)) (pe_ix ix_seq (pv 0) pe_int (fun _ _ => rfl)) (pe_callB call_lenG (by rfl) T.z_len PySem.boot_len (pa_cons (pe_ix ix_seq (pv 0) pe_int (fun _ _ => rfl)) pa_nil)) (nomark _))))) (pss_cons (ps_set (i := 2) nd rfl (Or.inl rfl) (pe_ix ix_seq (pe_ix ix_seq (pv 0) pe_int (fun _ _ => rfl)) (pe_ix ix_seq (pv 0) pe_int (fun _ _ => rfl)) (fun _ _ => rfl))) (pss_cons (ps_asg (pe_op op_addG (pe_ix ix_seq (pv 0) pe_int (fun _ _ => rfl)) pe_int) (pg_sub (pv 0) pe_int set_list)) (pss_cons (ps_asg (pe_op op_mod (pe_callTy call_int1 (by rfl) T.z_int (by decide +kernel) (pa_cons (pe_op op_addG (pe_op op_addG (pe_op op_mulG (pe_ix ix_seq (pv 0) pe_int (fun _ _ => rfl)) pe_int) (pv 2)) pe_int) pa_nil)) pe_int) (pg_sub (pv 0) pe_int set_list)) (pss_one (ps_if (pt_cmpR op_ge (pv 2) (pe_op op_pow pe_int pe_int) (nomark _)) (pss_one (ps_asg (pv 2) (pg_sub (pv 0) pe_int set_list))) pss_nil))))) pss_nil) (pss_cons (ps_if (pt_cmpR op_gt (pe_ix ix_seq (pv 0) pe_int (fun _ _ => rfl)) pe_int (nomark _)) (pss_cons (ps_set (i := 3) nd rfl (Or.inl rfl) (pe_op op_mod (pe_callTy call_int1 (by rfl) T.z_int (by decide +kernel) (pa_cons (pe_ix ix_seq (pv 0) pe_int (fun _ _ => rfl)) pa_nil)) (pv 1))) (pss_cons (ps_asg (pe_op op_fdivN (pe_ix ix_seq (pv 0) pe_int (fun _ _ => rfl)) (pv 1)) (pg_sub (pv 0) pe_int set_list)) (pss_one (ps_ret (pv 3))))) pss_nil) (pss_cons (ps_asg (pe_op op_addG (pe_ix ix_seq (pv 0) pe_int (fun _ _ => rfl)) pe_int) (pg_sub (pv 0) pe_int set_list)) (pss_cons (ps_set (i := 4) nd rfl (Or.inl rfl) (pe_op op_mod (pe_callTy call_int1 (by rfl) T.z_int (by decide +kernel) (pa_cons (pe_op op_mulG (pe_callTy call_int1 (by rfl) T.z_int (by decide +kernel) (pa_cons (pe_op op_addG (pe_ix ix_seq (pv 0) pe_int (fun _ _ => rfl)) (pe_op op_mulG pe_int (pe_ix ix_seq (pv 0) pe_int (fun _ _ => rfl)))) pa_nil)) pe_int) pa_nil)) pe_int)) (pss_cons (ps_set (i := 4) nd rfl (Or.inl rfl) (pe_op op_mod (pe_callTy call_int1 (by rfl) T.z_int (by decide +kernel) (pa_cons (pe_op op_mulG (pv 4) (pe_op op_addG (pe_op op_fdivN (pv 4) pe_int) pe_int)) pa_nil)) pe_int)) (pss_cons (ps_set (i := 4) nd rfl (Or.inl rfl) (pe_op op_mod (pe_callTy call_int1 (by rfl) T.z_int (by decide +kernel) (pa_cons (pe_op op_mulG (pv 4) (pe_op op_addG (pe_op op_fdivN (pv 4) pe_int) pe_int)) pa_nil)) pe_int)) (pss_one (ps_ret (pe_op op_mod (pe_callTy call_int1 (by rfl) T.z_int (by decide +kernel) (pa_cons (pe_op op_fdivN (pv 4) pe_int) pa_nil)) (pv 1)))))))))), fn_ok (N := N_l_draw) (t := fun E => u_l_draw K T.cl) rfl (fun E => sim_l_draw fa E) h⟩
theorem ok_l_is (T : Txt K mg) (fa : Fa K T.cl)  : ∀ k : Nat, FnOk P w K mg base CX0 k T.f_l_is T.fd_l_is ["_law_told", "_law_due"] (spD (vals 2) (D_l_is T.cl k))
  | 0 => ⟨fun vs H Q E h => spD_len h, fun A outer s H args us vs Q E _ _ _ _ h => by obtain ⟨F, os, B, P', PE, h1, h2, h3, h4, h5, h6, h7⟩ := h; first | exact h6.elim | exact h7.1.elim⟩
  | k + 1 => by
    have G_l_is := ok_l_is T fa  k
    refine T.F_l_is.ok sc_l_is (fun vs H Q E h => spD_len h) (fun cdv A outer s H vs Q E hr h => ?_)
    have nd := sc_l_is.nd
    exact ⟨u_l_is K T.cl k, (pss_cons (ps_if (pt_val (pe_callB call_isiG (by rfl) T.z_isinstance (by decide +kernel) (pa_cons (pv 1) (pa_cons (pe_tup (pa_cons (pe_bltn (v := .ty "tuple") (by rfl) T.z_tuple (by decide +kernel) rfl) (pa_cons (pe_bltn (v := .ty "list") (by rfl) T.z_list (by decide +kernel) rfl) pa_nil))) pa_nil)))) (pss_cons (ps_if (PW.pt (pw_or (pt_cmpR (op_neD hr.units) (pe_callB call_isiG (by rfl) T.z_isinstance (by decide +kernel) (pa_cons (pv 0) (pa_cons (pe_bltn (v := .ty "tuple") (by rfl) T.z_tuple (by decide +kernel) rfl) pa_nil))) (pe_callB call_isiG (by rfl) T.z_isinstance (by decide +kernel) (pa_cons (pv 1) (pa_cons (pe_bltn (v := .ty "tuple") (by rfl) T.z_tuple (by decide +kernel) rfl) pa_nil))) (nomark _)) (pw_or1 (pt_not (pt_val (pe_callB call_isiG (by rfl) T.z_isinstance (by decide +kernel) (pa_cons (pv 0) (pa_cons (pe_tup (pa_cons (pe_bltn (v := .ty "tuple") (by rfl) T.z_tuple (by decide +kernel) rfl) (pa_cons (pe_bltn (v := .ty "list") (by rfl) T.z_list (by decide +kernel) rfl) pa_nil))) pa_nil)))))))) (pss_one (ps_ret pe_bl)) pss_nil) (pss_one (ps_ret (pe_and (pe_cmpR (op_eqD hr.units) (pe_callB call_lenG (by rfl) T.z_len PySem.boot_len (pa_cons (pv 0) pa_nil)) (pe_callB call_lenG (by rfl) T.z_len PySem.boot_len (pa_cons (pv 1) pa_nil)) (nomark _)) (pe_one (pe_callB (cr_all rfl) (by rfl) T.z_all (by decide +kernel) (pa_cons (pe_lc (own := [("_law_one", 2), ("_law_two", 3)]) (by rfl) nd (RZ.pi_zipA (by rfl) T.z_zip (pa_cons (pv 0) (pa_cons (pv 1) pa_nil))) (blkOk_by (N := N_l_is) (sc := defScope s_l_is) (by decide +kernel)) (fun _ _ _ _ _ => (pg_tup rfl (pgs_cons (pg_name (i := 2) nd rfl (Or.inl rfl)) (pgs_cons (pg_name (i := 3) nd rfl (Or.inl rfl)) pgs_nil)))) (fun _ _ _ _ _ => pts_nil) (fun _ _ _ _ _ => (pe_call G_l_is hr (by rfl) T.g_l_is T.F_l_is.kp T.b_l_is .nil pass0 (pa_cons (pv 2) (pa_cons (pv 3) pa_nil))))) pa_nil))))))) pss_nil) (pss_one (ps_ret (pe_and (pe_cmpR (op_eqD hr.units) (pe_callB call_isiG (by rfl) T.z_isinstance (by decide +kernel) (pa_cons (pv 0) (pa_cons (pe_bltn (v := .ty "bool") (by rfl) T.z_bool (by decide +kernel) rfl) pa_nil))) (pe_callB call_isiG (by rfl) T.z_isinstance (by decide +kernel) (pa_cons (pv 1) (pa_cons (pe_bltn (v := .ty "bool") (by rfl) T.z_bool (by decide +kernel) rfl) pa_nil))) (nomark _)) (pe_one (pe_cmpR (op_eqD hr.units) (pv 0) (pv 1) (nomark _))))))), fn_ok (N := N_l_is) (t := fun E => u_l_is K T.cl k) rfl (fun E => sim_l_is fa k E) h⟩
theorem ok_l_deep (T : Txt K mg) (fa : Fa K T.cl) (G_l_draw : FnOk P w K mg base CX0 1 T.f_l_draw T.fd_l_draw ["_law_hand_here", "_law_many"] (spD (true :: vals 1) (D_l_draw T.cl))) : FnOk P w K mg base CX0 2 T.f_l_deep T.fd_l_deep ["_law_hand_here"] (spD (true :: vals 0) (D_l_deep T.cl)) := by
  refine T.F_l_deep.ok sc_l_deep (fun vs H Q E h => spD_len h) (fun cdv A outer s H vs Q E hr h => ?_)
  have nd := sc_l_deep.nd
  exact ⟨u_l_deep K T.cl, (pss_cons (ps_set (i := 1) nd rfl (Or.inl rfl) (pe_ix ix_seq (pe_lst (pa_cons pe_non (pa_cons pe_str (pa_cons (pe_un un_neg pe_int) (pa_cons pe_dnewK pa_nil))))) (pe_call G_l_draw (hr.mono (by decide)) (by rfl) T.g_l_draw T.F_l_draw.kp T.b_l_draw .nil pass0 (pa_cons (pv 0) (pa_cons pe_int pa_nil))) (fun _ _ => rfl))) (pss_cons (ps_for PassesOwn.never rfl (pi_range1 (by rfl) T.z_range (pa_cons (pe_op op_addG pe_int (pe_call G_l_draw (hr.mono (by decide)) (by rfl) T.g_l_draw T.F_l_draw.kp T.b_l_draw .nil pass0 (pa_cons (pv 0) (pa_cons pe_int pa_nil)))) pa_nil)) (pg_name (i := 2) nd rfl (Or.inl rfl)) (pss_one (ps_set (i := 1) nd rfl (Or.inl rfl) (pe_ix ix_seq (pe_lst (pa_cons (pe_tup (pa_cons (pv 1) pa_nil)) (pa_cons (pe_lst (pa_cons (pv 1) pa_nil)) (pa_cons (pe_slice sl_G (pe_tup (pa_cons (pv 1) (pa_cons (pv 1) pa_nil))) po_none (po_some pe_int)) (pa_cons (pe_disp (pps_cons pe_int (pv 1) pps_nil) rfl rfl (List.cons_ne_nil _ _) (by decide)) pa_nil))))) (pe_call G_l_draw (hr.mono (by decide)) (by rfl) T.g_l_draw T.F_l_draw.kp T.b_l_draw .nil pass0 (pa_cons (pv 0) (pa_cons pe_int pa_nil))) (fun _ _ => rfl))))) (pss_one (ps_ret (pv 1))))), fn_ok (N := N_l_deep) (t := fun E => u_l_deep K T.cl) rfl (fun E => sim_l_deep fa E) h⟩
theorem ok_l_tree (T : Txt K mg) (fa : Fa K T.cl) (G_l_draw : FnOk P w K mg base CX0 1 T.f_l_draw T.fd_l_draw ["_law_hand_here", "_law_many"] (spD (true :: vals 1) (D_l_draw T.cl))) : FnOk P w K mg base CX0 2 T.f_l_tree T.fd_l_tree ["_law_hand_here", "_law_blocks"] (spD (true :: vals 1) (D_l_tree T.cl)) := by
  refine T.F_l_tree.ok sc_l_tree (fun vs H Q E h => spD_len h) (fun cdv A outer s H vs Q E hr h => ?_)
  have nd := sc_l_tree.nd
  exact ⟨u_l_tree K T.cl, (pss_cons (ps_set (i := 2) nd rfl (Or.inl rfl) (pe_listRg rfl (by rfl) T.z_list (prg_2 (by rfl) T.z_range pe_int (pe_op op_addG (pv 1) pe_int)))) (pss_cons (ps_set (i := 3) nd rfl (Or.inl rfl) (pe_lst (pa_cons pe_int pa_nil))) (pss_cons (ps_set (i := 4) nd rfl (Or.inl rfl) (pe_op op_mulG (pe_lst (pa_cons pe_int pa_nil)) (pv 1))) (pss_cons (ps_set (i := 5) nd rfl (Or.inl rfl) (pe_call G_l_draw (hr.mono (by decide)) (by rfl) T.g_l_draw T.F_l_draw.kp T.b_l_draw .nil pass0 (pa_cons (pv 0) (pa_cons pe_int pa_nil)))) (pss_cons (ps_for PassesOwn.never rfl (pi_range1 (by rfl) T.z_range (pa_cons (pv 1) pa_nil)) (pg_name (i := 6) nd rfl (Or.inl rfl)) (pss_cons (ps_set (i := 7) nd rfl (Or.inl rfl) (pe_bm PySem.F.plainAttrs_list PySem.F.slot_list_pop PySem.F.type_list_pop mt_popAt (pv 2) (pa_cons (pe_call G_l_draw (hr.mono (by decide)) (by rfl) T.g_l_draw T.F_l_draw.kp T.b_l_draw .nil pass0 (pa_cons (pv 0) (pa_cons (pe_callB call_lenG (by rfl) T.z_len PySem.boot_len (pa_cons (pv 2) pa_nil)) pa_nil))) pa_nil))) (pss_cons (ps_set (i := 8) nd rfl (Or.inl rfl) (pe_callB (call_max2 rfl) (by rfl) T.z_max (by decide +kernel) (pa_cons pe_int (pa_cons (pe_ix ix_seq (pe_lst (pa_cons (pe_callB call_lenG (by rfl) T.z_len PySem.boot_len (pa_cons (pv 3) pa_nil)) (pa_cons pe_int (pa_cons pe_int pa_nil)))) (pv 5) (fun _ _ => rfl)) pa_nil)))) (pss_cons (ps_asg (pe_ix ix_seq (pv 3) (pe_op op_sub (pe_op op_sub (pe_callB call_lenG (by rfl) T.z_len PySem.boot_len (pa_cons (pv 3) pa_nil)) pe_int) (pe_call G_l_draw (hr.mono (by decide)) (by rfl) T.g_l_draw T.F_l_draw.kp T.b_l_draw .nil pass0 (pa_cons (pv 0) (pa_cons (pe_callB (call_min2 rfl) (by rfl) T.z_min (by decide +kernel) (pa_cons (pv 8) (pa_cons (pe_callB call_lenG (by rfl) T.z_len PySem.boot_len (pa_cons (pv 3) pa_nil)) pa_nil))) pa_nil)))) (fun _ _ => rfl)) (pg_sub (pv 4) (pe_op op_sub (pv 7) pe_int) set_list)) (pss_one (ps_expr (pe_bm PySem.F.plainAttrs_list PySem.F.slot_list_append PySem.F.type_list_append mt_append (pv 3) (pa_cons (pv 7) pa_nil)))))))) (pss_one (ps_ret (pe_callTy call_tuple_of (by rfl) T.z_tuple (by decide +kernel) (pa_cons (pv 4) pa_nil))))))))), fn_ok (N := N_l_tree) (t := fun E => u_l_tree K T.cl) rfl (fun E => sim_l_tree fa E) h⟩
theorem ok_l_right (T : Txt K mg) (fa : Fa K T.cl)  : FnOk P w K mg base CX0 1 T.f_l_right T.fd_l_right ["_law_hung"] (spD (vals 1) (D_l_right T.cl)) := by
  refine T.F_l_right.ok sc_l_right (fun vs H Q E h => spD_len h) (fun cdv A outer s H vs Q E hr h => ?_)
  have nd := sc_l_right.nd
  exact ⟨u_l_right K T.cl, (pss_cons (ps_set (i := 1) nd rfl (Or.inl rfl) (pe_lst pa_nil)) (pss_cons (ps_for PassesOwn.never rfl (pi_range1 (by rfl) T.z_range (pa_cons (pe_op op_addG (pe_callB call_lenG (by rfl) T.z_len PySem.boot_len (pa_cons (pv 0) pa_nil)) pe_int) pa_nil)) (pg_name (i := 2) nd rfl (Or.inr rfl)) (pss_one (ps_expr (pe_bm PySem.F.plainAttrs_list PySem.F.slot_list_append PySem.F.type_list_append mt_append (pv 1) (pa_cons (pe_callTy call_tuple_of (by rfl) T.z_tuple (by decide +kernel) (pa_cons (pe_lc (own := [("_law_here", 3)]) (by rfl) nd (pi_seq (pv 0)) (blkOk_by (N := N_l_right) (sc := defScope s_l_right) (by decide +kernel)) (fun _ _ _ _ _ => (pg_name (i := 3) nd rfl (Or.inl rfl))) (fun _ _ _ _ _ => pts_nil) (fun _ _ _ _ _ => (pe_cmpR (op_eqD hr.units) (pv 3) (pv 2) (nomark _)))) pa_nil)) pa_nil))))) (pss_one (ps_ret (pe_tup (pa_cons (pv 0) (pa_cons (pe_callTy call_tuple_of (by rfl) T.z_tuple (by decide +kernel) (pa_cons (pv 1) pa_nil)) pa_nil))))))), fn_ok (N := N_l_right) (t := fun E => u_l_right K T.cl) rfl (fun E => sim_l_right fa E) h⟩
theorem ok_l_put (T : Txt K mg) (fa : Fa K T.cl)  : FnOk P w K mg base CX0 1 T.f_l_put T.fd_l_put ["_law_things", "_law_at", "_law_thing"] (spD (vals 3) (D_l_put T.cl)) := by
  refine T.F_l_put.ok sc_l_put (fun vs H Q E h => spD_len h) (fun cdv A outer s H vs Q E hr h => ?_)
  have nd := sc_l_put.nd
  exact ⟨u_l_put K T.cl, (pss_one (ps_ret (pe_op op_addG (pe_op op_addG (pe_slice sl_G (pv 0) po_none (po_some (pv 1))) (pe_tup (pa_cons (pv 2) pa_nil))) (pe_slice sl_G (pv 0) (po_some (pe_op op_addG (pv 1) pe_int)) po_none)))), fn_ok (N := N_l_put) (t := fun E => u_l_put K T.cl) rfl (fun E => sim_l_put fa E) h⟩
theorem ok_l_worn (T : Txt K mg) (fa : Fa K T.cl) (G_l_draw : FnOk P w K mg base CX0 1 T.f_l_draw T.fd_l_draw ["_law_hand_here", "_law_many"] (spD (true :: vals 1) (D_l_draw T.cl))) (G_l_put : FnOk P w K mg base CX0 1 T.f_l_put T.fd_l_put ["_law_things", "_law_at", "_law_thing"] (spD (vals 3) (D_l_put T.cl))) : FnOk P w K mg base CX0 2 T.f_l_worn T.fd_l_worn ["_law_hand_here", "_law_ups", "_law_lists", "_law_many"] (spD (true :: vals 3) (D_l_worn T.cl)) := by
  refine T.F_l_worn.ok sc_l_worn (fun vs H Q E h => spD_len h) (fun cdv A outer s H vs Q E hr h => ?_)
  have nd := sc_l_worn.nd
  exact ⟨u_l_worn K T.cl, (pss_cons (ps_set (i := 4) nd rfl (Or.inl rfl) (pe_callB call_lenG (by rfl) T.z_len PySem.boot_len (pa_cons (pv 1) pa_nil))) (pss_cons (ps_for PassesOwn.never rfl (pi_range1 (by rfl) T.z_range (pa_cons (pv 3) pa_nil)) (pg_name (i := 5) nd rfl (Or.inl rfl)) (pss_cons (ps_set (i := 6) nd rfl (Or.inl rfl) (pe_call G_l_draw (hr.mono (by decide)) (by rfl) T.g_l_draw T.F_l_draw.kp T.b_l_draw .nil pass0 (pa_cons (pv 0) (pa_cons (pv 4) pa_nil)))) (pss_cons (ps_set (i := 7) nd rfl (Or.inl rfl) (pe_call G_l_draw (hr.mono (by decide)) (by rfl) T.g_l_draw T.F_l_draw.kp T.b_l_draw .nil pass0 (pa_cons (pv 0) (pa_cons (pe_op op_addG (pv 4) pe_int) pa_nil)))) (pss_cons (ps_set (i := 8) nd rfl (Or.inl rfl) (pe_cmpR (op_eqD hr.units) (pe_call G_l_draw (hr.mono (by decide)) (by rfl) T.g_l_draw T.F_l_draw.kp T.b_l_draw .nil pass0 (pa_cons (pv 0) (pa_cons pe_int pa_nil))) pe_int (nomark _))) (pss_one (ps_if (PW.pt (pw_and (pt_cmpR (op_eqD hr.units) (pe_call G_l_draw (hr.mono (by decide)) (by rfl) T.g_l_draw T.F_l_draw.kp T.b_l_draw .nil pass0 (pa_cons (pv 0) (pa_cons pe_int pa_nil))) pe_int (nomark _)) (pw_and1 (pt_cmpR (op_neD hr.units) (pv 7) (pe_op op_addG (pv 6) pe_int) (nomark _))))) (pss_one (ps_set (i := 1) nd rfl (Or.inl rfl) (pe_call G_l_put (hr.mono (by decide)) (by rfl) T.g_l_put T.F_l_put.kp T.b_l_put .nil pass0 (pa_cons (pv 1) (pa_cons (pv 6) (pa_cons (pe_ifExp (pt_val (pv 8)) pe_non (pv 7)) pa_nil)))))) (pss_one (ps_if (pt_cmpR (op_neD hr.units) (pv 7) (pe_op op_addG (pv 6) pe_int) (nomark _)) (pss_cons (ps_set (i := 9) nd rfl (Or.inl rfl) (pe_ix ix_seq (pv 2) (pv 7) (fun _ _ => rfl))) (pss_cons (ps_set (i := 9) nd rfl (Or.inl rfl) (pe_call G_l_put (hr.mono (by decide)) (by rfl) T.g_l_put T.F_l_put.kp T.b_l_put .nil pass0 (pa_cons (pv 9) (pa_cons (pv 6) (pa_cons (pe_ifExp (pt_val (pv 8)) pe_non (pe_cmpR op_notG (pe_ix ix_seq (pv 9) (pv 6) (fun _ _ => rfl)) pe_bl (nomark _))) pa_nil))))) (pss_one (ps_set (i := 2) nd rfl (Or.inl rfl) (pe_call G_l_put (hr.mono (by decide)) (by rfl) T.g_l_put T.F_l_put.kp T.b_l_put .nil pass0 (pa_cons (pv 2) (pa_cons (pv 7) (pa_cons (pv 9) pa_nil)))))))) pss_nil)))))))) (pss_one (ps_ret (pe_tup (pa_cons (pv 1) (pa_cons (pv 2) pa_nil))))))), fn_ok (N := N_l_worn) (t := fun E => u_l_worn K T.cl) rfl (fun E => sim_l_worn fa E) h⟩
theorem ok_l_any (T : Txt K mg) (fa : Fa K T.cl) (G_l_draw : FnOk P w K mg base CX0 1 T.f_l_draw T.fd_l_draw ["_law_hand_here", "_law_many"] (spD (true :: vals 1) (D_l_draw T.cl))) : FnOk P w K mg base CX0 2 T.f_l_any T.fd_l_any ["_law_hand_here", "_law_blocks"] (spD (true :: vals 1) (D_l_any T.cl)) := by
  refine T.F_l_any.ok sc_l_any (fun vs H Q E h => spD_len h) (fun cdv A outer s H vs Q E hr h => ?_)
  have nd := sc_l_any.nd
  exact ⟨u_l_any K T.cl, (pss_cons (ps_set (i := 2) nd rfl (Or.inl rfl) (pe_lst pa_nil)) (pss_cons (ps_for PassesOwn.never rfl (pi_range2 (by rfl) T.z_range (pa_cons pe_int (pa_cons (pe_op op_addG (pv 1) pe_int) pa_nil))) (pg_name (i := 3) nd rfl (Or.inr rfl)) (pss_cons (ps_set (i := 4) nd rfl (Or.inl rfl) (pe_op op_addG (pe_lc (own := [("_law_place", 6)]) (by rfl) nd (pi_range1 (by rfl) T.z_range (pa_cons (pe_op op_addG (pv 1) pe_int) pa_nil)) (blkOk_by (N := N_l_any) (sc := defScope s_l_any) (by decide +kernel)) (fun _ _ _ _ _ => (pg_name (i := 6) nd rfl (Or.inl rfl))) (fun _ _ _ _ _ => (pts_one (pt_cmpR (op_neD hr.units) (pv 6) (pv 3) (nomark _)))) (fun _ _ _ _ _ => (pv 6))) (pe_lst (pa_cons pe_non pa_nil)))) (pss_one (ps_expr (pe_bm PySem.F.plainAttrs_list PySem.F.slot_list_append PySem.F.type_list_append mt_append (pv 2) (pa_cons (pe_ix ix_seq (pv 4) (pe_call G_l_draw (hr.mono (by decide)) (by rfl) T.g_l_draw T.F_l_draw.kp T.b_l_draw .nil pass0 (pa_cons (pv 0) (pa_cons (pe_callB call_lenG (by rfl) T.z_len PySem.boot_len (pa_cons (pv 4) pa_nil)) pa_nil))) (fun _ _ => rfl)) pa_nil)))))) (pss_cons (ps_set (i := 5) nd rfl (Or.inl rfl) (pe_lst pa_nil)) (pss_cons (ps_for PassesOwn.never rfl (pi_range1 (by rfl) T.z_range (pa_cons (pe_op op_addG (pv 1) pe_int) pa_nil)) (pg_name (i := 6) nd rfl (Or.inl rfl)) (pss_cons (ps_setLc (i := 7) (own := [("_law_block", 3)]) (by rfl) nd rfl rfl (sw_true rfl rfl rfl (by decide +kernel)) (pi_range1 (by rfl) T.z_range (pa_cons (pv 1) pa_nil)) (blkOk_by (N := N_l_any) (sc := defScope s_l_any) (by decide +kernel)) (fun _ _ _ _ _ => (pg_name (i := 3) nd rfl (Or.inl rfl))) (fun _ _ _ _ _ => pts_nil) (fun _ _ _ _ _ => (pe_ix ix_seq (pe_lst (pa_cons pe_bl (pa_cons pe_bl (pa_cons pe_bl (pa_cons pe_non pa_nil))))) (pe_call G_l_draw (hr.mono (by decide)) (by rfl) T.g_l_draw T.F_l_draw.kp T.b_l_draw .nil pass0 (pa_cons (pv 0) (pa_cons pe_int pa_nil))) (fun _ _ => rfl)))) (pss_cons (ps_if (pt_cmpR op_gt (pv 6) pe_int (nomark _)) (pss_one (ps_asg pe_bl (pg_sub (pv 7) (pe_op op_sub (pv 6) pe_int) set_list))) pss_nil) (pss_one (ps_expr (pe_bm PySem.F.plainAttrs_list PySem.F.slot_list_append PySem.F.type_list_append mt_append (pv 5) (pa_cons (pe_callTy call_tuple_of (by rfl) T.z_tuple (by decide +kernel) (pa_cons (pv 7) pa_nil)) pa_nil))))))) (pss_one (ps_ret (pe_tup (pa_cons (pe_callTy call_tuple_of (by rfl) T.z_tuple (by decide +kernel) (pa_cons (pv 2) pa_nil)) (pa_cons (pe_callTy call_tuple_of (by rfl) T.z_tuple (by decide +kernel) (pa_cons (pv 5) pa_nil)) pa_nil))))))))), fn_ok (N := N_l_any) (t := fun E => u_l_any K T.cl) rfl (fun E => sim_l_any fa E) h⟩
theorem ok_l_drawn (T : Txt K mg) (fa : Fa K T.cl) (G_l_any : FnOk P w K mg base CX0 2 T.f_l_any T.fd_l_any ["_law_hand_here", "_law_blocks"] (spD (true :: vals 1) (D_l_any T.cl))) (G_l_draw : FnOk P w K mg base CX0 1 T.f_l_draw T.fd_l_draw ["_law_hand_here", "_law_many"] (spD (true :: vals 1) (D_l_draw T.cl))) (G_l_right : FnOk P w K mg base CX0 1 T.f_l_right T.fd_l_right ["_law_hung"] (spD (vals 1) (D_l_right T.cl))) (G_l_tree : FnOk P w K mg base CX0 2 T.f_l_tree T.fd_l_tree ["_law_hand_here", "_law_blocks"] (spD (true :: vals 1) (D_l_tree T.cl))) (G_l_worn : FnOk P w K mg base CX0 2 T.f_l_worn T.fd_l_worn ["_law_hand_here", "_law_ups", "_law_lists", "_law_many"] (spD (true :: vals 3) (D_l_worn T.cl))) : FnOk P w K mg base CX0 3 T.f_l_drawn T.fd_l_drawn ["_law_hand_here", "_law_most"] (spD (true :: vals 1) (D_l_drawn T.cl)) := by
  refine T.F_l_drawn.ok sc_l_drawn (fun vs H Q E h => spD_len h) (fun cdv A outer s H vs Q E hr h => ?_)
  have nd := sc_l_drawn.nd
  exact ⟨u_l_drawn K T.cl, (pss_cons (ps_set (i := 2) nd rfl (Or.inl rfl) (pe_op op_addG pe_int (pe_call G_l_draw (hr.mono (by decide)) (by rfl) T.g_l_draw T.F_l_draw.kp T.b_l_draw .nil pass0 (pa_cons (pv 0) (pa_cons (pv 1) pa_nil))))) (pss_cons (ps_if (pt_cmpR (op_eqD hr.units) (pe_call G_l_draw (hr.mono (by decide)) (by rfl) T.g_l_draw T.F_l_draw.kp T.b_l_draw .nil pass0 (pa_cons (pv 0) (pa_cons pe_int pa_nil))) pe_int (nomark _)) (pss_one (ps_ret (pe_call G_l_any (hr.mono (by decide)) (by rfl) T.g_l_any T.F_l_any.kp T.b_l_any .nil pass0 (pa_cons (pv 0) (pa_cons (pv 2) pa_nil))))) pss_nil) (pss_cons (ps_asg (pe_call G_l_right (hr.mono (by decide)) (by rfl) T.g_l_right T.F_l_right.kp T.b_l_right .nil pass0 (pa_cons (pe_call G_l_tree (hr.mono (by decide)) (by rfl) T.g_l_tree T.F_l_tree.kp T.b_l_tree .nil pass0 (pa_cons (pv 0) (pa_cons (pv 2) pa_nil))) pa_nil)) (pg_tup rfl (pgs_cons (pg_name (i := 3) nd rfl (Or.inl rfl)) (pgs_cons (pg_name (i := 4) nd rfl (Or.inl rfl)) pgs_nil)))) (pss_one (ps_ret (pe_call G_l_worn (hr.mono (by decide)) (by rfl) T.g_l_worn T.F_l_worn.kp T.b_l_worn .nil pass0 (pa_cons (pv 0) (pa_cons (pv 3) (pa_cons (pv 4) (pa_cons (pe_call G_l_draw (hr.mono (by decide)) (by rfl) T.g_l_draw T.F_l_draw.kp T.b_l_draw .nil pass0 (pa_cons (pv 0) (pa_cons pe_int pa_nil))) pa_nil)))))))))), fn_ok (N := N_l_drawn) (t := fun E => u_l_drawn K T.cl) rfl (fun E => sim_l_drawn fa E) h⟩
theorem ok_l_is_whole (T : Txt K mg) (fa : Fa K T.cl)  : FnOk P w K mg base CX0 1 T.f_l_is_whole T.fd_l_is_whole ["_law_thing", "_law_least", "_law_most"] (spD (vals 3) (D_l_is_whole T.cl)) := by
  refine T.F_l_is_whole.ok sc_l_is_whole (fun vs H Q E h => spD_len h) (fun cdv A outer s H vs Q E hr h => ?_)
  have nd := sc_l_is_whole.nd
  exact ⟨u_l_is_whole K T.cl, (pss_one (ps_ret (pe_and (pe_callB call_isiG (by rfl) T.z_isinstance (by decide +kernel) (pa_cons (pv 0) (pa_cons (pe_bltn (v := .ty "int") (by rfl) T.z_int (by decide +kernel) rfl) pa_nil))) (pe_and (pe_not (pe_callB call_isiG (by rfl) T.z_isinstance (by decide +kernel) (pa_cons (pv 0) (pa_cons (pe_bltn (v := .ty "bool") (by rfl) T.z_bool (by decide +kernel) rfl) pa_nil)))) (pe_one (pe_chain op_le op_le (pv 1) (pv 0) (pv 2))))))), fn_ok (N := N_l_is_whole) (t := fun E => u_l_is_whole K T.cl) rfl (fun E => sim_l_is_whole fa E) h⟩
theorem word_gives {X : Cx} (T : Txt X.K X.mg) (fa : Fa X.K T.cl) {cdv : Value} {q : Str} : GivesN X N_l_word "_law_word" (defScope s_l_word) T.f_l_word cdv (defBody s_l_word) "_law_call" q (TTwM (tab31c T.cl) T.cl.TooMany "many" "most" 10) := by
  intro f c' s H Q tl act hc h
  have nd := sc_l_word.nd
  have hw := word_out31 (q := q) (f := f) (QN := fun _ H' => Q .non H') fa.w31 hc h
  refine ⟨_, (pss_cons (ps_set (i := 1) nd rfl (Or.inl rfl) pe_str) (pss_cons (L2N.ps_try_as (i := 2) (Wout := fun _ _ _ _ => False)
      (tb := tb4 f c' q tl)
      (ts := t_w31 X.K T.C_NoBlock T.C_NoPlace T.C_OtherBlocks T.C_TooMany) rfl rfl nd rfl rfl ⟨rfl, by decide, Or.inl T.g_VoteError⟩ takes0N (fun W pn xe tk po => ?_) (fun a oe cls d pn hz0 hf => have hz := hz0.zc; (pss_cons (ps_set (i := 3) nd rfl (Or.inl rfl) (pe_lst (pa_cons (pe_callB (call_isA hz hf) (by rfl) T.z_isinstance (by decide +kernel) (pa_cons (pv 2) (pa_cons (pe_glob (v := .ref T.C_NoBlock) (by rfl) T.g_NoBlock rfl) pa_nil))) (pa_cons (pe_callB (call_isA hz hf) (by rfl) T.z_isinstance (by decide +kernel) (pa_cons (pv 2) (pa_cons (pe_glob (v := .ref T.C_NoPlace) (by rfl) T.g_NoPlace rfl) pa_nil))) (pa_cons (pe_callB (call_isA hz hf) (by rfl) T.z_isinstance (by decide +kernel) (pa_cons (pv 2) (pa_cons (pe_glob (v := .ref T.C_OtherBlocks) (by rfl) T.g_OtherBlocks rfl) pa_nil))) (pa_cons (pe_callB (call_isA hz hf) (by rfl) T.z_isinstance (by decide +kernel) (pa_cons (pv 2) (pa_cons (pe_glob (v := .ref T.C_TooMany) (by rfl) T.g_TooMany rfl) pa_nil))) pa_nil)))))) (pss_cons (ps_set (i := 1) nd rfl (Or.inl rfl) pe_str) (pss_cons (ps_if (PW.pt (pw_and (pt_cmpR op_eq (pe_bm PySem.F.plainAttrs_list PySem.F.slot_list_count PySem.F.type_list_count mt_countF (pv 3) (pa_cons pe_bl pa_nil)) pe_int (nomark _)) (pw_and1 (pt_val (pe_callB (call_isA hz hf) (by rfl) T.z_isinstance (by decide +kernel) (pa_cons (pv 2) (pa_cons (pe_bltn (v := .ty "ValueError") (by rfl) T.z_ValueError (by decide +kernel) rfl) pa_nil))))))) (pss_one (ps_set (i := 1) nd rfl (Or.inl rfl) (pe_ix ix_seq (pe_lst (pa_cons pe_str (pa_cons pe_str (pa_cons pe_str (pa_cons pe_str pa_nil))))) (pe_bm PySem.F.plainAttrs_list PySem.F.slot_list_index PySem.F.type_list_index mt_index (pv 3) (pa_cons pe_bl pa_nil)) (fun _ _ => rfl)))) pss_nil) (pss_one (ps_if (PW.pt (pw_and (pt_cmpR op_eq (pv 1) pe_str (nomark _)) (pw_and1 (pt_cmpR op_ne (pe_xf T.xc_TooMany.xf T.nf_TooMany_most hz hf (pv 2)) pe_int (nomark _))))) (pss_one (ps_set (i := 1) nd rfl (Or.inl rfl) pe_str)) pss_nil))))))) (pss_one (ps_ret (pv 1))))), hw⟩
  refine ⟨fun pins s' σ H' D I h' => ?_⟩
  obtain ⟨Ech, hW, h1, h2, h3, h4⟩ := h'
  have hp := fun p1 p2 => act (fun c d σ H => σ.length = 4 → W c d σ H) pn xe Ech p1 p2 (takes_lenN tk) (fun cls d σ' H' e l => hW cls d σ' H' e l)
  exact (pss_one (ps_expr (hp _ _))).run pins s' σ H' D I ⟨h1, h2, h4⟩
theorem ok_l_odd (T : Txt K mg) (fa : Fa K T.cl) (G_l_deep : FnOk P w K mg base CX0 2 T.f_l_deep T.fd_l_deep ["_law_hand_here"] (spD (true :: vals 0) (D_l_deep T.cl))) (G_l_draw : FnOk P w K mg base CX0 1 T.f_l_draw T.fd_l_draw ["_law_hand_here", "_law_many"] (spD (true :: vals 1) (D_l_draw T.cl))) : FnOk P w K mg base CX0 3 T.f_l_odd T.fd_l_odd ["_law_hand_here", "_law_blocks", "_law_words"] (spD (true :: vals 2) (D_l_odd T.cl)) := by
  refine T.F_l_odd.ok sc_l_odd (fun vs H Q E h => spD_len h) (fun cdv A outer s H vs Q E hr h => ?_)
  have nd := sc_l_odd.nd
  exact ⟨u_l_odd K T.cl, (pss_cons (ps_set (i := 3) nd rfl (Or.inl rfl) (pe_lst (pa_cons pe_non (pa_cons pe_bl (pa_cons pe_bl (pa_cons (pe_un un_neg pe_int) (pa_cons pe_int (pa_cons (pv 1) (pa_cons (pe_op op_addG (pv 1) pe_int) (pa_cons pe_str (pa_cons (pe_tup (pa_cons pe_int pa_nil)) (pa_cons (pe_lst (pa_cons pe_int pa_nil)) (pa_cons pe_dnewK (pa_cons (pe_op op_pow pe_int pe_int) (pa_cons (pv 2) (pa_cons (pe_call G_l_deep (hr.mono (by decide)) (by rfl) T.g_l_deep T.F_l_deep.kp T.b_l_deep .nil pass0 (pa_cons (pv 0) pa_nil)) (pa_cons pe_int (pa_cons pe_int pa_nil)))))))))))))))))) (pss_one (ps_ret (pe_ix ix_seq (pv 3) (pe_call G_l_draw (hr.mono (by decide)) (by rfl) T.g_l_draw T.F_l_draw.kp T.b_l_draw .nil pass0 (pa_cons (pv 0) (pa_cons pe_int pa_nil))) (fun _ _ => rfl))))), fn_ok (N := N_l_odd) (t := fun E => u_l_odd K T.cl) rfl (fun E => sim_l_odd fa E) h⟩
theorem ok_law (T : Txt K mg) (fa : Fa K T.cl) (G_Tree_init : FnOk P w K mg base (L2N.CX P w) 3 T.f_Tree_init T.fd_Tree_init ["self", "hung"] (spD (true :: vals 1) (D_Tree_init T.cl))) (G_Words_init : FnOk P w K mg base (L2N.CX P w) 4 T.f_Words_init T.fd_Words_init ["self", "blocks", "ups", "lists"] (spD (true :: vals 3) (D_Words_init T.cl))) (G_l_draw : FnOk P w K mg base CX0 1 T.f_l_draw T.fd_l_draw ["_law_hand_here", "_law_many"] (spD (true :: vals 1) (D_l_draw T.cl))) (G_l_drawn : FnOk P w K mg base CX0 3 T.f_l_drawn T.fd_l_drawn ["_law_hand_here", "_law_most"] (spD (true :: vals 1) (D_l_drawn T.cl))) (G_l_hand : FnOk P w K mg base CX0 1 T.f_l_hand T.fd_l_hand ["_law_script"] (spHead K HandOk)) (G_l_is : FnOk P w K mg base CX0 4 T.f_l_is T.fd_l_is ["_law_told", "_law_due"] (spD (vals 2) (D_l_is T.cl 4))) (G_l_is_whole : FnOk P w K mg base CX0 1 T.f_l_is_whole T.fd_l_is_whole ["_law_thing", "_law_least", "_law_most"] (spD (vals 3) (D_l_is_whole T.cl))) (G_l_odd : FnOk P w K mg base CX0 3 T.f_l_odd T.fd_l_odd ["_law_hand_here", "_law_blocks", "_law_words"] (spD (true :: vals 2) (D_l_odd T.cl))) (G_l_tree : FnOk P w K mg base CX0 2 T.f_l_tree T.fd_l_tree ["_law_hand_here", "_law_blocks"] (spD (true :: vals 1) (D_l_tree T.cl))) (G_cost : FnOk P w K mg base (L2N.CX P w) 4 T.f_cost T.fd_cost ["words", "block", "place"] (spD (vals 3) (D_cost T.cl))) (G_many_by_wrong : FnOk P w K mg base (L2N.CX P w) 3 T.f_many_by_wrong T.fd_many_by_wrong ["words"] (spD (vals 1) (D_many_by_wrong T.cl))) (G_wrong_words : FnOk P w K mg base (L2N.CX P w) 3 T.f_wrong_words T.fd_wrong_words ["words", "tree"] (spD (vals 2) (D_wrong_words T.cl))) (tb_law : LamX.TabB base mg T.cc_law T.P_law) : FnOk P w K mg base CX0 7 T.f_law T.fd_law ["_law_script"] (spLaw K) := by
  refine T.FC_law.ok sc_law (fun vs H Q E h => len_law h) (fun A outer s H vs Q E hr h => ?_)
  have nd := sc_law.nd
  exact ⟨u_law K T.cl, (pss_cons (ps_set (i := 1) nd rfl (Or.inl rfl) (pe_call G_l_hand (hr.mono (by decide)) (by rfl) T.g_l_hand T.F_l_hand.kp T.b_l_hand .nil pass0 (pa_cons (pv 0) pa_nil))) (pss_cons (ps_for PassesOwn.never rfl (pi_range1 (by rfl) T.z_range (pa_cons pe_int pa_nil)) (pg_name (i := 2) nd rfl (Or.inl rfl)) (pss_cons (ps_asg (pe_call G_l_drawn (hr.mono (by decide)) (by rfl) T.g_l_drawn T.F_l_drawn.kp T.b_l_drawn .nil pass0 (pa_cons (pv 1) (pa_cons pe_int pa_nil))) (pg_tup rfl (pgs_cons (pg_name (i := 3) nd rfl (Or.inl rfl)) (pgs_cons (pg_name (i := 4) nd rfl (Or.inl rfl)) pgs_nil)))) (pss_cons (ps_set (i := 5) nd rfl (Or.inl rfl) (pe_callB call_lenG (by rfl) T.z_len PySem.boot_len (pa_cons (pv 3) pa_nil))) (pss_cons (ps_set (i := 6) nd rfl (Or.inr rfl) (pe_make T.M_Words G_Words_init (hr.mono (by decide)) (by rfl) T.g_Words T.b_Words_init .nil passN (pa_cons (pv 5) (pa_cons (pv 3) (pa_cons (pv 4) pa_nil))))) (pss_cons (ps_for PassesOwn.never rfl (pi_range1 (by rfl) T.z_range (pa_cons pe_int pa_nil)) (pg_name (i := 7) nd rfl (Or.inl rfl)) (pss_cons (ps_asg (pe_tup (pa_cons (pe_call G_l_odd (hr.mono (by decide)) (by rfl) T.g_l_odd T.F_l_odd.kp T.b_l_odd .nil pass0 (pa_cons (pv 1) (pa_cons (pv 5) (pa_cons (pv 6) pa_nil)))) (pa_cons (pe_call G_l_odd (hr.mono (by decide)) (by rfl) T.g_l_odd T.F_l_odd.kp T.b_l_odd .nil pass0 (pa_cons (pv 1) (pa_cons (pv 5) (pa_cons (pv 6) pa_nil)))) pa_nil))) (pg_tup rfl (pgs_cons (pg_name (i := 8) nd rfl (Or.inr rfl)) (pgs_cons (pg_name (i := 9) nd rfl (Or.inr rfl)) pgs_nil)))) (pss_cons (ps_if (pt_cmpR (op_eqD hr.units) (pe_call G_l_draw (hr.mono (by decide)) (by rfl) T.g_l_draw T.F_l_draw.kp T.b_l_draw .nil pass0 (pa_cons (pv 1) (pa_cons pe_int pa_nil))) pe_int (nomark _)) (pss_one (ps_set (i := 8) nd rfl (Or.inr rfl) (pe_op op_addG pe_int (pe_call G_l_draw (hr.mono (by decide)) (by rfl) T.g_l_draw T.F_l_draw.kp T.b_l_draw .nil pass0 (pa_cons (pv 1) (pa_cons (pv 5) pa_nil)))))) pss_nil) (pss_cons (ps_if (pt_cmpR (op_eqD hr.units) (pe_call G_l_draw (hr.mono (by decide)) (by rfl) T.g_l_draw T.F_l_draw.kp T.b_l_draw .nil pass0 (pa_cons (pv 1) (pa_cons pe_int pa_nil))) pe_int (nomark _)) (pss_one (ps_set (i := 9) nd rfl (Or.inr rfl) (pe_ix ix_seq (pe_lst (pa_cons (pv 8) (pa_cons (pe_call G_l_draw (hr.mono (by decide)) (by rfl) T.g_l_draw T.F_l_draw.kp T.b_l_draw .nil pass0 (pa_cons (pv 1) (pa_cons (pe_op op_addG (pv 5) pe_int) pa_nil))) pa_nil))) (pe_call G_l_draw (hr.mono (by decide)) (by rfl) T.g_l_draw T.F_l_draw.kp T.b_l_draw .nil pass0 (pa_cons (pv 1) (pa_cons pe_int pa_nil))) (fun _ _ => rfl)))) pss_nil) (pss_cons (ps_set (i := 10) nd rfl (Or.inl rfl) pe_str) (pss_cons (ps_if (pt_val (pe_call G_l_is_whole (hr.mono (by decide)) (by rfl) T.g_l_is_whole T.F_l_is_whole.kp T.b_l_is_whole .nil pass0 (pa_cons (pv 8) (pa_cons pe_int (pa_cons (pv 5) pa_nil))))) (pss_one (ps_set (i := 10) nd rfl (Or.inl rfl) (pe_ifExp (PW.pt (pw_and (pt_val (pe_call G_l_is_whole (hr.mono (by decide)) (by rfl) T.g_l_is_whole T.F_l_is_whole.kp T.b_l_is_whole .nil pass0 (pa_cons (pv 9) (pa_cons pe_int (pa_cons (pv 5) pa_nil))))) (pw_and1 (pt_cmpR (op_neD hr.units) (pv 9) (pv 8) (nomark _))))) pe_str pe_str))) pss_nil) (pss_one (ps_if (pt_cmpR (op_neD hr.units) (pe_lamF (k := 4) (TT := TTwM (tab31c T.cl) T.cl.TooMany "many" "most" 10) (t := fun E => tCall (spD (vals 3) (D_cost T.cl)) [] E (tCons (tVar 6) (tCons (tVar 8) (tCons (tVar 9) tNil)))) (by rfl) T.g_l_word T.F_l_word T.b_l_word sc_l_word (by rfl) (by first | exact Or.inl rfl | exact Or.inr (Or.inl rfl)) (fun cdv => word_gives (X := (cxOf CX0 P w K mg base N_law "law" (defScope s_law) T.f_law (.ref T.cc_law) A outer s H E).nox) T fa) tb_law rfl T.tm_law T.tu_law (hr.mono (by decide)) (LamX.lamS_by (by first | kernel_rfl | rfl)) (by rfl) (fun _ _ _ _ _ => rfl) (fun A outer s H E f d hr => (pe_call G_cost hr (by rfl) T.g_cost T.F_cost.kp T.b_cost .nil (L2N.passes_call (L2N.takes_of rfl rfl rfl rfl) (fun _ _ _ _ h => h)) (pa_cons (pv 6) (pa_cons (pv 8) (pa_cons (pv 9) pa_nil)))))) (pv 10) (nomark _)) (pss_one (ps_ret pe_bl)) pss_nil)))))))) (pss_cons (ps_set (i := 11) nd rfl (Or.inl rfl) (pe_op op_addG pe_int (pe_call G_l_draw (hr.mono (by decide)) (by rfl) T.g_l_draw T.F_l_draw.kp T.b_l_draw .nil pass0 (pa_cons (pv 1) (pa_cons pe_int pa_nil))))) (pss_cons (ps_if (pt_cmpR (op_eqD hr.units) (pe_call G_l_draw (hr.mono (by decide)) (by rfl) T.g_l_draw T.F_l_draw.kp T.b_l_draw .nil pass0 (pa_cons (pv 1) (pa_cons pe_int pa_nil))) pe_int (nomark _)) (pss_one (ps_set (i := 11) nd rfl (Or.inl rfl) (pv 5))) pss_nil) (pss_cons (ps_set (i := 12) nd rfl (Or.inr rfl) (pe_make T.M_Tree G_Tree_init (hr.mono (by decide)) (by rfl) T.g_Tree T.b_Tree_init .nil passN (pa_cons (pe_call G_l_tree (hr.mono (by decide)) (by rfl) T.g_l_tree T.F_l_tree.kp T.b_l_tree .nil pass0 (pa_cons (pv 1) (pa_cons (pv 11) pa_nil))) pa_nil))) (pss_cons (ps_if (pt_cmpR (op_neD hr.units) (pe_lamF (k := 3) (TT := TTwM (tab31c T.cl) T.cl.TooMany "many" "most" 10) (t := fun E => tCall (spD (vals 2) (D_wrong_words T.cl)) [] E (tCons (tVar 6) (tCons (tVar 12) tNil))) (by rfl) T.g_l_word T.F_l_word T.b_l_word sc_l_word (by rfl) (by first | exact Or.inl rfl | exact Or.inr (Or.inl rfl)) (fun cdv => word_gives (X := (cxOf CX0 P w K mg base N_law "law" (defScope s_law) T.f_law (.ref T.cc_law) A outer s H E).nox) T fa) tb_law rfl T.tm_law T.tu_law (hr.mono (by decide)) (LamX.lamS_by (by first | kernel_rfl | rfl)) (by rfl) (fun _ _ _ _ _ => rfl) (fun A outer s H E f d hr => (pe_call G_wrong_words hr (by rfl) T.g_wrong_words T.F_wrong_words.kp T.b_wrong_words .nil (L2N.passes_call (L2N.takes_of rfl rfl rfl rfl) (fun _ _ _ _ h => h)) (pa_cons (pv 6) (pa_cons (pv 12) pa_nil))))) (pe_ifExp (pt_cmpR (op_eqD hr.units) (pv 11) (pv 5) (nomark _)) pe_str pe_str) (nomark _)) (pss_one (ps_ret pe_bl)) pss_nil) (pss_cons (ps_if (PW.pt (pw_or (pt_cmpR op_gt (pv 5) pe_int (nomark _)) (pw_or1 (pt_cmpR (OpR.or op_lt (op_ltT hr.units0)) (pv 5) pe_int (nomark _))))) (pss_one (ps_if (pt_cmpR (op_neD hr.units) (pe_lamF (k := 3) (TT := TTwM (tab31c T.cl) T.cl.TooMany "many" "most" 10) (t := fun E => tCall (spD (vals 1) (D_many_by_wrong T.cl)) [] E (tCons (tVar 6) tNil)) (by rfl) T.g_l_word T.F_l_word T.b_l_word sc_l_word (by rfl) (by first | exact Or.inl rfl | exact Or.inr (Or.inl rfl)) (fun cdv => word_gives (X := (cxOf CX0 P w K mg base N_law "law" (defScope s_law) T.f_law (.ref T.cc_law) A outer s H E).nox) T fa) tb_law rfl T.tm_law T.tu_law (hr.mono (by decide)) (LamX.lamS_by (by first | kernel_rfl | rfl)) (by rfl) (fun _ _ _ _ _ => rfl) (fun A outer s H E f d hr => (pe_call G_many_by_wrong hr (by rfl) T.g_many_by_wrong T.F_many_by_wrong.kp T.b_many_by_wrong .nil (L2N.passes_call (L2N.takes_of rfl rfl rfl rfl) (fun _ _ _ _ h => h)) (pa_cons (pv 6) pa_nil)))) (pe_ifExp (pt_cmpR op_gt (pv 5) pe_int (nomark _)) pe_str pe_str) (nomark _)) (pss_one (ps_ret pe_bl)) pss_nil)) pss_nil) (pss_one (ps_if (pt_not (pt_val (pe_call G_l_is (hr.mono (by decide)) (by rfl) T.g_l_is T.F_l_is.kp T.b_l_is .nil pass0 (pa_cons (pe_lst (pa_cons (pe_fld (pv 6) rfl) (pa_cons (pe_fld (pv 6) rfl) pa_nil))) (pa_cons (pe_lst (pa_cons (pv 3) (pa_cons (pv 4) pa_nil))) pa_nil))))) (pss_one (ps_ret pe_bl)) pss_nil)))))))))))) (pss_one (ps_ret pe_bl)))), pure_law fa h⟩
end
theorem all_mk {l : PySem.W.OpenLaw} {w : World} {K : PySem.W.Frag} {h : Heap} {mg : Str → Option Value} {fa : Addr} (X : K.In h) (G : h.Ns mainGlobals mg) (hfa : mg "law" = some (.ref fa))
    {k_FIGURE : Tok}
    {k_HEAD : Tok}
    {k_MOST_BLOCKS_checks : Tok}
    {k_MOST_BLOCKS_counts : Tok}
    {C_Tree : Addr}
    {C_Words : Addr}
    {C_NoBlock : Addr}
    {C_NoPlace : Addr}
    {C_OtherBlocks : Addr}
    {C_TooMany : Addr}
    {C_BadTree : Addr}
    {C_BadWords : Addr}
    {C_VoteError : Addr}
    {f_BadTree_init : Addr} {od_BadTree_init an_BadTree_init : Option Addr} {sl_BadTree_init : Array (Option Value)} {oc_BadTree_init kV_BadTree_init dc_BadTree_init pm_BadTree_init cd_BadTree_init ct_BadTree_init : Value}
    {f_BadWords_init : Addr} {od_BadWords_init an_BadWords_init : Option Addr} {sl_BadWords_init : Array (Option Value)} {oc_BadWords_init kV_BadWords_init dc_BadWords_init pm_BadWords_init cd_BadWords_init ct_BadWords_init : Value}
    {f_TooMany_init : Addr} {od_TooMany_init an_TooMany_init : Option Addr} {sl_TooMany_init : Array (Option Value)} {oc_TooMany_init kV_TooMany_init dc_TooMany_init pm_TooMany_init cd_TooMany_init ct_TooMany_init : Value}
    {f_is_integer : Addr} {od_is_integer an_is_integer : Option Addr} {sl_is_integer : Array (Option Value)} {oc_is_integer kV_is_integer dc_is_integer pm_is_integer cd_is_integer ct_is_integer : Value}
    {f_is_within : Addr} {od_is_within an_is_within : Option Addr} {sl_is_within : Array (Option Value)} {oc_is_within kV_is_within dc_is_within pm_is_within cd_is_within ct_is_within : Value}
    {f_is_flag : Addr} {od_is_flag an_is_flag : Option Addr} {sl_is_flag : Array (Option Value)} {oc_is_flag kV_is_flag dc_is_flag pm_is_flag cd_is_flag ct_is_flag : Value}
    {f_check_block : Addr} {od_check_block an_check_block : Option Addr} {sl_check_block : Array (Option Value)} {oc_check_block kV_check_block dc_check_block pm_check_block cd_check_block ct_check_block : Value}
    {f_check_place : Addr} {od_check_place an_check_place : Option Addr} {sl_check_place : Array (Option Value)} {oc_check_place kV_check_place dc_check_place pm_check_place cd_check_place ct_check_place : Value}
    {f_check_ups : Addr} {od_check_ups an_check_ups : Option Addr} {sl_check_ups : Array (Option Value)} {oc_check_ups kV_check_ups dc_check_ups pm_check_ups cd_check_ups ct_check_ups : Value}
    {f_check_lists : Addr} {od_check_lists an_check_lists : Option Addr} {sl_check_lists : Array (Option Value)} {oc_check_lists kV_check_lists dc_check_lists pm_check_lists cd_check_lists ct_check_lists : Value}
    {f_Words_init : Addr} {od_Words_init an_Words_init : Option Addr} {sl_Words_init : Array (Option Value)} {oc_Words_init kV_Words_init dc_Words_init pm_Words_init cd_Words_init ct_Words_init : Value}
    {f_raw_costs : Addr} {od_raw_costs an_raw_costs : Option Addr} {sl_raw_costs : Array (Option Value)} {oc_raw_costs kV_raw_costs dc_raw_costs pm_raw_costs cd_raw_costs ct_raw_costs : Value}
    {f_cost : Addr} {od_cost an_cost : Option Addr} {sl_cost : Array (Option Value)} {oc_cost kV_cost dc_cost pm_cost cd_cost ct_cost : Value}
    {f_raw_wrong_words : Addr} {od_raw_wrong_words an_raw_wrong_words : Option Addr} {sl_raw_wrong_words : Array (Option Value)} {oc_raw_wrong_words kV_raw_wrong_words dc_raw_wrong_words pm_raw_wrong_words cd_raw_wrong_words ct_raw_wrong_words : Value}
    {f_wrong_words : Addr} {od_wrong_words an_wrong_words : Option Addr} {sl_wrong_words : Array (Option Value)} {oc_wrong_words kV_wrong_words dc_wrong_words pm_wrong_words cd_wrong_words ct_wrong_words : Value}
    {f_rows_of : Addr} {od_rows_of an_rows_of : Option Addr} {sl_rows_of : Array (Option Value)} {oc_rows_of kV_rows_of dc_rows_of pm_rows_of cd_rows_of ct_rows_of : Value}
    {f_led_down : Addr} {od_led_down an_led_down : Option Addr} {sl_led_down : Array (Option Value)} {oc_led_down kV_led_down dc_led_down pm_led_down cd_led_down ct_led_down : Value}
    {f_determinant : Addr} {od_determinant an_determinant : Option Addr} {sl_determinant : Array (Option Value)} {oc_determinant kV_determinant dc_determinant pm_determinant cd_determinant ct_determinant : Value}
    {f_many_by_wrong : Addr} {od_many_by_wrong an_many_by_wrong : Option Addr} {sl_many_by_wrong : Array (Option Value)} {oc_many_by_wrong kV_many_by_wrong dc_many_by_wrong pm_many_by_wrong cd_many_by_wrong ct_many_by_wrong : Value}
    {f_leads_home : Addr} {od_leads_home an_leads_home : Option Addr} {sl_leads_home : Array (Option Value)} {oc_leads_home kV_leads_home dc_leads_home pm_leads_home cd_leads_home ct_leads_home : Value}
    {f_Tree_init : Addr} {od_Tree_init an_Tree_init : Option Addr} {sl_Tree_init : Array (Option Value)} {oc_Tree_init kV_Tree_init dc_Tree_init pm_Tree_init cd_Tree_init ct_Tree_init : Value}
    {f_l_hand : Addr} {od_l_hand an_l_hand : Option Addr} {sl_l_hand : Array (Option Value)} {oc_l_hand kV_l_hand dc_l_hand pm_l_hand cd_l_hand ct_l_hand : Value}
    {f_l_draw : Addr} {od_l_draw an_l_draw : Option Addr} {sl_l_draw : Array (Option Value)} {oc_l_draw kV_l_draw dc_l_draw pm_l_draw cd_l_draw ct_l_draw : Value}
    {f_l_is : Addr} {od_l_is an_l_is : Option Addr} {sl_l_is : Array (Option Value)} {oc_l_is kV_l_is dc_l_is pm_l_is cd_l_is ct_l_is : Value}
    {f_l_deep : Addr} {od_l_deep an_l_deep : Option Addr} {sl_l_deep : Array (Option Value)} {oc_l_deep kV_l_deep dc_l_deep pm_l_deep cd_l_deep ct_l_deep : Value}
    {f_l_tree : Addr} {od_l_tree an_l_tree : Option Addr} {sl_l_tree : Array (Option Value)} {oc_l_tree kV_l_tree dc_l_tree pm_l_tree cd_l_tree ct_l_tree : Value}
    {f_l_right : Addr} {od_l_right an_l_right : Option Addr} {sl_l_right : Array (Option Value)} {oc_l_right kV_l_right dc_l_right pm_l_right cd_l_right ct_l_right : Value}
    {f_l_put : Addr} {od_l_put an_l_put : Option Addr} {sl_l_put : Array (Option Value)} {oc_l_put kV_l_put dc_l_put pm_l_put cd_l_put ct_l_put : Value}
    {f_l_worn : Addr} {od_l_worn an_l_worn : Option Addr} {sl_l_worn : Array (Option Value)} {oc_l_worn kV_l_worn dc_l_worn pm_l_worn cd_l_worn ct_l_worn : Value}
    {f_l_any : Addr} {od_l_any an_l_any : Option Addr} {sl_l_any : Array (Option Value)} {oc_l_any kV_l_any dc_l_any pm_l_any cd_l_any ct_l_any : Value}
    {f_l_drawn : Addr} {od_l_drawn an_l_drawn : Option Addr} {sl_l_drawn : Array (Option Value)} {oc_l_drawn kV_l_drawn dc_l_drawn pm_l_drawn cd_l_drawn ct_l_drawn : Value}
    {f_l_is_whole : Addr} {od_l_is_whole an_l_is_whole : Option Addr} {sl_l_is_whole : Array (Option Value)} {oc_l_is_whole kV_l_is_whole dc_l_is_whole pm_l_is_whole cd_l_is_whole ct_l_is_whole : Value}
    {f_l_word : Addr} {od_l_word an_l_word : Option Addr} {sl_l_word : Array (Option Value)} {oc_l_word kV_l_word dc_l_word pm_l_word cd_l_word ct_l_word : Value}
    {f_l_odd : Addr} {od_l_odd an_l_odd : Option Addr} {sl_l_odd : Array (Option Value)} {oc_l_odd kV_l_odd dc_l_odd pm_l_odd cd_l_odd ct_l_odd : Value}
    {f_law : Addr} {od_law an_law : Option Addr} {sl_law : Array (Option Value)} {oc_law kV_law dc_law pm_law  ct_law : Value}
    {cc_law P_law : Addr} {cod_law : Option Addr} {cvs_law : Array Value} {csl_law : Array (Option Value)}
    {nm_NoBlock qn_NoBlock : Str} {N_NoBlock : Addr} {bs_NoBlock sub_NoBlock : List Value} {sn_NoBlock : List Str} {ab_NoBlock : Bool} {col_NoBlock : Option Bool} {dd_NoBlock : Option Addr} {m0_NoBlock m1_NoBlock m2_NoBlock m3_NoBlock m5_NoBlock : Option Value}
    {nm_NoPlace qn_NoPlace : Str} {N_NoPlace : Addr} {bs_NoPlace sub_NoPlace : List Value} {sn_NoPlace : List Str} {ab_NoPlace : Bool} {col_NoPlace : Option Bool} {dd_NoPlace : Option Addr} {m0_NoPlace m1_NoPlace m2_NoPlace m3_NoPlace m5_NoPlace : Option Value}
    {nm_OtherBlocks qn_OtherBlocks : Str} {N_OtherBlocks : Addr} {bs_OtherBlocks sub_OtherBlocks : List Value} {sn_OtherBlocks : List Str} {ab_OtherBlocks : Bool} {col_OtherBlocks : Option Bool} {dd_OtherBlocks : Option Addr} {m0_OtherBlocks m1_OtherBlocks m2_OtherBlocks m3_OtherBlocks m5_OtherBlocks : Option Value}
    {nm_TooMany qn_TooMany : Str} {N_TooMany : Addr} {bs_TooMany sub_TooMany : List Value} {sn_TooMany : List Str} {ab_TooMany : Bool} {col_TooMany : Option Bool} {dd_TooMany : Option Addr} {m0_TooMany m1_TooMany m2_TooMany m3_TooMany m5_TooMany : Option Value}
    {nm_BadTree qn_BadTree : Str} {N_BadTree : Addr} {bs_BadTree sub_BadTree : List Value} {sn_BadTree : List Str} {ab_BadTree : Bool} {col_BadTree : Option Bool} {dd_BadTree : Option Addr} {m0_BadTree m1_BadTree m2_BadTree m3_BadTree m5_BadTree : Option Value}
    {nm_BadWords qn_BadWords : Str} {N_BadWords : Addr} {bs_BadWords sub_BadWords : List Value} {sn_BadWords : List Str} {ab_BadWords : Bool} {col_BadWords : Option Bool} {dd_BadWords : Option Addr} {m0_BadWords m1_BadWords m2_BadWords m3_BadWords m5_BadWords : Option Value}
    {nm_VoteError qn_VoteError : Str} {N_VoteError : Addr} {bs_VoteError sub_VoteError : List Value} {sn_VoteError : List Str} {ab_VoteError : Bool} {col_VoteError : Option Bool} {dd_VoteError : Option Addr} {m0_VoteError m1_VoteError m2_VoteError m3_VoteError m5_VoteError : Option Value}
    (z_ValueError : PySem.W.nsIn K mainGlobals "ValueError" = some none)
    (z_abs : PySem.W.nsIn K mainGlobals "abs" = some none)
    (z_all : PySem.W.nsIn K mainGlobals "all" = some none)
    (z_bool : PySem.W.nsIn K mainGlobals "bool" = some none)
    (z_enumerate : PySem.W.nsIn K mainGlobals "enumerate" = some none)
    (z_int : PySem.W.nsIn K mainGlobals "int" = some none)
    (z_isinstance : PySem.W.nsIn K mainGlobals "isinstance" = some none)
    (z_len : PySem.W.nsIn K mainGlobals "len" = some none)
    (z_list : PySem.W.nsIn K mainGlobals "list" = some none)
    (z_max : PySem.W.nsIn K mainGlobals "max" = some none)
    (z_min : PySem.W.nsIn K mainGlobals "min" = some none)
    (z_range : PySem.W.nsIn K mainGlobals "range" = some none)
    (z_sum : PySem.W.nsIn K mainGlobals "sum" = some none)
    (z_tuple : PySem.W.nsIn K mainGlobals "tuple" = some none)
    (z_zip : PySem.W.nsIn K mainGlobals "zip" = some none)
    (c_FIGURE : PySem.W.nsIn K mainGlobals "FIGURE" = some (some (.int 40 k_FIGURE)))
    (c_HEAD : PySem.W.nsIn K mainGlobals "HEAD" = some (some (.int 0 k_HEAD)))
    (c_MOST_BLOCKS_checks : PySem.W.nsIn K mainGlobals "MOST_BLOCKS_checks" = some (some (.int 40 k_MOST_BLOCKS_checks)))
    (c_MOST_BLOCKS_counts : PySem.W.nsIn K mainGlobals "MOST_BLOCKS_counts" = some (some (.int 10 k_MOST_BLOCKS_counts)))
    (a_Tree : PySem.W.nsIn K mainGlobals "Tree" = some (some (.ref C_Tree)))
    (a_Words : PySem.W.nsIn K mainGlobals "Words" = some (some (.ref C_Words)))
    (a_NoBlock : PySem.W.nsIn K mainGlobals "NoBlock" = some (some (.ref C_NoBlock)))
    (a_NoPlace : PySem.W.nsIn K mainGlobals "NoPlace" = some (some (.ref C_NoPlace)))
    (a_OtherBlocks : PySem.W.nsIn K mainGlobals "OtherBlocks" = some (some (.ref C_OtherBlocks)))
    (a_TooMany : PySem.W.nsIn K mainGlobals "TooMany" = some (some (.ref C_TooMany)))
    (a_BadTree : PySem.W.nsIn K mainGlobals "BadTree" = some (some (.ref C_BadTree)))
    (a_BadWords : PySem.W.nsIn K mainGlobals "BadWords" = some (some (.ref C_BadWords)))
    (a_VoteError : PySem.W.nsIn K mainGlobals "VoteError" = some (some (.ref C_VoteError)))
    (a_BadTree_init : PySem.W.findIn K (.ref C_BadTree) "__init__" = some (some (.ref f_BadTree_init)))
    (l_BadTree_init : K.lookup f_BadTree_init = some ⟨oc_BadTree_init, od_BadTree_init, .func (PySem.W.fnOf "__init__" "BadTree.__init__" (defArgs s_BadTree_init) (defBody s_BadTree_init) (defScope s_BadTree_init) .none kV_BadTree_init dc_BadTree_init pm_BadTree_init an_BadTree_init cd_BadTree_init ct_BadTree_init), sl_BadTree_init⟩)
    (d_BadTree_init : PySem.W.codeIn K cd_BadTree_init "BadTree.__init__" = true)
    (p_BadTree_init : PySem.W.keepIn K (.ref f_BadTree_init) = true)
    (a_BadWords_init : PySem.W.findIn K (.ref C_BadWords) "__init__" = some (some (.ref f_BadWords_init)))
    (l_BadWords_init : K.lookup f_BadWords_init = some ⟨oc_BadWords_init, od_BadWords_init, .func (PySem.W.fnOf "__init__" "BadWords.__init__" (defArgs s_BadWords_init) (defBody s_BadWords_init) (defScope s_BadWords_init) .none kV_BadWords_init dc_BadWords_init pm_BadWords_init an_BadWords_init cd_BadWords_init ct_BadWords_init), sl_BadWords_init⟩)
    (d_BadWords_init : PySem.W.codeIn K cd_BadWords_init "BadWords.__init__" = true)
    (p_BadWords_init : PySem.W.keepIn K (.ref f_BadWords_init) = true)
    (a_TooMany_init : PySem.W.findIn K (.ref C_TooMany) "__init__" = some (some (.ref f_TooMany_init)))
    (l_TooMany_init : K.lookup f_TooMany_init = some ⟨oc_TooMany_init, od_TooMany_init, .func (PySem.W.fnOf "__init__" "TooMany.__init__" (defArgs s_TooMany_init) (defBody s_TooMany_init) (defScope s_TooMany_init) .none kV_TooMany_init dc_TooMany_init pm_TooMany_init an_TooMany_init cd_TooMany_init ct_TooMany_init), sl_TooMany_init⟩)
    (d_TooMany_init : PySem.W.codeIn K cd_TooMany_init "TooMany.__init__" = true)
    (p_TooMany_init : PySem.W.keepIn K (.ref f_TooMany_init) = true)
    (a_is_integer : PySem.W.nsIn K mainGlobals "is_integer" = some (some (.ref f_is_integer)))
    (l_is_integer : K.lookup f_is_integer = some ⟨oc_is_integer, od_is_integer, .func (PySem.W.fnOf "is_integer" "is_integer" (defArgs s_is_integer) (defBody s_is_integer) (defScope s_is_integer) .none kV_is_integer dc_is_integer pm_is_integer an_is_integer cd_is_integer ct_is_integer), sl_is_integer⟩)
    (d_is_integer : PySem.W.codeIn K cd_is_integer "is_integer" = true)
    (p_is_integer : PySem.W.keepIn K (.ref f_is_integer) = true)
    (a_is_within : PySem.W.nsIn K mainGlobals "is_within" = some (some (.ref f_is_within)))
    (l_is_within : K.lookup f_is_within = some ⟨oc_is_within, od_is_within, .func (PySem.W.fnOf "is_within" "is_within" (defArgs s_is_within) (defBody s_is_within) (defScope s_is_within) .none kV_is_within dc_is_within pm_is_within an_is_within cd_is_within ct_is_within), sl_is_within⟩)
    (d_is_within : PySem.W.codeIn K cd_is_within "is_within" = true)
    (p_is_within : PySem.W.keepIn K (.ref f_is_within) = true)
    (a_is_flag : PySem.W.nsIn K mainGlobals "is_flag" = some (some (.ref f_is_flag)))
    (l_is_flag : K.lookup f_is_flag = some ⟨oc_is_flag, od_is_flag, .func (PySem.W.fnOf "is_flag" "is_flag" (defArgs s_is_flag) (defBody s_is_flag) (defScope s_is_flag) .none kV_is_flag dc_is_flag pm_is_flag an_is_flag cd_is_flag ct_is_flag), sl_is_flag⟩)
    (d_is_flag : PySem.W.codeIn K cd_is_flag "is_flag" = true)
    (p_is_flag : PySem.W.keepIn K (.ref f_is_flag) = true)
    (a_check_block : PySem.W.nsIn K mainGlobals "check_block" = some (some (.ref f_check_block)))
    (l_check_block : K.lookup f_check_block = some ⟨oc_check_block, od_check_block, .func (PySem.W.fnOf "check_block" "check_block" (defArgs s_check_block) (defBody s_check_block) (defScope s_check_block) .none kV_check_block dc_check_block pm_check_block an_check_block cd_check_block ct_check_block), sl_check_block⟩)
    (d_check_block : PySem.W.codeIn K cd_check_block "check_block" = true)
    (p_check_block : PySem.W.keepIn K (.ref f_check_block) = true)
    (a_check_place : PySem.W.nsIn K mainGlobals "check_place" = some (some (.ref f_check_place)))
    (l_check_place : K.lookup f_check_place = some ⟨oc_check_place, od_check_place, .func (PySem.W.fnOf "check_place" "check_place" (defArgs s_check_place) (defBody s_check_place) (defScope s_check_place) .none kV_check_place dc_check_place pm_check_place an_check_place cd_check_place ct_check_place), sl_check_place⟩)
    (d_check_place : PySem.W.codeIn K cd_check_place "check_place" = true)
    (p_check_place : PySem.W.keepIn K (.ref f_check_place) = true)
    (a_check_ups : PySem.W.nsIn K mainGlobals "check_ups" = some (some (.ref f_check_ups)))
    (l_check_ups : K.lookup f_check_ups = some ⟨oc_check_ups, od_check_ups, .func (PySem.W.fnOf "check_ups" "check_ups" (defArgs s_check_ups) (defBody s_check_ups) (defScope s_check_ups) .none kV_check_ups dc_check_ups pm_check_ups an_check_ups cd_check_ups ct_check_ups), sl_check_ups⟩)
    (d_check_ups : PySem.W.codeIn K cd_check_ups "check_ups" = true)
    (p_check_ups : PySem.W.keepIn K (.ref f_check_ups) = true)
    (a_check_lists : PySem.W.nsIn K mainGlobals "check_lists" = some (some (.ref f_check_lists)))
    (l_check_lists : K.lookup f_check_lists = some ⟨oc_check_lists, od_check_lists, .func (PySem.W.fnOf "check_lists" "check_lists" (defArgs s_check_lists) (defBody s_check_lists) (defScope s_check_lists) .none kV_check_lists dc_check_lists pm_check_lists an_check_lists cd_check_lists ct_check_lists), sl_check_lists⟩)
    (d_check_lists : PySem.W.codeIn K cd_check_lists "check_lists" = true)
    (p_check_lists : PySem.W.keepIn K (.ref f_check_lists) = true)
    (a_Words_init : PySem.W.findIn K (.ref C_Words) "__init__" = some (some (.ref f_Words_init)))
    (l_Words_init : K.lookup f_Words_init = some ⟨oc_Words_init, od_Words_init, .func (PySem.W.fnOf "__init__" "Words.__init__" (defArgs s_Words_init) (defBody s_Words_init) (defScope s_Words_init) .none kV_Words_init dc_Words_init pm_Words_init an_Words_init cd_Words_init ct_Words_init), sl_Words_init⟩)
    (d_Words_init : PySem.W.codeIn K cd_Words_init "Words.__init__" = true)
    (p_Words_init : PySem.W.keepIn K (.ref f_Words_init) = true)
    (a_raw_costs : PySem.W.nsIn K mainGlobals "raw_costs" = some (some (.ref f_raw_costs)))
    (l_raw_costs : K.lookup f_raw_costs = some ⟨oc_raw_costs, od_raw_costs, .func (PySem.W.fnOf "raw_costs" "raw_costs" (defArgs s_raw_costs) (defBody s_raw_costs) (defScope s_raw_costs) .none kV_raw_costs dc_raw_costs pm_raw_costs an_raw_costs cd_raw_costs ct_raw_costs), sl_raw_costs⟩)
    (d_raw_costs : PySem.W.codeIn K cd_raw_costs "raw_costs" = true)
    (p_raw_costs : PySem.W.keepIn K (.ref f_raw_costs) = true)
    (a_cost : PySem.W.nsIn K mainGlobals "cost" = some (some (.ref f_cost)))
    (l_cost : K.lookup f_cost = some ⟨oc_cost, od_cost, .func (PySem.W.fnOf "cost" "cost" (defArgs s_cost) (defBody s_cost) (defScope s_cost) .none kV_cost dc_cost pm_cost an_cost cd_cost ct_cost), sl_cost⟩)
    (d_cost : PySem.W.codeIn K cd_cost "cost" = true)
    (p_cost : PySem.W.keepIn K (.ref f_cost) = true)
    (a_raw_wrong_words : PySem.W.nsIn K mainGlobals "raw_wrong_words" = some (some (.ref f_raw_wrong_words)))
    (l_raw_wrong_words : K.lookup f_raw_wrong_words = some ⟨oc_raw_wrong_words, od_raw_wrong_words, .func (PySem.W.fnOf "raw_wrong_words" "raw_wrong_words" (defArgs s_raw_wrong_words) (defBody s_raw_wrong_words) (defScope s_raw_wrong_words) .none kV_raw_wrong_words dc_raw_wrong_words pm_raw_wrong_words an_raw_wrong_words cd_raw_wrong_words ct_raw_wrong_words), sl_raw_wrong_words⟩)
    (d_raw_wrong_words : PySem.W.codeIn K cd_raw_wrong_words "raw_wrong_words" = true)
    (p_raw_wrong_words : PySem.W.keepIn K (.ref f_raw_wrong_words) = true)
    (a_wrong_words : PySem.W.nsIn K mainGlobals "wrong_words" = some (some (.ref f_wrong_words)))
    (l_wrong_words : K.lookup f_wrong_words = some ⟨oc_wrong_words, od_wrong_words, .func (PySem.W.fnOf "wrong_words" "wrong_words" (defArgs s_wrong_words) (defBody s_wrong_words) (defScope s_wrong_words) .none kV_wrong_words dc_wrong_words pm_wrong_words an_wrong_words cd_wrong_words ct_wrong_words), sl_wrong_words⟩)
    (d_wrong_words : PySem.W.codeIn K cd_wrong_words "wrong_words" = true)
    (p_wrong_words : PySem.W.keepIn K (.ref f_wrong_words) = true)
    (a_rows_of : PySem.W.nsIn K mainGlobals "rows_of" = some (some (.ref f_rows_of)))
    (l_rows_of : K.lookup f_rows_of = some ⟨oc_rows_of, od_rows_of, .func (PySem.W.fnOf "rows_of" "rows_of" (defArgs s_rows_of) (defBody s_rows_of) (defScope s_rows_of) .none kV_rows_of dc_rows_of pm_rows_of an_rows_of cd_rows_of ct_rows_of), sl_rows_of⟩)
    (d_rows_of : PySem.W.codeIn K cd_rows_of "rows_of" = true)
    (p_rows_of : PySem.W.keepIn K (.ref f_rows_of) = true)
    (a_led_down : PySem.W.nsIn K mainGlobals "led_down" = some (some (.ref f_led_down)))
    (l_led_down : K.lookup f_led_down = some ⟨oc_led_down, od_led_down, .func (PySem.W.fnOf "led_down" "led_down" (defArgs s_led_down) (defBody s_led_down) (defScope s_led_down) .none kV_led_down dc_led_down pm_led_down an_led_down cd_led_down ct_led_down), sl_led_down⟩)
    (d_led_down : PySem.W.codeIn K cd_led_down "led_down" = true)
    (p_led_down : PySem.W.keepIn K (.ref f_led_down) = true)
    (a_determinant : PySem.W.nsIn K mainGlobals "determinant" = some (some (.ref f_determinant)))
    (l_determinant : K.lookup f_determinant = some ⟨oc_determinant, od_determinant, .func (PySem.W.fnOf "determinant" "determinant" (defArgs s_determinant) (defBody s_determinant) (defScope s_determinant) .none kV_determinant dc_determinant pm_determinant an_determinant cd_determinant ct_determinant), sl_determinant⟩)
    (d_determinant : PySem.W.codeIn K cd_determinant "determinant" = true)
    (p_determinant : PySem.W.keepIn K (.ref f_determinant) = true)
    (a_many_by_wrong : PySem.W.nsIn K mainGlobals "many_by_wrong" = some (some (.ref f_many_by_wrong)))
    (l_many_by_wrong : K.lookup f_many_by_wrong = some ⟨oc_many_by_wrong, od_many_by_wrong, .func (PySem.W.fnOf "many_by_wrong" "many_by_wrong" (defArgs s_many_by_wrong) (defBody s_many_by_wrong) (defScope s_many_by_wrong) .none kV_many_by_wrong dc_many_by_wrong pm_many_by_wrong an_many_by_wrong cd_many_by_wrong ct_many_by_wrong), sl_many_by_wrong⟩)
    (d_many_by_wrong : PySem.W.codeIn K cd_many_by_wrong "many_by_wrong" = true)
    (p_many_by_wrong : PySem.W.keepIn K (.ref f_many_by_wrong) = true)
    (a_leads_home : PySem.W.nsIn K mainGlobals "leads_home" = some (some (.ref f_leads_home)))
    (l_leads_home : K.lookup f_leads_home = some ⟨oc_leads_home, od_leads_home, .func (PySem.W.fnOf "leads_home" "leads_home" (defArgs s_leads_home) (defBody s_leads_home) (defScope s_leads_home) .none kV_leads_home dc_leads_home pm_leads_home an_leads_home cd_leads_home ct_leads_home), sl_leads_home⟩)
    (d_leads_home : PySem.W.codeIn K cd_leads_home "leads_home" = true)
    (p_leads_home : PySem.W.keepIn K (.ref f_leads_home) = true)
    (a_Tree_init : PySem.W.findIn K (.ref C_Tree) "__init__" = some (some (.ref f_Tree_init)))
    (l_Tree_init : K.lookup f_Tree_init = some ⟨oc_Tree_init, od_Tree_init, .func (PySem.W.fnOf "__init__" "Tree.__init__" (defArgs s_Tree_init) (defBody s_Tree_init) (defScope s_Tree_init) .none kV_Tree_init dc_Tree_init pm_Tree_init an_Tree_init cd_Tree_init ct_Tree_init), sl_Tree_init⟩)
    (d_Tree_init : PySem.W.codeIn K cd_Tree_init "Tree.__init__" = true)
    (p_Tree_init : PySem.W.keepIn K (.ref f_Tree_init) = true)
    (a_l_hand : PySem.W.nsIn K mainGlobals "_law_hand" = some (some (.ref f_l_hand)))
    (l_l_hand : K.lookup f_l_hand = some ⟨oc_l_hand, od_l_hand, .func (PySem.W.fnOf "_law_hand" "_law_hand" (defArgs s_l_hand) (defBody s_l_hand) (defScope s_l_hand) .none kV_l_hand dc_l_hand pm_l_hand an_l_hand cd_l_hand ct_l_hand), sl_l_hand⟩)
    (d_l_hand : PySem.W.codeIn K cd_l_hand "_law_hand" = true)
    (p_l_hand : PySem.W.keepIn K (.ref f_l_hand) = true)
    (a_l_draw : PySem.W.nsIn K mainGlobals "_law_draw" = some (some (.ref f_l_draw)))
    (l_l_draw : K.lookup f_l_draw = some ⟨oc_l_draw, od_l_draw, .func (PySem.W.fnOf "_law_draw" "_law_draw" (defArgs s_l_draw) (defBody s_l_draw) (defScope s_l_draw) .none kV_l_draw dc_l_draw pm_l_draw an_l_draw cd_l_draw ct_l_draw), sl_l_draw⟩)
    (d_l_draw : PySem.W.codeIn K cd_l_draw "_law_draw" = true)
    (p_l_draw : PySem.W.keepIn K (.ref f_l_draw) = true)
    (a_l_is : PySem.W.nsIn K mainGlobals "_law_is" = some (some (.ref f_l_is)))
    (l_l_is : K.lookup f_l_is = some ⟨oc_l_is, od_l_is, .func (PySem.W.fnOf "_law_is" "_law_is" (defArgs s_l_is) (defBody s_l_is) (defScope s_l_is) .none kV_l_is dc_l_is pm_l_is an_l_is cd_l_is ct_l_is), sl_l_is⟩)
    (d_l_is : PySem.W.codeIn K cd_l_is "_law_is" = true)
    (p_l_is : PySem.W.keepIn K (.ref f_l_is) = true)
    (a_l_deep : PySem.W.nsIn K mainGlobals "_law_deep" = some (some (.ref f_l_deep)))
    (l_l_deep : K.lookup f_l_deep = some ⟨oc_l_deep, od_l_deep, .func (PySem.W.fnOf "_law_deep" "_law_deep" (defArgs s_l_deep) (defBody s_l_deep) (defScope s_l_deep) .none kV_l_deep dc_l_deep pm_l_deep an_l_deep cd_l_deep ct_l_deep), sl_l_deep⟩)
    (d_l_deep : PySem.W.codeIn K cd_l_deep "_law_deep" = true)
    (p_l_deep : PySem.W.keepIn K (.ref f_l_deep) = true)
    (a_l_tree : PySem.W.nsIn K mainGlobals "_law_tree" = some (some (.ref f_l_tree)))
    (l_l_tree : K.lookup f_l_tree = some ⟨oc_l_tree, od_l_tree, .func (PySem.W.fnOf "_law_tree" "_law_tree" (defArgs s_l_tree) (defBody s_l_tree) (defScope s_l_tree) .none kV_l_tree dc_l_tree pm_l_tree an_l_tree cd_l_tree ct_l_tree), sl_l_tree⟩)
    (d_l_tree : PySem.W.codeIn K cd_l_tree "_law_tree" = true)
    (p_l_tree : PySem.W.keepIn K (.ref f_l_tree) = true)
    (a_l_right : PySem.W.nsIn K mainGlobals "_law_right" = some (some (.ref f_l_right)))
    (l_l_right : K.lookup f_l_right = some ⟨oc_l_right, od_l_right, .func (PySem.W.fnOf "_law_right" "_law_right" (defArgs s_l_right) (defBody s_l_right) (defScope s_l_right) .none kV_l_right dc_l_right pm_l_right an_l_right cd_l_right ct_l_right), sl_l_right⟩)
    (d_l_right : PySem.W.codeIn K cd_l_right "_law_right" = true)
    (p_l_right : PySem.W.keepIn K (.ref f_l_right) = true)
    (a_l_put : PySem.W.nsIn K mainGlobals "_law_put" = some (some (.ref f_l_put)))
    (l_l_put : K.lookup f_l_put = some ⟨oc_l_put, od_l_put, .func (PySem.W.fnOf "_law_put" "_law_put" (defArgs s_l_put) (defBody s_l_put) (defScope s_l_put) .none kV_l_put dc_l_put pm_l_put an_l_put cd_l_put ct_l_put), sl_l_put⟩)
    (d_l_put : PySem.W.codeIn K cd_l_put "_law_put" = true)
    (p_l_put : PySem.W.keepIn K (.ref f_l_put) = true)
    (a_l_worn : PySem.W.nsIn K mainGlobals "_law_worn" = some (some (.ref f_l_worn)))
    (l_l_worn : K.lookup f_l_worn = some ⟨oc_l_worn, od_l_worn, .func (PySem.W.fnOf "_law_worn" "_law_worn" (defArgs s_l_worn) (defBody s_l_worn) (defScope s_l_worn) .none kV_l_worn dc_l_worn pm_l_worn an_l_worn cd_l_worn ct_l_worn), sl_l_worn⟩)
    (d_l_worn : PySem.W.codeIn K cd_l_worn "_law_worn" = true)
    (p_l_worn : PySem.W.keepIn K (.ref f_l_worn) = true)
    (a_l_any : PySem.W.nsIn K mainGlobals "_law_any" = some (some (.ref f_l_any)))
    (l_l_any : K.lookup f_l_any = some ⟨oc_l_any, od_l_any, .func (PySem.W.fnOf "_law_any" "_law_any" (defArgs s_l_any) (defBody s_l_any) (defScope s_l_any) .none kV_l_any dc_l_any pm_l_any an_l_any cd_l_any ct_l_any), sl_l_any⟩)
    (d_l_any : PySem.W.codeIn K cd_l_any "_law_any" = true)
    (p_l_any : PySem.W.keepIn K (.ref f_l_any) = true)
    (a_l_drawn : PySem.W.nsIn K mainGlobals "_law_drawn" = some (some (.ref f_l_drawn)))
    (l_l_drawn : K.lookup f_l_drawn = some ⟨oc_l_drawn, od_l_drawn, .func (PySem.W.fnOf "_law_drawn" "_law_drawn" (defArgs s_l_drawn) (defBody s_l_drawn) (defScope s_l_drawn) .none kV_l_drawn dc_l_drawn pm_l_drawn an_l_drawn cd_l_drawn ct_l_drawn), sl_l_drawn⟩)
    (d_l_drawn : PySem.W.codeIn K cd_l_drawn "_law_drawn" = true)
    (p_l_drawn : PySem.W.keepIn K (.ref f_l_drawn) = true)
    (a_l_is_whole : PySem.W.nsIn K mainGlobals "_law_is_whole" = some (some (.ref f_l_is_whole)))
    (l_l_is_whole : K.lookup f_l_is_whole = some ⟨oc_l_is_whole, od_l_is_whole, .func (PySem.W.fnOf "_law_is_whole" "_law_is_whole" (defArgs s_l_is_whole) (defBody s_l_is_whole) (defScope s_l_is_whole) .none kV_l_is_whole dc_l_is_whole pm_l_is_whole an_l_is_whole cd_l_is_whole ct_l_is_whole), sl_l_is_whole⟩)
    (d_l_is_whole : PySem.W.codeIn K cd_l_is_whole "_law_is_whole" = true)
    (p_l_is_whole : PySem.W.keepIn K (.ref f_l_is_whole) = true)
    (a_l_word : PySem.W.nsIn K mainGlobals "_law_word" = some (some (.ref f_l_word)))
    (l_l_word : K.lookup f_l_word = some ⟨oc_l_word, od_l_word, .func (PySem.W.fnOf "_law_word" "_law_word" (defArgs s_l_word) (defBody s_l_word) (defScope s_l_word) .none kV_l_word dc_l_word pm_l_word an_l_word cd_l_word ct_l_word), sl_l_word⟩)
    (d_l_word : PySem.W.codeIn K cd_l_word "_law_word" = true)
    (p_l_word : PySem.W.keepIn K (.ref f_l_word) = true)
    (a_l_odd : PySem.W.nsIn K mainGlobals "_law_odd" = some (some (.ref f_l_odd)))
    (l_l_odd : K.lookup f_l_odd = some ⟨oc_l_odd, od_l_odd, .func (PySem.W.fnOf "_law_odd" "_law_odd" (defArgs s_l_odd) (defBody s_l_odd) (defScope s_l_odd) .none kV_l_odd dc_l_odd pm_l_odd an_l_odd cd_l_odd ct_l_odd), sl_l_odd⟩)
    (d_l_odd : PySem.W.codeIn K cd_l_odd "_law_odd" = true)
    (p_l_odd : PySem.W.keepIn K (.ref f_l_odd) = true)
    (a_law : PySem.W.nsIn K mainGlobals "law" = some (some (.ref f_law)))
    (l_law : K.lookup f_law = some ⟨oc_law, od_law, .func (PySem.W.fnOf "law" "law" (defArgs s_law) (defBody s_law) (defScope s_law) .none kV_law dc_law pm_law an_law (.ref cc_law) ct_law), sl_law⟩)
    (d_law : PySem.W.codeIn K (.ref cc_law) "law" = true)
    (cl_law : K.lookup cc_law = some ⟨.type "code", cod_law, .fields cvs_law, csl_law⟩)
    (cv_law : cvs_law[11]? = some (.ref P_law))
    (ch_law : PySem.W.codeHdIn [(cc_law, ⟨.type "code", cod_law, .fields cvs_law, csl_law⟩)] cc_law P_law = true)
    (cn_law : K.lookup P_law = none)
    (tt_law : h.get? P_law = some { cls := .none, data := .fields #[] })
    (tm_law : (P_law, ((("law" : Str) ++ ".<locals>.") ++ "<lambda>")) ∈ tabT)
    (tu_law : ∀ p ∈ tabT, p.1 = P_law → p.2 = ((("law" : Str) ++ ".<locals>.") ++ "<lambda>"))
    (p_law : PySem.W.keepIn K (.ref f_law) = true)
    (pg_Tree : PySem.W.plainGet K C_Tree Str.empty = true)
    (hd_Tree : PySem.W.hasDictIn K C_Tree = true)
    (po_Tree : PySem.W.plainOver K C_Tree = true)
    (sa_Tree : PySem.W.findIn K (.ref C_Tree) "__setattr__" = some (some (.builtin "object.__setattr__")))
    (mk_Tree : PySem.W.makesIn K C_Tree = true)
    (kc_Tree : PySem.W.keepIn K (.ref C_Tree) = true)
    (ha_Tree : PySem.W.findIn K (.ref C_Tree) "__class__" = some (some (.builtin "object.__class__")))
    (hn_Tree : PySem.W.specialIn K (.builtin "object.__class__") "__get__" = some (some (.builtin "getset_descriptor.__get__")))
    (ht_Tree : PySem.W.takesIn K (.builtin "object.__class__") = some true)
    (hm_Tree : PySem.W.mroIn K C_Tree (.type "object") = some true)
    (me_Tree : PySem.W.kitOne K (.ref C_Tree) (.ref C_Tree) = some true)
    (ktNoneType_Tree : PySem.W.kitOne K (.type "NoneType") (.ref C_Tree) = some false)
    (ntNoneType_Tree : PySem.W.notFirst K C_Tree (.type "NoneType") = true)
    (ktbool_Tree : PySem.W.kitOne K (.type "bool") (.ref C_Tree) = some false)
    (ntbool_Tree : PySem.W.notFirst K C_Tree (.type "bool") = true)
    (ktint_Tree : PySem.W.kitOne K (.type "int") (.ref C_Tree) = some false)
    (ntint_Tree : PySem.W.notFirst K C_Tree (.type "int") = true)
    (ktstr_Tree : PySem.W.kitOne K (.type "str") (.ref C_Tree) = some false)
    (ntstr_Tree : PySem.W.notFirst K C_Tree (.type "str") = true)
    (ktlist_Tree : PySem.W.kitOne K (.type "list") (.ref C_Tree) = some false)
    (ntlist_Tree : PySem.W.notFirst K C_Tree (.type "list") = true)
    (kttuple_Tree : PySem.W.kitOne K (.type "tuple") (.ref C_Tree) = some false)
    (nttuple_Tree : PySem.W.notFirst K C_Tree (.type "tuple") = true)
    (ktdict_Tree : PySem.W.kitOne K (.type "dict") (.ref C_Tree) = some false)
    (ntdict_Tree : PySem.W.notFirst K C_Tree (.type "dict") = true)
    (if_Tree : PySem.W.isFn K (.ref f_Tree_init) = true)
    (nf_Tree_hung : PySem.W.findIn K (.ref C_Tree) "hung" = some none)
    (kiint_Tree : PySem.W.kitOne K (.ref C_Tree) (.type "int") = some false)
    (kibool_Tree : PySem.W.kitOne K (.ref C_Tree) (.type "bool") = some false)
    (kituple_Tree : PySem.W.kitOne K (.ref C_Tree) (.type "tuple") = some false)
    (kilist_Tree : PySem.W.kitOne K (.ref C_Tree) (.type "list") = some false)
    (kidict_Tree : PySem.W.kitOne K (.ref C_Tree) (.type "dict") = some false)
    (kistr_Tree : PySem.W.kitOne K (.ref C_Tree) (.type "str") = some false)
    (pg_Words : PySem.W.plainGet K C_Words Str.empty = true)
    (hd_Words : PySem.W.hasDictIn K C_Words = true)
    (po_Words : PySem.W.plainOver K C_Words = true)
    (sa_Words : PySem.W.findIn K (.ref C_Words) "__setattr__" = some (some (.builtin "object.__setattr__")))
    (mk_Words : PySem.W.makesIn K C_Words = true)
    (kc_Words : PySem.W.keepIn K (.ref C_Words) = true)
    (ha_Words : PySem.W.findIn K (.ref C_Words) "__class__" = some (some (.builtin "object.__class__")))
    (hn_Words : PySem.W.specialIn K (.builtin "object.__class__") "__get__" = some (some (.builtin "getset_descriptor.__get__")))
    (ht_Words : PySem.W.takesIn K (.builtin "object.__class__") = some true)
    (hm_Words : PySem.W.mroIn K C_Words (.type "object") = some true)
    (me_Words : PySem.W.kitOne K (.ref C_Words) (.ref C_Words) = some true)
    (ktNoneType_Words : PySem.W.kitOne K (.type "NoneType") (.ref C_Words) = some false)
    (ntNoneType_Words : PySem.W.notFirst K C_Words (.type "NoneType") = true)
    (ktbool_Words : PySem.W.kitOne K (.type "bool") (.ref C_Words) = some false)
    (ntbool_Words : PySem.W.notFirst K C_Words (.type "bool") = true)
    (ktint_Words : PySem.W.kitOne K (.type "int") (.ref C_Words) = some false)
    (ntint_Words : PySem.W.notFirst K C_Words (.type "int") = true)
    (ktstr_Words : PySem.W.kitOne K (.type "str") (.ref C_Words) = some false)
    (ntstr_Words : PySem.W.notFirst K C_Words (.type "str") = true)
    (ktlist_Words : PySem.W.kitOne K (.type "list") (.ref C_Words) = some false)
    (ntlist_Words : PySem.W.notFirst K C_Words (.type "list") = true)
    (kttuple_Words : PySem.W.kitOne K (.type "tuple") (.ref C_Words) = some false)
    (nttuple_Words : PySem.W.notFirst K C_Words (.type "tuple") = true)
    (ktdict_Words : PySem.W.kitOne K (.type "dict") (.ref C_Words) = some false)
    (ntdict_Words : PySem.W.notFirst K C_Words (.type "dict") = true)
    (if_Words : PySem.W.isFn K (.ref f_Words_init) = true)
    (nf_Words_blocks : PySem.W.findIn K (.ref C_Words) "blocks" = some none)
    (nf_Words_ups : PySem.W.findIn K (.ref C_Words) "ups" = some none)
    (nf_Words_lists : PySem.W.findIn K (.ref C_Words) "lists" = some none)
    (kiint_Words : PySem.W.kitOne K (.ref C_Words) (.type "int") = some false)
    (kibool_Words : PySem.W.kitOne K (.ref C_Words) (.type "bool") = some false)
    (kituple_Words : PySem.W.kitOne K (.ref C_Words) (.type "tuple") = some false)
    (kilist_Words : PySem.W.kitOne K (.ref C_Words) (.type "list") = some false)
    (kidict_Words : PySem.W.kitOne K (.ref C_Words) (.type "dict") = some false)
    (kistr_Words : PySem.W.kitOne K (.ref C_Words) (.type "str") = some false)
    (sa_NoBlock : PySem.W.findIn K (.ref C_NoBlock) "__setattr__" = some (some (.builtin "object.__setattr__")))
    (be_NoBlock : PySem.W.subIn K (.ref C_NoBlock) (.type "BaseException") = some true)
    (ty_NoBlock : PySem.W.typeIn K (.ref C_NoBlock) = some (.type "type"))
    (kc_NoBlock : PySem.W.keepIn K (.ref C_NoBlock) = true)
    (ic_NoBlock : PySem.W.isClsIn K C_NoBlock = true)
    (ss_NoBlock : PySem.W.subIn K (.ref C_NoBlock) (.ref C_NoBlock) = some true)
    (ga_NoBlock : PySem.W.findIn K (.ref C_NoBlock) "__getattribute__" = some (some (.builtin "BaseException.__getattribute__")))
    (gt_NoBlock : PySem.W.findIn K (.ref C_NoBlock) "__getattr__" = some none)
    (hd_NoBlock : PySem.W.hasDictIn K C_NoBlock = true)
    (ha_NoBlock : PySem.W.findIn K (.ref C_NoBlock) "__class__" = some (some (.builtin "object.__class__")))
    (hn_NoBlock : PySem.W.specialIn K (.builtin "object.__class__") "__get__" = some (some (.builtin "getset_descriptor.__get__")))
    (ht_NoBlock : PySem.W.takesIn K (.builtin "object.__class__") = some true)
    (hm_NoBlock : PySem.W.mroIn K C_NoBlock (.type "object") = some true)
    (xL_NoBlock : K.lookup C_NoBlock = some (excClassObj nm_NoBlock qn_NoBlock C_NoBlock N_NoBlock bs_NoBlock [.ref C_VoteError, .type "ValueError", .type "Exception", .type "BaseException", .type "object"] true sn_NoBlock sub_NoBlock ab_NoBlock col_NoBlock dd_NoBlock m0_NoBlock m1_NoBlock m2_NoBlock m3_NoBlock m5_NoBlock "ValueError.__new__"))
    (x0_NoBlock : PySem.W.excIn K C_NoBlock [.type "ValueError", .type "Exception", .type "BaseException", .type "object"] "ValueError.__new__" = true)
    (sa_NoPlace : PySem.W.findIn K (.ref C_NoPlace) "__setattr__" = some (some (.builtin "object.__setattr__")))
    (be_NoPlace : PySem.W.subIn K (.ref C_NoPlace) (.type "BaseException") = some true)
    (ty_NoPlace : PySem.W.typeIn K (.ref C_NoPlace) = some (.type "type"))
    (kc_NoPlace : PySem.W.keepIn K (.ref C_NoPlace) = true)
    (ic_NoPlace : PySem.W.isClsIn K C_NoPlace = true)
    (ss_NoPlace : PySem.W.subIn K (.ref C_NoPlace) (.ref C_NoPlace) = some true)
    (ga_NoPlace : PySem.W.findIn K (.ref C_NoPlace) "__getattribute__" = some (some (.builtin "BaseException.__getattribute__")))
    (gt_NoPlace : PySem.W.findIn K (.ref C_NoPlace) "__getattr__" = some none)
    (hd_NoPlace : PySem.W.hasDictIn K C_NoPlace = true)
    (ha_NoPlace : PySem.W.findIn K (.ref C_NoPlace) "__class__" = some (some (.builtin "object.__class__")))
    (hn_NoPlace : PySem.W.specialIn K (.builtin "object.__class__") "__get__" = some (some (.builtin "getset_descriptor.__get__")))
    (ht_NoPlace : PySem.W.takesIn K (.builtin "object.__class__") = some true)
    (hm_NoPlace : PySem.W.mroIn K C_NoPlace (.type "object") = some true)
    (xL_NoPlace : K.lookup C_NoPlace = some (excClassObj nm_NoPlace qn_NoPlace C_NoPlace N_NoPlace bs_NoPlace [.ref C_VoteError, .type "ValueError", .type "Exception", .type "BaseException", .type "object"] true sn_NoPlace sub_NoPlace ab_NoPlace col_NoPlace dd_NoPlace m0_NoPlace m1_NoPlace m2_NoPlace m3_NoPlace m5_NoPlace "ValueError.__new__"))
    (x0_NoPlace : PySem.W.excIn K C_NoPlace [.type "ValueError", .type "Exception", .type "BaseException", .type "object"] "ValueError.__new__" = true)
    (sa_OtherBlocks : PySem.W.findIn K (.ref C_OtherBlocks) "__setattr__" = some (some (.builtin "object.__setattr__")))
    (be_OtherBlocks : PySem.W.subIn K (.ref C_OtherBlocks) (.type "BaseException") = some true)
    (ty_OtherBlocks : PySem.W.typeIn K (.ref C_OtherBlocks) = some (.type "type"))
    (kc_OtherBlocks : PySem.W.keepIn K (.ref C_OtherBlocks) = true)
    (ic_OtherBlocks : PySem.W.isClsIn K C_OtherBlocks = true)
    (ss_OtherBlocks : PySem.W.subIn K (.ref C_OtherBlocks) (.ref C_OtherBlocks) = some true)
    (ga_OtherBlocks : PySem.W.findIn K (.ref C_OtherBlocks) "__getattribute__" = some (some (.builtin "BaseException.__getattribute__")))
    (gt_OtherBlocks : PySem.W.findIn K (.ref C_OtherBlocks) "__getattr__" = some none)
    (hd_OtherBlocks : PySem.W.hasDictIn K C_OtherBlocks = true)
    (ha_OtherBlocks : PySem.W.findIn K (.ref C_OtherBlocks) "__class__" = some (some (.builtin "object.__class__")))
    (hn_OtherBlocks : PySem.W.specialIn K (.builtin "object.__class__") "__get__" = some (some (.builtin "getset_descriptor.__get__")))
    (ht_OtherBlocks : PySem.W.takesIn K (.builtin "object.__class__") = some true)
    (hm_OtherBlocks : PySem.W.mroIn K C_OtherBlocks (.type "object") = some true)
    (xL_OtherBlocks : K.lookup C_OtherBlocks = some (excClassObj nm_OtherBlocks qn_OtherBlocks C_OtherBlocks N_OtherBlocks bs_OtherBlocks [.ref C_VoteError, .type "ValueError", .type "Exception", .type "BaseException", .type "object"] true sn_OtherBlocks sub_OtherBlocks ab_OtherBlocks col_OtherBlocks dd_OtherBlocks m0_OtherBlocks m1_OtherBlocks m2_OtherBlocks m3_OtherBlocks m5_OtherBlocks "ValueError.__new__"))
    (x0_OtherBlocks : PySem.W.excIn K C_OtherBlocks [.type "ValueError", .type "Exception", .type "BaseException", .type "object"] "ValueError.__new__" = true)
    (sa_TooMany : PySem.W.findIn K (.ref C_TooMany) "__setattr__" = some (some (.builtin "object.__setattr__")))
    (be_TooMany : PySem.W.subIn K (.ref C_TooMany) (.type "BaseException") = some true)
    (ty_TooMany : PySem.W.typeIn K (.ref C_TooMany) = some (.type "type"))
    (kc_TooMany : PySem.W.keepIn K (.ref C_TooMany) = true)
    (ic_TooMany : PySem.W.isClsIn K C_TooMany = true)
    (ss_TooMany : PySem.W.subIn K (.ref C_TooMany) (.ref C_TooMany) = some true)
    (ga_TooMany : PySem.W.findIn K (.ref C_TooMany) "__getattribute__" = some (some (.builtin "BaseException.__getattribute__")))
    (gt_TooMany : PySem.W.findIn K (.ref C_TooMany) "__getattr__" = some none)
    (hd_TooMany : PySem.W.hasDictIn K C_TooMany = true)
    (ha_TooMany : PySem.W.findIn K (.ref C_TooMany) "__class__" = some (some (.builtin "object.__class__")))
    (hn_TooMany : PySem.W.specialIn K (.builtin "object.__class__") "__get__" = some (some (.builtin "getset_descriptor.__get__")))
    (ht_TooMany : PySem.W.takesIn K (.builtin "object.__class__") = some true)
    (hm_TooMany : PySem.W.mroIn K C_TooMany (.type "object") = some true)
    (xL_TooMany : K.lookup C_TooMany = some (excClassObj nm_TooMany qn_TooMany C_TooMany N_TooMany bs_TooMany [.ref C_VoteError, .type "ValueError", .type "Exception", .type "BaseException", .type "object"] true sn_TooMany sub_TooMany ab_TooMany col_TooMany dd_TooMany m0_TooMany m1_TooMany m2_TooMany m3_TooMany m5_TooMany "ValueError.__new__"))
    (ti_TooMany : PySem.W.typeIn K (.ref f_TooMany_init) = some (.type "function"))
    (nf_TooMany_most : PySem.W.findIn K (.ref C_TooMany) "most" = some none)
    (sa_BadTree : PySem.W.findIn K (.ref C_BadTree) "__setattr__" = some (some (.builtin "object.__setattr__")))
    (be_BadTree : PySem.W.subIn K (.ref C_BadTree) (.type "BaseException") = some true)
    (ty_BadTree : PySem.W.typeIn K (.ref C_BadTree) = some (.type "type"))
    (kc_BadTree : PySem.W.keepIn K (.ref C_BadTree) = true)
    (ic_BadTree : PySem.W.isClsIn K C_BadTree = true)
    (ss_BadTree : PySem.W.subIn K (.ref C_BadTree) (.ref C_BadTree) = some true)
    (ga_BadTree : PySem.W.findIn K (.ref C_BadTree) "__getattribute__" = some (some (.builtin "BaseException.__getattribute__")))
    (gt_BadTree : PySem.W.findIn K (.ref C_BadTree) "__getattr__" = some none)
    (hd_BadTree : PySem.W.hasDictIn K C_BadTree = true)
    (ha_BadTree : PySem.W.findIn K (.ref C_BadTree) "__class__" = some (some (.builtin "object.__class__")))
    (hn_BadTree : PySem.W.specialIn K (.builtin "object.__class__") "__get__" = some (some (.builtin "getset_descriptor.__get__")))
    (ht_BadTree : PySem.W.takesIn K (.builtin "object.__class__") = some true)
    (hm_BadTree : PySem.W.mroIn K C_BadTree (.type "object") = some true)
    (xL_BadTree : K.lookup C_BadTree = some (excClassObj nm_BadTree qn_BadTree C_BadTree N_BadTree bs_BadTree [.ref C_VoteError, .type "ValueError", .type "Exception", .type "BaseException", .type "object"] true sn_BadTree sub_BadTree ab_BadTree col_BadTree dd_BadTree m0_BadTree m1_BadTree m2_BadTree m3_BadTree m5_BadTree "ValueError.__new__"))
    (ti_BadTree : PySem.W.typeIn K (.ref f_BadTree_init) = some (.type "function"))
    (nf_BadTree_part : PySem.W.findIn K (.ref C_BadTree) "part" = some none)
    (sa_BadWords : PySem.W.findIn K (.ref C_BadWords) "__setattr__" = some (some (.builtin "object.__setattr__")))
    (be_BadWords : PySem.W.subIn K (.ref C_BadWords) (.type "BaseException") = some true)
    (ty_BadWords : PySem.W.typeIn K (.ref C_BadWords) = some (.type "type"))
    (kc_BadWords : PySem.W.keepIn K (.ref C_BadWords) = true)
    (ic_BadWords : PySem.W.isClsIn K C_BadWords = true)
    (ss_BadWords : PySem.W.subIn K (.ref C_BadWords) (.ref C_BadWords) = some true)
    (ga_BadWords : PySem.W.findIn K (.ref C_BadWords) "__getattribute__" = some (some (.builtin "BaseException.__getattribute__")))
    (gt_BadWords : PySem.W.findIn K (.ref C_BadWords) "__getattr__" = some none)
    (hd_BadWords : PySem.W.hasDictIn K C_BadWords = true)
    (ha_BadWords : PySem.W.findIn K (.ref C_BadWords) "__class__" = some (some (.builtin "object.__class__")))
    (hn_BadWords : PySem.W.specialIn K (.builtin "object.__class__") "__get__" = some (some (.builtin "getset_descriptor.__get__")))
    (ht_BadWords : PySem.W.takesIn K (.builtin "object.__class__") = some true)
    (hm_BadWords : PySem.W.mroIn K C_BadWords (.type "object") = some true)
    (xL_BadWords : K.lookup C_BadWords = some (excClassObj nm_BadWords qn_BadWords C_BadWords N_BadWords bs_BadWords [.ref C_VoteError, .type "ValueError", .type "Exception", .type "BaseException", .type "object"] true sn_BadWords sub_BadWords ab_BadWords col_BadWords dd_BadWords m0_BadWords m1_BadWords m2_BadWords m3_BadWords m5_BadWords "ValueError.__new__"))
    (ti_BadWords : PySem.W.typeIn K (.ref f_BadWords_init) = some (.type "function"))
    (nf_BadWords_part : PySem.W.findIn K (.ref C_BadWords) "part" = some none)
    (sa_VoteError : PySem.W.findIn K (.ref C_VoteError) "__setattr__" = some (some (.builtin "object.__setattr__")))
    (be_VoteError : PySem.W.subIn K (.ref C_VoteError) (.type "BaseException") = some true)
    (ty_VoteError : PySem.W.typeIn K (.ref C_VoteError) = some (.type "type"))
    (kc_VoteError : PySem.W.keepIn K (.ref C_VoteError) = true)
    (ic_VoteError : PySem.W.isClsIn K C_VoteError = true)
    (ss_VoteError : PySem.W.subIn K (.ref C_VoteError) (.ref C_VoteError) = some true)
    (ga_VoteError : PySem.W.findIn K (.ref C_VoteError) "__getattribute__" = some (some (.builtin "BaseException.__getattribute__")))
    (gt_VoteError : PySem.W.findIn K (.ref C_VoteError) "__getattr__" = some none)
    (hd_VoteError : PySem.W.hasDictIn K C_VoteError = true)
    (ha_VoteError : PySem.W.findIn K (.ref C_VoteError) "__class__" = some (some (.builtin "object.__class__")))
    (hn_VoteError : PySem.W.specialIn K (.builtin "object.__class__") "__get__" = some (some (.builtin "getset_descriptor.__get__")))
    (ht_VoteError : PySem.W.takesIn K (.builtin "object.__class__") = some true)
    (hm_VoteError : PySem.W.mroIn K C_VoteError (.type "object") = some true)
    (xL_VoteError : K.lookup C_VoteError = some (excClassObj nm_VoteError qn_VoteError C_VoteError N_VoteError bs_VoteError [.type "ValueError", .type "Exception", .type "BaseException", .type "object"] true sn_VoteError sub_VoteError ab_VoteError col_VoteError dd_VoteError m0_VoteError m1_VoteError m2_VoteError m3_VoteError m5_VoteError "ValueError.__new__"))
    (kn_Tree_Words : PySem.W.kitOne K (.ref C_Tree) (.ref C_Words) = some false)
    (kn_Words_Tree : PySem.W.kitOne K (.ref C_Words) (.ref C_Tree) = some false)
    (ss_NoBlock_VoteError : PySem.W.subIn K (.ref C_NoBlock) (.ref C_VoteError) = some true)
    (kv_NoBlock_ValueError : PySem.W.kitOne K (.ref C_NoBlock) (.type "ValueError") = some true)
    (kx_NoBlock_NoBlock : PySem.W.kitOne K (.ref C_NoBlock) (.ref C_NoBlock) = some true)
    (kx_NoBlock_NoPlace : PySem.W.kitOne K (.ref C_NoBlock) (.ref C_NoPlace) = some false)
    (kx_NoBlock_OtherBlocks : PySem.W.kitOne K (.ref C_NoBlock) (.ref C_OtherBlocks) = some false)
    (kx_NoBlock_TooMany : PySem.W.kitOne K (.ref C_NoBlock) (.ref C_TooMany) = some false)
    (ss_NoPlace_VoteError : PySem.W.subIn K (.ref C_NoPlace) (.ref C_VoteError) = some true)
    (kv_NoPlace_ValueError : PySem.W.kitOne K (.ref C_NoPlace) (.type "ValueError") = some true)
    (kx_NoPlace_NoBlock : PySem.W.kitOne K (.ref C_NoPlace) (.ref C_NoBlock) = some false)
    (kx_NoPlace_NoPlace : PySem.W.kitOne K (.ref C_NoPlace) (.ref C_NoPlace) = some true)
    (kx_NoPlace_OtherBlocks : PySem.W.kitOne K (.ref C_NoPlace) (.ref C_OtherBlocks) = some false)
    (kx_NoPlace_TooMany : PySem.W.kitOne K (.ref C_NoPlace) (.ref C_TooMany) = some false)
    (ss_OtherBlocks_VoteError : PySem.W.subIn K (.ref C_OtherBlocks) (.ref C_VoteError) = some true)
    (kv_OtherBlocks_ValueError : PySem.W.kitOne K (.ref C_OtherBlocks) (.type "ValueError") = some true)
    (kx_OtherBlocks_NoBlock : PySem.W.kitOne K (.ref C_OtherBlocks) (.ref C_NoBlock) = some false)
    (kx_OtherBlocks_NoPlace : PySem.W.kitOne K (.ref C_OtherBlocks) (.ref C_NoPlace) = some false)
    (kx_OtherBlocks_OtherBlocks : PySem.W.kitOne K (.ref C_OtherBlocks) (.ref C_OtherBlocks) = some true)
    (kx_OtherBlocks_TooMany : PySem.W.kitOne K (.ref C_OtherBlocks) (.ref C_TooMany) = some false)
    (ss_TooMany_VoteError : PySem.W.subIn K (.ref C_TooMany) (.ref C_VoteError) = some true)
    (kv_TooMany_ValueError : PySem.W.kitOne K (.ref C_TooMany) (.type "ValueError") = some true)
    (kx_TooMany_NoBlock : PySem.W.kitOne K (.ref C_TooMany) (.ref C_NoBlock) = some false)
    (kx_TooMany_NoPlace : PySem.W.kitOne K (.ref C_TooMany) (.ref C_NoPlace) = some false)
    (kx_TooMany_OtherBlocks : PySem.W.kitOne K (.ref C_TooMany) (.ref C_OtherBlocks) = some false)
    (kx_TooMany_TooMany : PySem.W.kitOne K (.ref C_TooMany) (.ref C_TooMany) = some true)
    (tall : ∀ p ∈ tabT, p.1 = P_law)
    : LamX.LawAtS l w K CX0 7 63 "_law_script" mg fa h := by
  have e := hfa.symm.trans (PySem.W.mg_of X G a_law)
  cases e
  have F_BadTree_init := fun_mk (st := s_BadTree_init) l_BadTree_init d_BadTree_init p_BadTree_init
  have b_BadTree_init := F_BadTree_init.binds (ps := ["self", "part"]) fun _ _ _ _ _ _ us hl => match us, hl with | [_, _], _ => rfl
  have F_BadWords_init := fun_mk (st := s_BadWords_init) l_BadWords_init d_BadWords_init p_BadWords_init
  have b_BadWords_init := F_BadWords_init.binds (ps := ["self", "part"]) fun _ _ _ _ _ _ us hl => match us, hl with | [_, _], _ => rfl
  have F_TooMany_init := fun_mk (st := s_TooMany_init) l_TooMany_init d_TooMany_init p_TooMany_init
  have b_TooMany_init := F_TooMany_init.binds (ps := ["self", "most"]) fun _ _ _ _ _ _ us hl => match us, hl with | [_, _], _ => rfl
  have F_is_integer := fun_mk (st := s_is_integer) l_is_integer d_is_integer p_is_integer
  have b_is_integer := F_is_integer.binds (ps := ["thing"]) fun _ _ _ _ _ _ us hl => match us, hl with | [_], _ => rfl
  have F_is_within := fun_mk (st := s_is_within) l_is_within d_is_within p_is_within
  have b_is_within := F_is_within.binds (ps := ["thing", "least", "most"]) fun _ _ _ _ _ _ us hl => match us, hl with | [_, _, _], _ => rfl
  have F_is_flag := fun_mk (st := s_is_flag) l_is_flag d_is_flag p_is_flag
  have b_is_flag := F_is_flag.binds (ps := ["thing"]) fun _ _ _ _ _ _ us hl => match us, hl with | [_], _ => rfl
  have F_check_block := fun_mk (st := s_check_block) l_check_block d_check_block p_check_block
  have b_check_block := F_check_block.binds (ps := ["blocks", "thing"]) fun _ _ _ _ _ _ us hl => match us, hl with | [_, _], _ => rfl
  have F_check_place := fun_mk (st := s_check_place) l_check_place d_check_place p_check_place
  have b_check_place := F_check_place.binds (ps := ["blocks", "thing"]) fun _ _ _ _ _ _ us hl => match us, hl with | [_, _], _ => rfl
  have F_check_ups := fun_mk (st := s_check_ups) l_check_ups d_check_ups p_check_ups
  have b_check_ups := F_check_ups.binds (ps := ["blocks", "ups"]) fun _ _ _ _ _ _ us hl => match us, hl with | [_, _], _ => rfl
  have F_check_lists := fun_mk (st := s_check_lists) l_check_lists d_check_lists p_check_lists
  have b_check_lists := F_check_lists.binds (ps := ["blocks", "lists"]) fun _ _ _ _ _ _ us hl => match us, hl with | [_, _], _ => rfl
  have F_Words_init := fun_mk (st := s_Words_init) l_Words_init d_Words_init p_Words_init
  have b_Words_init := F_Words_init.binds (ps := ["self", "blocks", "ups", "lists"]) fun _ _ _ _ _ _ us hl => match us, hl with | [_, _, _, _], _ => rfl
  have F_raw_costs := fun_mk (st := s_raw_costs) l_raw_costs d_raw_costs p_raw_costs
  have b_raw_costs := F_raw_costs.binds (ps := ["words", "block"]) fun _ _ _ _ _ _ us hl => match us, hl with | [_, _], _ => rfl
  have F_cost := fun_mk (st := s_cost) l_cost d_cost p_cost
  have b_cost := F_cost.binds (ps := ["words", "block", "place"]) fun _ _ _ _ _ _ us hl => match us, hl with | [_, _, _], _ => rfl
  have F_raw_wrong_words := fun_mk (st := s_raw_wrong_words) l_raw_wrong_words d_raw_wrong_words p_raw_wrong_words
  have b_raw_wrong_words := F_raw_wrong_words.binds (ps := ["words", "hung"]) fun _ _ _ _ _ _ us hl => match us, hl with | [_, _], _ => rfl
  have F_wrong_words := fun_mk (st := s_wrong_words) l_wrong_words d_wrong_words p_wrong_words
  have b_wrong_words := F_wrong_words.binds (ps := ["words", "tree"]) fun _ _ _ _ _ _ us hl => match us, hl with | [_, _], _ => rfl
  have F_rows_of := fun_mk (st := s_rows_of) l_rows_of d_rows_of p_rows_of
  have b_rows_of := F_rows_of.binds (ps := ["words"]) fun _ _ _ _ _ _ us hl => match us, hl with | [_], _ => rfl
  have F_led_down := fun_mk (st := s_led_down) l_led_down d_led_down p_led_down
  have b_led_down := F_led_down.binds (ps := ["rows", "at", "ahead"]) fun _ _ _ _ _ _ us hl => match us, hl with | [_, _, _], _ => rfl
  have F_determinant := fun_mk (st := s_determinant) l_determinant d_determinant p_determinant
  have b_determinant := F_determinant.binds (ps := ["rows"]) fun _ _ _ _ _ _ us hl => match us, hl with | [_], _ => rfl
  have F_many_by_wrong := fun_mk (st := s_many_by_wrong) l_many_by_wrong d_many_by_wrong p_many_by_wrong
  have b_many_by_wrong := F_many_by_wrong.binds (ps := ["words"]) fun _ _ _ _ _ _ us hl => match us, hl with | [_], _ => rfl
  have F_leads_home := fun_mk (st := s_leads_home) l_leads_home d_leads_home p_leads_home
  have b_leads_home := F_leads_home.binds (ps := ["hung", "block"]) fun _ _ _ _ _ _ us hl => match us, hl with | [_, _], _ => rfl
  have F_Tree_init := fun_mk (st := s_Tree_init) l_Tree_init d_Tree_init p_Tree_init
  have b_Tree_init := F_Tree_init.binds (ps := ["self", "hung"]) fun _ _ _ _ _ _ us hl => match us, hl with | [_, _], _ => rfl
  have F_l_hand := fun_mk (st := s_l_hand) l_l_hand d_l_hand p_l_hand
  have b_l_hand := F_l_hand.binds (ps := ["_law_script"]) fun _ _ _ _ _ _ us hl => match us, hl with | [_], _ => rfl
  have F_l_draw := fun_mk (st := s_l_draw) l_l_draw d_l_draw p_l_draw
  have b_l_draw := F_l_draw.binds (ps := ["_law_hand_here", "_law_many"]) fun _ _ _ _ _ _ us hl => match us, hl with | [_, _], _ => rfl
  have F_l_is := fun_mk (st := s_l_is) l_l_is d_l_is p_l_is
  have b_l_is := F_l_is.binds (ps := ["_law_told", "_law_due"]) fun _ _ _ _ _ _ us hl => match us, hl with | [_, _], _ => rfl
  have F_l_deep := fun_mk (st := s_l_deep) l_l_deep d_l_deep p_l_deep
  have b_l_deep := F_l_deep.binds (ps := ["_law_hand_here"]) fun _ _ _ _ _ _ us hl => match us, hl with | [_], _ => rfl
  have F_l_tree := fun_mk (st := s_l_tree) l_l_tree d_l_tree p_l_tree
  have b_l_tree := F_l_tree.binds (ps := ["_law_hand_here", "_law_blocks"]) fun _ _ _ _ _ _ us hl => match us, hl with | [_, _], _ => rfl
  have F_l_right := fun_mk (st := s_l_right) l_l_right d_l_right p_l_right
  have b_l_right := F_l_right.binds (ps := ["_law_hung"]) fun _ _ _ _ _ _ us hl => match us, hl with | [_], _ => rfl
  have F_l_put := fun_mk (st := s_l_put) l_l_put d_l_put p_l_put
  have b_l_put := F_l_put.binds (ps := ["_law_things", "_law_at", "_law_thing"]) fun _ _ _ _ _ _ us hl => match us, hl with | [_, _, _], _ => rfl
  have F_l_worn := fun_mk (st := s_l_worn) l_l_worn d_l_worn p_l_worn
  have b_l_worn := F_l_worn.binds (ps := ["_law_hand_here", "_law_ups", "_law_lists", "_law_many"]) fun _ _ _ _ _ _ us hl => match us, hl with | [_, _, _, _], _ => rfl
  have F_l_any := fun_mk (st := s_l_any) l_l_any d_l_any p_l_any
  have b_l_any := F_l_any.binds (ps := ["_law_hand_here", "_law_blocks"]) fun _ _ _ _ _ _ us hl => match us, hl with | [_, _], _ => rfl
  have F_l_drawn := fun_mk (st := s_l_drawn) l_l_drawn d_l_drawn p_l_drawn
  have b_l_drawn := F_l_drawn.binds (ps := ["_law_hand_here", "_law_most"]) fun _ _ _ _ _ _ us hl => match us, hl with | [_, _], _ => rfl
  have F_l_is_whole := fun_mk (st := s_l_is_whole) l_l_is_whole d_l_is_whole p_l_is_whole
  have b_l_is_whole := F_l_is_whole.binds (ps := ["_law_thing", "_law_least", "_law_most"]) fun _ _ _ _ _ _ us hl => match us, hl with | [_, _, _], _ => rfl
  have F_l_word := fun_mk (st := s_l_word) l_l_word d_l_word p_l_word
  have b_l_word := F_l_word.binds (ps := ["_law_call"]) fun _ _ _ _ _ _ us hl => match us, hl with | [_], _ => rfl
  have F_l_odd := fun_mk (st := s_l_odd) l_l_odd d_l_odd p_l_odd
  have b_l_odd := F_l_odd.binds (ps := ["_law_hand_here", "_law_blocks", "_law_words"]) fun _ _ _ _ _ _ us hl => match us, hl with | [_, _, _], _ => rfl
  have F_law := fun_mk (st := s_law) l_law d_law p_law
  have b_law := F_law.binds (ps := ["_law_script"]) fun _ _ _ _ _ _ us hl => match us, hl with | [_], _ => rfl
  have o_Tree : OwnC K C_Tree := ⟨⟨⟨pg_Tree, hd_Tree, po_Tree, sa_Tree⟩, ha_Tree, hn_Tree, ht_Tree, hm_Tree, me_Tree⟩, fun s hs => by
    rcases hs with rfl | rfl | rfl | rfl | rfl | rfl | rfl
    · exact ⟨ktNoneType_Tree, ntNoneType_Tree⟩
    · exact ⟨ktbool_Tree, ntbool_Tree⟩
    · exact ⟨ktint_Tree, ntint_Tree⟩
    · exact ⟨ktstr_Tree, ntstr_Tree⟩
    · exact ⟨ktlist_Tree, ntlist_Tree⟩
    · exact ⟨kttuple_Tree, nttuple_Tree⟩
    · exact ⟨ktdict_Tree, ntdict_Tree⟩⟩
  have kf_Tree : ∀ T, okTy T → PySem.W.kitOne K (.ref C_Tree) (.type T) = some false := fun T hT => by
    rcases hT with rfl | rfl | rfl | rfl | rfl | rfl
    · exact kiint_Tree
    · exact kibool_Tree
    · exact kituple_Tree
    · exact kilist_Tree
    · exact kidict_Tree
    · exact kistr_Tree
  have o_Words : OwnC K C_Words := ⟨⟨⟨pg_Words, hd_Words, po_Words, sa_Words⟩, ha_Words, hn_Words, ht_Words, hm_Words, me_Words⟩, fun s hs => by
    rcases hs with rfl | rfl | rfl | rfl | rfl | rfl | rfl
    · exact ⟨ktNoneType_Words, ntNoneType_Words⟩
    · exact ⟨ktbool_Words, ntbool_Words⟩
    · exact ⟨ktint_Words, ntint_Words⟩
    · exact ⟨ktstr_Words, ntstr_Words⟩
    · exact ⟨ktlist_Words, ntlist_Words⟩
    · exact ⟨kttuple_Words, nttuple_Words⟩
    · exact ⟨ktdict_Words, ntdict_Words⟩⟩
  have kf_Words : ∀ T, okTy T → PySem.W.kitOne K (.ref C_Words) (.type T) = some false := fun T hT => by
    rcases hT with rfl | rfl | rfl | rfl | rfl | rfl
    · exact kiint_Words
    · exact kibool_Words
    · exact kituple_Words
    · exact kilist_Words
    · exact kidict_Words
    · exact kistr_Words
  let T : Txt K mg := {
    z_ValueError := PySem.W.mg_none_of X G z_ValueError
    z_abs := PySem.W.mg_none_of X G z_abs
    z_all := PySem.W.mg_none_of X G z_all
    z_bool := PySem.W.mg_none_of X G z_bool
    z_enumerate := PySem.W.mg_none_of X G z_enumerate
    z_int := PySem.W.mg_none_of X G z_int
    z_isinstance := PySem.W.mg_none_of X G z_isinstance
    z_len := PySem.W.mg_none_of X G z_len
    z_list := PySem.W.mg_none_of X G z_list
    z_max := PySem.W.mg_none_of X G z_max
    z_min := PySem.W.mg_none_of X G z_min
    z_range := PySem.W.mg_none_of X G z_range
    z_sum := PySem.W.mg_none_of X G z_sum
    z_tuple := PySem.W.mg_none_of X G z_tuple
    z_zip := PySem.W.mg_none_of X G z_zip
    k_FIGURE := k_FIGURE
    c_FIGURE := PySem.W.mg_of X G c_FIGURE
    k_HEAD := k_HEAD
    c_HEAD := PySem.W.mg_of X G c_HEAD
    k_MOST_BLOCKS_checks := k_MOST_BLOCKS_checks
    c_MOST_BLOCKS_checks := PySem.W.mg_of X G c_MOST_BLOCKS_checks
    k_MOST_BLOCKS_counts := k_MOST_BLOCKS_counts
    c_MOST_BLOCKS_counts := PySem.W.mg_of X G c_MOST_BLOCKS_counts
    C_Tree := C_Tree
    g_Tree := PySem.W.mg_of X G a_Tree
    C_Words := C_Words
    g_Words := PySem.W.mg_of X G a_Words
    C_NoBlock := C_NoBlock
    g_NoBlock := PySem.W.mg_of X G a_NoBlock
    C_NoPlace := C_NoPlace
    g_NoPlace := PySem.W.mg_of X G a_NoPlace
    C_OtherBlocks := C_OtherBlocks
    g_OtherBlocks := PySem.W.mg_of X G a_OtherBlocks
    C_TooMany := C_TooMany
    g_TooMany := PySem.W.mg_of X G a_TooMany
    C_BadTree := C_BadTree
    g_BadTree := PySem.W.mg_of X G a_BadTree
    C_BadWords := C_BadWords
    g_BadWords := PySem.W.mg_of X G a_BadWords
    C_VoteError := C_VoteError
    g_VoteError := PySem.W.mg_of X G a_VoteError
    f_BadTree_init := f_BadTree_init
    fd_BadTree_init := PySem.W.fnOf "__init__" "BadTree.__init__" (defArgs s_BadTree_init) (defBody s_BadTree_init) (defScope s_BadTree_init) .none kV_BadTree_init dc_BadTree_init pm_BadTree_init an_BadTree_init cd_BadTree_init ct_BadTree_init
    F_BadTree_init := F_BadTree_init
    b_BadTree_init := b_BadTree_init
    f_BadWords_init := f_BadWords_init
    fd_BadWords_init := PySem.W.fnOf "__init__" "BadWords.__init__" (defArgs s_BadWords_init) (defBody s_BadWords_init) (defScope s_BadWords_init) .none kV_BadWords_init dc_BadWords_init pm_BadWords_init an_BadWords_init cd_BadWords_init ct_BadWords_init
    F_BadWords_init := F_BadWords_init
    b_BadWords_init := b_BadWords_init
    f_TooMany_init := f_TooMany_init
    fd_TooMany_init := PySem.W.fnOf "__init__" "TooMany.__init__" (defArgs s_TooMany_init) (defBody s_TooMany_init) (defScope s_TooMany_init) .none kV_TooMany_init dc_TooMany_init pm_TooMany_init an_TooMany_init cd_TooMany_init ct_TooMany_init
    F_TooMany_init := F_TooMany_init
    b_TooMany_init := b_TooMany_init
    f_is_integer := f_is_integer
    fd_is_integer := PySem.W.fnOf "is_integer" "is_integer" (defArgs s_is_integer) (defBody s_is_integer) (defScope s_is_integer) .none kV_is_integer dc_is_integer pm_is_integer an_is_integer cd_is_integer ct_is_integer
    F_is_integer := F_is_integer
    b_is_integer := b_is_integer
    g_is_integer := PySem.W.mg_of X G a_is_integer
    f_is_within := f_is_within
    fd_is_within := PySem.W.fnOf "is_within" "is_within" (defArgs s_is_within) (defBody s_is_within) (defScope s_is_within) .none kV_is_within dc_is_within pm_is_within an_is_within cd_is_within ct_is_within
    F_is_within := F_is_within
    b_is_within := b_is_within
    g_is_within := PySem.W.mg_of X G a_is_within
    f_is_flag := f_is_flag
    fd_is_flag := PySem.W.fnOf "is_flag" "is_flag" (defArgs s_is_flag) (defBody s_is_flag) (defScope s_is_flag) .none kV_is_flag dc_is_flag pm_is_flag an_is_flag cd_is_flag ct_is_flag
    F_is_flag := F_is_flag
    b_is_flag := b_is_flag
    g_is_flag := PySem.W.mg_of X G a_is_flag
    f_check_block := f_check_block
    fd_check_block := PySem.W.fnOf "check_block" "check_block" (defArgs s_check_block) (defBody s_check_block) (defScope s_check_block) .none kV_check_block dc_check_block pm_check_block an_check_block cd_check_block ct_check_block
    F_check_block := F_check_block
    b_check_block := b_check_block
    g_check_block := PySem.W.mg_of X G a_check_block
    f_check_place := f_check_place
    fd_check_place := PySem.W.fnOf "check_place" "check_place" (defArgs s_check_place) (defBody s_check_place) (defScope s_check_place) .none kV_check_place dc_check_place pm_check_place an_check_place cd_check_place ct_check_place
    F_check_place := F_check_place
    b_check_place := b_check_place
    g_check_place := PySem.W.mg_of X G a_check_place
    f_check_ups := f_check_ups
    fd_check_ups := PySem.W.fnOf "check_ups" "check_ups" (defArgs s_check_ups) (defBody s_check_ups) (defScope s_check_ups) .none kV_check_ups dc_check_ups pm_check_ups an_check_ups cd_check_ups ct_check_ups
    F_check_ups := F_check_ups
    b_check_ups := b_check_ups
    g_check_ups := PySem.W.mg_of X G a_check_ups
    f_check_lists := f_check_lists
    fd_check_lists := PySem.W.fnOf "check_lists" "check_lists" (defArgs s_check_lists) (defBody s_check_lists) (defScope s_check_lists) .none kV_check_lists dc_check_lists pm_check_lists an_check_lists cd_check_lists ct_check_lists
    F_check_lists := F_check_lists
    b_check_lists := b_check_lists
    g_check_lists := PySem.W.mg_of X G a_check_lists
    f_Words_init := f_Words_init
    fd_Words_init := PySem.W.fnOf "__init__" "Words.__init__" (defArgs s_Words_init) (defBody s_Words_init) (defScope s_Words_init) .none kV_Words_init dc_Words_init pm_Words_init an_Words_init cd_Words_init ct_Words_init
    F_Words_init := F_Words_init
    b_Words_init := b_Words_init
    f_raw_costs := f_raw_costs
    fd_raw_costs := PySem.W.fnOf "raw_costs" "raw_costs" (defArgs s_raw_costs) (defBody s_raw_costs) (defScope s_raw_costs) .none kV_raw_costs dc_raw_costs pm_raw_costs an_raw_costs cd_raw_costs ct_raw_costs
    F_raw_costs := F_raw_costs
    b_raw_costs := b_raw_costs
    g_raw_costs := PySem.W.mg_of X G a_raw_costs
    f_cost := f_cost
    fd_cost := PySem.W.fnOf "cost" "cost" (defArgs s_cost) (defBody s_cost) (defScope s_cost) .none kV_cost dc_cost pm_cost an_cost cd_cost ct_cost
    F_cost := F_cost
    b_cost := b_cost
    g_cost := PySem.W.mg_of X G a_cost
    f_raw_wrong_words := f_raw_wrong_words
    fd_raw_wrong_words := PySem.W.fnOf "raw_wrong_words" "raw_wrong_words" (defArgs s_raw_wrong_words) (defBody s_raw_wrong_words) (defScope s_raw_wrong_words) .none kV_raw_wrong_words dc_raw_wrong_words pm_raw_wrong_words an_raw_wrong_words cd_raw_wrong_words ct_raw_wrong_words
    F_raw_wrong_words := F_raw_wrong_words
    b_raw_wrong_words := b_raw_wrong_words
    g_raw_wrong_words := PySem.W.mg_of X G a_raw_wrong_words
    f_wrong_words := f_wrong_words
    fd_wrong_words := PySem.W.fnOf "wrong_words" "wrong_words" (defArgs s_wrong_words) (defBody s_wrong_words) (defScope s_wrong_words) .none kV_wrong_words dc_wrong_words pm_wrong_words an_wrong_words cd_wrong_words ct_wrong_words
    F_wrong_words := F_wrong_words
    b_wrong_words := b_wrong_words
    g_wrong_words := PySem.W.mg_of X G a_wrong_words
    f_rows_of := f_rows_of
    fd_rows_of := PySem.W.fnOf "rows_of" "rows_of" (defArgs s_rows_of) (defBody s_rows_of) (defScope s_rows_of) .none kV_rows_of dc_rows_of pm_rows_of an_rows_of cd_rows_of ct_rows_of
    F_rows_of := F_rows_of
    b_rows_of := b_rows_of
    g_rows_of := PySem.W.mg_of X G a_rows_of
    f_led_down := f_led_down
    fd_led_down := PySem.W.fnOf "led_down" "led_down" (defArgs s_led_down) (defBody s_led_down) (defScope s_led_down) .none kV_led_down dc_led_down pm_led_down an_led_down cd_led_down ct_led_down
    F_led_down := F_led_down
    b_led_down := b_led_down
    g_led_down := PySem.W.mg_of X G a_led_down
    f_determinant := f_determinant
    fd_determinant := PySem.W.fnOf "determinant" "determinant" (defArgs s_determinant) (defBody s_determinant) (defScope s_determinant) .none kV_determinant dc_determinant pm_determinant an_determinant cd_determinant ct_determinant
    F_determinant := F_determinant
    b_determinant := b_determinant
    g_determinant := PySem.W.mg_of X G a_determinant
    f_many_by_wrong := f_many_by_wrong
    fd_many_by_wrong := PySem.W.fnOf "many_by_wrong" "many_by_wrong" (defArgs s_many_by_wrong) (defBody s_many_by_wrong) (defScope s_many_by_wrong) .none kV_many_by_wrong dc_many_by_wrong pm_many_by_wrong an_many_by_wrong cd_many_by_wrong ct_many_by_wrong
    F_many_by_wrong := F_many_by_wrong
    b_many_by_wrong := b_many_by_wrong
    g_many_by_wrong := PySem.W.mg_of X G a_many_by_wrong
    f_leads_home := f_leads_home
    fd_leads_home := PySem.W.fnOf "leads_home" "leads_home" (defArgs s_leads_home) (defBody s_leads_home) (defScope s_leads_home) .none kV_leads_home dc_leads_home pm_leads_home an_leads_home cd_leads_home ct_leads_home
    F_leads_home := F_leads_home
    b_leads_home := b_leads_home
    g_leads_home := PySem.W.mg_of X G a_leads_home
    f_Tree_init := f_Tree_init
    fd_Tree_init := PySem.W.fnOf "__init__" "Tree.__init__" (defArgs s_Tree_init) (defBody s_Tree_init) (defScope s_Tree_init) .none kV_Tree_init dc_Tree_init pm_Tree_init an_Tree_init cd_Tree_init ct_Tree_init
    F_Tree_init := F_Tree_init
    b_Tree_init := b_Tree_init
    f_l_hand := f_l_hand
    fd_l_hand := PySem.W.fnOf "_law_hand" "_law_hand" (defArgs s_l_hand) (defBody s_l_hand) (defScope s_l_hand) .none kV_l_hand dc_l_hand pm_l_hand an_l_hand cd_l_hand ct_l_hand
    F_l_hand := F_l_hand
    b_l_hand := b_l_hand
    g_l_hand := PySem.W.mg_of X G a_l_hand
    f_l_draw := f_l_draw
    fd_l_draw := PySem.W.fnOf "_law_draw" "_law_draw" (defArgs s_l_draw) (defBody s_l_draw) (defScope s_l_draw) .none kV_l_draw dc_l_draw pm_l_draw an_l_draw cd_l_draw ct_l_draw
    F_l_draw := F_l_draw
    b_l_draw := b_l_draw
    g_l_draw := PySem.W.mg_of X G a_l_draw
    f_l_is := f_l_is
    fd_l_is := PySem.W.fnOf "_law_is" "_law_is" (defArgs s_l_is) (defBody s_l_is) (defScope s_l_is) .none kV_l_is dc_l_is pm_l_is an_l_is cd_l_is ct_l_is
    F_l_is := F_l_is
    b_l_is := b_l_is
    g_l_is := PySem.W.mg_of X G a_l_is
    f_l_deep := f_l_deep
    fd_l_deep := PySem.W.fnOf "_law_deep" "_law_deep" (defArgs s_l_deep) (defBody s_l_deep) (defScope s_l_deep) .none kV_l_deep dc_l_deep pm_l_deep an_l_deep cd_l_deep ct_l_deep
    F_l_deep := F_l_deep
    b_l_deep := b_l_deep
    g_l_deep := PySem.W.mg_of X G a_l_deep
    f_l_tree := f_l_tree
    fd_l_tree := PySem.W.fnOf "_law_tree" "_law_tree" (defArgs s_l_tree) (defBody s_l_tree) (defScope s_l_tree) .none kV_l_tree dc_l_tree pm_l_tree an_l_tree cd_l_tree ct_l_tree
    F_l_tree := F_l_tree
    b_l_tree := b_l_tree
    g_l_tree := PySem.W.mg_of X G a_l_tree
    f_l_right := f_l_right
    fd_l_right := PySem.W.fnOf "_law_right" "_law_right" (defArgs s_l_right) (defBody s_l_right) (defScope s_l_right) .none kV_l_right dc_l_right pm_l_right an_l_right cd_l_right ct_l_right
    F_l_right := F_l_right
    b_l_right := b_l_right
    g_l_right := PySem.W.mg_of X G a_l_right
    f_l_put := f_l_put
    fd_l_put := PySem.W.fnOf "_law_put" "_law_put" (defArgs s_l_put) (defBody s_l_put) (defScope s_l_put) .none kV_l_put dc_l_put pm_l_put an_l_put cd_l_put ct_l_put
    F_l_put := F_l_put
    b_l_put := b_l_put
    g_l_put := PySem.W.mg_of X G a_l_put
    f_l_worn := f_l_worn
    fd_l_worn := PySem.W.fnOf "_law_worn" "_law_worn" (defArgs s_l_worn) (defBody s_l_worn) (defScope s_l_worn) .none kV_l_worn dc_l_worn pm_l_worn an_l_worn cd_l_worn ct_l_worn
    F_l_worn := F_l_worn
    b_l_worn := b_l_worn
    g_l_worn := PySem.W.mg_of X G a_l_worn
    f_l_any := f_l_any
    fd_l_any := PySem.W.fnOf "_law_any" "_law_any" (defArgs s_l_any) (defBody s_l_any) (defScope s_l_any) .none kV_l_any dc_l_any pm_l_any an_l_any cd_l_any ct_l_any
    F_l_any := F_l_any
    b_l_any := b_l_any
    g_l_any := PySem.W.mg_of X G a_l_any
    f_l_drawn := f_l_drawn
    fd_l_drawn := PySem.W.fnOf "_law_drawn" "_law_drawn" (defArgs s_l_drawn) (defBody s_l_drawn) (defScope s_l_drawn) .none kV_l_drawn dc_l_drawn pm_l_drawn an_l_drawn cd_l_drawn ct_l_drawn
    F_l_drawn := F_l_drawn
    b_l_drawn := b_l_drawn
    g_l_drawn := PySem.W.mg_of X G a_l_drawn
    f_l_is_whole := f_l_is_whole
    fd_l_is_whole := PySem.W.fnOf "_law_is_whole" "_law_is_whole" (defArgs s_l_is_whole) (defBody s_l_is_whole) (defScope s_l_is_whole) .none kV_l_is_whole dc_l_is_whole pm_l_is_whole an_l_is_whole cd_l_is_whole ct_l_is_whole
    F_l_is_whole := F_l_is_whole
    b_l_is_whole := b_l_is_whole
    g_l_is_whole := PySem.W.mg_of X G a_l_is_whole
    f_l_word := f_l_word
    fd_l_word := PySem.W.fnOf "_law_word" "_law_word" (defArgs s_l_word) (defBody s_l_word) (defScope s_l_word) .none kV_l_word dc_l_word pm_l_word an_l_word cd_l_word ct_l_word
    F_l_word := F_l_word
    b_l_word := b_l_word
    g_l_word := PySem.W.mg_of X G a_l_word
    f_l_odd := f_l_odd
    fd_l_odd := PySem.W.fnOf "_law_odd" "_law_odd" (defArgs s_l_odd) (defBody s_l_odd) (defScope s_l_odd) .none kV_l_odd dc_l_odd pm_l_odd an_l_odd cd_l_odd ct_l_odd
    F_l_odd := F_l_odd
    b_l_odd := b_l_odd
    g_l_odd := PySem.W.mg_of X G a_l_odd
    f_law := fa
    fd_law := PySem.W.fnOf "law" "law" (defArgs s_law) (defBody s_law) (defScope s_law) .none kV_law dc_law pm_law an_law (.ref cc_law) ct_law
    F_law := F_law
    cc_law := cc_law
    P_law := P_law
    FC_law := ⟨_, _, _, _, _, _, _, _, rfl, l_law, d_law⟩
    tm_law := tm_law
    tu_law := tu_law
    b_law := b_law
    g_law := PySem.W.mg_of X G a_law
    M_Tree := ⟨mk_Tree, a_Tree_init, if_Tree, kc_Tree⟩
    o_Tree := o_Tree
    nf_Tree_hung := nf_Tree_hung
    kf_Tree := kf_Tree
    M_Words := ⟨mk_Words, a_Words_init, if_Words, kc_Words⟩
    o_Words := o_Words
    nf_Words_blocks := nf_Words_blocks
    nf_Words_ups := nf_Words_ups
    nf_Words_lists := nf_Words_lists
    kf_Words := kf_Words
    xc_NoBlock := ⟨ic_NoBlock, ga_NoBlock, gt_NoBlock, be_NoBlock, hd_NoBlock, ha_NoBlock, hn_NoBlock, ht_NoBlock, hm_NoBlock⟩
    te_NoBlock := PySem.W.exm_ref be_NoBlock hd_NoBlock ty_NoBlock ss_NoBlock
    X_NoBlock := ⟨⟨_, _, _, _, _, _, _, _, _, _, _, _, _, _, _, xL_NoBlock, by rfl⟩, sa_NoBlock, be_NoBlock, ty_NoBlock, kc_NoBlock⟩
    x0_NoBlock := x0_NoBlock
    xc_NoPlace := ⟨ic_NoPlace, ga_NoPlace, gt_NoPlace, be_NoPlace, hd_NoPlace, ha_NoPlace, hn_NoPlace, ht_NoPlace, hm_NoPlace⟩
    te_NoPlace := PySem.W.exm_ref be_NoPlace hd_NoPlace ty_NoPlace ss_NoPlace
    X_NoPlace := ⟨⟨_, _, _, _, _, _, _, _, _, _, _, _, _, _, _, xL_NoPlace, by rfl⟩, sa_NoPlace, be_NoPlace, ty_NoPlace, kc_NoPlace⟩
    x0_NoPlace := x0_NoPlace
    xc_OtherBlocks := ⟨ic_OtherBlocks, ga_OtherBlocks, gt_OtherBlocks, be_OtherBlocks, hd_OtherBlocks, ha_OtherBlocks, hn_OtherBlocks, ht_OtherBlocks, hm_OtherBlocks⟩
    te_OtherBlocks := PySem.W.exm_ref be_OtherBlocks hd_OtherBlocks ty_OtherBlocks ss_OtherBlocks
    X_OtherBlocks := ⟨⟨_, _, _, _, _, _, _, _, _, _, _, _, _, _, _, xL_OtherBlocks, by rfl⟩, sa_OtherBlocks, be_OtherBlocks, ty_OtherBlocks, kc_OtherBlocks⟩
    x0_OtherBlocks := x0_OtherBlocks
    xc_TooMany := ⟨ic_TooMany, ga_TooMany, gt_TooMany, be_TooMany, hd_TooMany, ha_TooMany, hn_TooMany, ht_TooMany, hm_TooMany⟩
    te_TooMany := PySem.W.exm_ref be_TooMany hd_TooMany ty_TooMany ss_TooMany
    X_TooMany := ⟨⟨_, _, _, _, _, _, _, _, _, _, _, _, _, _, _, xL_TooMany, by rfl⟩, sa_TooMany, be_TooMany, ty_TooMany, kc_TooMany⟩
    i_TooMany := a_TooMany_init
    ti_TooMany := ti_TooMany
    nf_TooMany_most := nf_TooMany_most
    xc_BadTree := ⟨ic_BadTree, ga_BadTree, gt_BadTree, be_BadTree, hd_BadTree, ha_BadTree, hn_BadTree, ht_BadTree, hm_BadTree⟩
    te_BadTree := PySem.W.exm_ref be_BadTree hd_BadTree ty_BadTree ss_BadTree
    X_BadTree := ⟨⟨_, _, _, _, _, _, _, _, _, _, _, _, _, _, _, xL_BadTree, by rfl⟩, sa_BadTree, be_BadTree, ty_BadTree, kc_BadTree⟩
    i_BadTree := a_BadTree_init
    ti_BadTree := ti_BadTree
    nf_BadTree_part := nf_BadTree_part
    xc_BadWords := ⟨ic_BadWords, ga_BadWords, gt_BadWords, be_BadWords, hd_BadWords, ha_BadWords, hn_BadWords, ht_BadWords, hm_BadWords⟩
    te_BadWords := PySem.W.exm_ref be_BadWords hd_BadWords ty_BadWords ss_BadWords
    X_BadWords := ⟨⟨_, _, _, _, _, _, _, _, _, _, _, _, _, _, _, xL_BadWords, by rfl⟩, sa_BadWords, be_BadWords, ty_BadWords, kc_BadWords⟩
    i_BadWords := a_BadWords_init
    ti_BadWords := ti_BadWords
    nf_BadWords_part := nf_BadWords_part
    xc_VoteError := ⟨ic_VoteError, ga_VoteError, gt_VoteError, be_VoteError, hd_VoteError, ha_VoteError, hn_VoteError, ht_VoteError, hm_VoteError⟩
    te_VoteError := PySem.W.exm_ref be_VoteError hd_VoteError ty_VoteError ss_VoteError
    X_VoteError := ⟨⟨_, _, _, _, _, _, _, _, _, _, _, _, _, _, _, xL_VoteError, by rfl⟩, sa_VoteError, be_VoteError, ty_VoteError, kc_VoteError⟩
    kn_Tree_Words := kn_Tree_Words
    kn_Words_Tree := kn_Words_Tree
    te_NoBlock_VoteError := PySem.W.exm_ref be_VoteError hd_VoteError ty_VoteError ss_NoBlock_VoteError
    kv_NoBlock_ValueError := kv_NoBlock_ValueError
    kx_NoBlock_NoBlock := kx_NoBlock_NoBlock
    kx_NoBlock_NoPlace := kx_NoBlock_NoPlace
    kx_NoBlock_OtherBlocks := kx_NoBlock_OtherBlocks
    kx_NoBlock_TooMany := kx_NoBlock_TooMany
    te_NoPlace_VoteError := PySem.W.exm_ref be_VoteError hd_VoteError ty_VoteError ss_NoPlace_VoteError
    kv_NoPlace_ValueError := kv_NoPlace_ValueError
    kx_NoPlace_NoBlock := kx_NoPlace_NoBlock
    kx_NoPlace_NoPlace := kx_NoPlace_NoPlace
    kx_NoPlace_OtherBlocks := kx_NoPlace_OtherBlocks
    kx_NoPlace_TooMany := kx_NoPlace_TooMany
    te_OtherBlocks_VoteError := PySem.W.exm_ref be_VoteError hd_VoteError ty_VoteError ss_OtherBlocks_VoteError
    kv_OtherBlocks_ValueError := kv_OtherBlocks_ValueError
    kx_OtherBlocks_NoBlock := kx_OtherBlocks_NoBlock
    kx_OtherBlocks_NoPlace := kx_OtherBlocks_NoPlace
    kx_OtherBlocks_OtherBlocks := kx_OtherBlocks_OtherBlocks
    kx_OtherBlocks_TooMany := kx_OtherBlocks_TooMany
    te_TooMany_VoteError := PySem.W.exm_ref be_VoteError hd_VoteError ty_VoteError ss_TooMany_VoteError
    kv_TooMany_ValueError := kv_TooMany_ValueError
    kx_TooMany_NoBlock := kx_TooMany_NoBlock
    kx_TooMany_NoPlace := kx_TooMany_NoPlace
    kx_TooMany_OtherBlocks := kx_TooMany_OtherBlocks
    kx_TooMany_TooMany := kx_TooMany_TooMany
  }
  refine ⟨PySem.W.fnOf "law" "law" (defArgs s_law) (defBody s_law) (defScope s_law) .none kV_law dc_law pm_law an_law (.ref cc_law) ct_law, [(cc_law, P_law)], spLaw K, fun p hp => ?_, fun p hp => ?_, fun p hp => ?_, fun s v => .of_eq rfl, fun H a ns hl _ hH hS => ⟨a, ns, rfl, hS, hl, fun p hp => ?_, fun _ => rfl⟩, fun base _ _ tb => ?_⟩
  · simp only [List.mem_cons, List.not_mem_nil, or_false] at hp
    rcases hp with rfl
    · exact tt_law
  · simp only [List.mem_cons, List.not_mem_nil, or_false] at hp
    rcases hp with rfl
    · exact cn_law
  · simp only [List.mem_cons, List.not_mem_nil, or_false] at hp
    rcases hp with rfl
    · exact PySem.W.codeHd_of_K X (hd_of cl_law ch_law)
  · rcases tall p hp with e
    · rw [e]; exact hH (cc_law, P_law) (by simp)
  have tb_law : LamX.TabB base mg cc_law P_law := tb (cc_law, P_law) (by simp)
  have fa : Fa K T.cl := ⟨⟨fun C hC => by simp only [List.mem_cons, List.not_mem_nil, or_false] at hC; exact (by (rcases hC with rfl | rfl <;> first | exact T.o_Tree | exact T.o_Words)), fun C hC U hU => by simp only [List.mem_cons, List.not_mem_nil, or_false] at hC; exact (by (rcases hC with rfl | rfl <;> first | exact T.kf_Tree U hU | exact T.kf_Words U hU)), fun C hC C' hC' ne => by simp only [List.mem_cons, List.not_mem_nil, or_false] at hC hC'; exact (by (rcases hC with rfl | rfl <;> rcases hC' with rfl | rfl <;> first | exact absurd rfl ne | exact T.kn_Tree_Words | exact T.kn_Words_Tree))⟩, fun C hC => by simp only [List.mem_cons, List.not_mem_nil, or_false] at hC; exact (by (subst hC; exact ⟨T.o_Tree.ic.cl, T.nf_Tree_hung⟩)), fun C hC => by simp only [List.mem_cons, List.not_mem_nil, or_false] at hC; exact (by (subst hC; exact ⟨T.o_Words.ic.cl, T.nf_Words_blocks⟩)), fun C hC => by simp only [List.mem_cons, List.not_mem_nil, or_false] at hC; exact (by (subst hC; exact ⟨T.o_Words.ic.cl, T.nf_Words_ups⟩)), fun C hC => by simp only [List.mem_cons, List.not_mem_nil, or_false] at hC; exact (by (subst hC; exact ⟨T.o_Words.ic.cl, T.nf_Words_lists⟩)), ⟨fun C hC => by
      simp only [List.mem_cons, List.not_mem_nil, or_false] at hC; rcases hC with rfl | rfl | rfl | rfl
      · exact T.xc_NoBlock
      · exact T.xc_NoPlace
      · exact T.xc_OtherBlocks
      · exact T.xc_TooMany,
    fun C hC => by
      simp only [List.mem_cons, List.not_mem_nil, or_false] at hC; rcases hC with rfl | rfl | rfl | rfl
      · exact T.kv_NoBlock_ValueError
      · exact T.kv_NoPlace_ValueError
      · exact T.kv_OtherBlocks_ValueError
      · exact T.kv_TooMany_ValueError,
    fun C hC => by
      simp only [List.mem_cons, List.not_mem_nil, or_false] at hC; rcases hC with rfl | rfl | rfl | rfl
      · exact T.te_NoBlock_VoteError
      · exact T.te_NoPlace_VoteError
      · exact T.te_OtherBlocks_VoteError
      · exact T.te_TooMany_VoteError,
    fun i j C C' hi hj => by
      have e1 : i < 4 := (List.getElem?_eq_some_iff.mp hi).1
      have e2 : j < 4 := (List.getElem?_eq_some_iff.mp hj).1
      have f1 : i = 0 ∨ i = 1 ∨ i = 2 ∨ i = 3 := by omega
      have f2 : j = 0 ∨ j = 1 ∨ j = 2 ∨ j = 3 := by omega
      rcases f1 with rfl | rfl | rfl | rfl
      · obtain rfl := Option.some.inj hi
        rcases f2 with rfl | rfl | rfl | rfl
        · obtain rfl := Option.some.inj hj; exact T.kx_NoBlock_NoBlock
        · obtain rfl := Option.some.inj hj; exact T.kx_NoBlock_NoPlace
        · obtain rfl := Option.some.inj hj; exact T.kx_NoBlock_OtherBlocks
        · obtain rfl := Option.some.inj hj; exact T.kx_NoBlock_TooMany
      · obtain rfl := Option.some.inj hi
        rcases f2 with rfl | rfl | rfl | rfl
        · obtain rfl := Option.some.inj hj; exact T.kx_NoPlace_NoBlock
        · obtain rfl := Option.some.inj hj; exact T.kx_NoPlace_NoPlace
        · obtain rfl := Option.some.inj hj; exact T.kx_NoPlace_OtherBlocks
        · obtain rfl := Option.some.inj hj; exact T.kx_NoPlace_TooMany
      · obtain rfl := Option.some.inj hi
        rcases f2 with rfl | rfl | rfl | rfl
        · obtain rfl := Option.some.inj hj; exact T.kx_OtherBlocks_NoBlock
        · obtain rfl := Option.some.inj hj; exact T.kx_OtherBlocks_NoPlace
        · obtain rfl := Option.some.inj hj; exact T.kx_OtherBlocks_OtherBlocks
        · obtain rfl := Option.some.inj hj; exact T.kx_OtherBlocks_TooMany
      · obtain rfl := Option.some.inj hi
        rcases f2 with rfl | rfl | rfl | rfl
        · obtain rfl := Option.some.inj hj; exact T.kx_TooMany_NoBlock
        · obtain rfl := Option.some.inj hj; exact T.kx_TooMany_NoPlace
        · obtain rfl := Option.some.inj hj; exact T.kx_TooMany_OtherBlocks
        · obtain rfl := Option.some.inj hj; exact T.kx_TooMany_TooMany⟩⟩
  have G_BadTree_init := ok_BadTree_init (P := l.prog) (w := w) (base := base) T 
  have G_BadWords_init := ok_BadWords_init (P := l.prog) (w := w) (base := base) T 
  have G_TooMany_init := ok_TooMany_init (P := l.prog) (w := w) (base := base) T 
  have G_is_integer := ok_is_integer (P := l.prog) (w := w) (base := base) T fa 
  have G_is_within := ok_is_within (P := l.prog) (w := w) (base := base) T fa G_is_integer
  have G_is_flag := ok_is_flag (P := l.prog) (w := w) (base := base) T fa 
  have G_check_block := ok_check_block (P := l.prog) (w := w) (base := base) T fa G_is_within
  have G_check_place := ok_check_place (P := l.prog) (w := w) (base := base) T fa G_is_within
  have G_check_ups := ok_check_ups (P := l.prog) (w := w) (base := base) T fa G_BadWords_init G_is_within
  have G_check_lists := ok_check_lists (P := l.prog) (w := w) (base := base) T fa G_BadWords_init G_is_flag
  have G_Words_init := ok_Words_init (P := l.prog) (w := w) (base := base) T fa G_BadWords_init G_check_lists G_check_ups G_is_within
  have G_raw_costs := ok_raw_costs (P := l.prog) (w := w) (base := base) T fa 
  have G_cost := ok_cost (P := l.prog) (w := w) (base := base) T fa G_check_block G_check_place G_raw_costs
  have G_raw_wrong_words := ok_raw_wrong_words (P := l.prog) (w := w) (base := base) T fa G_raw_costs
  have G_wrong_words := ok_wrong_words (P := l.prog) (w := w) (base := base) T fa G_raw_wrong_words
  have G_rows_of := ok_rows_of (P := l.prog) (w := w) (base := base) T fa G_raw_costs
  have G_led_down := ok_led_down (P := l.prog) (w := w) (base := base) T fa 
  have G_determinant := ok_determinant (P := l.prog) (w := w) (base := base) T fa G_led_down
  have G_many_by_wrong := ok_many_by_wrong (P := l.prog) (w := w) (base := base) T fa G_TooMany_init G_determinant G_rows_of
  have G_leads_home := ok_leads_home (P := l.prog) (w := w) (base := base) T fa 
  have G_Tree_init := ok_Tree_init (P := l.prog) (w := w) (base := base) T fa G_BadTree_init G_is_within G_leads_home
  have G_l_hand := ok_l_hand (P := l.prog) (w := w) (base := base) T 
  have G_l_draw := ok_l_draw (P := l.prog) (w := w) (base := base) T fa 
  have G_l_is := ok_l_is (P := l.prog) (w := w) (base := base) T fa  4
  have G_l_deep := ok_l_deep (P := l.prog) (w := w) (base := base) T fa G_l_draw
  have G_l_tree := ok_l_tree (P := l.prog) (w := w) (base := base) T fa G_l_draw
  have G_l_right := ok_l_right (P := l.prog) (w := w) (base := base) T fa 
  have G_l_put := ok_l_put (P := l.prog) (w := w) (base := base) T fa 
  have G_l_worn := ok_l_worn (P := l.prog) (w := w) (base := base) T fa G_l_draw G_l_put
  have G_l_any := ok_l_any (P := l.prog) (w := w) (base := base) T fa G_l_draw
  have G_l_drawn := ok_l_drawn (P := l.prog) (w := w) (base := base) T fa G_l_any G_l_draw G_l_right G_l_tree G_l_worn
  have G_l_is_whole := ok_l_is_whole (P := l.prog) (w := w) (base := base) T fa 
  have G_l_odd := ok_l_odd (P := l.prog) (w := w) (base := base) T fa G_l_deep G_l_draw
  exact ok_law (P := l.prog) (w := w) (base := base) T fa G_Tree_init G_Words_init G_l_draw G_l_drawn G_l_hand G_l_is G_l_is_whole G_l_odd G_l_tree G_cost G_many_by_wrong G_wrong_words tb_law
end Fv
open PySem PySem.W PyProof.Rows
set_option maxHeartbeats 0 in
theorem PySem.Challenge.cw_foldervotes_k31_words_refused_holds : PySem.Challenge.rw_foldervotes_k31_words_refused.Holds := by
  w_on; o_law; k_head; (case hw => w_witness2)
  k_fill
  refine LamX.walk_ofTs (l := PySem.Challenge.rw_foldervotes_k31_words_refused) (n := 63) (k := 7) (x := "_law_script") (CX := fun _ => L2.CX0) rfl (by decide) rfl ⟨rfl, by decide, by decide⟩ (fun w h Y => PySem.W.km_in_of Y) ?F (fun _ _ _ _ _ h => h)
  case F =>
    intro w mg fa h Y KX G hmg
    refine' Fv.all_mk KX G hmg ?z_ValueError ?z_abs ?z_all ?z_bool ?z_enumerate ?z_int ?z_isinstance ?z_len ?z_list ?z_max ?z_min ?z_range ?z_sum ?z_tuple ?z_zip ?c_FIGURE ?c_HEAD ?c_MOST_BLOCKS_checks ?c_MOST_BLOCKS_counts ?a_Tree ?a_Words ?a_NoBlock ?a_NoPlace ?a_OtherBlocks ?a_TooMany ?a_BadTree ?a_BadWords ?a_VoteError ?a_BadTree_init ?l_BadTree_init ?d_BadTree_init ?p_BadTree_init ?a_BadWords_init ?l_BadWords_init ?d_BadWords_init ?p_BadWords_init ?a_TooMany_init ?l_TooMany_init ?d_TooMany_init ?p_TooMany_init ?a_is_integer ?l_is_integer ?d_is_integer ?p_is_integer ?a_is_within ?l_is_within ?d_is_within ?p_is_within ?a_is_flag ?l_is_flag ?d_is_flag ?p_is_flag ?a_check_block ?l_check_block ?d_check_block ?p_check_block ?a_check_place ?l_check_place ?d_check_place ?p_check_place ?a_check_ups ?l_check_ups ?d_check_ups ?p_check_ups ?a_check_lists ?l_check_lists ?d_check_lists ?p_check_lists ?a_Words_init ?l_Words_init ?d_Words_init ?p_Words_init ?a_raw_costs ?l_raw_costs ?d_raw_costs ?p_raw_costs ?a_cost ?l_cost ?d_cost ?p_cost ?a_raw_wrong_words ?l_raw_wrong_words ?d_raw_wrong_words ?p_raw_wrong_words ?a_wrong_words ?l_wrong_words ?d_wrong_words ?p_wrong_words ?a_rows_of ?l_rows_of ?d_rows_of ?p_rows_of ?a_led_down ?l_led_down ?d_led_down ?p_led_down ?a_determinant ?l_determinant ?d_determinant ?p_determinant ?a_many_by_wrong ?l_many_by_wrong ?d_many_by_wrong ?p_many_by_wrong ?a_leads_home ?l_leads_home ?d_leads_home ?p_leads_home ?a_Tree_init ?l_Tree_init ?d_Tree_init ?p_Tree_init ?a_l_hand ?l_l_hand ?d_l_hand ?p_l_hand ?a_l_draw ?l_l_draw ?d_l_draw ?p_l_draw ?a_l_is ?l_l_is ?d_l_is ?p_l_is ?a_l_deep ?l_l_deep ?d_l_deep ?p_l_deep ?a_l_tree ?l_l_tree ?d_l_tree ?p_l_tree ?a_l_right ?l_l_right ?d_l_right ?p_l_right ?a_l_put ?l_l_put ?d_l_put ?p_l_put ?a_l_worn ?l_l_worn ?d_l_worn ?p_l_worn ?a_l_any ?l_l_any ?d_l_any ?p_l_any ?a_l_drawn ?l_l_drawn ?d_l_drawn ?p_l_drawn ?a_l_is_whole ?l_l_is_whole ?d_l_is_whole ?p_l_is_whole ?a_l_word ?l_l_word ?d_l_word ?p_l_word ?a_l_odd ?l_l_odd ?d_l_odd ?p_l_odd ?a_law ?l_law ?d_law ?cl_law ?cv_law ?ch_law ?cn_law ?tt_law ?tm_law ?tu_law ?p_law ?pg_Tree ?hd_Tree ?po_Tree ?sa_Tree ?mk_Tree ?kc_Tree ?ha_Tree ?hn_Tree ?ht_Tree ?hm_Tree ?me_Tree ?ktNoneType_Tree ?ntNoneType_Tree ?ktbool_Tree ?ntbool_Tree ?ktint_Tree ?ntint_Tree ?ktstr_Tree ?ntstr_Tree ?ktlist_Tree ?ntlist_Tree ?kttuple_Tree ?nttuple_Tree ?ktdict_Tree ?ntdict_Tree ?if_Tree ?nf_Tree_hung ?kiint_Tree ?kibool_Tree ?kituple_Tree ?kilist_Tree ?kidict_Tree ?kistr_Tree ?pg_Words ?hd_Words ?po_Words ?sa_Words ?mk_Words ?kc_Words ?ha_Words ?hn_Words ?ht_Words ?hm_Words ?me_Words ?ktNoneType_Words ?ntNoneType_Words ?ktbool_Words ?ntbool_Words ?ktint_Words ?ntint_Words ?ktstr_Words ?ntstr_Words ?ktlist_Words ?ntlist_Words ?kttuple_Words ?nttuple_Words ?ktdict_Words ?ntdict_Words ?if_Words ?nf_Words_blocks ?nf_Words_ups ?nf_Words_lists ?kiint_Words ?kibool_Words ?kituple_Words ?kilist_Words ?kidict_Words ?kistr_Words ?sa_NoBlock ?be_NoBlock ?ty_NoBlock ?kc_NoBlock ?ic_NoBlock ?ss_NoBlock ?ga_NoBlock ?gt_NoBlock ?hd_NoBlock ?ha_NoBlock ?hn_NoBlock ?ht_NoBlock ?hm_NoBlock ?xL_NoBlock ?x0_NoBlock ?sa_NoPlace ?be_NoPlace ?ty_NoPlace ?kc_NoPlace ?ic_NoPlace ?ss_NoPlace ?ga_NoPlace ?gt_NoPlace ?hd_NoPlace ?ha_NoPlace ?hn_NoPlace ?ht_NoPlace ?hm_NoPlace ?xL_NoPlace ?x0_NoPlace ?sa_OtherBlocks ?be_OtherBlocks ?ty_OtherBlocks ?kc_OtherBlocks ?ic_OtherBlocks ?ss_OtherBlocks ?ga_OtherBlocks ?gt_OtherBlocks ?hd_OtherBlocks ?ha_OtherBlocks ?hn_OtherBlocks ?ht_OtherBlocks ?hm_OtherBlocks ?xL_OtherBlocks ?x0_OtherBlocks ?sa_TooMany ?be_TooMany ?ty_TooMany ?kc_TooMany ?ic_TooMany ?ss_TooMany ?ga_TooMany ?gt_TooMany ?hd_TooMany ?ha_TooMany ?hn_TooMany ?ht_TooMany ?hm_TooMany ?xL_TooMany ?ti_TooMany ?nf_TooMany_most ?sa_BadTree ?be_BadTree ?ty_BadTree ?kc_BadTree ?ic_BadTree ?ss_BadTree ?ga_BadTree ?gt_BadTree ?hd_BadTree ?ha_BadTree ?hn_BadTree ?ht_BadTree ?hm_BadTree ?xL_BadTree ?ti_BadTree ?nf_BadTree_part ?sa_BadWords ?be_BadWords ?ty_BadWords ?kc_BadWords ?ic_BadWords ?ss_BadWords ?ga_BadWords ?gt_BadWords ?hd_BadWords ?ha_BadWords ?hn_BadWords ?ht_BadWords ?hm_BadWords ?xL_BadWords ?ti_BadWords ?nf_BadWords_part ?sa_VoteError ?be_VoteError ?ty_VoteError ?kc_VoteError ?ic_VoteError ?ss_VoteError ?ga_VoteError ?gt_VoteError ?hd_VoteError ?ha_VoteError ?hn_VoteError ?ht_VoteError ?hm_VoteError ?xL_VoteError ?kn_Tree_Words ?kn_Words_Tree ?ss_NoBlock_VoteError ?kv_NoBlock_ValueError ?kx_NoBlock_NoBlock ?kx_NoBlock_NoPlace ?kx_NoBlock_OtherBlocks ?kx_NoBlock_TooMany ?ss_NoPlace_VoteError ?kv_NoPlace_ValueError ?kx_NoPlace_NoBlock ?kx_NoPlace_NoPlace ?kx_NoPlace_OtherBlocks ?kx_NoPlace_TooMany ?ss_OtherBlocks_VoteError ?kv_OtherBlocks_ValueError ?kx_OtherBlocks_NoBlock ?kx_OtherBlocks_NoPlace ?kx_OtherBlocks_OtherBlocks ?kx_OtherBlocks_TooMany ?ss_TooMany_VoteError ?kv_TooMany_ValueError ?kx_TooMany_NoBlock ?kx_TooMany_NoPlace ?kx_TooMany_OtherBlocks ?kx_TooMany_TooMany ?tall
    (case z_ValueError => k_is)
    (case z_abs => k_is)
    (case z_all => k_is)
    (case z_bool => k_is)
    (case z_enumerate => k_is)
    (case z_int => k_is)
    (case z_isinstance => k_is)
    (case z_len => k_is)
    (case z_list => k_is)
    (case z_max => k_is)
    (case z_min => k_is)
    (case z_range => k_is)
    (case z_sum => k_is)
    (case z_tuple => k_is)
    (case z_zip => k_is)
    (case c_FIGURE => k_is)
    (case c_HEAD => k_is)
    (case c_MOST_BLOCKS_checks => k_is)
    (case c_MOST_BLOCKS_counts => k_is)
    (case a_Tree => k_is)
    (case a_Words => k_is)
    (case a_NoBlock => k_is)
    (case a_NoPlace => k_is)
    (case a_OtherBlocks => k_is)
    (case a_TooMany => k_is)
    (case a_BadTree => k_is)
    (case a_BadWords => k_is)
    (case a_VoteError => k_is)
    (case a_BadTree_init => k_is)
    (case l_BadTree_init => k_is)
    (case d_BadTree_init => k_is)
    (case p_BadTree_init => k_is)
    (case a_BadWords_init => k_is)
    (case l_BadWords_init => k_is)
    (case d_BadWords_init => k_is)
    (case p_BadWords_init => k_is)
    (case a_TooMany_init => k_is)
    (case l_TooMany_init => k_is)
    (case d_TooMany_init => k_is)
    (case p_TooMany_init => k_is)
    (case a_is_integer => k_is)
    (case l_is_integer => k_is)
    (case d_is_integer => k_is)
    (case p_is_integer => k_is)
    (case a_is_within => k_is)
    (case l_is_within => k_is)
    (case d_is_within => k_is)
    (case p_is_within => k_is)
    (case a_is_flag => k_is)
    (case l_is_flag => k_is)
    (case d_is_flag => k_is)
    (case p_is_flag => k_is)
    (case a_check_block => k_is)
    (case l_check_block => k_is)
    (case d_check_block => k_is)
    (case p_check_block => k_is)
    (case a_check_place => k_is)
    (case l_check_place => k_is)
    (case d_check_place => k_is)
    (case p_check_place => k_is)
    (case a_check_ups => k_is)
    (case l_check_ups => k_is)
    (case d_check_ups => k_is)
    (case p_check_ups => k_is)
    (case a_check_lists => k_is)
    (case l_check_lists => k_is)
    (case d_check_lists => k_is)
    (case p_check_lists => k_is)
    (case a_Words_init => k_is)
    (case l_Words_init => k_is)
    (case d_Words_init => k_is)
    (case p_Words_init => k_is)
    (case a_raw_costs => k_is)
    (case l_raw_costs => k_is)
    (case d_raw_costs => k_is)
    (case p_raw_costs => k_is)
    (case a_cost => k_is)
    (case l_cost => k_is)
    (case d_cost => k_is)
    (case p_cost => k_is)
    (case a_raw_wrong_words => k_is)
    (case l_raw_wrong_words => k_is)
    (case d_raw_wrong_words => k_is)
    (case p_raw_wrong_words => k_is)
    (case a_wrong_words => k_is)
    (case l_wrong_words => k_is)
    (case d_wrong_words => k_is)
    (case p_wrong_words => k_is)
    (case a_rows_of => k_is)
    (case l_rows_of => k_is)
    (case d_rows_of => k_is)
    (case p_rows_of => k_is)
    (case a_led_down => k_is)
    (case l_led_down => k_is)
    (case d_led_down => k_is)
    (case p_led_down => k_is)
    (case a_determinant => k_is)
    (case l_determinant => k_is)
    (case d_determinant => k_is)
    (case p_determinant => k_is)
    (case a_many_by_wrong => k_is)
    (case l_many_by_wrong => k_is)
    (case d_many_by_wrong => k_is)
    (case p_many_by_wrong => k_is)
    (case a_leads_home => k_is)
    (case l_leads_home => k_is)
    (case d_leads_home => k_is)
    (case p_leads_home => k_is)
    (case a_Tree_init => k_is)
    (case l_Tree_init => k_is)
    (case d_Tree_init => k_is)
    (case p_Tree_init => k_is)
    (case a_l_hand => k_is)
    (case l_l_hand => k_is)
    (case d_l_hand => k_is)
    (case p_l_hand => k_is)
    (case a_l_draw => k_is)
    (case l_l_draw => k_is)
    (case d_l_draw => k_is)
    (case p_l_draw => k_is)
    (case a_l_is => k_is)
    (case l_l_is => k_is)
    (case d_l_is => k_is)
    (case p_l_is => k_is)
    (case a_l_deep => k_is)
    (case l_l_deep => k_is)
    (case d_l_deep => k_is)
    (case p_l_deep => k_is)
    (case a_l_tree => k_is)
    (case l_l_tree => k_is)
    (case d_l_tree => k_is)
    (case p_l_tree => k_is)
    (case a_l_right => k_is)
    (case l_l_right => k_is)
    (case d_l_right => k_is)
    (case p_l_right => k_is)
    (case a_l_put => k_is)
    (case l_l_put => k_is)
    (case d_l_put => k_is)
    (case p_l_put => k_is)
    (case a_l_worn => k_is)
    (case l_l_worn => k_is)
    (case d_l_worn => k_is)
    (case p_l_worn => k_is)
    (case a_l_any => k_is)
    (case l_l_any => k_is)
    (case d_l_any => k_is)
    (case p_l_any => k_is)
    (case a_l_drawn => k_is)
    (case l_l_drawn => k_is)
    (case d_l_drawn => k_is)
    (case p_l_drawn => k_is)
    (case a_l_is_whole => k_is)
    (case l_l_is_whole => k_is)
    (case d_l_is_whole => k_is)
    (case p_l_is_whole => k_is)
    (case a_l_word => k_is)
    (case l_l_word => k_is)
    (case d_l_word => k_is)
    (case p_l_word => k_is)
    (case a_l_odd => k_is)
    (case l_l_odd => k_is)
    (case d_l_odd => k_is)
    (case p_l_odd => k_is)
    (case a_law => k_is)
    (case l_law => k_is)
    (case d_law => k_is)
    (case cl_law => k_is)
    (case cv_law => rfl)
    (case ch_law => first | rfl | decide +kernel)
    (case cn_law => first | rfl | k_is)
    (case tt_law => exact PySem.W.km_tabs_of Y _ (by decide))
    (case tm_law => decide)
    (case tu_law => decide)
    (case p_law => k_is)
    (case pg_Tree => k_is)
    (case hd_Tree => k_is)
    (case po_Tree => k_is)
    (case sa_Tree => k_is)
    (case mk_Tree => k_is)
    (case kc_Tree => k_is)
    (case ha_Tree => k_is)
    (case hn_Tree => k_is)
    (case ht_Tree => k_is)
    (case hm_Tree => k_is)
    (case me_Tree => kit_is)
    (case ktNoneType_Tree => kit_is)
    (case ntNoneType_Tree => k_is)
    (case ktbool_Tree => kit_is)
    (case ntbool_Tree => k_is)
    (case ktint_Tree => kit_is)
    (case ntint_Tree => k_is)
    (case ktstr_Tree => kit_is)
    (case ntstr_Tree => k_is)
    (case ktlist_Tree => kit_is)
    (case ntlist_Tree => k_is)
    (case kttuple_Tree => kit_is)
    (case nttuple_Tree => k_is)
    (case ktdict_Tree => kit_is)
    (case ntdict_Tree => k_is)
    (case if_Tree => k_is)
    (case nf_Tree_hung => k_is)
    (case kiint_Tree => kit_is)
    (case kibool_Tree => kit_is)
    (case kituple_Tree => kit_is)
    (case kilist_Tree => kit_is)
    (case kidict_Tree => kit_is)
    (case kistr_Tree => kit_is)
    (case pg_Words => k_is)
    (case hd_Words => k_is)
    (case po_Words => k_is)
    (case sa_Words => k_is)
    (case mk_Words => k_is)
    (case kc_Words => k_is)
    (case ha_Words => k_is)
    (case hn_Words => k_is)
    (case ht_Words => k_is)
    (case hm_Words => k_is)
    (case me_Words => kit_is)
    (case ktNoneType_Words => kit_is)
    (case ntNoneType_Words => k_is)
    (case ktbool_Words => kit_is)
    (case ntbool_Words => k_is)
    (case ktint_Words => kit_is)
    (case ntint_Words => k_is)
    (case ktstr_Words => kit_is)
    (case ntstr_Words => k_is)
    (case ktlist_Words => kit_is)
    (case ntlist_Words => k_is)
    (case kttuple_Words => kit_is)
    (case nttuple_Words => k_is)
    (case ktdict_Words => kit_is)
    (case ntdict_Words => k_is)
    (case if_Words => k_is)
    (case nf_Words_blocks => k_is)
    (case nf_Words_ups => k_is)
    (case nf_Words_lists => k_is)
    (case kiint_Words => kit_is)
    (case kibool_Words => kit_is)
    (case kituple_Words => kit_is)
    (case kilist_Words => kit_is)
    (case kidict_Words => kit_is)
    (case kistr_Words => kit_is)
    (case sa_NoBlock => k_is)
    (case be_NoBlock => k_is)
    (case ty_NoBlock => k_is)
    (case kc_NoBlock => k_is)
    (case ic_NoBlock => k_is)
    (case ss_NoBlock => first | rfl | k_is)
    (case ga_NoBlock => k_is)
    (case gt_NoBlock => k_is)
    (case hd_NoBlock => k_is)
    (case ha_NoBlock => k_is)
    (case hn_NoBlock => k_is)
    (case ht_NoBlock => k_is)
    (case hm_NoBlock => k_is)
    (case xL_NoBlock => k_is)
    (case x0_NoBlock => k_exc)
    (case sa_NoPlace => k_is)
    (case be_NoPlace => k_is)
    (case ty_NoPlace => k_is)
    (case kc_NoPlace => k_is)
    (case ic_NoPlace => k_is)
    (case ss_NoPlace => first | rfl | k_is)
    (case ga_NoPlace => k_is)
    (case gt_NoPlace => k_is)
    (case hd_NoPlace => k_is)
    (case ha_NoPlace => k_is)
    (case hn_NoPlace => k_is)
    (case ht_NoPlace => k_is)
    (case hm_NoPlace => k_is)
    (case xL_NoPlace => k_is)
    (case x0_NoPlace => k_exc)
    (case sa_OtherBlocks => k_is)
    (case be_OtherBlocks => k_is)
    (case ty_OtherBlocks => k_is)
    (case kc_OtherBlocks => k_is)
    (case ic_OtherBlocks => k_is)
    (case ss_OtherBlocks => first | rfl | k_is)
    (case ga_OtherBlocks => k_is)
    (case gt_OtherBlocks => k_is)
    (case hd_OtherBlocks => k_is)
    (case ha_OtherBlocks => k_is)
    (case hn_OtherBlocks => k_is)
    (case ht_OtherBlocks => k_is)
    (case hm_OtherBlocks => k_is)
    (case xL_OtherBlocks => k_is)
    (case x0_OtherBlocks => k_exc)
    (case sa_TooMany => k_is)
    (case be_TooMany => k_is)
    (case ty_TooMany => k_is)
    (case kc_TooMany => k_is)
    (case ic_TooMany => k_is)
    (case ss_TooMany => first | rfl | k_is)
    (case ga_TooMany => k_is)
    (case gt_TooMany => k_is)
    (case hd_TooMany => k_is)
    (case ha_TooMany => k_is)
    (case hn_TooMany => k_is)
    (case ht_TooMany => k_is)
    (case hm_TooMany => k_is)
    (case xL_TooMany => k_is)
    (case ti_TooMany => k_is)
    (case nf_TooMany_most => k_is)
    (case sa_BadTree => k_is)
    (case be_BadTree => k_is)
    (case ty_BadTree => k_is)
    (case kc_BadTree => k_is)
    (case ic_BadTree => k_is)
    (case ss_BadTree => first | rfl | k_is)
    (case ga_BadTree => k_is)
    (case gt_BadTree => k_is)
    (case hd_BadTree => k_is)
    (case ha_BadTree => k_is)
    (case hn_BadTree => k_is)
    (case ht_BadTree => k_is)
    (case hm_BadTree => k_is)
    (case xL_BadTree => k_is)
    (case ti_BadTree => k_is)
    (case nf_BadTree_part => k_is)
    (case sa_BadWords => k_is)
    (case be_BadWords => k_is)
    (case ty_BadWords => k_is)
    (case kc_BadWords => k_is)
    (case ic_BadWords => k_is)
    (case ss_BadWords => first | rfl | k_is)
    (case ga_BadWords => k_is)
    (case gt_BadWords => k_is)
    (case hd_BadWords => k_is)
    (case ha_BadWords => k_is)
    (case hn_BadWords => k_is)
    (case ht_BadWords => k_is)
    (case hm_BadWords => k_is)
    (case xL_BadWords => k_is)
    (case ti_BadWords => k_is)
    (case nf_BadWords_part => k_is)
    (case sa_VoteError => k_is)
    (case be_VoteError => k_is)
    (case ty_VoteError => k_is)
    (case kc_VoteError => k_is)
    (case ic_VoteError => k_is)
    (case ss_VoteError => first | rfl | k_is)
    (case ga_VoteError => k_is)
    (case gt_VoteError => k_is)
    (case hd_VoteError => k_is)
    (case ha_VoteError => k_is)
    (case hn_VoteError => k_is)
    (case ht_VoteError => k_is)
    (case hm_VoteError => k_is)
    (case xL_VoteError => k_is)
    (case kn_Tree_Words => kit_is)
    (case kn_Words_Tree => kit_is)
    (case ss_NoBlock_VoteError => first | rfl | k_is)
    (case kv_NoBlock_ValueError => kit_is)
    (case kx_NoBlock_NoBlock => kit_is)
    (case kx_NoBlock_NoPlace => kit_is)
    (case kx_NoBlock_OtherBlocks => kit_is)
    (case kx_NoBlock_TooMany => kit_is)
    (case ss_NoPlace_VoteError => first | rfl | k_is)
    (case kv_NoPlace_ValueError => kit_is)
    (case kx_NoPlace_NoBlock => kit_is)
    (case kx_NoPlace_NoPlace => kit_is)
    (case kx_NoPlace_OtherBlocks => kit_is)
    (case kx_NoPlace_TooMany => kit_is)
    (case ss_OtherBlocks_VoteError => first | rfl | k_is)
    (case kv_OtherBlocks_ValueError => kit_is)
    (case kx_OtherBlocks_NoBlock => kit_is)
    (case kx_OtherBlocks_NoPlace => kit_is)
    (case kx_OtherBlocks_OtherBlocks => kit_is)
    (case kx_OtherBlocks_TooMany => kit_is)
    (case ss_TooMany_VoteError => first | rfl | k_is)
    (case kv_TooMany_ValueError => kit_is)
    (case kx_TooMany_NoBlock => kit_is)
    (case kx_TooMany_NoPlace => kit_is)
    (case kx_TooMany_OtherBlocks => kit_is)
    (case kx_TooMany_TooMany => kit_is)
    (case tall => decide)

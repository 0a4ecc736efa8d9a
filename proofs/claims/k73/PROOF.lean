import PyProof.Rows.All
import Wide.All
import OpenK.AllK
import Wide.FinOn
import HandS.ForMost
import HandS.ForExc
import HandS.Wide
import HandS.IsInst
import HandS.Style
import HandS.Flow
import HandS.Conv
import HandS.Defaults
import HandS.Head0
import HandS.Head1
import HandS.Head2
import HandS.HeadEnd
import HandS.HeadHook1
import HandS.HeadHook2
import HandS.EndBits
import HandS.ExcInit
import HandS.ExcField
import HandS.ExcOwn
import HandS.ExcIs
import HandS.TryOnly
import HandS.WordsExc
import HandS.ClsMeth
import HandS.HeadNt
import HandS.Steps
import HandS.Zip
import HandS.Walk
import HandS.Small
import HandS.NoneIn
import HandS.TryMany
import HandS.TupAny
import HandS.SortInts
import HandS.SetKeys
import HandS.Iter
import PyProof.DictMoreH
import HandS.DictTup
import HandS.TupLen
import HandS.Strs
import HandS.HotCalls
import HandS.CallSlots
import KE.GoesMore
import KE.DataFind
import HandS.SetFor
import HandS.TupMul
import KE.GoesZip
import KE.GoesMore
import KE.GoesEnum
import PySem.Challenge.RW_rootprime_k73_powers_let_by

set_option Elab.async false
set_option linter.all false
set_option maxRecDepth 100000
set_option maxHeartbeats 4000000
set_option exponentiation.threshold 5000

namespace R
open PySem PySem.Spec PyProof.Rows L2
/-! steps of a reading -/
section
variable {t u : TS} {D : Ends} {σ : L2.St} {H : Hp} {Q : VK} {te ta tb : TE} {g : TG} {i j : Nat} {v x y : V} {r : R2} {c c' : TT} {tl : TA} {QL : List V → Hp → Prop} {QB : Bool → Hp → Prop} {QS : L2.St → Hp → Prop} {a b : Int} {C : Int → Int → Prop} {f : Int → Int → V}
theorem s_seq (h : t { D with nx := u D } σ H) : tSeq t u D σ H := h
theorem s_asg (h : te σ H fun x H1 => g x σ H1 D.nx) : tAsg te g D σ H := h
theorem s_drop (h : te σ H fun _ H1 => D.nx σ H1) : tDrop te D σ H := h
theorem s_ret (h : te σ H D.rt) : tRet te D σ H := h
theorem s_next (h : D.nx σ H) : tNext D σ H := h
theorem s_if (h : c σ H fun b H1 => if b = true then t D σ H1 else u D σ H1) : tIfS c t u D σ H := h
theorem s_gname (h : QS (σ.set i (some v)) H) : gName i v σ H QS := h
theorem s_var (e : σ[i]? = some (some v)) (h : Q v H) : tVar i σ H Q := ⟨v, e, h⟩
theorem s_c (h : Q v H) : tC v σ H Q := h
theorem s_op (h : ta σ H fun x H1 => tb σ H1 fun y H2 => r x y H2 Q) : tOp r ta tb σ H Q := h
theorem s_un {r : V → Hp → VK → Prop} (h : ta σ H fun x H1 => r x H1 Q) : tUn r ta σ H Q := h
theorem s_i0 (h : Q (f a b) H) : rI0 f (.int a) (.int b) H Q := ⟨a, b, rfl, rfl, h⟩
theorem s_i (hc : C a b) (h : Q (f a b) H) : rI C f (.int a) (.int b) H Q := ⟨a, b, rfl, rfl, hc, h⟩
theorem s_u {f : Int → V} (h : Q (f a) H) : rU f (.int a) H Q := ⟨a, rfl, h⟩
theorem s_cons (h : te σ H fun x H1 => tl σ H1 fun xs H2 => QL (x :: xs) H2) : tCons te tl σ H QL := h
theorem s_nil (h : QL [] H) : tNil σ H QL := h
theorem s_test (h : ta σ H fun x H' => ∃ k, x = .bl k ∧ QB k H') : tTest ta σ H QB := h
theorem s_tB (h : ta σ H fun x H' => ∃ k, x = .bl k ∧ QB k H') : tB ta σ H QB := h
theorem s_bl {k : Bool} {P : Bool → Prop} (h : P k) : ∃ k', V.bl k = .bl k' ∧ P k' := ⟨k, rfl, h⟩
theorem s_andc (h : c σ H fun b H1 => if b = true then c' σ H1 QB else QB false H1) : tAnd c c' σ H QB := h
theorem s_orc (h : c σ H fun b H1 => if b = true then QB true H1 else c' σ H1 QB) : tOr c c' σ H QB := h
theorem s_notc (h : c σ H fun b H1 => QB (!b) H1) : tNot c σ H QB := h
theorem s_andv (h : ta σ H fun x H1 => ∃ c, x = .bl c ∧ if c = true then tb σ H1 Q else Q (.bl false) H1) : tAndV ta tb σ H Q := h
theorem s_orv (h : ta σ H fun x H1 => ∃ c, x = .bl c ∧ if c = true then Q (.bl true) H1 else tb σ H1 Q) : tOrV ta tb σ H Q := h
theorem s_notv (h : ta σ H fun x H1 => ∃ c, x = .bl c ∧ Q (.bl (!c)) H1) : tNotV ta σ H Q := h
theorem s_ifx {t : TT} (h : t σ H fun c H1 => if c = true then ta σ H1 Q else tb σ H1 Q) : tIf t ta tb σ H Q := h
theorem s_eqI (h : Q (.bl (decide (a = b))) H) : rEq (.int a) (.int b) H Q := ⟨rfl, by
  have e : decide (V.int a = V.int b) = decide (a = b) := by simp
  rw [e]; exact h⟩
theorem s_neI (h : Q (.bl (!decide (a = b))) H) : rNe (.int a) (.int b) H Q := ⟨rfl, by
  have e : decide (V.int a = V.int b) = decide (a = b) := by simp
  rw [e]; exact h⟩
theorem s_eqS {a b : Str} (h : Q (.bl (decide (a = b))) H) : rEq (.str a) (.str b) H Q := ⟨rfl, by
  have e : decide (V.str a = V.str b) = decide (a = b) := by simp
  rw [e]; exact h⟩
theorem s_neS {a b : Str} (h : Q (.bl (!decide (a = b))) H) : rNe (.str a) (.str b) H Q := ⟨rfl, by
  have e : decide (V.str a = V.str b) = decide (a = b) := by simp
  rw [e]; exact h⟩
theorem s_eqB {a b : Bool} (h : Q (.bl (decide (a = b))) H) : rEq (.bl a) (.bl b) H Q := ⟨rfl, by
  have e : decide (V.bl a = V.bl b) = decide (a = b) := by simp
  rw [e]; exact h⟩
theorem s_neB {a b : Bool} (h : Q (.bl (!decide (a = b))) H) : rNe (.bl a) (.bl b) H Q := ⟨rfl, by
  have e : decide (V.bl a = V.bl b) = decide (a = b) := by simp
  rw [e]; exact h⟩
def MkT (Q : VK) (xs : List V) (H : Hp) : Prop := xs.length ≤ sizeLine ∧ ∀ p, H p = none → Q (.ref p) (upd H p (.tup xs))
def MkL (Q : VK) (xs : List V) (H : Hp) : Prop := xs.length ≤ sizeLine ∧ ∀ p, H p = none → Q (.ref p) (upd H p (.lst xs))
theorem s_tup (h : tl σ H fun xs H1 => MkT Q xs H1) : tTup tl σ H Q := h
theorem s_lst (h : tl σ H fun xs H1 => MkL Q xs H1) : tLst tl σ H Q := h
theorem len_le {α : Type} {xs : List α} (h : xs.length ≤ 1000) : xs.length ≤ sizeLine := Nat.le_of_lt (small1000 h)
theorem s_par (h : tl σ H fun vs H1 => ∃ v w, vs = [v, w] ∧ D.nx ((σ.set i (some v)).set j (some w)) H1) : tPar i j tl D σ H := h
theorem s_par_ {P : V → V → Prop} (h : P x y) : ∃ v w, [x, y] = [v, w] ∧ P v w := ⟨x, y, rfl, h⟩
theorem s_par3 {l : Nat} (h : tl σ H fun vs H1 => ∃ u v w, vs = [u, v, w] ∧ D.nx (((σ.set i (some u)).set j (some v)).set l (some w)) H1) : tPar3 i j l tl D σ H := h
theorem s_par3_ {z : V} {P : V → V → V → Prop} (h : P x y z) : ∃ u v w, [x, y, z] = [u, v, w] ∧ P u v w := ⟨x, y, z, rfl, h⟩
theorem s_cb {r : List V → Hp → VK → Prop} (h : tl σ H fun vs H1 => r vs H1 Q) : tCB r tl σ H Q := h
theorem s_call {sp : Sp} {dvs : List V} {E : XK} (h : tl σ H fun vs H1 => sp (vs ++ dvs) H1 Q E) : tCall sp dvs E tl σ H Q := h
theorem s_callS {sp : Sp} {E : L2.St → XK} (h : tl σ H fun vs H1 => sp vs H1 Q (E σ)) : tCallS sp E tl σ H Q := h
theorem s_chain {r' : R2} {tc : TE} (h : ta σ H fun x H1 => tb σ H1 fun y H2 => r x y H2 fun z H3 => ∃ k, z = .bl k ∧ (if k = true then tc σ H3 fun w' H4 => r' y w' H4 Q else Q (.bl false) H3)) : tChain r r' ta tb tc σ H Q := h
theorem s_iteT {A B : Prop} (h : A) : if true = true then A else B := by rw [if_pos rfl]; exact h
theorem s_iteF {A B : Prop} (h : B) : if false = true then A else B := by rw [if_neg Bool.false_ne_true]; exact h
theorem s_iteNT {A B : Prop} (h : B) : if (!true) = true then A else B := h
theorem s_iteNF {A B : Prop} (h : A) : if (!false) = true then A else B := h
theorem s_ite {A B p : Prop} [Decidable p] (h1 : p → A) (h2 : ¬p → B) : if decide p = true then A else B := by
  by_cases h : p
  · rw [decide_eq_true h, if_pos rfl]; exact h1 h
  · rw [decide_eq_false h, if_neg Bool.false_ne_true]; exact h2 h
theorem s_iten {A B p : Prop} [Decidable p] (h1 : ¬p → A) (h2 : p → B) : if (!decide p) = true then A else B := by
  by_cases h : p
  · rw [decide_eq_true h]; exact s_iteF (h2 h)
  · rw [decide_eq_false h]; exact s_iteT (h1 h)
theorem s_iteb {A B : Prop} {b : Bool} (h1 : b = true → A) (h2 : b = false → B) : if b = true then A else B := by
  cases b
  · exact s_iteF (h2 rfl)
  · exact s_iteT (h1 rfl)
theorem s_itP {A B p : Prop} [Decidable p] (hp : p) (h : A) : if decide p = true then A else B := s_ite (fun _ => h) fun n => absurd hp n
theorem s_itN {A B p : Prop} [Decidable p] (hp : ¬p) (h : B) : if decide p = true then A else B := s_ite (fun n => absurd n hp) fun _ => h
theorem s_itnP {A B p : Prop} [Decidable p] (hp : p) (h : B) : if (!decide p) = true then A else B := s_iten (fun n => absurd hp n) fun _ => h
theorem s_itnN {A B p : Prop} [Decidable p] (hp : ¬p) (h : A) : if (!decide p) = true then A else B := s_iten (fun _ => h) fun n => absurd n hp
theorem s_btT {p : Prop} [Decidable p] {P : Bool → Prop} (hp : p) (h : P true) : P (decide p) := by rw [decide_eq_true hp]; exact h
theorem s_btF {p : Prop} [Decidable p] {P : Bool → Prop} (hp : ¬p) (h : P false) : P (decide p) := by rw [decide_eq_false hp]; exact h
theorem s_ixL {K : PySem.W.Frag} {p : Addr} {xs : List V} {n : Int} (h1 : SqL K H p xs) (h2 : atI xs n = some v) (h : Q v H) : rIx K (.ref p) (.int n) H Q := .inl ⟨p, xs, n, v, rfl, rfl, h1, h2, h⟩
theorem s_ixT {K : PySem.W.Frag} {p : Addr} {xs : List V} {n : Int} (h1 : SqT K H p xs) (h2 : atI xs n = some v) (h : Q v H) : rIx K (.ref p) (.int n) H Q := .inr (.inl ⟨p, xs, n, v, rfl, rfl, h1, h2, h⟩)
theorem s_isi {K : PySem.W.Frag} {a b : String} {bb : Bool} (ht : TyOf K H x (.type a)) (hk : kitB a b = some bb) (h : Q (.bl bb) H) : rIsi K [x, .ty b] H Q := ⟨x, .ty b, .type a, .type b, bb, rfl, .ty b, .base ht, kit_ty hk, h⟩
theorem kb_ii : kitB "int" "int" = some true := by decide +kernel
theorem kb_ib : kitB "int" "bool" = some false := by decide +kernel
theorem kb_bi : kitB "bool" "int" = some true := by decide +kernel
theorem kb_bb : kitB "bool" "bool" = some true := by decide +kernel
theorem kb_tt : kitB "tuple" "tuple" = some true := by decide +kernel
theorem kb_ll : kitB "list" "list" = some true := by decide +kernel
theorem kb_ti : kitB "tuple" "int" = some false := by decide +kernel
theorem kb_tl : kitB "tuple" "list" = some false := by decide +kernel
theorem kb_lt : kitB "list" "tuple" = some false := by decide +kernel
theorem kb_li : kitB "list" "int" = some false := by decide +kernel
theorem kb_ni : kitB "NoneType" "int" = some false := by decide +kernel
theorem s_isi_ii {K : PySem.W.Frag} (h : Q (.bl true) H) : rIsi K [.int a, .ty "int"] H Q := s_isi (.int a) kb_ii h
theorem s_isi_ib {K : PySem.W.Frag} (h : Q (.bl false) H) : rIsi K [.int a, .ty "bool"] H Q := s_isi (.int a) kb_ib h
theorem s_p10 {n : Nat} (h : Q (.int (10 ^ n)) H) (hn : n ≤ 1000 := by decide) : rI CPow (fun i j => V.int (i ^ j.toNat)) (.int 10) (.int (n : Int)) H Q :=
  ⟨10, n, rfl, rfl, ⟨by omega, by omega, by decide⟩, h⟩
theorem s_pow {e : Int} {n : Nat} (he : e = n) (hn : n ≤ 1000) (ha : a.natAbs < 2 ^ 64) (h : Q (.int (a ^ n)) H) : rI CPow (fun i j => V.int (i ^ j.toNat)) (.int a) (.int e) H Q :=
  ⟨a, e, rfl, rfl, ⟨by omega, by omega, ha⟩, by subst he; exact h⟩
theorem s_p10_4 (h : Q (.int (10 ^ 4)) H) : rI CPow (fun i j => V.int (i ^ j.toNat)) (.int 10) (.int 4) H Q := s_p10 (n := 4) h
theorem s_p10_5 (h : Q (.int (10 ^ 5)) H) : rI CPow (fun i j => V.int (i ^ j.toNat)) (.int 10) (.int 5) H Q := s_p10 (n := 5) h
theorem s_p10_6 (h : Q (.int (10 ^ 6)) H) : rI CPow (fun i j => V.int (i ^ j.toNat)) (.int 10) (.int 6) H Q := s_p10 (n := 6) h
theorem s_p10_8 (h : Q (.int (10 ^ 8)) H) : rI CPow (fun i j => V.int (i ^ j.toNat)) (.int 10) (.int 8) H Q := s_p10 (n := 8) h
theorem s_p10_9 (h : Q (.int (10 ^ 9)) H) : rI CPow (fun i j => V.int (i ^ j.toNat)) (.int 10) (.int 9) H Q := s_p10 (n := 9) h
theorem s_p10_12 (h : Q (.int (10 ^ 12)) H) : rI CPow (fun i j => V.int (i ^ j.toNat)) (.int 10) (.int 12) H Q := s_p10 (n := 12) h
theorem s_p10_18 (h : Q (.int (10 ^ 18)) H) : rI CPow (fun i j => V.int (i ^ j.toNat)) (.int 10) (.int 18) H Q := s_p10 (n := 18) h
theorem s_p10_29 (h : Q (.int (10 ^ 29)) H) : rI CPow (fun i j => V.int (i ^ j.toNat)) (.int 10) (.int 29) H Q := s_p10 (n := 29) h
theorem s_p10_30 (h : Q (.int (10 ^ 30)) H) : rI CPow (fun i j => V.int (i ^ j.toNat)) (.int 10) (.int 30) H Q := s_p10 (n := 30) h
theorem s_p10_39 (h : Q (.int (10 ^ 39)) H) : rI CPow (fun i j => V.int (i ^ j.toNat)) (.int 10) (.int 39) H Q := s_p10 (n := 39) h
theorem s_p10_40 (h : Q (.int (10 ^ 40)) H) : rI CPow (fun i j => V.int (i ^ j.toNat)) (.int 10) (.int 40) H Q := s_p10 (n := 40) h
theorem s_p10_49 (h : Q (.int (10 ^ 49)) H) : rI CPow (fun i j => V.int (i ^ j.toNat)) (.int 10) (.int 49) H Q := s_p10 (n := 49) h
theorem s_p10_50 (h : Q (.int (10 ^ 50)) H) : rI CPow (fun i j => V.int (i ^ j.toNat)) (.int 10) (.int 50) H Q := s_p10 (n := 50) h
theorem s_p10_51 (h : Q (.int (10 ^ 51)) H) : rI CPow (fun i j => V.int (i ^ j.toNat)) (.int 10) (.int 51) H Q := s_p10 (n := 51) h
theorem s_p10_58 (h : Q (.int (10 ^ 58)) H) : rI CPow (fun i j => V.int (i ^ j.toNat)) (.int 10) (.int 58) H Q := s_p10 (n := 58) h
theorem s_p10_59 (h : Q (.int (10 ^ 59)) H) : rI CPow (fun i j => V.int (i ^ j.toNat)) (.int 10) (.int 59) H Q := s_p10 (n := 59) h
theorem s_p10_60 (h : Q (.int (10 ^ 60)) H) : rI CPow (fun i j => V.int (i ^ j.toNat)) (.int 10) (.int 60) H Q := s_p10 (n := 60) h
theorem s_pow7 (ha : a.natAbs < 2 ^ 64) (h : Q (.int (a ^ 7)) H) : rI CPow (fun i j => V.int (i ^ j.toNat)) (.int a) (.int 7) H Q := s_pow (n := 7) rfl (by decide) ha h
theorem s_pickN {K : PySem.W.Frag} {p : Addr} {n : Int} {P : Int → Prop} (ns : List Int) (hp : H p = some (.lst (ns.map V.int))) (hn : 0 ≤ n ∧ n < ns.length) (ha : ∀ z ∈ ns, P z) (h : ∀ z, P z → Q (.int z) H) : rIx K (.ref p) (.int n) H Q := by
  obtain ⟨k, rfl⟩ := Int.eq_ofNat_of_zero_le hn.1
  have hk : k < ns.length := by omega
  exact s_ixL (SqL.of hp) (atI_nat (j := k) (v := .int ns[k]) (by rw [List.getElem?_map, List.getElem?_eq_getElem hk]; rfl)) (h _ (ha _ (List.getElem_mem hk)))
theorem s_pick2 {K : PySem.W.Frag} {p : Addr} {n : Int} {P : Int → Prop} (hp : H p = some (.lst [.int a, .int b])) (hn : 0 ≤ n ∧ n < 2) (ha : P a) (hb : P b) (h : ∀ z, P z → Q (.int z) H) : rIx K (.ref p) (.int n) H Q := by
  have e : n = 0 ∨ n = 1 := by omega
  rcases e with rfl | rfl
  · exact s_ixL (SqL.of hp) (atI_nat (j := 0) rfl) (h a ha)
  · exact s_ixL (SqL.of hp) (atI_nat (j := 1) rfl) (h b hb)
theorem s_andJ {b c : Bool} (hc : ∀ Q' : VK, Q' (.bl c) H → tb σ H Q') (h : Q (.bl (b && c)) H) : if b = true then tb σ H Q else Q (.bl false) H := by
  cases b
  · exact s_iteF h
  · exact s_iteT (hc _ h)
theorem s_orJ {b c : Bool} (hc : ∀ Q' : VK, Q' (.bl c) H → tb σ H Q') (h : Q (.bl (b || c)) H) : if b = true then Q (.bl true) H else tb σ H Q := by
  cases b
  · exact s_iteF (hc _ h)
  · exact s_iteT h
theorem s_blT {p : Prop} [Decidable p] (hp : p) (h : Q (.bl true) H) : Q (.bl (decide p)) H := by rw [decide_eq_true hp]; exact h
theorem s_blF {p : Prop} [Decidable p] (hp : ¬p) (h : Q (.bl false) H) : Q (.bl (decide p)) H := by rw [decide_eq_false hp]; exact h
theorem s_sl {r : V → Option Int → Option Int → Hp → VK → Prop} {tlo thi : TO} (h : te σ H fun x H1 => tlo σ H1 fun l H2 => thi σ H2 fun u H3 => r x l u H3 Q) : L2.tSl r te tlo thi σ H Q := h
theorem s_nopart {QO : Option Int → Hp → Prop} (h : QO none H) : tNoPart σ H QO := h
theorem s_part {QO : Option Int → Hp → Prop} (h : te σ H fun x H1 => ∃ i, x = .int i ∧ QO (some i) H1) : tPart te σ H QO := h
theorem s_int_ {P : Int → Prop} (h : P a) : ∃ i, V.int a = .int i ∧ P i := ⟨a, rfl, h⟩
theorem s_slL {K : PySem.W.Frag} {p : Addr} {xs : List V} {lo hi : Option Int} (hs : SqL K H p xs) (h : ∀ l, H l = none → Q (.ref l) (upd H l (.lst (cutV xs lo hi)))) : rSlL K (.ref p) lo hi H Q := ⟨p, xs, rfl, hs, h⟩
theorem s_for {wi : TI} {tb : TS} (h : wi σ H fun J H1 => ∃ W : Nat → Nat → L2.St → Hp → Prop, (∃ m, W 0 m σ H1) ∧ ∀ i m σ H, W i m σ H →
  (J.stop i H ∧ D.nx σ H) ∨ (J.go i H ∧ ∃ N : L2.St → Hp → Prop, (∀ σ' H', N σ' H' → ∃ m', m' < m ∧ W (i + 1) m' σ' H') ∧ ∀ x H', J.yld i H x H' → g x σ H' fun σ2 H2 => tb { D with nx := N, ct := N, bk := D.nx } σ2 H2)) : tFor wi g tb D σ H := h
theorem s_ilist {K : PySem.W.Frag} {RI : It → Hp → Prop} (h : te σ H fun x H1 => ∃ a, x = .ref a ∧ (∃ xs, SqL K H1 a xs) ∧ RI (Itl K a) H1) : iList K te σ H RI := h
theorem s_itup {K : PySem.W.Frag} {RI : It → Hp → Prop} (h : te σ H fun x H1 => ∃ a, x = .ref a ∧ (∃ xs, SqT K H1 a xs) ∧ RI (Itt K a) H1) : iTup K te σ H RI := h
theorem s_ref_ {p : Addr} {P : Addr → Prop} (h : P p) : ∃ i, V.ref p = .ref i ∧ P i := ⟨p, rfl, h⟩
theorem s_join (P : L2.St → Hp → Prop) (h1 : ∀ σ' H', P σ' H' → D.nx σ' H') (h2 : ∀ N : L2.St → Hp → Prop, (∀ σ' H', P σ' H' → N σ' H') → tIfS c t u { D with nx := N } σ H) : tIfS c t u D σ H := h2 D.nx h1
theorem s_yes (h : QB true H) : tYes σ H QB := h
theorem s_gtup {K : PySem.W.Frag} {n : Nat} {t : TGs} {p : Addr} {xs : List V} (h1 : SqT K H p xs) (h2 : xs.length = n) (h : t xs σ H QS) : gTup K n t (.ref p) σ H QS := ⟨p, xs, rfl, h1, h2, h⟩
theorem s_gcons {t : TG} {u : TGs} {r : List V} (h : t v σ H fun σ' H' => u r σ' H' QS) : gCons t u (v :: r) σ H QS := ⟨v, r, rfl, h⟩
theorem s_gnil (h : QS σ H) : gNil [] σ H QS := ⟨rfl, h⟩
theorem s_append {p : Addr} {xs : List V} (hp : H p = some (.lst xs)) (hl : xs.length < sizeLine) (h : Q .non (upd H p (.lst (xs ++ [x])))) : rAppend (.ref p) [x] H Q := ⟨p, xs, x, rfl, rfl, hp, hl, h⟩
theorem s_tyL {K : PySem.W.Frag} {p : Addr} {xs : List V} (hp : H p = some (.lst xs)) : tyV K "list" (.ref p) H := Or.inl ⟨rfl, _, Or.inl (Or.inl hp)⟩
theorem s_bm {K : PySem.W.Frag} {T : String} {r : V → List V → Hp → VK → Prop} (h : ta σ H fun x H1 => tyV K T x H1 ∧ tl σ H1 fun xs H2 => r x xs H2 Q) : tBM K T r ta tl σ H Q := h
end
/-! rules by name -/
def rAbs : List V → Hp → VK → Prop := fun xs H Q => ∃ i, xs = [.int i] ∧ Q (.int (if i < 0 then -i else i)) H
def rMax2 : List V → Hp → VK → Prop := fun xs H Q => ∃ i j, xs = [.int i, .int j] ∧ Q (.int (if j > i then j else i)) H
def rMin2 : List V → Hp → VK → Prop := fun xs H Q => ∃ i j, xs = [.int i, .int j] ∧ Q (.int (if j < i then j else i)) H
def rLenS (K : PySem.W.Frag) : List V → Hp → VK → Prop := fun xs H Q => ∃ p ys, xs = [.ref p] ∧ (SqL K H p ys ∨ SqT K H p ys) ∧ Q (.int ys.length) H
def rTupOf (K : PySem.W.Frag) : List V → Hp → VK → Prop := fun xs H Q => ∃ p ys, xs = [.ref p] ∧ ((SqL K H p ys ∧ ∀ l, H l = none → Q (.ref l) (upd H l (.tup ys))) ∨ (SqT K H p ys ∧ Q (.ref p) H))
def rLstOf (K : PySem.W.Frag) : List V → Hp → VK → Prop := fun xs H Q => ∃ p ys, xs = [.ref p] ∧ (SqL K H p ys ∨ SqT K H p ys) ∧ ∀ l, H l = none → Q (.ref l) (upd H l (.lst ys))
def rInt1 : List V → Hp → VK → Prop := fun xs H Q => (∃ i, xs = [.int i] ∧ Q (.int i) H) ∨ ∃ k, xs = [.bl k] ∧ Q (.int (if k then 1 else 0)) H
def rIns : V → List V → Hp → VK → Prop := fun x vs H Q => ∃ (l : Addr) (xs : List V) (i : Int) (y : V), x = .ref l ∧ vs = [.int i, y] ∧ H l = some (.lst xs) ∧ xs.length < sizeLine ∧ 0 ≤ i ∧ i < 2 ^ 63 ∧ Q .non (upd H l (.lst (xs.take i.toNat ++ [y] ++ xs.drop i.toNat)))
section
variable {X : Cx}
theorem mtIns : MtR X "list.insert" rIns := mt_insert
theorem callInt1 : CallR X (.type "int") rInt1 := call_int1
theorem callAbs : CallR X (.builtin "abs") rAbs := call_abs
theorem callMax2 (hc : X.calm = true) : CallR X (.builtin "max") rMax2 := call_max2 hc
theorem callMin2 (hc : X.calm = true) : CallR X (.builtin "min") rMin2 := call_min2 hc
theorem callLen : CallR X (.builtin "len") (rLenS X.K) := call_len_seq
theorem callTup : CallR X (.type "tuple") (rTupOf X.K) := call_tuple_of
theorem callLst : CallR X (.type "list") (rLstOf X.K) := call_list_of
end
section
variable {H : Hp} {Q : VK} {a b : Int} {K : PySem.W.Frag} {p : Addr} {xs : List V}
theorem s_intB {k : Bool} (h : Q (.int (if k then 1 else 0)) H) : rInt1 [.bl k] H Q := .inr ⟨k, rfl, h⟩
theorem s_abs (h : Q (.int (if a < 0 then -a else a)) H) : rAbs [.int a] H Q := ⟨a, rfl, h⟩
theorem s_max (h : Q (.int (if b > a then b else a)) H) : rMax2 [.int a, .int b] H Q := ⟨a, b, rfl, h⟩
theorem s_min (h : Q (.int (if b < a then b else a)) H) : rMin2 [.int a, .int b] H Q := ⟨a, b, rfl, h⟩
theorem s_ins0 {y : V} (hp : H p = some (.lst xs)) (hl : xs.length < sizeLine) (h : Q .non (upd H p (.lst (y :: xs)))) : rIns (.ref p) [.int 0, y] H Q := ⟨p, xs, 0, y, rfl, rfl, hp, hl, by decide, by decide, h⟩
theorem s_lenL (hs : SqL K H p xs) (h : Q (.int xs.length) H) : rLenS K [.ref p] H Q := ⟨p, xs, rfl, .inl hs, h⟩
theorem s_lenT (hs : SqT K H p xs) (h : Q (.int xs.length) H) : rLenS K [.ref p] H Q := ⟨p, xs, rfl, .inr hs, h⟩
theorem s_tupL (hs : SqL K H p xs) (h : ∀ l, H l = none → Q (.ref l) (upd H l (.tup xs))) : rTupOf K [.ref p] H Q := ⟨p, xs, rfl, .inl ⟨hs, h⟩⟩
theorem s_lstL (hs : SqL K H p xs) (h : ∀ l, H l = none → Q (.ref l) (upd H l (.lst xs))) : rLstOf K [.ref p] H Q := ⟨p, xs, rfl, .inl hs, h⟩
theorem s_lstT (hs : SqT K H p xs) (h : ∀ l, H l = none → Q (.ref l) (upd H l (.lst xs))) : rLstOf K [.ref p] H Q := ⟨p, xs, rfl, .inr hs, h⟩
end
/-! heaps -/
theorem same_upd {H : Hp} {p : Addr} {o : HO} (h : H p = none) : Same H (upd H p o) := fun b u e => by rw [upd_ne (ne_of_none e h)]; exact e
theorem same_upd' {H H' : Hp} {p : Addr} {o : HO} (s : Same H H') (h : H p = none) : Same H (upd H' p o) := fun b u e => by rw [upd_ne (ne_of_none e h)]; exact s b u e
theorem same_new {H H' : Hp} {p : Addr} {o : HO} (s : Same H H') (h : H' p = none) : Same H (upd H' p o) := s.trans (same_upd h)
theorem Same.none {H H' : Hp} (s : Same H H') {p : Addr} (h : H' p = none) : H p = none := s.free h
theorem atI0 {α : Type} {xs : List α} {v : α} {n : Int} (k : Nat) (hn : n = k) (h : xs[k]? = some v) : atI xs n = some v := by subst hn; exact atI_nat h
theorem cutV_mem {xs : List V} {lo hi : Option Int} {x : V} (h : x ∈ cutV xs lo hi) : x ∈ xs := List.mem_of_mem_drop (List.mem_of_mem_take h)
theorem get_mem {xs : List V} {i : Nat} {x : V} (h : xs[i]? = some x) : x ∈ xs := List.mem_of_getElem? h
theorem of_mem_ints {ns : List Int} {x : V} (h : x ∈ ns.map V.int) : ∃ c, x = .int c ∧ c ∈ ns := by
  obtain ⟨c, h1, h2⟩ := List.mem_map.mp h
  exact ⟨c, h2.symm, h1⟩
section
variable {H : Hp} {Q : VK} {K : PySem.W.Frag} {p : Addr} {xs : List V}
theorem mkT (hl : xs.length ≤ 1000) (h : ∀ p H', H p = none → H' p = some (.tup xs) → Same H H' → Q (.ref p) H') : MkT Q xs H := ⟨len_le hl, fun p hp => h p _ hp upd_same (same_upd hp)⟩
theorem mkL (hl : xs.length ≤ 1000) (h : ∀ p H', H p = none → H' p = some (.lst xs) → Same H H' → Q (.ref p) H') : MkL Q xs H := ⟨len_le hl, fun p hp => h p _ hp upd_same (same_upd hp)⟩
theorem mkCat {q : Addr} {zs : List V} (h1 : H p = some (.lst xs)) (h2 : H q = some (.lst zs)) (hl : xs.length + zs.length ≤ 1000) (h : ∀ l H', H l = none → H' l = some (.lst (xs ++ zs)) → Same H H' → Q (.ref l) H') : rCat (.ref p) (.ref q) H Q := ⟨p, q, xs, zs, rfl, rfl, h1, h2, Nat.le_trans hl (Nat.le_of_lt (small1000 (Nat.le_refl _))), fun l hl => h l _ hl upd_same (same_upd hl)⟩
theorem mkSlT {lo hi : Option Int} (hs : SqT K H p xs) (hn : ¬ (HT.sIx xs.length 0 lo = 0 ∧ HT.sIx xs.length xs.length hi = xs.length)) (h : ∀ l H', H l = none → H' l = some (.tup (cutV xs lo hi)) → Same H H' → Q (.ref l) H') : rSlT K (.ref p) lo hi H Q := ⟨p, xs, rfl, hs, hn, fun l hl => h l _ hl upd_same (same_upd hl)⟩
theorem mkSl {lo hi : Option Int} (hs : SqL K H p xs) (h : ∀ l H', H l = none → H' l = some (.lst (cutV xs lo hi)) → Same H H' → Q (.ref l) H') : rSlL K (.ref p) lo hi H Q := s_slL hs fun l hl => h l _ hl upd_same (same_upd hl)
end
theorem s_eqD {K : PySem.W.Frag} {H : Hp} {Q : VK} {x y : V} (d e : PyData) (hd : Dp K H x d) (he : Dp K H y e) (h1 : SeqAt.shaped d = true) (h2 : SeqAt.shaped e = true) (h : Q (.bl (PyData.eqv d e)) H) : rEqD K x y H Q := ⟨d, e, hd, he, h1, h2, h⟩
theorem s_neD {K : PySem.W.Frag} {H : Hp} {Q : VK} {x y : V} (d e : PyData) (hd : Dp K H x d) (he : Dp K H y e) (h1 : SeqAt.shaped d = true) (h2 : SeqAt.shaped e = true) (h : Q (.bl (!PyData.eqv d e)) H) : rNeD K x y H Q := ⟨d, e, hd, he, h1, h2, h⟩
theorem dp_tup1 {K : PySem.W.Frag} {H : Hp} {p : Addr} {a : Int} (h : H p = some (.tup [.int a])) : Dp K H (.ref p) (.tuple [.int a]) := .tup (SqT.of h) (.cons (.int a) .nil)
theorem dp_tup2 {K : PySem.W.Frag} {H : Hp} {p : Addr} {a b : Int} (h : H p = some (.tup [.int a, .int b])) : Dp K H (.ref p) (.tuple [.int a, .int b]) := .tup (SqT.of h) (.cons (.int a) (.cons (.int b) .nil))
theorem atI_neg1 {α : Type} {xs : List α} {v : α} (h : xs.getLast? = some v) : atI xs (-1) = some v := by
  rcases List.eq_nil_or_concat xs with e | ⟨ys, y, e⟩
  · subst e; simp at h
  · rw [List.concat_eq_append] at e
    subst e
    rw [List.getLast?_concat] at h
    cases h
    exact atI_last ys v
/-! all stands but what lies at one place -/
def SameB (p : Addr) (H H' : Hp) : Prop := ∀ b o, b ≠ p → H b = some o → H' b = some o
theorem SameB.refl (p : Addr) (H : Hp) : SameB p H H := fun _ _ _ h => h
theorem SameB.trans {p : Addr} {H H1 H2 : Hp} (a : SameB p H H1) (b : SameB p H1 H2) : SameB p H H2 := fun c o n h => b c o n (a c o n h)
theorem SameB.of {p : Addr} {H H1 : Hp} (a : Same H H1) : SameB p H H1 := fun c o _ h => a c o h
theorem SameB.put {p : Addr} {H : Hp} {o : HO} : SameB p H (upd H p o) := fun c u n h => by rw [upd_ne n]; exact h
theorem SameB.same {p : Addr} {H H1 H2 : Hp} (n : H p = none) (a : SameB p H1 H2) (s : Same H H1) : Same H H2 := fun c o h => a c o (ne_of_none h n) (s c o h)
theorem SameB.updn {p l : Addr} {H H' : Hp} {o : HO} (h : SameB p H H') (n : H l = none) : SameB p H (upd H' l o) := fun b u hb e => by rw [upd_ne (ne_of_none e n)]; exact h b u hb e
theorem ixN_nat {n d : Nat} (h : d < n) : ixN n (d : Int) = some d := by
  unfold ixN
  rw [if_pos (by omega), if_pos (by omega)]; simp
/-! ranges -/
section
variable {H : Hp} {σ : L2.St} {ta : TA} {RI : It → Hp → Prop}
def RngQ1 (RI : It → Hp → Prop) (vs : List V) (H : Hp) : Prop := ∃ j : Int, vs = [.int j] ∧ -(2 ^ 62) ≤ j ∧ j < 2 ^ 62 ∧ RI (Itr 0 j.toNat) H
def RngQ2 (RI : It → Hp → Prop) (vs : List V) (H : Hp) : Prop := ∃ i j : Int, vs = [.int i, .int j] ∧ (-(2 ^ 62) ≤ i ∧ i < 2 ^ 62 ∧ -(2 ^ 62) ≤ j ∧ j < 2 ^ 62) ∧ RI (Itr i (j - i).toNat) H
theorem s_rng1 (h : ta σ H fun vs H1 => RngQ1 RI vs H1) : iRng1 ta σ H RI := h
theorem s_rng2 (h : ta σ H fun vs H1 => RngQ2 RI vs H1) : iRng2 ta σ H RI := h
theorem mkR1 {j : Int} (n : Nat) (e : j.toNat = n) (h1 : -(2 ^ 62) ≤ j) (h2 : j < 2 ^ 62) (h : RI (Itr 0 n) H) : RngQ1 RI [.int j] H := ⟨j, rfl, h1, h2, by rw [e]; exact h⟩
theorem mkR2 {i j : Int} (n : Nat) (e : (j - i).toNat = n) (h1 : -(2 ^ 62) ≤ i ∧ i < 2 ^ 62 ∧ -(2 ^ 62) ≤ j ∧ j < 2 ^ 62) (h : RI (Itr i n) H) : RngQ2 RI [.int i, .int j] H := ⟨i, j, rfl, h1, by rw [e]; exact h⟩
end
section
variable {to ti : TE} {t : TSet} {v : V} {σ : L2.St} {H : Hp} {QS : L2.St → Hp → Prop} {p : Addr} {xs : List V} {k : Int} {QH : Hp → Prop}
theorem s_gsub (h : to σ H fun o H1 => ti σ H1 fun i H2 => t o i v H2 fun H3 => QS σ H3) : gSub to ti t v σ H QS := h
theorem s_setL (j : Nat) (hp : H p = some (.lst xs)) (hj : ixN xs.length k = some j) (h : QH (upd H p (.lst (xs.set j v)))) : rSetL (.ref p) (.int k) v H QH := ⟨p, xs, k, j, rfl, rfl, hp, hj, h⟩
end
/-! dicts -/
section
variable {H : Hp} {Q : VK} {p : Addr} {kvs : List (Key × V)} {k : Key} {v : V} {td ty tv : TE} {σ : L2.St} {D : Ends}
def DGetQ (Q : VK) (x y : V) (H : Hp) : Prop := ∃ a v, x = .ref a ∧ DGet H a y (some v) ∧ Q v H
theorem s_dget (h : td σ H fun x H1 => ty σ H1 fun y H2 => DGetQ Q x y H2) : tDGet td ty σ H Q := h
theorem s_dgetS {x : Str} (hd : H p = some (.dK kvs)) (hv : valV kvs (.inr x) = some v) (h : Q v H) : DGetQ Q (.ref p) (.str x) H := ⟨p, v, rfl, by rw [← hv]; exact DGet.k (k := .inr x) hd, h⟩
theorem s_dgetI {i : Int} (hd : H p = some (.dK kvs)) (hv : valV kvs (.inl i) = some v) (h : Q v H) : DGetQ Q (.ref p) (.int i) H := ⟨p, v, rfl, by rw [← hv]; exact DGet.k (k := .inl i) hd, h⟩
def DispQ (Q : VK) (p : Addr) (ps : List (V × V)) (H2 : Hp) : Prop := H2 p = some (.dK []) ∧ ∃ kvs : List (Key × V), ps = kvs.map (fun kv => (kV kv.1, kv.2)) ∧ kvs.length ≤ 15 ∧ Q (.ref p) (upd H2 p (.dK (mergeK [] kvs)))
theorem s_disp {trs : List (TE × TE)} (h : ∀ p H1, H p = none → H1 p = some (.dK []) → Same H H1 → tPairs trs σ H1 fun ps H2 => DispQ Q p ps H2) : tDisp trs σ H Q := fun p hp => h p _ hp upd_same (same_upd hp)
theorem s_pn {QP : List (V × V) → Hp → Prop} (h : QP [] H) : tPairs [] σ H QP := h
theorem s_pc {tk : TE} {r : List (TE × TE)} {QP : List (V × V) → Hp → Prop} (h : tk σ H fun x H1 => tv σ H1 fun y H2 => tPairs r σ H2 fun ps H3 => QP ((x, y) :: ps) H3) : tPairs ((tk, tv) :: r) σ H QP := h
theorem mkDisp {ps : List (V × V)} (kvs : List (Key × V)) (hd : H p = some (.dK [])) (e : ps = kvs.map (fun kv => (kV kv.1, kv.2))) (hl : kvs.length ≤ 15) (h : ∀ H', H' p = some (.dK (mergeK [] kvs)) → (∀ H0, H0 p = none → Same H0 H → Same H0 H') → Q (.ref p) H') : DispQ Q p ps H :=
  ⟨hd, kvs, e, hl, h _ upd_same fun H0 n s => same_upd' s n⟩
def DPutQ (P : Hp → Prop) (x y v : V) (H3 : Hp) : Prop := ∃ a H4, x = .ref a ∧ DPut H3 a y v H4 ∧ P H4
theorem s_dput (h : tv σ H fun v H1 => td σ H1 fun x H2 => ty σ H2 fun y H3 => DPutQ (D.nx σ) x y v H3) : sDPut td ty tv D σ H := h
theorem s_dputS {P : Hp → Prop} {x : Str} (hd : H p = some (.dK kvs)) (hl : kvs.length < sizeLine) (h : P (upd H p (.dK (putK kvs (.inr x) v)))) : DPutQ P (.ref p) (.str x) v H := ⟨p, _, rfl, DPut.k (k := .inr x) hd hl, h⟩
theorem s_dputI {P : Hp → Prop} {i : Int} (hd : H p = some (.dK kvs)) (hl : kvs.length < sizeLine) (h : P (upd H p (.dK (putK kvs (.inl i) v)))) : DPutQ P (.ref p) (.int i) v H := ⟨p, _, rfl, DPut.k (k := .inl i) hd hl, h⟩
end
mutual
theorem eqv_refl : ∀ d : PyData, PyData.canLay0 d = true → PyData.eqv d d = true
  | .none, _ => by simp [PyData.eqv]
  | .bool b, _ => by simp [PyData.eqv]
  | .int i, _ => by simp [PyData.eqv]
  | .str x, _ => by simp [PyData.eqv]
  | .list xs, h => by simp only [PyData.eqv]; exact eqv_refls xs (by simpa [PyData.canLay0] using h)
  | .tuple xs, h => by simp only [PyData.eqv]; exact eqv_refls xs (by simpa [PyData.canLay0] using h)
  | .dict _, h => by simp [PyData.canLay0] at h
theorem eqv_refls : ∀ ds : List PyData, PyData.canLayAll0 ds = true → PyData.eqvAll ds ds = true
  | [], _ => by simp [PyData.eqvAll]
  | d :: ds, h => by
    simp only [PyData.canLayAll0, Bool.and_eq_true] at h
    simp only [PyData.eqvAll, Bool.and_eq_true]
    exact ⟨eqv_refl d h.1, eqv_refls ds h.2⟩
end
theorem layAll {ds : List PyData} (h : ∀ d ∈ ds, PyData.canLay0 d = true) : PyData.canLayAll0 ds = true := by
  induction ds with
  | nil => simp [PyData.canLayAll0]
  | cons d ds ih =>
    simp only [PyData.canLayAll0, Bool.and_eq_true]
    exact ⟨h d (by simp), ih fun e he => h e (by simp [he])⟩
theorem depAll {ds : List PyData} {n : Nat} (h : ∀ d ∈ ds, PyData.depth d ≤ n) : PyData.depthAll ds ≤ n := by
  induction ds with
  | nil => simp [PyData.depthAll]
  | cons d ds ih =>
    simp only [PyData.depthAll]
    exact Nat.max_le.mpr ⟨h d (by simp), ih fun e he => h e (by simp [he])⟩
theorem shapedL {ds : List PyData} (h : ∀ d ∈ ds, PyData.canLay0 d = true ∧ PyData.depth d ≤ 63) : SeqAt.shaped (.list ds) = true := by
  unfold SeqAt.shaped
  simp only [PyData.canLay0, PyData.depth, Bool.and_eq_true]
  exact ⟨layAll fun d hd => (h d hd).1, decide_eq_true (Nat.succ_le_succ (depAll fun d hd => (h d hd).2))⟩
theorem shapedT {ds : List PyData} (h : ∀ d ∈ ds, PyData.canLay0 d = true ∧ PyData.depth d ≤ 63) : SeqAt.shaped (.tuple ds) = true := by
  unfold SeqAt.shaped
  simp only [PyData.canLay0, PyData.depth, Bool.and_eq_true]
  exact ⟨layAll fun d hd => (h d hd).1, decide_eq_true (Nat.succ_le_succ (depAll fun d hd => (h d hd).2))⟩
theorem eqv_shaped {d : PyData} (h : SeqAt.shaped d = true) : PyData.eqv d d = true := eqv_refl d (SeqAt.canLay_of_shaped h)
theorem in_ints (a : Int) (ns : List Int) : inV (.int a) (ns.map V.int) = decide (a ∈ ns) := by
  unfold inV
  induction ns with
  | nil => simp
  | cons n ns ih =>
    rw [List.map_cons, List.any_cons, ih]
    simp only [eqV, List.mem_cons]
    by_cases h : a = n
    · subst h; simp
    · simp [h, Ne.symm h]
theorem flat_ints (ns : List Int) : (ns.map V.int).all flatV = true := by simp [flatV]
theorem s_inL {K : PySem.W.Frag} {H : Hp} {Q : VK} {p : Addr} {a : Int} {ns : List Int} (hp : H p = some (.lst (ns.map V.int))) (h : Q (.bl (decide (a ∈ ns))) H) : rIn K false (.int a) (.ref p) H Q :=
  ⟨p, ns.map V.int, rfl, .inl (SqL.of hp), rfl, flat_ints ns, by rw [if_neg Bool.false_ne_true, in_ints]; exact h⟩
theorem s_notInL {K : PySem.W.Frag} {H : Hp} {Q : VK} {p : Addr} {a : Int} {ns : List Int} (hp : H p = some (.lst (ns.map V.int))) (h : Q (.bl (!decide (a ∈ ns))) H) : rIn K true (.int a) (.ref p) H Q :=
  ⟨p, ns.map V.int, rfl, .inl (SqL.of hp), rfl, flat_ints ns, by rw [if_pos rfl, in_ints]; exact h⟩
theorem paired_mono {α β : Type} {F G : α → β → Prop} (h : ∀ a b, F a b → G a b) : ∀ {xs : List α} {ys : List β}, Paired F xs ys → Paired G xs ys
  | _, _, .nil => .nil
  | _, _, .cons f r => .cons (h _ _ f) (paired_mono h r)
theorem paired_take {α β : Type} {F : α → β → Prop} : ∀ {xs : List α} {ys : List β} (n : Nat), Paired F xs ys → Paired F (xs.take n) (ys.take n)
  | _, _, 0, _ => by simp; exact .nil
  | _, _, _ + 1, .nil => .nil
  | _, _, n + 1, .cons f r => .cons f (paired_take n r)
theorem s_isiT2 {K : PySem.W.Frag} {H : Hp} {Q : VK} {x : V} {tp : Addr} {a b1 b2 : String} {r1 r2 : Bool} (ht : H tp = some (.tup [.ty b1, .ty b2])) (tx : TyOf K H x (.type a)) (k1 : kitB a b1 = some r1) (k2 : kitB a b2 = some r2) (h : Q (.bl (r1 || r2)) H) : rIsiT K [x, .ref tp] H Q :=
  ⟨x, tp, [.ty b1, .ty b2], .type a, [.type b1, .type b2], r1 || r2, rfl, ht, .cons (.ty b1) (.cons (.ty b2) .nil), .base tx,
    kitAny_cons (kit_ty k1) (fun e => kitAny_cons (kit_ty k2) (fun e2 => by rw [e, e2]; exact kitAny_nil) (fun e2 => by rw [e2]; simp)) (fun e => by rw [e]; rfl), h⟩
theorem s_isiT2F {K : PySem.W.Frag} {H : Hp} {Q : VK} {x : V} {tp : Addr} {a b1 b2 : String} (ht : H tp = some (.tup [.ty b1, .ty b2])) (tx : TyOf K H x (.type a)) (k1 : kitB a b1 = some false) (k2 : kitB a b2 = some false) (h : Q (.bl false) H) : rIsiT K [x, .ref tp] H Q := s_isiT2 ht tx k1 k2 h
theorem kb_nl : kitB "NoneType" "list" = some false := by decide +kernel
theorem kb_nt : kitB "NoneType" "tuple" = some false := by decide +kernel
theorem kb_nb : kitB "NoneType" "bool" = some false := by decide +kernel
theorem kb_il : kitB "int" "list" = some false := by decide +kernel
theorem kb_it : kitB "int" "tuple" = some false := by decide +kernel
theorem kb_bl : kitB "bool" "list" = some false := by decide +kernel
theorem kb_bt : kitB "bool" "tuple" = some false := by decide +kernel
theorem lookup1 {f : Str} {v : V} : List.lookup f [(f, v)] = some v := by simp [List.lookup]
theorem s_xf {a C d : Addr} {f : Str} {v : V} {i : Nat} {σ : L2.St} {H : Hp} {Q : VK} (e : σ[i]? = some (some (.ref a))) (hx : H d = some (.xd [(f, v)])) (h : Q v H) : tXf a (.ref C) (some d) C f (tVar i) σ H Q := ⟨_, e, rfl, rfl, d, _, v, rfl, hx, lookup1, h⟩
/-- a list (or tuple) of tuples -/
abbrev TupsIn (H : Hp) : List V → List (List V) → Prop := Paired fun (x : V) (r : List V) => ∃ t, x = .ref t ∧ H t = some (.tup r)
theorem TupsIn.same {H H' : Hp} (s : Same H H') : ∀ {xs : List V} {rs : List (List V)}, TupsIn H xs rs → TupsIn H' xs rs
  | _, _, .nil => .nil
  | _, _, .cons ⟨t, e, h⟩ r => .cons ⟨t, e, s _ _ h⟩ (TupsIn.same s r)
theorem TupsIn.upd {H : Hp} {p : Addr} {o : HO} {zs : List V} (hp : H p = some (.lst zs)) : ∀ {xs : List V} {rs : List (List V)}, TupsIn H xs rs → TupsIn (L2.upd H p o) xs rs
  | _, _, .nil => .nil
  | _, _, .cons ⟨t, e, h⟩ r => .cons ⟨t, e, by rw [upd_ne (fun z => by rw [z, hp] at h; cases h)]; exact h⟩ (TupsIn.upd hp r)
theorem paired_snoc {α β : Type} {F : α → β → Prop} {x : α} {y : β} : ∀ {xs : List α} {ys : List β}, Paired F xs ys → F x y → Paired F (xs ++ [x]) (ys ++ [y])
  | _, _, .nil, f => .cons f .nil
  | _, _, .cons a r, f => .cons a (paired_snoc r f)
theorem paired_set {α β : Type} {F : α → β → Prop} {x : α} {y : β} : ∀ {xs : List α} {ys : List β} (j : Nat), Paired F xs ys → F x y → Paired F (xs.set j x) (ys.set j y)
  | _, _, _, .nil, _ => .nil
  | _, _, 0, .cons _ r, f => .cons f r
  | _, _, j + 1, .cons a r, f => .cons a (paired_set j r f)
theorem TupsIn.app {H H1 : Hp} {l t : Addr} {xs r : List V} {rs : List (List V)} (hl : H l = some (.lst xs)) (ht : TupsIn H xs rs) (s : Same H H1) (nt : H t = none) (et : H1 t = some (.tup r)) :
    TupsIn (L2.upd H1 l (.lst (xs ++ [.ref t]))) (xs ++ [.ref t]) (rs ++ [r]) :=
  paired_snoc (TupsIn.upd (s _ _ hl) (ht.same s)) ⟨t, rfl, by rw [upd_ne (ne_of_none hl nt).symm]; exact et⟩
theorem TupsIn.put {H H1 : Hp} {l t : Addr} {xs r : List V} {rs : List (List V)} (j : Nat) (hl : H l = some (.lst xs)) (ht : TupsIn H xs rs) (s : Same H H1) (nt : H t = none) (et : H1 t = some (.tup r)) :
    TupsIn (L2.upd H1 l (.lst (xs.set j (.ref t)))) (xs.set j (.ref t)) (rs.set j r) :=
  paired_set j (TupsIn.upd (s _ _ hl) (ht.same s)) ⟨t, rfl, by rw [upd_ne (ne_of_none hl nt).symm]; exact et⟩
theorem take_more {α : Type} {xs : List α} {i : Nat} {x : α} (h : xs[i]? = some x) : xs.take (i + 1) = xs.take i ++ [x] := by
  rw [List.take_succ, h]; rfl
theorem pget {α β : Type} {F : α → β → Prop} : ∀ {xs : List α} {ys : List β} {i : Nat} {x : α}, Paired F xs ys → xs[i]? = some x → ∃ y, ys[i]? = some y ∧ F x y
  | _, _, _, _, .nil, e => by simp at e
  | _, _, 0, _, .cons f _, e => by simp at e; subst e; exact ⟨_, rfl, f⟩
  | _, _, i + 1, x, .cons _ r, e => by
    obtain ⟨y, h1, h2⟩ := pget (i := i) r (by simpa using e)
    exact ⟨y, by simpa using h1, h2⟩
theorem pget' {α β : Type} {F : α → β → Prop} : ∀ {xs : List α} {ys : List β} {i : Nat} {y : β}, Paired F xs ys → ys[i]? = some y → ∃ x, xs[i]? = some x ∧ F x y
  | _, _, _, _, .nil, e => by simp at e
  | _, _, 0, _, .cons f _, e => by simp at e; subst e; exact ⟨_, rfl, f⟩
  | _, _, i + 1, x, .cons _ r, e => by
    obtain ⟨y, h1, h2⟩ := pget' (i := i) r (by simpa using e)
    exact ⟨y, by simpa using h1, h2⟩
theorem s_isN {H : Hp} {Q : VK} (h : Q (.bl true) H) : L2.rIsN .non .non H Q := ⟨rfl, by rw [decide_eq_true rfl]; exact h⟩
theorem s_isNi {H : Hp} {Q : VK} {i : Int} (h : Q (.bl false) H) : L2.rIsN (.int i) .non H Q := ⟨rfl, by rw [decide_eq_false (by intro z; cases z)]; exact h⟩
def RgQ (Q : VK) (x y : V) (H : Hp) : Prop := ∃ i j, x = .int i ∧ y = .int j ∧ RgOk i j ∧ ∀ q, H q = none → Q (.ref q) (upd H q (.lst (rgV i j)))
theorem s_bm0 {K : PySem.W.Frag} {T : String} {r : V → List V → Hp → VK → Prop} {ta : TE} {σ : L2.St} {H : Hp} {Q : VK} (h : ta σ H fun x H1 => tyV K T x H1 ∧ r x [] H1 Q) : tBM0 K T r ta σ H Q := h
theorem s_lrg2 {ta tb : TE} {σ : L2.St} {H : Hp} {Q : VK} (h : ta σ H fun x H1 => tb σ H1 fun y H2 => RgQ Q x y H2) : tLstRg (tRg2 ta tb) σ H Q := h
theorem s_lc {wi : TI} {g : TG} {tt : TT} {te : TE} {vs : List Nat} {σ : L2.St} {H : Hp} {Q : VK} (h : wi σ H fun J H1 => tLc (fun _ _ R => R J H1) g tt te vs σ H1 Q) : tLc wi g tt te vs σ H Q := h
theorem call_isiK (K : PySem.W.Frag) {X : Cx} (h : X.K = K) : CallR X (.builtin "isinstance") (rIsi K) := h ▸ call_isi
theorem ix_seqK (K : PySem.W.Frag) {X : Cx} (h : X.K = K) : IxR X (rIx K) := h ▸ ix_seq
theorem s_isNb {H : Hp} {Q : VK} {i : Bool} (h : Q (.bl false) H) : L2.rIsN (.bl i) .non H Q := ⟨rfl, by rw [decide_eq_false (by intro z; cases z)]; exact h⟩
theorem s_isNr {H : Hp} {Q : VK} {i : Addr} (h : Q (.bl false) H) : L2.rIsN (.ref i) .non H Q := ⟨rfl, by rw [decide_eq_false (by intro z; cases z)]; exact h⟩
theorem s_notN {H : Hp} {Q : VK} (h : Q (.bl false) H) : L2.rNotN .non .non H Q := ⟨rfl, by rw [decide_eq_true rfl]; exact h⟩
theorem s_notNi {H : Hp} {Q : VK} {i : Int} (h : Q (.bl true) H) : L2.rNotN (.int i) .non H Q := ⟨rfl, by rw [decide_eq_false (by intro z; cases z)]; exact h⟩
theorem s_notNr {H : Hp} {Q : VK} {i : Addr} (h : Q (.bl true) H) : L2.rNotN (.ref i) .non H Q := ⟨rfl, by rw [decide_eq_false (by intro z; cases z)]; exact h⟩
theorem fn_or {P : Program} {w : World} {K : PySem.W.Frag} {mg : Str → Option Value} {base : Heap} {CX : CXT} {k : Nat} {f : Addr} {fd : FuncData} {ps : List Str} {sp sp1 sp2 : Sp} (F1 : FnOk P w K mg base CX k f fd ps sp1) (F2 : FnOk P w K mg base CX k f fd ps sp2)
    (h : ∀ vs H Q E, sp vs H Q E → sp1 vs H Q E ∨ sp2 vs H Q E) : FnOk P w K mg base CX k f fd ps sp :=
  ⟨fun vs H Q E q => (h vs H Q E q).elim (F1.len vs H Q E) (F2.len vs H Q E), fun A outer s H args us vs Q E hr he hb hv hs => (h vs H Q E hs).elim (F1.run A outer s H args us vs Q E hr he hb hv) (F2.run A outer s H args us vs Q E hr he hb hv)⟩
/-! loops -/
section
variable {c : TT} {tb : TS} {D : Ends} {σ : L2.St} {H : Hp}
/-- the int in a slot -/
def iv (σ : L2.St) (i : Nat) : Int := match σ[i]? with
  | some (some (V.int r)) => r
  | _ => 0
def WW (Pv : L2.St → Hp → Prop) (μ : L2.St → Hp → Nat) : Nat → L2.St → Hp → Prop := fun m σ H => m = μ σ H ∧ Pv σ H
theorem s_while (Pv : L2.St → Hp → Prop) (μ : L2.St → Hp → Nat) (h0 : Pv σ H)
    (hs : ∀ σ H, Pv σ H → c σ H fun b H1 => if b = true then ∃ N : L2.St → Hp → Prop, (∀ σ' H', N σ' H' → ∃ m', m' < μ σ H ∧ WW Pv μ m' σ' H') ∧ tb { D with nx := N, ct := N, bk := D.nx } σ H1 else D.nx σ H1) : tWhile c tb D σ H :=
  ⟨WW Pv μ, ⟨_, rfl, h0⟩, fun m σ H ⟨e, p⟩ => by subst e; exact hs σ H p⟩
theorem s_turn {Pv : L2.St → Hp → Prop} {μ : L2.St → Hp → Nat} {m : Nat} (h : tb { D with nx := fun σ' H' => Pv σ' H' ∧ μ σ' H' < m, ct := fun σ' H' => Pv σ' H' ∧ μ σ' H' < m, bk := D.nx } σ H) :
    ∃ N : L2.St → Hp → Prop, (∀ σ' H', N σ' H' → ∃ m', m' < m ∧ WW Pv μ m' σ' H') ∧ tb { D with nx := N, ct := N, bk := D.nx } σ H := ⟨_, fun σ' H' p => ⟨_, p.2, rfl, p.1⟩, h⟩
end
/-! numbers -/
def CDivF (_ j : Int) : Prop := j ≠ 0 ∧ j.natAbs.log2 < 9000
section
variable {X : Cx}
theorem op_divF : OpR X (binaryOp .FloorDiv) (rI CDivF fun i j => .int (i.fdiv j)) := opI fun _ _ _ _ _ _ _ hc q => floordiv_int hc.1 q (.inl (PyProof.noPylong_of_log2 hc.2))
end
theorem divW {a j : Int} (h : 0 < j) (h2 : j.natAbs < 2 ^ 2000) : CDivW a j := wide_div h h2 (by decide) (by decide)
theorem divF {a j : Int} (h : j ≠ 0) (h2 : j.natAbs < 2 ^ 2000) : CDivF a j := ⟨h, Nat.lt_of_lt_of_le (PySem.Flt.log2_lt_of (by decide) h2) (by decide)⟩
theorem mulW {a b : Int} (h1 : a.natAbs < 2 ^ 2000) (h2 : b.natAbs < 2 ^ 2000) : CMulW a b := wide_mul h1 h2 (by decide) (by decide) (by decide)
/-- a law over a head by facts: its last step, the script's sizes told -/
theorem walk_ofEB {l : PySem.W.OpenLaw} {n k : Nat} {qv : Program} {ls : List Str} {XP : (Str → Option Value) → Heap → Prop} {YP : World → Heap → Prop} {dr : DefRec} {CX : World → CXT} {prm : Str}
    (hmost : l.most = some n) (hline : n ≤ sizeLine) (hnod : dr.params.defaults = []) (room : Room k callerA)
    (F : ∀ (w : World) (mg : Str → Option Value) (fa : Addr) (hp : Heap), YP w hp → hp.Ns mainGlobals mg → mg dr.name = some (.ref fa) →
      ∃ (Kf : PySem.W.Frag) (fdt : FuncData) (sp : Sp), Kf.In hp ∧ (∀ (s : Shared) (u : Value), BindsTo s fdt ⟨[u], []⟩ [(prm, u)]) ∧
        (∀ (H : Hp) (a : Addr) (ns : List Int), ns.length ≤ n → (∀ z ∈ ns, Builtin.Int.intBits z ≤ 1048576) → Only H → SqL Kf H a (ns.map V.int) → sp [.ref a] H (fun v _ => v = .bl true) fun _ _ _ => False) ∧
        ∀ base : Heap, Kf.In base → base.Ns mainGlobals mg → FnOk l.prog w Kf mg base (CX w) k fa fdt [prm] sp)
    (none_out : ∀ (w : World) (H : Hp) (s : Shared) (e : Value) (s' : Shared), CX w [] H s (fun _ _ _ => False) e s' → False) :
    PySem.W.WalkO qv ls XP YP l.row.toRowW dr [] (fun f vs => PySem.call f vs) := by
  refine Att.attach_callB hmost hnod fun w s₀ s₁ mg _ fa _ _ _ _ a _ ns G Y _ _ _ gN ob1 xis len bits run => ?_
  obtain ⟨Kf, fdt, sp, kin, bnd, last, fok⟩ := F w mg fa _ Y G.T.g gN
  exact law_call kin G.T.g G.T.b G.T.builtins G.T.nolimit run ob1 xis (Nat.le_trans len hline) room fok bnd (fun H only sq => last H a ns len bits only sq) fun H e s' => none_out w H s₁ e s'
theorem cx0_no {P : Program} (w : World) (H : Hp) (s : Shared) (e : Value) (s' : Shared) (h : CX0 [] H s (fun _ _ _ => False) e s') : False := h
/-! what the head tells: facts as tests of the written part, defs at any address -/
abbrev FB := PySem.W.Frag → Bool
def toldR (fb : List FB) (fn : List He5.DefA) (K : PySem.W.Frag) : He.AlD := ((fb.all fun t => t K) && (fn.all fun e => e.ok K), fn.map fun e => He5.fnA K (e.at_ K))
def dueR (fn : List He5.DefA) : He.AlD := (true, fn.map He5.DefA.val)
def Told (fb : List FB) (fn : List He5.DefA) (K : PySem.W.Frag) : Prop := toldR fb fn K = dueR fn
def toldG (n : Nat) (fb : List FB) (fn : List He5.DefA) (g : Addr → Option Obj) : He.AlD := toldR fb fn (He.frG g (He5.asA g n))
def hookR (n : Nat) (fb : List FB) (fn : List He5.DefA) : PySem.W.Hook where
  α := He.AlD
  obs := fun st => toldG n fb fn st.heap.get?
  val := fun _ => dueR fn
  says := fun _ hp => ∃ Kf : PySem.W.Frag, Kf.In hp ∧ Told fb fn Kf
  of := fun _ _ eq => ⟨_, He.frG_in, eq⟩
  keeps := fun _ _ _ ⟨Kf, hin, tl⟩ kp => ⟨Kf, PySem.W.Frag.In.keeps hin kp, tl⟩
theorem toldG_eq {n : Nat} {fb : List FB} {fn : List He5.DefA} {g : Addr → Option Obj} {st : Shared} (h : ∀ a, g a = st.heap.get? a) : toldG n fb fn g = (hookR n fb fn).obs st := by
  have eg : g = st.heap.get? := funext h
  rw [eg] <;> rfl
theorem Told.fact {fb : List FB} {fn : List He5.DefA} {K : PySem.W.Frag} (tl : Told fb fn K) (i : Nat) {t : FB} (h : fb[i]? = some t := by rfl) : t K = true := by
  have e0 : ((fb.all fun t => t K) && (fn.all fun e => e.ok K)) = true := congrArg Prod.fst tl
  exact List.all_eq_true.mp (Bool.and_eq_true_iff.mp e0).1 t (List.mem_of_getElem? h)
theorem Told.dfn {fb : List FB} {fn : List He5.DefA} {K : PySem.W.Frag} (tl : Told fb fn K) (i : Nat) {e : He5.DefA} (h : fn[i]? = some e := by rfl) : ∃ fd, FunD K e.name e.qual e.params e.body e.scope (e.dvs K) (e.kws K) (e.at_ K) fd := by
  have e0 : ((fb.all fun t => t K) && (fn.all fun e => e.ok K)) = true := congrArg Prod.fst tl
  have e1 : fn.map (fun e => He5.fnA K (e.at_ K)) = fn.map He5.DefA.val := congrArg Prod.snd tl
  have e2 := congrArg (fun l => l[i]?) e1
  simp only [List.getElem?_map, h, Option.map_some] at e2
  exact He5.DefA.funD (Option.some.inj e2) (List.all_eq_true.mp (Bool.and_eq_true_iff.mp e0).2 e (List.mem_of_getElem? h))
/-! own exception classes whose __init__ calls their base's and keeps one field -/
def oexB (C : Addr) : FB := fun K => (match K.lookup C with
  | some ⟨.type tn, _, .cls cd, sl⟩ => (match cd.mro, sl.toList with
    | .ref C' :: bm, [_, _, _, _, some (.builtin n), _] => decide (tn = "type") && (C' == C && (decide (n = "ValueError.__new__") && (!cd.hasDel && (cd.hasDict && PySem.HandSPX.refsVE bm))))
    | _, _ => false)
  | _ => false) && (decide (PySem.W.findIn K (.ref C) "__setattr__" = some (some (.builtin "object.__setattr__"))) && (decide (PySem.W.subIn K (.ref C) (.type "BaseException") = some true) && (decide (PySem.W.typeIn K (.ref C) = some (.type "type")) && PySem.W.keepIn K (.ref C))))
theorem oex_of {K : PySem.W.Frag} {C : Addr} (h : oexB C K = true) : OexC K C := by
  unfold oexB at h
  simp only [Bool.and_eq_true, decide_eq_true_eq] at h
  obtain ⟨h1, h2, h3, h4, h5⟩ := h
  refine ⟨?_, h2, h3, h4, h5⟩
  split at h1
  · rename_i tn dd cd sl ho
    split at h1
    · rename_i C' bm k0 k1 k2 k3 n k5 hm hs
      simp only [Bool.and_eq_true, beq_iff_eq, Bool.not_eq_true', decide_eq_true_eq] at h1
      obtain ⟨rfl, rfl, rfl, hdel, hdct, hr⟩ := h1
      obtain ⟨nm, bs, mro, ns, qn, hd, sn, sub, ab, col, del⟩ := cd
      dsimp only at hm hdel hdct
      subst hm hdel hdct
      have hsl : sl = #[k0, k1, k2, k3, some (.builtin "ValueError.__new__"), k5] := by
        obtain ⟨l⟩ := sl
        simp only at hs
        rw [hs]
      subst hsl
      exact ⟨nm, qn, ns, bs, bm, sn, sub, ab, col, dd, k0, k1, k2, k3, k5, ho, hr⟩
    · cases h1
  · cases h1
/-- the base P, whose __init__ is called through it -/
def baseB (C : Addr) : FB := fun K => PySem.W.readsIn K C (.type "type") && (decide (PySem.W.specialIn K (.ref C) "__getattribute__" = some (some (.builtin "type.__getattribute__"))) && (match PySem.W.findCls K (.ref C) (.type "type") "__init__" with
  | some (.val (.builtin n)) => decide (n = "ValueError.__init__")
  | _ => false))
structure BaseC (K : PySem.W.Frag) (C : Addr) : Prop where
  rd : PySem.W.readsIn K C (.type "type") = true
  ga : PySem.W.specialIn K (.ref C) "__getattribute__" = some (some (.builtin "type.__getattribute__"))
  at_ : PySem.W.findCls K (.ref C) (.type "type") "__init__" = some (.val (.builtin "ValueError.__init__"))
theorem base_of {K : PySem.W.Frag} {C : Addr} (h : baseB C K = true) : BaseC K C := by
  unfold baseB at h
  simp only [Bool.and_eq_true, decide_eq_true_eq] at h
  obtain ⟨h1, h2, h3⟩ := h
  refine ⟨h1, h2, ?_⟩
  split at h3
  · rename_i n e
    rw [e, of_decide_eq_true h3]
  · cases h3
section
variable {X : Cx} {e : Expr} {es : List Expr} {ta : TA} {p1 p2 pos : Pos}
/-- P.__init__(self, ..) -/
theorem pe_cinit {x : Str} {C : Addr} {pl : Sem Bool} (hg : Gl X x) (hm : X.mg x = some (.ref C)) (r : BaseC X.K C) (ha : PA X (e :: es) ta) (hdb : (x == ("__debug__" : Str)) = false := by decide)
    (hc : eval (.Call (.Attribute (.Name x p1) "__init__" p2) (e :: es) [] pos) X.env = (do
      let ov ← eval (.Name x p1) X.env
      standAt p2.atName
      let (f, fst) ← holding [ov] (getMethod ov "__init__" pl)
      callWith pos f fst (backTo pos (starEach (e :: es) X.env)) (backToKw pos (keywordEach [] X.env))) := by rfl)
    (he : starEach (e :: es) X.env = (false, eval e X.env) :: starEach es X.env := by rfl) (hpl : (backTo pos (starEach es X.env)).any (·.1) = false := by rfl) :
    PE X (.Call (.Attribute (.Name x p1) "__init__" p2) (e :: es) [] pos) (tVeI X.K ta) := by
  refine ⟨fun pins s σ H Q I h => ?_⟩
  refine PySem.W.methodCall_KW (ld_glob I hg hm ?_ hdb) hc
  refine PySem.W.method_cls I.kIn r.ga (PySem.W.cls_value I.kIn r.rd r.at_ (by decide +kernel) ?_)
  show wpAny _ _ (callWith pos (Value.builtin "ValueError.__init__") [] (backTo pos (starEach (e :: es) X.env)) []) _ _ _
  refine PyProof.Rows.callWith_method1 (thn (ha.run pos pins _ σ H _ (I.tok _) h) fun us s1 ⟨vs, H1, I1, r1, a, C, ws, ev, hl, T, ea, q⟩ => ?_) he hpl
  subst ev
  cases r1 with
  | @cons _ u0 _ ur ra rw' =>
    obtain rfl : u0 = Value.ref a := ra
    have hlen : ur.length ≤ sizeLine := by rw [← Paired.length rw']; exact len_le hl
    exact oinit_ok T I1 ea hlen fun s' J => ⟨.non, H1, J, rfl, q⟩
end
/-! isinstance of a caught own error, with or without a dict of its own -/
structure IsX (K : PySem.W.Frag) (D : Addr) : Prop where
  ga : PySem.W.findIn K (.ref D) "__getattribute__" = some (some (.builtin "BaseException.__getattribute__"))
  gg : PySem.W.findIn K (.ref D) "__getattr__" = some none
  sub : PySem.W.subIn K (.ref D) (.type "BaseException") = some true
  dct : PySem.W.hasDictIn K D = true
  cl : PySem.W.findIn K (.ref D) "__class__" = some (some (.builtin "object.__class__"))
  gt : PySem.W.specialIn K (.builtin "object.__class__") "__get__" = some (some (.builtin "getset_descriptor.__get__"))
  tk : PySem.W.takesIn K (.builtin "object.__class__") = some true
  mro : PySem.W.mroIn K D (.type "object") = some true
def isxB (x : Str) : FB := fun K => decide (PySem.W.findIn K (.ref (He.ga K x)) "__getattribute__" = some (some (.builtin "BaseException.__getattribute__"))) && (decide (PySem.W.findIn K (.ref (He.ga K x)) "__getattr__" = some none) &&
  (decide (PySem.W.subIn K (.ref (He.ga K x)) (.type "BaseException") = some true) && (PySem.W.hasDictIn K (He.ga K x) && (decide (PySem.W.findIn K (.ref (He.ga K x)) "__class__" = some (some (.builtin "object.__class__"))) &&
  (decide (PySem.W.specialIn K (.builtin "object.__class__") "__get__" = some (some (.builtin "getset_descriptor.__get__"))) && (decide (PySem.W.takesIn K (.builtin "object.__class__") = some true) && decide (PySem.W.mroIn K (He.ga K x) (.type "object") = some true)))))))
theorem isx_of {K : PySem.W.Frag} {x : Str} (h : isxB x K = true) : IsX K (He.ga K x) := by
  unfold isxB at h
  simp only [Bool.and_eq_true, decide_eq_true_eq] at h
  obtain ⟨h1, h2, h3, h4, h5, h6, h7, h8⟩ := h
  exact ⟨h1, h2, h3, h4, h5, h6, h7, h8⟩
end R
namespace PySem.W
open PySem PySem.Spec PySem.Calls PyProof.Rows
section
variable {prog : Program} {w : World} {A : Around} {E : Value → Shared → Prop} {s : Shared} {K : Frag} {x D : Addr} {ox : Obj} {od : Option Obj}
theorem r_findcls (T : R.IsX K D) : findObj K D od "__class__" = some (.bind (.builtin "getset_descriptor.__get__") (.builtin "object.__class__")) := by
  obtain ⟨cd, e1, _⟩ := any_some T.dct
  unfold findObj
  simp [e1, T.cl, T.gt, T.tk]
theorem r_readcls {Q : Option Value → Shared → Prop} (T : R.IsX K D) (X : K.In s.heap) (I : InstAt s.heap x ox D od) (h : Q (some (.ref D)) { s with toks := s.toks + 1 }) : wpAny (model prog w) A (getAttr? (.ref x) "__class__") Q E s := by
  obtain ⟨hp, gn, dr, tk, os⟩ := s
  have l0 := I.type (M := model prog w)
  have l1 := looks_findIn (M := model prog w) X T.ga
  have l2 := looks_findIn (M := model prog w) X T.gg
  have l3 := looks_find (M := model prog w) X I (r_findcls (od := od) T)
  have lsub : Looks (model prog w) hp (isInstance (.ref x) (.type "BaseException")) true := l0.andThen (looks_subIn X T.sub)
  have n1 : (Value.builtin "BaseException.__getattribute__" == Value.builtin "object.__getattribute__") = false := by decide +kernel
  have n2 : (onTheHeap (Value.ref D) && Value.builtin "BaseException.__getattribute__" == Value.builtin "object.__getattribute__") = false := by rw [n1]; rfl
  have n3 : (false && onTheHeap (Value.builtin "BaseException.__getattribute__")) = false := rfl
  unfold getAttr? getAttrBy? getAttrBy
  refine wpAny_bind (wpAny_mkText (wpAny_bind (wpAny_attempt (wpAny_holding (wpAny_bind (l0.at (wpAny_bind (l1.at ?_))))))))
  show wpAny _ _ (if (onTheHeap (Value.ref D) && Value.builtin "BaseException.__getattribute__" == Value.builtin "object.__getattribute__") = true then _ else _) _ _ _
  rw [n2, if_neg Bool.false_ne_true]
  unfold getAttrByItsOwn hookBefore
  refine wpAny_bind ?_
  rw [if_pos (show onTheHeap (Value.ref D) = true from rfl)]
  refine l2.at ?_
  refine wpAny_bind (wpAny_attempt (wpAny_holding ?_))
  unfold callGetattribute
  rw [n3, if_neg Bool.false_ne_true]
  unfold boundAndCalled
  rw [PySem.F.excAttr_ValueError.ga.bind (.ref x)]
  refine wpAny_bind (wpAny_pure ?_)
  show wpAny _ _ (call (.builtin "BaseException.__getattribute__") [.ref x, .str "__class__" tk]) _ _ _
  refine wpAny_call (codeAny_call_builtin PySem.F.excAttr_ValueError.ga.plain PySem.F.entry_bexc_ga ?_)
  refine @check_slot (model prog w) _ _ ⟨hp, gn, dr, tk + 1, os⟩ "BaseException.__getattribute__" "BaseException" "__getattribute__" (.ref x) [.str "__class__" tk] [] _ (by decide +kernel) (by decide +kernel) lsub (PySem.F.args_bexc_ga (.ref x) (.str "__class__" tk)) ?_
  unfold Builtin.«object.__getattribute__»
  refine wpAny_bind (wpAny_of_eq (a := ((Value.ref x : Value), [Value.str "__class__" tk])) (by first | rfl | (simp only [slotArgs]; rfl)) ?_)
  refine wpAny_bind (wpAny_pure (wpAny_bind (l0.at (wpAny_bind (l3.at ?_)))))
  show wpAny _ _ (holding [Value.builtin "object.__class__"] (call (.builtin "getset_descriptor.__get__") [.builtin "object.__class__", .ref x, .ref D]) >>= ret) _ _ _
  refine wpAny_bind (wpAny_holding (wpAny_call (class_get (s := ⟨hp, gn, dr, tk + 1, os⟩) (ox := ox) (od := od) X I T.mro ?_)))
  refine wpAny_pure ?_
  show wpAny _ _ (handedOut (.ref D)) _ _ _
  rw [handedOut_of (v := .ref D) rfl]
  first
    | exact wpAny_pure (wpAny_pure h)
    | exact wpAny_pure h
    | exact wpAny_pure (wpAny_bind (wpAny_pure (wpAny_pure h)))
theorem r_kit (T : R.IsX K D) : KitX K (.ref x) (.ref D) (fun hp => InstAt hp x ox D od) where
  ty := fun _ _ _ I => I.type
  it := fun _ _ X _ => by
    obtain ⟨cd, e1, _⟩ := any_some T.dct
    unfold clsIn at e1
    split at e1
    · rename_i _ _ _ _ at_
      intro A' Q' E' s' k q
      unfold isType loadHead
      exact wpAny_bind (wpAny_loadPart (k _ _ (X _ _ at_)) (wpAny_pure q))
    · cases e1
  ne := fun hp tp dd its n sl X at_tp => by
    obtain ⟨cd, e1, _⟩ := any_some T.dct
    refine Bool.eq_false_iff.mpr fun q => ?_
    obtain rfl : D = tp := Value.ref.inj (beq_iff_eq.mp q)
    unfold clsIn at e1
    split at e1
    · rename_i _ _ _ _ at_
      exact nomatch (X _ _ at_).symm.trans at_tp
    · cases e1
  ca := fun X I k => r_readcls T X I k
end
end PySem.W
namespace R
open PySem PySem.Spec PyProof.Rows L2
theorem callIsX {X : Cx} {a D : Addr} {oe : Obj} {d : Option Addr} {pn : List (Addr × Obj)} (T : IsX X.K D) (hz : Zc (.ref D) d oe) (hf : ∃ vs, oe.data = .fields vs) :
    CallR (X.suite a ((a, oe) :: pn)) (.builtin "isinstance") (fun xs H Q => ∃ fs, (∀ dd, d = some dd → H dd = some (.xd fs)) ∧ rIsE X.K D a xs H Q) := by
  intro pins s σ H xs us Q I r h
  obtain ⟨fs, hdd, c, cv, b, rfl, hcv, e, q⟩ := h
  cases r with
  | cons rx rr =>
    cases rr with
    | cons rt rr =>
      cases rr
      cases rx
      have ec := hcv _ rt
      subst ec
      obtain ⟨hget, _⟩ := I.pin (a, oe) (List.mem_append.mpr (.inl List.mem_cons_self))
      obtain ⟨vs, hv⟩ := hf
      have J : ∃ od, PySem.W.InstAt s.heap a oe D od := by
        obtain ⟨oc, dd, oda, osl⟩ := oe
        obtain ⟨h1, h2⟩ := hz
        dsimp only at h1 h2 hv
        subst h1 h2 hv
        cases dd with
        | none => exact ⟨none, hget, rfl, rfl, trivial⟩
        | some dx =>
          obtain ⟨mA, hns, _⟩ : ObjOk X.prog X.w H s.heap dx (.xd fs) := I.hok dx _ (hdd dx rfl)
          obtain ⟨o, _, _, ho, _⟩ := hns
          exact ⟨some o, hget, rfl, rfl, ho⟩
      obtain ⟨od, J⟩ := J
      exact PySem.W.kia_one (PySem.W.r_kit T) I.kIn J e (fun z => nomatch z) fun tk => ⟨.bl b, H, I.kept (t' := tk) fun _ _ z => z, rfl, q⟩
/-- isinstance(e, C), e the error that the suite holds: what is asked -/
def rIsXd (K : PySem.W.Frag) (D a : Addr) (d : Option Addr) : List V → Hp → VK → Prop := fun xs H Q => ∃ fs, (∀ dd, d = some dd → H dd = some (.xd fs)) ∧ rIsE K D a xs H Q
/-- what such a class is, its __init__ at fI, its field f -/
structure XIn (K : PySem.W.Frag) (C fI : Addr) (f : Str) : Prop where
  oex : OexC K C
  iC : PySem.W.findIn K (.ref C) "__init__" = some (some (.ref fI))
  tI : PySem.W.typeIn K (.ref fI) = some (.type "function")
  noF : PySem.W.findIn K (.ref C) f = some none
  xf : XfC K C
def xinB (x f : Str) : FB := fun K => oexB (He.ga K x) K && (decide (PySem.W.findIn K (.ref (He.ga K x)) "__init__" = some (some (.ref (He.ma K (He.ga K x) "__init__")))) && (decide (PySem.W.typeIn K (.ref (He.ma K (He.ga K x) "__init__")) = some (.type "function")) &&
  (decide (PySem.W.findIn K (.ref (He.ga K x)) f = some none) && xfB K (He.ga K x))))
theorem xin_of {K : PySem.W.Frag} {x f : Str} (h : xinB x f K = true) : XIn K (He.ga K x) (He.ma K (He.ga K x) "__init__") f := by
  unfold xinB at h
  simp only [Bool.and_eq_true, decide_eq_true_eq] at h
  obtain ⟨h1, h2, h3, h4, h5⟩ := h
  exact ⟨oex_of h1, h2, h3, h4, xfB_ok h5⟩
/-- __init__(self, v) of a class at C: the field is kept -/
def sp_init (K : PySem.W.Frag) (C : Addr) (f : Str) : Sp := fun vs H Q _ => ∃ (a : Addr) (v : V), vs = [.ref a, v] ∧ OexC K C ∧ PySem.W.findIn K (.ref C) f = some none ∧ H a = some (exo a C none) ∧
  ∀ dx, H dx = none → dx ≠ a → Q .non (upd (upd H dx (exd dx [(f, v)])) a (exo a C (some dx)))
theorem rd_init {K : PySem.W.Frag} {C : Addr} {f m : Str} {vs : List V} {H : Hp} {Q : VK} {E : XK} (h : sp_init K C f vs H Q E) :
    tSeq (tDrop (tVeI K (tCons (tVar 0) (tCons (tC (.str m)) tNil)))) (tOst K f (tVar 0) (tVar 1)) { nx := fun _ H' => Q .non H', rt := Q } (L2.start ["self", f] vs) H := by
  obtain ⟨a, v, rfl, T, hn, ha, k⟩ := h
  exact ⟨_, rfl, a, C, [.str m], rfl, by simp, T, ha, _, rfl, _, rfl, a, C, rfl, T, hn, .inl ⟨ha, fun dx h1 h2 => k dx h1 h2⟩⟩
section
variable {ta : TA} {σ : L2.St} {H : Hp} {QX : XK}
def RzP (C : Addr) (sp : Sp) (QX : XK) (vs : List V) (H1 : Hp) : Prop := vs.length ≤ 1000 ∧ ∀ a, H1 a = none → sp (.ref a :: (vs ++ [])) (upd H1 a (exo a C none))
  (fun v H2 => v = .non ∧ ∃ (d : Addr) (fs : List (Str × V)), H2 a = some (exo a C (some d)) ∧ H2 d = some (exd d fs) ∧ H1 d = none ∧ QX (.ref C) (some d) (upd (del H2 a) d (.xd fs))) (fun _ _ _ => False)
theorem s_mko {C : Addr} {sp : Sp} (h : ta σ H fun vs H1 => RzP C sp QX vs H1) : tMkO C sp [] ta σ H QX := h
theorem s_raise {K : PySem.W.Frag} {C : Addr} {f : Str} {v : V} (T : OexC K C) (hn : PySem.W.findIn K (.ref C) f = some none) (k : ∀ d H', H d = none → H' d = some (.xd [(f, v)]) → Same H H' → QX (.ref C) (some d) H') : RzP C (sp_init K C f) QX [v] H := by
  refine ⟨by simp, fun a ha => ⟨a, v, rfl, T, hn, upd_same, fun dx hdx hne => ⟨rfl, dx, [(f, v)], upd_same, ?_, ?_, ?_⟩⟩⟩
  · rw [upd_ne hne, upd_same]
  · rw [upd_ne hne] at hdx; exact hdx
  · rw [upd_ne hne] at hdx
    refine k dx _ hdx upd_same fun b o e => ?_
    have n1 : b ≠ dx := ne_of_none e hdx
    have n2 : b ≠ a := ne_of_none e ha
    rw [upd_ne n1, del_ne n2, upd_ne n2, upd_ne n1, upd_ne n2]
    exact e
end
/-! own exceptions without fields; isinstance of a caught error of any own class -/
section
variable {X : Cx} {C : Addr} {bmB : List Value} {B newId initId : String}
/-- X() -/
theorem pmk_own0 {x : Str} {p pos : Pos} (F : ExcBaseFacts B newId initId bmB) (q : PySem.W.excIn X.K C bmB newId = true) (gC : X.mg x = some (.ref C)) (kC : PySem.W.keepIn X.K (.ref C) = true) (r : Raises X (.ref C)) (hg : Gl X x)
    (hdb : (x == ("__debug__" : Str)) = false := by decide) : PMk X (.Call (.Name x p) [] [] pos) (fun _ H Q => Q (.ref C) none H) := by
  intro pins s σ H Q I h
  refine wpAny_Call_Name_kw (ld_glob I hg gC ?_ hdb)
  refine PySem.W.callWith_K0 I.kIn kC ?_
  obtain ⟨bm, N, nm, qn, bs, hdct, sn, sub, ab, col, dd, k0, k1, k2, k3, k5, mN, hC, hN, hni, T⟩ := exc_obj I.kIn q
  refine wpAny_call_exc_subT F T hC hN hni (fun h' e hm => ?_) (Nat.zero_le _)
  exact mk_of I hm r h (I.hok.gone hm.new)
end
def tRz (C : Addr) : L2.St → Hp → XK → Prop := fun _ H Q => Q (.ref C) none H
theorem s_rz {C : Addr} {σ : L2.St} {H : Hp} {Q : XK} (h : Q (.ref C) none H) : tRz C σ H Q := h
/-- a class without fields, raised -/
structure Exc0 (K : PySem.W.Frag) (C : Addr) : Prop where
  ex : PySem.W.excIn K C He.veBase "ValueError.__new__" = true
  kp : PySem.W.keepIn K (.ref C) = true
  sb : PySem.W.subIn K (.ref C) (.type "BaseException") = some true
  ty : PySem.W.typeIn K (.ref C) = some (.type "type")
theorem exc0_of {K : PySem.W.Frag} {x : Str} (c : (He.Fa.exc x).ok K = true) : Exc0 K (He.ga K x) := by
  obtain ⟨h1, h2, h3, h4⟩ := He.exc_ok c
  exact ⟨h1, h2, h3, h4⟩
theorem pmk_z {X : Cx} {C : Addr} {x : Str} {p pos : Pos} (F : Exc0 X.K C) (gC : X.mg x = some (.ref C)) (hg : Gl X x) (hdb : (x == ("__debug__" : Str)) = false := by decide) : PMk X (.Call (.Name x p) [] [] pos) (tRz C) :=
  pmk_own0 PySem.F.excBase_ValueError F.ex gC F.kp (raises_own F.sb F.ty) hg hdb
theorem pmk_zs {X : Cx} {C : Addr} {x m : Str} {j : Nat} {p p2 pos : Pos} (F : Exc0 X.K C) (gC : X.mg x = some (.ref C)) (hg : Gl X x) (hdb : (x == ("__debug__" : Str)) = false := by decide) : PMk X (.Call (.Name x p) [.Constant (.str m) j p2] [] pos) (tRz C) :=
  L2.pmk_own PySem.F.excBase_ValueError F.ex gC F.kp (raises_own F.sb F.ty) hg hdb
def kitcB (x y : Str) (b : Bool) : FB := fun K => decide (PySem.W.kitOne K (.ref (He.ga K x)) (.ref (He.ga K y)) = some b)
def kittB (x : Str) (y : String) (b : Bool) : FB := fun K => decide (PySem.W.kitOne K (.ref (He.ga K x)) (.type y) = some b)
theorem kitc_of {K : PySem.W.Frag} {x y : Str} {b : Bool} (h : kitcB x y b K = true) : PySem.W.kitOne K (.ref (He.ga K x)) (.ref (He.ga K y)) = some b := of_decide_eq_true h
theorem kitt_of {K : PySem.W.Frag} {x : Str} {y : String} {b : Bool} (h : kittB x y b K = true) : PySem.W.kitOne K (.ref (He.ga K x)) (.type y) = some b := of_decide_eq_true h
/-- isinstance(e, c) in an except suite, the class of e told in the reading -/
def rIsA (K : PySem.W.Frag) (cls : Value) (d : Option Addr) (a : Addr) : List V → Hp → VK → Prop := fun xs H Q => ∃ D, cls = .ref D ∧ IsX K D ∧ ∃ fs, (∀ dd, d = some dd → H dd = some (.xd fs)) ∧
  ∃ (c : V) (cv : Value) (b : Bool), xs = [.ref a, c] ∧ ClsV c cv ∧ PySem.W.kitOne K (.ref D) cv = some b ∧ Q (.bl b) H
def rIsAT (K : PySem.W.Frag) (cls : Value) (d : Option Addr) (a : Addr) : List V → Hp → VK → Prop := fun xs H Q => ∃ D, cls = .ref D ∧ IsX K D ∧ ∃ fs, (∀ dd, d = some dd → H dd = some (.xd fs)) ∧
  ∃ (tp : Addr) (cs : List V) (us : List Value) (b : Bool), xs = [.ref a, .ref tp] ∧ H tp = some (.tup cs) ∧ Paired ClsV cs us ∧ PySem.W.kitAny K (.ref D) us = some b ∧ Q (.bl b) H
section
variable {X : Cx} {a : Addr} {cls : Value} {oe : Obj} {d : Option Addr} {pn : List (Addr × Obj)}
theorem inst_of {D : Addr} {pins : List (Addr × Obj)} {σ : L2.St} {H : Hp} {s : Shared} {fs : List (Str × V)} (I : Inv (X.suite a ((a, oe) :: pn)) pins σ H s) (hz : Zc (.ref D) d oe) (hf : ∃ vs, oe.data = .fields vs) (hdd : ∀ dd, d = some dd → H dd = some (.xd fs)) : ∃ od, PySem.W.InstAt s.heap a oe D od := by
  obtain ⟨hget, _⟩ := I.pin (a, oe) (List.mem_append.mpr (.inl List.mem_cons_self))
  obtain ⟨vs, hv⟩ := hf
  obtain ⟨oc, dd, oda, osl⟩ := oe
  obtain ⟨h1, h2⟩ := hz
  dsimp only at h1 h2 hv
  subst h1 h2 hv
  cases dd with
  | none => exact ⟨none, hget, rfl, rfl, trivial⟩
  | some dx =>
    obtain ⟨mA, hns, _⟩ : ObjOk X.prog X.w H s.heap dx (.xd fs) := I.hok dx _ (hdd dx rfl)
    obtain ⟨o, _, _, ho, _⟩ := hns
    exact ⟨some o, hget, rfl, rfl, ho⟩
theorem callIsA (hz : Zc cls d oe) (hf : ∃ vs, oe.data = .fields vs) : CallR (X.suite a ((a, oe) :: pn)) (.builtin "isinstance") (rIsA X.K cls d a) := by
  intro pins s σ H xs us Q I r h
  obtain ⟨D, rfl, T, fs, hdd, c, cv, b, rfl, hcv, e, q⟩ := h
  obtain ⟨u1, u2, rfl, r1, r2⟩ := vals2 r
  cases (show u1 = Value.ref a from r1)
  have ec := hcv.eq r2
  subst ec
  obtain ⟨od, J⟩ := inst_of I hz hf hdd
  exact PySem.W.kia_one (PySem.W.r_kit T) I.kIn J e (fun z => nomatch z) fun tk => ⟨.bl b, H, I.kept (t' := tk) fun _ _ z => z, rfl, q⟩
theorem callIsAT (hz : Zc cls d oe) (hf : ∃ vs, oe.data = .fields vs) : CallR (X.suite a ((a, oe) :: pn)) (.builtin "isinstance") (rIsAT X.K cls d a) := by
  intro pins s σ H xs us Q I r h
  obtain ⟨D, rfl, T, fs, hdd, tp, cs, ws, b, rfl, hT, k, e, q⟩ := h
  obtain ⟨u1, u2, rfl, r1, r2⟩ := vals2 r
  cases (show u1 = Value.ref a from r1)
  cases (show u2 = Value.ref tp from r2)
  obtain ⟨od, J⟩ := inst_of I hz hf hdd
  obtain ⟨_, its, rv, o, h1, h2, n, h3⟩ := (show ObjOk X.prog X.w H s.heap tp (.tup cs) from I.hok tp _ hT)
  have e3 := ClsV.all k rv
  subst e3
  obtain ⟨oc, od', dt, sl⟩ := o
  simp only at h2 h3
  subst h2 h3
  exact PySem.W.kia_tup (PySem.W.r_kit T) I.kIn J h1 e (fun z => nomatch z) fun tk => ⟨.bl b, H, I.kept (t' := tk) fun _ _ z => z, rfl, q⟩
end
section
variable {K : PySem.W.Frag} {a D : Addr} {d : Option Addr} {H : Hp} {Q : VK} {fs : List (Str × V)} {b b1 b2 : Bool}
theorem s_isA {c : V} {cv : Value} (T : IsX K D) (hd : ∀ dd, d = some dd → H dd = some (.xd fs)) (hc : ClsV c cv) (e : PySem.W.kitOne K (.ref D) cv = some b) (h : Q (.bl b) H) : rIsA K (.ref D) d a [.ref a, c] H Q := ⟨D, rfl, T, fs, hd, c, cv, b, rfl, hc, e, h⟩
theorem s_isA0 {c : V} {cv : Value} (T : IsX K D) (hc : ClsV c cv) (e : PySem.W.kitOne K (.ref D) cv = some b) (h : Q (.bl b) H) : rIsA K (.ref D) none a [.ref a, c] H Q := s_isA (fs := []) T (fun _ z => nomatch z) hc e h
theorem s_isAT2 {tp : Addr} {c1 c2 : V} {v1 v2 : Value} (T : IsX K D) (hd : ∀ dd, d = some dd → H dd = some (.xd fs)) (ht : H tp = some (.tup [c1, c2])) (h1 : ClsV c1 v1) (h2 : ClsV c2 v2) (e1 : PySem.W.kitOne K (.ref D) v1 = some b1) (e2 : PySem.W.kitOne K (.ref D) v2 = some b2)
    (h : Q (.bl (b1 || b2)) H) : rIsAT K (.ref D) d a [.ref a, .ref tp] H Q :=
  ⟨D, rfl, T, fs, hd, tp, _, [v1, v2], b1 || b2, rfl, ht, .cons h1 (.cons h2 .nil), kitAny_cons e1 (fun q => kitAny_cons e2 (fun q2 => by rw [q, q2]; exact kitAny_nil) (fun q2 => by rw [q2]; simp)) (fun q => by rw [q]; rfl), h⟩
theorem s_isAT20 {tp : Addr} {c1 c2 : V} {v1 v2 : Value} (T : IsX K D) (ht : H tp = some (.tup [c1, c2])) (h1 : ClsV c1 v1) (h2 : ClsV c2 v2) (e1 : PySem.W.kitOne K (.ref D) v1 = some b1) (e2 : PySem.W.kitOne K (.ref D) v2 = some b2)
    (h : Q (.bl (b1 || b2)) H) : rIsAT K (.ref D) none a [.ref a, .ref tp] H Q := s_isAT2 (fs := []) T (fun _ z => nomatch z) ht h1 h2 e1 e2 h
end
/-! zip of two tuples, walked -/
theorem walk_zipT {K : PySem.W.Frag} {a b : Addr} {xs ys : List V} {n : Nat} (hn : n = min xs.length ys.length) : Walk (RZ.ItzT K a b) n (fun H => SqT K H a xs ∧ SqT K H b ys) (YPair (fun i => xs[i]?) (fun i => ys[i]?)) := by
  subst hn
  refine ⟨fun i _ hi q => ?_, fun _ q => ⟨xs, ys, q.1, q.2, by omega⟩, fun i H v H' _ q y => ?_⟩
  · have h1 : i < xs.length := by omega
    have h2 : i < ys.length := by omega
    exact ⟨xs, ys, xs[i], ys[i], q.1, q.2, by simp [h1], by simp [h2]⟩
  · obtain ⟨T, x, z, h1, h2, h3, h4, h5⟩ := y
    exact ⟨T, x, z, h1, h2, h3, h4 xs q.1, h5 ys q.2⟩
def ZipQ (K : PySem.W.Frag) (R : It → Hp → Prop) (vs : List V) (H1 : Hp) : Prop := ∃ a b xs ys, vs = [.ref a, .ref b] ∧ ((SqL K H1 a xs ∧ SqL K H1 b ys ∧ R (Itz K a b) H1) ∨ (SqT K H1 a xs ∧ SqT K H1 b ys ∧ R (RZ.ItzT K a b) H1))
theorem s_izip {K : PySem.W.Frag} {ta : TA} {σ : L2.St} {H : Hp} {R : It → Hp → Prop} (h : ta σ H fun vs H1 => ZipQ K R vs H1) : RZ.iZipA K ta σ H R := h
theorem s_gunl {K : PySem.W.Frag} {n : Nat} {t : TGs} {p : Addr} {xs : List V} {σ : L2.St} {H : Hp} {QS : L2.St → Hp → Prop} (h1 : SqL K H p xs) (h2 : xs.length = n) (h : t xs σ H QS) : L2.gUnl K n t (.ref p) σ H QS := ⟨p, xs, rfl, h1, h2, h⟩
/-! dicts with tuple keys: pop of a key that is there; fields; makings -/
def rPop1T : V → List V → Hp → VK → Prop := fun x xs H Q => ∃ (a : Addr) (kvs : List (List L2.Key × V)) (k : List L2.Key) (b : Addr) (v : V), x = .ref a ∧ xs = [.ref b] ∧ H a = some (.dT kvs) ∧ H b = some (.tup (k.map kV)) ∧ valV kvs k = some v ∧ Q v (upd H a (.dT (dropK kvs k)))
theorem mt_pop1T {X : Cx} (hu : X.A.units + 1 < cLine) : MtR X "dict.pop" rPop1T := by
  intro pins s σ H x xs v us Q I rx rxs h
  obtain ⟨a, kvs, k, b, v0, rfl, rfl, ha, hb, ev, q⟩ := h
  cases rx
  obtain ⟨u1, rfl, r1⟩ := vals1 rxs
  cases r1
  obtain ⟨z, hd, xs', rel, dd⟩ := dt_of I.hok ha
  have hz : xs'.length ≤ sizeLine := by rw [← Paired.length rel]; exact z
  have r := rel.val k
  rw [ev] at r
  obtain ⟨p, hp, rv⟩ : ∃ p, atKey xs' k = some p ∧ RelV v0 p.2 := by
    cases e : atKey xs' k with
    | none => rw [e] at r; exact r.elim
    | some p => rw [e] at r; exact ⟨p, rfl, r⟩
  refine call_pop_heap (knd := tupleKind (mixKind X.prog X.w)) (k := k) (more := []) (.inl rfl) (PySem.F.args_dict_pop_2 _ _) (tupleKind_room_in1 hu) (key_of I.hok hb) hd dd hp (fun h' dd' hs => ?_) hz
  obtain ⟨o, es, ep, hq, h2, h3, h4, _, h5⟩ := dd'
  have rel' : KT (upd H a (.dT (dropK kvs k))) (dropK kvs k) (withoutH xs' k) := (L2.DX.KT_drop k rel).keeps fun c ys ec => by rw [upd_ne (ne_of ec ha fun z => nomatch z)]; exact ec
  have I2 := d_write (t' := s.toks + (tupleKind (mixKind X.prog X.w)).draws k) (ob := .dT (dropK kvs k)) I (by rw [ha]; exact True.intro) hs ⟨o, hq⟩ (show ObjOk X.prog X.w (upd H a (.dT (dropK kvs k))) h' a (.dT (dropK kvs k)) from ⟨Nat.le_trans (dropK_le kvs k) z, hd, _, rel', o, es, ep, hq, h2, h3, h4, h5⟩)
  exact ⟨v0, _, I2, rv, q⟩
section
variable {K : PySem.W.Frag} {te tv : TE} {ta : TA} {f m : Str} {σ : L2.St} {H : Hp} {Q : VK} {D : Ends} {a C dx : Addr} {fs : List (Str × V)} {v y : V} {sp : Sp} {E : XK}
def FldQ (K : PySem.W.Frag) (f : Str) (Q : VK) (x : V) (H1 : Hp) : Prop := ∃ a C dx fs v, x = .ref a ∧ H1 a = some (.ins C dx fs) ∧ Cls K C ∧ NoAttr K C f ∧ fs.lookup f = some v ∧ Q v H1
theorem s_fld (h : te σ H fun x H1 => FldQ K f Q x H1) : tFld K te f σ H Q := h
theorem mkFld (ha : H a = some (.ins C dx fs)) (c : Cls K C) (n : NoAttr K C f) (l : fs.lookup f = some v) (h : Q v H) : FldQ K f Q (.ref a) H := ⟨a, C, dx, fs, v, rfl, ha, c, n, l, h⟩
def SFldQ (K : PySem.W.Frag) (f : Str) (P : Hp → Prop) (y x : V) (H2 : Hp) : Prop := ∃ a C dx fs, x = .ref a ∧ H2 a = some (.ins C dx fs) ∧ Cls K C ∧ NoAttr K C f ∧ fs.length < 1000 ∧ P (upd H2 a (.ins C dx (putF f y fs)))
theorem s_sfld (h : tv σ H fun y H1 => te σ H1 fun x H2 => SFldQ K f (D.nx σ) y x H2) : sFld K te tv f D σ H := h
theorem mkSFld {P : Hp → Prop} (ha : H a = some (.ins C dx fs)) (c : Cls K C) (n : NoAttr K C f) (l : fs.length < 1000) (h : P (upd H a (.ins C dx (putF f y fs)))) : SFldQ K f P y (.ref a) H := ⟨a, C, dx, fs, rfl, ha, c, n, l, h⟩
def MethQ (C : Addr) (m : Str) (sp : Sp) (E : XK) (ta : TA) (σ : L2.St) (Q : VK) (x : V) (H1 : Hp) : Prop := ∃ a dx fs, x = .ref a ∧ H1 a = some (.ins C dx fs) ∧ fs.lookup m = none ∧ ta σ H1 fun vs H2 => sp (x :: (vs ++ [])) H2 Q E
theorem s_meth (h : te σ H fun x H1 => MethQ C m sp E ta σ Q x H1) : tMeth C m sp [] E te ta σ H Q := h
theorem mkMeth (ha : H a = some (.ins C dx fs)) (l : fs.lookup m = none) (h : ta σ H fun vs H2 => sp (.ref a :: (vs ++ [])) H2 Q E) : MethQ C m sp E ta σ Q (.ref a) H := ⟨a, dx, fs, rfl, ha, l, h⟩
def MakeQ (C : Addr) (sp : Sp) (E : XK) (Q : VK) (vs : List V) (H1 : Hp) : Prop := ∀ x dx, H1 x = none → H1 dx = none → dx ≠ x → sp (.ref x :: (vs ++ [])) (upd (upd H1 dx (.own x)) x (.ins C dx [])) (fun v H2 => v = .non ∧ Q (.ref x) H2) E
theorem s_make (h : ta σ H fun vs H1 => MakeQ C sp E Q vs H1) : tMake C sp [] E ta σ H Q := h
theorem s_dnewT (h : ∀ p H', H p = none → H' p = some (.dT []) → Same H H' → Q (.ref p) H') : tDNewT σ H Q := fun p hp => h p _ hp upd_same (same_upd hp)
theorem s_lenD {kvs : List (L2.Key × V)} (hd : H a = some (.dK kvs)) (h : Q (.int kvs.length) H) : ∃ a' kvs', [V.ref a] = [V.ref a'] ∧ H a' = some (.dK kvs') ∧ Q (.int kvs'.length) H := ⟨a, kvs, rfl, hd, h⟩
def DInQ (Q : VK) (y x : V) (H2 : Hp) : Prop := ∃ a o, x = .ref a ∧ DGet H2 a y o ∧ Q (.bl o.isSome) H2
theorem s_din {ty td : TE} (h : ty σ H fun y H1 => td σ H1 fun x H2 => DInQ Q y x H2) : tDIn ty td σ H Q := h
def DNotInQ (Q : VK) (y x : V) (H2 : Hp) : Prop := ∃ a o, x = .ref a ∧ DGet H2 a y o ∧ Q (.bl (!o.isSome)) H2
theorem s_dnotin {ty td : TE} (h : ty σ H fun y H1 => td σ H1 fun x H2 => DNotInQ Q y x H2) : tDNotIn ty td σ H Q := h
end
end R
/-! the walk of a reading, as far as nothing is asked -/
local macro_rules | `(tactic| walk_at "g1") => `(tactic| first
  | with_reducible refine R.s_seq ?_
  | with_reducible refine R.s_asg ?_
  | ((with_reducible apply R.s_var); focus rfl)
  | with_reducible refine R.s_gname ?_
  | with_reducible refine R.s_op ?_
  | with_reducible refine R.s_c ?_
  | with_reducible refine R.s_cons ?_
  | with_reducible refine R.s_nil ?_
  | with_reducible refine R.s_i0 ?_
  | with_reducible refine R.s_p10_60 ?_
  | with_reducible refine R.s_p10_18 ?_
  | with_reducible refine R.s_p10_8 ?_
  | with_reducible refine R.s_p10_9 ?_
  | with_reducible refine R.s_p10_59 ?_
  | with_reducible refine R.s_p10_6 ?_
  | with_reducible refine R.s_p10_5 ?_
  | with_reducible refine R.s_p10_4 ?_
  | with_reducible refine R.s_p10_12 ?_
  | with_reducible refine R.s_p10_29 ?_
  | with_reducible refine R.s_p10_30 ?_
  | with_reducible refine R.s_p10_39 ?_
  | with_reducible refine R.s_p10_40 ?_
  | with_reducible refine R.s_p10_49 ?_
  | with_reducible refine R.s_p10_50 ?_
  | with_reducible refine R.s_p10_51 ?_
  | with_reducible refine R.s_p10_58 ?_
  | ((with_reducible refine R.s_pow7 ?_ ?_); focus omega)
  | ((with_reducible refine R.s_i ?_ ?_); focus (first | decide | exact R.mulW (by omega) (by omega) | exact R.divW (by decide) (by decide)))
  | with_reducible refine R.s_test ?_
  | with_reducible refine R.s_bl ?_
  | with_reducible refine R.s_ret ?_
  | with_reducible refine R.s_next ?_
  | with_reducible refine R.s_drop ?_
  | with_reducible refine R.s_un ?_
  | with_reducible refine R.s_u ?_
  | with_reducible refine R.s_tB ?_
  | with_reducible refine R.s_andc ?_
  | with_reducible refine R.s_orc ?_
  | with_reducible refine R.s_notc ?_
  | with_reducible refine R.s_andv ?_
  | with_reducible refine R.s_orv ?_
  | with_reducible refine R.s_notv ?_
  | with_reducible refine R.s_ifx ?_
  | with_reducible refine R.s_eqI ?_
  | with_reducible refine R.s_neI ?_
  | with_reducible refine R.s_eqB ?_
  | with_reducible refine R.s_eqS ?_
  | with_reducible refine R.s_neS ?_
  | with_reducible refine R.s_neB ?_
  | with_reducible refine R.s_tup ?_
  | with_reducible refine R.s_lst ?_
  | with_reducible refine R.s_par ?_
  | with_reducible refine R.s_par_ ?_
  | with_reducible refine R.s_par3 ?_
  | with_reducible refine R.s_par3_ ?_
  | with_reducible refine R.s_cb ?_
  | with_reducible refine R.s_call ?_
  | with_reducible refine R.s_turn ?_
  | with_reducible refine R.s_isi_ii ?_
  | with_reducible refine R.s_isi_ib ?_
  | with_reducible refine R.s_bm ?_
  | with_reducible refine R.s_intB ?_
  | with_reducible refine R.s_rng1 ?_
  | with_reducible refine R.s_rng2 ?_
  | with_reducible refine R.s_dget ?_
  | with_reducible refine R.s_gsub ?_
  | with_reducible refine R.s_pc ?_
  | with_reducible refine R.s_pn ?_
  | with_reducible refine R.s_dput ?_
  | with_reducible refine R.s_isN ?_
  | with_reducible refine R.s_isNi ?_
  | with_reducible refine R.s_isNr ?_
  | with_reducible refine R.s_isNb ?_
  | with_reducible refine R.s_bm0 ?_
  | with_reducible refine R.s_lrg2 ?_
  | with_reducible refine R.s_notN ?_
  | with_reducible refine R.s_notNi ?_
  | with_reducible refine R.s_notNr ?_
  | with_reducible refine R.s_chain ?_
  | with_reducible refine R.s_callS ?_
  | with_reducible refine R.s_mko ?_
  | with_reducible refine R.s_rz ?_
  | with_reducible refine R.s_izip ?_
  | with_reducible refine R.s_sl ?_
  | with_reducible refine R.s_nopart ?_
  | with_reducible refine R.s_part ?_
  | with_reducible refine R.s_int_ ?_
  | with_reducible refine R.s_ilist ?_
  | with_reducible refine R.s_itup ?_
  | with_reducible refine R.s_ref_ ?_
  | with_reducible refine R.s_for ?_
  | with_reducible refine R.s_yes ?_
  | with_reducible refine R.s_gcons ?_
  | with_reducible refine R.s_gnil ?_
  | with_reducible refine R.s_abs ?_
  | with_reducible refine R.s_max ?_
  | with_reducible refine R.s_min ?_
  | with_reducible refine R.s_iteT ?_
  | with_reducible refine R.s_iteF ?_
  | with_reducible refine R.s_iteNT ?_
  | with_reducible refine R.s_iteNF ?_
  | ((with_reducible refine R.s_itnP ?_ ?_); focus (with_reducible rfl))
  | ((with_reducible refine R.s_itP ?_ ?_); focus (with_reducible rfl)))
local macro_rules | `(tactic| walk_at "g") => `(tactic| repeat (first | walk_at "g1" | with_reducible refine R.s_if ?_))
local macro_rules | `(tactic| walk_at "c") => `(tactic| repeat (first
  | with_reducible refine R.s_bl ?_
  | with_reducible refine R.s_test ?_
  | with_reducible refine R.s_iteT ?_
  | with_reducible refine R.s_iteF ?_
  | with_reducible refine R.s_iteNT ?_
  | with_reducible refine R.s_iteNF ?_
  | with_reducible refine R.s_if ?_
  | with_reducible refine R.s_next ?_
  | with_reducible refine R.s_gname ?_
  | with_reducible refine R.s_seq ?_))
local macro_rules | `(tactic| walk_at "h") => `(tactic| repeat (walk_at "g1"))
local macro_rules | `(tactic| walk_at "g2") => `(tactic| first
  | with_reducible refine R.s_fld ?_
  | with_reducible refine R.s_sfld ?_
  | with_reducible refine R.s_meth ?_
  | with_reducible refine R.s_make ?_
  | with_reducible refine R.s_din ?_
  | with_reducible refine R.s_dnotin ?_)
local macro_rules | `(tactic| walk_at "G") => `(tactic| repeat (first | walk_at "g1" | walk_at "g2" | with_reducible refine R.s_if ?_))
local macro_rules | `(tactic| walk_at "J") => `(tactic| repeat (first | walk_at "g1" | walk_at "g2"))

/-! range(j) walked, j of any size: the iterator is a short or a long one -/
namespace RLong
open PySem PySem.Spec PyProof.Rows L2
theorem sing {o b : Addr} (h : b ∈ [o]) : b = o := List.mem_singleton.mp h
theorem turnL {P : Program} {w : World} {K : PySem.W.Frag} {tg : Expr} (o : Addr) (n : Nat) : Turn P w K tg (Itr 0 n) [o] o (fun i h => IsLongIter h o (0 + (i : Nat) * 1) ((n : Int) - (i : Nat)) 1) where
  mem := List.mem_cons_self
  obj := fun i h st b hb => by
    cases sing hb
    exact ⟨_, st, fun v z => nomatch (show Data.fields _ = Data.cell v from z)⟩
  keep := fun i h h' st k => k o List.mem_cons_self _ st
  item := by
    intro X eP ew eK calm i pins s σ H E I hf st lt
    subst eP ew eK
    obtain ⟨f0, f1, _, f3, f4, f5⟩ := hf o List.mem_cons_self
    refine (Walks.longrange (prog := X.prog) (w := X.w) (I.ok.hd calm) o 0 1 n).item i s _ _ lt st fun v h' tk ⟨t, ev⟩ st' same => ?_
    subst ev
    have I' : Inv X pins σ H { s with heap := h', toks := tk } := I.turned (fun b u hb e => same b u (by simpa using hb) e) f0 f1 f3 f4 f5
    refine ⟨_, rfl, go_of (s := { s with heap := h', toks := tk }) (n := "longrange_iterator") st' rfl rfl (by decide) ⟨.int (0 + (i : Int)), H, I', ⟨t, by rw [Int.mul_one]⟩, ⟨rfl, rfl⟩, st', fun b hb => (hf b hb).1⟩⟩
  done := by
    intro X eP ew eK calm i pins s σ H E I hf st ge
    subst eP ew eK
    obtain ⟨f0, f1, _, f3, f4, f5⟩ := hf o List.mem_cons_self
    exact wpAny_pyNext_long_end (I.ok.hd calm) st (by have z : n ≤ i := ge; omega) fun h' ext => ⟨rfl, I.turned (t' := s.toks) (fun b u hb e => ext b u hb e) f0 f1 f3 f4 f5⟩
  self := fun _ _ _ _ _ st h => wpAny_pyIter_longiter st h
def iRngW (ta : TA) : TI := fun σ H R => ta σ H fun vs H1 => ∃ j : Int, vs = [.int j] ∧ R (Itr 0 j.toNat) H1
theorem size_toNat (j : Int) : Builtin.Range.rangeSize 0 j 1 = (j.toNat : Int) := by rw [rangeSize_one]; split <;> omega
theorem pi_rangeW {X : Cx} {tg a : Expr} {ta : TA} {p pos : Pos} (hg : Gl X "range") (hm : X.mg "range" = none) (ha : PA X [a] ta) (hs : starEach [a] X.env = [(false, eval a X.env)] := by rfl) : PI X tg (.Call (.Name "range" p) [a] [] pos) (iRngW ta) := by
  refine ⟨fun pins s σ H R I h => Call_ (ld_blt I hg hm boot_range (PyProof.Rows.callWith_type1 (thn (ha.run pos pins s σ H _ I h) fun us s1 ⟨vs, H1, I1, r1, j, ev, q⟩ => ?_) hs rfl))⟩
  subst ev
  obtain ⟨v, rfl, t, rfl⟩ : ∃ v, us = [v] ∧ RelV (.int j) v := by
    cases r1 with
    | cons r rr => cases rr; exact ⟨_, rfl, r⟩
  refine call_range_1 ?_
  generalize hT : ({ cls := .type "range", data := .fields #[.int 0 _, .int j _, .int 1 _] } : Obj) = ob
  have I2 : Inv X pins σ H1 { s1 with heap := s1.heap.push ob, toks := s1.toks + 2 } := I1.kept fun b o e => Heap.get?_push_of_some _ e
  subst hT
  cases hsm : Builtin.Range.small 0 j 1 with
  | true =>
    refine wpAny_pyIter_range (IsRange.new ..) hsm ⟨_, [_], _, _, H1, rfl, I2.kept fun b o e => Heap.get?_push_of_some _ e, turn_range _ 0 j.toNat, ?_, fun b hb => ?_, q⟩
    · show IsRangeIter _ _ (0 + ((0 : Nat) : Int) * 1) ((j.toNat : Int) - ((0 : Nat) : Int)) 1
      rw [show (0 : Int) + ((0 : Nat) : Int) * 1 = 0 by decide, show (j.toNat : Int) - ((0 : Nat) : Int) = Builtin.Range.rangeSize 0 j 1 by rw [size_toNat]; omega]
      exact Heap.get?_push_size _ rfl
    · cases sing hb
      exact I2.fpOk (Nat.le_refl _) (I2.hok.fresh (Nat.le_refl _))
  | false =>
    refine wpAny_pyIter_longrange (IsRange.new ..) hsm ⟨_, [_], _, _, H1, rfl, I2.kept fun b o e => Heap.get?_push_of_some _ e, turnL _ j.toNat, ?_, fun b hb => ?_, q⟩
    · show IsLongIter _ _ (0 + ((0 : Nat) : Int) * 1) ((j.toNat : Int) - ((0 : Nat) : Int)) 1
      rw [show (0 : Int) + ((0 : Nat) : Int) * 1 = 0 by decide, show (j.toNat : Int) - ((0 : Nat) : Int) = Builtin.Range.rangeSize 0 j 1 by rw [size_toNat]; omega]
      exact Heap.get?_push_size _ rfl
    · cases sing hb
      exact I2.fpOk (Nat.le_refl _) (I2.hok.fresh (Nat.le_refl _))
end RLong
namespace R
open PySem PySem.Spec PyProof.Rows L2
def RngQW (RI : It → Hp → Prop) (vs : List V) (H : Hp) : Prop := ∃ j : Int, vs = [.int j] ∧ RI (Itr 0 j.toNat) H
theorem s_rngW {ta : TA} {σ : L2.St} {H : Hp} {RI : It → Hp → Prop} (h : ta σ H fun vs H1 => RngQW RI vs H1) : RLong.iRngW ta σ H RI := h
theorem mkRW {RI : It → Hp → Prop} {H : Hp} {j : Int} (n : Nat) (e : j.toNat = n) (h : RI (Itr 0 n) H) : RngQW RI [.int j] H := ⟨j, rfl, by rw [e]; exact h⟩
end R

/-! t[::-1] of a tuple -/
namespace RevT
open PySem PySem.Spec PyProof.Rows L2 HT
theorem adj (n : Nat) : Builtin.Slice.sliceAdjust none none (-1) (n : Int) = ((n : Int) - 1, -1) := by
  unfold Builtin.Slice.sliceAdjust; simp
theorem plc (n : Nat) : Builtin.Slice.slicePlaces ((n : Int) - 1) (-1) (-1) = n := by
  unfold Builtin.Slice.slicePlaces
  rw [if_neg (by decide)]
  by_cases c : (n : Int) - 1 > -1
  · rw [if_pos c, show (-(-1) : Int) = 1 by decide, Int.ediv_one]; omega
  · rw [if_neg c]; omega
theorem pickR (xs : Array Value) : ((List.range xs.size).filterMap fun (m : Nat) => xs[(((xs.size : Int) - 1) + (m : Int) * (-1)).toNat]?).toArray = xs.toList.reverse.toArray := by
  have e : (fun (m : Nat) => xs[(((xs.size : Int) - 1) + (m : Int) * (-1)).toNat]?) = (fun k => xs[k]?) ∘ fun (m : Nat) => (((xs.size : Int) - 1) + (m : Int) * (-1)).toNat := rfl
  rw [e, ← List.filterMap_map]
  have e2 : (List.range xs.size).map (fun m : Nat => (((xs.size : Int) - 1) + (m : Int) * (-1)).toNat) = (List.range xs.size).map (fun k => xs.size - 1 - k) := List.map_congr_left fun m hm => by
    have := List.mem_range.mp hm
    omega
  rw [e2, PySem.W.krv_range, List.filterMap_reverse, PySem.W.krv_all]
section
variable {prog : Program} {w : World} {A : Around} {E : Value → Shared → Prop} {s : Shared}
theorem applied {sl : Addr} {u : Tok} {n : Nat} {Q : Int × Int × Nat → Shared → Prop} (hs : s.heap.IsSliceOf sl .none .none (.int (-1) u)) (h : Q ((n : Int) - 1, -1, n) s) : wpAny (model prog w) A (Builtin.Slice.sliceApplied (.ref sl) (pure (n : Int))) Q E s := by
  obtain ⟨o, ho, _, hd⟩ := id hs
  unfold Builtin.Slice.sliceApplied Builtin.Slice.sliceFields
  refine wpAny_bind (wpAny_bind (wpAny_field ho hd (x := .none) rfl (wpAny_bind (wpAny_field ho hd (x := .none) rfl (wpAny_bind (wpAny_field ho hd (x := .int (-1) u) rfl (wpAny_pure ?_)))))))
  refine wpAny_bind (slicePart_int ?_)
  show wpAny _ _ (if ((-1 : Int) == 0) = true then _ else _) _ _ s
  rw [if_neg (by decide)]
  refine wpAny_bind (slicePart_none (wpAny_bind (slicePart_none (wpAny_bind (wpAny_pure ?_)))))
  show wpAny _ _ (match Builtin.Slice.sliceAdjust none none (-1) (n : Int) with | (lo, hi) => pure (lo, (-1 : Int), Builtin.Slice.slicePlaces lo hi (-1))) _ _ s
  rw [adj n]
  show wpAny _ _ (pure (((n : Int) - 1), (-1 : Int), Builtin.Slice.slicePlaces ((n : Int) - 1) (-1) (-1))) _ _ s
  rw [plc]
  exact wpAny_pure h
theorem turned {t sl : Addr} {items : Array Value} {u : Tok} {Q : Value → Shared → Prop} (ht : IsTup s.heap t items) (hs : s.heap.IsSliceOf sl .none .none (.int (-1) u)) (hz : items.size ≤ sizeLine)
    (h : Q (.ref s.heap.objs.size) { s with heap := s.heap.push { cls := .type "tuple", data := .seq items.toList.reverse.toArray } }) : wpAny (model prog w) A (getItem (.ref t) (.ref sl)) Q E s := by
  have ok : sizeOk (.seq items.toList.reverse.toArray) := by show items.toList.reverse.toArray.size ≤ sizeLine; simpa using hz
  obtain ⟨o, ho, hc, _⟩ := id hs
  have hT : s.TypeIs (.ref sl) "slice" := ⟨o, ho, hc⟩
  unfold getItem
  try with_reducible refine wpAny_holding ?_
  first | refine wpAny_bind (wpAny_pure ?_) | skip
  refine wpAny_bind (wpAny_sequenceKey ht.typeIs (by decide) (wpAny_bind (wpAny_callSpecial?_slot (name := Str.ofString "__getitem__") ht.typeIs PyProof.Rows.slot_tuple_getitem (wpAny_call_entry PyProof.Rows.slot_tuple_getitem ht.typeIs entry_tuple_getitem ?_ (args_tuple_getitem _ _)))))
  show wpAny _ _ (Builtin.Tuple.tupleItemsOf (.ref t) >>= _) _ _ s
  refine wpAny_bind (tupleItemsOf_ ht (wpAny_bind (wpAny_typeOf hT ?_)))
  rw [if_pos (by decide)]
  refine wpAny_bind (applied (n := items.size) hs ?_)
  show wpAny _ _ (if (((items.size : Int) - 1) == 0 && (-1 : Int) == 1 && items.size == items.size) = true then _ else _) _ _ s
  rw [if_neg (by rw [show ((-1 : Int) == 1) = false by decide, Bool.and_false, Bool.false_and]; exact Bool.false_ne_true), pickR]
  first
    | exact wpAny_bind (m := Builtin.Tuple.tupleExact _) (wpAny_newObj_type (wpAny_pure ⟨_, rfl, wpAny_pure h⟩) ok)
    | exact wpAny_bind (m := Builtin.Tuple.tupleExact _) (wpAny_newObj_type (wpAny_bind (wpAny_pure (wpAny_pure ⟨_, rfl, wpAny_pure h⟩))) ok)
    | exact wpAny_bind (wpAny_bind (m := Builtin.Tuple.tupleExact _) (wpAny_newObj_type (wpAny_pure (wpAny_pure ⟨_, rfl, wpAny_pure h⟩)) ok))
    | exact wpAny_bind (wpAny_bind (m := Builtin.Tuple.tupleExact _) (wpAny_newObj_type (wpAny_pure ⟨_, rfl, wpAny_pure h⟩) ok))
end
def tRevT (K : PySem.W.Frag) (te : TE) : TE := fun σ H Q => te σ H fun x H1 => ∃ a xs, x = .ref a ∧ SqT K H1 a xs ∧ ∀ p, H1 p = none → Q (.ref p) (upd H1 p (.tup xs.reverse))
theorem pe_revT {X : Cx} {e : Expr} {te : TE} {k : Nat} {p1 p2 p3 pos : Pos} (he : PE X e te) : PE X (.Subscript e (.Slice none none (some (.UnaryOp .USub (.Constant (.int 1) k p1) p2)) p3) pos) (tRevT X.K te) := by
  refine ⟨fun pins s σ H Q I h => Subscript_ (thn (he.run pins s σ H _ I h) fun v s1 ⟨x, H1, I1, r1, a, xs, ex, hx, q⟩ => ?_)⟩
  subst ex
  cases r1
  have st : PO X (some (.UnaryOp .USub (.Constant (.int 1) k p1) p2)) (tPart (tUn (rU fun i => .int (-i)) (tC (.int 1)))) := po_some (pe_un un_neg pe_int)
  refine wpAny_Slice (thn (po_none.run pins s1 σ H1 (fun o H2 => o = none ∧ H2 = H1) I1 ⟨rfl, rfl⟩) fun vl s2 ⟨l, H2, I2, pl, el, e2⟩ => ?_)
  subst el e2
  refine thn (po_none.run pins s2 σ H2 (fun o H3 => o = none ∧ H3 = H2) I2 ⟨rfl, rfl⟩) fun vu s3 ⟨u, H3, I3, pu, eu, e3⟩ => ?_
  subst eu e3
  refine thn (st.run pins s3 σ H3 (fun o H4 => o = some (-1) ∧ H4 = H3) I3 ⟨1, rfl, -1, rfl, rfl, rfl⟩) fun vs s4 ⟨o, H4, I4, ps, eo, e4⟩ => ?_
  subst eo e4
  cases pl
  cases pu
  cases ps with
  | int i t =>
  have I5 : Inv X pins σ H4 { s4 with heap := s4.heap.push { cls := .type "slice", data := .fields #[.none, .none, .int (-1) t] } } := I4.kept (t' := s4.toks) fun b ob q => Heap.get?_push_of_some _ q
  obtain ⟨its, r, ht, hz⟩ := I5.tuple hx
  have hlen := r.length
  refine tail_any (ops := [.ref a, .ref s4.heap.objs.size]) ht.typeIs PyProof.Rows.slot_tuple_getitem.lookup (turned ht (Heap.IsSliceOf.new _ .none .none (.int (-1) t)) (by rw [List.size_toArray]; omega) ?_) (by with_unfolding_all rfl)
  refine ⟨.ref _, _, I5.laid (t' := s4.toks) (o := .tup xs.reverse) (fun b ob q => Heap.get?_push_of_some _ q) (Nat.le_refl _) ?_, rfl, q _ (I5.hok.fresh (Nat.le_refl _))⟩
  exact ⟨by rw [List.length_reverse]; omega, _, r.reverse, ⟨_, Heap.get?_push_size _ rfl, rfl, 0, rfl⟩⟩
end RevT

/-! a tuple times a whole number from 1 on: by 1 it is the tuple itself -/
namespace RepT1
open PySem PySem.Spec PyProof.Rows L2
theorem tuple_mul1 (l : Addr) (items : Array Value) (n : Nat) (dd : Option Addr) (sl : Array (Option Value)) (u : Tok) :
    Meets (Builtin.«tuple.__mul__» ⟨[.ref l, .int 1 u], []⟩) (fun _ R s => s.heap.get? l = some { cls := .type "tuple", dict := dd, data := .seq items n, slots := sl } ∧ R (.ok (.ret (.ref l))) s) :=
  .of_wp fun prog w A R s h => by
    obtain ⟨hp, g, d, tk, os⟩ := s
    obtain ⟨hl, h⟩ := h
    have f1 := AutoSeq1.idx_int
    wp_walk using wpAny_loadPart' hl
    exact ⟨_, rfl, h⟩
def rRepTA (K : PySem.W.Frag) : R2 := fun x y H Q => (∃ l xs, x = .ref l ∧ y = .int 1 ∧ SqT K H l xs ∧ Q (.ref l) H) ∨ rRepT K x y H Q
theorem op_repTA {X : Cx} : OpR X (binaryOp .Mult) (rRepTA X.K) := by
  intro pins s σ H x y v u Q I rx ry h
  rcases h with ⟨l, xs, rfl, rfl, hT, q⟩ | h
  · cases rx
    obtain ⟨t, rfl⟩ := ry
    obtain ⟨its, r, ⟨⟨cls, dd, data, sl⟩, ho, hc, n, hd⟩, hs⟩ := I.tuple hT
    simp only at hc hd
    subst hc hd
    exact wpAny_binaryOp_repeat_ref (T := "tuple") (U := "int") (by decide) ⟨_, ho, rfl⟩ (fun s' => typeIs_int s' 1 t) noFill_tuple_mul F.fills_int_mul F.slot_int_rmul repeat_tuple F.slot_int_index.lookup
      (call_meets F.slot_int_rmul (typeIs_int s 1 t) F.entry_int_rmul (F.args_int_rmul_2 _ _) (int_rmul_tuple 1 t l its.toArray n dd sl)
        ⟨ho, rfl, ⟨_, ho, rfl⟩, call_meets F.slot_tuple_mul ⟨_, ho, rfl⟩ F.entry_tuple_mul (F.args_tuple_mul_2 _ _) (tuple_mul1 l its.toArray n dd sl t) ⟨ho, ⟨.ref l, H, I, rfl, q⟩⟩⟩)
  · exact op_repT pins s σ H x y v u Q I rx ry h
/-- the tuple of so many times one thing -/
theorem mkRepT {K : PySem.W.Frag} {H : Hp} {Q : VK} {t : Addr} {x : V} {k : Nat} (e : H t = some (.tup [x])) (hk : 1 ≤ k ∧ k ≤ 1000) (h : ∀ l H', H' l = some (.tup (List.replicate k x)) → (∀ b o, H b = some o → H' b = some o) → Q (.ref l) H') : rRepTA K (.ref t) (.int (k : Nat)) H Q := by
  rcases Nat.lt_or_ge 1 k with c | c
  · refine .inr ⟨t, _, [x], rfl, rfl, SqT.of e, by simp, by omega, by omega, by simp, fun p hp => h p _ ?_ fun b o hb => ?_⟩
    · rw [upd_same]
      have : ∀ m : Nat, (List.replicate m [x]).flatten = List.replicate m x := fun m => by
        induction m with
        | zero => rfl
        | succ m ih => rw [List.replicate_succ, List.flatten_cons, ih]; rfl
      rw [show ((k : Nat) : Int).toNat = k by omega, this]
    · rw [upd_ne (fun z => by rw [z, hp] at hb; cases hb)]; exact hb
  · have : k = 1 := by omega
    subst this
    exact .inl ⟨t, [x], rfl, rfl, SqT.of e, h t H e fun _ _ z => z⟩
end RepT1

/-! zip of a list and a tuple: from the library's zip over any two iterators (KE.GoesZip, KE.GoesMore) -/
namespace RZM
open PySem PySem.Spec PyProof.Rows L2
/-- the list at a and the tuple at b, item by item -/
def ItzM (K : PySem.W.Frag) (a b : Addr) : It where
  go i H := ∃ (xs ys : List V) (x y : V), SqL K H a xs ∧ SqT K H b ys ∧ xs[i]? = some x ∧ ys[i]? = some y
  yld i H v H' := ∃ T x y, v = .ref T ∧ H T = none ∧ H' = upd H T (.tup [x, y]) ∧ (∀ xs, SqL K H a xs → xs[i]? = some x) ∧ ∀ ys, SqT K H b ys → ys[i]? = some y
  stop i H := ∃ xs ys : List V, SqL K H a xs ∧ SqT K H b ys ∧ (i = xs.length ∨ i = ys.length) ∧ i ≤ xs.length ∧ i ≤ ys.length
/-- the five objects of such a zip -/
abbrev five (z TI TO i1 i2 : Addr) : List Addr := [z, TI, TO, i1, i2]
def StM (z TI TO i1 i2 a b : Addr) (i : Nat) (h : Heap) : Prop := IsZip h z TI TO .none ∧ IsTupOf2 h TI (.ref i1) (.ref i2) ∧ (∃ x y, IsTupOf2 h TO x y) ∧ h.IsListIter i1 a i ∧ h.IsTupleIter i2 b i
theorem five_mem {z TI TO i1 i2 c : Addr} (h : c ∈ five z TI TO i1 i2) : c = z ∨ c = TI ∨ c = TO ∨ c = i1 ∨ c = i2 := by simpa [five] using h
theorem five_out {z TI TO i1 i2 c : Addr} (h : c ∉ five z TI TO i1 i2) : c ≠ z ∧ c ≠ TI ∧ c ≠ TO ∧ c ≠ i1 ∧ c ≠ i2 := by simpa [five] using h
theorem StM.lt {z TI TO i1 i2 a b : Addr} {i : Nat} {h : Heap} (st : StM z TI TO i1 i2 a b i h) {c : Addr} (hc : c ∈ five z TI TO i1 i2) : ∃ o, h.get? c = some o ∧ ∀ v, o.data ≠ .cell v := by
  obtain ⟨hz, hTI, ⟨x, y, hTO⟩, ⟨o1, e1, _, d1⟩, ⟨o2, e2, _, d2⟩⟩ := st
  rcases five_mem hc with rfl | rfl | rfl | rfl | rfl
  · exact ⟨_, hz, fun v q => nomatch q⟩
  · exact ⟨_, hTI, fun v q => nomatch q⟩
  · exact ⟨_, hTO, fun v q => nomatch q⟩
  · exact ⟨o1, e1, fun v q => by rw [d1] at q; cases q⟩
  · exact ⟨o2, e2, fun v q => by rw [d2] at q; cases q⟩
theorem turnM {P : Program} {w : World} {K : PySem.W.Frag} {elts : List Expr} {kk : Nat} {tpos : Pos} {a b z TI TO i1 i2 : Addr} (S : ZipSep2 z TI TO i1 i2 [i1, a] [i2, b]) (na : a ≠ i1) (nb : b ≠ i2) :
    Turn P w K (.Tuple elts kk tpos) (ItzM K a b) (five z TI TO i1 i2) z (StM z TI TO i1 i2 a b) where
  mem := by simp [five]
  obj := fun i h st c hc => st.lt hc
  keep := fun i h h' ⟨hz, hTI, ⟨x, y, hTO⟩, h1, h2⟩ k => ⟨k z (by simp [five]) _ hz, k TI (by simp [five]) _ hTI, ⟨x, y, k TO (by simp [five]) _ hTO⟩, h1.at fun o q => k i1 (by simp [five]) o q, h2.at fun o q => k i2 (by simp [five]) o q⟩
  item := by
    intro X hP hw hK hc i pins s σ H E I hf st ⟨xs, ys, x, y, qx, qy, hx, hy⟩
    subst hP hw hK
    have sl := fun {c} (h : c ∈ five z TI TO i1 i2) => st.lt h
    obtain ⟨hz, hTI, ⟨x0, y0, hTO⟩, h1, h2⟩ := st
    obtain ⟨us, ru, pu, _⟩ := I.list qx
    obtain ⟨vs, rv, pv, _⟩ := I.tuple qy
    obtain ⟨u, hu, eu⟩ := ru.get hx
    obtain ⟨v, hv, ev⟩ := rv.get hy
    have hh : X.A.in1.handled = none := I.ok.hd hc
    refine wpAny_pyNext_zipD2_item S (Draws.list hh i1 a na us.toArray) (Draws.tuple hh i2 b nb vs.toArray) hz hTI hTO ⟨h1, pu.isList⟩ ⟨h2, pv⟩
      (by rw [List.size_toArray]; exact (List.getElem?_eq_some_iff.mp hu).1) (by rw [List.size_toArray]; exact (List.getElem?_eq_some_iff.mp hv).1) fun u' v' h' tk eu' ev' hz' hTO' s1 s2 hT _ hk => ?_
    have eu2 : us[i]? = some u' := by simpa using eu'
    have ev2 : vs[i]? = some v' := by simpa using ev'
    rw [hu] at eu2
    rw [hv] at ev2
    cases eu2
    cases ev2
    refine ⟨_, rfl, wpAny_letOwnedTupleGo_zip (s := { s with heap := h', toks := tk }) hz' fun h2' hz2 sb => ?_⟩
    have zlt : z < s.heap.objs.size := Heap.lt_size hz
    have step : ∀ c o, c ∉ five z TI TO i1 i2 → s.heap.get? c = some o → h2'.get? c = some o := fun c o hn e => by
      obtain ⟨n1, n2, n3, n4, n5⟩ := five_out hn
      exact (sb.2 c n1).trans (hk c o n1 n3 n4 n5 e)
    have got : h2'.get? s.heap.objs.size = some { cls := .type "tuple", data := .seq #[u, v] } := (sb.2 _ (Nat.ne_of_gt zlt)).trans hT
    have I2 : Inv X pins σ (upd H s.heap.objs.size (.tup [x, y])) { s with heap := h2', toks := tk } :=
      I.turnedNew (t' := tk) (ch := five z TI TO i1 i2) step hf (Nat.le_refl _) ⟨by show 2 ≤ sizeLine; decide, [u, v], .cons eu (.cons ev .nil), ⟨_, got, rfl, _, rfl⟩⟩
    have nTI : TI ≠ i1 ∧ TI ≠ i2 := ⟨S.TIi1, S.TIi2⟩
    refine ⟨.ref s.heap.objs.size, _, I2, rfl, ⟨_, x, y, rfl, I.hok.fresh (Nat.le_refl _), rfl, fun l hl => by rw [I.list_inj hl qx]; exact hx, fun l hl => by rw [I.tuple_inj hl qy]; exact hy⟩,
      ⟨hz2, (sb.2 _ S.TIz).trans (hk _ _ S.TIz S.TITO nTI.1 nTI.2 hTI), ⟨u, v, (sb.2 _ S.TOz).trans hTO'⟩, s1.1.at fun o q => (sb.2 _ S.zi1.symm).trans q, s2.1.at fun o q => (sb.2 _ S.zi2.symm).trans q⟩, fun c hcm => ?_⟩
    obtain ⟨o, ho, _⟩ := sl hcm
    rw [upd_ne (Nat.ne_of_lt (Heap.lt_size ho))]
    exact (hf c hcm).1
  done := by
    intro X hP hw hK hc i pins s σ H E I hf ⟨hz, hTI, ⟨x0, y0, hTO⟩, h1, h2⟩ ⟨xs, ys, qx, qy, hend, l1, l2⟩
    subst hP hw hK
    obtain ⟨us, ru, pu, _⟩ := I.list qx
    obtain ⟨vs, rv, pv, _⟩ := I.tuple qy
    have e1 := ru.length
    have e2 := rv.length
    have hh : X.A.in1.handled = none := I.ok.hd hc
    exact wpAny_pyNext_zipD2_end S (Draws.list hh i1 a na us.toArray) (Draws.tuple hh i2 b nb vs.toArray) hz hTI hTO ⟨h1, pu.isList⟩ ⟨h2, pv⟩ (by rw [List.size_toArray]; omega) (by rw [List.size_toArray]; omega) (by rw [List.size_toArray, List.size_toArray]; omega)
      fun h' tk hk => ⟨rfl, I.turnedL (t' := tk) (ch := five z TI TO i1 i2) (fun c o hn e => by
        obtain ⟨n1, n2, n3, n4, n5⟩ := five_out hn
        exact hk c o n1 n3 n4 n5 e) hf⟩
  self := fun A i s Q E st h => wpAny_pyIter_zip st.1 h
def iZipM (K : PySem.W.Frag) (ta : TA) : TI := fun σ H R => ta σ H fun vs H1 => ∃ a b xs ys, vs = [.ref a, .ref b] ∧ SqL K H1 a xs ∧ SqT K H1 b ys ∧ R (ItzM K a b) H1
theorem pi_zipM {X : Cx} {e e2 : Expr} {ta : TA} {p pos tpos : Pos} {elts : List Expr} {kk : Nat} (hg : Gl X "zip") (hm : X.mg "zip" = none) (ha : PA X [e, e2] ta)
    (hs : starEach [e, e2] X.env = (false, eval e X.env) :: starEach [e2] X.env := by rfl) (hpl : (backTo pos (starEach [e2] X.env)).any (·.1) = false := by rfl) :
    PI X (.Tuple elts kk tpos) (.Call (.Name "zip" p) [e, e2] [] pos) (iZipM X.K ta) := by
  refine ⟨fun pins s σ H R I h => Call_ (ld_blt I hg hm PyProof.Rows.boot_zip (PyProof.Rows.callWith_type1 (thn (ha.run pos pins s σ H _ I h) fun us s1 ⟨vs, H1, I1, r1, q1⟩ => ?_) hs hpl))⟩
  obtain ⟨a, b, xs, ys, rfl, qx, qy, q⟩ := q1
  obtain ⟨u1, u2, rfl, r, r'⟩ : ∃ u1 u2, us = [u1, u2] ∧ RelV (.ref a) u1 ∧ RelV (.ref b) u2 := by
    cases r1 with
    | cons r rr => cases rr with
      | cons r' rr => cases rr; exact ⟨_, _, rfl, r, r'⟩
  cases r
  cases r'
  obtain ⟨us, ru, pu, _⟩ := I1.list qx
  obtain ⟨vs, rv, pv, _⟩ := I1.tuple qy
  obtain ⟨o2, ho2, _⟩ := id pv
  have la := pu.lt
  have lb : b < s1.heap.objs.size := Heap.lt_size ho2
  generalize hN : s1.heap.objs.size = N at la lb
  refine zip_begins2 (begins_list a us.toArray) (begins_tuple b vs.toArray) pu.isList pv fun h' hz hTI hTO g1 g2 _ hk => ?_
  rw [hN] at hz hTI hTO g1 g2 ⊢
  have st : StM (N + 4) (N + 2) (N + 3) N (N + 1) a b 0 h' := ⟨hz, hTI, ⟨_, _, hTO⟩, ⟨_, g1, rfl, rfl⟩, ⟨_, g2, rfl, rfl⟩⟩
  have sep : ZipSep2 (N + 4) (N + 2) (N + 3) N (N + 1) [N, a] [N + 1, b] := zip_sep2 (fp1 := [a]) (fp2 := [b]) (fun c hc => by rw [List.mem_singleton.mp hc]; exact la) (fun c hc => by rw [List.mem_singleton.mp hc]; exact lb)
  have fresh : ∀ c ∈ five (N + 4) (N + 2) (N + 3) N (N + 1), FpOk X pins H1 c := fun c hc => by
    have hle : s1.heap.objs.size ≤ c := by
      rw [hN]
      rcases five_mem hc with e | e | e | e | e <;> rw [e]
      · exact Nat.le_add_right _ _
      · exact Nat.le_add_right _ _
      · exact Nat.le_add_right _ _
      · exact Nat.le_refl _
      · exact Nat.le_add_right _ _
    exact I1.fpOk hle (I1.hok.fresh hle)
  exact wpAny_pyIter_zip hz ⟨N + 4, five (N + 4) (N + 2) (N + 3) N (N + 1), _, _, H1, rfl, I1.kept (t' := s1.toks) hk, turnM sep (Nat.ne_of_lt la) (Nat.ne_of_lt (Nat.lt_succ_of_lt lb)), st, fresh, q⟩
end RZM
namespace R
open PySem PySem.Spec PyProof.Rows L2
theorem walk_zipM {K : PySem.W.Frag} {a b : Addr} {xs ys : List V} {n : Nat} (hn : n = min xs.length ys.length) : Walk (RZM.ItzM K a b) n (fun H => SqL K H a xs ∧ SqT K H b ys) (YPair (fun i => xs[i]?) (fun i => ys[i]?)) := by
  subst hn
  refine ⟨fun i _ hi q => ?_, fun _ q => ⟨xs, ys, q.1, q.2, by omega, by omega, by omega⟩, fun i H v H' _ q y => ?_⟩
  · exact ⟨xs, ys, xs[i]'(by omega), ys[i]'(by omega), q.1, q.2, List.getElem?_eq_getElem _, List.getElem?_eq_getElem _⟩
  · obtain ⟨T, x, z, h1, h2, h3, h4, h5⟩ := y
    exact ⟨T, x, z, h1, h2, h3, h4 xs q.1, h5 ys q.2⟩
theorem s_zipM {K : PySem.W.Frag} {ta : TA} {σ : L2.St} {H : Hp} {RI : It → Hp → Prop} (h : ta σ H fun vs H1 => ∃ a b xs ys, vs = [.ref a, .ref b] ∧ SqL K H1 a xs ∧ SqT K H1 b ys ∧ RI (RZM.ItzM K a b) H1) : RZM.iZipM K ta σ H RI := h
end R

/-! zip of a tuple and a list: from the library's zip over any two iterators (KE.GoesZip, KE.GoesMore) -/
namespace RZN
open PySem PySem.Spec PyProof.Rows L2
/-- the tuple at a and the list at b, item by item -/
def ItzN (K : PySem.W.Frag) (a b : Addr) : It where
  go i H := ∃ (xs ys : List V) (x y : V), SqT K H a xs ∧ SqL K H b ys ∧ xs[i]? = some x ∧ ys[i]? = some y
  yld i H v H' := ∃ T x y, v = .ref T ∧ H T = none ∧ H' = upd H T (.tup [x, y]) ∧ (∀ xs, SqT K H a xs → xs[i]? = some x) ∧ ∀ ys, SqL K H b ys → ys[i]? = some y
  stop i H := ∃ xs ys : List V, SqT K H a xs ∧ SqL K H b ys ∧ (i = xs.length ∨ i = ys.length) ∧ i ≤ xs.length ∧ i ≤ ys.length
/-- the five objects of such a zip -/
abbrev five (z TI TO i1 i2 : Addr) : List Addr := [z, TI, TO, i1, i2]
def StN (z TI TO i1 i2 a b : Addr) (i : Nat) (h : Heap) : Prop := IsZip h z TI TO .none ∧ IsTupOf2 h TI (.ref i1) (.ref i2) ∧ (∃ x y, IsTupOf2 h TO x y) ∧ h.IsTupleIter i1 a i ∧ h.IsListIter i2 b i
theorem five_mem {z TI TO i1 i2 c : Addr} (h : c ∈ five z TI TO i1 i2) : c = z ∨ c = TI ∨ c = TO ∨ c = i1 ∨ c = i2 := by simpa [five] using h
theorem five_out {z TI TO i1 i2 c : Addr} (h : c ∉ five z TI TO i1 i2) : c ≠ z ∧ c ≠ TI ∧ c ≠ TO ∧ c ≠ i1 ∧ c ≠ i2 := by simpa [five] using h
theorem StN.lt {z TI TO i1 i2 a b : Addr} {i : Nat} {h : Heap} (st : StN z TI TO i1 i2 a b i h) {c : Addr} (hc : c ∈ five z TI TO i1 i2) : ∃ o, h.get? c = some o ∧ ∀ v, o.data ≠ .cell v := by
  obtain ⟨hz, hTI, ⟨x, y, hTO⟩, ⟨o1, e1, _, d1⟩, ⟨o2, e2, _, d2⟩⟩ := st
  rcases five_mem hc with rfl | rfl | rfl | rfl | rfl
  · exact ⟨_, hz, fun v q => nomatch q⟩
  · exact ⟨_, hTI, fun v q => nomatch q⟩
  · exact ⟨_, hTO, fun v q => nomatch q⟩
  · exact ⟨o1, e1, fun v q => by rw [d1] at q; cases q⟩
  · exact ⟨o2, e2, fun v q => by rw [d2] at q; cases q⟩
theorem turnN {P : Program} {w : World} {K : PySem.W.Frag} {elts : List Expr} {kk : Nat} {tpos : Pos} {a b z TI TO i1 i2 : Addr} (S : ZipSep2 z TI TO i1 i2 [i1, a] [i2, b]) (na : a ≠ i1) (nb : b ≠ i2) :
    Turn P w K (.Tuple elts kk tpos) (ItzN K a b) (five z TI TO i1 i2) z (StN z TI TO i1 i2 a b) where
  mem := by simp [five]
  obj := fun i h st c hc => st.lt hc
  keep := fun i h h' ⟨hz, hTI, ⟨x, y, hTO⟩, h1, h2⟩ k => ⟨k z (by simp [five]) _ hz, k TI (by simp [five]) _ hTI, ⟨x, y, k TO (by simp [five]) _ hTO⟩, h1.at fun o q => k i1 (by simp [five]) o q, h2.at fun o q => k i2 (by simp [five]) o q⟩
  item := by
    intro X hP hw hK hc i pins s σ H E I hf st ⟨xs, ys, x, y, qx, qy, hx, hy⟩
    subst hP hw hK
    have sl := fun {c} (h : c ∈ five z TI TO i1 i2) => st.lt h
    obtain ⟨hz, hTI, ⟨x0, y0, hTO⟩, h1, h2⟩ := st
    obtain ⟨us, ru, pu, _⟩ := I.tuple qx
    obtain ⟨vs, rv, pv, _⟩ := I.list qy
    obtain ⟨u, hu, eu⟩ := ru.get hx
    obtain ⟨v, hv, ev⟩ := rv.get hy
    have hh : X.A.in1.handled = none := I.ok.hd hc
    refine wpAny_pyNext_zipD2_item S (Draws.tuple hh i1 a na us.toArray) (Draws.list hh i2 b nb vs.toArray) hz hTI hTO ⟨h1, pu⟩ ⟨h2, pv.isList⟩
      (by rw [List.size_toArray]; exact (List.getElem?_eq_some_iff.mp hu).1) (by rw [List.size_toArray]; exact (List.getElem?_eq_some_iff.mp hv).1) fun u' v' h' tk eu' ev' hz' hTO' s1 s2 hT _ hk => ?_
    have eu2 : us[i]? = some u' := by simpa using eu'
    have ev2 : vs[i]? = some v' := by simpa using ev'
    rw [hu] at eu2
    rw [hv] at ev2
    cases eu2
    cases ev2
    refine ⟨_, rfl, wpAny_letOwnedTupleGo_zip (s := { s with heap := h', toks := tk }) hz' fun h2' hz2 sb => ?_⟩
    have zlt : z < s.heap.objs.size := Heap.lt_size hz
    have step : ∀ c o, c ∉ five z TI TO i1 i2 → s.heap.get? c = some o → h2'.get? c = some o := fun c o hn e => by
      obtain ⟨n1, n2, n3, n4, n5⟩ := five_out hn
      exact (sb.2 c n1).trans (hk c o n1 n3 n4 n5 e)
    have got : h2'.get? s.heap.objs.size = some { cls := .type "tuple", data := .seq #[u, v] } := (sb.2 _ (Nat.ne_of_gt zlt)).trans hT
    have I2 : Inv X pins σ (upd H s.heap.objs.size (.tup [x, y])) { s with heap := h2', toks := tk } :=
      I.turnedNew (t' := tk) (ch := five z TI TO i1 i2) step hf (Nat.le_refl _) ⟨by show 2 ≤ sizeLine; decide, [u, v], .cons eu (.cons ev .nil), ⟨_, got, rfl, _, rfl⟩⟩
    have nTI : TI ≠ i1 ∧ TI ≠ i2 := ⟨S.TIi1, S.TIi2⟩
    refine ⟨.ref s.heap.objs.size, _, I2, rfl, ⟨_, x, y, rfl, I.hok.fresh (Nat.le_refl _), rfl, fun l hl => by rw [I.tuple_inj hl qx]; exact hx, fun l hl => by rw [I.list_inj hl qy]; exact hy⟩,
      ⟨hz2, (sb.2 _ S.TIz).trans (hk _ _ S.TIz S.TITO nTI.1 nTI.2 hTI), ⟨u, v, (sb.2 _ S.TOz).trans hTO'⟩, s1.1.at fun o q => (sb.2 _ S.zi1.symm).trans q, s2.1.at fun o q => (sb.2 _ S.zi2.symm).trans q⟩, fun c hcm => ?_⟩
    obtain ⟨o, ho, _⟩ := sl hcm
    rw [upd_ne (Nat.ne_of_lt (Heap.lt_size ho))]
    exact (hf c hcm).1
  done := by
    intro X hP hw hK hc i pins s σ H E I hf ⟨hz, hTI, ⟨x0, y0, hTO⟩, h1, h2⟩ ⟨xs, ys, qx, qy, hend, l1, l2⟩
    subst hP hw hK
    obtain ⟨us, ru, pu, _⟩ := I.tuple qx
    obtain ⟨vs, rv, pv, _⟩ := I.list qy
    have e1 := ru.length
    have e2 := rv.length
    have hh : X.A.in1.handled = none := I.ok.hd hc
    exact wpAny_pyNext_zipD2_end S (Draws.tuple hh i1 a na us.toArray) (Draws.list hh i2 b nb vs.toArray) hz hTI hTO ⟨h1, pu⟩ ⟨h2, pv.isList⟩ (by rw [List.size_toArray]; omega) (by rw [List.size_toArray]; omega) (by rw [List.size_toArray, List.size_toArray]; omega)
      fun h' tk hk => ⟨rfl, I.turnedL (t' := tk) (ch := five z TI TO i1 i2) (fun c o hn e => by
        obtain ⟨n1, n2, n3, n4, n5⟩ := five_out hn
        exact hk c o n1 n3 n4 n5 e) hf⟩
  self := fun A i s Q E st h => wpAny_pyIter_zip st.1 h
def iZipN (K : PySem.W.Frag) (ta : TA) : TI := fun σ H R => ta σ H fun vs H1 => ∃ a b xs ys, vs = [.ref a, .ref b] ∧ SqT K H1 a xs ∧ SqL K H1 b ys ∧ R (ItzN K a b) H1
theorem pi_zipN {X : Cx} {e e2 : Expr} {ta : TA} {p pos tpos : Pos} {elts : List Expr} {kk : Nat} (hg : Gl X "zip") (hm : X.mg "zip" = none) (ha : PA X [e, e2] ta)
    (hs : starEach [e, e2] X.env = (false, eval e X.env) :: starEach [e2] X.env := by rfl) (hpl : (backTo pos (starEach [e2] X.env)).any (·.1) = false := by rfl) :
    PI X (.Tuple elts kk tpos) (.Call (.Name "zip" p) [e, e2] [] pos) (iZipN X.K ta) := by
  refine ⟨fun pins s σ H R I h => Call_ (ld_blt I hg hm PyProof.Rows.boot_zip (PyProof.Rows.callWith_type1 (thn (ha.run pos pins s σ H _ I h) fun us s1 ⟨vs, H1, I1, r1, q1⟩ => ?_) hs hpl))⟩
  obtain ⟨a, b, xs, ys, rfl, qx, qy, q⟩ := q1
  obtain ⟨u1, u2, rfl, r, r'⟩ : ∃ u1 u2, us = [u1, u2] ∧ RelV (.ref a) u1 ∧ RelV (.ref b) u2 := by
    cases r1 with
    | cons r rr => cases rr with
      | cons r' rr => cases rr; exact ⟨_, _, rfl, r, r'⟩
  cases r
  cases r'
  obtain ⟨us, ru, pu, _⟩ := I1.tuple qx
  obtain ⟨vs, rv, pv, _⟩ := I1.list qy
  obtain ⟨o2, ho2, _⟩ := id pu
  have lb := pv.lt
  have la : a < s1.heap.objs.size := Heap.lt_size ho2
  generalize hN : s1.heap.objs.size = N at la lb
  refine zip_begins2 (begins_tuple a us.toArray) (begins_list b vs.toArray) pu pv.isList fun h' hz hTI hTO g1 g2 _ hk => ?_
  rw [hN] at hz hTI hTO g1 g2 ⊢
  have st : StN (N + 4) (N + 2) (N + 3) N (N + 1) a b 0 h' := ⟨hz, hTI, ⟨_, _, hTO⟩, ⟨_, g1, rfl, rfl⟩, ⟨_, g2, rfl, rfl⟩⟩
  have sep : ZipSep2 (N + 4) (N + 2) (N + 3) N (N + 1) [N, a] [N + 1, b] := zip_sep2 (fp1 := [a]) (fp2 := [b]) (fun c hc => by rw [List.mem_singleton.mp hc]; exact la) (fun c hc => by rw [List.mem_singleton.mp hc]; exact lb)
  have fresh : ∀ c ∈ five (N + 4) (N + 2) (N + 3) N (N + 1), FpOk X pins H1 c := fun c hc => by
    have hle : s1.heap.objs.size ≤ c := by
      rw [hN]
      rcases five_mem hc with e | e | e | e | e <;> rw [e]
      · exact Nat.le_add_right _ _
      · exact Nat.le_add_right _ _
      · exact Nat.le_add_right _ _
      · exact Nat.le_refl _
      · exact Nat.le_add_right _ _
    exact I1.fpOk hle (I1.hok.fresh hle)
  exact wpAny_pyIter_zip hz ⟨N + 4, five (N + 4) (N + 2) (N + 3) N (N + 1), _, _, H1, rfl, I1.kept (t' := s1.toks) hk, turnN sep (Nat.ne_of_lt la) (Nat.ne_of_lt (Nat.lt_succ_of_lt lb)), st, fresh, q⟩
end RZN
namespace R
open PySem PySem.Spec PyProof.Rows L2
theorem walk_zipN {K : PySem.W.Frag} {a b : Addr} {xs ys : List V} {n : Nat} (hn : n = min xs.length ys.length) : Walk (RZN.ItzN K a b) n (fun H => SqT K H a xs ∧ SqL K H b ys) (YPair (fun i => xs[i]?) (fun i => ys[i]?)) := by
  subst hn
  refine ⟨fun i _ hi q => ?_, fun _ q => ⟨xs, ys, q.1, q.2, by omega, by omega, by omega⟩, fun i H v H' _ q y => ?_⟩
  · exact ⟨xs, ys, xs[i]'(by omega), ys[i]'(by omega), q.1, q.2, List.getElem?_eq_getElem _, List.getElem?_eq_getElem _⟩
  · obtain ⟨T, x, z, h1, h2, h3, h4, h5⟩ := y
    exact ⟨T, x, z, h1, h2, h3, h4 xs q.1, h5 ys q.2⟩
theorem s_zipN {K : PySem.W.Frag} {ta : TA} {σ : L2.St} {H : Hp} {RI : It → Hp → Prop} (h : ta σ H fun vs H1 => ∃ a b xs ys, vs = [.ref a, .ref b] ∧ SqT K H1 a xs ∧ SqL K H1 b ys ∧ RI (RZN.ItzN K a b) H1) : RZN.iZipN K ta σ H RI := h
end R

/-! membership of data in a list -/
namespace R
open PySem PySem.Spec PyProof.Rows L2
theorem units65 {k : Nat} {A : Around} (r : Room k A) : A.units + 65 < cLine := by have := r.un; omega
def rInQ (K : PySem.W.Frag) : R2 := fun x y H Q => ∃ (a : Addr) (xs : List V) (d : PyData) (ds : List PyData), y = .ref a ∧ SqL K H a xs ∧ DpAll K H xs ds ∧ Dp K H x d ∧ SeqAt.shaped d = true ∧ SeqAt.shaped (.list ds) = true ∧ Q (.bl (ds.any fun z => PyData.eqv z d)) H
theorem op_inQ {X : Cx} (hu : X.A.units + 65 < cLine) : OpR X (compareOp .In) (rInQ X.K) := by
  intro pins st σ H x y v u Q I rx ry want
  obtain ⟨a, xs, d, ds, rfl, hs, hl, hx, sd, sl, q⟩ := want
  obtain ⟨_, here⟩ := Dp.reads I d x v hx rx
  obtain ⟨_, there⟩ := Dp.reads I (.list ds) (.ref a) u (.lst hs hl) ry
  have e1 := SeqAt.canLay_of_shaped sl
  have e2 := SeqAt.canLay_of_shaped sd
  exact SeqAt.in_list_reads there here e1 e2 (room_in_shaped (xs := ds) sd hu) ⟨.bl _, H, I, rfl, q⟩
def rNotInQ (K : PySem.W.Frag) : R2 := fun x y H Q => ∃ (a : Addr) (xs : List V) (d : PyData) (ds : List PyData), y = .ref a ∧ SqL K H a xs ∧ DpAll K H xs ds ∧ Dp K H x d ∧ SeqAt.shaped d = true ∧ SeqAt.shaped (.list ds) = true ∧ Q (.bl (!ds.any fun z => PyData.eqv z d)) H
theorem op_notInQ {X : Cx} (hu : X.A.units + 65 < cLine) : OpR X (compareOp .NotIn) (rNotInQ X.K) := by
  intro pins st σ H x y v u Q I rx ry want
  obtain ⟨a, xs, d, ds, rfl, hs, hl, hx, sd, sl, q⟩ := want
  obtain ⟨_, here⟩ := Dp.reads I d x v hx rx
  obtain ⟨_, there⟩ := Dp.reads I (.list ds) (.ref a) u (.lst hs hl) ry
  exact SeqAt.notIn_list_reads there here (SeqAt.canLay_of_shaped sl) (SeqAt.canLay_of_shaped sd) (room_in_shaped (xs := ds) sd hu) ⟨.bl _, H, I, rfl, q⟩
end R

/-! the divisor of two numbers: what the loop keeps -/
namespace M
/-- what is told of a and b -/
structure DivOk (a b g u v : Int) : Prop where
  hg : g = (Int.gcd a b : Nat)
  eq : u * a + v * b = g
  hu : u.natAbs ≤ max 1 b.natAbs
  hv : v.natAbs ≤ max 1 a.natAbs
/-- behind the first turn: s the sign of g and rest, t that of u -/
structure DivIn (a b g u v r x y s t : Int) (G R U X q : Nat) : Prop where
  hs : s = 1 ∨ s = -1
  ht : t = 1 ∨ t = -1
  hg : g = s * G
  hr : r = s * R
  hu : u = t * U
  hx : x = -(t * X)
  lt : R < G
  px : 0 < X
  det : X * G + U * R = b.natAbs
  gcd : Nat.gcd G R = Int.gcd a b
  e1 : u * a + v * b = g
  e2 : x * a + y * b = r
  last : (U = 0 ∧ v = 1 ∧ g = b) ∨ (0 < U ∧ U * (q * G + R) ≤ b.natAbs ∧ G < q * G + R)
def DivSt (a b g u v r x y : Int) : Prop :=
  (g = a ∧ u = 1 ∧ v = 0 ∧ r = b ∧ x = 0 ∧ y = 1) ∨ (b ≠ 0 ∧ ∃ s t G R U X q, DivIn a b g u v r x y s t G R U X q)
theorem nabs_sign {s : Int} (hs : s = 1 ∨ s = -1) (n : Nat) : (s * (n : Int)).natAbs = n := by
  rcases hs with rfl | rfl <;> omega
theorem fdiv_sign {s : Int} (hs : s = 1 ∨ s = -1) (G R : Nat) : (s * (G : Int)).fdiv (s * R) = ((G / R : Nat) : Int) := by
  rcases hs with rfl | rfl
  · rw [Int.one_mul, Int.one_mul]; exact (Int.ofNat_fdiv G R).symm
  · rw [Int.neg_one_mul, Int.neg_one_mul, Int.neg_fdiv_neg]; exact (Int.ofNat_fdiv G R).symm
theorem fdiv_le (g r : Int) : (g.fdiv r).natAbs ≤ g.natAbs := by
  rcases Int.lt_trichotomy r 0 with h | h | h
  · have e : g.fdiv r = (-g).fdiv (-r) := (Int.neg_fdiv_neg g r).symm
    rw [e, Int.fdiv_eq_ediv_of_nonneg _ (by omega)]
    have := Int.natAbs_ediv_le_natAbs (-g) (-r)
    omega
  · subst h; simp
  · rw [Int.fdiv_eq_ediv_of_nonneg _ (by omega)]
    exact Int.natAbs_ediv_le_natAbs g r
theorem gcd_sub (a b q : Int) : Int.gcd b (a - q * b) = Int.gcd a b := by
  rw [Int.gcd_sub_mul_right_right]
  exact Int.gcd_comm _ _
theorem fmod_sign (a : Int) {b : Int} (hb : b ≠ 0) : ∃ s R, (s = 1 ∨ s = -1) ∧ b = s * (b.natAbs : Int) ∧ a - a.fdiv b * b = s * ((R : Nat) : Int) ∧ R < b.natAbs := by
  have e : a - a.fdiv b * b = a.fmod b := by rw [Int.fmod_def, Int.mul_comm]
  by_cases h : 0 < b
  · have h1 := Int.fmod_lt_of_pos a h
    have h2 := Int.fmod_nonneg_of_pos a h
    exact ⟨1, (a.fmod b).toNat, .inl rfl, by omega, by rw [e]; omega, by omega⟩
  · have h0 : 0 < -b := by omega
    have e2 : a.fmod b = -((-a).fmod (-b)) := by rw [Int.neg_fmod_neg]; omega
    have h1 := Int.fmod_lt_of_pos (-a) h0
    have h2 := Int.fmod_nonneg_of_pos (-a) h0
    exact ⟨-1, ((-a).fmod (-b)).toNat, .inr rfl, by omega, by rw [e, e2]; omega, by omega⟩
theorem gcd_signs {s : Int} (hs : s = 1 ∨ s = -1) (G R : Nat) : Int.gcd (s * (G : Int)) (s * R) = Nat.gcd G R := by
  unfold Int.gcd
  rw [nabs_sign hs, nabs_sign hs]
theorem div_step {a b g u v r x y : Int} (h : DivSt a b g u v r x y) (hr : r ≠ 0) :
    DivSt a b r x y (g - g.fdiv r * r) (u - g.fdiv r * x) (v - g.fdiv r * y) ∧ (g - g.fdiv r * r).natAbs < r.natAbs := by
  rcases h with ⟨rfl, rfl, rfl, rfl, rfl, rfl⟩ | ⟨hb, s, t, G, R, U, X, q, I⟩
  · obtain ⟨s, R, hs, e1, e2, lt⟩ := fmod_sign g hr
    refine ⟨.inr ⟨hr, s, -1, r.natAbs, R, 0, 1, 0, ⟨hs, .inr rfl, e1, e2, by omega, by omega, lt, by omega, by omega, ?_, by omega, ?_, .inl ⟨rfl, rfl, rfl⟩⟩⟩, ?_⟩
    · have h1 := gcd_sub g r (g.fdiv r)
      rw [e2] at h1
      conv at h1 => lhs; arg 1; rw [e1]
      rw [gcd_signs hs] at h1
      exact h1
    · grind
    · rw [e2, nabs_sign hs]; exact lt
  · obtain ⟨hs, ht, hg, hr', hu, hx, lt, px, det, gcd, e1, e2, last⟩ := I
    have hR : 0 < R := by
      rcases Nat.eq_zero_or_pos R with z | z
      · subst z; rw [hr'] at hr; exact absurd (by simp) hr
      · exact z
    have ed : g.fdiv r = ((G / R : Nat) : Int) := by rw [hg, hr']; exact fdiv_sign hs G R
    have dm := Nat.div_add_mod G R
    have ml := Nat.mod_lt G hR
    have hq : 0 < G / R := Nat.div_pos (Nat.le_of_lt lt) hR
    generalize hQ : G / R = Q at *
    generalize hS : G % R = S at *
    have er : g - (Q : Int) * r = s * (S : Int) := by
      have : (G : Int) = R * Q + S := by rw [← dm]; push_cast; rfl
      rw [hg, hr', this]; grind
    rw [ed]
    refine ⟨.inr ⟨hb, s, -t, R, S, X, U + Q * X, Q, ⟨hs, by omega, hr', er, by rw [hx]; grind, ?_, ml, Nat.add_pos_right _ (Nat.mul_pos hq px), ?_, ?_, e2, by grind, .inr ⟨px, ?_, ?_⟩⟩⟩, ?_⟩
    · rw [hu, hx]; push_cast; grind
    · rw [← det, ← dm]; grind
    · rw [← gcd, ← hS, Nat.gcd_comm G R, Nat.gcd_rec R G, Nat.gcd_comm]
    · rw [← det]
      have : Q * R + S = G := by rw [Nat.mul_comm]; exact dm
      rw [this]; omega
    · have : Q * R + S = G := by rw [Nat.mul_comm]; exact dm
      omega
    · rw [er, hr', nabs_sign hs, nabs_sign hs]; exact ml
/-- the sizes in the loop -/
theorem div_sizes {a b g u v r x y : Int} (h : DivSt a b g u v r x y) : x.natAbs ≤ max 1 b.natAbs ∧ u.natAbs ≤ max 1 b.natAbs ∧ y.natAbs ≤ 1 + a.natAbs ∧ v.natAbs ≤ 1 + a.natAbs ∧ g.natAbs ≤ max a.natAbs b.natAbs ∧ r.natAbs ≤ b.natAbs := by
  rcases h with ⟨rfl, rfl, rfl, rfl, rfl, rfl⟩ | ⟨hb, s, t, G, R, U, X, q, I⟩
  · omega
  · obtain ⟨hs, ht, hg, hr', hu, hx, lt, px, det, gcd, e1, e2, last⟩ := I
    have ex : x.natAbs = X := by rw [hx, Int.natAbs_neg]; exact nabs_sign ht X
    have eu : u.natAbs = U := by rw [hu]; exact nabs_sign ht U
    have eg : g.natAbs = G := by rw [hg]; exact nabs_sign hs G
    have er : r.natAbs = R := by rw [hr']; exact nabs_sign hs R
    have hG : 0 < G := by omega
    have hX : X ≤ X * G := Nat.le_mul_of_pos_right X hG
    have hB : 0 < b.natAbs := by omega
    -- v b = g - u a
    have k : ∀ (z w c : Int), z * a + w * b = c → z.natAbs ≤ b.natAbs → c.natAbs ≤ b.natAbs → w.natAbs ≤ 1 + a.natAbs := fun z w c e hz hc => by
      have e' : w * b = c - z * a := by omega
      have e3 : (w * b).natAbs ≤ c.natAbs + (z * a).natAbs := by rw [e']; omega
      rw [Int.natAbs_mul, Int.natAbs_mul] at e3
      have e4 : z.natAbs * a.natAbs ≤ b.natAbs * a.natAbs := Nat.mul_le_mul_right _ hz
      have e5 : w.natAbs * b.natAbs ≤ (1 + a.natAbs) * b.natAbs := by
        have : (1 + a.natAbs) * b.natAbs = b.natAbs + b.natAbs * a.natAbs := by grind
        omega
      exact Nat.le_of_mul_le_mul_right e5 hB
    have hXb : X ≤ b.natAbs := by omega
    have hGb : g.natAbs ≤ b.natAbs ∧ U ≤ b.natAbs := by
      rcases last with ⟨h1, h2, h3⟩ | ⟨hU, h1, h2⟩
      · rw [h3]; omega
      · have hX1 : G ≤ X * G := Nat.le_mul_of_pos_left G px
        have : U ≤ U * (q * G + R) := Nat.le_mul_of_pos_right U (by omega)
        omega
    have hRb : r.natAbs ≤ b.natAbs := by omega
    have k1 := k u v g e1 (by omega) hGb.1
    have k2 := k x y r e2 (by omega) hRb
    omega
theorem div_half {a b g u v : Int} (e1 : u * a + v * b = g) (hb : 0 < b.natAbs) (h1 : 2 * g.natAbs ≤ b.natAbs) (h2 : 2 * u.natAbs ≤ b.natAbs) : 2 * v.natAbs ≤ 1 + a.natAbs := by
  have e' : v * b = g - u * a := by omega
  have e3 : (v * b).natAbs ≤ g.natAbs + (u * a).natAbs := by rw [e']; omega
  rw [Int.natAbs_mul, Int.natAbs_mul] at e3
  have e4 : 2 * u.natAbs * a.natAbs ≤ b.natAbs * a.natAbs := Nat.mul_le_mul_right _ h2
  have x0 : 2 * u.natAbs * a.natAbs = 2 * (u.natAbs * a.natAbs) := Nat.mul_assoc _ _ _
  have x1 : (1 + a.natAbs) * b.natAbs = b.natAbs + b.natAbs * a.natAbs := by rw [Nat.add_mul, Nat.one_mul, Nat.mul_comm a.natAbs]
  have x2 : (2 * v.natAbs) * b.natAbs = 2 * (v.natAbs * b.natAbs) := Nat.mul_assoc _ _ _
  have e6 : (2 * v.natAbs) * b.natAbs ≤ (1 + a.natAbs) * b.natAbs := by omega
  exact Nat.le_of_mul_le_mul_right e6 hb
theorem div_end {a b g u v r x y : Int} (h : DivSt a b g u v r x y) (hr : r = 0) : Int.gcd a b = g.natAbs ∧ u * a + v * b = g ∧ u.natAbs ≤ max 1 b.natAbs ∧ v.natAbs ≤ max 1 a.natAbs := by
  rcases h with ⟨rfl, rfl, rfl, rfl, rfl, rfl⟩ | ⟨hb, s, t, G, R, U, X, q, I⟩
  · subst hr
    refine ⟨by simp, by omega, by omega, by omega⟩
  · have hsz := div_sizes (.inr ⟨hb, s, t, G, R, U, X, q, I⟩)
    obtain ⟨hs, ht, hg, hr', hu, hx, lt, px, det, gcd, e1, e2, last⟩ := I
    have er : r.natAbs = R := by rw [hr']; exact nabs_sign hs R
    have hR : R = 0 := by omega
    subst hR
    have eg : g.natAbs = G := by rw [hg]; exact nabs_sign hs G
    have eu : u.natAbs = U := by rw [hu]; exact nabs_sign ht U
    refine ⟨by rw [← gcd, eg]; simp, e1, hsz.2.1, ?_⟩
    rcases last with ⟨h1, h2, h3⟩ | ⟨hU, h1, h2⟩
    · rw [h2]; omega
    · have hq : 2 ≤ q := by
        rcases Nat.lt_or_ge q 2 with z | z
        · have : q = 0 ∨ q = 1 := by omega
          rcases this with rfl | rfl <;> omega
        · exact z
      have h3 : 2 * G ≤ q * G := Nat.mul_le_mul_right G hq
      have h4 : U * (2 * G) ≤ b.natAbs := Nat.le_trans (Nat.mul_le_mul_left U (by omega)) h1
      have z1 : 2 * G ≤ U * (2 * G) := Nat.le_mul_of_pos_left _ hU
      have z2 : U * (2 * G) = 2 * U * G := by grind
      have z3 : 2 * U ≤ 2 * U * G := Nat.le_mul_of_pos_right _ (by omega)
      have z4 := div_half e1 (by omega) (by omega) (by omega)
      have ha : a.natAbs = 0 → v.natAbs ≤ 1 := by omega
      omega
theorem div_told {a b g u v r x y : Int} (h : DivSt a b g u v r x y) (hr : r = 0) : (g < 0 → DivOk a b (-g) (-u) (-v)) ∧ (¬ g < 0 → DivOk a b g u v) := by
  obtain ⟨k1, k2, k3, k4⟩ := div_end h hr
  refine ⟨fun z => ⟨by omega, ?_, by omega, by omega⟩, fun z => ⟨by omega, k2, k3, k4⟩⟩
  rw [← k2, Int.neg_mul, Int.neg_mul]; omega
end M

/-! powers by n -/
namespace M
/-- the rest of a power -/
def pw (n a : Int) (e : Nat) : Int := a ^ e % n
theorem pw_range {n : Int} (hn : 0 < n) (a : Int) (e : Nat) : 0 ≤ pw n a e ∧ pw n a e < n := ⟨Int.emod_nonneg _ (by omega), Int.emod_lt_of_pos _ hn⟩
theorem pow_emod (a n : Int) (e : Nat) : (a % n) ^ e % n = a ^ e % n := by
  induction e with
  | zero => rw [Int.pow_zero, Int.pow_zero]
  | succ e ih => rw [Int.pow_succ, Int.pow_succ, Int.mul_emod, ih, Int.emod_emod_of_dvd _ (Int.dvd_refl n), ← Int.mul_emod]
theorem pw_mod (n a : Int) (e : Nat) : pw n (a % n) e = pw n a e := pow_emod a n e
/-- what the loop keeps: found * base ^ e -/
theorem pw_turn {n f b : Int} {e : Nat} {r : Int} (h : f * b ^ e % n = r) :
    (e % 2 = 1 → (f * b % n) * (b * b % n) ^ (e / 2) % n = r) ∧ (e % 2 ≠ 1 → f * (b * b % n) ^ (e / 2) % n = r) := by
  have sq : (b * b) ^ (e / 2) = b ^ (2 * (e / 2)) := by rw [Int.pow_mul, Int.pow_succ, Int.pow_succ, Int.pow_zero, Int.one_mul]
  constructor
  · intro ho
    have ee : e = 2 * (e / 2) + 1 := by omega
    rw [Int.mul_emod, Int.emod_emod_of_dvd _ (Int.dvd_refl n), pow_emod, ← Int.mul_emod, sq, ← h]
    conv => rhs; rw [ee, Int.pow_succ]
    congr 1
    grind
  · intro ho
    have ee : e = 2 * (e / 2) := by omega
    rw [Int.mul_emod, pow_emod, ← Int.mul_emod, sq, ← ee, h]
theorem pw_end {n f : Int} (h0 : 0 ≤ f) (h1 : f < n) {b r : Int} (h : f * b ^ 0 % n = r) : f = r := by
  rw [← h, Int.pow_zero, Int.mul_one, Int.emod_eq_of_lt h0 h1]
theorem pw_one {n a : Int} {e : Nat} : 1 % n * (a % n) ^ e % n = pw n a e := by
  rw [Int.mul_emod, Int.emod_emod_of_dvd _ (Int.dvd_refl n), pow_emod, ← Int.mul_emod, Int.one_mul]; rfl
theorem pw_mul (n a : Int) (e : Nat) : pw n a e * a % n = pw n a (e + 1) := by
  unfold pw
  rw [Int.mul_emod, Int.emod_emod_of_dvd _ (Int.dvd_refl n), ← Int.mul_emod, Int.pow_succ]
theorem pw_zero (n a : Int) : pw n a 0 = 1 % n := by unfold pw; rw [Int.pow_zero]
theorem gcd_mod (a n : Int) : Int.gcd (a % n) n = Int.gcd a n := by
  have e : a % n = a - n * (a / n) := by have := Int.emod_add_mul_ediv a n; omega
  rw [e, Int.gcd_comm, Int.gcd_sub_mul_left_right, Int.gcd_comm]
theorem inv_of {n a g u v : Int} (hn : 0 < n) (h : DivOk (a % n) n g u v) (hg : Int.gcd a n = 1) : (u % n * a - 1) % n = 0 := by
  have e := h.eq
  have hg' : g = 1 := by rw [h.hg, gcd_mod, hg]; rfl
  refine Int.emod_eq_zero_of_dvd ?_
  have e1 : a % n = a - n * (a / n) := by have := Int.emod_add_mul_ediv a n; omega
  have e2 : u % n = u - n * (u / n) := by have := Int.emod_add_mul_ediv u n; omega
  refine ⟨-(v) + u * (a / n) - (u / n) * a, ?_⟩
  rw [hg', e1] at e
  rw [e2]
  grind
theorem gcd_pos {a n : Int} (hn : 0 < n) : 0 < Int.gcd a n := Int.gcd_pos_of_ne_zero_right a (by omega)
/-- numbers with the same product by n -/
theorem inv_unit {n a b : Int} (h : (b * a - 1) % n = 0) : b * a % n = 1 % n := by
  have := Int.emod_emod_of_dvd (b * a) (Int.dvd_refl n)
  exact Int.emod_eq_emod_iff_emod_sub_eq_zero.mpr h
theorem inv_pow {n a b : Int} (h : (b * a - 1) % n = 0) (e : Nat) : (pw n b e * pw n a e - 1) % n = 0 := by
  have e1 : b * a % n = 1 % n := inv_unit h
  refine Int.emod_eq_emod_iff_emod_sub_eq_zero.mp ?_
  unfold pw
  rw [← Int.mul_emod, ← Int.mul_pow, ← pow_emod, e1, pow_emod, Int.one_pow]
theorem back_ok {n a b : Int} (hn : 0 < n) (h : (b * a - 1) % n = 0) (e : Nat) : (pw n b (e + 1) * pw n a e * a - 1) % n = 0 := by
  have k := inv_pow h (e + 1)
  rw [← pw_mul n a e] at k
  refine Int.emod_eq_emod_iff_emod_sub_eq_zero.mp ?_
  rw [← Int.emod_eq_emod_iff_emod_sub_eq_zero.mpr k, Int.mul_assoc, Int.mul_emod]
  conv => rhs; rw [Int.mul_emod, Int.emod_emod_of_dvd _ (Int.dvd_refl n)]
theorem gcd_abs (a : Int) {n : Int} (hn : 0 < n) : Nat.gcd n.natAbs (a.natAbs % n.natAbs) = Int.gcd a n := by
  rw [Nat.gcd_comm, ← Nat.gcd_rec, Nat.gcd_comm]; rfl
theorem pw_add (n a : Int) (e f : Nat) : pw n a (e + f) = pw n a e * pw n a f % n := by
  unfold pw
  rw [← Int.mul_emod, Int.pow_add]
theorem pw_pw (n a : Int) (e f : Nat) : pw n a (e * f) = pw n (pw n a e) f := by
  unfold pw
  rw [pow_emod, ← Int.pow_mul]
theorem pw_prod (n a b : Int) (e : Nat) : pw n (a * b) e = pw n a e * pw n b e % n := by
  unfold pw
  rw [← Int.mul_emod, Int.mul_pow]
theorem pw_congr {n a b : Int} (h : a % n = b % n) (e : Nat) : pw n a e = pw n b e := by rw [← pw_mod n a, ← pw_mod n b, h]
theorem inv_unique {n a b c : Int} (b0 : 0 ≤ b) (b1 : b < n) (c0 : 0 ≤ c) (c1 : c < n) (hb : (b * a - 1) % n = 0) (hc : (c * a - 1) % n = 0) : b = c := by
  have h1 : (b - c) % n = 0 := by
    obtain ⟨x, hx⟩ := Int.dvd_of_emod_eq_zero hb
    obtain ⟨y, hy⟩ := Int.dvd_of_emod_eq_zero hc
    refine Int.emod_eq_zero_of_dvd ⟨c * x - b * y, ?_⟩
    have e : b - c = c * (b * a - 1) - b * (c * a - 1) := by grind
    rw [e, hx, hy]; grind
  have h2 := Int.emod_eq_emod_iff_emod_sub_eq_zero.mpr h1
  rw [Int.emod_eq_of_lt b0 b1, Int.emod_eq_of_lt c0 c1] at h2
  exact h2
theorem emod_one_of {n x : Int} (h : (x - 1) % n = 0) : x % n = 1 % n := Int.emod_eq_emod_iff_emod_sub_eq_zero.mpr h
end M

/-! places put together -/
namespace M
theorem snoc_ind {α : Type} {motive : List α → Prop} (l : List α) (nil : motive []) (append_singleton : ∀ (l : List α) (a : α), motive l → motive (l ++ [a])) : motive l := by
  have h : ∀ r : List α, motive r.reverse := fun r => by
    induction r with
    | nil => exact nil
    | cons a r ih => rw [List.reverse_cons]; exact append_singleton _ _ ih
  have := h l.reverse
  rwa [List.reverse_reverse] at this
/-- alike by the greatest number that divides both moduli -/
def alike (m r n s : Int) : Prop := (r - s) % (Int.gcd m n : Nat) = 0
instance (m r n s : Int) : Decidable (alike m r n s) := by unfold alike; exact inferInstance
/-- G divides lcm a b: then it divides what gcd G a and gcd G b both divide -/
theorem dvd_of_parts {G a b y : Nat} (h : G ∣ Nat.lcm a b) (h1 : Nat.gcd G a ∣ y) (h2 : Nat.gcd G b ∣ y) : G ∣ y := by
  rcases Nat.eq_zero_or_pos G with z | hG
  · subst z
    have hl : Nat.lcm a b = 0 := Nat.eq_zero_of_zero_dvd h
    have : a = 0 ∨ b = 0 := by
      rcases Nat.eq_zero_or_pos a with q | q
      · exact .inl q
      · rcases Nat.eq_zero_or_pos b with q2 | q2
        · exact .inr q2
        · exact absurd hl (Nat.ne_of_gt (Nat.lcm_pos q q2))
    rcases this with rfl | rfl
    · simpa using h1
    · simpa using h2
  · have key : G ∣ Nat.lcm (Nat.gcd G a) (Nat.gcd G b) := by
      -- gcd G a * gcd G b = G * gcd G (gcd a b)
      have e1 : Nat.gcd (Nat.gcd G a) (Nat.gcd G b) = Nat.gcd G (Nat.gcd a b) := by
        apply Nat.dvd_antisymm
        · refine Nat.dvd_gcd (Nat.dvd_trans (Nat.gcd_dvd_left _ _) (Nat.gcd_dvd_left _ _)) (Nat.dvd_gcd ?_ ?_)
          · exact Nat.dvd_trans (Nat.gcd_dvd_left _ _) (Nat.gcd_dvd_right _ _)
          · exact Nat.dvd_trans (Nat.gcd_dvd_right _ _) (Nat.gcd_dvd_right _ _)
        · refine Nat.dvd_gcd (Nat.dvd_gcd (Nat.gcd_dvd_left _ _) ?_) (Nat.dvd_gcd (Nat.gcd_dvd_left _ _) ?_)
          · exact Nat.dvd_trans (Nat.gcd_dvd_right _ _) (Nat.gcd_dvd_left _ _)
          · exact Nat.dvd_trans (Nat.gcd_dvd_right _ _) (Nat.gcd_dvd_right _ _)
      have e2 : G * Nat.gcd G (Nat.gcd a b) ∣ Nat.gcd G a * Nat.gcd G b := by
        have l1 : G * Nat.gcd G (Nat.gcd a b) = Nat.gcd (G * G) (Nat.gcd (G * a) (G * b)) := by rw [Nat.gcd_mul_left, Nat.gcd_mul_left]
        have l2 : Nat.gcd G a * Nat.gcd G b = Nat.gcd (Nat.gcd (G * G) (G * b)) (Nat.gcd (a * G) (a * b)) := by rw [Nat.gcd_mul_left, Nat.gcd_mul_left, Nat.gcd_mul_right]
        rw [l1, l2]
        refine Nat.dvd_gcd (Nat.dvd_gcd ?_ ?_) (Nat.dvd_gcd ?_ ?_)
        · exact Nat.gcd_dvd_left _ _
        · exact Nat.dvd_trans (Nat.gcd_dvd_right _ _) (Nat.gcd_dvd_right _ _)
        · exact Nat.dvd_trans (Nat.gcd_dvd_right _ _) (by rw [Nat.mul_comm a G]; exact Nat.gcd_dvd_left _ _)
        · have e3 : a * b = Nat.gcd a b * Nat.lcm a b := (Nat.gcd_mul_lcm a b).symm
          rw [e3, Nat.mul_comm (Nat.gcd a b)]
          have e5 : Nat.gcd (G * G) (Nat.gcd (G * a) (G * b)) ∣ G * Nat.gcd a b := by
            refine Nat.dvd_trans (Nat.gcd_dvd_right _ _) ?_
            rw [Nat.gcd_mul_left]
            exact Nat.dvd_refl _
          exact Nat.dvd_trans e5 (Nat.mul_dvd_mul_right h _)
      have gp : 0 < Nat.gcd G (Nat.gcd a b) := Nat.gcd_pos_of_pos_left _ hG
      have e4 : Nat.gcd (Nat.gcd G a) (Nat.gcd G b) * Nat.lcm (Nat.gcd G a) (Nat.gcd G b) = Nat.gcd G a * Nat.gcd G b := Nat.gcd_mul_lcm _ _
      rw [e1] at e4
      rw [← e4, Nat.mul_comm G] at e2
      exact Nat.dvd_of_mul_dvd_mul_left gp e2
    exact Nat.dvd_trans key (Nat.lcm_dvd h1 h2)
/-- the join of two places -/
structure Joined (m r n s w x : Int) : Prop where
  hw : w = (Nat.lcm m.natAbs n.natAbs : Nat)
  x0 : 0 ≤ x
  x1 : x < w
  e1 : (x - r) % m = 0
  e2 : (x - s) % n = 0
theorem lcm_step {m n : Int} (hm : 0 < m) (hn : 0 < n) : m * (n / (Int.gcd m n : Nat)) = (Nat.lcm m.natAbs n.natAbs : Nat) := by
  obtain ⟨a, rfl⟩ := Int.eq_ofNat_of_zero_le (Int.le_of_lt hm)
  obtain ⟨b, rfl⟩ := Int.eq_ofNat_of_zero_le (Int.le_of_lt hn)
  show (a : Int) * ((b : Int) / ((Nat.gcd a b : Nat) : Int)) = ((Nat.lcm a b : Nat) : Int)
  rw [← Int.natCast_ediv, ← Int.natCast_mul]
  congr 1
  unfold Nat.lcm
  exact (Nat.mul_div_assoc a (Nat.gcd_dvd_right a b)).symm
theorem join_ok {m r n s i : Int} (hm : 0 < m) (hn : 0 < n) (ha : alike m r n s) (hi : (i * (m / (Int.gcd m n : Nat)) - 1) % (n / (Int.gcd m n : Nat)) = 0) :
    Joined m r n s (m * (n / (Int.gcd m n : Nat))) ((r + m * ((s - r) / (Int.gcd m n : Nat) * i % (n / (Int.gcd m n : Nat)))) % (m * (n / (Int.gcd m n : Nat)))) := by
  have gp : 0 < (Int.gcd m n : Nat) := Int.gcd_pos_of_ne_zero_left n (by omega)
  have gd1 : ((Int.gcd m n : Nat) : Int) ∣ m := Int.gcd_dvd_left ..
  have gd2 : ((Int.gcd m n : Nat) : Int) ∣ n := Int.gcd_dvd_right ..
  have ha' : ((Int.gcd m n : Nat) : Int) ∣ s - r := by
    have : ((Int.gcd m n : Nat) : Int) ∣ r - s := Int.dvd_of_emod_eq_zero ha
    have e : s - r = -(r - s) := by omega
    rw [e]; exact (Int.dvd_neg).mpr this
  have hl := lcm_step hm hn
  generalize ((Int.gcd m n : Nat) : Int) = g at *
  obtain ⟨a, rfl⟩ := gd1
  obtain ⟨b, rfl⟩ := gd2
  obtain ⟨c, hc⟩ := ha'
  have g0 : g ≠ 0 := by
    intro z; subst z; simp at hm
  rw [Int.mul_ediv_cancel_left _ g0] at hi hl ⊢
  rw [Int.mul_ediv_cancel_left _ g0] at hi
  rw [hc, Int.mul_ediv_cancel_left _ g0]
  have hw : 0 < g * a * b := by
    have hb : 0 < b * g := by rw [Int.mul_comm]; exact hn
    rw [hl]
    exact Int.natCast_pos.mpr (Nat.lcm_pos (by omega) (by omega))
  have hwne : g * a * b ≠ 0 := by omega
  refine ⟨hl, Int.emod_nonneg _ hwne, Int.emod_lt_of_pos _ hw, ?_, ?_⟩
  · -- by m
    refine Int.emod_eq_zero_of_dvd ?_
    have e := Int.emod_add_mul_ediv (r + g * a * (c * i % b)) (g * a * b)
    refine ⟨(c * i % b) - b * ((r + g * a * (c * i % b)) / (g * a * b)), ?_⟩
    grind
  · refine Int.emod_eq_zero_of_dvd ?_
    have e := Int.emod_add_mul_ediv (r + g * a * (c * i % b)) (g * a * b)
    have e2 := Int.emod_add_mul_ediv (c * i) b
    obtain ⟨k, hk⟩ := Int.dvd_of_emod_eq_zero hi
    -- a (c i - b q) = c + b (c k - a q)
    refine ⟨c * k - a * (c * i / b) - a * ((r + g * a * (c * i % b)) / (g * a * b)), ?_⟩
    generalize (r + g * a * (c * i % b)) / (g * a * b) = Q at *
    generalize (r + g * a * (c * i % b)) % (g * a * b) = X at *
    generalize c * i % b = T at *
    generalize c * i / b = Q2 at *
    have e3 : g * b * (c * k - a * Q2 - a * Q) = g * (c * (b * k)) - g * a * (b * Q2) - g * a * b * Q := by grind
    rw [e3, ← hk]
    grind
/-- the least number that all moduli divide -/
def lcmL (pl : List (Int × Int)) : Nat := pl.foldl (fun w q => Nat.lcm w q.1.natAbs) 1
theorem lcmL_snoc (pl : List (Int × Int)) (q : Int × Int) : lcmL (pl ++ [q]) = Nat.lcm (lcmL pl) q.1.natAbs := by unfold lcmL; rw [List.foldl_append]; rfl
theorem dvd_of_all (y : Nat) : ∀ (pl : List (Int × Int)) (G : Nat), G ∣ lcmL pl → (∀ q ∈ pl, Nat.gcd G q.1.natAbs ∣ y) → G ∣ y := by
  intro pl
  induction pl using snoc_ind with
  | nil => intro G h _; exact Nat.dvd_trans h (Nat.one_dvd y)
  | append_singleton pl q ih =>
    intro G h hq
    rw [lcmL_snoc] at h
    refine dvd_of_parts h (ih _ (Nat.gcd_dvd_right _ _) fun p hp => ?_) (hq q (by simp))
    refine Nat.dvd_trans (Nat.dvd_gcd ?_ (Nat.gcd_dvd_right _ _)) (hq p (by simp [hp]))
    exact Nat.dvd_trans (Nat.gcd_dvd_left _ _) (Nat.gcd_dvd_left _ _)
/-- places put together so far -/
structure Put (pl : List (Int × Int)) (w x : Int) : Prop where
  hw : w = (lcmL pl : Nat)
  x0 : 0 ≤ x
  x1 : x < w
  at_ : ∀ q ∈ pl, (x - q.2) % q.1 = 0
theorem put_nil : Put [] 1 0 := ⟨rfl, by decide, by decide, by simp⟩
theorem put_pos {pl : List (Int × Int)} {w x : Int} (h : Put pl w x) : 0 < w := by have := h.x0; have := h.x1; omega
theorem put_alike {pl : List (Int × Int)} {w x n s : Int} (h : Put pl w x) (ha : ∀ q ∈ pl, alike q.1 q.2 n s) : alike w x n s := by
  have key : Int.gcd w n ∣ (x - s).natAbs := by
    refine dvd_of_all _ pl _ ?_ fun q hq => ?_
    · have e : w.natAbs = lcmL pl := by have := h.hw; omega
      rw [← e]; exact Nat.gcd_dvd_left _ _
    · have d1 : Nat.gcd (Int.gcd w n) q.1.natAbs ∣ q.1.natAbs := Nat.gcd_dvd_right _ _
      have d2 : Nat.gcd (Int.gcd w n) q.1.natAbs ∣ Int.gcd q.1 n := Nat.dvd_gcd d1 (Nat.dvd_trans (Nat.gcd_dvd_left _ _) (Nat.gcd_dvd_right _ _))
      have z1 : ((Nat.gcd (Int.gcd w n) q.1.natAbs : Nat) : Int) ∣ x - q.2 := Int.dvd_trans (Int.ofNat_dvd_left.mpr d1) (Int.dvd_of_emod_eq_zero (h.at_ q hq))
      have z2 : ((Nat.gcd (Int.gcd w n) q.1.natAbs : Nat) : Int) ∣ q.2 - s := Int.dvd_trans (Int.natCast_dvd_natCast.mpr d2) (Int.dvd_of_emod_eq_zero (ha q hq))
      have z3 := Int.dvd_add z1 z2
      rw [show x - q.2 + (q.2 - s) = x - s by omega] at z3
      exact Int.ofNat_dvd_left.mp z3
  exact Int.emod_eq_zero_of_dvd (Int.ofNat_dvd_left.mpr key)
theorem put_more {pl : List (Int × Int)} {w x n s w' x' : Int} (h : Put pl w x) (j : Joined w x n s w' x') : Put (pl ++ [(n, s)]) w' x' := by
  refine ⟨?_, j.x0, j.x1, fun q hq => ?_⟩
  · rw [j.hw, lcmL_snoc]
    have e : w.natAbs = lcmL pl := by have := h.hw; omega
    rw [e]
  · rcases List.mem_append.mp hq with z | z
    · have hd : q.1 ∣ w := by
        -- each modulus divides the whole
        have hh := h.hw
        have : ∀ (l : List (Int × Int)) (p : Int × Int), p ∈ l → p.1.natAbs ∣ lcmL l := by
          intro l
          induction l using snoc_ind with
          | nil => intro p hp; simp at hp
          | append_singleton l r ih =>
            intro p hp
            rw [lcmL_snoc]
            rcases List.mem_append.mp hp with u | u
            · exact Nat.dvd_trans (ih p u) (Nat.dvd_lcm_left _ _)
            · rw [List.mem_singleton.mp u]; exact Nat.dvd_lcm_right _ _
        rw [hh]
        exact Int.ofNat_dvd_right.mpr (this pl q z)
      have e1 : w ∣ x' - x := Int.dvd_of_emod_eq_zero j.e1
      have e2 : q.1 ∣ x - q.2 := Int.dvd_of_emod_eq_zero (h.at_ q z)
      have e3 := Int.dvd_add (Int.dvd_trans hd e1) e2
      rw [show x' - x + (x - q.2) = x' - q.2 by omega] at e3
      exact Int.emod_eq_zero_of_dvd e3
    · rw [List.mem_singleton.mp z]; exact j.e2
/-- no two of them are apart -/
def allAlike (pl : List (Int × Int)) : Prop := ∀ (i j : Nat) (p q : Int × Int), i < j → pl[i]? = some p → pl[j]? = some q → alike p.1 p.2 q.1 q.2
def alikeBefore (pl : List (Int × Int)) (i j : Nat) : Prop := ∀ (i' j' : Nat) (p q : Int × Int), i' < j' → (i' < i ∨ i' = i ∧ j' < j) → pl[i']? = some p → pl[j']? = some q → alike p.1 p.2 q.1 q.2
def firstApart (pl : List (Int × Int)) (i j : Nat) : Prop := i < j ∧ (∃ p q, pl[i]? = some p ∧ pl[j]? = some q ∧ ¬alike p.1 p.2 q.1 q.2) ∧ alikeBefore pl i j
theorem before_row {pl : List (Int × Int)} {i : Nat} (h : alikeBefore pl i pl.length) : alikeBefore pl (i + 1) (i + 2) := fun i' j' p q l o hp hq => by
  have hj : j' < pl.length := (List.getElem?_eq_some_iff.mp hq).1
  refine h i' j' p q l ?_ hp hq
  omega
theorem before_one {pl : List (Int × Int)} {i j : Nat} {p q : Int × Int} (h : alikeBefore pl i j) (hp : pl[i]? = some p) (hq : pl[j]? = some q) (ha : alike p.1 p.2 q.1 q.2) : alikeBefore pl i (j + 1) := fun i' j' p' q' l o hp' hq' => by
  by_cases e : i' = i ∧ j' = j
  · obtain ⟨rfl, rfl⟩ := e
    rw [hp] at hp'; rw [hq] at hq'
    cases hp'; cases hq'; exact ha
  · exact h i' j' p' q' l (by omega) hp' hq'
theorem before_zero (pl : List (Int × Int)) : alikeBefore pl 0 1 := fun i' j' p q l o hp hq => by omega
theorem before_all {pl : List (Int × Int)} {j : Nat} (h : alikeBefore pl pl.length j) : allAlike pl := fun i' j' p q l hp hq => by
  have hj : i' < pl.length := (List.getElem?_eq_some_iff.mp hp).1
  exact h i' j' p q l (.inl hj) hp hq
theorem put_le {pl : List (Int × Int)} {w x : Int} (h : Put pl w x) (hm : ∀ q ∈ pl, 0 < q.1 ∧ q.1 < 2 ^ 60) (hl : pl.length ≤ 12) : w < 2 ^ 721 := by
  have key : ∀ l : List (Int × Int), (∀ q ∈ l, 0 < q.1 ∧ q.1 < 2 ^ 60) → lcmL l ≤ 2 ^ (60 * l.length) := fun l => by
    refine snoc_ind (motive := fun l => (∀ q ∈ l, 0 < q.1 ∧ q.1 < 2 ^ 60) → lcmL l ≤ 2 ^ (60 * l.length)) l (fun _ => by decide) (fun l q ih hq => ?_)
    rw [lcmL_snoc, List.length_append]
    have h1 := ih fun p hp => hq p (by simp [hp])
    have h2 := hq q (by simp)
    have h3 : Nat.lcm (lcmL l) q.1.natAbs ≤ lcmL l * q.1.natAbs := Nat.div_le_self _ _
    have h4 : lcmL l * q.1.natAbs ≤ 2 ^ (60 * l.length) * 2 ^ 60 := Nat.mul_le_mul h1 (by omega)
    rw [← Nat.pow_add] at h4
    exact Nat.le_trans h3 h4
  have h1 := key pl hm
  have h2 : 2 ^ (60 * pl.length) ≤ 2 ^ 720 := Nat.pow_le_pow_right (by decide) (by omega)
  have h3 := h.hw
  have h4 : lcmL pl ≤ 2 ^ 720 := Nat.le_trans h1 h2
  have h5 : (2 : Nat) ^ 720 < 2 ^ 721 := Nat.pow_lt_pow_right (by decide) (by decide)
  have h6 : ((lcmL pl : Nat) : Int) < ((2 ^ 721 : Nat) : Int) := Int.ofNat_lt.mpr (Nat.lt_of_le_of_lt h4 h5)
  rw [h3]
  exact_mod_cast h6
theorem put_two {c d : Nat} {r s w x : Int} (h : Put [((c : Int), r), ((d : Int), s)] w x) : w = (c : Int) / ((Nat.gcd c d : Nat) : Int) * d := by
  rw [h.hw, ← Int.natCast_ediv, ← Int.natCast_mul]
  congr 1
  show Nat.lcm (Nat.lcm 1 c) d = _
  rw [Nat.lcm_one_left]
  unfold Nat.lcm
  rw [Nat.mul_comm c d, Nat.mul_div_assoc d (Nat.gcd_dvd_left c d), Nat.mul_comm]
theorem put_unique {pl : List (Int × Int)} {w x w' x' : Int} (h : Put pl w x) (h' : Put pl w' x') : w = w' ∧ x = x' := by
  have ew : w = w' := by rw [h.hw, h'.hw]
  refine ⟨ew, ?_⟩
  have key : ∀ (y : Int) (l : List (Int × Int)), (∀ q ∈ l, q.1 ∣ y) → ((lcmL l : Nat) : Int) ∣ y := fun y l => by
    refine snoc_ind (motive := fun l => (∀ q ∈ l, q.1 ∣ y) → ((lcmL l : Nat) : Int) ∣ y) l (fun _ => Int.one_dvd _) (fun l q ih hq => ?_)
    rw [lcmL_snoc]
    have h1 := ih fun p hp => hq p (by simp [hp])
    have h2 := hq q (by simp)
    exact Int.ofNat_dvd_left.mpr (Nat.lcm_dvd (Int.ofNat_dvd_left.mp h1) (Int.natAbs_dvd_natAbs.mpr h2))
  have d := key (x - x') pl fun q hq => by
    have d1 := Int.dvd_of_emod_eq_zero (h.at_ q hq)
    have d2 := Int.dvd_of_emod_eq_zero (h'.at_ q hq)
    have d3 := Int.dvd_sub d1 d2
    rw [show x - q.2 - (x' - q.2) = x - x' by omega] at d3
    exact d3
  rw [← h.hw] at d
  have z := Int.emod_eq_emod_iff_emod_sub_eq_zero.mpr (Int.emod_eq_zero_of_dvd d)
  have a0 := h.x0
  have a1 := h.x1
  have b0 := h'.x0
  have b1 := h'.x1
  rw [Int.emod_eq_of_lt a0 a1, Int.emod_eq_of_lt b0 (by omega)] at z
  exact z
theorem lcm_lt (pl : List (Int × Int)) (hm : ∀ q ∈ pl, 0 < q.1 ∧ q.1 < 2 ^ 60) (hl : pl.length ≤ 12) : lcmL pl < 2 ^ 721 := by
  have key : ∀ l : List (Int × Int), (∀ q ∈ l, 0 < q.1 ∧ q.1 < 2 ^ 60) → lcmL l ≤ 2 ^ (60 * l.length) := fun l => by
    refine snoc_ind (motive := fun l => (∀ q ∈ l, 0 < q.1 ∧ q.1 < 2 ^ 60) → lcmL l ≤ 2 ^ (60 * l.length)) l (fun _ => by decide) (fun l q ih hq => ?_)
    rw [lcmL_snoc, List.length_append]
    have h1 := ih fun p hp => hq p (by simp [hp])
    have h2 := hq q (by simp)
    have h3 : Nat.lcm (lcmL l) q.1.natAbs ≤ lcmL l * q.1.natAbs := Nat.div_le_self _ _
    have h4 : lcmL l * q.1.natAbs ≤ 2 ^ (60 * l.length) * 2 ^ 60 := Nat.mul_le_mul h1 (by omega)
    rw [← Nat.pow_add] at h4
    exact Nat.le_trans h3 h4
  have h1 := key pl hm
  have h2 : 2 ^ (60 * pl.length) ≤ 2 ^ 720 := Nat.pow_le_pow_right (by decide) (by omega)
  have h5 : (2 : Nat) ^ 720 < 2 ^ 721 := Nat.pow_lt_pow_right (by decide) (by decide)
  exact Nat.lt_of_le_of_lt (Nat.le_trans h1 h2) h5
theorem lcm_pos (pl : List (Int × Int)) (hm : ∀ q ∈ pl, 0 < q.1) : 0 < lcmL pl := by
  refine snoc_ind (motive := fun l => (∀ q ∈ l, 0 < q.1) → 0 < lcmL l) pl (fun _ => by decide) (fun l q ih hq => ?_) hm
  rw [lcmL_snoc]
  have := hq q (by simp)
  exact Nat.lcm_pos (ih fun p hp => hq p (by simp [hp])) (by omega)
theorem first_unique {pl : List (Int × Int)} {i j i' j' : Nat} (h : firstApart pl i j) (h' : firstApart pl i' j') : i = i' ∧ j = j' := by
  obtain ⟨l, ⟨p, q, hp, hq, z⟩, b⟩ := h
  obtain ⟨l', ⟨p', q', hp', hq', z'⟩, b'⟩ := h'
  by_cases c : i < i' ∨ i = i' ∧ j < j'
  · exact absurd (b' i j p q l c hp hq) z
  · by_cases c' : i' < i ∨ i' = i ∧ j' < j
    · exact absurd (b i' j' p' q' l' c' hp' hq') z'
    · omega
end M

/-! primes -/
namespace M
def Prime (p : Nat) : Prop := 2 ≤ p ∧ ∀ d, d ∣ p → d = 1 ∨ d = p
theorem Prime.pos {p : Nat} (h : Prime p) : 0 < p := by have := h.1; omega
theorem Prime.coprime {p a : Nat} (h : Prime p) (ha : ¬ p ∣ a) : Nat.gcd p a = 1 := by
  rcases h.2 _ (Nat.gcd_dvd_left p a) with e | e
  · exact e
  · exact absurd (e ▸ Nat.gcd_dvd_right p a) ha
theorem Prime.dvd_mul {p a b : Nat} (h : Prime p) (hd : p ∣ a * b) : p ∣ a ∨ p ∣ b := by
  by_cases ha : p ∣ a
  · exact .inl ha
  · exact .inr (Nat.Coprime.dvd_of_dvd_mul_left (h.coprime ha) hd)
theorem Prime.dvd_pow {p a : Nat} (h : Prime p) : ∀ {e : Nat}, p ∣ a ^ e → p ∣ a
  | 0, hd => by
    rw [Nat.pow_zero] at hd
    have := Nat.le_of_dvd (by decide) hd
    have := h.1; omega
  | e + 1, hd => by
    rw [Nat.pow_succ] at hd
    rcases h.dvd_mul hd with z | z
    · exact h.dvd_pow z
    · exact z
theorem Prime.eq_of_dvd {p q : Nat} (hp : Prime p) (hq : Prime q) (h : p ∣ q) : p = q := by
  rcases hq.2 p h with e | e
  · have := hp.1; omega
  · exact e
/-- each number from 2 on has a least divisor, a prime -/
theorem exists_prime : ∀ (n : Nat), 2 ≤ n → ∃ p, Prime p ∧ p ∣ n := by
  intro n
  induction n using Nat.strongRecOn with
  | _ n ih =>
    intro hn
    by_cases h : ∃ d, d ∣ n ∧ d ≠ 1 ∧ d ≠ n
    · obtain ⟨d, h1, h2, h3⟩ := h
      have hd : d ≤ n := Nat.le_of_dvd (by omega) h1
      have h0 : d ≠ 0 := fun z => by rw [z] at h1; have := Nat.eq_zero_of_zero_dvd h1; omega
      obtain ⟨p, hp, hpd⟩ := ih d (by omega) (by omega)
      exact ⟨p, hp, Nat.dvd_trans hpd h1⟩
    · refine ⟨n, ⟨hn, fun d hd => ?_⟩, Nat.dvd_refl n⟩
      by_cases h1 : d = 1
      · exact .inl h1
      · by_cases h2 : d = n
        · exact .inr h2
        · exact absurd ⟨d, hd, h1, h2⟩ h
/-- no lesser divisor from 2 to the root -/
theorem prime_of_no {n : Nat} (hn : 2 ≤ n) (h : ∀ d, 2 ≤ d → d * d ≤ n → ¬ d ∣ n) : Prime n := by
  obtain ⟨p, hp, hd⟩ := exists_prime n hn
  obtain ⟨c, hc⟩ := hd
  by_cases e : c = 1
  · subst e
    rw [Nat.mul_one] at hc
    rw [hc]; exact hp
  · exfalso
    have hc0 : 2 ≤ c := by
      rcases Nat.lt_or_ge c 2 with z | z
      · have : c = 0 ∨ c = 1 := by omega
        rcases this with rfl | rfl
        · omega
        · exact absurd rfl e
      · exact z
    have hp2 := hp.1
    rcases Nat.le_total p c with z | z
    · refine h p hp2 ?_ ⟨c, hc⟩
      rw [hc]; exact Nat.mul_le_mul_left p z
    · refine h c hc0 ?_ ⟨p, by rw [hc, Nat.mul_comm]⟩
      rw [hc]; exact Nat.mul_le_mul_right c z
/-- powers of a prime: what is left without it -/
theorem split_prime {q : Nat} (hq : Prime q) : ∀ (n : Nat), 0 < n → ∃ k m, n = q ^ k * m ∧ ¬ q ∣ m ∧ 0 < m := by
  intro n
  induction n using Nat.strongRecOn with
  | _ n ih =>
    intro hn
    by_cases h : q ∣ n
    · obtain ⟨c, hc⟩ := h
      have hc0 : 0 < c := by
        rcases Nat.eq_zero_or_pos c with z | z
        · rw [z] at hc; omega
        · exact z
      have hq2 := hq.1
      have hlt : c < n := by
        rw [hc]
        have : 2 * c ≤ q * c := Nat.mul_le_mul_right c hq2
        omega
      obtain ⟨k, m, h1, h2, h3⟩ := ih c hlt hc0
      exact ⟨k + 1, m, by rw [hc, h1, Nat.pow_succ]; grind, h2, h3⟩
    · exact ⟨0, n, by simp, h, hn⟩
theorem coprime_pow {q m : Nat} (hq : Prime q) (h : ¬ q ∣ m) (k : Nat) : Nat.gcd (q ^ k) m = 1 := Nat.Coprime.pow_left k (hq.coprime h)
/-- n divides m where each power of a prime that divides n does -/
theorem dvd_of_prime_powers : ∀ (n m : Nat), 0 < n → (∀ q k, Prime q → q ^ k ∣ n → q ^ k ∣ m) → n ∣ m := by
  intro n
  induction n using Nat.strongRecOn with
  | _ n ih =>
    intro m hn h
    by_cases h1 : n = 1
    · rw [h1]; exact Nat.one_dvd m
    · obtain ⟨q, hq, hd⟩ := exists_prime n (by omega)
      obtain ⟨k, c, e, hc, hc0⟩ := split_prime hq n hn
      have hk : 0 < k := by
        rcases Nat.eq_zero_or_pos k with z | z
        · rw [z, Nat.pow_zero, Nat.one_mul] at e; rw [e] at hd; exact absurd hd hc
        · exact z
      have hlt : c < n := by
        rw [e]
        have : q ^ 1 ≤ q ^ k := Nat.pow_le_pow_right hq.pos hk
        have h2 := hq.1
        rw [Nat.pow_one] at this
        have : 2 * c ≤ q ^ k * c := Nat.mul_le_mul_right c (by omega)
        omega
      have d1 : q ^ k ∣ m := h q k hq ⟨c, e⟩
      have d2 : c ∣ m := ih c hlt m hc0 fun r j hr hj => h r j hr (Nat.dvd_trans hj ⟨q ^ k, by rw [e, Nat.mul_comm]⟩)
      rw [e]
      exact Nat.Coprime.mul_dvd_of_dvd_of_dvd (coprime_pow hq hc k) d1 d2
end M

/-! numbers parted into primes -/
namespace M
def prodL : List (Nat × Nat) → Nat
  | [] => 1
  | x :: l => x.1 ^ x.2 * prodL l
theorem prodL_app (l m : List (Nat × Nat)) : prodL (l ++ m) = prodL l * prodL m := by
  induction l with
  | nil => simp [prodL]
  | cons x l ih => simp only [List.cons_append, prodL, ih]; grind
structure IsFac (n : Nat) (l : List (Nat × Nat)) : Prop where
  sorted : l.Pairwise (fun x y => x.1 < y.1)
  primes : ∀ x ∈ l, Prime x.1 ∧ 0 < x.2
  prod : prodL l = n
/-- so far: the primes below d are taken out -/
structure Fac (n0 : Nat) (l : List (Nat × Nat)) (n d : Nat) : Prop where
  sorted : l.Pairwise (fun x y => x.1 < y.1)
  below : ∀ x ∈ l, x.1 < d
  primes : ∀ x ∈ l, Prime x.1 ∧ 0 < x.2
  prod : prodL l * n = n0
  no : ∀ e, 2 ≤ e → e < d → ¬ e ∣ n
  npos : 0 < n
  dtwo : 2 ≤ d
theorem fac_start {n : Nat} (h : 0 < n) : Fac n [] n 2 := ⟨.nil, by simp, by simp, by simp [prodL], fun e h1 h2 => by omega, h, Nat.le_refl 2⟩
theorem fac_end {n0 n d : Nat} {l : List (Nat × Nat)} (h : Fac n0 l n d) (hn : n ≤ 1) : IsFac n0 l := by
  have : n = 1 := by have := h.npos; omega
  subst this
  exact ⟨h.sorted, h.primes, by rw [← h.prod, Nat.mul_one]⟩
section
variable {n0 n d : Nat} {l : List (Nat × Nat)}
theorem fac_le (h : Fac n0 l n d) (hn : 1 < n) : d ≤ n := by
  rcases Nat.lt_or_ge n d with z | z
  · exact absurd (Nat.dvd_refl n) (h.no n hn z)
  · exact z
/-- beyond the root what is left is a prime -/
theorem fac_jump (h : Fac n0 l n d) (hn : 1 < n) (hd : n < d * d) : Fac n0 l n n := by
  have hl := fac_le h hn
  refine ⟨h.sorted, fun x hx => Nat.lt_of_lt_of_le (h.below x hx) hl, h.primes, h.prod, fun e h1 h2 hd' => ?_, h.npos, hn⟩
  obtain ⟨c, hc⟩ := hd'
  have e1 : d ≤ e := by
    rcases Nat.lt_or_ge e d with z | z
    · exact absurd ⟨c, hc⟩ (h.no e h1 z)
    · exact z
  have c2 : 2 ≤ c := by
    rcases Nat.lt_or_ge c 2 with z | z
    · have : c = 0 ∨ c = 1 := by omega
      rcases this with rfl | rfl <;> omega
    · exact z
  have e2 : d ≤ c := by
    rcases Nat.lt_or_ge c d with z | z
    · exact absurd ⟨e, by rw [hc, Nat.mul_comm]⟩ (h.no c c2 z)
    · exact z
  have := Nat.mul_le_mul e1 e2
  omega
theorem fac_prime (h : Fac n0 l n d) (hd : d ∣ n) : Prime d := prime_of_no h.dtwo fun e h1 h2 h3 => by
  have : e < d := by
    rcases Nat.lt_or_ge e d with z | z
    · exact z
    · have := Nat.mul_le_mul z h1
      have h4 := h.dtwo
      have h5 : d * 2 ≤ e * e := Nat.le_trans this (Nat.le_refl _)
      omega
  exact h.no e h1 this (Nat.dvd_trans h3 hd)
theorem dvd_pow_self (d : Nat) {k : Nat} (hk : 0 < k) : d ∣ d ^ k := by
  obtain ⟨j, rfl⟩ : ∃ j, k = j + 1 := ⟨k - 1, by omega⟩
  rw [Nat.pow_succ]; exact Nat.dvd_mul_left d _
/-- d taken out k times, m left -/
theorem fac_step {k m : Nat} (h : Fac n0 l n d) (e : n = d ^ k * m) (hm : ¬ d ∣ m) : Fac n0 (if 0 < k then l ++ [(d, k)] else l) m (d + 1) := by
  have m0 : 0 < m := Nat.pos_of_ne_zero fun z => by rw [z, Nat.mul_zero] at e; have := h.npos; omega
  have hno : ∀ f, 2 ≤ f → f < d + 1 → ¬ f ∣ m := fun f h1 h2 h3 => by
    by_cases hf : f = d
    · exact hm (hf ▸ h3)
    · exact h.no f h1 (by omega) (by rw [e]; exact Nat.dvd_trans h3 (Nat.dvd_mul_left m _))
  have hd2 := h.dtwo
  by_cases hk : 0 < k
  · rw [if_pos hk]
    have hdn : d ∣ n := by
      rw [e]
      exact Nat.dvd_trans (dvd_pow_self d hk) (Nat.dvd_mul_right _ _)
    refine ⟨?_, fun x hx => ?_, fun x hx => ?_, ?_, hno, m0, by omega⟩
    · refine List.pairwise_append.mpr ⟨h.sorted, List.pairwise_singleton _ _, fun x hx y hy => ?_⟩
      rw [List.mem_singleton.mp hy]; exact h.below x hx
    · rcases List.mem_append.mp hx with z | z
      · have := h.below x z; omega
      · rw [List.mem_singleton.mp z]; exact Nat.lt_succ_self d
    · rcases List.mem_append.mp hx with z | z
      · exact h.primes x z
      · rw [List.mem_singleton.mp z]; exact ⟨fac_prime h hdn, hk⟩
    · rw [prodL_app, ← h.prod, e]; simp only [prodL]; grind
  · have k0 : k = 0 := by omega
    subst k0
    rw [if_neg (by omega)]
    have e' : n = m := by rw [e, Nat.pow_zero, Nat.one_mul]
    exact ⟨h.sorted, fun x hx => by have := h.below x hx; omega, h.primes, by rw [← e']; exact h.prod, hno, m0, by omega⟩
/-- an even number more may be left out -/
theorem fac_odd (h : Fac n0 l n d) (h2 : 2 < d) (he : d % 2 = 0) : Fac n0 l n (d + 1) := by
  refine ⟨h.sorted, fun x hx => by have := h.below x hx; omega, h.primes, h.prod, fun f h1 h3 h4 => ?_, h.npos, by omega⟩
  by_cases hf : f = d
  · have : 2 ∣ f := by rw [hf]; exact Nat.dvd_of_mod_eq_zero he
    exact h.no 2 (by decide) h2 (Nat.dvd_trans this h4)
  · exact h.no f h1 (by omega) h4
end
/-! what a parting tells -/
theorem prodL_dvd {l : List (Nat × Nat)} {x : Nat × Nat} (h : x ∈ l) : x.1 ^ x.2 ∣ prodL l := by
  induction l with
  | nil => simp at h
  | cons y l ih =>
    rcases List.mem_cons.mp h with z | z
    · rw [z]; exact Nat.dvd_mul_right _ _
    · exact Nat.dvd_trans (ih z) (Nat.dvd_mul_left _ _)
theorem fac_dvd {n : Nat} {l : List (Nat × Nat)} (h : IsFac n l) {x : Nat × Nat} (hx : x ∈ l) : x.1 ∣ n := by
  rw [← h.prod]
  refine Nat.dvd_trans ?_ (prodL_dvd hx)
  obtain ⟨j, e⟩ : ∃ j, x.2 = j + 1 := ⟨x.2 - 1, by have := (h.primes x hx).2; omega⟩
  rw [e, Nat.pow_succ]; exact Nat.dvd_mul_left _ _
theorem prime_in {l : List (Nat × Nat)} {q : Nat} (hq : Prime q) (hl : ∀ x ∈ l, Prime x.1 ∧ 0 < x.2) (h : q ∣ prodL l) : ∃ k, (q, k) ∈ l := by
  induction l with
  | nil =>
    simp only [prodL] at h
    have := Nat.le_of_dvd (by decide) h
    have := hq.1; omega
  | cons x l ih =>
    simp only [prodL] at h
    rcases hq.dvd_mul h with z | z
    · have := hq.eq_of_dvd (hl x (by simp)).1 (hq.dvd_pow z)
      exact ⟨x.2, by rw [this]; simp⟩
    · obtain ⟨k, hk⟩ := ih (fun y hy => hl y (by simp [hy])) z
      exact ⟨k, by simp [hk]⟩
theorem fac_prime_in {n q : Nat} {l : List (Nat × Nat)} (h : IsFac n l) (hq : Prime q) (hd : q ∣ n) : ∃ k, (q, k) ∈ l := prime_in hq h.primes (by rw [h.prod]; exact hd)
theorem Fac.of {n : Nat} {l : List (Nat × Nat)} (h : IsFac n l) (hn : 0 < n) : ∃ d, Fac n l 1 d := by
  have : ∃ d, ∀ x ∈ l, x.1 < d := by
    have key : ∀ l : List (Nat × Nat), ∃ d, ∀ x ∈ l, x.1 < d := fun l => by
      induction l with
      | nil => exact ⟨0, by simp⟩
      | cons y l ih =>
        obtain ⟨d, hd⟩ := ih
        exact ⟨d + y.1 + 1, fun x hx => by
          rcases List.mem_cons.mp hx with z | z
          · rw [z]; omega
          · have := hd x z; omega⟩
    exact key l
  obtain ⟨d, hd⟩ := this
  refine ⟨d + 2, h.sorted, fun x hx => by have := hd x hx; omega, h.primes, by rw [Nat.mul_one]; exact h.prod, fun e h1 h2 h3 => ?_, by decide, by omega⟩
  have := Nat.le_of_dvd (by decide) h3
  omega
end M

/-! orders by a prime, and a number of the order p - 1 -/
namespace M
/-! roots of a polynomial by a prime -/
def ev (l : List Int) (x : Int) : Int := l.foldr (fun c acc => c + x * acc) 0
theorem ev_cons (c : Int) (l : List Int) (x : Int) : ev (c :: l) x = c + x * ev l x := rfl
def sd (r : Int) : List Int → List Int
  | [] => []
  | [_] => []
  | _ :: d :: l => ev (d :: l) r :: sd r (d :: l)
def lead (l : List Int) : Int := l.getLast?.getD 0
theorem sd_len (r : Int) : ∀ (c : Int) (l : List Int), (sd r (c :: l)).length = l.length
  | _, [] => rfl
  | _, d :: l => by rw [sd, List.length_cons, List.length_cons, sd_len r d l]
theorem sd_ev (r x : Int) : ∀ (c : Int) (l : List Int), ev (c :: l) x - ev (c :: l) r = (x - r) * ev (sd r (c :: l)) x
  | c, [] => by simp [ev, sd]
  | c, d :: l => by
    have ih := sd_ev r x d l
    show (c + x * ev (d :: l) x) - (c + r * ev (d :: l) r) = (x - r) * (ev (d :: l) r + x * ev (sd r (d :: l)) x)
    generalize ev (d :: l) x = A at *
    generalize ev (d :: l) r = B at *
    generalize ev (sd r (d :: l)) x = C at *
    grind
theorem sd_lead (r : Int) : ∀ (c d : Int) (l : List Int), lead (sd r (c :: d :: l)) = lead (c :: d :: l)
  | c, d, [] => by simp [sd, lead, ev]
  | c, d, e :: l => by
    have ih := sd_lead r d e l
    rw [sd]
    unfold lead at *
    rw [List.getLast?_cons_cons] 
    have h : sd r (d :: e :: l) ≠ [] := by rw [sd]; simp
    rw [List.getLast?_cons_of_ne_nil h]
    exact ih
theorem dvd_mul_int {p : Nat} (hp : Prime p) {a b : Int} (h : (p : Int) ∣ a * b) : (p : Int) ∣ a ∨ (p : Int) ∣ b := by
  have h1 := Int.ofNat_dvd_left.mp h
  rw [Int.natAbs_mul] at h1
  rcases hp.dvd_mul h1 with z | z
  · exact .inl (Int.ofNat_dvd_left.mpr z)
  · exact .inr (Int.ofNat_dvd_left.mpr z)
/-- as many roots, apart by p, as coefficients: the leading one is divided -/
theorem roots_lead {p : Nat} (hp : Prime p) : ∀ (d : Nat) (c : List Int) (rs : List Int), c.length = d + 1 → rs.length = d + 1 → rs.Pairwise (fun x y => ¬ (p : Int) ∣ y - x) → (∀ r ∈ rs, (p : Int) ∣ ev c r) → (p : Int) ∣ lead c
  | 0, c, rs, hc, hr, _, h => by
    match c, rs, hc, hr with
    | [c], [r], _, _ =>
      have := h r (by simp)
      simpa [ev, lead] using this
  | d + 1, c, rs, hc, hr, hd, h => by
    match c, rs, hc, hr with
    | c0 :: c1 :: c, r :: rs, hc, hr =>
      rw [← sd_lead r c0 c1 c]
      rw [List.pairwise_cons] at hd
      refine roots_lead hp d (sd r (c0 :: c1 :: c)) rs (by rw [sd_len]; simpa using hc) (by simpa using hr) hd.2 fun s hs => ?_
      have e := sd_ev r s c0 (c1 :: c)
      have h1 := Int.dvd_sub (h s (by simp [hs])) (h r (by simp))
      rw [e] at h1
      rcases dvd_mul_int hp h1 with z | z
      · exact absurd z (hd.1 s hs)
      · exact z
theorem ev_xn (m : Nat) (x : Int) : ev (List.replicate m 0 ++ [1]) x = x ^ m := by
  induction m with
  | zero => simp [ev]
  | succ m ih =>
    rw [List.replicate_succ, List.cons_append, ev_cons, ih, Int.pow_succ]
    grind
/-- at most m numbers, apart by p, whose power to m is 1 -/
theorem roots_le {p m : Nat} (hp : Prime p) (hm : 0 < m) {rs : List Int} (hd : rs.Pairwise (fun x y => ¬ (p : Int) ∣ y - x)) (h : ∀ r ∈ rs, (p : Int) ∣ r ^ m - 1) : rs.length ≤ m := by
  rcases Nat.lt_or_ge m rs.length with z | z
  · exfalso
    obtain ⟨k, rfl⟩ : ∃ k, m = k + 1 := ⟨m - 1, by omega⟩
    have hl := roots_lead hp (k + 1) ((-1) :: (List.replicate k 0 ++ [1])) (rs.take (k + 2)) (by simp) (by rw [List.length_take]; omega)
      (hd.sublist (List.take_sublist _ _)) fun r hr => by
        have h1 := h r (List.mem_of_mem_take hr)
        rw [ev_cons, ev_xn]
        have e : -1 + r * r ^ k = r ^ (k + 1) - 1 := by rw [Int.pow_succ]; grind
        rw [e]; exact h1
    have e : lead ((-1) :: (List.replicate k 0 ++ [1])) = 1 := by
      unfold lead
      rw [← List.cons_append, List.getLast?_concat]; rfl
    rw [e] at hl
    have h2 := Int.le_of_dvd (by decide) hl
    have := hp.1
    omega
  · exact z
/-! pigeons -/
theorem pig : ∀ (n : Nat) (l : List Nat), l.Nodup → (∀ x ∈ l, x < n) → l.length ≤ n
  | 0, l, _, h => by
    match l with
    | [] => exact Nat.le_refl 0
    | x :: l => exact absurd (h x (by simp)) (by omega)
  | n + 1, l, hd, h => by
    by_cases hn : n ∈ l
    · obtain ⟨a, b, e⟩ := List.append_of_mem hn
      subst e
      have h1 := pig n (a ++ b) (by
        have := List.nodup_append.mp hd
        have h2 := List.nodup_cons.mp this.2.1
        refine List.nodup_append.mpr ⟨this.1, h2.2, fun x hx y hy => this.2.2 x hx y (by simp [hy])⟩) fun x hx => by
          have h2 : x < n + 1 := h x (by rcases List.mem_append.mp hx with z | z <;> simp [z])
          have h3 : x ≠ n := fun e => by
            subst e
            have := List.nodup_append.mp hd
            rcases List.mem_append.mp hx with z | z
            · exact this.2.2 x z x (by simp) rfl
            · exact (List.nodup_cons.mp this.2.1).1 z
          omega
      rw [List.length_append] at h1 ⊢
      rw [List.length_cons]; omega
    · exact Nat.le_succ_of_le (pig n l hd fun x hx => by
        have h2 := h x hx
        have h3 : x ≠ n := fun e => hn (e ▸ hx)
        omega)
end M

/-! orders -/
namespace M
def is1 (p : Nat) (a : Int) (e : Nat) : Prop := (p : Int) ∣ a ^ e - 1
def un (p : Nat) (a : Int) : Prop := ¬ (p : Int) ∣ a
structure Ord (p : Nat) (a : Int) (m : Nat) : Prop where
  pos : 0 < m
  one : is1 p a m
  least : ∀ f, 0 < f → is1 p a f → m ≤ f
theorem exists_min {P : Nat → Prop} : ∀ n, P n → ∃ m, P m ∧ ∀ k, P k → m ≤ k := by
  intro n
  induction n using Nat.strongRecOn with
  | _ n ih =>
    intro h
    by_cases c : ∃ k, P k ∧ k < n
    · obtain ⟨k, h1, h2⟩ := c
      exact ih k h2 h1
    · exact ⟨n, h, fun k hk => by
        rcases Nat.lt_or_ge k n with z | z
        · exact absurd ⟨k, hk, z⟩ c
        · exact z⟩
theorem exists_max {P : Nat → Prop} (B : Nat) (hB : ∀ n, P n → n ≤ B) {n : Nat} (h : P n) : ∃ m, P m ∧ ∀ k, P k → k ≤ m := by
  obtain ⟨d, ⟨m, hm, e⟩, hd⟩ := exists_min (P := fun d => ∃ m, P m ∧ d = B - m) (B - n) ⟨n, h, rfl⟩
  refine ⟨m, hm, fun k hk => ?_⟩
  have h1 := hd (B - k) ⟨k, hk, rfl⟩
  have := hB k hk
  have := hB m hm
  omega
section
variable {p : Nat} {a b : Int} {e f m n : Nat}
theorem one_zero : is1 p a 0 := by unfold is1; rw [Int.pow_zero]; simp
theorem one_add (h : is1 p a e) (h' : is1 p a f) : is1 p a (e + f) := by
  unfold is1 at *
  have : a ^ (e + f) - 1 = a ^ e * (a ^ f - 1) + (a ^ e - 1) := by rw [Int.pow_add]; grind
  rw [this]
  exact Int.dvd_add (Int.dvd_trans h' ⟨a ^ e, Int.mul_comm _ _⟩) h
theorem one_mul_ (h : is1 p a e) (k : Nat) : is1 p a (e * k) := by
  induction k with
  | zero => rw [Nat.mul_zero]; exact one_zero
  | succ k ih => rw [Nat.mul_succ]; exact one_add ih h
theorem one_of_dvd (h : is1 p a e) (d : e ∣ f) : is1 p a f := by
  obtain ⟨k, rfl⟩ := d
  exact one_mul_ h k
theorem not_dvd_of_one (hp : Prime p) (h : is1 p a e) : ¬ (p : Int) ∣ a ^ e := fun z => by
  have h1 := Int.dvd_sub z h
  rw [show a ^ e - (a ^ e - 1) = 1 by omega] at h1
  have h2 := Int.le_of_dvd (by decide) h1
  have := hp.1
  omega
theorem one_sub (hp : Prime p) (h : is1 p a (e + f)) (h' : is1 p a e) : is1 p a f := by
  have n1 := not_dvd_of_one hp h'
  unfold is1 at *
  have : a ^ (e + f) - 1 = a ^ e * (a ^ f - 1) + (a ^ e - 1) := by rw [Int.pow_add]; grind
  rw [this] at h
  have h2 := Int.dvd_sub h h'
  rw [show a ^ e * (a ^ f - 1) + (a ^ e - 1) - (a ^ e - 1) = a ^ e * (a ^ f - 1) by omega] at h2
  rcases dvd_mul_int hp h2 with z | z
  · exact absurd z n1
  · exact z
theorem Ord.dvd (hp : Prime p) (o : Ord p a m) (h : is1 p a f) : m ∣ f := by
  have h1 : is1 p a (m * (f / m)) := one_mul_ o.one _
  have h2 : is1 p a (f % m) := one_sub hp (e := m * (f / m)) (by rw [Nat.div_add_mod]; exact h) h1
  rcases Nat.eq_zero_or_pos (f % m) with z | z
  · exact Nat.dvd_of_mod_eq_zero z
  · have := o.least _ z h2
    have := Nat.mod_lt f o.pos
    omega
theorem Ord.iff (hp : Prime p) (o : Ord p a m) : is1 p a f ↔ m ∣ f := ⟨o.dvd hp, one_of_dvd o.one⟩
theorem Ord.of_iff (hm : 0 < m) (h : ∀ f, is1 p a f ↔ m ∣ f) : Ord p a m := ⟨hm, (h m).mpr (Nat.dvd_refl m), fun f hf h1 => Nat.le_of_dvd hf ((h f).mp h1)⟩
theorem Ord.unique (hp : Prime p) (o : Ord p a m) (o' : Ord p a n) : m = n := Nat.dvd_antisymm (o.dvd hp o'.one) (o'.dvd hp o.one)
theorem unit_pow (hp : Prime p) (h : un p a) : ∀ e, ¬ (p : Int) ∣ a ^ e
  | 0 => by
    rw [Int.pow_zero]
    intro z
    have := Int.le_of_dvd (by decide) z
    have := hp.1
    omega
  | e + 1 => by
    rw [Int.pow_succ]
    intro z
    rcases dvd_mul_int hp z with z | z
    · exact unit_pow hp h e z
    · exact h z
/-- two powers alike -/
theorem one_of_alike (hp : Prime p) (h : un p a) (hf : (p : Int) ∣ a ^ (e + f) - a ^ e) : is1 p a f := by
  have : a ^ (e + f) - a ^ e = a ^ e * (a ^ f - 1) := by rw [Int.pow_add]; grind
  rw [this] at hf
  rcases dvd_mul_int hp hf with z | z
  · exact absurd z (unit_pow hp h e)
  · exact z
theorem toNat_alike {x y : Int} (hp : 0 < p) (h : (x % (p : Int)).toNat = (y % (p : Int)).toNat) : (p : Int) ∣ y - x := by
  have h1 := Int.emod_nonneg x (show (p : Int) ≠ 0 by omega)
  have h2 := Int.emod_nonneg y (show (p : Int) ≠ 0 by omega)
  have h3 : y % (p : Int) = x % p := by omega
  exact Int.dvd_of_emod_eq_zero (Int.emod_eq_emod_iff_emod_sub_eq_zero.mp h3)
/-- the powers below a bound that has no 1 behind it are unlike, none of them nought -/
theorem powers_le (hp : Prime p) (h : un p a) (no : ∀ f, 0 < f → f < n → ¬ is1 p a f) : n ≤ p - 1 := by
  have hp0 := hp.pos
  have hpos : ∀ i, 0 < (a ^ i % (p : Int)).toNat := fun i => by
    have h1 := Int.emod_nonneg (a ^ i) (show (p : Int) ≠ 0 by omega)
    have h2 : a ^ i % (p : Int) ≠ 0 := fun z => unit_pow hp h i (Int.dvd_of_emod_eq_zero z)
    omega
  have hlt : ∀ i, (a ^ i % (p : Int)).toNat < p := fun i => by
    have h1 := Int.emod_nonneg (a ^ i) (show (p : Int) ≠ 0 by omega)
    have h2 := Int.emod_lt_of_pos (a ^ i) (show (0 : Int) < p by omega)
    omega
  have h1 := pig (p - 1) ((List.range n).map fun i => (a ^ i % (p : Int)).toNat - 1) (by
    unfold List.Nodup
    rw [List.pairwise_map]
    refine List.Pairwise.imp_of_mem ?_ (List.pairwise_lt_range (n := n))
    intro i j hi hj hij e
    have hj' := List.mem_range.mp hj
    have e2 : (a ^ i % (p : Int)).toNat = (a ^ j % (p : Int)).toNat := by have := hpos i; have := hpos j; omega
    have e3 := toNat_alike hp0 e2
    obtain ⟨d, rfl⟩ : ∃ d, j = i + d := ⟨j - i, by omega⟩
    exact no d (by omega) (by omega) (one_of_alike hp h e3)) fun x hx => by
      obtain ⟨i, _, rfl⟩ := List.mem_map.mp hx
      have := hpos i; have := hlt i
      omega
  rwa [List.length_map, List.length_range] at h1
theorem exists_ord (hp : Prime p) (h : un p a) : ∃ m, Ord p a m := by
  have ex : ∃ e, 0 < e ∧ is1 p a e := by
    refine Classical.byContradiction fun no => ?_
    have := powers_le (n := p) hp h fun f hf _ hf' => no ⟨f, hf, hf'⟩
    have := hp.1
    omega
  obtain ⟨e, he⟩ := ex
  obtain ⟨m, h1, h2⟩ := exists_min (P := fun e => 0 < e ∧ is1 p a e) e he
  exact ⟨m, h1.1, h1.2, fun f hf h => h2 f ⟨hf, h⟩⟩
theorem Ord.le (hp : Prime p) (h : un p a) (o : Ord p a m) : m ≤ p - 1 := powers_le hp h fun f h0 h1 h2 => by have := o.least f h0 h2; omega
theorem Ord.unit (hp : Prime p) (o : Ord p a m) : un p a := fun z => by
  have h1 := not_dvd_of_one hp o.one
  obtain ⟨k, rfl⟩ : ∃ k, m = k + 1 := ⟨m - 1, by have := o.pos; omega⟩
  rw [Int.pow_succ] at h1
  exact h1 (Int.dvd_mul_of_dvd_right z)
theorem one_pow_iff {d : Nat} : is1 p (a ^ d) f ↔ is1 p a (d * f) := by unfold is1; rw [Int.pow_mul]
theorem Ord.pow (hp : Prime p) {d c : Nat} (o : Ord p a (d * c)) : Ord p (a ^ d) c := by
  have h0 := o.pos
  have hd : 0 < d := Nat.pos_of_ne_zero fun z => by rw [z, Nat.zero_mul] at h0; omega
  have hc : 0 < c := Nat.pos_of_ne_zero fun z => by rw [z, Nat.mul_zero] at h0; omega
  refine Ord.of_iff hc fun f => ?_
  rw [one_pow_iff, o.iff hp]
  exact Nat.mul_dvd_mul_iff_left hd
theorem one_left (h1 : (p : Int) ∣ (a * b) ^ e - 1) (h2 : is1 p b e) : is1 p a e := by
  unfold is1 at *
  have : (a * b) ^ e - 1 = a ^ e * (b ^ e - 1) + (a ^ e - 1) := by rw [Int.mul_pow]; grind
  rw [this] at h1
  have h3 := Int.dvd_sub h1 (Int.dvd_trans h2 ⟨a ^ e, Int.mul_comm _ _⟩)
  rw [show a ^ e * (b ^ e - 1) + (a ^ e - 1) - a ^ e * (b ^ e - 1) = a ^ e - 1 by omega] at h3
  exact h3
theorem one_both (h1 : is1 p a e) (h2 : is1 p b e) : is1 p (a * b) e := by
  unfold is1 at *
  have : (a * b) ^ e - 1 = a ^ e * (b ^ e - 1) + (a ^ e - 1) := by rw [Int.mul_pow]; grind
  rw [this]
  exact Int.dvd_add (Int.dvd_trans h2 ⟨a ^ e, Int.mul_comm _ _⟩) h1
theorem Ord.mul_ (hp : Prime p) (o : Ord p a m) (o' : Ord p b n) (g : Nat.gcd m n = 1) : Ord p (a * b) (m * n) := by
  refine ⟨Nat.mul_pos o.pos o'.pos, one_both (one_of_dvd o.one (Nat.dvd_mul_right m n)) (one_of_dvd o'.one (Nat.dvd_mul_left n m)), fun f hf h => ?_⟩
  have h1 : is1 p a (f * n) := one_left (b := b) (one_mul_ h n) (one_of_dvd o'.one (Nat.dvd_mul_left n f))
  have h2 : is1 p b (f * m) := one_left (b := a) (by rw [Int.mul_comm]; exact one_mul_ h m) (one_of_dvd o.one (Nat.dvd_mul_left m f))
  have d1 : m ∣ f := Nat.Coprime.dvd_of_dvd_mul_right g (o.dvd hp h1)
  have d2 : n ∣ f := Nat.Coprime.dvd_of_dvd_mul_right (Nat.Coprime.symm g) (o'.dvd hp h2)
  exact Nat.le_of_dvd hf (Nat.Coprime.mul_dvd_of_dvd_of_dvd g d1 d2)
/-- there is a number of the order p - 1, and each number's power to it is 1 -/
theorem full_exists (hp : Prime p) : ∃ a, Ord p a (p - 1) := by
  have hp2 := hp.1
  have u1 : un p 1 := fun z => by have := Int.le_of_dvd (by decide) z; omega
  obtain ⟨n1, o1⟩ := exists_ord hp u1
  obtain ⟨mx, ⟨a, o⟩, hmax⟩ := exists_max (P := fun m => ∃ a, Ord p a m) (p - 1) (fun m ⟨a, o⟩ => o.le hp (o.unit hp)) ⟨1, o1⟩
  have all : ∀ b n, Ord p b n → n ∣ mx := fun b n ob => by
    refine dvd_of_prime_powers n mx ob.pos fun q k hq hd => Classical.byContradiction fun no => ?_
    obtain ⟨v, c, e, hc, hc0⟩ := split_prime hq mx o.pos
    obtain ⟨d, hd⟩ := hd
    have ov : Ord p (a ^ (q ^ v)) c := Ord.pow hp (by rw [← e]; exact o)
    have ow : Ord p (b ^ d) (q ^ k) := Ord.pow hp (by rw [Nat.mul_comm, ← hd]; exact ob)
    have om := Ord.mul_ hp ov ow (Nat.Coprime.symm (coprime_pow hq hc k))
    have h1 := hmax _ ⟨_, om⟩
    have hvk : v < k := by
      rcases Nat.lt_or_ge v k with z | z
      · exact z
      · exact absurd (Nat.dvd_trans (Nat.pow_dvd_pow q z) ⟨c, e⟩) no
    have h2 : q ^ v < q ^ k := Nat.pow_lt_pow_right (by have := hq.1; omega) hvk
    have h3 : c * q ^ v < c * q ^ k := Nat.mul_lt_mul_of_pos_left h2 hc0
    rw [e, Nat.mul_comm (q ^ v)] at h1
    omega
  have h1 : p - 1 ≤ mx := by
    have h := roots_le hp o.pos (rs := (List.range (p - 1)).map fun i => (((i + 1 : Nat)) : Int)) (by
      rw [List.pairwise_map]
      refine List.Pairwise.imp_of_mem ?_ (List.pairwise_lt_range (n := p - 1))
      intro i j hi hj hij z
      have := List.mem_range.mp hj
      have := Int.le_of_dvd (by omega) z
      omega) fun r hr => by
        obtain ⟨i, hi, rfl⟩ := List.mem_map.mp hr
        have hi' := List.mem_range.mp hi
        have ui : un p ((i + 1 : Nat) : Int) := fun z => by have := Int.le_of_dvd (by omega) z; omega
        obtain ⟨n, on⟩ := exists_ord hp ui
        exact one_of_dvd on.one (all _ _ on)
    rwa [List.length_map, List.length_range] at h
  have h2 := o.le hp (o.unit hp)
  exact ⟨a, by rw [show p - 1 = mx by omega]; exact o⟩
theorem fermat (hp : Prime p) (h : un p a) : is1 p a (p - 1) := by
  -- the number's order divides that of a full one
  have hp2 := hp.1
  obtain ⟨g, og⟩ := full_exists hp
  obtain ⟨n, on⟩ := exists_ord hp h
  refine one_of_dvd on.one (dvd_of_prime_powers n _ on.pos fun q k hq hd => Classical.byContradiction fun no => ?_)
  obtain ⟨v, c, e, hc, hc0⟩ := split_prime hq (p - 1) (by omega)
  obtain ⟨d, hd⟩ := hd
  have ov : Ord p (g ^ (q ^ v)) c := Ord.pow hp (by rw [← e]; exact og)
  have ow : Ord p (a ^ d) (q ^ k) := Ord.pow hp (by rw [Nat.mul_comm, ← hd]; exact on)
  have om := Ord.mul_ hp ov ow (Nat.Coprime.symm (coprime_pow hq hc k))
  have h1 := om.le hp (om.unit hp)
  have hvk : v < k := by
    rcases Nat.lt_or_ge v k with z | z
    · exact z
    · exact absurd (Nat.dvd_trans (Nat.pow_dvd_pow q z) ⟨c, e⟩) no
  have h2 : q ^ v < q ^ k := Nat.pow_lt_pow_right (by have := hq.1; omega) hvk
  have h3 : c * q ^ v < c * q ^ k := Nat.mul_lt_mul_of_pos_left h2 hc0
  rw [Nat.mul_comm (q ^ v)] at e
  omega
/-- full, by the primes of p - 1 -/
theorem ord_of_primes (hp : Prime p) (h1 : is1 p a n) (hn : 0 < n) (h : ∀ q, Prime q → q ∣ n → ¬ is1 p a (n / q)) : Ord p a n := by
  have hu : un p a := fun z => by
    obtain ⟨k, rfl⟩ : ∃ k, n = k + 1 := ⟨n - 1, by omega⟩
    exact not_dvd_of_one hp h1 (by rw [Int.pow_succ]; exact Int.dvd_mul_of_dvd_right z)
  obtain ⟨m, o⟩ := exists_ord hp hu
  obtain ⟨c, hc⟩ := o.dvd hp h1
  by_cases e : c = 1
  · rw [e, Nat.mul_one] at hc
    rw [hc]; exact o
  · exfalso
    have hc0 : c ≠ 0 := fun z => by rw [z, Nat.mul_zero] at hc; omega
    obtain ⟨q, hq, d, hd⟩ := exists_prime c (by omega)
    refine h q hq ⟨m * d, by rw [hc, hd]; grind⟩ (one_of_dvd o.one ⟨d, ?_⟩)
    rw [hc, hd, show m * (q * d) = q * (m * d) by grind]
    exact Nat.mul_div_cancel_left _ hq.pos
end
end M

/-! full numbers, by the primes of p - 1 -/
namespace M
theorem pw_one_iff {p : Nat} (hp : 2 ≤ p) {a : Int} {e : Nat} : pw p a e = 1 ↔ is1 p a e := by
  unfold pw is1
  have h1 : (1 : Int) % (p : Int) = 1 := Int.emod_eq_of_lt (by decide) (by omega)
  constructor
  · intro h
    have h2 : a ^ e % (p : Int) = 1 % p := by rw [h, h1]
    exact Int.dvd_of_emod_eq_zero (Int.emod_eq_emod_iff_emod_sub_eq_zero.mp h2)
  · intro h
    rw [← h1]
    exact Int.emod_eq_emod_iff_emod_sub_eq_zero.mpr (Int.emod_eq_zero_of_dvd h)
theorem un_small {p : Nat} {a : Int} (h0 : 0 < a) (h1 : a < p) : un p a := fun z => by have := Int.le_of_dvd h0 z; omega
theorem un_iff {p : Nat} {a : Int} : un p a ↔ a % (p : Int) ≠ 0 := ⟨fun h z => h (Int.dvd_of_emod_eq_zero z), fun h z => h (Int.emod_eq_zero_of_dvd z)⟩
theorem full_iff {p : Nat} (hp : Prime p) {a : Int} (ha : un p a) {l : List (Nat × Nat)} (hl : IsFac (p - 1) l) : Ord p a (p - 1) ↔ ∀ x ∈ l, pw p a ((p - 1) / x.1) ≠ 1 := by
  have hp2 := hp.1
  constructor
  · intro o x hx z
    have h1 := (pw_one_iff hp2).mp z
    have hq := (hl.primes x hx).1
    have hd := fac_dvd hl hx
    have hq2 := hq.1
    have h2 := o.least _ (Nat.div_pos (Nat.le_of_dvd (by omega) hd) hq.pos) h1
    have h3 : (p - 1) / x.1 < p - 1 := Nat.div_lt_self (by omega) (by omega)
    omega
  · intro h
    refine ord_of_primes hp (fermat hp ha) (by omega) fun q hq hd z => ?_
    obtain ⟨k, hk⟩ := fac_prime_in hl hq hd
    exact h _ hk ((pw_one_iff hp2).mpr z)
theorem is1_congr {p : Nat} {a b : Int} (h : (p : Int) ∣ a - b) (e : Nat) : is1 p a e ↔ is1 p b e := by
  have key : ∀ {a b : Int}, (p : Int) ∣ a - b → is1 p a e → is1 p b e := fun {a b} h h1 => by
    unfold is1 at *
    have h2 : a ^ e % (p : Int) = b ^ e % p := by
      have h3 : a % (p : Int) = b % p := Int.emod_eq_emod_iff_emod_sub_eq_zero.mpr (Int.emod_eq_zero_of_dvd h)
      rw [← pow_emod, h3, pow_emod]
    have h4 := Int.dvd_of_emod_eq_zero (Int.emod_eq_emod_iff_emod_sub_eq_zero.mp h2.symm)
    have h5 := Int.dvd_add h4 h1
    rw [show b ^ e - a ^ e + (a ^ e - 1) = b ^ e - 1 by omega] at h5
    exact h5
  refine ⟨key h, key ?_⟩
  rw [show b - a = -(a - b) by omega]
  exact Int.dvd_neg.mpr h
theorem Ord.congr {p : Nat} {a b : Int} {m : Nat} (h : (p : Int) ∣ a - b) (o : Ord p a m) : Ord p b m := ⟨o.pos, (is1_congr h _).mp o.one, fun f hf z => o.least f hf ((is1_congr h _).mpr z)⟩
theorem full_small {p : Nat} (hp : Prime p) : ∃ f : Nat, 0 < f ∧ f < p ∧ Ord p (f : Int) (p - 1) := by
  obtain ⟨a, o⟩ := full_exists hp
  have hp0 := hp.pos
  have h1 := Int.emod_nonneg a (show (p : Int) ≠ 0 by omega)
  have h2 := Int.emod_lt_of_pos a (show (0 : Int) < p by omega)
  have h3 := un_iff.mp (o.unit hp)
  refine ⟨(a % (p : Int)).toNat, by omega, by omega, ?_⟩
  rw [Int.toNat_of_nonneg h1]
  refine o.congr ?_
  have := Int.emod_add_mul_ediv a p
  exact ⟨a / p, by omega⟩
/-- the least one -/
structure LeastFull (p f : Nat) : Prop where
  f0 : 0 < f
  f1 : f < p
  full : Ord p (f : Int) (p - 1)
  least : ∀ g : Nat, 0 < g → g < f → ¬Ord p (g : Int) (p - 1)
theorem paper_prime {p q n : Nat} (hp : Prime p) (hq : Prime q) (hd : q ∣ p - 1) (hn : p ≤ 2 ^ (n + 1)) : q ≤ 2 ^ n := by
  obtain ⟨c, hc⟩ := hd
  have hp2 := hp.1
  have hq2 := hq.1
  rw [Nat.pow_succ] at hn
  by_cases h : 2 ≤ c
  · have : q * 2 ≤ q * c := Nat.mul_le_mul_left q h
    omega
  · have : c = 0 ∨ c = 1 := by omega
    rcases this with rfl | rfl
    · omega
    · rw [Nat.mul_one] at hc
      -- p and p - 1 are primes
      by_cases he : p % 2 = 0
      · rcases hp.2 2 (Nat.dvd_of_mod_eq_zero he) with z | z <;> omega
      · have : 2 ∣ q := Nat.dvd_of_mod_eq_zero (by omega)
        rcases hq.2 2 this with z | z
        · omega
        · omega
end M

/-! half of p - 1: what shows that there is no square root -/
namespace M
theorem half_even {p : Nat} (hp : Prime p) (h2 : p ≠ 2) : p - 1 = 2 * ((p - 1) / 2) ∧ 0 < (p - 1) / 2 := by
  have := hp.1
  have : p % 2 = 1 := by
    rcases Nat.mod_two_eq_zero_or_one p with z | z
    · rcases hp.2 2 (Nat.dvd_of_mod_eq_zero z) with e | e
      · omega
      · exact absurd e.symm h2
    · exact z
  omega
theorem pw_of_dvd {p : Nat} {a : Int} {e : Nat} {r : Int} (h0 : 0 ≤ r) (h1 : r < p) (h : (p : Int) ∣ a ^ e - r) : pw p a e = r := by
  unfold pw
  rw [Int.emod_eq_emod_iff_emod_sub_eq_zero.mpr (Int.emod_eq_zero_of_dvd h), Int.emod_eq_of_lt h0 h1]
theorem pw_nought {p : Nat} {a : Int} {e : Nat} (h : (p : Int) ∣ a) (he : 0 < e) : pw p a e = 0 := by
  obtain ⟨k, rfl⟩ : ∃ k, e = k + 1 := ⟨e - 1, by omega⟩
  unfold pw
  rw [Int.pow_succ]
  exact Int.emod_eq_zero_of_dvd (Int.dvd_trans h ⟨a ^ k, Int.mul_comm _ _⟩)
theorem half_full {p : Nat} (hp : Prime p) (h2 : p ≠ 2) {f : Int} (o : Ord p f (p - 1)) : pw p f ((p - 1) / 2) = (p : Int) - 1 := by
  obtain ⟨he, h0⟩ := half_even hp h2
  have hp2 := hp.1
  have h1 := o.one
  unfold is1 at h1
  have e : f ^ (p - 1) - 1 = (f ^ ((p - 1) / 2) - 1) * (f ^ ((p - 1) / 2) + 1) := by
    conv => lhs; rw [he, Nat.mul_comm, Int.pow_mul]
    grind
  rw [e] at h1
  rcases dvd_mul_int hp h1 with z | z
  · have := o.least _ h0 z
    omega
  · refine pw_of_dvd (by omega) (by omega) ?_
    have h3 := Int.dvd_sub z (Int.dvd_refl (p : Int))
    rw [show f ^ ((p - 1) / 2) + 1 - (p : Int) = f ^ ((p - 1) / 2) - ((p : Int) - 1) by omega] at h3
    exact h3
theorem half_square {p : Nat} (hp : Prime p) (h2 : p ≠ 2) {x : Int} (hx : un p x) : pw p (x * x) ((p - 1) / 2) = 1 := by
  obtain ⟨he, h0⟩ := half_even hp h2
  have h1 := fermat hp hx
  refine (pw_one_iff hp.1).mpr ?_
  unfold is1 at *
  rw [he, Int.pow_mul] at h1
  rw [show x * x = x ^ 2 by rw [Int.pow_succ, Int.pow_succ, Int.pow_zero, Int.one_mul]]
  exact h1
theorem half_times {p : Nat} (hp : Prime p) (h2 : p ≠ 2) {x f : Int} (hx : un p x) (o : Ord p f (p - 1)) : pw p (x * x * f) ((p - 1) / 2) = (p : Int) - 1 := by
  have hp2 := hp.1
  rw [pw_prod, half_square hp h2 hx, half_full hp h2 o, Int.one_mul]
  exact Int.emod_eq_of_lt (by omega) (by omega)
theorem half_not {p : Nat} (hp : Prime p) (h2 : p ≠ 2) (x : Int) : pw p (x * x - p) ((p - 1) / 2) ≠ (p : Int) - 1 := by
  have hp2 := hp.1
  rw [pw_congr (b := x * x) (by rw [Int.sub_emod_right])]
  by_cases hx : un p x
  · rw [half_square hp h2 hx]; omega
  · have hd : (p : Int) ∣ x := Classical.byContradiction hx
    rw [pw_nought (Int.dvd_trans hd ⟨x, rfl⟩) (half_even hp h2).2]; omega
end M

/-! orders by any number; what is taken out of a number whose power is 1 -/
namespace M
section
variable {n : Nat} {a b : Int} {e f m q o : Nat}
theorem one_subN (h : is1 n a (e + f)) (h' : is1 n a e) : is1 n a f := by
  unfold is1 at *
  have : a ^ (e + f) - 1 = a ^ f * (a ^ e - 1) + (a ^ f - 1) := by rw [Int.pow_add]; grind
  rw [this] at h
  have h3 := Int.dvd_sub h (Int.dvd_trans h' ⟨a ^ f, Int.mul_comm _ _⟩)
  rw [show a ^ f * (a ^ e - 1) + (a ^ f - 1) - a ^ f * (a ^ e - 1) = a ^ f - 1 by omega] at h3
  exact h3
theorem Ord.dvdN (o : Ord n a m) (h : is1 n a f) : m ∣ f := by
  have h1 : is1 n a (m * (f / m)) := one_mul_ o.one _
  have h2 : is1 n a (f % m) := one_subN (e := m * (f / m)) (by rw [Nat.div_add_mod]; exact h) h1
  rcases Nat.eq_zero_or_pos (f % m) with z | z
  · exact Nat.dvd_of_mod_eq_zero z
  · have := o.least _ z h2
    have := Nat.mod_lt f o.pos
    omega
theorem Ord.iffN (o : Ord n a m) : is1 n a f ↔ m ∣ f := ⟨o.dvdN, one_of_dvd o.one⟩
theorem Ord.uniqueN (o : Ord n a m) (o' : Ord n a f) : m = f := Nat.dvd_antisymm (o.dvdN o'.one) (o'.dvdN o.one)
theorem ex_ordN (h : is1 n a e) (he : 0 < e) : ∃ m, Ord n a m := by
  obtain ⟨m, h1, h2⟩ := exists_min (P := fun e => 0 < e ∧ is1 n a e) e ⟨he, h⟩
  exact ⟨m, h1.1, h1.2, fun f hf h => h2 f ⟨hf, h⟩⟩
end
/-- how often q stands in n -/
def vq (q n : Nat) : Nat := if _h : 2 ≤ q ∧ 0 < n ∧ n % q = 0 then vq q (n / q) + 1 else 0
termination_by n
decreasing_by exact Nat.div_lt_self _h.2.1 (by omega)
theorem vq_no {q n : Nat} (h : ¬ (2 ≤ q ∧ 0 < n ∧ n % q = 0)) : vq q n = 0 := by rw [vq, dif_neg h]
theorem vq_more {q m : Nat} (hq : 2 ≤ q) (hm : 0 < m) : vq q (q * m) = vq q m + 1 := by
  rw [vq, dif_pos ⟨hq, Nat.mul_pos (by omega) hm, Nat.mul_mod_right q m⟩, Nat.mul_div_cancel_left _ (by omega)]
theorem vq_eq {q m : Nat} (hq : 2 ≤ q) (hm : ¬ q ∣ m) (h0 : 0 < m) : ∀ k, vq q (q ^ k * m) = k
  | 0 => by rw [Nat.pow_zero, Nat.one_mul]; exact vq_no fun h => hm (Nat.dvd_of_mod_eq_zero h.2.2)
  | k + 1 => by
    rw [Nat.pow_succ, Nat.mul_comm (q ^ k) q, Nat.mul_assoc, vq_more hq (Nat.mul_pos (Nat.pow_pos (by omega)) h0), vq_eq hq hm h0 k]
theorem vq_split {q n : Nat} (hq : Prime q) (hn : 0 < n) : ∃ m, n = q ^ vq q n * m ∧ ¬ q ∣ m ∧ 0 < m := by
  obtain ⟨k, m, e, h1, h2⟩ := split_prime hq n hn
  have := vq_eq hq.1 h1 h2 k
  rw [← e] at this
  exact ⟨m, by rw [this]; exact e, h1, h2⟩
theorem vq_pos_iff {q n : Nat} (hq : 2 ≤ q) (hn : 0 < n) : 0 < vq q n ↔ n % q = 0 := by
  constructor
  · intro h
    rcases Nat.eq_zero_or_pos (n % q) with z | z
    · exact z
    · rw [vq_no (by omega)] at h; omega
  · intro h
    rw [vq, dif_pos ⟨hq, hn, h⟩]; omega
theorem pow_split {q v k m c : Nat} (hq : Prime q) (hm : ¬ q ∣ m) (hc : ¬ q ∣ c) : q ^ v * c ∣ q ^ k * m ↔ v ≤ k ∧ c ∣ m := by
  constructor
  · intro h
    constructor
    · have h1 : q ^ v ∣ q ^ k * m := Nat.dvd_trans (Nat.dvd_mul_right _ _) h
      have h2 : q ^ v ∣ q ^ k := Nat.Coprime.dvd_of_dvd_mul_right (coprime_pow hq hm v) h1
      exact (Nat.pow_dvd_pow_iff_le_right (by have := hq.1; omega)).mp h2
    · have h1 : c ∣ q ^ k * m := Nat.dvd_trans (Nat.dvd_mul_left _ _) h
      exact Nat.Coprime.dvd_of_dvd_mul_left (Nat.Coprime.symm (coprime_pow hq hc k)) h1
  · rintro ⟨h1, h2⟩
    exact Nat.mul_dvd_mul (Nat.pow_dvd_pow q h1) h2
theorem prodL_pos : ∀ {l : List (Nat × Nat)}, (∀ x ∈ l, Prime x.1) → 0 < prodL l
  | [], _ => by decide
  | x :: l, h => Nat.mul_pos (Nat.pow_pos (h x (by simp)).pos) (prodL_pos fun y hy => h y (by simp [hy]))
theorem prime_in' {l : List (Nat × Nat)} {q : Nat} (hq : Prime q) (hl : ∀ x ∈ l, Prime x.1) (h : q ∣ prodL l) : ∃ k, (q, k) ∈ l := by
  induction l with
  | nil =>
    simp only [prodL] at h
    have := Nat.le_of_dvd (by decide) h
    have := hq.1; omega
  | cons x l ih =>
    simp only [prodL] at h
    rcases hq.dvd_mul h with z | z
    · have := hq.eq_of_dvd (hl x (by simp)) (hq.dvd_pow z)
      exact ⟨x.2, by rw [this]; simp⟩
    · obtain ⟨k, hk⟩ := ih (fun y hy => hl y (by simp [hy])) z
      exact ⟨k, by simp [hk]⟩
/-- the parting with the manys of o -/
def vL (o : Nat) (l : List (Nat × Nat)) : List (Nat × Nat) := l.map fun x => (x.1, vq x.1 o)
theorem vL_prime {o : Nat} {l : List (Nat × Nat)} (h : ∀ x ∈ l, Prime x.1) : ∀ x ∈ vL o l, Prime x.1 := fun x hx => by
  obtain ⟨y, hy, rfl⟩ := List.mem_map.mp hx
  exact h y hy
theorem vL_dvd {o : Nat} (ho : 0 < o) : ∀ {l : List (Nat × Nat)}, l.Pairwise (fun x y => x.1 < y.1) → (∀ x ∈ l, Prime x.1) → prodL (vL o l) ∣ o
  | [], _, _ => by simp [vL, prodL]
  | x :: l, hs, hp => by
    have hs' := List.pairwise_cons.mp hs
    have hx := hp x (by simp)
    have ih := vL_dvd ho hs'.2 fun y hy => hp y (by simp [hy])
    obtain ⟨m, em, hm, _⟩ := vq_split hx ho
    have hn : ¬ x.1 ∣ prodL (vL o l) := fun z => by
      obtain ⟨k, hk⟩ := prime_in' hx (vL_prime fun y hy => hp y (by simp [hy])) z
      obtain ⟨y, hy, e⟩ := List.mem_map.mp hk
      have h1 := hs'.1 y hy
      have h2 : y.1 = x.1 := (Prod.mk.inj e).1
      omega
    show x.1 ^ vq x.1 o * prodL (vL o l) ∣ o
    exact Nat.Coprime.mul_dvd_of_dvd_of_dvd (coprime_pow hx hn _) ⟨m, em⟩ ih
/-- what is left of e at turn i, o the order -/
structure OF (o E : Nat) (l : List (Nat × Nat)) (i e : Nat) : Prop where
  val : e = prodL (vL o (l.take i)) * prodL (l.drop i)
  dvd : o ∣ e
theorem of_start {o E : Nat} {l : List (Nat × Nat)} (hl : IsFac E l) (h : o ∣ E) : OF o E l 0 E := ⟨by
  rw [List.take_zero, List.drop_zero, hl.prod]; simp [vL, prodL], h⟩
theorem of_step {o E : Nat} {l : List (Nat × Nat)} {i e q b : Nat} (hl : IsFac E l) (o0 : 0 < o) (h : OF o E l i e) (hx : l[i]? = some (q, b)) :
    ∃ m, e = q ^ b * m ∧ ¬ q ∣ m ∧ 0 < m ∧ vq q o ≤ b ∧ (∀ k, o ∣ q ^ k * m ↔ vq q o ≤ k) ∧ OF o E l (i + 1) (q ^ vq q o * m) := by
  have hil : i < l.length := (List.getElem?_eq_some_iff.mp hx).1
  have hxe : l[i] = (q, b) := (List.getElem?_eq_some_iff.mp hx).2
  have hd : l.drop i = (q, b) :: l.drop (i + 1) := by rw [List.drop_eq_getElem_cons hil, hxe]
  have ht : l.take (i + 1) = l.take i ++ [(q, b)] := by rw [List.take_succ, hx]; rfl
  have hsp : l = l.take i ++ (q, b) :: l.drop (i + 1) := by rw [← hd, List.take_append_drop]
  have hso := hl.sorted
  rw [hsp] at hso
  have hso' := List.pairwise_append.mp hso
  have hpr : ∀ x ∈ l, Prime x.1 := fun x hx => (hl.primes x hx).1
  have hq : Prime q := hpr (q, b) (List.mem_of_getElem? hx)
  have p1 : ∀ x ∈ l.take i, Prime x.1 := fun x hx => hpr x (List.mem_of_mem_take hx)
  have p2 : ∀ x ∈ l.drop (i + 1), Prime x.1 := fun x hx => hpr x (List.mem_of_mem_drop hx)
  have n1 : ¬ q ∣ prodL (vL o (l.take i)) := fun z => by
    obtain ⟨k, hk⟩ := prime_in' hq (vL_prime p1) z
    obtain ⟨y, hy, e⟩ := List.mem_map.mp hk
    have h1 := hso'.2.2 y hy (q, b) (by simp)
    have h2 : y.1 = q := (Prod.mk.inj e).1
    have h3 : y.1 < q := h1
    omega
  have n2 : ¬ q ∣ prodL (l.drop (i + 1)) := fun z => by
    obtain ⟨k, hk⟩ := prime_in' hq p2 z
    have h1 := (List.pairwise_cons.mp hso'.2.1).1 _ hk
    have h3 : q < q := h1
    omega
  refine ⟨prodL (vL o (l.take i)) * prodL (l.drop (i + 1)), ?_, fun z => ?_, Nat.mul_pos (prodL_pos (vL_prime p1)) (prodL_pos p2), ?_⟩
  · rw [h.val, hd]; simp only [prodL]; grind
  · rcases hq.dvd_mul z with z | z
    · exact n1 z
    · exact n2 z
  generalize hm : prodL (vL o (l.take i)) * prodL (l.drop (i + 1)) = m
  have em : e = q ^ b * m := by rw [← hm, h.val, hd]; simp only [prodL]; grind
  have hqm : ¬ q ∣ m := fun z => by
    rw [← hm] at z
    rcases hq.dvd_mul z with z | z
    · exact n1 z
    · exact n2 z
  obtain ⟨c, ec, hc, _⟩ := vq_split hq o0
  have hdv := h.dvd
  rw [em] at hdv
  have hb := (pow_split hq hqm hc).mp (by rw [← ec]; exact hdv)
  refine ⟨hb.1, fun k => ?_, ⟨?_, ?_⟩⟩
  · conv => lhs; rw [ec]
    rw [pow_split hq hqm hc]
    exact ⟨fun z => z.1, fun z => ⟨z, hb.2⟩⟩
  · rw [ht, ← hm]
    show _ = prodL (vL o (l.take i ++ [(q, b)])) * _
    unfold vL
    rw [List.map_append, prodL_app]
    simp only [List.map_cons, List.map_nil, prodL]
    grind
  · conv => lhs; rw [ec]
    exact (pow_split hq hqm hc).mpr ⟨Nat.le_refl _, hb.2⟩
theorem of_end {o E : Nat} {l : List (Nat × Nat)} {e : Nat} (hl : IsFac E l) (o0 : 0 < o) (h : OF o E l l.length e) : e = o := by
  have h1 := h.val
  rw [List.take_length, List.drop_length] at h1
  simp only [prodL, Nat.mul_one] at h1
  exact Nat.dvd_antisymm (by rw [h1]; exact vL_dvd o0 hl.sorted fun x hx => (hl.primes x hx).1) h.dvd
theorem of_le {o E : Nat} {l : List (Nat × Nat)} {i e : Nat} (hl : IsFac E l) (hE : 0 < E) (hoE : o ∣ E) (o0 : 0 < o) (h : OF o E l i e) : e ∣ E := by
  rw [h.val, ← hl.prod]
  conv => rhs; rw [← List.take_append_drop i l, prodL_app]
  refine Nat.mul_dvd_mul ?_ (Nat.dvd_refl _)
  have key : ∀ l : List (Nat × Nat), (∀ x ∈ l, vq x.1 o ≤ x.2) → prodL (vL o l) ∣ prodL l := fun l => by
    induction l with
    | nil => intro _; simp [vL, prodL]
    | cons x l ih => intro hx; exact Nat.mul_dvd_mul (Nat.pow_dvd_pow _ (hx x (by simp))) (ih fun y hy => hx y (by simp [hy]))
  refine key _ fun x hx => ?_
  have hx' := List.mem_of_mem_take hx
  obtain ⟨j, hj⟩ := List.getElem?_of_mem hx'
  -- x's many is that of E
  have hq := (hl.primes x hx').1
  have h2 : ∃ m, E = x.1 ^ x.2 * m ∧ ¬ x.1 ∣ m ∧ 0 < m := by
    have hil : j < l.length := (List.getElem?_eq_some_iff.mp hj).1
    have hxe : l[j] = x := (List.getElem?_eq_some_iff.mp hj).2
    have hd : l.drop j = x :: l.drop (j + 1) := by rw [List.drop_eq_getElem_cons hil, hxe]
    have hsp : l = l.take j ++ x :: l.drop (j + 1) := by rw [← hd, List.take_append_drop]
    have hso := hl.sorted
    rw [hsp] at hso
    have hso' := List.pairwise_append.mp hso
    have p1 : ∀ y ∈ l.take j, Prime y.1 := fun y hy => (hl.primes y (List.mem_of_mem_take hy)).1
    have p2 : ∀ y ∈ l.drop (j + 1), Prime y.1 := fun y hy => (hl.primes y (List.mem_of_mem_drop hy)).1
    refine ⟨prodL (l.take j) * prodL (l.drop (j + 1)), ?_, fun z => ?_, Nat.mul_pos (prodL_pos p1) (prodL_pos p2)⟩
    · rw [← hl.prod]
      conv => lhs; rw [hsp]
      rw [prodL_app]; simp only [prodL]; grind
    · rcases hq.dvd_mul z with z | z
      · obtain ⟨k, hk⟩ := prime_in' hq p1 z
        have h1 := hso'.2.2 _ hk x (by simp)
        have h2 : x.1 < x.1 := h1
        omega
      · obtain ⟨k, hk⟩ := prime_in' hq p2 z
        have h1 := (List.pairwise_cons.mp hso'.2.1).1 _ hk
        have h2 : x.1 < x.1 := h1
        omega
  obtain ⟨m, e1, e2, e3⟩ := h2
  obtain ⟨c, ec, hc, _⟩ := vq_split hq o0
  exact ((pow_split hq e2 hc).mp (by rw [← ec, ← e1]; exact hoE)).1
end M

/-! a number with a number of the order one below it is a prime -/
namespace M
theorem ord_of_primesN {n m : Nat} {a : Int} (h1 : is1 n a m) (hm : 0 < m) (h : ∀ q, Prime q → q ∣ m → ¬ is1 n a (m / q)) : Ord n a m := by
  obtain ⟨o, ho⟩ := ex_ordN h1 hm
  obtain ⟨c, hc⟩ := ho.dvdN h1
  have c0 : 0 < c := by
    rcases Nat.eq_zero_or_pos c with z | z
    · subst z; simp at hc; omega
    · exact z
  by_cases c1 : c = 1
  · subst c1
    rw [Nat.mul_one] at hc
    rw [hc]; exact ho
  · obtain ⟨q, hq, hd⟩ := exists_prime c (by omega)
    obtain ⟨k, hk⟩ := hd
    refine absurd (one_of_dvd ho.one ?_) (h q hq ⟨o * k, by rw [hc, hk]; grind⟩)
    refine ⟨k, ?_⟩
    rw [hc, hk]
    have : o * (q * k) = q * (o * k) := by grind
    rw [this, Nat.mul_div_cancel_left _ hq.pos]
theorem lucas {p : Nat} {a : Int} (h2 : 2 ≤ p) (o : Ord p a (p - 1)) : Prime p := by
  refine ⟨h2, fun d hd => Classical.byContradiction fun hn => ?_⟩
  have hd1 : d ≠ 1 := fun z => hn (.inl z)
  have hdp : d ≠ p := fun z => hn (.inr z)
  have hle := Nat.le_of_dvd (by omega) hd
  have hd0 : 0 < d := Nat.pos_of_dvd_of_pos hd (by omega)
  have hdI : (d : Int) ∣ (p : Int) := Int.natCast_dvd_natCast.mpr hd
  -- no power is a multiple of d
  have nod : ∀ i, i ≤ p - 1 → ¬ (d : Int) ∣ a ^ i := fun i hi z => by
    have e : a ^ (p - 1) = a ^ i * a ^ (p - 1 - i) := by rw [← Int.pow_add]; congr 1; omega
    have h1 : (d : Int) ∣ a ^ (p - 1) := by rw [e]; exact Int.dvd_trans z ⟨_, rfl⟩
    have h3 : (d : Int) ∣ a ^ (p - 1) - 1 := Int.dvd_trans hdI o.one
    have h4 := Int.dvd_sub h1 h3
    rw [show a ^ (p - 1) - (a ^ (p - 1) - 1) = 1 by omega] at h4
    have := Int.le_of_dvd (by decide) h4
    omega
  have rI : ∀ i, ((a ^ i % (p : Int)).toNat : Int) = a ^ i % (p : Int) := fun i => Int.toNat_of_nonneg (Int.emod_nonneg _ (by omega))
  have hlt : ∀ i, (a ^ i % (p : Int)).toNat < p := fun i => by
    have h1 := Int.emod_lt_of_pos (a ^ i) (show (0 : Int) < p by omega)
    have := rI i
    omega
  have nodr : ∀ i, i ≤ p - 1 → ¬ d ∣ (a ^ i % (p : Int)).toNat := fun i hi z => by
    have h1 : (d : Int) ∣ a ^ i % (p : Int) := by rw [← rI]; exact Int.natCast_dvd_natCast.mpr z
    have h3 := Int.dvd_add h1 (Int.dvd_trans hdI ⟨a ^ i / (p : Int), rfl⟩)
    rw [Int.emod_add_mul_ediv] at h3
    exact nod i hi h3
  have hne : ∀ i, i ≤ p - 1 → (a ^ i % (p : Int)).toNat ≠ 0 ∧ (a ^ i % (p : Int)).toNat ≠ d := fun i hi => ⟨fun z => nodr i hi (by rw [z]; exact Nat.dvd_zero d), fun z => nodr i hi (by rw [z]; exact Nat.dvd_refl d)⟩
  have h1 := pig (p - 2) ((List.range (p - 1)).map fun i => (fun x => if x < d then x - 1 else x - 2) (a ^ i % (p : Int)).toNat) (by
    unfold List.Nodup
    rw [List.pairwise_map]
    refine List.Pairwise.imp_of_mem ?_ (List.pairwise_lt_range (n := p - 1))
    intro i j hi hj hij e
    have hj' := List.mem_range.mp hj
    have n1 := hne i (by omega)
    have n2 := hne j (by omega)
    have e2 : (a ^ i % (p : Int)).toNat = (a ^ j % (p : Int)).toNat := by
      simp only at e
      generalize (a ^ i % (p : Int)).toNat = x at *
      generalize (a ^ j % (p : Int)).toNat = y at *
      split at e <;> split at e <;> omega
    have e3 := toNat_alike (show 0 < p by omega) e2
    have e4 : (p : Int) ∣ a ^ (p - 1 - i) * (a ^ j - a ^ i) := Int.dvd_trans e3 ⟨_, Int.mul_comm _ _⟩
    have e5 : a ^ (p - 1 - i) * (a ^ j - a ^ i) = a ^ (p - 1) * (a ^ (j - i) - 1) := by
      have u1 : a ^ j = a ^ i * a ^ (j - i) := by rw [← Int.pow_add]; congr 1; omega
      have u2 : a ^ (p - 1) = a ^ (p - 1 - i) * a ^ i := by rw [← Int.pow_add]; congr 1; omega
      rw [u1, u2]; grind
    rw [e5] at e4
    have e6 : (p : Int) ∣ (a ^ (p - 1) - 1) * (a ^ (j - i) - 1) := Int.dvd_trans o.one ⟨_, rfl⟩
    have e7 := Int.dvd_sub e4 e6
    rw [show a ^ (p - 1) * (a ^ (j - i) - 1) - (a ^ (p - 1) - 1) * (a ^ (j - i) - 1) = a ^ (j - i) - 1 by grind] at e7
    have := o.least (j - i) (by omega) e7
    omega) fun x hx => by
      obtain ⟨i, hi, rfl⟩ := List.mem_map.mp hx
      have hi' := List.mem_range.mp hi
      have n1 := hne i (by omega)
      have n2 := hlt i
      generalize (a ^ i % (p : Int)).toNat = x at *
      simp only
      split <;> omega
  rw [List.length_map, List.length_range] at h1
  omega
end M

/-! orders of powers, of inverses -/
namespace M
theorem dvd_mul_div {e k f : Nat} (he : 0 < e) : e ∣ k * f ↔ e / Nat.gcd k e ∣ f := by
  have g0 : 0 < Nat.gcd k e := Nat.gcd_pos_of_pos_right k he
  obtain ⟨c, hc⟩ := Nat.gcd_dvd_right k e
  obtain ⟨d, hd⟩ := Nat.gcd_dvd_left k e
  have cop : Nat.gcd d c = 1 := by
    have := Nat.gcd_div (Nat.gcd_dvd_left k e) (Nat.gcd_dvd_right k e)
    rw [Nat.div_self g0] at this
    rw [← this]
    congr 1
    · conv => rhs; rw [hd, Nat.gcd_comm]
      rw [Nat.gcd_comm] at g0
      generalize hg : Nat.gcd e k = g at *
      rw [Nat.gcd_comm] at hd hc
      rw [hg] at hd hc
      have : k / g = d := by rw [hd]; exact Nat.mul_div_cancel_left _ g0
      rw [Nat.gcd_comm, ← hd, hg, this]
    · generalize hg : Nat.gcd k e = g at *
      rw [hc]; exact (Nat.mul_div_cancel_left _ g0).symm
  generalize hg : Nat.gcd k e = g at *
  rw [hc, Nat.mul_div_cancel_left _ g0, hd, Nat.mul_assoc, Nat.mul_dvd_mul_iff_left g0]
  exact ⟨fun h => Nat.Coprime.dvd_of_dvd_mul_left (Nat.Coprime.symm cop) h, fun h => Nat.dvd_trans h (Nat.dvd_mul_left _ _)⟩
theorem Ord.pow_ {p e : Nat} {a : Int} (o : Ord p a e) (k : Nat) : Ord p (a ^ k) (e / Nat.gcd k e) := by
  have g0 : 0 < Nat.gcd k e := Nat.gcd_pos_of_pos_right k o.pos
  refine Ord.of_iff (Nat.div_pos (Nat.le_of_dvd o.pos (Nat.gcd_dvd_right k e)) g0) fun f => ?_
  rw [one_pow_iff, o.iffN]
  exact dvd_mul_div o.pos
theorem pw_alike (p : Nat) (a : Int) (k : Nat) : (p : Int) ∣ a ^ k - pw p a k := by
  unfold pw
  exact Int.dvd_of_emod_eq_zero (Int.emod_eq_emod_iff_emod_sub_eq_zero.mp (by rw [Int.emod_emod]))
theorem Ord.pw {p e : Nat} {a : Int} (o : Ord p a e) (k : Nat) : Ord p (pw p a k) (e / Nat.gcd k e) := (o.pow_ k).congr (pw_alike p a k)
theorem Ord.mod {p e : Nat} {a : Int} (o : Ord p a e) : Ord p (a % p) e := o.congr (Int.dvd_of_emod_eq_zero (Int.emod_eq_emod_iff_emod_sub_eq_zero.mp (by rw [Int.emod_emod])))
theorem is1_one (p e : Nat) : is1 p 1 e := by unfold is1; rw [Int.one_pow]; simp
theorem Ord.inv {p e : Nat} {a b : Int} (h : (b * a - 1) % (p : Int) = 0) (o : Ord p a e) : Ord p b e := by
  have h1 : ∀ f, is1 p (b * a) f := fun f => (is1_congr (Int.dvd_of_emod_eq_zero h) f).mpr (is1_one p f)
  refine Ord.of_iff o.pos fun f => ?_
  rw [← o.iffN]
  constructor
  · intro z
    exact one_left (b := b) (by rw [Int.mul_comm]; exact h1 f) z
  · intro z
    exact one_left (b := a) (h1 f) z
theorem ord_one {p : Nat} : Ord p 1 1 := ⟨by decide, is1_one p 1, fun f hf _ => hf⟩
theorem un_gcd {p : Nat} {a : Int} (hp : Prime p) (h : un p a) : Int.gcd a p = 1 := by
  have h1 : Nat.gcd p a.natAbs = 1 := hp.coprime fun z => h (Int.natAbs_dvd_natAbs.mp (by rw [Int.natAbs_natCast]; exact z))
  rw [Int.gcd_comm]
  exact h1
theorem un_succ {p : Nat} {a : Int} (hp : Prime p) (h : a % (p : Int) = 0) : un p (a + 1) := fun z => by
  have h1 := Int.dvd_sub z (Int.dvd_of_emod_eq_zero h)
  rw [show a + 1 - a = 1 by omega] at h1
  have := Int.le_of_dvd (by decide) h1
  have := hp.1
  omega
end M

/-! orders of products -/
namespace M
theorem ord_mul_up {p e f h : Nat} {a b : Int} (oa : Ord p a e) (ob : Ord p b f) (oh : Ord p (a * b) h) : h ∣ e * f / Nat.gcd e f := by
  have g0 : 0 < Nat.gcd e f := Nat.gcd_pos_of_pos_left f oa.pos
  refine oh.dvdN (one_both (one_of_dvd oa.one ?_) (one_of_dvd ob.one ?_))
  · rw [Nat.mul_div_assoc _ (Nat.gcd_dvd_right e f)]; exact Nat.dvd_mul_right _ _
  · rw [Nat.mul_comm, Nat.mul_div_assoc _ (Nat.gcd_dvd_left e f)]; exact Nat.dvd_mul_right _ _
theorem ord_mul_low {p e f h : Nat} {a b : Int} (oa : Ord p a e) (ob : Ord p b f) (oh : Ord p (a * b) h) : e / Nat.gcd e f * (f / Nat.gcd e f) ∣ h := by
  have g0 : 0 < Nat.gcd e f := Nat.gcd_pos_of_pos_left f oa.pos
  have h1 : is1 p a (h * f) := one_left (b := b) (one_mul_ oh.one f) (one_of_dvd ob.one (Nat.dvd_mul_left f h))
  have h2 : is1 p b (h * e) := one_left (b := a) (by rw [Int.mul_comm]; exact one_mul_ oh.one e) (one_of_dvd oa.one (Nat.dvd_mul_left e h))
  have d1 : e / Nat.gcd e f ∣ h := by
    have := (dvd_mul_div (k := f) (f := h) oa.pos).mp (by rw [Nat.mul_comm]; exact oa.dvdN h1)
    rwa [Nat.gcd_comm] at this
  have d2 : f / Nat.gcd e f ∣ h := (dvd_mul_div (k := e) (f := h) ob.pos).mp (by rw [Nat.mul_comm]; exact ob.dvdN h2)
  have cop : Nat.gcd (e / Nat.gcd e f) (f / Nat.gcd e f) = 1 := by
    rw [Nat.gcd_div (Nat.gcd_dvd_left e f) (Nat.gcd_dvd_right e f), Nat.div_self g0]
  exact Nat.Coprime.mul_dvd_of_dvd_of_dvd cop d1 d2
theorem ord_mul_one {p e f h : Nat} {a b : Int} (oa : Ord p a e) (ob : Ord p b f) (oh : Ord p (a * b) h) (g : Nat.gcd e f = 1) : h = e * f := by
  have h1 := ord_mul_up oa ob oh
  have h2 := ord_mul_low oa ob oh
  rw [g] at h1 h2
  simp only [Nat.div_one] at h1 h2
  exact Nat.dvd_antisymm h1 h2
theorem ord_sq {p e : Nat} {a : Int} (oa : Ord p a e) : Ord p (a * a) (e / (2 - e % 2)) := by
  have h1 := oa.pow_ 2
  rw [show a ^ 2 = a * a by rw [Int.pow_succ, Int.pow_one]] at h1
  have g : Nat.gcd 2 e = 2 - e % 2 := by
    rw [Nat.gcd_rec]
    rcases Nat.mod_two_eq_zero_or_one e with z | z
    · rw [z]; simp
    · rw [z]; simp
  rwa [g] at h1
theorem un_mul {p : Nat} {a b : Int} (hp : Prime p) (ha : un p a) (hb : un p b) : un p (a * b) := fun z => by
  rcases dvd_mul_int hp z with w | w
  · exact ha w
  · exact hb w
theorem mod_alike (p : Nat) (a : Int) : (p : Int) ∣ a - a % p := Int.dvd_of_emod_eq_zero (Int.emod_eq_emod_iff_emod_sub_eq_zero.mp (by rw [Int.emod_emod]))
theorem ord_mods {p e : Nat} {a b : Int} (o : Ord p (a * b) e) : Ord p (a % p * (b % p)) e := o.congr (by
  obtain ⟨c, hc⟩ := mod_alike p a
  obtain ⟨d, hd⟩ := mod_alike p b
  exact ⟨c * b + a % p * d, by
    have : a * b - a % p * (b % p) = (a - a % p) * b + a % p * (b - b % p) := by grind
    rw [this, hc, hd]; grind⟩)
theorem un_pw {p : Nat} {f : Int} (hp : Prime p) (h : un p f) (k : Nat) : un p (pw p f k) := fun z => by
  have h1 := pw_alike p f k
  have h2 := Int.dvd_add h1 z
  rw [show f ^ k - pw p f k + pw p f k = f ^ k by omega] at h2
  exact unit_pow hp h k h2
end M

/-! the walk to a square root -/
namespace M
/-- m squarings bring t to 1, no fewer -/
structure IsM (p : Nat) (t : Int) (m : Nat) : Prop where
  one : is1 p t (2 ^ m)
  least : ∀ i, i < m → ¬ is1 p t (2 ^ i)
section
variable {p s m odd : Nat} {a f z t r w : Int}
theorem isM_ex {j : Nat} (h : is1 p t (2 ^ j)) : ∃ m, IsM p t m ∧ m ≤ j := by
  obtain ⟨m, h1, h2⟩ := exists_min (P := fun i => is1 p t (2 ^ i)) j h
  exact ⟨m, ⟨h1, fun i hi z => by have := h2 i z; omega⟩, h2 j h⟩
theorem IsM.unique {m' : Nat} (h : IsM p t m) (h' : IsM p t m') : m = m' := by
  rcases Nat.lt_trichotomy m m' with z | z | z
  · exact absurd h.one (h'.least m z)
  · exact z
  · exact absurd h'.one (h.least m' z)
theorem z_ord (hp : Prime p) (o : Ord p f (p - 1)) (h : p - 1 = odd * 2 ^ s) (h0 : 0 < odd) : Ord p (pw p f odd) (2 ^ s) := by
  have h1 := o.pw odd
  have g : Nat.gcd odd (p - 1) = odd := Nat.gcd_eq_left ⟨_, h⟩
  rw [g, h, Nat.mul_div_cancel_left _ h0] at h1
  exact h1
theorem is1_mod (e : Nat) : is1 p (t % p) e ↔ is1 p t e := by
  have h := mod_alike p t
  exact (is1_congr h e).symm
theorem is1_pw (k e : Nat) : is1 p (pw p a k) e ↔ is1 p a (k * e) := by
  rw [← one_pow_iff]
  exact (is1_congr (pw_alike p a k) e).symm
/-- -1, squared 1 -/
theorem minus_one (hp : Prime p) {x : Int} (h : (p : Int) ∣ x * x - 1) (n : ¬ (p : Int) ∣ x - 1) : (p : Int) ∣ x + 1 := by
  rw [show x * x - 1 = (x - 1) * (x + 1) by grind] at h
  exact (dvd_mul_int hp h).resolve_left n
theorem walk_step (hp : Prime p) (oz : Ord p z (2 ^ s)) (ht : IsM p t m) (m0 : 0 < m) (ms : m < s) :
    is1 p (t * pw p z (2 ^ (s - m - 1)) * pw p z (2 ^ (s - m - 1)) % p) (2 ^ (m - 1)) := by
  rw [is1_mod]
  obtain ⟨k, rfl⟩ : ∃ k, m = k + 1 := ⟨m - 1, by omega⟩
  rw [Nat.add_sub_cancel]
  generalize hw : pw p z (2 ^ (s - (k + 1) - 1)) = w
  -- u = t^(2^k), v = (w w)^(2^k)
  have hu1 : (p : Int) ∣ t ^ (2 ^ k) * t ^ (2 ^ k) - 1 := by
    have := ht.one
    unfold is1 at this
    rw [Nat.pow_succ, Int.pow_mul] at this
    rw [show t ^ (2 ^ k) * t ^ (2 ^ k) = (t ^ (2 ^ k)) ^ 2 by rw [Int.pow_succ, Int.pow_succ, Int.pow_zero, Int.one_mul]]
    exact this
  have hu := minus_one hp hu1 (ht.least k (by omega))
  have hw1 : ∀ e, is1 p w e ↔ is1 p z (2 ^ (s - (k + 1) - 1) * e) := fun e => by rw [← hw]; exact is1_pw _ _
  have e1 : 2 ^ (s - (k + 1) - 1) * 2 ^ (k + 2) = 2 ^ s := by rw [← Nat.pow_add]; congr 1; omega
  have e2 : 2 ^ (s - (k + 1) - 1) * 2 ^ (k + 1) = 2 ^ (s - 1) := by rw [← Nat.pow_add]; congr 1; omega
  have hvv : (w * w) ^ (2 ^ k) = w ^ (2 ^ (k + 1)) := by
    rw [show w * w = w ^ 2 by rw [Int.pow_succ, Int.pow_succ, Int.pow_zero, Int.one_mul], ← Int.pow_mul, Nat.pow_succ, Nat.mul_comm]
  have hv1 : (p : Int) ∣ (w * w) ^ (2 ^ k) * (w * w) ^ (2 ^ k) - 1 := by
    have : is1 p w (2 ^ (k + 2)) := (hw1 _).mpr (by rw [e1]; exact oz.one)
    unfold is1 at this
    rw [show 2 ^ (k + 2) = 2 ^ (k + 1) * 2 by rw [Nat.pow_succ], Int.pow_mul] at this
    rw [hvv, show w ^ (2 ^ (k + 1)) * w ^ (2 ^ (k + 1)) = (w ^ (2 ^ (k + 1))) ^ 2 by rw [Int.pow_succ, Int.pow_succ, Int.pow_zero, Int.one_mul]]
    exact this
  have hv2 : ¬ (p : Int) ∣ (w * w) ^ (2 ^ k) - 1 := fun y => by
    rw [hvv] at y
    have h1 : is1 p z (2 ^ (s - 1)) := by rw [← e2]; exact (hw1 _).mp y
    have h2 := oz.least _ (Nat.pow_pos (by decide)) h1
    have h3 : 2 ^ (s - 1) < 2 ^ s := Nat.pow_lt_pow_right (by decide) (by omega)
    omega
  have hv := minus_one hp hv1 hv2
  unfold is1
  have e3 : (t * w * w) ^ (2 ^ k) - 1 = (t ^ (2 ^ k) + 1) * ((w * w) ^ (2 ^ k) + 1) - (t ^ (2 ^ k) + 1) - ((w * w) ^ (2 ^ k) + 1) := by
    rw [Int.mul_assoc, Int.mul_pow]; grind
  rw [e3]
  exact Int.dvd_sub (Int.dvd_sub (Int.dvd_trans hu ⟨_, rfl⟩) hu) hv
theorem walk_start (hp : Prime p) (hu : un p a) (h : p - 1 = odd * 2 ^ s) (ho : odd % 2 = 1) (hh : p ≠ 2 → is1 p a ((p - 1) / 2)) : ∃ j, is1 p (pw p a odd) (2 ^ j) ∧ (0 < j → j < s) ∧ (j < s ∨ j = 0) := by
  have hp2 := hp.1
  by_cases e : p = 2
  · have hs : s = 0 := by
      rcases Nat.eq_zero_or_pos s with z | z
      · exact z
      · obtain ⟨k, rfl⟩ : ∃ k, s = k + 1 := ⟨s - 1, by omega⟩
        rw [e, Nat.pow_succ, ← Nat.mul_assoc] at h
        omega
    refine ⟨0, ?_, fun z => by omega, .inr rfl⟩
    rw [is1_pw, Nat.pow_zero, Nat.mul_one]
    have h1 := fermat hp hu
    rw [h, hs, Nat.pow_zero, Nat.mul_one] at h1
    exact h1
  · obtain ⟨he, h0⟩ := half_even hp e
    have hs : 0 < s := by
      rcases Nat.eq_zero_or_pos s with z | z
      · subst z
        rw [Nat.pow_zero, Nat.mul_one] at h
        omega
      · exact z
    obtain ⟨k, rfl⟩ : ∃ k, s = k + 1 := ⟨s - 1, by omega⟩
    refine ⟨k, ?_, fun _ => by omega, .inl (by omega)⟩
    rw [is1_pw]
    have h2 : (p - 1) / 2 = odd * 2 ^ k := by
      rw [h, Nat.pow_succ, ← Nat.mul_assoc]
      exact Nat.mul_div_cancel _ (by decide)
    rw [← h2]
    exact hh e
/-- the rows of the walk from r and t on -/
inductive Rows (p : Nat) (a z : Int) (s : Nat) : Int → Int → List (Int × Int × Nat) → Prop
  | last {r t : Int} : IsM p t 0 → (p : Int) ∣ r * r - a * t → Rows p a z s r t [(r, t, 0)]
  | more {r t : Int} {m : Nat} {l : List (Int × Int × Nat)} : IsM p t m → 0 < m → m < s → (p : Int) ∣ r * r - a * t →
      Rows p a z s (r * pw p z (2 ^ (s - m - 1)) % p) (t * pw p z (2 ^ (s - m - 1)) * pw p z (2 ^ (s - m - 1)) % p) l → Rows p a z s r t ((r, t, m) :: l)
theorem rt_start (h : p - 1 = odd * 2 ^ s) (ho : odd % 2 = 1) : (p : Int) ∣ pw p a ((odd + 1) / 2) * pw p a ((odd + 1) / 2) - a * pw p a odd := by
  have h1 := pw_alike p a ((odd + 1) / 2)
  have h2 := pw_alike p a odd
  generalize pw p a ((odd + 1) / 2) = r at h1 ⊢
  generalize pw p a odd = t at h2 ⊢
  have e : a ^ ((odd + 1) / 2) * a ^ ((odd + 1) / 2) = a * a ^ odd := by
    rw [← Int.pow_add, show (odd + 1) / 2 + (odd + 1) / 2 = odd + 1 by omega, Int.pow_succ, Int.mul_comm]
  generalize a ^ ((odd + 1) / 2) = x at h1 e
  generalize a ^ odd = y at h2 e
  have e2 : r * r - a * t = a * (y - t) - (x - r) * (x + r) := by grind
  rw [e2]
  exact Int.dvd_sub (Int.dvd_trans h2 ⟨a, Int.mul_comm _ _⟩) (Int.dvd_trans h1 ⟨_, rfl⟩)
theorem rt_step (h : (p : Int) ∣ r * r - a * t) : (p : Int) ∣ r * w % p * (r * w % p) - a * (t * w * w % p) := by
  have h1 := mod_alike p (r * w)
  have h2 := mod_alike p (t * w * w)
  generalize r * w % (p : Int) = x at h1 ⊢
  generalize t * w * w % (p : Int) = y at h2 ⊢
  have e2 : x * x - a * y = (r * r - a * t) * (w * w) + a * (t * w * w - y) - (r * w - x) * (r * w + x) := by grind
  rw [e2]
  exact Int.dvd_sub (Int.dvd_add (Int.dvd_trans h ⟨_, rfl⟩) (Int.dvd_trans h2 ⟨a, Int.mul_comm _ _⟩)) (Int.dvd_trans h1 ⟨_, rfl⟩)
theorem Rows.root {l : List (Int × Int × Nat)} (h : Rows p a z s r t l) : ∃ r' t', l.getLast? = some (r', t', 0) ∧ (p : Int) ∣ r' * r' - a := by
  induction h with
  | @last r t h1 h2 =>
    refine ⟨r, t, rfl, ?_⟩
    have h3 := h1.one
    unfold is1 at h3
    rw [Nat.pow_zero, Int.pow_succ, Int.pow_zero, Int.one_mul] at h3
    have e : r * r - a = (r * r - a * t) + a * (t - 1) := by grind
    rw [e]
    exact Int.dvd_add h2 (Int.dvd_trans h3 ⟨a, Int.mul_comm _ _⟩)
  | @more r t m l h1 h2 h3 h4 h5 ih =>
    obtain ⟨r', t', h6, h7⟩ := ih
    refine ⟨r', t', ?_, h7⟩
    rw [List.getLast?_cons, h6]; rfl
end
/-- the square roots of a by p, rising -/
structure IsRoots (p : Nat) (a : Int) (xs : List Int) : Prop where
  sorted : xs.Pairwise (· < ·)
  iff : ∀ y, y ∈ xs ↔ 0 ≤ y ∧ y < p ∧ (p : Int) ∣ y * y - a
theorem sorted_ext : ∀ {xs ys : List Int}, xs.Pairwise (· < ·) → ys.Pairwise (· < ·) → (∀ y, y ∈ xs ↔ y ∈ ys) → xs = ys
  | [], [], _, _, _ => rfl
  | [], y :: ys, _, _, h => absurd ((h y).mpr (by simp)) (by simp)
  | x :: xs, [], _, _, h => absurd ((h x).mp (by simp)) (by simp)
  | x :: xs, y :: ys, hx, hy, h => by
    have hx' := List.pairwise_cons.mp hx
    have hy' := List.pairwise_cons.mp hy
    have e : x = y := by
      rcases List.mem_cons.mp ((h x).mp (by simp)) with z | z
      · exact z
      · rcases List.mem_cons.mp ((h y).mpr (by simp)) with w | w
        · exact w.symm
        · have := hx'.1 y w
          have := hy'.1 x z
          omega
    subst e
    congr 1
    refine sorted_ext hx'.2 hy'.2 fun y => ⟨fun m => ?_, fun m => ?_⟩
    · rcases List.mem_cons.mp ((h y).mp (by simp [m])) with z | z
      · have := hx'.1 y m; omega
      · exact z
    · rcases List.mem_cons.mp ((h y).mpr (by simp [m])) with z | z
      · have := hy'.1 y m; omega
      · exact z
theorem IsRoots.unique {p : Nat} {a : Int} {xs ys : List Int} (h : IsRoots p a xs) (h' : IsRoots p a ys) : xs = ys := sorted_ext h.sorted h'.sorted fun y => (h.iff y).trans (h'.iff y).symm
theorem IsRoots.congr {p : Nat} {a b : Int} {xs : List Int} (h : IsRoots p a xs) (e : (p : Int) ∣ a - b) : IsRoots p b xs := ⟨h.sorted, fun y => by
  rw [h.iff]
  constructor
  · rintro ⟨h1, h2, h3⟩
    refine ⟨h1, h2, ?_⟩
    have := Int.dvd_add h3 e
    rwa [show y * y - a + (a - b) = y * y - b by omega] at this
  · rintro ⟨h1, h2, h3⟩
    refine ⟨h1, h2, ?_⟩
    have := Int.dvd_sub h3 e
    rwa [show y * y - b - (a - b) = y * y - a by omega] at this⟩
theorem roots_nought {p : Nat} {a : Int} (hp : Prime p) (h : (p : Int) ∣ a) : IsRoots p a [0] := ⟨by simp, fun y => by
  have hp2 := hp.1
  rw [List.mem_singleton]
  constructor
  · rintro rfl
    refine ⟨by omega, by omega, ?_⟩
    rw [show (0 : Int) * 0 - a = -a by omega]
    exact Int.dvd_neg.mpr h
  · rintro ⟨h1, h2, h3⟩
    have h4 := Int.dvd_add h3 h
    rw [show y * y - a + a = y * y by omega] at h4
    have h5 : (p : Int) ∣ y := (dvd_mul_int hp h4).elim id id
    rcases Int.lt_or_eq_of_le h1 with z | z
    · have := Int.le_of_dvd z h5; omega
    · exact z.symm⟩
theorem roots_none {p : Nat} {a : Int} (hp : Prime p) (h2 : p ≠ 2) (h : pw p a ((p - 1) / 2) = (p : Int) - 1) : IsRoots p a [] := ⟨.nil, fun y => by
  have hp2 := hp.1
  refine ⟨fun z => by simp at z, fun ⟨h1, h3, h4⟩ => ?_⟩
  exfalso
  have e : pw p (y * y) ((p - 1) / 2) = pw p a ((p - 1) / 2) := pw_congr (Int.emod_eq_emod_iff_emod_sub_eq_zero.mpr (Int.emod_eq_zero_of_dvd h4)) _
  rw [← e] at h
  by_cases hy : un p y
  · rw [half_square hp h2 hy] at h; omega
  · have hd : (p : Int) ∣ y := Classical.byContradiction hy
    rw [pw_nought (Int.dvd_trans hd ⟨y, rfl⟩) (half_even hp h2).2] at h; omega⟩
theorem roots_two {p : Nat} {a r : Int} {ns : List Int} (hp : Prime p) (h2 : p ≠ 2) (hu : un p a) (r0 : 0 ≤ r) (r1 : r < p) (h : (p : Int) ∣ r * r - a) (pm : ns.Perm [r, p - r]) (srt : ns.Pairwise (· ≤ ·)) : IsRoots p a ns := by
  have hp2 := hp.1
  have hr : r ≠ 0 := fun z => hu (by
    rw [z, show (0 : Int) * 0 - a = -a by omega] at h
    exact Int.dvd_neg.mp h)
  have hodd : p % 2 = 1 := by
    have := half_even hp h2
    omega
  have nd : ns.Nodup := pm.nodup_iff.mpr (by
    refine List.nodup_cons.mpr ⟨fun z => ?_, List.nodup_cons.mpr ⟨by simp, .nil⟩⟩
    have := List.mem_singleton.mp z
    omega)
  refine ⟨(srt.and nd).imp fun z => by have := z.1; have := z.2; omega, fun y => ?_⟩
  have hm : y ∈ ns ↔ y = r ∨ y = p - r := by rw [pm.mem_iff]; simp
  rw [hm]
  constructor
  · rintro (rfl | rfl)
    · exact ⟨r0, r1, h⟩
    · refine ⟨by omega, by omega, ?_⟩
      have e : ((p : Int) - r) * ((p : Int) - r) - a = (r * r - a) + (p : Int) * ((p : Int) - 2 * r) := by grind
      rw [e]
      exact Int.dvd_add h ⟨_, rfl⟩
  · rintro ⟨y0, y1, hy⟩
    have h3 := Int.dvd_sub hy h
    rw [show y * y - a - (r * r - a) = (y - r) * (y + r) by grind] at h3
    rcases dvd_mul_int hp h3 with z | z
    · left
      obtain ⟨c, hc⟩ := z
      have : c = 0 := by
        rcases Int.lt_trichotomy c 0 with w | w | w
        · have : (p : Int) * c ≤ p * (-1) := Int.mul_le_mul_of_nonneg_left (by omega) (by omega)
          omega
        · exact w
        · have : (p : Int) * 1 ≤ p * c := Int.mul_le_mul_of_nonneg_left (by omega) (by omega)
          omega
      rw [this] at hc
      omega
    · right
      obtain ⟨c, hc⟩ := z
      have : c = 1 := by
        rcases Int.lt_trichotomy c 1 with w | w | w
        · have : (p : Int) * c ≤ p * 0 := Int.mul_le_mul_of_nonneg_left (by omega) (by omega)
          omega
        · exact w
        · have : (p : Int) * 2 ≤ p * c := Int.mul_le_mul_of_nonneg_left (by omega) (by omega)
          omega
      rw [this] at hc
      omega
theorem roots_two2 {a r : Int} (hu : un 2 a) (r0 : 0 ≤ r) (r1 : r < 2) (h : ((2 : Nat) : Int) ∣ r * r - a) : IsRoots 2 a [r] := by
  have hr : r = 1 := by
    have : r = 0 ∨ r = 1 := by omega
    rcases this with rfl | rfl
    · exact absurd (by rw [show (0 : Int) * 0 - a = -a by omega] at h; exact Int.dvd_neg.mp h) hu
    · rfl
  subst hr
  refine ⟨by simp, fun y => ?_⟩
  rw [List.mem_singleton]
  constructor
  · rintro rfl
    exact ⟨by decide, by decide, h⟩
  · rintro ⟨y0, y1, hy⟩
    have : y = 0 ∨ y = 1 := by omega
    rcases this with rfl | rfl
    · exact absurd (by rw [show (0 : Int) * 0 - a = -a by omega] at hy; exact Int.dvd_neg.mp hy) hu
    · rfl
/-- the half power is 1 where it isn't p - 1 -/
theorem half_one {p : Nat} {a : Int} (hp : Prime p) (h2 : p ≠ 2) (hu : un p a) (h : pw p a ((p - 1) / 2) ≠ (p : Int) - 1) : is1 p a ((p - 1) / 2) := by
  have hp2 := hp.1
  obtain ⟨he, h0⟩ := half_even hp h2
  have h1 := fermat hp hu
  unfold is1 at h1 ⊢
  have e : a ^ (p - 1) - 1 = (a ^ ((p - 1) / 2) - 1) * (a ^ ((p - 1) / 2) + 1) := by
    conv => lhs; rw [he, Nat.mul_comm, Int.pow_mul]
    grind
  rw [e] at h1
  rcases dvd_mul_int hp h1 with z | z
  · exact z
  · exact absurd (pw_of_dvd (by omega) (by omega) (by
      have h3 := Int.dvd_sub z (Int.dvd_refl (p : Int))
      rw [show a ^ ((p - 1) / 2) + 1 - (p : Int) = a ^ ((p - 1) / 2) - ((p : Int) - 1) by omega] at h3
      exact h3)) h
end M

/-! powers of a number of an order: they are all numbers whose power to it is 1 -/
namespace M
theorem pow_apart {p d : Nat} {a : Int} (hp : Prime p) (o : Ord p a d) {i j : Nat} (h : i < j) (hj : j < i + d) : ¬ (p : Int) ∣ a ^ j - a ^ i := fun z => by
  have e : j = i + (j - i) := by omega
  rw [e] at z
  have := o.least (j - i) (by omega) (one_of_alike hp (o.unit hp) z)
  omega
theorem ord_powers {p d : Nat} {a x : Int} (hp : Prime p) (o : Ord p a d) (h : is1 p x d) : ∃ k, k < d ∧ (p : Int) ∣ x - a ^ k := by
  refine Classical.byContradiction fun no => ?_
  have h1 : ((List.range d).map fun k => a ^ k).Pairwise fun x y => ¬ (p : Int) ∣ y - x := by
    rw [List.pairwise_map]
    refine List.Pairwise.imp_of_mem ?_ List.pairwise_lt_range
    intro i j hi hj hij
    have := List.mem_range.mp hj
    exact pow_apart hp o hij (by omega)
  have h2 : (x :: (List.range d).map fun k => a ^ k).Pairwise fun x y => ¬ (p : Int) ∣ y - x := by
    refine List.pairwise_cons.mpr ⟨fun y hy z => ?_, h1⟩
    obtain ⟨k, hk, rfl⟩ := List.mem_map.mp hy
    refine no ⟨k, List.mem_range.mp hk, ?_⟩
    rw [← Int.neg_sub]
    exact Int.dvd_neg.mpr z
  have h3 := roots_le hp o.pos h2 fun r hr => by
    rcases List.mem_cons.mp hr with z | z
    · rw [z]; exact h
    · obtain ⟨k, _, rfl⟩ := List.mem_map.mp z
      have := (one_pow_iff (p := p) (a := a) (d := k) (f := d)).mpr (by rw [Nat.mul_comm]; exact one_mul_ o.one k)
      exact this
  rw [List.length_cons, List.length_map, List.length_range] at h3
  omega
theorem pw_alike_eq {p : Nat} (hp : 2 ≤ p) {x : Int} {a : Int} {k : Nat} (h : (p : Int) ∣ x - a ^ k) (x0 : 0 ≤ x) (x1 : x < p) : pw p a k = x := by
  have h1 := pw_alike p a k
  have h2 : (p : Int) ∣ x - pw p a k := by
    have e : x - pw p a k = (x - a ^ k) + (a ^ k - pw p a k) := by omega
    rw [e]; exact Int.dvd_add h h1
  unfold pw at h2 ⊢
  have a0 := Int.emod_nonneg (a ^ k) (show (p : Int) ≠ 0 by omega)
  have a1 := Int.emod_lt_of_pos (a ^ k) (show (0 : Int) < p by omega)
  obtain ⟨c, hc⟩ := h2
  have hc0 : c = 0 := by
    rcases Int.lt_trichotomy c 0 with z | z | z
    · have : (p : Int) * c ≤ p * (-1) := Int.mul_le_mul_of_nonneg_left (by omega) (by omega)
      omega
    · exact z
    · have : (p : Int) * 1 ≤ p * c := Int.mul_le_mul_of_nonneg_left (by omega) (by omega)
      omega
  rw [hc0, Int.mul_zero] at hc
  omega
end M

/-! roots of any order -/
namespace M
/-- alike by p -/
abbrev al (p : Nat) (x y : Int) : Prop := (p : Int) ∣ x - y
theorem al_refl (p : Nat) (x : Int) : al p x x := by unfold al; rw [Int.sub_self]; exact Int.dvd_zero _
theorem al_symm {p : Nat} {x y : Int} (h : al p x y) : al p y x := by
  unfold al at h ⊢
  rw [← Int.neg_sub]; exact Int.dvd_neg.mpr h
theorem al_trans {p : Nat} {x y z : Int} (h : al p x y) (h' : al p y z) : al p x z := by
  unfold al at h h' ⊢
  rw [show x - z = (x - y) + (y - z) by omega]; exact Int.dvd_add h h'
theorem al_mul {p : Nat} {x y u v : Int} (h : al p x y) (h' : al p u v) : al p (x * u) (y * v) := by
  unfold al at h h' ⊢
  rw [show x * u - y * v = (x - y) * u + y * (u - v) by grind]
  exact Int.dvd_add (Int.dvd_mul_of_dvd_left h) (Int.dvd_mul_of_dvd_right h')
theorem al_pow {p : Nat} {x y : Int} (h : al p x y) : ∀ k : Nat, al p (x ^ k) (y ^ k)
  | 0 => by rw [Int.pow_zero, Int.pow_zero]; exact al_refl _ _
  | k + 1 => by rw [Int.pow_succ, Int.pow_succ]; exact al_mul (al_pow h k) h
theorem al_mod (p : Nat) (x : Int) : al p (x % p) x := al_symm (Int.dvd_of_emod_eq_zero (Int.emod_eq_emod_iff_emod_sub_eq_zero.mp (by rw [Int.emod_emod])))
theorem al_pw (p : Nat) (a : Int) (k : Nat) : al p (pw p a k) (a ^ k) := al_mod p _
theorem al_eq {p : Nat} {x y : Int} (h : al p x y) (x0 : 0 ≤ x) (x1 : x < p) (y0 : 0 ≤ y) (y1 : y < p) : x = y := by
  have h1 := Int.emod_eq_emod_iff_emod_sub_eq_zero.mpr (Int.emod_eq_zero_of_dvd h)
  rwa [Int.emod_eq_of_lt x0 x1, Int.emod_eq_of_lt y0 y1] at h1
theorem al_emod {p : Nat} {x y : Int} (h : al p x y) : x % (p : Int) = y % (p : Int) := Int.emod_eq_emod_iff_emod_sub_eq_zero.mpr (Int.emod_eq_zero_of_dvd h)
theorem al_of_emod {p : Nat} {x y : Int} (h : x % (p : Int) = y % (p : Int)) : al p x y := Int.dvd_of_emod_eq_zero (Int.emod_eq_emod_iff_emod_sub_eq_zero.mp h)
theorem pow_al {p N : Nat} {w : Int} (o : is1 p w N) {i j : Nat} (h : i % N = j % N) : al p (w ^ i) (w ^ j) := by
  have key : ∀ i : Nat, al p (w ^ i) (w ^ (i % N)) := fun i => by
    have e : w ^ i = (w ^ N) ^ (i / N) * w ^ (i % N) := by rw [← Int.pow_mul, ← Int.pow_add, Nat.div_add_mod]
    rw [e]
    have h1 : al p ((w ^ N) ^ (i / N)) (1 ^ (i / N)) := al_pow o _
    rw [Int.one_pow] at h1
    have := al_mul h1 (al_refl p (w ^ (i % N)))
    rwa [Int.one_mul] at this
  exact al_trans (key i) (by rw [h]; exact al_symm (key j))
theorem al_pow_inv {p N : Nat} (hp : Prime p) {w : Int} (o : Ord p w N) {i j : Nat} (h : al p (w ^ i) (w ^ j)) : i % N = j % N := by
  have hi := al_trans (al_trans (pow_al o.one (Nat.mod_mod i N)) h) (pow_al o.one (Nat.mod_mod j N).symm)
  have n0 := o.pos
  have b1 := Nat.mod_lt i n0
  have b2 := Nat.mod_lt j n0
  rcases Nat.lt_trichotomy (i % N) (j % N) with z | z | z
  · exact absurd (al_symm hi) (pow_apart hp o z (by omega))
  · exact z
  · exact absurd hi (pow_apart hp o z (by omega))
/-- one digit -/
theorem digit_step {p q m k P : Nat} {w c : Int} (hq : 2 ≤ q) (hk : k < m) (o : Ord p w (q ^ m)) (h : al p c (w ^ P)) :
    pw p (c * pw p w (q ^ m - P % q ^ k) % p) (q ^ m / (q ^ k * q)) = pw p (pw p w (q ^ m / q)) (P / q ^ k % q) ∧ P % q ^ k + q ^ k * (P / q ^ k % q) = P % q ^ (k + 1) := by
  have qk : 0 < q ^ k := Nat.pow_pos (by omega)
  have e1 : q ^ m = q ^ k * q * q ^ (m - k - 1) := by rw [← Nat.pow_succ, ← Nat.pow_add]; congr 1; omega
  have e2 : q ^ m / (q ^ k * q) = q ^ (m - k - 1) := by rw [e1]; exact Nat.mul_div_cancel_left _ (Nat.mul_pos qk (by omega))
  have e3 : q ^ m / q = q ^ k * q ^ (m - k - 1) := by
    rw [e1, show q ^ k * q * q ^ (m - k - 1) = q * (q ^ k * q ^ (m - k - 1)) by grind]
    exact Nat.mul_div_cancel_left _ (by omega)
  refine ⟨?_, by rw [Nat.pow_succ, Nat.mod_mul]⟩
  rw [e2, e3]
  refine al_emod ?_
  have le : P % q ^ k ≤ q ^ m := by
    have := Nat.mod_lt P qk
    have := Nat.pow_le_pow_right (show 0 < q by omega) (show k ≤ m by omega)
    omega
  have h1 : al p (c * pw p w (q ^ m - P % q ^ k) % p) (w ^ (P + (q ^ m - P % q ^ k))) := by
    refine al_trans (al_mod p _) ?_
    rw [Int.pow_add]
    exact al_mul h (al_pw p w _)
  have e4 : P + (q ^ m - P % q ^ k) = q ^ k * (P / q ^ k) + q ^ m := by
    have := Nat.div_add_mod P (q ^ k)
    omega
  refine al_trans (al_pow h1 _) (al_trans ?_ (al_symm (al_pow (al_pw p w _) _)))
  rw [e4, ← Int.pow_mul, ← Int.pow_mul]
  refine pow_al o.one ?_
  generalize P / q ^ k = D
  rw [Nat.add_mul]
  have e5 : (q ^ k * D * q ^ (m - k - 1) + q ^ m * q ^ (m - k - 1)) % q ^ m = q ^ k * D * q ^ (m - k - 1) % q ^ m := Nat.add_mul_mod_self_left _ _ _
  rw [e5]
  have e6 : q ^ k * q ^ (m - k - 1) * q = q ^ m := by rw [e1]; grind
  have e7 : q ^ k * D * q ^ (m - k - 1) = q ^ k * q ^ (m - k - 1) * (D % q) + q ^ m * (D / q) := by
    rw [← e6]
    have := Nat.div_add_mod D q
    calc q ^ k * D * q ^ (m - k - 1) = q ^ k * q ^ (m - k - 1) * D := by grind
      _ = q ^ k * q ^ (m - k - 1) * (q * (D / q) + D % q) := by rw [this]
      _ = _ := by grind
  rw [e7]
  exact Nat.add_mul_mod_self_left _ _ _
/-- an inverse told by a rest -/
theorem inv_nat {n : Nat} {b : Int} {a : Nat} (n0 : 0 < n) (h : (b * a - 1) % (n : Int) = 0) (b0 : 0 ≤ b) : b.toNat * a % n = 1 % n := by
  obtain ⟨c, rfl⟩ := Int.eq_ofNat_of_zero_le b0
  have h1 := al_emod (Int.dvd_of_emod_eq_zero h)
  have h2 : ((c * a % n : Nat) : Int) = ((1 % n : Nat) : Int) := by push_cast; exact h1
  exact Int.ofNat_inj.mp h2
theorem mod_mul_one {n x y : Nat} (h : x % n = 1 % n) : x * y % n = y % n := by
  rw [Nat.mul_mod, h, ← Nat.mul_mod, Nat.one_mul]
/-- the root of one part -/
theorem part_root {p q m v d' P L i : Nat} {w c : Int} (o : is1 p w (q ^ m)) (hd : d' = d') (hv : q ^ v ∣ P) (hc : al p c (w ^ P)) (hi : i * d' % q ^ m = 1 % q ^ m) : al p ((w ^ (P / q ^ v * i)) ^ (q ^ v * d')) c := by
  refine al_trans ?_ (al_symm hc)
  rw [← Int.pow_mul]
  refine pow_al o ?_
  obtain ⟨t, rfl⟩ := hv
  by_cases z : q ^ v = 0
  · rw [z]; simp
  · rw [Nat.mul_div_cancel_left _ (by omega), show t * i * (q ^ v * d') = i * d' * (q ^ v * t) by grind]
    exact mod_mul_one hi
theorem all_dvd {D : Nat} : ∀ {l : List (Nat × Nat)}, l.Pairwise (fun x y => x.1 < y.1) → (∀ x ∈ l, Prime x.1) → (∀ x ∈ l, x.1 ^ x.2 ∣ D) → prodL l ∣ D
  | [], _, _, _ => Nat.one_dvd _
  | x :: l, hs, hp, h => by
    have hs' := List.pairwise_cons.mp hs
    have ih := all_dvd hs'.2 (fun y hy => hp y (List.mem_cons_of_mem _ hy)) fun y hy => h y (List.mem_cons_of_mem _ hy)
    have hno : ¬ x.1 ∣ prodL l := fun z => by
      obtain ⟨k, hk⟩ := prime_in' (hp x (by simp)) (fun y hy => hp y (List.mem_cons_of_mem _ hy)) z
      have := hs'.1 _ hk
      simp at this
    show x.1 ^ x.2 * prodL l ∣ D
    exact Nat.Coprime.mul_dvd_of_dvd_of_dvd (coprime_pow (hp x (by simp)) hno x.2) (h x (by simp)) ih
theorem facs_split {N : Nat} {l : List (Nat × Nat)} (hl : IsFac N l) : ∀ {x : Nat × Nat}, x ∈ l → ∃ m, N = x.1 ^ x.2 * m ∧ ¬ x.1 ∣ m ∧ ∀ y ∈ l, y ≠ x → y.1 ^ y.2 ∣ m := by
  have key : ∀ {l : List (Nat × Nat)}, l.Pairwise (fun x y => x.1 < y.1) → (∀ x ∈ l, Prime x.1) → ∀ {x : Nat × Nat}, x ∈ l → ∃ m, prodL l = x.1 ^ x.2 * m ∧ ¬ x.1 ∣ m ∧ ∀ y ∈ l, y ≠ x → y.1 ^ y.2 ∣ m := by
    intro l
    induction l with
    | nil => intro _ _ x h; cases h
    | cons a l ih =>
      intro hs hp x hx
      have hs' := List.pairwise_cons.mp hs
      have hp' : ∀ y ∈ l, Prime y.1 := fun y hy => hp y (List.mem_cons_of_mem _ hy)
      by_cases e : x = a
      · subst e
        refine ⟨prodL l, rfl, fun z => ?_, fun y hy hne => ?_⟩
        · obtain ⟨k, hk⟩ := prime_in' (hp x (by simp)) hp' z
          have := hs'.1 _ hk
          simp at this
        · rcases List.mem_cons.mp hy with z | z
          · exact absurd z hne
          · exact prodL_dvd z
      · have hxl : x ∈ l := (List.mem_cons.mp hx).resolve_left e
        obtain ⟨m, h1, h2, h3⟩ := ih hs'.2 hp' hxl
        have hlt := hs'.1 x hxl
        refine ⟨a.1 ^ a.2 * m, ?_, fun z => ?_, fun y hy hne => ?_⟩
        · show a.1 ^ a.2 * prodL l = _
          rw [h1]; grind
        · rcases (hp' x hxl).dvd_mul z with z | z
          · have := (hp' x hxl).eq_of_dvd (hp a (by simp)) ((hp' x hxl).dvd_pow z)
            omega
          · exact h2 z
        · rcases List.mem_cons.mp hy with z | z
          · rw [z]; exact Nat.dvd_mul_right _ _
          · exact Nat.dvd_trans (h3 y z hne) (Nat.dvd_mul_left _ _)
  intro x hx
  have := key hl.sorted (fun x h => (hl.primes x h).1) hx
  rwa [hl.prod] at this
/-- what one_root keeps -/
def OneI (p N d : Nat) (c : Int) (l : List (Nat × Nat)) (i left : Nat) (root : Int) : Prop :=
  ∃ W E : Nat, left * W = N ∧ Nat.gcd left W = 1 ∧ (∀ (j : Nat) (x : Nat × Nat), l[j]? = some x → (j < i ∧ x.1 ∣ d → x.1 ^ x.2 ∣ W ∧ E % x.1 ^ x.2 = 1 % x.1 ^ x.2) ∧ (¬ (j < i ∧ x.1 ∣ d) → x.1 ^ x.2 ∣ left ∧ x.1 ^ x.2 ∣ E)) ∧ al p (root ^ d) (c ^ E)
theorem one_start {p N d : Nat} {c : Int} {l : List (Nat × Nat)} (hl : IsFac N l) : OneI p N d c l 0 N 1 :=
  ⟨1, 0, by omega, Nat.gcd_one_right _, fun j x hx => ⟨fun z => by omega, fun _ => ⟨by rw [← hl.prod]; exact prodL_dvd (List.mem_of_getElem? hx), Nat.dvd_zero _⟩⟩, by rw [Int.one_pow, Int.pow_zero]; exact al_refl _ _⟩
theorem one_skip {p N d i left : Nat} {c root : Int} {l : List (Nat × Nat)} {x : Nat × Nat} (h : OneI p N d c l i left root) (hx : l[i]? = some x) (hd : ¬ x.1 ∣ d) : OneI p N d c l (i + 1) left root := by
  obtain ⟨W, E, h1, h2, h3, h4⟩ := h
  refine ⟨W, E, h1, h2, fun j y hy => ⟨fun z => (h3 j y hy).1 ⟨?_, z.2⟩, fun z => (h3 j y hy).2 fun w => z ⟨by omega, w.2⟩⟩, h4⟩
  have : j ≠ i := fun e => by subst e; rw [hx] at hy; cases hy; exact hd z.2
  omega
theorem one_more {p N d i left : Nat} {c root r : Int} {l : List (Nat × Nat)} {x : Nat × Nat} {F : Nat} (hl : IsFac N l) (N0 : 0 < N) (h : OneI p N d c l i left root) (hx : l[i]? = some x) (hd : x.1 ∣ d)
    (hr : al p (r ^ d) (c ^ F)) (hF : F % x.1 ^ x.2 = 1 % x.1 ^ x.2) (hF2 : N / x.1 ^ x.2 ∣ F) : OneI p N d c l (i + 1) (left / x.1 ^ x.2) (root * r % p) ∧ x.1 ^ x.2 ∣ left := by
  obtain ⟨W, E, h1, h2, h3, h4⟩ := h
  have hm := List.mem_of_getElem? hx
  have hq := (hl.primes x hm).1
  have q0 : 0 < x.1 ^ x.2 := Nat.pow_pos hq.pos
  obtain ⟨m, em, hno, hoth⟩ := facs_split hl hm
  have hxl := ((h3 i x hx).2 fun z => by omega)
  obtain ⟨left', e1⟩ := hxl.1
  have e2 : left / x.1 ^ x.2 = left' := by rw [e1]; exact Nat.mul_div_cancel_left _ q0
  have e3 : N / x.1 ^ x.2 = m := by rw [em]; exact Nat.mul_div_cancel_left _ q0
  rw [e3] at hF2
  have e4 : left' * W = m := by
    have : x.1 ^ x.2 * (left' * W) = x.1 ^ x.2 * m := by rw [← em, ← h1, e1]; grind
    exact Nat.eq_of_mul_eq_mul_left q0 this
  have hnl : ¬ x.1 ∣ left' := fun z => hno (by rw [← e4]; exact Nat.dvd_trans z (Nat.dvd_mul_right _ _))
  have hcop : Nat.gcd (x.1 ^ x.2) left' = 1 := coprime_pow hq hnl x.2
  refine ⟨?_, hxl.1⟩
  rw [e2]
  refine ⟨x.1 ^ x.2 * W, E + F, by rw [em, ← e4]; grind, ?_, fun j y hy => ?_, ?_⟩
  · refine Nat.Coprime.mul_right ?_ ?_
    · rw [Nat.Coprime, Nat.gcd_comm]; exact hcop
    · exact Nat.Coprime.coprime_dvd_left ⟨x.1 ^ x.2, by rw [e1, Nat.mul_comm]⟩ h2
  · by_cases ej : j = i
    · subst ej
      rw [hx] at hy; cases hy
      refine ⟨fun _ => ⟨Nat.dvd_mul_right _ _, ?_⟩, fun z => absurd ⟨by omega, hd⟩ z⟩
      rw [Nat.add_mod, Nat.mod_eq_zero_of_dvd hxl.2, Nat.zero_add, Nat.mod_mod, hF]
    · have hym := List.mem_of_getElem? hy
      have hne : y ≠ x := fun e => by
        subst e
        have hj := (List.getElem?_eq_some_iff.mp hy)
        have hi := (List.getElem?_eq_some_iff.mp hx)
        obtain ⟨j1, j2⟩ := hj
        obtain ⟨i1, i2⟩ := hi
        rcases Nat.lt_trichotomy i j with z | z | z
        · have := List.pairwise_iff_getElem.mp hl.sorted i j i1 j1 z
          rw [i2, j2] at this; omega
        · omega
        · have := List.pairwise_iff_getElem.mp hl.sorted j i j1 i1 z
          rw [i2, j2] at this; omega
      have hyF : y.1 ^ y.2 ∣ F := Nat.dvd_trans (hoth y hym hne) hF2
      refine ⟨fun z => ?_, fun z => ?_⟩
      · have := (h3 j y hy).1 ⟨by omega, z.2⟩
        refine ⟨Nat.dvd_trans this.1 (Nat.dvd_mul_left _ _), ?_⟩
        rw [Nat.add_mod, Nat.mod_eq_zero_of_dvd hyF, Nat.add_zero, Nat.mod_mod, this.2]
      · have := (h3 j y hy).2 fun w => z ⟨by omega, w.2⟩
        refine ⟨?_, Nat.dvd_add this.2 hyF⟩
        have hcy : Nat.Coprime (y.1 ^ y.2) (x.1 ^ x.2) := by
          have hyq := (hl.primes y hym).1
          refine Nat.Coprime.pow _ _ ?_
          refine hyq.coprime fun w => ?_
          have e := hyq.eq_of_dvd hq w
          obtain ⟨j1, j2⟩ := List.getElem?_eq_some_iff.mp hy
          obtain ⟨i1, i2⟩ := List.getElem?_eq_some_iff.mp hx
          rcases Nat.lt_trichotomy i j with z | z | z
          · have := List.pairwise_iff_getElem.mp hl.sorted i j i1 j1 z
            rw [i2, j2] at this; omega
          · omega
          · have := List.pairwise_iff_getElem.mp hl.sorted j i j1 i1 z
            rw [i2, j2] at this; omega
        have h5 := this.1
        rw [e1] at h5
        exact hcy.dvd_of_dvd_mul_left h5
  · refine al_trans (al_pow (al_mod p _) d) ?_
    rw [Int.mul_pow, Int.pow_add]
    exact al_mul h4 hr
theorem one_cop {p N d left : Nat} {c root : Int} {l : List (Nat × Nat)} (hl : IsFac N l) (N0 : 0 < N) (h : OneI p N d c l l.length left root) : 0 < left ∧ left ∣ N ∧ Nat.gcd (N / left) left = 1 ∧ Nat.gcd d left = 1 := by
  obtain ⟨W, E, h1, h2, h3, h4⟩ := h
  have l0 : 0 < left := Nat.pos_of_ne_zero fun z => by rw [z] at h1; omega
  have eW : N / left = W := by rw [← h1]; exact Nat.mul_div_cancel_left _ l0
  refine ⟨l0, ⟨W, h1.symm⟩, by rw [eW, Nat.gcd_comm]; exact h2, ?_⟩
  refine Classical.byContradiction fun hne => ?_
  have hg : 2 ≤ Nat.gcd d left := by
    have : 0 < Nat.gcd d left := Nat.gcd_pos_of_pos_right _ l0
    omega
  obtain ⟨r, hr, hrd⟩ := exists_prime _ hg
  have r1 := Nat.dvd_trans hrd (Nat.gcd_dvd_left _ _)
  have r2 := Nat.dvd_trans hrd (Nat.gcd_dvd_right _ _)
  obtain ⟨k, hk⟩ := fac_prime_in hl hr (Nat.dvd_trans r2 ⟨W, h1.symm⟩)
  obtain ⟨j, hj⟩ := List.getElem?_of_mem hk
  have hjl := (List.getElem?_eq_some_iff.mp hj).1
  have h5 := ((h3 j _ hj).1 ⟨hjl, r1⟩).1
  have h6 : r ∣ Nat.gcd left W := Nat.dvd_gcd r2 (Nat.dvd_trans (dvd_pow_self r (hl.primes _ hk).2) h5)
  rw [h2] at h6
  have := Nat.le_of_dvd (by decide) h6
  have := hr.1
  omega
theorem one_end {p N d left i1 i2 : Nat} {c root : Int} {l : List (Nat × Nat)} (hl : IsFac N l) (N0 : 0 < N) (h : OneI p N d c l l.length left root) (hc : is1 p c N) (e1 : i1 * (N / left) % left = 1 % left) (e2 : i2 * d % left = 1 % left) :
    al p ((root * pw p c (N / left * i1 * i2) % p) ^ d) c := by
  obtain ⟨l0, hlN, _, _⟩ := one_cop hl N0 h
  obtain ⟨W, E, h1, h2, h3, h4⟩ := h
  have eW : N / left = W := by rw [← h1]; exact Nat.mul_div_cancel_left _ l0
  rw [eW] at e1 ⊢
  refine al_trans (al_pow (al_mod p _) d) ?_
  rw [Int.mul_pow]
  refine al_trans (al_mul h4 (al_pow (al_pw p c _) d)) ?_
  rw [← Int.pow_mul, ← Int.pow_add]
  have key : (E + W * i1 * i2 * d) % N = 1 % N := by
    have h5 : prodL l ∣ ((E + W * i1 * i2 * d : Nat) - (1 : Int)).natAbs := all_dvd hl.sorted (fun x hx => (hl.primes x hx).1) fun x hx => by
      obtain ⟨j, hj⟩ := List.getElem?_of_mem hx
      have hjl := (List.getElem?_eq_some_iff.mp hj).1
      have hh := h3 j x hj
      have h6 : (E + W * i1 * i2 * d) % x.1 ^ x.2 = 1 % x.1 ^ x.2 := by
        by_cases hd : x.1 ∣ d
        · obtain ⟨a1, a2⟩ := hh.1 ⟨hjl, hd⟩
          have h7 : x.1 ^ x.2 ∣ W * i1 * i2 * d := Nat.dvd_trans a1 ⟨i1 * i2 * d, by grind⟩
          rw [Nat.add_mod, Nat.mod_eq_zero_of_dvd h7, Nat.add_zero, Nat.mod_mod, a2]
        · obtain ⟨a1, a2⟩ := hh.2 fun z => hd z.2
          have h8 : W * i1 * i2 * d % left = 1 % left := by
            rw [show W * i1 * i2 * d = i1 * W * (i2 * d) by grind, mod_mul_one e1, e2]
          have h9 : W * i1 * i2 * d % x.1 ^ x.2 = 1 % x.1 ^ x.2 := by
            rw [← Nat.mod_mod_of_dvd _ a1, h8, Nat.mod_mod_of_dvd _ a1]
          rw [Nat.add_mod, Nat.mod_eq_zero_of_dvd a2, Nat.zero_add, Nat.mod_mod, h9]
      have h10 : ((E + W * i1 * i2 * d : Nat) : Int) % ((x.1 ^ x.2 : Nat) : Int) = 1 % ((x.1 ^ x.2 : Nat) : Int) := by
        rw [← Int.natCast_emod, h6]; rfl
      have h11 := Int.dvd_of_emod_eq_zero (Int.emod_eq_emod_iff_emod_sub_eq_zero.mp h10)
      exact Int.ofNat_dvd_left.mp h11
    rw [hl.prod] at h5
    have h12 := Int.emod_eq_emod_iff_emod_sub_eq_zero.mpr (Int.emod_eq_zero_of_dvd (Int.ofNat_dvd_left.mpr h5))
    have h13 : (((E + W * i1 * i2 * d) % N : Nat) : Int) = ((1 % N : Nat) : Int) := by rw [Int.natCast_emod, Int.natCast_emod]; exact h12
    exact Int.ofNat_inj.mp h13
  have := pow_al hc key
  rwa [Int.pow_one] at this
/-- all roots of order k of a by p -/
structure IsKR (p k : Nat) (a : Int) (xs : List Int) : Prop where
  sorted : xs.Pairwise (· < ·)
  iff : ∀ y, y ∈ xs ↔ 0 ≤ y ∧ y < p ∧ al p (y ^ k) a
theorem IsKR.unique {p k : Nat} {a : Int} {xs ys : List Int} (h : IsKR p k a xs) (h' : IsKR p k a ys) : xs = ys := sorted_ext h.sorted h'.sorted fun y => (h.iff y).trans (h'.iff y).symm
theorem kr_nought {p k : Nat} {a : Int} (hp : Prime p) (hk : 0 < k) (h : (p : Int) ∣ a) : IsKR p k a [0] := ⟨by simp, fun y => by
  rw [List.mem_singleton]
  have ha : al p a 0 := by unfold al; rw [Int.sub_zero]; exact h
  constructor
  · rintro rfl
    refine ⟨by decide, by have := hp.1; omega, ?_⟩
    rw [Int.zero_pow (by omega)]
    exact al_symm ha
  · rintro ⟨y0, y1, hy⟩
    have h1 := al_trans hy ha
    unfold al at h1
    rw [Int.sub_zero] at h1
    have h2 : (p : Int) ∣ y := Classical.byContradiction fun z => unit_pow hp z k h1
    by_cases e : y = 0
    · exact e
    · have := Int.le_of_dvd (by omega) h2; omega⟩
/-- where there is a root, the power is 1 -/
theorem kr_one {p k : Nat} {a y : Int} (hp : Prime p) (ha : un p a) (hk : 0 < k) (h : al p (y ^ k) a) : is1 p a ((p - 1) / Nat.gcd k (p - 1)) := by
  have p1 : 0 < p - 1 := by have := hp.1; omega
  have hy : un p y := fun z => ha (by
    obtain ⟨j, rfl⟩ : ∃ j, k = j + 1 := ⟨k - 1, by omega⟩
    have h1 : (p : Int) ∣ y ^ (j + 1) := by rw [Int.pow_succ]; exact Int.dvd_mul_of_dvd_right z
    have h2 : a = y ^ (j + 1) - (y ^ (j + 1) - a) := by omega
    rw [h2]; exact Int.dvd_sub h1 h)
  have hf := fermat hp hy
  have h3 : is1 p (y ^ k) ((p - 1) / Nat.gcd k (p - 1)) := one_pow_iff.mpr (one_of_dvd hf (by
    obtain ⟨g, hg⟩ := Nat.gcd_dvd_left k (p - 1)
    have g0 := Nat.gcd_pos_of_pos_right k p1
    refine ⟨g, ?_⟩
    have h4 := Nat.div_mul_cancel (Nat.gcd_dvd_right k (p - 1))
    calc k * ((p - 1) / Nat.gcd k (p - 1)) = (Nat.gcd k (p - 1) * g) * ((p - 1) / Nat.gcd k (p - 1)) := by rw [← hg]
      _ = ((p - 1) / Nat.gcd k (p - 1) * Nat.gcd k (p - 1)) * g := by grind
      _ = (p - 1) * g := by rw [h4]))
  exact (is1_congr h _).mp h3
theorem kr_none {p k : Nat} {a : Int} (hp : Prime p) (ha : un p a) (hk : 0 < k) (h : ¬ is1 p a ((p - 1) / Nat.gcd k (p - 1))) : IsKR p k a [] := ⟨.nil, fun y => ⟨fun z => by simp at z, fun z => absurd (kr_one hp ha hk z.2.2) h⟩⟩
/-- all of them, from one -/
theorem kr_all {p k d : Nat} {a root turn : Int} {ns : List Int} (hp : Prime p) (ha : un p a) (ed : d = Nat.gcd k (p - 1)) (hr : al p (root ^ k) a) (ht : Ord p turn d) (pm : ns.Perm ((List.range d).map fun i => root * turn ^ i % (p : Int))) (srt : ns.Pairwise (· ≤ ·)) (hk : 0 < k) : IsKR p k a ns := by
  have hp2 := hp.1
  have d0 := ht.pos
  have hur : un p root := fun z => ha (by
    obtain ⟨j, rfl⟩ : ∃ j, k = j + 1 := ⟨k - 1, by omega⟩
    have h1 : (p : Int) ∣ root ^ (j + 1) := by rw [Int.pow_succ]; exact Int.dvd_mul_of_dvd_right z
    have h2 : a = root ^ (j + 1) - (root ^ (j + 1) - a) := by omega
    rw [h2]; exact Int.dvd_sub h1 hr)
  have hrange : ∀ y : Int, 0 ≤ y % (p : Int) ∧ y % (p : Int) < p := fun y => ⟨Int.emod_nonneg _ (by omega), Int.emod_lt_of_pos _ (by omega)⟩
  have hcan : ∀ {x y : Int}, al p (root * x) (root * y) → al p x y := fun {x y} h => by
    unfold al at h ⊢
    rw [← Int.mul_sub] at h
    exact (dvd_mul_int hp h).resolve_left hur
  have nd : ns.Pairwise (· ≠ ·) := by
    refine (pm.pairwise_iff (fun h => Ne.symm h)).mpr ?_
    rw [List.pairwise_map]
    refine List.Pairwise.imp_of_mem ?_ List.pairwise_lt_range
    intro i j hi hj hij e
    have := List.mem_range.mp hj
    exact pow_apart hp ht hij (by omega) (al_symm (hcan (al_of_emod e)))
  refine ⟨(srt.and nd).imp fun z => by have := z.1; have := z.2; omega, fun y => ?_⟩
  rw [pm.mem_iff, List.mem_map]
  constructor
  · rintro ⟨i, hi, rfl⟩
    refine ⟨(hrange _).1, (hrange _).2, al_trans (al_pow (al_mod p _) k) ?_⟩
    rw [Int.mul_pow]
    have h1 : al p ((turn ^ i) ^ k) 1 := by
      rw [← Int.pow_mul]
      obtain ⟨g, hg⟩ := Nat.gcd_dvd_left k (p - 1)
      rw [← ed] at hg
      exact one_of_dvd ht.one ⟨i * g, by rw [hg]; grind⟩
    have := al_mul hr h1
    rwa [Int.mul_one] at this
  · rintro ⟨y0, y1, hy⟩
    -- y times the inverse of the root
    have hb : ∃ b : Int, al p (root * b) 1 := by
      refine ⟨root ^ (p - 2), ?_⟩
      have := fermat hp hur
      unfold is1 at this
      rw [show p - 1 = (p - 2) + 1 by omega, Int.pow_succ, Int.mul_comm] at this
      exact this
    obtain ⟨b, hb⟩ := hb
    have h1 : al p ((y * b) ^ k) 1 := by
      rw [Int.mul_pow]
      refine al_trans (al_mul (al_trans hy (al_symm hr)) (al_refl p (b ^ k))) ?_
      rw [← Int.mul_pow]
      have := al_pow hb k
      rwa [Int.one_pow] at this
    have hyb : un p (y * b) := fun z => by
      have h2 : (p : Int) ∣ (y * b) ^ k := by
        obtain ⟨j, rfl⟩ : ∃ j, k = j + 1 := ⟨k - 1, by omega⟩
        rw [Int.pow_succ]; exact Int.dvd_mul_of_dvd_right z
      have h3 : (p : Int) ∣ 1 := by
        have : (1 : Int) = (y * b) ^ k - ((y * b) ^ k - 1) := by omega
        rw [this]; exact Int.dvd_sub h2 h1
      have := Int.le_of_dvd (by decide) h3; omega
    obtain ⟨o, ho⟩ := exists_ord hp hyb
    have h4 : o ∣ d := by
      rw [ed]
      exact Nat.dvd_gcd (ho.dvd hp h1) (ho.dvd hp (fermat hp hyb))
    obtain ⟨i, hi, hx⟩ := ord_powers hp ht (one_of_dvd ho.one h4)
    refine ⟨i, List.mem_range.mpr hi, ?_⟩
    refine al_eq (al_trans (al_mod p _) ?_) (hrange _).1 (hrange _).2 y0 y1
    have h5 := al_mul (al_refl p root) (al_symm hx)
    refine al_trans h5 ?_
    have h6 := al_mul (al_refl p y) hb
    rw [Int.mul_one] at h6
    rw [show root * (y * b) = y * (root * b) by grind]
    exact h6
end M

/-! which power: tables, digits, put together -/
namespace M
theorem msz_ex (q : Nat) : ∃ m, (1 ≤ m ∧ q ≤ m * m) ∧ ∀ k, (1 ≤ k ∧ q ≤ k * k) → m ≤ k := exists_min (P := fun m => 1 ≤ m ∧ q ≤ m * m) (q + 1) ⟨by omega, Nat.le_trans (Nat.le_succ q) (Nat.le_mul_of_pos_left _ (by omega))⟩
/-- the size of a table -/
noncomputable def msz (q : Nat) : Nat := (msz_ex q).choose
theorem msz_pos (q : Nat) : 1 ≤ msz q := (msz_ex q).choose_spec.1.1
theorem msz_sq (q : Nat) : q ≤ msz q * msz q := (msz_ex q).choose_spec.1.2
theorem msz_least {q k : Nat} (h1 : 1 ≤ k) (h2 : q ≤ k * k) : msz q ≤ k := (msz_ex q).choose_spec.2 k ⟨h1, h2⟩
theorem msz_le {q : Nat} (h : 1 ≤ q) : msz q ≤ q := msz_least h (Nat.le_mul_of_pos_left _ h)
theorem msz_is {q m : Nat} (h1 : 1 ≤ m) (h2 : q ≤ m * m) (h3 : ∀ j, 1 ≤ j → j < m → j * j < q) : m = msz q := by
  refine Nat.le_antisymm ?_ (msz_least h1 h2)
  rcases Nat.lt_or_ge (msz q) m with z | z
  · have := h3 _ (msz_pos q) z
    have := msz_sq q
    omega
  · exact z
/-- the digits of x by q -/
def digL (x q m : Nat) : List Nat := (List.range m).map fun k => x / q ^ k % q
theorem digL_len (x q m : Nat) : (digL x q m).length = m := by unfold digL; rw [List.length_map, List.length_range]
theorem digL_more (x q m : Nat) : digL x q (m + 1) = digL x q m ++ [x / q ^ m % q] := by unfold digL; rw [List.range_succ, List.map_append]; rfl
theorem digL_lt {x q m d : Nat} (hq : 0 < q) (h : d ∈ digL x q m) : d < q := by
  obtain ⟨k, _, rfl⟩ := List.mem_map.mp h
  exact Nat.mod_lt _ hq
theorem ord_part {p e q : Nat} {b : Int} (o : Ord p b e) (hq : q ∣ e) (q0 : 0 < q) : Ord p (pw p b (e / q)) q := by
  have h := o.pw (e / q)
  have g : Nat.gcd (e / q) e = e / q := Nat.gcd_eq_left (Nat.div_dvd_of_dvd hq)
  rw [g, Nat.div_div_self hq (by have := o.pos; omega)] at h
  exact h
theorem dig_mod (x q k : Nat) : x % q ^ k + q ^ k * (x / q ^ k % q) = x % q ^ (k + 1) := (Nat.mod_pow_succ ..).symm
theorem pow_sp (b u : Int) (y z : Nat) : b ^ (y + z) * u ^ y = b ^ z * (u * b) ^ y := by rw [Int.pow_add, Int.mul_pow]; grind
theorem dig_call {p e q m k x : Nat} {b a undo : Int} (o : Ord p b e) (q0 : 0 < q) (hm : q ^ m ∣ e) (hk : k < m) (ha : al p a (b ^ x)) (hu : al p (undo * b) 1) :
    al p (pw p (a * pw p undo (x % q ^ k)) (e / (q ^ k * q))) ((pw p b (e / q)) ^ (x / q ^ k % q)) := by
  have hqe : q ∣ e := Nat.dvd_trans ⟨q ^ (m - 1), by rw [Nat.mul_comm, ← Nat.pow_succ]; congr 1; omega⟩ hm
  have ow := ord_part o hqe q0
  have e0 := o.pos
  obtain ⟨f, hf⟩ : q ^ k * q ∣ e := Nat.dvd_trans (by rw [← Nat.pow_succ]; exact Nat.pow_dvd_pow q hk) hm
  have qk0 : 0 < q ^ k := Nat.pow_pos q0
  have ef : e / (q ^ k * q) = f := by rw [hf]; exact Nat.mul_div_cancel_left _ (Nat.mul_pos qk0 q0)
  have eq' : e / q = q ^ k * f := by
    rw [hf, show q ^ k * q * f = q * (q ^ k * f) by grind]
    exact Nat.mul_div_cancel_left _ q0
  have hx : x = x % q ^ k + q ^ k * (x / q ^ k) := (Nat.mod_add_div x (q ^ k)).symm
  have h1 : al p (a * pw p undo (x % q ^ k)) (b ^ (q ^ k * (x / q ^ k))) := by
    have h2 : al p (a * pw p undo (x % q ^ k)) (b ^ x * undo ^ (x % q ^ k)) := al_mul ha (al_pw p undo _)
    have h3 : b ^ x * undo ^ (x % q ^ k) = b ^ (q ^ k * (x / q ^ k)) * (undo * b) ^ (x % q ^ k) := by
      rw [show b ^ x = b ^ (x % q ^ k + q ^ k * (x / q ^ k)) by rw [Nat.mod_add_div]]
      exact pow_sp _ _ _ _
    rw [h3] at h2
    refine al_trans h2 ?_
    have h4 := al_mul (al_refl p (b ^ (q ^ k * (x / q ^ k)))) (al_pow hu (x % q ^ k))
    rw [Int.one_pow, Int.mul_one] at h4
    exact h4
  have h5 := al_trans (al_pw p _ (e / (q ^ k * q))) (al_pow h1 (e / (q ^ k * q)))
  refine al_trans h5 ?_
  rw [ef, ← Int.pow_mul]
  have h6 : al p ((pw p b (e / q)) ^ (x / q ^ k)) (b ^ (q ^ k * (x / q ^ k) * f)) := by
    have := al_pow (al_pw p b (e / q)) (x / q ^ k)
    rw [← Int.pow_mul, eq', show q ^ k * f * (x / q ^ k) = q ^ k * (x / q ^ k) * f by grind] at this
    rw [eq']; exact this
  exact al_trans (al_symm h6) (pow_al ow.one (Nat.mod_mod _ _).symm)
/-- a great step -/
theorem giant_go {p m d i : Nat} {w c back : Int} (hb : al p (back * w ^ m) 1) (hi : (i + 1) * m ≤ d) (h : al p c (w ^ (d - i * m))) : al p (c * back) (w ^ (d - (i + 1) * m)) := by
  have e : d - i * m = d - (i + 1) * m + m := by
    have : (i + 1) * m = i * m + m := Nat.succ_mul i m
    omega
  rw [e, Int.pow_add] at h
  have h1 := al_mul h (al_refl p back)
  refine al_trans h1 ?_
  have h2 := al_mul (al_refl p (w ^ (d - (i + 1) * m))) hb
  rw [Int.mul_one] at h2
  rw [show w ^ (d - (i + 1) * m) * w ^ m * back = w ^ (d - (i + 1) * m) * (back * w ^ m) by grind]
  exact h2
theorem giant_no {p q m d i j : Nat} {w c : Int} (hp : Prime p) (o : Ord p w q) (hd : d < q) (hm : m ≤ q) (hi : (i + 1) * m ≤ d) (hj : j < m) (h : al p c (w ^ (d - i * m))) : ¬ al p c (w ^ j) := fun z => by
  have h1 := al_pow_inv hp o (al_trans (al_symm h) z)
  have : (i + 1) * m = i * m + m := Nat.succ_mul i m
  rw [Nat.mod_eq_of_lt (by omega), Nat.mod_eq_of_lt (by omega)] at h1
  omega
/-- a number by its rests: rows of primes' powers that come to e -/
theorem join_step {e i : Nat} {l : List (Nat × Nat)} {x found rest inv : Nat} {y : Nat × Nat} (hl : IsFac e l) (hy : l[i]? = some y) (h1 : ∀ j z, j < i → l[j]? = some z → ((z.1 ^ z.2 : Nat) : Int) ∣ (found : Int) - x)
    (h2 : ∀ j z, i ≤ j → l[j]? = some z → z.1 ^ z.2 ∣ found) (hr : rest = x % y.1 ^ y.2) (hi : inv * (e / y.1 ^ y.2) % y.1 ^ y.2 = 1 % y.1 ^ y.2) :
    (∀ j z, j < i + 1 → l[j]? = some z → ((z.1 ^ z.2 : Nat) : Int) ∣ ((found + rest * (e / y.1 ^ y.2) * inv : Nat) : Int) - x) ∧ (∀ j z, i + 1 ≤ j → l[j]? = some z → z.1 ^ z.2 ∣ found + rest * (e / y.1 ^ y.2) * inv) := by
  have hym := List.mem_of_getElem? hy
  obtain ⟨m, em, _, hm⟩ := facs_split hl hym
  have w0 : 0 < y.1 ^ y.2 := Nat.pow_pos (hl.primes y hym).1.pos
  have ed : e / y.1 ^ y.2 = m := by rw [em]; exact Nat.mul_div_cancel_left _ w0
  have other : ∀ j z, j ≠ i → l[j]? = some z → z.1 ^ z.2 ∣ rest * (e / y.1 ^ y.2) * inv := fun j z hj hz => by
    have hne : z ≠ y := fun c => by
      subst c
      obtain ⟨a1, a2⟩ := List.getElem?_eq_some_iff.mp hy
      obtain ⟨b1, b2⟩ := List.getElem?_eq_some_iff.mp hz
      rcases Nat.lt_trichotomy i j with t | t | t
      · have := List.pairwise_iff_getElem.mp hl.sorted i j a1 b1 t
        rw [a2, b2] at this; omega
      · exact hj t.symm
      · have := List.pairwise_iff_getElem.mp hl.sorted j i b1 a1 t
        rw [a2, b2] at this; omega
    rw [ed]
    exact Nat.dvd_trans (Nat.dvd_trans (hm z (List.mem_of_getElem? hz) hne) (Nat.dvd_mul_left m rest)) (Nat.dvd_mul_right _ inv)
  refine ⟨fun j z hj hz => ?_, fun j z hj hz => Nat.dvd_add (h2 j z (by omega) hz) (other j z (by omega) hz)⟩
  rcases Nat.lt_or_ge j i with t | t
  · have a1 := h1 j z t hz
    have a2 : ((z.1 ^ z.2 : Nat) : Int) ∣ ((rest * (e / y.1 ^ y.2) * inv : Nat) : Int) := Int.natCast_dvd_natCast.mpr (other j z (by omega) hz)
    have a3 := Int.dvd_add a1 a2
    have e3 : ((found + rest * (e / y.1 ^ y.2) * inv : Nat) : Int) - x = ((found : Int) - x) + ((rest * (e / y.1 ^ y.2) * inv : Nat) : Int) := by push_cast; omega
    rw [e3]; exact a3
  · have e1 : j = i := by omega
    subst e1
    have e2 : z = y := Option.some.inj (hz.symm.trans hy)
    subst e2
    have a1 := h2 j z (Nat.le_refl _) hz
    have a4 : (rest * (e / z.1 ^ z.2) * inv) % z.1 ^ z.2 = x % z.1 ^ z.2 := by
      rw [show rest * (e / z.1 ^ z.2) * inv = inv * (e / z.1 ^ z.2) * rest by grind, mod_mul_one hi, hr, Nat.mod_mod]
    have a5 : (found + rest * (e / z.1 ^ z.2) * inv) % z.1 ^ z.2 = x % z.1 ^ z.2 := by
      rw [Nat.add_mod, Nat.mod_eq_zero_of_dvd a1, Nat.zero_add, Nat.mod_mod, a4]
    refine Int.dvd_of_emod_eq_zero (Int.emod_eq_emod_iff_emod_sub_eq_zero.mp ?_)
    rw [← Int.natCast_emod, ← Int.natCast_emod, a5]
theorem join_end {e : Nat} {l : List (Nat × Nat)} {x found : Nat} (hl : IsFac e l) (hx : x < e) (h1 : ∀ j z, j < l.length → l[j]? = some z → ((z.1 ^ z.2 : Nat) : Int) ∣ (found : Int) - x) : found % e = x := by
  have h2 : prodL l ∣ ((found : Int) - x).natAbs := all_dvd hl.sorted (fun z hz => (hl.primes z hz).1) fun z hz => by
    obtain ⟨j, hj⟩ := List.getElem?_of_mem hz
    have := h1 j z (List.getElem?_eq_some_iff.mp hj).1 hj
    have h := Int.natAbs_dvd_natAbs.mpr this
    rwa [Int.natAbs_natCast] at h
  rw [hl.prod] at h2
  have h3 : (e : Int) ∣ (found : Int) - x := Int.natAbs_dvd_natAbs.mp (by rw [Int.natAbs_natCast]; exact h2)
  have h4 := Int.emod_eq_emod_iff_emod_sub_eq_zero.mpr (Int.emod_eq_zero_of_dvd h3)
  have h5 : ((found % e : Nat) : Int) = ((x % e : Nat) : Int) := by push_cast; exact h4
  rw [← Nat.mod_eq_of_lt hx]
  exact Int.ofNat_inj.mp h5
end M

/-! how deep the papers of primes to 10 ** 9 are -/
namespace M
/-- p has a chain of k primes, each one dividing the next less 1 -/
def Chain : Nat → Nat → Prop
  | 0, _ => True
  | k + 1, p => Prime p ∧ (k = 0 ∨ ∃ q, q ∣ p - 1 ∧ Chain k q)
def compF : Nat → Nat → Nat → Bool
  | 0, _, _ => false
  | n + 1, p, d => if p < d * d then false else if p % d == 0 then true else compF n p (d + 2)
theorem compF_no {p : Nat} (hp : Prime p) : ∀ {n d : Nat}, 2 ≤ d → compF n p d = false
  | 0, _, _ => rfl
  | n + 1, d, h => by
    unfold compF
    split
    · rfl
    · rename_i h1
      split
      · rename_i h2
        have h3 := Nat.dvd_of_mod_eq_zero (beq_iff_eq.mp h2)
        rcases hp.2 d h3 with z | z
        · omega
        · rw [z] at h1
          have : p * 2 ≤ p * p := Nat.mul_le_mul_left p hp.1
          have := hp.1
          omega
      · exact compF_no hp (by omega)
def okStep (S T : List Nat) (B : Nat) : Bool := S.all fun q => (List.range ((B - 1) / (2 * q))).all fun j => compF 600 (2 * (j + 1) * q + 1) 3 || T.contains (2 * (j + 1) * q + 1)
theorem chain_prime {k p : Nat} (h : Chain (k + 1) p) : Prime p := h.1
theorem prime_odd {p : Nat} (hp : Prime p) (h : p ≠ 2) : p % 2 = 1 := by
  rcases Nat.mod_two_eq_zero_or_one p with z | z
  · rcases hp.2 2 (Nat.dvd_of_mod_eq_zero z) with e | e
    · omega
    · exact absurd e.symm h
  · exact z
theorem chain_odd {k p : Nat} (h : Chain (k + 2) p) : p % 2 = 1 := by
  refine prime_odd h.1 fun e => ?_
  subst e
  rcases h.2 with z | ⟨q, hq, hc⟩
  · omega
  · have h1 : Prime q := hc.1
    have := Nat.le_of_dvd (by decide) hq
    have := h1.1
    omega
theorem chain_two {k p q : Nat} (h : Chain (k + 2) p) (hq : q ∣ p - 1) (hc : Chain (k + 1) q) (ho : q % 2 = 1) : ∃ j, p = 2 * (j + 1) * q + 1 := by
  have hp := h.1.1
  have po := chain_odd h
  have q0 : 0 < q := by omega
  obtain ⟨c, hc⟩ := hq
  have hc2 : c % 2 = 0 := by
    rcases Nat.mod_two_eq_zero_or_one c with z | z
    · exact z
    · have : (q * c) % 2 = 1 := by rw [Nat.mul_mod, ho, z]
      omega
  obtain ⟨d, rfl⟩ : ∃ d, c = 2 * d := ⟨c / 2, by omega⟩
  have d0 : 0 < d := Nat.pos_of_ne_zero fun z => by subst z; simp at hc; omega
  refine ⟨d - 1, ?_⟩
  have : 2 * (d - 1 + 1) * q = q * (2 * d) := by rw [Nat.sub_add_cancel d0]; grind
  omega
theorem step_in {S T : List Nat} {B k p : Nat} (ok : okStep S T B = true) (hS : ∀ q, Chain (k + 2) q → 2 * q + 1 ≤ B → q ∈ S) (h : Chain (k + 3) p) (hB : p ≤ B) : p ∈ T := by
  rcases h.2 with z | ⟨q, hq, hc⟩
  · omega
  · have qo := chain_odd hc
    obtain ⟨j, hj⟩ := chain_two (k := k + 1) h hq hc qo
    have q0 : 0 < q := by omega
    have h1 : 2 * q ≤ 2 * (j + 1) * q := Nat.mul_le_mul_right q (by omega)
    have hqS := hS q hc (by omega)
    have h2 := List.all_eq_true.mp ok q hqS
    have hjr : j < (B - 1) / (2 * q) := by
      have : (j + 1) * (2 * q) ≤ B - 1 := by
        have : (j + 1) * (2 * q) = 2 * (j + 1) * q := by grind
        omega
      exact (Nat.le_div_iff_mul_le (by omega)).mpr this
    have h3 := List.all_eq_true.mp h2 j (List.mem_range.mpr hjr)
    rw [← hj, compF_no h.1 (by decide), Bool.false_or] at h3
    exact List.contains_iff_mem.mp h3
def S2 : List Nat := [3, 5, 7, 11, 13, 17, 19, 23, 29, 31, 37, 41, 43, 47, 53, 59, 61, 67, 71, 73, 79, 83, 89, 97, 101, 103, 107, 109, 113, 127, 131, 137, 139, 149, 151, 157, 163, 167, 173, 179, 181, 191, 193, 197, 199, 211, 223, 227, 229, 233, 239, 241, 251, 257, 263, 269, 271, 277, 281, 283, 293, 307, 311, 313, 317, 331, 337, 347, 349, 353, 359, 367, 373, 379, 383, 389, 397, 401, 409, 419, 421, 431, 433, 439, 443, 449, 457, 461, 463, 467, 479, 487, 491, 499, 503, 509, 521, 523, 541, 547, 557, 563, 569, 571, 577, 587, 593, 599, 601, 607, 613, 617, 619, 631, 641, 643, 647, 653, 659, 661, 673, 677, 683, 691, 701, 709, 719, 727, 733, 739, 743, 751, 757, 761, 769, 773, 787, 797, 809, 811, 821, 823, 827, 829, 839, 853, 857, 859, 863, 877, 881, 883, 887, 907, 911, 919, 929, 937, 941, 947, 953]
def S3 : List Nat := [7, 11, 13, 19, 23, 29, 31, 37, 41, 43, 47, 53, 59, 61, 67, 71, 73, 79, 83, 89, 97, 101, 103, 107, 109, 113, 127, 131, 137, 139, 149, 151, 157, 163, 167, 173, 179, 181, 191, 193, 197, 199, 211, 223, 227, 229, 233, 239, 241, 251, 263, 269, 271, 277, 281, 283, 293, 307, 311, 313, 317, 331, 337, 347, 349, 353, 359, 367, 373, 379, 383, 389, 397, 401, 409, 419, 421, 431, 433, 439, 443, 449, 457, 461, 463, 467, 479, 487, 491, 499, 503, 509, 521, 523, 541, 547, 557, 563, 569, 571, 577, 587, 593, 599, 601, 607, 613, 617, 619, 631, 641, 643, 647, 653, 659, 661, 673, 677, 683, 691, 701, 709, 719, 727, 733, 739, 743, 751, 757, 761, 769, 773, 787, 797, 809, 811, 821, 823, 827, 829, 839, 853, 857, 859, 863, 877, 881, 883, 887, 907, 911, 919, 929, 937, 941, 947, 953, 967, 971, 977, 983, 991, 997, 1009, 1013, 1019, 1021, 1031, 1033, 1039, 1049, 1051, 1061, 1063, 1069, 1087, 1091, 1093, 1097, 1103, 1109, 1117, 1123, 1129, 1151, 1153, 1163, 1171, 1181, 1187, 1193, 1201, 1213, 1217, 1223, 1229, 1231, 1237, 1249, 1259, 1277, 1279, 1283, 1289, 1291, 1297, 1301, 1303, 1307, 1319, 1321, 1327, 1361, 1367, 1373, 1381, 1399, 1409, 1423, 1427, 1429, 1433, 1439, 1447, 1451, 1453, 1459, 1471, 1481, 1483, 1487, 1489, 1493, 1499, 1511, 1523, 1531, 1543, 1549, 1553, 1559, 1567, 1571, 1579, 1583, 1597, 1601, 1607, 1609, 1613, 1619, 1621, 1627, 1637, 1657, 1663, 1667, 1669, 1693, 1697, 1699, 1709, 1721, 1723, 1733, 1741, 1747, 1753, 1759, 1777, 1783, 1787, 1789, 1801, 1811, 1823, 1831, 1847, 1861, 1867, 1871, 1873, 1877, 1879, 1889, 1901, 1907]
def S4 : List Nat := [23, 29, 43, 47, 53, 59, 67, 71, 79, 83, 89, 107, 113, 127, 131, 139, 149, 157, 167, 173, 179, 191, 197, 199, 211, 223, 227, 229, 233, 239, 263, 269, 277, 281, 283, 293, 311, 313, 317, 331, 337, 347, 349, 353, 359, 367, 373, 379, 383, 389, 397, 419, 421, 431, 439, 443, 449, 457, 461, 463, 467, 479, 491, 499, 503, 509, 521, 523, 547, 557, 563, 569, 571, 587, 593, 599, 607, 617, 619, 631, 643, 647, 653, 659, 661, 673, 677, 683, 691, 701, 709, 719, 727, 733, 739, 743, 757, 761, 773, 787, 797, 809, 821, 823, 827, 829, 839, 853, 857, 859, 863, 877, 881, 883, 887, 907, 911, 929, 937, 941, 947, 953, 967, 971, 977, 983, 991, 997, 1009, 1013, 1019, 1031, 1033, 1039, 1049, 1051, 1061, 1063, 1069, 1087, 1091, 1093, 1097, 1103, 1109, 1117, 1123, 1129, 1151, 1163, 1171, 1181, 1187, 1193, 1213, 1217, 1223, 1229, 1231, 1237, 1249, 1259, 1277, 1279, 1283, 1289, 1291, 1301, 1303, 1307, 1319, 1321, 1327, 1367, 1373, 1381, 1399, 1409, 1423, 1427, 1429, 1433, 1439, 1447, 1451, 1453, 1471, 1481, 1483, 1487, 1489, 1493, 1499, 1511, 1523, 1549, 1553, 1559, 1567, 1571, 1579, 1583, 1597, 1607, 1609, 1613, 1619, 1627, 1637, 1657, 1663, 1667, 1669, 1693, 1697, 1699, 1709, 1721, 1723, 1733, 1741, 1747, 1753, 1759, 1777, 1783, 1787, 1789, 1811, 1823, 1831, 1847, 1861, 1867, 1871, 1873, 1877, 1879, 1889, 1901, 1907, 1913, 1931, 1933, 1949, 1951, 1973, 1979, 1987, 1993, 1997, 1999, 2003, 2011, 2017, 2027, 2029, 2039, 2053, 2063, 2069, 2081, 2083, 2087, 2089, 2099, 2111, 2113, 2129, 2131, 2137, 2141, 2143, 2153, 2179, 2203, 2207, 2213, 2221, 2237, 2239, 2243, 2267, 2269, 2273, 2281, 2287, 2293, 2297, 2309, 2311, 2333, 2339, 2341, 2347, 2351, 2357, 2371, 2377, 2381, 2383, 2389, 2393, 2399, 2411, 2417, 2423, 2437, 2441, 2447, 2459, 2467, 2473, 2477, 2503, 2521, 2531, 2539, 2543, 2549, 2557, 2579, 2591, 2609, 2617, 2621, 2633, 2647, 2657, 2659, 2663, 2671, 2677, 2683, 2687, 2689, 2693, 2699, 2707, 2711, 2713, 2719, 2729, 2731, 2741, 2749, 2753, 2767, 2777, 2789, 2791, 2797, 2801, 2803, 2819, 2833, 2837, 2843, 2851, 2857, 2861, 2879, 2887, 2897, 2903, 2909, 2927, 2939, 2953, 2957, 2963, 2969, 2971, 2999, 3011, 3019, 3023, 3037, 3041, 3049, 3067, 3079, 3083, 3089, 3109, 3119, 3121, 3137, 3163, 3167, 3169, 3181, 3187, 3191, 3203, 3209, 3217, 3221, 3229, 3251, 3253, 3257, 3259, 3271, 3299, 3301, 3307, 3313, 3319, 3323, 3329, 3331, 3343, 3347, 3359, 3361, 3371, 3373, 3389, 3391, 3407, 3413, 3433, 3449, 3461, 3463, 3467, 3491, 3499, 3511, 3517, 3527, 3529, 3533, 3539, 3541, 3547, 3557, 3559, 3571, 3581, 3583, 3593, 3607, 3613, 3617, 3623, 3631, 3637, 3643, 3659, 3671, 3677, 3691, 3697, 3701, 3709, 3719, 3727, 3733, 3739, 3761, 3767, 3769, 3779, 3793, 3797, 3803]
def S5 : List Nat := [47, 59, 107, 139, 167, 173, 179, 227, 233, 263, 269, 277, 283, 317, 347, 349, 359, 383, 431, 461, 467, 479, 499, 509, 523, 557, 563, 569, 587, 599, 643, 659, 691, 709, 719, 743, 787, 797, 827, 829, 839, 853, 857, 863, 887, 929, 941, 947, 967, 983, 997, 1013, 1019, 1033, 1039, 1049, 1061, 1063, 1069, 1103, 1109, 1129, 1151, 1163, 1181, 1187, 1193, 1223, 1277, 1279, 1289, 1291, 1307, 1319, 1367, 1381, 1399, 1423, 1427, 1433, 1439, 1451, 1487, 1493, 1499, 1523, 1549, 1567, 1571, 1579, 1583, 1609, 1619, 1657, 1663, 1669, 1693, 1697, 1699, 1721, 1741, 1759, 1787, 1789, 1823, 1847, 1867, 1877, 1879, 1889, 1907, 1913, 1933, 1973, 1979, 1987, 1993, 1997, 2011, 2027, 2039, 2063, 2069, 2083, 2087, 2089, 2099, 2111, 2131, 2137, 2141, 2153, 2203, 2207, 2213, 2237, 2239, 2243, 2273, 2287, 2293, 2333, 2339, 2347, 2351, 2371, 2383, 2389, 2393, 2423, 2437, 2447, 2459, 2477, 2503, 2531, 2539, 2557, 2579, 2621, 2633, 2657, 2659, 2671, 2677, 2683, 2687, 2693, 2699, 2713, 2749, 2753, 2767, 2777, 2797, 2803, 2819, 2833, 2837, 2843, 2879, 2903, 2909, 2939, 2957, 2963, 2969, 2999, 3011, 3019, 3023, 3037, 3049, 3083, 3119, 3167, 3181, 3187, 3191, 3217, 3221, 3229, 3307, 3313, 3319, 3343, 3347, 3359, 3371, 3373, 3391, 3407, 3413, 3449, 3461, 3467, 3491, 3499, 3517, 3527, 3533, 3539, 3541, 3547, 3557, 3559, 3581, 3583, 3593, 3613, 3617, 3623, 3643, 3659, 3671, 3727, 3733, 3739, 3761, 3767, 3769, 3779, 3793, 3803, 3821, 3833, 3853, 3863, 3911, 3917, 3919, 3923, 3929, 3931, 3947, 3967, 3989, 4003, 4007, 4013, 4021, 4049, 4073, 4079, 4099, 4127, 4129, 4133, 4139, 4153, 4157, 4177, 4211, 4231, 4241, 4253, 4259, 4261, 4273, 4283, 4289, 4297, 4349, 4363, 4373, 4391, 4397, 4409, 4423, 4451, 4457, 4463, 4483, 4493, 4513, 4517, 4547, 4549, 4567, 4583, 4597, 4603, 4639, 4643, 4649, 4679, 4691, 4703, 4721, 4723, 4729, 4783, 4787, 4793, 4799, 4817, 4831, 4877, 4889, 4903, 4919, 4931, 4937, 4943, 4957, 4967, 4969, 4973, 4987, 5009, 5011, 5039, 5059, 5077, 5081, 5087, 5099, 5107, 5113, 5119, 5147, 5153, 5171, 5179, 5227, 5231, 5261, 5273, 5279, 5297, 5309, 5323, 5333, 5351, 5381, 5387, 5393, 5399, 5407, 5417, 5419, 5443, 5449, 5471, 5479, 5483, 5503, 5507, 5519, 5521, 5531, 5557, 5569, 5573, 5591, 5623, 5639, 5641, 5647, 5651, 5653, 5659, 5683, 5689, 5693, 5711, 5717, 5737, 5743, 5749, 5779, 5783, 5801, 5807, 5813, 5827, 5839, 5843, 5849, 5861, 5867, 5879, 5897, 5903, 5923, 5927, 5939, 5981, 6037, 6043, 6047, 6053, 6067, 6073, 6079, 6089, 6091, 6113, 6143, 6163, 6197, 6199, 6203, 6211, 6221, 6229, 6247, 6257, 6269, 6277, 6287, 6299, 6311, 6317, 6323, 6329, 6353, 6361, 6367, 6373, 6379, 6389, 6421, 6451, 6473, 6491, 6547, 6551, 6569, 6581, 6599, 6607, 6619, 6637, 6653, 6659, 6673, 6679, 6691, 6701, 6703, 6709, 6719, 6737, 6763, 6779, 6781, 6793, 6803, 6823, 6827, 6829, 6857, 6863, 6871, 6899, 6907, 6911, 6947, 6959, 6961, 6967, 6983, 6991, 6997, 7013, 7019, 7027, 7039, 7043, 7079, 7103, 7109, 7121, 7127, 7159, 7177, 7187, 7193, 7229, 7237, 7243, 7247, 7283, 7307, 7309, 7331, 7333, 7349, 7433, 7451, 7457, 7459, 7477, 7487, 7499, 7507, 7517, 7523, 7529, 7537, 7541, 7559, 7573, 7577, 7583, 7591, 7607, 7621]
def S6 : List Nat := [283, 347, 359, 467, 557, 643, 659, 709, 719, 827, 857, 863, 941, 1019, 1039, 1063, 1109, 1129, 1181, 1223, 1319, 1399, 1433, 1439, 1487, 1499, 1579, 1663, 1669, 1693, 1699, 1787, 1889, 1997, 2027, 2039, 2069, 2083, 2099, 2141, 2153, 2207, 2243, 2339, 2351, 2423, 2447, 2503, 2539, 2579, 2633, 2767, 2777, 2797, 2803, 2833, 2837, 2879, 2903, 2999, 3167, 3187, 3229, 3343, 3413, 3449, 3461, 3491, 3541, 3581, 3659, 3761, 3767, 3779, 3833, 3853, 3947, 3989, 4013, 4073, 4079, 4127, 4133, 4139, 4153, 4157, 4231, 4253, 4283, 4297, 4457, 4513, 4517, 4547, 4597, 4603, 4679, 4703, 4721, 4723, 4783, 4787, 4793, 4889, 4919, 4957, 4987, 5011, 5077, 5119, 5171, 5179, 5231, 5261, 5273, 5323, 5351, 5381, 5387, 5399, 5449, 5507, 5639, 5641, 5647, 5683, 5693, 5749, 5779, 5783, 5807, 5839, 5879, 5903, 5923, 5927, 5939, 6047, 6079, 6197, 6199, 6229, 6247, 6269, 6277, 6299, 6317, 6367, 6373, 6379, 6421, 6491, 6581, 6619, 6653, 6673, 6719, 6793, 6803, 6827, 6829, 6857, 6863, 6899, 6907, 6911, 6983, 6991, 7079, 7127, 7159, 7187, 7229, 7247, 7333, 7349, 7433, 7457, 7507, 7517, 7523, 7529, 7559, 7577, 7607, 7643, 7717, 7727, 7757, 7759, 7789, 7823, 7877, 7883, 7907, 7919, 7949, 8017, 8147, 8179, 8219, 8243, 8273, 8287, 8291, 8293, 8311, 8329, 8369, 8377, 8387, 8389, 8423, 8461, 8539, 8563, 8599, 8609, 8623, 8627, 8629, 8699, 8707, 8747, 8783, 8819, 8837, 8923, 8951, 8969, 9173, 9203, 9209, 9221, 9227, 9323, 9341, 9343, 9403, 9419, 9497, 9511, 9533, 9587, 9623, 9631, 9677, 9689, 9749, 9787, 9839, 9871, 9887, 9949, 9973, 10009, 10067, 10069, 10079, 10159, 10163, 10181, 10223, 10243, 10247, 10253, 10267, 10273, 10289, 10313, 10331, 10343, 10357, 10391, 10457, 10463, 10487, 10529, 10559, 10567, 10631, 10667, 10691, 10709, 10723, 10733, 10739, 10771, 10799, 10853, 10937, 10939, 10979, 11047, 11057, 11069, 11083, 11093, 11149, 11159, 11213, 11261, 11279, 11299, 11321, 11329, 11351, 11399, 11423, 11443, 11447, 11489, 11491, 11497, 11579, 11657, 11677, 11699, 11801, 11807, 11839, 11863, 11867, 11887, 11897, 11923, 11939, 11959, 11981, 11987, 12037, 12107, 12143, 12149, 12157, 12163, 12197, 12227, 12379, 12391, 12409, 12413, 12457, 12503, 12511, 12539, 12553, 12569, 12583, 12589, 12647, 12659, 12713, 12743, 12757, 12763, 12791, 12823, 12829, 12841, 12889, 12911, 12917, 12919, 12953, 12973, 12983, 13007, 13049, 13099, 13103, 13151, 13163, 13187, 13217, 13219, 13229, 13259, 13297, 13309, 13451, 13513, 13537, 13577, 13649, 13697, 13723, 13759, 13763, 13789, 13799, 13807, 13831, 13841, 13901, 13913, 13963, 13967, 13997, 13999, 14011, 14029, 14083, 14087, 14107, 14159, 14173, 14207, 14243, 14321, 14347, 14387, 14447, 14533, 14633, 14639, 14683, 14699, 14717, 14753, 14759, 14767, 14867, 14869, 14879, 14887, 14923, 14947, 14957, 14983, 15013, 15017, 15031, 15077, 15083, 15173, 15187, 15217]
def S7 : List Nat := [719, 1319, 1439, 1699, 2039, 2083, 2447, 2777, 2803, 2837, 2879, 2999, 3343, 3779, 4079, 4139, 4157, 4253, 4283, 4457, 4517, 4679, 4703, 5179, 5273, 5647, 5807, 6247, 6317, 6379, 6653, 6793, 6827, 6857, 6899, 6983, 7523, 7529, 7559, 7717, 8147, 8329, 8599, 8629, 8923, 9227, 9341, 9587, 9623, 9839, 10067, 10159, 10289, 10343, 10357, 10391, 10463, 10631, 10723, 10771, 10799, 11069, 11213, 11279, 11321, 11489, 11579, 11807, 11863, 11887, 11897, 12143, 12163, 12539, 12757, 12763, 12917, 12919, 12983, 13163, 13187, 13309, 13799, 13967, 14011, 14107, 14159, 14173, 14683, 14699, 14717, 14867, 14887, 15269, 15287, 15413, 15427, 15527, 15647, 15767, 15791, 15797, 15817, 16217, 16487, 16547, 16553, 16603, 16631, 16657, 16691, 16931, 16981, 17123, 17189, 17257, 17351, 17419, 17657, 17747, 17903, 17939, 17989, 18413, 18443, 18679, 18713, 18839, 19379, 19387, 19433, 19577, 19853, 19949, 19963, 20029, 20063, 20147, 20323, 20327, 20389, 20477, 20479, 20507, 20549, 20627, 20663, 20717, 20947, 21059, 21089, 21247, 21383, 21419, 21467, 21487, 21503, 21599, 21863, 22259, 22283, 22567, 22643, 22669, 22697, 22859, 23117, 23159, 23357, 23399, 23603, 23743, 23773, 23879, 23993, 24107, 24317, 24413, 24439, 24469, 24509, 24763, 24799, 24917, 24919, 24943, 24989, 25031, 25183, 25189, 25219, 25391, 25469, 25471, 25583, 25679, 25693, 25849, 25903, 26099, 26153, 26459, 26693, 26737, 26903, 27067, 27103, 27283, 27299, 27527, 27583, 27617, 27689, 27803, 27827, 27851, 28031, 28069, 28219, 28319, 28547, 28643, 28649, 28661, 28723, 28759, 28867, 29077, 29333, 29387, 29399, 29741, 29759, 30029, 30089, 30113, 30137, 30347, 30469]
def S8 : List Nat := [1439, 2879, 4079, 7559, 8629, 10067, 11213, 13799, 13967, 14683, 17257, 19577, 20147, 20389, 20717, 21599, 22643, 22697, 23159, 23743, 23993, 24469, 24943, 24989, 25903, 27103, 28031, 28219, 28319, 28547, 29399, 30539, 30869, 31583, 31657, 32633, 33107, 33113, 33317, 33329, 33637, 33863, 34259, 34513, 34537, 34549, 34703, 34843, 35879, 35951, 36137, 36887, 37379, 37483, 38867, 39719, 40127, 40637, 40759, 41143, 42179, 42209, 42767, 42839, 44519, 44579, 45139, 45827, 46049, 46457, 47207, 48883, 49019, 49669, 49993, 50123, 50971, 51769, 52919, 54617, 55399, 55541, 56149, 56437, 57107, 57287, 57947, 58199, 58733, 59981, 60397]
def S9 : List Nat := [2879, 20147, 25903, 32633, 34537, 34549, 46049, 57107, 58733, 63317, 65267, 69029, 69073, 74759, 80537, 86291, 86341, 86371, 90709, 103549, 103613, 106487, 108413, 112877, 119963, 120877, 120919]
def S10 : List Nat := [34549, 65267, 86371, 103613, 120919, 138059, 138197, 149519, 172583, 172741, 207227, 224563]
def S11 : List Nat := [138197, 207227]
def S12 : List Nat := []
theorem in2 : ∀ q, Chain 2 q → q ≤ 953 → q ∈ S2 := fun q h hB => by
  have qo := chain_odd (k := 0) h
  have ok : ((List.range 476).all fun j => compF 600 (2 * (j + 1) + 1) 3 || S2.contains (2 * (j + 1) + 1)) = true := by decide +kernel
  have hp := h.1
  have h2 := hp.1
  have h3 := List.all_eq_true.mp ok ((q - 3) / 2) (List.mem_range.mpr (by omega))
  rw [show 2 * ((q - 3) / 2 + 1) + 1 = q by omega, compF_no hp (by decide), Bool.false_or] at h3
  exact List.contains_iff_mem.mp h3
theorem in3 : ∀ q, Chain 3 q → q ≤ 1907 → q ∈ S3 := fun q h hB => step_in (k := 0) (B := 1907) (S := S2) (by decide +kernel) (fun r hr hb => in2 r hr (by omega)) h hB
theorem in4 : ∀ q, Chain 4 q → q ≤ 3814 → q ∈ S4 := fun q h hB => step_in (k := 1) (B := 3814) (S := S3) (by decide +kernel) (fun r hr hb => in3 r hr (by omega)) h hB
theorem in5 : ∀ q, Chain 5 q → q ≤ 7629 → q ∈ S5 := fun q h hB => step_in (k := 2) (B := 7629) (S := S4) (by decide +kernel) (fun r hr hb => in4 r hr (by omega)) h hB
theorem in6 : ∀ q, Chain 6 q → q ≤ 15258 → q ∈ S6 := fun q h hB => step_in (k := 3) (B := 15258) (S := S5) (by decide +kernel) (fun r hr hb => in5 r hr (by omega)) h hB
theorem in7 : ∀ q, Chain 7 q → q ≤ 30517 → q ∈ S7 := fun q h hB => step_in (k := 4) (B := 30517) (S := S6) (by decide +kernel) (fun r hr hb => in6 r hr (by omega)) h hB
theorem in8 : ∀ q, Chain 8 q → q ≤ 61035 → q ∈ S8 := fun q h hB => step_in (k := 5) (B := 61035) (S := S7) (by decide +kernel) (fun r hr hb => in7 r hr (by omega)) h hB
theorem in9 : ∀ q, Chain 9 q → q ≤ 122070 → q ∈ S9 := fun q h hB => step_in (k := 6) (B := 122070) (S := S8) (by decide +kernel) (fun r hr hb => in8 r hr (by omega)) h hB
theorem in10 : ∀ q, Chain 10 q → q ≤ 244140 → q ∈ S10 := fun q h hB => step_in (k := 7) (B := 244140) (S := S9) (by decide +kernel) (fun r hr hb => in9 r hr (by omega)) h hB
theorem in11 : ∀ q, Chain 11 q → q ≤ 488281 → q ∈ S11 := fun q h hB => step_in (k := 8) (B := 488281) (S := S10) (by decide +kernel) (fun r hr hb => in10 r hr (by omega)) h hB
theorem in12 : ∀ q, Chain 12 q → q ≤ 976562 → q ∈ S12 := fun q h hB => step_in (k := 9) (B := 976562) (S := S11) (by decide +kernel) (fun r hr hb => in11 r hr (by omega)) h hB
theorem chain12 {p : Nat} (h : Chain 12 p) : 976563 ≤ p := by
  rcases Nat.lt_or_ge p 976563 with z | z
  · exact absurd (in12 p h (by omega)) (by simp [S12])
  · exact z
theorem chain_more {N : Nat} (h12 : ∀ p, Chain 12 p → N ≤ p) : ∀ (j : Nat) {p : Nat}, Chain (12 + j) p → 2 ^ j * N ≤ p
  | 0, p, h => by rw [Nat.pow_zero, Nat.one_mul]; exact h12 p h
  | j + 1, p, h => by
    rcases h.2 with z | ⟨q, hq, hc⟩
    · exact absurd z (by show ¬ (12 + j = 0); omega)
    · have ih : 2 ^ j * N ≤ q := chain_more h12 j hc
      obtain ⟨i, hi⟩ := chain_two (k := 11 + j) (by rw [show 11 + j + 2 = 12 + (j + 1) by omega]; exact h) hq (by rw [show 11 + j + 1 = 12 + j by omega]; exact hc) (chain_odd (k := 10 + j) (by rw [show 10 + j + 2 = 12 + j by omega]; exact hc))
      have h1 : 2 * q ≤ 2 * (i + 1) * q := Nat.mul_le_mul_right q (by omega)
      have h3 : 2 * q ≤ p := by rw [hi]; exact Nat.le_succ_of_le h1
      rw [Nat.pow_succ, Nat.mul_comm (2 ^ j) 2, Nat.mul_assoc]
      exact Nat.le_trans (Nat.mul_le_mul_left 2 ih) h3
theorem chain22 {p : Nat} (hp : p ≤ 1000000000) : ¬ Chain 22 p := fun h => by
  have h1 := chain_more (N := 976563) (fun p h => chain12 h) 10 (p := p) h
  have h2 : 2 ^ 10 * 976563 = 1000000512 := by decide +kernel
  rw [h2] at h1
  omega
/-- a parting is one alone -/
theorem fac_split {E : Nat} {l : List (Nat × Nat)} (hl : IsFac E l) {x : Nat × Nat} (hx : x ∈ l) : ∃ m, E = x.1 ^ x.2 * m ∧ ¬ x.1 ∣ m ∧ 0 < m := by
  obtain ⟨j, hj⟩ := List.getElem?_of_mem hx
  have hq := (hl.primes x hx).1
  have hil : j < l.length := (List.getElem?_eq_some_iff.mp hj).1
  have hxe : l[j] = x := (List.getElem?_eq_some_iff.mp hj).2
  have hd : l.drop j = x :: l.drop (j + 1) := by rw [List.drop_eq_getElem_cons hil, hxe]
  have hsp : l = l.take j ++ x :: l.drop (j + 1) := by rw [← hd, List.take_append_drop]
  have hso := hl.sorted
  rw [hsp] at hso
  have hso' := List.pairwise_append.mp hso
  have p1 : ∀ y ∈ l.take j, Prime y.1 := fun y hy => (hl.primes y (List.mem_of_mem_take hy)).1
  have p2 : ∀ y ∈ l.drop (j + 1), Prime y.1 := fun y hy => (hl.primes y (List.mem_of_mem_drop hy)).1
  refine ⟨prodL (l.take j) * prodL (l.drop (j + 1)), ?_, fun z => ?_, Nat.mul_pos (prodL_pos p1) (prodL_pos p2)⟩
  · rw [← hl.prod]
    conv => lhs; rw [hsp]
    rw [prodL_app]; simp only [prodL]; grind
  · rcases hq.dvd_mul z with z | z
    · obtain ⟨k, hk⟩ := prime_in' hq p1 z
      have h1 := hso'.2.2 _ hk x (by simp)
      have h2 : x.1 < x.1 := h1
      omega
    · obtain ⟨k, hk⟩ := prime_in' hq p2 z
      have h1 := (List.pairwise_cons.mp hso'.2.1).1 _ hk
      have h2 : x.1 < x.1 := h1
      omega
theorem fac_vq {E : Nat} {l : List (Nat × Nat)} (hl : IsFac E l) {x : Nat × Nat} (hx : x ∈ l) : x.2 = vq x.1 E := by
  obtain ⟨m, e, h1, h2⟩ := fac_split hl hx
  rw [e, vq_eq (hl.primes x hx).1.1 h1 h2]
theorem fac_mem_iff {E : Nat} {l : List (Nat × Nat)} (hl : IsFac E l) (x : Nat × Nat) : x ∈ l ↔ Prime x.1 ∧ x.1 ∣ E ∧ x.2 = vq x.1 E := by
  constructor
  · intro hx
    exact ⟨(hl.primes x hx).1, fac_dvd hl hx, fac_vq hl hx⟩
  · rintro ⟨h1, h2, h3⟩
    obtain ⟨k, hk⟩ := fac_prime_in hl h1 h2
    have := fac_vq hl hk
    have this' : k = vq x.1 E := this
    have e : x = (x.1, k) := by
      show (x.1, x.2) = (x.1, k)
      rw [h3, this']
    rw [e]; exact hk
theorem pairs_ext : ∀ {xs ys : List (Nat × Nat)}, xs.Pairwise (fun a b => a.1 < b.1) → ys.Pairwise (fun a b => a.1 < b.1) → (∀ y, y ∈ xs ↔ y ∈ ys) → xs = ys
  | [], [], _, _, _ => rfl
  | [], y :: ys, _, _, h => absurd ((h y).mpr (by simp)) (by simp)
  | x :: xs, [], _, _, h => absurd ((h x).mp (by simp)) (by simp)
  | x :: xs, y :: ys, hx, hy, h => by
    have hx' := List.pairwise_cons.mp hx
    have hy' := List.pairwise_cons.mp hy
    have e : x = y := by
      rcases List.mem_cons.mp ((h x).mp (by simp)) with z | z
      · exact z
      · rcases List.mem_cons.mp ((h y).mpr (by simp)) with w | w
        · exact w.symm
        · have := hx'.1 y w
          have := hy'.1 x z
          omega
    subst e
    congr 1
    refine pairs_ext hx'.2 hy'.2 fun y => ⟨fun m => ?_, fun m => ?_⟩
    · rcases List.mem_cons.mp ((h y).mp (by simp [m])) with z | z
      · have := hx'.1 y m
        rw [z] at this; omega
      · exact z
    · rcases List.mem_cons.mp ((h y).mpr (by simp [m])) with z | z
      · have := hy'.1 y m
        rw [z] at this; omega
      · exact z
theorem fac_unique {E : Nat} {l l' : List (Nat × Nat)} (h : IsFac E l) (h' : IsFac E l') : l = l' := pairs_ext h.sorted h'.sorted fun x => (fac_mem_iff h x).trans (fac_mem_iff h' x).symm
theorem full_unique {p f f' : Nat} (h : LeastFull p f) (h' : LeastFull p f') : f = f' := by
  rcases Nat.lt_trichotomy f f' with w | w | w
  · exact absurd h.full (h'.least f h.f0 w)
  · exact w
  · exact absurd h'.full (h.least f' h'.f0 w)
end M

/-! the divisors of a number by its parting, and how many numbers are coprime -/
namespace M
/-- all numbers times the powers of q up to q ^ m -/
def grow (found : List Nat) (q : Nat) : Nat → List Nat
  | 0 => found
  | m + 1 => grow found q m ++ found.map (· * q ^ (m + 1))
def divL (found : List Nat) : List (Nat × Nat) → List Nat
  | [] => found
  | x :: l => divL (grow found x.1 x.2) l
theorem divL_app (found : List Nat) (l m : List (Nat × Nat)) : divL found (l ++ m) = divL (divL found l) m := by
  induction l generalizing found with
  | nil => rfl
  | cons x l ih => exact ih _
/-- how many numbers below q ^ t have no divisor with it -/
def fi (q t : Nat) : Nat := if t = 0 then 1 else (q - 1) * q ^ (t - 1)
def phiV (L : List (Nat × Nat)) (d : Nat) : Nat := match L with
  | [] => 1
  | x :: L => fi x.1 (vq x.1 d) * phiV L d
def phiL : List (Nat × Nat) → Nat
  | [] => 1
  | x :: l => (x.1 - 1) * x.1 ^ (x.2 - 1) * phiL l
theorem phiV_app (L M : List (Nat × Nat)) (d : Nat) : phiV (L ++ M) d = phiV L d * phiV M d := by
  induction L with
  | nil => simp [phiV]
  | cons x L ih => simp only [List.cons_append, phiV, ih, Nat.mul_assoc]
theorem phiL_app (l m : List (Nat × Nat)) : phiL (l ++ m) = phiL l * phiL m := by
  induction l with
  | nil => simp [phiL]
  | cons x L ih => simp only [List.cons_append, phiL, ih, Nat.mul_assoc]
theorem grow_mem {found : List Nat} {q m d : Nat} : d ∈ grow found q m ↔ ∃ e k, e ∈ found ∧ k ≤ m ∧ d = e * q ^ k := by
  induction m with
  | zero =>
    constructor
    · exact fun h => ⟨d, 0, h, Nat.le_refl _, by simp⟩
    · rintro ⟨e, k, h, hk, rfl⟩
      have : k = 0 := by omega
      subst this
      simpa [grow] using h
  | succ m ih =>
    simp only [grow, List.mem_append, ih, List.mem_map]
    constructor
    · rintro (⟨e, k, h, hk, rfl⟩ | ⟨e, h, rfl⟩)
      · exact ⟨e, k, h, by omega, rfl⟩
      · exact ⟨e, m + 1, h, Nat.le_refl _, rfl⟩
    · rintro ⟨e, k, h, hk, rfl⟩
      rcases Nat.lt_or_ge m k with z | z
      · have : k = m + 1 := by omega
        subst this
        exact .inr ⟨e, h, rfl⟩
      · exact .inl ⟨e, k, h, z, rfl⟩
theorem grow_len (found : List Nat) (q m : Nat) : (grow found q m).length = found.length * (m + 1) := by
  induction m with
  | zero => simp [grow]
  | succ m ih => simp only [grow, List.length_append, List.length_map, ih]; grind
theorem vq_mul_off {q e c : Nat} (hq : Prime q) (he : 0 < e) (hc : ¬ q ∣ c) : vq q (e * c) = vq q e := by
  obtain ⟨m, e1, h1, h2⟩ := vq_split hq he
  have c0 : 0 < c := Nat.pos_of_ne_zero fun z => hc (by rw [z]; exact Nat.dvd_zero _)
  have h3 : e * c = q ^ vq q e * (m * c) := by
    conv => lhs; rw [e1]
    exact Nat.mul_assoc _ _ _
  rw [h3]
  exact vq_eq hq.1 (fun z => (hq.dvd_mul z).elim h1 hc) (Nat.mul_pos h2 c0) _
theorem not_dvd_pow {q r k : Nat} (hq : Prime q) (hr : Prime r) (h : q ≠ r) : ¬ q ∣ r ^ k := fun z => h (hq.eq_of_dvd hr (hq.dvd_pow z))
/-- the divisors found so far -/
structure Divs (n : Nat) (found : List Nat) : Prop where
  mem : ∀ d, d ∈ found ↔ d ∣ n
  nd : found.Pairwise (· ≠ ·)
theorem divs_one : Divs 1 [1] := ⟨fun d => by simp, List.pairwise_singleton _ _⟩
theorem grow_nd {found : List Nat} {q : Nat} (hq : Prime q) (hf : ∀ d ∈ found, 0 < d ∧ ¬ q ∣ d) (nd : found.Pairwise (· ≠ ·)) : ∀ m, (grow found q m).Pairwise (· ≠ ·)
  | 0 => nd
  | m + 1 => by
    refine List.pairwise_append.mpr ⟨grow_nd hq hf nd m, ?_, fun x hx y hy => ?_⟩
    · rw [List.pairwise_map]
      exact nd.imp fun z w => z (Nat.eq_of_mul_eq_mul_right (Nat.pow_pos hq.pos) w)
    · obtain ⟨e, k, h1, h2, rfl⟩ := grow_mem.mp hx
      obtain ⟨e', h3, rfl⟩ := List.mem_map.mp hy
      intro z
      have h4 := vq_eq hq.1 (hf e h1).2 (hf e h1).1 k
      have h5 := vq_eq hq.1 (hf e' h3).2 (hf e' h3).1 (m + 1)
      rw [Nat.mul_comm] at h4 h5
      have h6 : e * q ^ k = e' * q ^ (m + 1) := z
      rw [h6] at h4
      omega
theorem divs_grow {n q m : Nat} {found : List Nat} (h : Divs n found) (n0 : 0 < n) (hq : Prime q) (hn : ¬ q ∣ n) : Divs (n * q ^ m) (grow found q m) := by
  have hf : ∀ d ∈ found, 0 < d ∧ ¬ q ∣ d := fun d hd => by
    have h1 := (h.mem d).mp hd
    exact ⟨Nat.pos_of_dvd_of_pos h1 n0, fun z => hn (Nat.dvd_trans z h1)⟩
  refine ⟨fun d => ?_, grow_nd hq hf h.nd m⟩
  rw [grow_mem]
  constructor
  · rintro ⟨e, k, h1, h2, rfl⟩
    exact Nat.mul_dvd_mul ((h.mem e).mp h1) (Nat.pow_dvd_pow q h2)
  · intro hd
    have d0 : 0 < d := Nat.pos_of_dvd_of_pos hd (Nat.mul_pos n0 (Nat.pow_pos hq.pos))
    obtain ⟨c, e1, h1, h2⟩ := vq_split hq d0
    rw [e1, Nat.mul_comm n] at hd
    obtain ⟨h3, h4⟩ := (pow_split hq hn h1).mp hd
    exact ⟨c, vq q d, (h.mem c).mpr h4, h3, by rw [Nat.mul_comm]; exact e1⟩
/-- behind the first rows of a parting -/
theorem divs_take {n : Nat} {l : List (Nat × Nat)} (hl : IsFac n l) : ∀ i, i ≤ l.length → Divs (prodL (l.take i)) (divL [1] (l.take i)) ∧ 0 < prodL (l.take i) := by
  intro i
  induction i with
  | zero => intro _; exact ⟨by simpa [prodL, divL] using divs_one, by simp [prodL]⟩
  | succ i ih =>
    intro hi
    obtain ⟨h, h0⟩ := ih (by omega)
    obtain ⟨⟨q, m⟩, hx⟩ : ∃ x, l[i]? = some x := ⟨_, List.getElem?_eq_getElem (by omega)⟩
    have et : l.take (i + 1) = l.take i ++ [(q, m)] := by rw [List.take_add_one, hx]; rfl
    have hq := (hl.primes _ (List.mem_of_getElem? hx)).1
    have hno : ¬ q ∣ prodL (l.take i) := fun z => by
      obtain ⟨k, hk⟩ := prime_in' hq (fun x hx => (hl.primes x (List.mem_of_mem_take hx)).1) z
      have hs := hl.sorted
      rw [← List.take_append_drop (i + 1) l, et] at hs
      have h1 := (List.pairwise_append.mp (List.pairwise_append.mp hs).1).2.2 _ hk (q, m) (by simp)
      exact Nat.lt_irrefl _ h1
    rw [et, prodL_app, divL_app]
    refine ⟨?_, Nat.mul_pos h0 (by simp [prodL]; exact Nat.pow_pos hq.pos)⟩
    have h1 := divs_grow (m := m) h h0 hq hno
    simpa [prodL, divL] using h1
theorem divs_all {n : Nat} {l : List (Nat × Nat)} (hl : IsFac n l) : Divs n (divL [1] l) := by
  have h := (divs_take hl l.length (Nat.le_refl _)).1
  rw [List.take_length, hl.prod] at h
  exact h
def manyL : List (Nat × Nat) → Nat
  | [] => 1
  | x :: l => (x.2 + 1) * manyL l
theorem manyL_app (l m : List (Nat × Nat)) : manyL (l ++ m) = manyL l * manyL m := by
  induction l with
  | nil => simp [manyL]
  | cons x l ih => simp only [List.cons_append, manyL, ih, Nat.mul_assoc]
theorem divL_len (found : List Nat) (l : List (Nat × Nat)) : (divL found l).length = found.length * manyL l := by
  induction l generalizing found with
  | nil => simp [divL, manyL]
  | cons x l ih => rw [divL, ih, grow_len, manyL, Nat.mul_assoc]
theorem cube_le : ∀ k : Nat, (k + 1) ^ 3 ≤ 2 * 4 ^ k
  | 0 => by decide
  | 1 => by decide
  | 2 => by decide
  | k + 3 => by
    have ih := cube_le (k + 2)
    have h1 : (k + 3 + 1) ^ 3 ≤ 4 * (k + 2 + 1) ^ 3 := by grind
    have h2 : 4 ^ (k + 3) = 4 * 4 ^ (k + 2) := by rw [Nat.pow_succ]; omega
    omega
theorem many_le3 {l : List (Nat × Nat)} (h : ∀ x ∈ l, 3 ≤ x.1) : manyL l ^ 3 ≤ prodL l ^ 2 := by
  induction l with
  | nil => simp [manyL, prodL]
  | cons x l ih =>
    have ih' := ih fun y hy => h y (by simp [hy])
    have hx := h x (by simp)
    have h1 : x.2 + 1 ≤ 2 ^ x.2 := Nat.lt_two_pow_self
    have h2 : (x.2 + 1) ^ 3 ≤ (2 ^ x.2) ^ 3 := Nat.pow_le_pow_left h1 3
    have h3 : ((2 : Nat) ^ x.2) ^ 3 = 8 ^ x.2 := by rw [← Nat.pow_mul, Nat.mul_comm, Nat.pow_mul]
    have h4 : (x.1 ^ x.2) ^ 2 = (x.1 ^ 2) ^ x.2 := by rw [← Nat.pow_mul, Nat.mul_comm, Nat.pow_mul]
    have h5 : 8 ≤ x.1 ^ 2 := by
      have : 3 ^ 2 ≤ x.1 ^ 2 := Nat.pow_le_pow_left hx 2
      omega
    have h6 : 8 ^ x.2 ≤ (x.1 ^ 2) ^ x.2 := Nat.pow_le_pow_left h5 _
    simp only [manyL, prodL, Nat.mul_pow]
    exact Nat.mul_le_mul (by rw [h4]; omega) ih'
theorem many_le {n : Nat} {l : List (Nat × Nat)} (hl : IsFac n l) : manyL l ^ 3 ≤ 2 * n ^ 2 := by
  have hp := hl.prod
  have hs := hl.sorted
  have hq := hl.primes
  cases l with
  | nil =>
    simp only [prodL] at hp
    subst hp
    simp [manyL]
  | cons x l =>
    have hs' := List.pairwise_cons.mp hs
    have hx := (hq x (by simp)).1.1
    have h3 := many_le3 (l := l) fun y hy => by have := hs'.1 y hy; omega
    have h1 := cube_le x.2
    have h4 : (x.1 ^ x.2) ^ 2 = (x.1 ^ 2) ^ x.2 := by rw [← Nat.pow_mul, Nat.mul_comm, Nat.pow_mul]
    have h5 : 4 ≤ x.1 ^ 2 := by
      have : 2 ^ 2 ≤ x.1 ^ 2 := Nat.pow_le_pow_left hx 2
      omega
    have h6 : 4 ^ x.2 ≤ (x.1 ^ 2) ^ x.2 := Nat.pow_le_pow_left h5 _
    rw [← hp]
    simp only [manyL, prodL, Nat.mul_pow]
    rw [← Nat.mul_assoc]
    exact Nat.mul_le_mul (by rw [h4]; omega) h3
theorem many_line {n : Nat} {l : List (Nat × Nat)} (hl : IsFac n l) (hn : n ≤ 1000000000) : manyL l ≤ 2000000 := by
  rcases Nat.lt_or_ge 2000000 (manyL l) with z | z
  · exfalso
    have h1 := many_le hl
    have h2 : n ^ 2 ≤ 1000000000 ^ 2 := Nat.pow_le_pow_left hn 2
    have h3 : 2000000 ^ 3 ≤ manyL l ^ 3 := Nat.pow_le_pow_left (by omega) 3
    have h4 : (2000000 : Nat) ^ 3 = 8000000000000000000 := by decide
    have h5 : (1000000000 : Nat) ^ 2 = 1000000000000000000 := by decide
    omega
  · exact z
/-- the sum of how many are coprime, over all divisors -/
theorem fi_sum {q : Nat} (hq : 2 ≤ q) : ∀ m, ((List.range (m + 1)).map (fi q)).sum = q ^ m
  | 0 => by simp [fi]
  | m + 1 => by
    rw [List.range_succ, List.map_append, List.sum_append, fi_sum hq m]
    simp only [List.map_cons, List.map_nil, List.sum_cons, List.sum_nil, fi]
    rw [if_neg (by omega), Nat.add_sub_cancel, Nat.pow_succ]
    obtain ⟨r, rfl⟩ : ∃ r, q = r + 1 := ⟨q - 1, by omega⟩
    rw [Nat.add_sub_cancel]
    grind
theorem sum_map_mul (F : Nat → Nat) (c : Nat) (l : List Nat) : (l.map fun e => F e * c).sum = (l.map F).sum * c := by
  induction l with
  | nil => simp
  | cons x l ih => simp only [List.map_cons, List.sum_cons, ih, Nat.add_mul]
theorem grow_sum {F : Nat → Nat} {found : List Nat} {q : Nat} (h : ∀ e ∈ found, ∀ k, F (e * q ^ k) = F e * fi q k) : ∀ m, ((grow found q m).map F).sum = (found.map F).sum * ((List.range (m + 1)).map (fi q)).sum
  | 0 => by simp [grow, fi]
  | m + 1 => by
    rw [List.range_succ, List.map_append, List.sum_append, grow, List.map_append, List.sum_append, grow_sum h m, List.map_map, Nat.mul_add]
    congr 1
    simp only [List.map_cons, List.map_nil, List.sum_cons, List.sum_nil, Nat.add_zero]
    rw [← sum_map_mul]
    congr 1
    exact List.map_congr_left fun e he => h e he (m + 1)
theorem phiV_off {q : Nat} (hq : Prime q) : ∀ {L : List (Nat × Nat)} {e : Nat}, (∀ x ∈ L, Prime x.1 ∧ x.1 ≠ q) → 0 < e → ∀ k, phiV L (e * q ^ k) = phiV L e
  | [], _, _, _, _ => rfl
  | x :: L, e, h, he, k => by
    simp only [phiV]
    rw [vq_mul_off (h x (by simp)).1 he (not_dvd_pow (h x (by simp)).1 hq (h x (by simp)).2), phiV_off hq (fun y hy => h y (by simp [hy])) he k]
theorem phi_sum_take {n : Nat} {l : List (Nat × Nat)} (hl : IsFac n l) : ∀ i, i ≤ l.length → ((divL [1] (l.take i)).map (phiV l)).sum = prodL (l.take i) := by
  intro i
  induction i with
  | zero =>
    intro _
    have key : ∀ L : List (Nat × Nat), (∀ x ∈ L, Prime x.1) → phiV L 1 = 1 := by
      intro L
      induction L with
      | nil => intro _; rfl
      | cons x L ih =>
        intro h
        have h1 : vq x.1 1 = 0 := vq_no fun z => by
          have := (h x (by simp)).1
          have h2 := z.2.2
          rw [Nat.mod_eq_of_lt (by omega)] at h2
          omega
        simp only [phiV, ih fun y hy => h y (by simp [hy]), h1, fi]
        simp
    simp [divL, prodL, key l fun x hx => (hl.primes x hx).1]
  | succ i ih =>
    intro hi
    have ih' := ih (by omega)
    obtain ⟨hd, h0⟩ := divs_take hl i (by omega)
    obtain ⟨⟨q, m⟩, hx⟩ : ∃ x, l[i]? = some x := ⟨_, List.getElem?_eq_getElem (by omega)⟩
    have et : l.take (i + 1) = l.take i ++ [(q, m)] := by rw [List.take_add_one, hx]; rfl
    have hq := (hl.primes _ (List.mem_of_getElem? hx)).1
    have hsplit : l = l.take i ++ (q, m) :: l.drop (i + 1) := by
      conv => lhs; rw [← List.take_append_drop (i + 1) l, et]
      simp
    have hs := hl.sorted
    rw [hsplit] at hs
    obtain ⟨_, hs2, hs3⟩ := List.pairwise_append.mp hs
    have hs4 := (List.pairwise_cons.mp hs2).1
    have hA : ∀ x ∈ l.take i, Prime x.1 ∧ x.1 ≠ q := fun x hx => ⟨(hl.primes x (List.mem_of_mem_take hx)).1, by
      have h1 : x.1 < q := hs3 x hx (q, m) (by simp)
      omega⟩
    have hB : ∀ x ∈ l.drop (i + 1), Prime x.1 ∧ x.1 ≠ q := fun x hx => ⟨(hl.primes x (List.mem_of_mem_drop hx)).1, by
      have h1 : q < x.1 := hs4 x hx
      omega⟩
    have hno : ¬ q ∣ prodL (l.take i) := fun z => by
      obtain ⟨k, hk⟩ := prime_in' hq (fun x hx => (hA x hx).1) z
      exact (hA _ hk).2 rfl
    rw [et, prodL_app, divL_app]
    show ((grow (divL [1] (l.take i)) q m).map (phiV l)).sum = _
    rw [grow_sum (F := phiV l) (fun e he k => ?_) m, ih', fi_sum hq.1]
    · simp [prodL]
    · have h1 := (hd.mem e).mp he
      have e0 : 0 < e := Nat.pos_of_dvd_of_pos h1 h0
      have hqe : ¬ q ∣ e := fun z => hno (Nat.dvd_trans z h1)
      have h2 : vq q (e * q ^ k) = k := by rw [Nat.mul_comm]; exact vq_eq hq.1 hqe e0 k
      have h3 : vq q e = 0 := vq_no fun z => hqe (Nat.dvd_of_mod_eq_zero z.2.2)
      have hL : ∀ d, phiV l d = phiV (l.take i) d * (fi q (vq q d) * phiV (l.drop (i + 1)) d) := fun d => by
        conv => lhs; rw [hsplit, phiV_app]
        rfl
      rw [hL, hL e, phiV_off hq hA e0, phiV_off hq hB e0, h2, h3]
      have h4 : fi q 0 = 1 := rfl
      rw [h4]
      grind
theorem phi_sum {n : Nat} {l : List (Nat × Nat)} (hl : IsFac n l) : ((divL [1] l).map (phiV l)).sum = n := by
  have h := phi_sum_take hl l.length (Nat.le_refl _)
  rw [List.take_length, hl.prod] at h
  exact h
/-- the parting of d within l -/
def within (l : List (Nat × Nat)) (d : Nat) : List (Nat × Nat) := (vL d l).filter fun x => decide (0 < x.2)
theorem within_prod (l : List (Nat × Nat)) (d : Nat) : prodL (within l d) = prodL (vL d l) := by
  unfold within
  induction vL d l with
  | nil => rfl
  | cons x L ih =>
    by_cases c : 0 < x.2
    · rw [List.filter_cons_of_pos (by simpa using c)]
      simp only [prodL, ih]
    · rw [List.filter_cons_of_neg (by simpa using c), ih]
      have : x.2 = 0 := by omega
      simp [prodL, this]
theorem within_phi (l : List (Nat × Nat)) (d : Nat) : phiL (within l d) = phiV l d := by
  unfold within
  induction l with
  | nil => rfl
  | cons x L ih =>
    show phiL (((x.1, vq x.1 d) :: vL d L).filter _) = _
    by_cases c : 0 < vq x.1 d
    · rw [List.filter_cons_of_pos (by simpa using c)]
      simp only [phiL, phiV, ih, fi]
      rw [if_neg (by omega)]
    · rw [List.filter_cons_of_neg (by simpa using c), ih]
      have : vq x.1 d = 0 := by omega
      simp [phiV, this, fi]
theorem vL_full {n d : Nat} {l : List (Nat × Nat)} (hl : IsFac n l) (d0 : 0 < d) (hd : d ∣ n) : prodL (vL d l) = d := by
  have key : ∀ i, i ≤ l.length → ∃ e, OF d n l i e := by
    intro i
    induction i with
    | zero => exact fun _ => ⟨n, of_start hl hd⟩
    | succ i ih =>
      intro hi
      obtain ⟨e, he⟩ := ih (by omega)
      have hx : l[i]? = some (l[i]'(by omega)) := List.getElem?_eq_getElem (by omega)
      obtain ⟨m, _, _, _, _, _, h⟩ := of_step hl d0 he (q := (l[i]'(by omega)).1) (b := (l[i]'(by omega)).2) hx
      exact ⟨_, h⟩
  obtain ⟨e, he⟩ := key _ (Nat.le_refl _)
  have h2 := of_end hl d0 he
  have h3 := he.val
  rw [List.take_length, List.drop_length] at h3
  simp only [prodL, Nat.mul_one] at h3
  omega
theorem within_fac {n d : Nat} {l : List (Nat × Nat)} (hl : IsFac n l) (d0 : 0 < d) (hd : d ∣ n) : IsFac d (within l d) := by
  refine ⟨?_, fun x hx => ?_, by rw [within_prod, vL_full hl d0 hd]⟩
  · have h := hl.sorted
    unfold within vL
    refine List.Pairwise.filter _ ?_
    rw [List.pairwise_map]
    exact h
  · obtain ⟨h1, h2⟩ := List.mem_filter.mp hx
    obtain ⟨y, hy, rfl⟩ := List.mem_map.mp h1
    exact ⟨(hl.primes y hy).1, by simpa using h2⟩
end M

namespace M
theorem fac_any : ∀ {n : Nat}, 0 < n → ∃ l, IsFac n l := by
  have key : ∀ (j : Nat) (n0 n d : Nat) (l : List (Nat × Nat)), n + 1 - d ≤ j → Fac n0 l n d → ∃ l, IsFac n0 l := by
    intro j
    induction j with
    | zero =>
      intro n0 n d l hj h
      by_cases c : 1 < n
      · have := fac_le h c; omega
      · exact ⟨l, fac_end h (by omega)⟩
    | succ j ih =>
      intro n0 n d l hj h
      by_cases c : 1 < n
      · have hd := fac_le h c
        have d2 := h.dtwo
        obtain ⟨k, m, e, hm, m0⟩ : ∃ k m, n = d ^ k * m ∧ ¬ d ∣ m ∧ 0 < m := by
          by_cases hp : d ∣ n
          · exact split_prime (fac_prime h hp) n (by omega)
          · exact ⟨0, n, by simp, hp, by omega⟩
        have hmn : m ≤ n := by rw [e]; exact Nat.le_mul_of_pos_left _ (Nat.pow_pos (by omega))
        exact ih n0 m (d + 1) _ (by omega) (fac_step h e hm)
      · exact ⟨l, fac_end h (by omega)⟩
  intro n h
  exact key (n + 1) n n 2 [] (by omega) (fac_start h)
end M
namespace M
theorem prime149 : Prime 149 := prime_of_no (by decide) fun d h1 h2 h3 => by
  have hd : d < 13 := by
    rcases Nat.lt_or_ge d 13 with z | z
    · exact z
    · have := Nat.mul_le_mul z z
      omega
  have all : ∀ d < 13, 2 ≤ d → ¬ d ∣ 149 := by decide
  exact all d hd h1 h3
end M

/-! how many primes a number has -/
namespace M
def asc : Nat → Nat → Nat
  | _, 0 => 1
  | c, n + 1 => c * asc (c + 1) n
theorem asc_le : ∀ {l : List (Nat × Nat)} {c : Nat}, l.Pairwise (fun x y => x.1 < y.1) → (∀ x ∈ l, c ≤ x.1 ∧ 0 < x.1 ∧ 0 < x.2) → asc c l.length ≤ prodL l
  | [], _, _, _ => Nat.le_refl _
  | x :: l, c, srt, h => by
    have s := List.pairwise_cons.mp srt
    obtain ⟨h1, h0, h2⟩ := h x (by simp)
    have ih := asc_le (c := c + 1) s.2 fun y hy => ⟨by have := s.1 y hy; omega, (h y (by simp [hy])).2.1, (h y (by simp [hy])).2.2⟩
    show c * asc (c + 1) l.length ≤ x.1 ^ x.2 * prodL l
    refine Nat.mul_le_mul (Nat.le_trans h1 ?_) ih
    have := Nat.pow_le_pow_right h0 h2
    rwa [Nat.pow_one] at this
theorem nprimes {n : Nat} {l : List (Nat × Nat)} (hl : IsFac n l) (hn : n ≤ 1000000000) : l.length ≤ 11 := by
  have h := asc_le (c := 2) hl.sorted fun x hx => ⟨(hl.primes x hx).1.1, (hl.primes x hx).1.pos, (hl.primes x hx).2⟩
  rw [hl.prod] at h
  rcases Nat.lt_or_ge 11 l.length with z | z
  · exfalso
    have mono : ∀ k c m, k ≤ m → 1 ≤ c → asc c k ≤ asc c m := by
      intro k
      induction k with
      | zero => intro c m _ hc; exact (by
          have pos : ∀ m c, 1 ≤ c → 1 ≤ asc c m := by
            intro m
            induction m with
            | zero => intro c _; exact Nat.le_refl 1
            | succ m ih => intro c hc; exact Nat.mul_pos hc (ih (c + 1) (by omega))
          exact pos m c hc)
      | succ k ih =>
        intro c m hm hc
        obtain ⟨m', rfl⟩ : ∃ m', m = m' + 1 := ⟨m - 1, by omega⟩
        exact Nat.mul_le_mul_left c (ih (c + 1) m' (by omega) (by omega))
    have h2 := mono 12 2 l.length z (by decide)
    have h3 : asc 2 12 = 6227020800 := by decide +kernel
    omega
  · exact z
end M

/-! a number with a told rest, gone to step by step -/
namespace M
theorem bez (a b : Nat) : ∃ u v : Int, u * a + v * b = (Nat.gcd a b : Nat) := by
  induction a, b using Nat.gcd.induction with
  | H0 n => exact ⟨0, 1, by simp⟩
  | H1 m n h ih =>
    obtain ⟨u, v, e⟩ := ih
    refine ⟨v - u * (n / m : Nat), u, ?_⟩
    rw [Nat.gcd_rec m n, ← e]
    have h1 := Nat.div_add_mod n m
    have h2 : (n : Int) = (m : Int) * ((n / m : Nat) : Int) + ((n % m : Nat) : Int) := by rw [← Int.natCast_mul, ← Int.natCast_add, h1]
    generalize ((n / m : Nat) : Int) = q at *
    generalize ((n % m : Nat) : Int) = r at *
    rw [h2]; grind
theorem step_to {w x e y : Nat} (e0 : 0 < e) (hy : y < e) (h : ((x : Int) - y) % (Nat.gcd w e : Nat) = 0) : ∃ t : Nat, t < e ∧ (x + w * t) % e = y := by
  obtain ⟨u, v, hb⟩ := bez w e
  obtain ⟨c, hc⟩ := Int.dvd_of_emod_eq_zero h
  have r0 := Int.emod_nonneg (-(c * u)) (show (e : Int) ≠ 0 by omega)
  have r1 := Int.emod_lt_of_pos (-(c * u)) (show (0 : Int) < e by omega)
  have r2 := Int.emod_add_mul_ediv (-(c * u)) (e : Int)
  generalize -(c * u) / (e : Int) = Q at r2
  generalize hR : -(c * u) % (e : Int) = R at *
  obtain ⟨t, rfl⟩ := Int.eq_ofNat_of_zero_le r0
  refine ⟨t, by omega, ?_⟩
  have hd : (e : Int) ∣ ((x + w * t : Nat) : Int) - y := by
    refine ⟨c * v - w * Q, ?_⟩
    push_cast
    have e1 : (t : Int) = -(c * u) - e * Q := by omega
    rw [e1]
    have e2 : (x : Int) = y + ((Nat.gcd w e : Nat) : Int) * c := by omega
    rw [e2, ← hb]; grind
  have h3 : ((x + w * t : Nat) : Int) % e = (y : Int) % e := Int.emod_eq_emod_iff_emod_sub_eq_zero.mpr (Int.emod_eq_zero_of_dvd hd)
  rw [← Int.natCast_emod, ← Int.natCast_emod, Nat.mod_eq_of_lt hy] at h3
  omega
theorem step_least {w x e y : Nat} (w0 : 0 < w) (e0 : 0 < e) (hx : x < w) (hy : y < e) (h : ((x : Int) - y) % (Nat.gcd w e : Nat) = 0) : ∃ t : Nat, x + w * t < Nat.lcm w e ∧ (x + w * t) % e = y := by
  obtain ⟨t, _, ht⟩ := step_to (w := w) e0 hy h
  have l0 : 0 < Nat.lcm w e := Nat.lcm_pos w0 e0
  have h1 := Nat.mod_lt (x + w * t) l0
  have h2 : (x + w * t) % Nat.lcm w e % w = x := by
    rw [Nat.mod_mod_of_dvd _ (Nat.dvd_lcm_left w e), Nat.add_mul_mod_self_left, Nat.mod_eq_of_lt hx]
  have h3 : (x + w * t) % Nat.lcm w e % e = y := by
    rw [Nat.mod_mod_of_dvd _ (Nat.dvd_lcm_right w e)]; exact ht
  generalize (x + w * t) % Nat.lcm w e = X at h1 h2 h3
  have h4 := Nat.mod_add_div X w
  refine ⟨X / w, ?_, ?_⟩
  · rw [← h2, h4]; exact h1
  · rw [← h2, h4]; exact h3
end M

namespace M
/-- places that are alike are met by a number -/
theorem put_exists : ∀ (pl : List (Int × Int)), (∀ q ∈ pl, 0 < q.1 ∧ 0 ≤ q.2 ∧ q.2 < q.1) → allAlike pl → ∃ w x, Put pl w x := by
  intro pl
  induction pl using snoc_ind with
  | nil => intro _ _; exact ⟨1, 0, put_nil⟩
  | append_singleton pl q ih =>
    intro hm hal
    obtain ⟨w, x, hP⟩ := ih (fun p hp => hm p (by simp [hp])) fun i j p p' hij hi hj => by
      have a1 := (List.getElem?_eq_some_iff.mp hi).1
      have a2 := (List.getElem?_eq_some_iff.mp hj).1
      exact hal i j p p' hij (by rw [List.getElem?_append_left a1]; exact hi) (by rw [List.getElem?_append_left a2]; exact hj)
    obtain ⟨n, s⟩ := q
    have hn := hm (n, s) (by simp)
    have n0 : 0 < n := hn.1
    have s0 : 0 ≤ s := hn.2.1
    have s1 : s < n := hn.2.2
    have ha := put_alike (n := n) (s := s) hP fun p hp => by
      obtain ⟨i, hi⟩ := List.getElem?_of_mem hp
      have a1 := (List.getElem?_eq_some_iff.mp hi).1
      exact hal i pl.length p (n, s) a1 (by rw [List.getElem?_append_left a1]; exact hi) (by rw [List.getElem?_append_right (Nat.le_refl _)]; simp)
    have w0 := put_pos hP
    obtain ⟨W, rfl⟩ := Int.eq_ofNat_of_zero_le (Int.le_of_lt w0)
    obtain ⟨X, rfl⟩ := Int.eq_ofNat_of_zero_le hP.x0
    obtain ⟨N, rfl⟩ := Int.eq_ofNat_of_zero_le (Int.le_of_lt n0)
    obtain ⟨S, rfl⟩ := Int.eq_ofNat_of_zero_le s0
    obtain ⟨t, _, ht⟩ := step_to (w := W) (x := X) (e := N) (y := S) (by omega) (by omega) ha
    have lp : 0 < Nat.lcm W N := Nat.lcm_pos (by omega) (by omega)
    refine ⟨_, _, put_more hP (w' := (Nat.lcm W N : Nat)) (x' := ((X + W * t) % Nat.lcm W N : Nat)) ⟨?_, ?_, ?_, ?_, ?_⟩⟩
    · rfl
    · omega
    · have := Nat.mod_lt (X + W * t) lp; omega
    · have h1 := Nat.div_add_mod (X + W * t) (Nat.lcm W N)
      obtain ⟨c, hc⟩ := Nat.dvd_lcm_left W N
      have h2 : (((X + W * t) % Nat.lcm W N : Nat) : Int) - (X : Int) = (W : Int) * ((t : Int) - (c : Int) * (((X + W * t) / Nat.lcm W N : Nat) : Int)) := by
        have h3 : (((X + W * t : Nat)) : Int) = (((Nat.lcm W N) * ((X + W * t) / Nat.lcm W N) + (X + W * t) % Nat.lcm W N : Nat) : Int) := by rw [h1]
        generalize (X + W * t) / Nat.lcm W N = Q at h3 ⊢
        generalize (X + W * t) % Nat.lcm W N = R at h3 ⊢
        rw [hc] at h3
        push_cast at h3 ⊢
        grind
      rw [h2]
      exact Int.mul_emod_right _ _
    · have h1 : ((X + W * t) % Nat.lcm W N) % N = S := by rw [Nat.mod_mod_of_dvd _ (Nat.dvd_lcm_right W N)]; exact ht
      have h2 := Nat.div_add_mod ((X + W * t) % Nat.lcm W N) N
      rw [h1] at h2
      generalize (X + W * t) % Nat.lcm W N = R at h2 ⊢
      have h3 : (R : Int) - (S : Int) = (N : Int) * ((R / N : Nat) : Int) := by
        have : (R : Int) = ((N * (R / N) + S : Nat) : Int) := by rw [h2]
        push_cast at this ⊢
        omega
      rw [h3]
      exact Int.mul_emod_right _ _
theorem lcm_le (m : Nat) (pl : List (Int × Int)) (h : ∀ q ∈ pl, q.1.natAbs ≤ m) : lcmL pl ≤ m ^ pl.length := by
  induction pl using snoc_ind with
  | nil => simp [lcmL]
  | append_singleton pl q ih =>
    rw [lcmL_snoc, List.length_append]
    have h1 := ih fun p hp => h p (by simp [hp])
    have h2 := h q (by simp)
    have h3 : Nat.lcm (lcmL pl) q.1.natAbs ≤ lcmL pl * q.1.natAbs := by
      rcases Nat.eq_zero_or_pos (lcmL pl * q.1.natAbs) with z | z
      · rw [z]
        rcases Nat.mul_eq_zero.mp z with y | y
        · rw [y]; simp
        · rw [y]; simp
      · exact Nat.le_of_dvd z (Nat.lcm_dvd (Nat.dvd_mul_right _ _) (Nat.dvd_mul_left _ _))
    exact Nat.le_trans h3 (by rw [show pl.length + [q].length = pl.length + 1 from rfl, Nat.pow_succ]; exact Nat.mul_le_mul h1 h2)
end M

namespace C
open PySem PySem.Spec PyProof.Rows L2 R

def top (i : Nat) : Stmt := PySem.Challenge.pw_rootprime_k73_powers_let_by.main.body.getD i (.Pass ⟨0, 0, 0, 0⟩)
abbrev FnP (K : PySem.W.Frag) (x : Str) (st : Stmt) (f : Addr) (fd : FuncData) : Prop := FunD K x x (defArgs st) (defBody st) (defScope st) [] [] f fd
abbrev s_divisor : Stmt := top 4
abbrev N_divisor : List Str := ["a", "b", "g", "u", "v", "rest", "x", "y", "times"]
theorem sc_divisor : FnScope N_divisor ["a", "b"] (defScope s_divisor) := ⟨rfl, rfl, rfl, by decide +kernel, rfl, by decide +kernel, by decide +kernel⟩
abbrev s_inverse : Stmt := top 5
abbrev N_inverse : List Str := ["n", "a", "g", "u", "v"]
theorem sc_inverse : FnScope N_inverse ["n", "a"] (defScope s_inverse) := ⟨rfl, rfl, rfl, by decide +kernel, rfl, by decide +kernel, by decide +kernel⟩
abbrev s_power : Stmt := top 7
abbrev N_power : List Str := ["n", "a", "e", "found", "base"]
theorem sc_power : FnScope N_power ["n", "a", "e"] (defScope s_power) := ⟨rfl, rfl, rfl, by decide +kernel, rfl, by decide +kernel, by decide +kernel⟩
abbrev s_is_whole : Stmt := top 9
abbrev N_is_whole : List Str := ["thing", "least"]
theorem sc_is_whole : FnScope N_is_whole ["thing", "least"] (defScope s_is_whole) := ⟨rfl, rfl, rfl, by decide +kernel, rfl, by decide +kernel, by decide +kernel⟩
abbrev s_is_row_of : Stmt := top 10
abbrev N_is_row_of : List Str := ["thing", "many"]
theorem sc_is_row_of : FnScope N_is_row_of ["thing", "many"] (defScope s_is_row_of) := ⟨rfl, rfl, rfl, by decide +kernel, rfl, by decide +kernel, by decide +kernel⟩
abbrev s_are_papers : Stmt := top 11
abbrev N_are_papers : List Str := ["things", "many", "last", "thing"]
theorem sc_are_papers : FnScope N_are_papers ["things", "many"] (defScope s_are_papers) := ⟨rfl, rfl, rfl, by decide +kernel, rfl, by decide +kernel, by decide +kernel⟩
abbrev s_comes_to : Stmt := top 12
abbrev N_comes_to : List Str := ["things", "n", "thing", "k"]
theorem sc_comes_to : FnScope N_comes_to ["things", "n"] (defScope s_comes_to) := ⟨rfl, rfl, rfl, by decide +kernel, rfl, by decide +kernel, by decide +kernel⟩
abbrev s_is_parting_paper : Stmt := top 13
abbrev N_is_parting_paper : List Str := ["n", "thing"]
theorem sc_is_parting_paper : FnScope N_is_parting_paper ["n", "thing"] (defScope s_is_parting_paper) := ⟨rfl, rfl, rfl, by decide +kernel, rfl, by decide +kernel, by decide +kernel⟩
abbrev s_is_prime_paper : Stmt := top 14
abbrev N_is_prime_paper : List Str := ["thing", "p", "full", "parts", "part"]
theorem sc_is_prime_paper : FnScope N_is_prime_paper ["thing"] (defScope s_is_prime_paper) := ⟨rfl, rfl, rfl, by decide +kernel, rfl, by decide +kernel, by decide +kernel⟩
abbrev s_is_order : Stmt := top 15
abbrev N_is_order : List Str := ["paper", "a", "e", "p", "primes", "part", "q"]
theorem sc_is_order : FnScope N_is_order ["paper", "a", "e"] (defScope s_is_order) := ⟨rfl, rfl, rfl, by decide +kernel, rfl, by decide +kernel, by decide +kernel⟩
abbrev s_are_wholes : Stmt := top 17
abbrev N_are_wholes : List Str := ["things", "least", "thing"]
theorem sc_are_wholes : FnScope N_are_wholes ["things", "least"] (defScope s_are_wholes) := ⟨rfl, rfl, rfl, by decide +kernel, rfl, by decide +kernel, by decide +kernel⟩
abbrev s_digits_in : Stmt := top 18
abbrev N_digits_in : List Str := ["x", "q", "e", "digits"]
theorem sc_digits_in : FnScope N_digits_in ["x", "q", "e"] (defScope s_digits_in) := ⟨rfl, rfl, rfl, by decide +kernel, rfl, by decide +kernel, by decide +kernel⟩
abbrev s_are_digits : Stmt := top 19
abbrev N_are_digits : List Str := ["paper", "e", "x", "parts", "part", "primes", "q"]
theorem sc_are_digits : FnScope N_are_digits ["paper", "e", "x", "parts"] (defScope s_are_digits) := ⟨rfl, rfl, rfl, by decide +kernel, rfl, by decide +kernel, by decide +kernel⟩
abbrev s_shows_which : Stmt := top 20
abbrev N_shows_which : List Str := ["paper", "b", "a", "thing", "x", "shown", "p", "e", "rest"]
theorem sc_shows_which : FnScope N_shows_which ["paper", "b", "a", "thing"] (defScope s_shows_which) := ⟨rfl, rfl, rfl, by decide +kernel, rfl, by decide +kernel, by decide +kernel⟩
abbrev s_are_primes : Stmt := top 23
abbrev N_are_primes : List Str := ["things", "last", "thing"]
theorem sc_are_primes : FnScope N_are_primes ["things"] (defScope s_are_primes) := ⟨rfl, rfl, rfl, by decide +kernel, rfl, by decide +kernel, by decide +kernel⟩
abbrev s_is_named : Stmt := top 24
abbrev N_is_named : List Str := ["thing", "word", "many"]
theorem sc_is_named : FnScope N_is_named ["thing", "word", "many"] (defScope s_is_named) := ⟨rfl, rfl, rfl, by decide +kernel, rfl, by decide +kernel, by decide +kernel⟩
abbrev s_is_below : Stmt := top 25
abbrev N_is_below : List Str := ["thing", "bound"]
theorem sc_is_below : FnScope N_is_below ["thing", "bound"] (defScope s_is_below) := ⟨rfl, rfl, rfl, by decide +kernel, rfl, by decide +kernel, by decide +kernel⟩
abbrev s_is_power_by : Stmt := top 26
abbrev N_is_power_by : List Str := ["paper", "b", "a", "place"]
theorem sc_is_power_by : FnScope N_is_power_by ["paper", "b", "a", "place"] (defScope s_is_power_by) := ⟨rfl, rfl, rfl, by decide +kernel, rfl, by decide +kernel, by decide +kernel⟩
abbrev s_are_apart : Stmt := top 27
abbrev N_are_apart : List Str := ["papers", "b", "a", "shown", "word", "i", "j", "one", "other"]
theorem sc_are_apart : FnScope N_are_apart ["papers", "b", "a", "shown"] (defScope s_are_apart) := ⟨rfl, rfl, rfl, by decide +kernel, rfl, by decide +kernel, by decide +kernel⟩
abbrev s_is_least_by : Stmt := top 28
abbrev N_is_least_by : List Str := ["papers", "b", "a", "x", "rows", "whole", "paper", "row"]
theorem sc_is_least_by : FnScope N_is_least_by ["papers", "b", "a", "x", "rows"] (defScope s_is_least_by) := ⟨rfl, rfl, rfl, by decide +kernel, rfl, by decide +kernel, by decide +kernel⟩
abbrev s_shows_which_of : Stmt := top 29
abbrev N_shows_which_of : List Str := ["papers", "b", "a", "thing", "x", "shown", "told", "paper"]
theorem sc_shows_which_of : FnScope N_shows_which_of ["papers", "b", "a", "thing"] (defScope s_shows_which_of) := ⟨rfl, rfl, rfl, by decide +kernel, rfl, by decide +kernel, by decide +kernel⟩
abbrev s__law_cell_at : Stmt := top 31
abbrev N__law_cell_at : List Str := ["_law_script", "_law_k"]
theorem sc__law_cell_at : FnScope N__law_cell_at ["_law_script", "_law_k"] (defScope s__law_cell_at) := ⟨rfl, rfl, rfl, by decide +kernel, rfl, by decide +kernel, by decide +kernel⟩
abbrev s__law_state : Stmt := top 32
abbrev N__law_state : List Str := ["_law_cell", "_law_free"]
theorem sc__law_state : FnScope N__law_state ["_law_cell", "_law_free"] (defScope s__law_state) := ⟨rfl, rfl, rfl, by decide +kernel, rfl, by decide +kernel, by decide +kernel⟩
abbrev s__law_take : Stmt := top 33
abbrev N__law_take : List Str := ["_law_state_here", "_law_many", "_law_found"]
theorem sc__law_take : FnScope N__law_take ["_law_state_here", "_law_many"] (defScope s__law_take) := ⟨rfl, rfl, rfl, by decide +kernel, rfl, by decide +kernel, by decide +kernel⟩
abbrev s__law_number : Stmt := top 34
abbrev N__law_number : List Str := ["_law_state_here", "_law_found", "_law_k"]
theorem sc__law_number : FnScope N__law_number ["_law_state_here"] (defScope s__law_number) := ⟨rfl, rfl, rfl, by decide +kernel, rfl, by decide +kernel, by decide +kernel⟩
abbrev s__law_powers : Stmt := top 35
abbrev N__law_powers : List Str := ["_law_p", "_law_b", "_law_found"]
theorem sc__law_powers : FnScope N__law_powers ["_law_p", "_law_b"] (defScope s__law_powers) := ⟨rfl, rfl, rfl, by decide +kernel, rfl, by decide +kernel, by decide +kernel⟩
abbrev s__law_parted : Stmt := top 36
abbrev N__law_parted : List Str := ["_law_n", "_law_found", "_law_d", "_law_many"]
theorem sc__law_parted : FnScope N__law_parted ["_law_n"] (defScope s__law_parted) := ⟨rfl, rfl, rfl, by decide +kernel, rfl, by decide +kernel, by decide +kernel⟩
abbrev s__law_paper : Stmt := top 37
abbrev N__law_paper : List Str := ["_law_p", "_law_at", "_law_some", "_law_full", "_law_q", "_law_many"]
theorem sc__law_paper : FnScope N__law_paper ["_law_p", "_law_at"] (defScope s__law_paper) := ⟨rfl, rfl, rfl, by decide +kernel, rfl, by decide +kernel, by decide +kernel⟩
abbrev s__law_primes : Stmt := top 38
abbrev N__law_primes : List Str := ["_law_state_here", "_law_found", "_law_k"]
theorem sc__law_primes : FnScope N__law_primes ["_law_state_here"] (defScope s__law_primes) := ⟨rfl, rfl, rfl, by decide +kernel, rfl, by decide +kernel, by decide +kernel⟩
abbrev s__law_common : Stmt := top 39
abbrev N__law_common : List Str := ["_law_one", "_law_other"]
theorem sc__law_common : FnScope N__law_common ["_law_one", "_law_other"] (defScope s__law_common) := ⟨rfl, rfl, rfl, by decide +kernel, rfl, by decide +kernel, by decide +kernel⟩
abbrev s__law_alike : Stmt := top 40
abbrev N__law_alike : List Str := ["_law_primes_here", "_law_b", "_law_state_here", "_law_number_here", "_law_more", "_law_whole", "_law_found", "_law_p", "_law_here", "_law_k"]
theorem sc__law_alike : FnScope N__law_alike ["_law_primes_here", "_law_b", "_law_state_here"] (defScope s__law_alike) := ⟨rfl, rfl, rfl, by decide +kernel, rfl, by decide +kernel, by decide +kernel⟩
abbrev s__law_rows : Stmt := top 41
abbrev N__law_rows : List Str := ["_law_primes_here", "_law_b", "_law_a", "_law_rows_here", "_law_p", "_law_some", "_law_y"]
theorem sc__law_rows : FnScope N__law_rows ["_law_primes_here", "_law_b", "_law_a"] (defScope s__law_rows) := ⟨rfl, rfl, rfl, by decide +kernel, rfl, by decide +kernel, by decide +kernel⟩
abbrev s__law_rest : Stmt := top 42
abbrev N__law_rest : List Str := ["_law_p", "_law_a", "_law_e", "_law_rest_here", "_law_k"]
theorem sc__law_rest : FnScope N__law_rest ["_law_p", "_law_a", "_law_e"] (defScope s__law_rest) := ⟨rfl, rfl, rfl, by decide +kernel, rfl, by decide +kernel, by decide +kernel⟩
abbrev s__law_pairs : Stmt := top 43
abbrev N__law_pairs : List Str := ["_law_rows_here", "_law_found", "_law_i", "_law_j"]
theorem sc__law_pairs : FnScope N__law_pairs ["_law_rows_here"] (defScope s__law_pairs) := ⟨rfl, rfl, rfl, by decide +kernel, rfl, by decide +kernel, by decide +kernel⟩
abbrev s__law_made : Stmt := top 44
abbrev N__law_made : List Str := ["_law_primes_here", "_law_a", "_law_rows_here", "_law_state_here", "_law_some", "_law_n", "_law_pairs_here", "_law_i", "_law_j", "_law_x", "_law_e", "_law_y"]
theorem sc__law_made : FnScope N__law_made ["_law_primes_here", "_law_a", "_law_rows_here", "_law_state_here"] (defScope s__law_made) := ⟨rfl, rfl, rfl, by decide +kernel, rfl, by decide +kernel, by decide +kernel⟩
abbrev s__law_bent_shown : Stmt := top 45
abbrev N__law_bent_shown : List Str := ["_law_shown", "_law_state_here", "_law_way", "_law_at", "_law_some", "_law_rows_here", "_law_e", "_law_y"]
theorem sc__law_bent_shown : FnScope N__law_bent_shown ["_law_shown", "_law_state_here"] (defScope s__law_bent_shown) := ⟨rfl, rfl, rfl, by decide +kernel, rfl, by decide +kernel, by decide +kernel⟩
abbrev s__law_bent : Stmt := top 46
abbrev N__law_bent : List Str := ["_law_thing", "_law_rows_here", "_law_state_here", "_law_way", "_law_whole", "_law_e", "_law_y"]
theorem sc__law_bent : FnScope N__law_bent ["_law_thing", "_law_rows_here", "_law_state_here"] (defScope s__law_bent) := ⟨rfl, rfl, rfl, by decide +kernel, rfl, by decide +kernel, by decide +kernel⟩
abbrev s__law_is_whole : Stmt := top 47
abbrev N__law_is_whole : List Str := ["_law_thing"]
theorem sc__law_is_whole : FnScope N__law_is_whole ["_law_thing"] (defScope s__law_is_whole) := ⟨rfl, rfl, rfl, by decide +kernel, rfl, by decide +kernel, by decide +kernel⟩
abbrev s__law_is_row : Stmt := top 48
abbrev N__law_is_row : List Str := ["_law_row", "_law_due_here"]
theorem sc__law_is_row : FnScope N__law_is_row ["_law_row", "_law_due_here"] (defScope s__law_is_row) := ⟨rfl, rfl, rfl, by decide +kernel, rfl, by decide +kernel, by decide +kernel⟩
abbrev s__law_are_rows : Stmt := top 49
abbrev N__law_are_rows : List Str := ["_law_found", "_law_rows_here", "_law_one", "_law_row"]
theorem sc__law_are_rows : FnScope N__law_are_rows ["_law_found", "_law_rows_here"] (defScope s__law_are_rows) := ⟨rfl, rfl, rfl, by decide +kernel, rfl, by decide +kernel, by decide +kernel⟩
abbrev s__law_due_none : Stmt := top 50
abbrev N__law_due_none : List Str := ["_law_primes_here", "_law_a", "_law_rows_here", "_law_shown"]
theorem sc__law_due_none : FnScope N__law_due_none ["_law_primes_here", "_law_a", "_law_rows_here", "_law_shown"] (defScope s__law_due_none) := ⟨rfl, rfl, rfl, by decide +kernel, rfl, by decide +kernel, by decide +kernel⟩
abbrev s__law_due_apart : Stmt := top 51
abbrev N__law_due_apart : List Str := ["_law_rows_here", "_law_shown"]
theorem sc__law_due_apart : FnScope N__law_due_apart ["_law_rows_here", "_law_shown"] (defScope s__law_due_apart) := ⟨rfl, rfl, rfl, by decide +kernel, rfl, by decide +kernel, by decide +kernel⟩
abbrev s__law_due : Stmt := top 52
abbrev N__law_due : List Str := ["_law_primes_here", "_law_a", "_law_rows_here", "_law_thing", "_law_x", "_law_shown", "_law_whole", "_law_e", "_law_y"]
theorem sc__law_due : FnScope N__law_due ["_law_primes_here", "_law_a", "_law_rows_here", "_law_thing"] (defScope s__law_due) := ⟨rfl, rfl, rfl, by decide +kernel, rfl, by decide +kernel, by decide +kernel⟩
abbrev s__law_turned : Stmt := top 53
abbrev N__law_turned : List Str := ["_law_thing", "_law_many", "_law_x", "_law_shown"]
theorem sc__law_turned : FnScope N__law_turned ["_law_thing", "_law_many"] (defScope s__law_turned) := ⟨rfl, rfl, rfl, by decide +kernel, rfl, by decide +kernel, by decide +kernel⟩
abbrev s__law_by_six : Stmt := top 54
abbrev N__law_by_six : List Str := ["_law_many", "_law_papers", "_law_p"]
theorem sc__law_by_six : FnScope N__law_by_six ["_law_many"] (defScope s__law_by_six) := ⟨rfl, rfl, rfl, by decide +kernel, rfl, by decide +kernel, by decide +kernel⟩
abbrev s__law_bent_papers : Stmt := top 55
abbrev N__law_bent_papers : List Str := ["_law_papers", "_law_way", "_law_at", "_law_one", "_law_low", "_law_some"]
theorem sc__law_bent_papers : FnScope N__law_bent_papers ["_law_papers", "_law_way", "_law_at"] (defScope s__law_bent_papers) := ⟨rfl, rfl, rfl, by decide +kernel, rfl, by decide +kernel, by decide +kernel⟩
abbrev s__law_any_apart : Stmt := top 56
abbrev N__law_any_apart : List Str := ["_law_rows_here", "_law_state_here", "_law_j", "_law_i", "_law_one", "_law_other"]
theorem sc__law_any_apart : FnScope N__law_any_apart ["_law_rows_here", "_law_state_here"] (defScope s__law_any_apart) := ⟨rfl, rfl, rfl, by decide +kernel, rfl, by decide +kernel, by decide +kernel⟩
abbrev s__law_none_right : Stmt := top 57
abbrev N__law_none_right : List Str := ["_law_papers", "_law_b", "_law_a", "_law_rows_here", "_law_n", "_law_e", "_law_thing"]
theorem sc__law_none_right : FnScope N__law_none_right ["_law_papers", "_law_b", "_law_a", "_law_rows_here"] (defScope s__law_none_right) := ⟨rfl, rfl, rfl, by decide +kernel, rfl, by decide +kernel, by decide +kernel⟩
abbrev s__law_apart_right : Stmt := top 58
abbrev N__law_apart_right : List Str := ["_law_papers", "_law_primes_here", "_law_b", "_law_a", "_law_rows_here", "_law_state_here", "_law_thing", "_law_told", "_law_e", "_law_y"]
theorem sc__law_apart_right : FnScope N__law_apart_right ["_law_papers", "_law_primes_here", "_law_b", "_law_a", "_law_rows_here", "_law_state_here"] (defScope s__law_apart_right) := ⟨rfl, rfl, rfl, by decide +kernel, rfl, by decide +kernel, by decide +kernel⟩
abbrev s_law : Stmt := top 59
abbrev N_law : List Str := ["_law_script", "_law_cell", "_law_state_here", "_law_primes_here", "_law_papers", "_law_b", "_law_a", "_law_thing", "_law_due_here", "_law_rows_here", "_law_made_here", "_law_back", "_law_handed", "_law_told", "_law_others", "_law_p"]
theorem sc_law : FnScope N_law ["_law_script"] (defScope s_law) := ⟨rfl, rfl, rfl, by decide +kernel, rfl, by decide +kernel, by decide +kernel⟩
abbrev s_init_NoInverse : Stmt := inClass (top 2) 0
theorem sc_init_NoInverse : FnScope ["self", "divisor"] ["self", "divisor"] (defScope s_init_NoInverse) := ⟨rfl, rfl, rfl, by decide +kernel, rfl, by decide +kernel, by decide +kernel⟩
def fn : List He5.DefA := [⟨fun K => He.ga K "divisor", "divisor", "divisor", defArgs s_divisor, defBody s_divisor, defScope s_divisor, [], []⟩,
  ⟨fun K => He.ga K "inverse", "inverse", "inverse", defArgs s_inverse, defBody s_inverse, defScope s_inverse, [], []⟩,
  ⟨fun K => He.ga K "power", "power", "power", defArgs s_power, defBody s_power, defScope s_power, [], []⟩,
  ⟨fun K => He.ga K "is_whole", "is_whole", "is_whole", defArgs s_is_whole, defBody s_is_whole, defScope s_is_whole, [], []⟩,
  ⟨fun K => He.ga K "is_row_of", "is_row_of", "is_row_of", defArgs s_is_row_of, defBody s_is_row_of, defScope s_is_row_of, [], []⟩,
  ⟨fun K => He.ga K "are_papers", "are_papers", "are_papers", defArgs s_are_papers, defBody s_are_papers, defScope s_are_papers, [], []⟩,
  ⟨fun K => He.ga K "comes_to", "comes_to", "comes_to", defArgs s_comes_to, defBody s_comes_to, defScope s_comes_to, [], []⟩,
  ⟨fun K => He.ga K "is_parting_paper", "is_parting_paper", "is_parting_paper", defArgs s_is_parting_paper, defBody s_is_parting_paper, defScope s_is_parting_paper, [], []⟩,
  ⟨fun K => He.ga K "is_prime_paper", "is_prime_paper", "is_prime_paper", defArgs s_is_prime_paper, defBody s_is_prime_paper, defScope s_is_prime_paper, [], []⟩,
  ⟨fun K => He.ga K "is_order", "is_order", "is_order", defArgs s_is_order, defBody s_is_order, defScope s_is_order, [], []⟩,
  ⟨fun K => He.ga K "are_wholes", "are_wholes", "are_wholes", defArgs s_are_wholes, defBody s_are_wholes, defScope s_are_wholes, [], []⟩,
  ⟨fun K => He.ga K "digits_in", "digits_in", "digits_in", defArgs s_digits_in, defBody s_digits_in, defScope s_digits_in, [], []⟩,
  ⟨fun K => He.ga K "are_digits", "are_digits", "are_digits", defArgs s_are_digits, defBody s_are_digits, defScope s_are_digits, [], []⟩,
  ⟨fun K => He.ga K "shows_which", "shows_which", "shows_which", defArgs s_shows_which, defBody s_shows_which, defScope s_shows_which, [], []⟩,
  ⟨fun K => He.ga K "are_primes", "are_primes", "are_primes", defArgs s_are_primes, defBody s_are_primes, defScope s_are_primes, [], []⟩,
  ⟨fun K => He.ga K "is_named", "is_named", "is_named", defArgs s_is_named, defBody s_is_named, defScope s_is_named, [], []⟩,
  ⟨fun K => He.ga K "is_below", "is_below", "is_below", defArgs s_is_below, defBody s_is_below, defScope s_is_below, [], []⟩,
  ⟨fun K => He.ga K "is_power_by", "is_power_by", "is_power_by", defArgs s_is_power_by, defBody s_is_power_by, defScope s_is_power_by, [], []⟩,
  ⟨fun K => He.ga K "are_apart", "are_apart", "are_apart", defArgs s_are_apart, defBody s_are_apart, defScope s_are_apart, [], []⟩,
  ⟨fun K => He.ga K "is_least_by", "is_least_by", "is_least_by", defArgs s_is_least_by, defBody s_is_least_by, defScope s_is_least_by, [], []⟩,
  ⟨fun K => He.ga K "shows_which_of", "shows_which_of", "shows_which_of", defArgs s_shows_which_of, defBody s_shows_which_of, defScope s_shows_which_of, [], []⟩,
  ⟨fun K => He.ga K "_law_cell_at", "_law_cell_at", "_law_cell_at", defArgs s__law_cell_at, defBody s__law_cell_at, defScope s__law_cell_at, [], []⟩,
  ⟨fun K => He.ga K "_law_state", "_law_state", "_law_state", defArgs s__law_state, defBody s__law_state, defScope s__law_state, [], []⟩,
  ⟨fun K => He.ga K "_law_take", "_law_take", "_law_take", defArgs s__law_take, defBody s__law_take, defScope s__law_take, [], []⟩,
  ⟨fun K => He.ga K "_law_number", "_law_number", "_law_number", defArgs s__law_number, defBody s__law_number, defScope s__law_number, [], []⟩,
  ⟨fun K => He.ga K "_law_powers", "_law_powers", "_law_powers", defArgs s__law_powers, defBody s__law_powers, defScope s__law_powers, [], []⟩,
  ⟨fun K => He.ga K "_law_parted", "_law_parted", "_law_parted", defArgs s__law_parted, defBody s__law_parted, defScope s__law_parted, [], []⟩,
  ⟨fun K => He.ga K "_law_paper", "_law_paper", "_law_paper", defArgs s__law_paper, defBody s__law_paper, defScope s__law_paper, [], []⟩,
  ⟨fun K => He.ga K "_law_primes", "_law_primes", "_law_primes", defArgs s__law_primes, defBody s__law_primes, defScope s__law_primes, [], []⟩,
  ⟨fun K => He.ga K "_law_common", "_law_common", "_law_common", defArgs s__law_common, defBody s__law_common, defScope s__law_common, [], []⟩,
  ⟨fun K => He.ga K "_law_alike", "_law_alike", "_law_alike", defArgs s__law_alike, defBody s__law_alike, defScope s__law_alike, [], []⟩,
  ⟨fun K => He.ga K "_law_rows", "_law_rows", "_law_rows", defArgs s__law_rows, defBody s__law_rows, defScope s__law_rows, [], []⟩,
  ⟨fun K => He.ga K "_law_rest", "_law_rest", "_law_rest", defArgs s__law_rest, defBody s__law_rest, defScope s__law_rest, [], []⟩,
  ⟨fun K => He.ga K "_law_pairs", "_law_pairs", "_law_pairs", defArgs s__law_pairs, defBody s__law_pairs, defScope s__law_pairs, [], []⟩,
  ⟨fun K => He.ga K "_law_made", "_law_made", "_law_made", defArgs s__law_made, defBody s__law_made, defScope s__law_made, [], []⟩,
  ⟨fun K => He.ga K "_law_bent_shown", "_law_bent_shown", "_law_bent_shown", defArgs s__law_bent_shown, defBody s__law_bent_shown, defScope s__law_bent_shown, [], []⟩,
  ⟨fun K => He.ga K "_law_bent", "_law_bent", "_law_bent", defArgs s__law_bent, defBody s__law_bent, defScope s__law_bent, [], []⟩,
  ⟨fun K => He.ga K "_law_is_whole", "_law_is_whole", "_law_is_whole", defArgs s__law_is_whole, defBody s__law_is_whole, defScope s__law_is_whole, [], []⟩,
  ⟨fun K => He.ga K "_law_is_row", "_law_is_row", "_law_is_row", defArgs s__law_is_row, defBody s__law_is_row, defScope s__law_is_row, [], []⟩,
  ⟨fun K => He.ga K "_law_are_rows", "_law_are_rows", "_law_are_rows", defArgs s__law_are_rows, defBody s__law_are_rows, defScope s__law_are_rows, [], []⟩,
  ⟨fun K => He.ga K "_law_due_none", "_law_due_none", "_law_due_none", defArgs s__law_due_none, defBody s__law_due_none, defScope s__law_due_none, [], []⟩,
  ⟨fun K => He.ga K "_law_due_apart", "_law_due_apart", "_law_due_apart", defArgs s__law_due_apart, defBody s__law_due_apart, defScope s__law_due_apart, [], []⟩,
  ⟨fun K => He.ga K "_law_due", "_law_due", "_law_due", defArgs s__law_due, defBody s__law_due, defScope s__law_due, [], []⟩,
  ⟨fun K => He.ga K "_law_turned", "_law_turned", "_law_turned", defArgs s__law_turned, defBody s__law_turned, defScope s__law_turned, [], []⟩,
  ⟨fun K => He.ga K "_law_by_six", "_law_by_six", "_law_by_six", defArgs s__law_by_six, defBody s__law_by_six, defScope s__law_by_six, [], []⟩,
  ⟨fun K => He.ga K "_law_bent_papers", "_law_bent_papers", "_law_bent_papers", defArgs s__law_bent_papers, defBody s__law_bent_papers, defScope s__law_bent_papers, [], []⟩,
  ⟨fun K => He.ga K "_law_any_apart", "_law_any_apart", "_law_any_apart", defArgs s__law_any_apart, defBody s__law_any_apart, defScope s__law_any_apart, [], []⟩,
  ⟨fun K => He.ga K "_law_none_right", "_law_none_right", "_law_none_right", defArgs s__law_none_right, defBody s__law_none_right, defScope s__law_none_right, [], []⟩,
  ⟨fun K => He.ga K "_law_apart_right", "_law_apart_right", "_law_apart_right", defArgs s__law_apart_right, defBody s__law_apart_right, defScope s__law_apart_right, [], []⟩,
  ⟨fun K => He.ga K "law", "law", "law", defArgs s_law, defBody s_law, defScope s_law, [], []⟩,
  ⟨fun K => He.ma K (He.ga K "NoInverse") "__init__", "__init__", "NoInverse.__init__", defArgs s_init_NoInverse, defBody s_init_NoInverse, defScope s_init_NoInverse, [], []⟩]
def fa : List FB := [fun K => (He.Fa.glo "divisor").ok K, fun K => (He.Fa.glo "inverse").ok K, fun K => (He.Fa.glo "power").ok K, fun K => (He.Fa.glo "is_whole").ok K, fun K => (He.Fa.glo "is_row_of").ok K, fun K => (He.Fa.glo "are_papers").ok K, fun K => (He.Fa.glo "comes_to").ok K, fun K => (He.Fa.glo "is_parting_paper").ok K, fun K => (He.Fa.glo "is_prime_paper").ok K, fun K => (He.Fa.glo "is_order").ok K, fun K => (He.Fa.glo "are_wholes").ok K, fun K => (He.Fa.glo "digits_in").ok K, fun K => (He.Fa.glo "are_digits").ok K, fun K => (He.Fa.glo "shows_which").ok K, fun K => (He.Fa.glo "are_primes").ok K, fun K => (He.Fa.glo "is_named").ok K, fun K => (He.Fa.glo "is_below").ok K, fun K => (He.Fa.glo "is_power_by").ok K, fun K => (He.Fa.glo "are_apart").ok K, fun K => (He.Fa.glo "is_least_by").ok K, fun K => (He.Fa.glo "shows_which_of").ok K, fun K => (He.Fa.glo "_law_cell_at").ok K, fun K => (He.Fa.glo "_law_state").ok K, fun K => (He.Fa.glo "_law_take").ok K, fun K => (He.Fa.glo "_law_number").ok K, fun K => (He.Fa.glo "_law_powers").ok K, fun K => (He.Fa.glo "_law_parted").ok K, fun K => (He.Fa.glo "_law_paper").ok K, fun K => (He.Fa.glo "_law_primes").ok K, fun K => (He.Fa.glo "_law_common").ok K, fun K => (He.Fa.glo "_law_alike").ok K, fun K => (He.Fa.glo "_law_rows").ok K, fun K => (He.Fa.glo "_law_rest").ok K, fun K => (He.Fa.glo "_law_pairs").ok K, fun K => (He.Fa.glo "_law_made").ok K, fun K => (He.Fa.glo "_law_bent_shown").ok K, fun K => (He.Fa.glo "_law_bent").ok K, fun K => (He.Fa.glo "_law_is_whole").ok K, fun K => (He.Fa.glo "_law_is_row").ok K, fun K => (He.Fa.glo "_law_are_rows").ok K, fun K => (He.Fa.glo "_law_due_none").ok K, fun K => (He.Fa.glo "_law_due_apart").ok K, fun K => (He.Fa.glo "_law_due").ok K, fun K => (He.Fa.glo "_law_turned").ok K, fun K => (He.Fa.glo "_law_by_six").ok K, fun K => (He.Fa.glo "_law_bent_papers").ok K, fun K => (He.Fa.glo "_law_any_apart").ok K, fun K => (He.Fa.glo "_law_none_right").ok K, fun K => (He.Fa.glo "_law_apart_right").ok K, fun K => (He.Fa.glo "law").ok K, fun K => (He.Fa.glo "PrimeError").ok K, fun K => (He.Fa.glo "NoInverse").ok K, fun K => (He.Fa.free "isinstance").ok K, fun K => (He.Fa.free "int").ok K, fun K => (He.Fa.free "bool").ok K, fun K => (He.Fa.free "tuple").ok K, fun K => (He.Fa.free "len").ok K, fun K => (He.Fa.free "range").ok K, fun K => (He.Fa.free "any").ok K, fun K => (He.Fa.free "all").ok K, fun K => (He.Fa.free "list").ok K, fun K => (He.Fa.free "zip").ok K, fun K => (He.Fa.free "sorted").ok K, fun K => (He.Fa.int "MOST_PRIMES" 5).ok K, fun K => xinB "NoInverse" "divisor" K, fun K => baseB (He.ga K "PrimeError") K, fun K => (He.Fa.exc "PrimeError").ok K]
structure Txt (K : PySem.W.Frag) (mg : Str → Option Value) : Prop where
  c : Told fa fn K
  gl : ∀ {x : Str}, (He.Fa.glo x).ok K = true → mg x = some (.ref (He.ga K x))
  fr : ∀ {x : Str}, (He.Fa.free x).ok K = true → mg x = none
  int_ok : ∀ {x : Str} {i : Int}, (He.Fa.int x i).ok K = true → ∃ t, mg x = some (.int i t)
section
variable {P : Program} {w : World} {K : PySem.W.Frag} {mg : Str → Option Value} {base : Heap}
theorem F0_divisor (T : Txt K mg) : ∃ fd, FnP K "divisor" s_divisor (He.ga K "divisor") fd := T.c.dfn 0 rfl
noncomputable def fd_divisor (T : Txt K mg) : FuncData := (F0_divisor T).choose
theorem F_divisor (T : Txt K mg) : FnP K "divisor" s_divisor (He.ga K "divisor") (fd_divisor T) := (F0_divisor T).choose_spec
theorem g_divisor (T : Txt K mg) : mg "divisor" = some (.ref (He.ga K "divisor")) := T.gl (T.c.fact 0 rfl)
theorem kp_divisor (T : Txt K mg) : PySem.W.keepIn K (.ref (He.ga K "divisor")) = true := (F_divisor T).kp
theorem B_divisor (T : Txt K mg) : Binds K (fd_divisor T) ["a", "b"] [] := (F_divisor T).bindsN fun _ _ _ _ _ _ us hl => match us, hl with | [_, _], _ => rfl
theorem F0_inverse (T : Txt K mg) : ∃ fd, FnP K "inverse" s_inverse (He.ga K "inverse") fd := T.c.dfn 1 rfl
noncomputable def fd_inverse (T : Txt K mg) : FuncData := (F0_inverse T).choose
theorem F_inverse (T : Txt K mg) : FnP K "inverse" s_inverse (He.ga K "inverse") (fd_inverse T) := (F0_inverse T).choose_spec
theorem g_inverse (T : Txt K mg) : mg "inverse" = some (.ref (He.ga K "inverse")) := T.gl (T.c.fact 1 rfl)
theorem kp_inverse (T : Txt K mg) : PySem.W.keepIn K (.ref (He.ga K "inverse")) = true := (F_inverse T).kp
theorem B_inverse (T : Txt K mg) : Binds K (fd_inverse T) ["n", "a"] [] := (F_inverse T).bindsN fun _ _ _ _ _ _ us hl => match us, hl with | [_, _], _ => rfl
theorem F0_power (T : Txt K mg) : ∃ fd, FnP K "power" s_power (He.ga K "power") fd := T.c.dfn 2 rfl
noncomputable def fd_power (T : Txt K mg) : FuncData := (F0_power T).choose
theorem F_power (T : Txt K mg) : FnP K "power" s_power (He.ga K "power") (fd_power T) := (F0_power T).choose_spec
theorem g_power (T : Txt K mg) : mg "power" = some (.ref (He.ga K "power")) := T.gl (T.c.fact 2 rfl)
theorem kp_power (T : Txt K mg) : PySem.W.keepIn K (.ref (He.ga K "power")) = true := (F_power T).kp
theorem B_power (T : Txt K mg) : Binds K (fd_power T) ["n", "a", "e"] [] := (F_power T).bindsN fun _ _ _ _ _ _ us hl => match us, hl with | [_, _, _], _ => rfl
theorem F0_is_whole (T : Txt K mg) : ∃ fd, FnP K "is_whole" s_is_whole (He.ga K "is_whole") fd := T.c.dfn 3 rfl
noncomputable def fd_is_whole (T : Txt K mg) : FuncData := (F0_is_whole T).choose
theorem F_is_whole (T : Txt K mg) : FnP K "is_whole" s_is_whole (He.ga K "is_whole") (fd_is_whole T) := (F0_is_whole T).choose_spec
theorem g_is_whole (T : Txt K mg) : mg "is_whole" = some (.ref (He.ga K "is_whole")) := T.gl (T.c.fact 3 rfl)
theorem kp_is_whole (T : Txt K mg) : PySem.W.keepIn K (.ref (He.ga K "is_whole")) = true := (F_is_whole T).kp
theorem B_is_whole (T : Txt K mg) : Binds K (fd_is_whole T) ["thing", "least"] [] := (F_is_whole T).bindsN fun _ _ _ _ _ _ us hl => match us, hl with | [_, _], _ => rfl
theorem F0_is_row_of (T : Txt K mg) : ∃ fd, FnP K "is_row_of" s_is_row_of (He.ga K "is_row_of") fd := T.c.dfn 4 rfl
noncomputable def fd_is_row_of (T : Txt K mg) : FuncData := (F0_is_row_of T).choose
theorem F_is_row_of (T : Txt K mg) : FnP K "is_row_of" s_is_row_of (He.ga K "is_row_of") (fd_is_row_of T) := (F0_is_row_of T).choose_spec
theorem g_is_row_of (T : Txt K mg) : mg "is_row_of" = some (.ref (He.ga K "is_row_of")) := T.gl (T.c.fact 4 rfl)
theorem kp_is_row_of (T : Txt K mg) : PySem.W.keepIn K (.ref (He.ga K "is_row_of")) = true := (F_is_row_of T).kp
theorem B_is_row_of (T : Txt K mg) : Binds K (fd_is_row_of T) ["thing", "many"] [] := (F_is_row_of T).bindsN fun _ _ _ _ _ _ us hl => match us, hl with | [_, _], _ => rfl
theorem F0_are_papers (T : Txt K mg) : ∃ fd, FnP K "are_papers" s_are_papers (He.ga K "are_papers") fd := T.c.dfn 5 rfl
noncomputable def fd_are_papers (T : Txt K mg) : FuncData := (F0_are_papers T).choose
theorem F_are_papers (T : Txt K mg) : FnP K "are_papers" s_are_papers (He.ga K "are_papers") (fd_are_papers T) := (F0_are_papers T).choose_spec
theorem g_are_papers (T : Txt K mg) : mg "are_papers" = some (.ref (He.ga K "are_papers")) := T.gl (T.c.fact 5 rfl)
theorem kp_are_papers (T : Txt K mg) : PySem.W.keepIn K (.ref (He.ga K "are_papers")) = true := (F_are_papers T).kp
theorem B_are_papers (T : Txt K mg) : Binds K (fd_are_papers T) ["things", "many"] [] := (F_are_papers T).bindsN fun _ _ _ _ _ _ us hl => match us, hl with | [_, _], _ => rfl
theorem F0_comes_to (T : Txt K mg) : ∃ fd, FnP K "comes_to" s_comes_to (He.ga K "comes_to") fd := T.c.dfn 6 rfl
noncomputable def fd_comes_to (T : Txt K mg) : FuncData := (F0_comes_to T).choose
theorem F_comes_to (T : Txt K mg) : FnP K "comes_to" s_comes_to (He.ga K "comes_to") (fd_comes_to T) := (F0_comes_to T).choose_spec
theorem g_comes_to (T : Txt K mg) : mg "comes_to" = some (.ref (He.ga K "comes_to")) := T.gl (T.c.fact 6 rfl)
theorem kp_comes_to (T : Txt K mg) : PySem.W.keepIn K (.ref (He.ga K "comes_to")) = true := (F_comes_to T).kp
theorem B_comes_to (T : Txt K mg) : Binds K (fd_comes_to T) ["things", "n"] [] := (F_comes_to T).bindsN fun _ _ _ _ _ _ us hl => match us, hl with | [_, _], _ => rfl
theorem F0_is_parting_paper (T : Txt K mg) : ∃ fd, FnP K "is_parting_paper" s_is_parting_paper (He.ga K "is_parting_paper") fd := T.c.dfn 7 rfl
noncomputable def fd_is_parting_paper (T : Txt K mg) : FuncData := (F0_is_parting_paper T).choose
theorem F_is_parting_paper (T : Txt K mg) : FnP K "is_parting_paper" s_is_parting_paper (He.ga K "is_parting_paper") (fd_is_parting_paper T) := (F0_is_parting_paper T).choose_spec
theorem g_is_parting_paper (T : Txt K mg) : mg "is_parting_paper" = some (.ref (He.ga K "is_parting_paper")) := T.gl (T.c.fact 7 rfl)
theorem kp_is_parting_paper (T : Txt K mg) : PySem.W.keepIn K (.ref (He.ga K "is_parting_paper")) = true := (F_is_parting_paper T).kp
theorem B_is_parting_paper (T : Txt K mg) : Binds K (fd_is_parting_paper T) ["n", "thing"] [] := (F_is_parting_paper T).bindsN fun _ _ _ _ _ _ us hl => match us, hl with | [_, _], _ => rfl
theorem F0_is_prime_paper (T : Txt K mg) : ∃ fd, FnP K "is_prime_paper" s_is_prime_paper (He.ga K "is_prime_paper") fd := T.c.dfn 8 rfl
noncomputable def fd_is_prime_paper (T : Txt K mg) : FuncData := (F0_is_prime_paper T).choose
theorem F_is_prime_paper (T : Txt K mg) : FnP K "is_prime_paper" s_is_prime_paper (He.ga K "is_prime_paper") (fd_is_prime_paper T) := (F0_is_prime_paper T).choose_spec
theorem g_is_prime_paper (T : Txt K mg) : mg "is_prime_paper" = some (.ref (He.ga K "is_prime_paper")) := T.gl (T.c.fact 8 rfl)
theorem kp_is_prime_paper (T : Txt K mg) : PySem.W.keepIn K (.ref (He.ga K "is_prime_paper")) = true := (F_is_prime_paper T).kp
theorem B_is_prime_paper (T : Txt K mg) : Binds K (fd_is_prime_paper T) ["thing"] [] := (F_is_prime_paper T).bindsN fun _ _ _ _ _ _ us hl => match us, hl with | [_], _ => rfl
theorem F0_is_order (T : Txt K mg) : ∃ fd, FnP K "is_order" s_is_order (He.ga K "is_order") fd := T.c.dfn 9 rfl
noncomputable def fd_is_order (T : Txt K mg) : FuncData := (F0_is_order T).choose
theorem F_is_order (T : Txt K mg) : FnP K "is_order" s_is_order (He.ga K "is_order") (fd_is_order T) := (F0_is_order T).choose_spec
theorem g_is_order (T : Txt K mg) : mg "is_order" = some (.ref (He.ga K "is_order")) := T.gl (T.c.fact 9 rfl)
theorem kp_is_order (T : Txt K mg) : PySem.W.keepIn K (.ref (He.ga K "is_order")) = true := (F_is_order T).kp
theorem B_is_order (T : Txt K mg) : Binds K (fd_is_order T) ["paper", "a", "e"] [] := (F_is_order T).bindsN fun _ _ _ _ _ _ us hl => match us, hl with | [_, _, _], _ => rfl
theorem F0_are_wholes (T : Txt K mg) : ∃ fd, FnP K "are_wholes" s_are_wholes (He.ga K "are_wholes") fd := T.c.dfn 10 rfl
noncomputable def fd_are_wholes (T : Txt K mg) : FuncData := (F0_are_wholes T).choose
theorem F_are_wholes (T : Txt K mg) : FnP K "are_wholes" s_are_wholes (He.ga K "are_wholes") (fd_are_wholes T) := (F0_are_wholes T).choose_spec
theorem g_are_wholes (T : Txt K mg) : mg "are_wholes" = some (.ref (He.ga K "are_wholes")) := T.gl (T.c.fact 10 rfl)
theorem kp_are_wholes (T : Txt K mg) : PySem.W.keepIn K (.ref (He.ga K "are_wholes")) = true := (F_are_wholes T).kp
theorem B_are_wholes (T : Txt K mg) : Binds K (fd_are_wholes T) ["things", "least"] [] := (F_are_wholes T).bindsN fun _ _ _ _ _ _ us hl => match us, hl with | [_, _], _ => rfl
theorem F0_digits_in (T : Txt K mg) : ∃ fd, FnP K "digits_in" s_digits_in (He.ga K "digits_in") fd := T.c.dfn 11 rfl
noncomputable def fd_digits_in (T : Txt K mg) : FuncData := (F0_digits_in T).choose
theorem F_digits_in (T : Txt K mg) : FnP K "digits_in" s_digits_in (He.ga K "digits_in") (fd_digits_in T) := (F0_digits_in T).choose_spec
theorem g_digits_in (T : Txt K mg) : mg "digits_in" = some (.ref (He.ga K "digits_in")) := T.gl (T.c.fact 11 rfl)
theorem kp_digits_in (T : Txt K mg) : PySem.W.keepIn K (.ref (He.ga K "digits_in")) = true := (F_digits_in T).kp
theorem B_digits_in (T : Txt K mg) : Binds K (fd_digits_in T) ["x", "q", "e"] [] := (F_digits_in T).bindsN fun _ _ _ _ _ _ us hl => match us, hl with | [_, _, _], _ => rfl
theorem F0_are_digits (T : Txt K mg) : ∃ fd, FnP K "are_digits" s_are_digits (He.ga K "are_digits") fd := T.c.dfn 12 rfl
noncomputable def fd_are_digits (T : Txt K mg) : FuncData := (F0_are_digits T).choose
theorem F_are_digits (T : Txt K mg) : FnP K "are_digits" s_are_digits (He.ga K "are_digits") (fd_are_digits T) := (F0_are_digits T).choose_spec
theorem g_are_digits (T : Txt K mg) : mg "are_digits" = some (.ref (He.ga K "are_digits")) := T.gl (T.c.fact 12 rfl)
theorem kp_are_digits (T : Txt K mg) : PySem.W.keepIn K (.ref (He.ga K "are_digits")) = true := (F_are_digits T).kp
theorem B_are_digits (T : Txt K mg) : Binds K (fd_are_digits T) ["paper", "e", "x", "parts"] [] := (F_are_digits T).bindsN fun _ _ _ _ _ _ us hl => match us, hl with | [_, _, _, _], _ => rfl
theorem F0_shows_which (T : Txt K mg) : ∃ fd, FnP K "shows_which" s_shows_which (He.ga K "shows_which") fd := T.c.dfn 13 rfl
noncomputable def fd_shows_which (T : Txt K mg) : FuncData := (F0_shows_which T).choose
theorem F_shows_which (T : Txt K mg) : FnP K "shows_which" s_shows_which (He.ga K "shows_which") (fd_shows_which T) := (F0_shows_which T).choose_spec
theorem g_shows_which (T : Txt K mg) : mg "shows_which" = some (.ref (He.ga K "shows_which")) := T.gl (T.c.fact 13 rfl)
theorem kp_shows_which (T : Txt K mg) : PySem.W.keepIn K (.ref (He.ga K "shows_which")) = true := (F_shows_which T).kp
theorem B_shows_which (T : Txt K mg) : Binds K (fd_shows_which T) ["paper", "b", "a", "thing"] [] := (F_shows_which T).bindsN fun _ _ _ _ _ _ us hl => match us, hl with | [_, _, _, _], _ => rfl
theorem F0_are_primes (T : Txt K mg) : ∃ fd, FnP K "are_primes" s_are_primes (He.ga K "are_primes") fd := T.c.dfn 14 rfl
noncomputable def fd_are_primes (T : Txt K mg) : FuncData := (F0_are_primes T).choose
theorem F_are_primes (T : Txt K mg) : FnP K "are_primes" s_are_primes (He.ga K "are_primes") (fd_are_primes T) := (F0_are_primes T).choose_spec
theorem g_are_primes (T : Txt K mg) : mg "are_primes" = some (.ref (He.ga K "are_primes")) := T.gl (T.c.fact 14 rfl)
theorem kp_are_primes (T : Txt K mg) : PySem.W.keepIn K (.ref (He.ga K "are_primes")) = true := (F_are_primes T).kp
theorem B_are_primes (T : Txt K mg) : Binds K (fd_are_primes T) ["things"] [] := (F_are_primes T).bindsN fun _ _ _ _ _ _ us hl => match us, hl with | [_], _ => rfl
theorem F0_is_named (T : Txt K mg) : ∃ fd, FnP K "is_named" s_is_named (He.ga K "is_named") fd := T.c.dfn 15 rfl
noncomputable def fd_is_named (T : Txt K mg) : FuncData := (F0_is_named T).choose
theorem F_is_named (T : Txt K mg) : FnP K "is_named" s_is_named (He.ga K "is_named") (fd_is_named T) := (F0_is_named T).choose_spec
theorem g_is_named (T : Txt K mg) : mg "is_named" = some (.ref (He.ga K "is_named")) := T.gl (T.c.fact 15 rfl)
theorem kp_is_named (T : Txt K mg) : PySem.W.keepIn K (.ref (He.ga K "is_named")) = true := (F_is_named T).kp
theorem B_is_named (T : Txt K mg) : Binds K (fd_is_named T) ["thing", "word", "many"] [] := (F_is_named T).bindsN fun _ _ _ _ _ _ us hl => match us, hl with | [_, _, _], _ => rfl
theorem F0_is_below (T : Txt K mg) : ∃ fd, FnP K "is_below" s_is_below (He.ga K "is_below") fd := T.c.dfn 16 rfl
noncomputable def fd_is_below (T : Txt K mg) : FuncData := (F0_is_below T).choose
theorem F_is_below (T : Txt K mg) : FnP K "is_below" s_is_below (He.ga K "is_below") (fd_is_below T) := (F0_is_below T).choose_spec
theorem g_is_below (T : Txt K mg) : mg "is_below" = some (.ref (He.ga K "is_below")) := T.gl (T.c.fact 16 rfl)
theorem kp_is_below (T : Txt K mg) : PySem.W.keepIn K (.ref (He.ga K "is_below")) = true := (F_is_below T).kp
theorem B_is_below (T : Txt K mg) : Binds K (fd_is_below T) ["thing", "bound"] [] := (F_is_below T).bindsN fun _ _ _ _ _ _ us hl => match us, hl with | [_, _], _ => rfl
theorem F0_is_power_by (T : Txt K mg) : ∃ fd, FnP K "is_power_by" s_is_power_by (He.ga K "is_power_by") fd := T.c.dfn 17 rfl
noncomputable def fd_is_power_by (T : Txt K mg) : FuncData := (F0_is_power_by T).choose
theorem F_is_power_by (T : Txt K mg) : FnP K "is_power_by" s_is_power_by (He.ga K "is_power_by") (fd_is_power_by T) := (F0_is_power_by T).choose_spec
theorem g_is_power_by (T : Txt K mg) : mg "is_power_by" = some (.ref (He.ga K "is_power_by")) := T.gl (T.c.fact 17 rfl)
theorem kp_is_power_by (T : Txt K mg) : PySem.W.keepIn K (.ref (He.ga K "is_power_by")) = true := (F_is_power_by T).kp
theorem B_is_power_by (T : Txt K mg) : Binds K (fd_is_power_by T) ["paper", "b", "a", "place"] [] := (F_is_power_by T).bindsN fun _ _ _ _ _ _ us hl => match us, hl with | [_, _, _, _], _ => rfl
theorem F0_are_apart (T : Txt K mg) : ∃ fd, FnP K "are_apart" s_are_apart (He.ga K "are_apart") fd := T.c.dfn 18 rfl
noncomputable def fd_are_apart (T : Txt K mg) : FuncData := (F0_are_apart T).choose
theorem F_are_apart (T : Txt K mg) : FnP K "are_apart" s_are_apart (He.ga K "are_apart") (fd_are_apart T) := (F0_are_apart T).choose_spec
theorem g_are_apart (T : Txt K mg) : mg "are_apart" = some (.ref (He.ga K "are_apart")) := T.gl (T.c.fact 18 rfl)
theorem kp_are_apart (T : Txt K mg) : PySem.W.keepIn K (.ref (He.ga K "are_apart")) = true := (F_are_apart T).kp
theorem B_are_apart (T : Txt K mg) : Binds K (fd_are_apart T) ["papers", "b", "a", "shown"] [] := (F_are_apart T).bindsN fun _ _ _ _ _ _ us hl => match us, hl with | [_, _, _, _], _ => rfl
theorem F0_is_least_by (T : Txt K mg) : ∃ fd, FnP K "is_least_by" s_is_least_by (He.ga K "is_least_by") fd := T.c.dfn 19 rfl
noncomputable def fd_is_least_by (T : Txt K mg) : FuncData := (F0_is_least_by T).choose
theorem F_is_least_by (T : Txt K mg) : FnP K "is_least_by" s_is_least_by (He.ga K "is_least_by") (fd_is_least_by T) := (F0_is_least_by T).choose_spec
theorem g_is_least_by (T : Txt K mg) : mg "is_least_by" = some (.ref (He.ga K "is_least_by")) := T.gl (T.c.fact 19 rfl)
theorem kp_is_least_by (T : Txt K mg) : PySem.W.keepIn K (.ref (He.ga K "is_least_by")) = true := (F_is_least_by T).kp
theorem B_is_least_by (T : Txt K mg) : Binds K (fd_is_least_by T) ["papers", "b", "a", "x", "rows"] [] := (F_is_least_by T).bindsN fun _ _ _ _ _ _ us hl => match us, hl with | [_, _, _, _, _], _ => rfl
theorem F0_shows_which_of (T : Txt K mg) : ∃ fd, FnP K "shows_which_of" s_shows_which_of (He.ga K "shows_which_of") fd := T.c.dfn 20 rfl
noncomputable def fd_shows_which_of (T : Txt K mg) : FuncData := (F0_shows_which_of T).choose
theorem F_shows_which_of (T : Txt K mg) : FnP K "shows_which_of" s_shows_which_of (He.ga K "shows_which_of") (fd_shows_which_of T) := (F0_shows_which_of T).choose_spec
theorem g_shows_which_of (T : Txt K mg) : mg "shows_which_of" = some (.ref (He.ga K "shows_which_of")) := T.gl (T.c.fact 20 rfl)
theorem kp_shows_which_of (T : Txt K mg) : PySem.W.keepIn K (.ref (He.ga K "shows_which_of")) = true := (F_shows_which_of T).kp
theorem B_shows_which_of (T : Txt K mg) : Binds K (fd_shows_which_of T) ["papers", "b", "a", "thing"] [] := (F_shows_which_of T).bindsN fun _ _ _ _ _ _ us hl => match us, hl with | [_, _, _, _], _ => rfl
theorem F0__law_cell_at (T : Txt K mg) : ∃ fd, FnP K "_law_cell_at" s__law_cell_at (He.ga K "_law_cell_at") fd := T.c.dfn 21 rfl
noncomputable def fd__law_cell_at (T : Txt K mg) : FuncData := (F0__law_cell_at T).choose
theorem F__law_cell_at (T : Txt K mg) : FnP K "_law_cell_at" s__law_cell_at (He.ga K "_law_cell_at") (fd__law_cell_at T) := (F0__law_cell_at T).choose_spec
theorem g__law_cell_at (T : Txt K mg) : mg "_law_cell_at" = some (.ref (He.ga K "_law_cell_at")) := T.gl (T.c.fact 21 rfl)
theorem kp__law_cell_at (T : Txt K mg) : PySem.W.keepIn K (.ref (He.ga K "_law_cell_at")) = true := (F__law_cell_at T).kp
theorem B__law_cell_at (T : Txt K mg) : Binds K (fd__law_cell_at T) ["_law_script", "_law_k"] [] := (F__law_cell_at T).bindsN fun _ _ _ _ _ _ us hl => match us, hl with | [_, _], _ => rfl
theorem F0__law_state (T : Txt K mg) : ∃ fd, FnP K "_law_state" s__law_state (He.ga K "_law_state") fd := T.c.dfn 22 rfl
noncomputable def fd__law_state (T : Txt K mg) : FuncData := (F0__law_state T).choose
theorem F__law_state (T : Txt K mg) : FnP K "_law_state" s__law_state (He.ga K "_law_state") (fd__law_state T) := (F0__law_state T).choose_spec
theorem g__law_state (T : Txt K mg) : mg "_law_state" = some (.ref (He.ga K "_law_state")) := T.gl (T.c.fact 22 rfl)
theorem kp__law_state (T : Txt K mg) : PySem.W.keepIn K (.ref (He.ga K "_law_state")) = true := (F__law_state T).kp
theorem B__law_state (T : Txt K mg) : Binds K (fd__law_state T) ["_law_cell", "_law_free"] [] := (F__law_state T).bindsN fun _ _ _ _ _ _ us hl => match us, hl with | [_, _], _ => rfl
theorem F0__law_take (T : Txt K mg) : ∃ fd, FnP K "_law_take" s__law_take (He.ga K "_law_take") fd := T.c.dfn 23 rfl
noncomputable def fd__law_take (T : Txt K mg) : FuncData := (F0__law_take T).choose
theorem F__law_take (T : Txt K mg) : FnP K "_law_take" s__law_take (He.ga K "_law_take") (fd__law_take T) := (F0__law_take T).choose_spec
theorem g__law_take (T : Txt K mg) : mg "_law_take" = some (.ref (He.ga K "_law_take")) := T.gl (T.c.fact 23 rfl)
theorem kp__law_take (T : Txt K mg) : PySem.W.keepIn K (.ref (He.ga K "_law_take")) = true := (F__law_take T).kp
theorem B__law_take (T : Txt K mg) : Binds K (fd__law_take T) ["_law_state_here", "_law_many"] [] := (F__law_take T).bindsN fun _ _ _ _ _ _ us hl => match us, hl with | [_, _], _ => rfl
theorem F0__law_number (T : Txt K mg) : ∃ fd, FnP K "_law_number" s__law_number (He.ga K "_law_number") fd := T.c.dfn 24 rfl
noncomputable def fd__law_number (T : Txt K mg) : FuncData := (F0__law_number T).choose
theorem F__law_number (T : Txt K mg) : FnP K "_law_number" s__law_number (He.ga K "_law_number") (fd__law_number T) := (F0__law_number T).choose_spec
theorem g__law_number (T : Txt K mg) : mg "_law_number" = some (.ref (He.ga K "_law_number")) := T.gl (T.c.fact 24 rfl)
theorem kp__law_number (T : Txt K mg) : PySem.W.keepIn K (.ref (He.ga K "_law_number")) = true := (F__law_number T).kp
theorem B__law_number (T : Txt K mg) : Binds K (fd__law_number T) ["_law_state_here"] [] := (F__law_number T).bindsN fun _ _ _ _ _ _ us hl => match us, hl with | [_], _ => rfl
theorem F0__law_powers (T : Txt K mg) : ∃ fd, FnP K "_law_powers" s__law_powers (He.ga K "_law_powers") fd := T.c.dfn 25 rfl
noncomputable def fd__law_powers (T : Txt K mg) : FuncData := (F0__law_powers T).choose
theorem F__law_powers (T : Txt K mg) : FnP K "_law_powers" s__law_powers (He.ga K "_law_powers") (fd__law_powers T) := (F0__law_powers T).choose_spec
theorem g__law_powers (T : Txt K mg) : mg "_law_powers" = some (.ref (He.ga K "_law_powers")) := T.gl (T.c.fact 25 rfl)
theorem kp__law_powers (T : Txt K mg) : PySem.W.keepIn K (.ref (He.ga K "_law_powers")) = true := (F__law_powers T).kp
theorem B__law_powers (T : Txt K mg) : Binds K (fd__law_powers T) ["_law_p", "_law_b"] [] := (F__law_powers T).bindsN fun _ _ _ _ _ _ us hl => match us, hl with | [_, _], _ => rfl
theorem F0__law_parted (T : Txt K mg) : ∃ fd, FnP K "_law_parted" s__law_parted (He.ga K "_law_parted") fd := T.c.dfn 26 rfl
noncomputable def fd__law_parted (T : Txt K mg) : FuncData := (F0__law_parted T).choose
theorem F__law_parted (T : Txt K mg) : FnP K "_law_parted" s__law_parted (He.ga K "_law_parted") (fd__law_parted T) := (F0__law_parted T).choose_spec
theorem g__law_parted (T : Txt K mg) : mg "_law_parted" = some (.ref (He.ga K "_law_parted")) := T.gl (T.c.fact 26 rfl)
theorem kp__law_parted (T : Txt K mg) : PySem.W.keepIn K (.ref (He.ga K "_law_parted")) = true := (F__law_parted T).kp
theorem B__law_parted (T : Txt K mg) : Binds K (fd__law_parted T) ["_law_n"] [] := (F__law_parted T).bindsN fun _ _ _ _ _ _ us hl => match us, hl with | [_], _ => rfl
theorem F0__law_paper (T : Txt K mg) : ∃ fd, FnP K "_law_paper" s__law_paper (He.ga K "_law_paper") fd := T.c.dfn 27 rfl
noncomputable def fd__law_paper (T : Txt K mg) : FuncData := (F0__law_paper T).choose
theorem F__law_paper (T : Txt K mg) : FnP K "_law_paper" s__law_paper (He.ga K "_law_paper") (fd__law_paper T) := (F0__law_paper T).choose_spec
theorem g__law_paper (T : Txt K mg) : mg "_law_paper" = some (.ref (He.ga K "_law_paper")) := T.gl (T.c.fact 27 rfl)
theorem kp__law_paper (T : Txt K mg) : PySem.W.keepIn K (.ref (He.ga K "_law_paper")) = true := (F__law_paper T).kp
theorem B__law_paper (T : Txt K mg) : Binds K (fd__law_paper T) ["_law_p", "_law_at"] [] := (F__law_paper T).bindsN fun _ _ _ _ _ _ us hl => match us, hl with | [_, _], _ => rfl
theorem F0__law_primes (T : Txt K mg) : ∃ fd, FnP K "_law_primes" s__law_primes (He.ga K "_law_primes") fd := T.c.dfn 28 rfl
noncomputable def fd__law_primes (T : Txt K mg) : FuncData := (F0__law_primes T).choose
theorem F__law_primes (T : Txt K mg) : FnP K "_law_primes" s__law_primes (He.ga K "_law_primes") (fd__law_primes T) := (F0__law_primes T).choose_spec
theorem g__law_primes (T : Txt K mg) : mg "_law_primes" = some (.ref (He.ga K "_law_primes")) := T.gl (T.c.fact 28 rfl)
theorem kp__law_primes (T : Txt K mg) : PySem.W.keepIn K (.ref (He.ga K "_law_primes")) = true := (F__law_primes T).kp
theorem B__law_primes (T : Txt K mg) : Binds K (fd__law_primes T) ["_law_state_here"] [] := (F__law_primes T).bindsN fun _ _ _ _ _ _ us hl => match us, hl with | [_], _ => rfl
theorem F0__law_common (T : Txt K mg) : ∃ fd, FnP K "_law_common" s__law_common (He.ga K "_law_common") fd := T.c.dfn 29 rfl
noncomputable def fd__law_common (T : Txt K mg) : FuncData := (F0__law_common T).choose
theorem F__law_common (T : Txt K mg) : FnP K "_law_common" s__law_common (He.ga K "_law_common") (fd__law_common T) := (F0__law_common T).choose_spec
theorem g__law_common (T : Txt K mg) : mg "_law_common" = some (.ref (He.ga K "_law_common")) := T.gl (T.c.fact 29 rfl)
theorem kp__law_common (T : Txt K mg) : PySem.W.keepIn K (.ref (He.ga K "_law_common")) = true := (F__law_common T).kp
theorem B__law_common (T : Txt K mg) : Binds K (fd__law_common T) ["_law_one", "_law_other"] [] := (F__law_common T).bindsN fun _ _ _ _ _ _ us hl => match us, hl with | [_, _], _ => rfl
theorem F0__law_alike (T : Txt K mg) : ∃ fd, FnP K "_law_alike" s__law_alike (He.ga K "_law_alike") fd := T.c.dfn 30 rfl
noncomputable def fd__law_alike (T : Txt K mg) : FuncData := (F0__law_alike T).choose
theorem F__law_alike (T : Txt K mg) : FnP K "_law_alike" s__law_alike (He.ga K "_law_alike") (fd__law_alike T) := (F0__law_alike T).choose_spec
theorem g__law_alike (T : Txt K mg) : mg "_law_alike" = some (.ref (He.ga K "_law_alike")) := T.gl (T.c.fact 30 rfl)
theorem kp__law_alike (T : Txt K mg) : PySem.W.keepIn K (.ref (He.ga K "_law_alike")) = true := (F__law_alike T).kp
theorem B__law_alike (T : Txt K mg) : Binds K (fd__law_alike T) ["_law_primes_here", "_law_b", "_law_state_here"] [] := (F__law_alike T).bindsN fun _ _ _ _ _ _ us hl => match us, hl with | [_, _, _], _ => rfl
theorem F0__law_rows (T : Txt K mg) : ∃ fd, FnP K "_law_rows" s__law_rows (He.ga K "_law_rows") fd := T.c.dfn 31 rfl
noncomputable def fd__law_rows (T : Txt K mg) : FuncData := (F0__law_rows T).choose
theorem F__law_rows (T : Txt K mg) : FnP K "_law_rows" s__law_rows (He.ga K "_law_rows") (fd__law_rows T) := (F0__law_rows T).choose_spec
theorem g__law_rows (T : Txt K mg) : mg "_law_rows" = some (.ref (He.ga K "_law_rows")) := T.gl (T.c.fact 31 rfl)
theorem kp__law_rows (T : Txt K mg) : PySem.W.keepIn K (.ref (He.ga K "_law_rows")) = true := (F__law_rows T).kp
theorem B__law_rows (T : Txt K mg) : Binds K (fd__law_rows T) ["_law_primes_here", "_law_b", "_law_a"] [] := (F__law_rows T).bindsN fun _ _ _ _ _ _ us hl => match us, hl with | [_, _, _], _ => rfl
theorem F0__law_rest (T : Txt K mg) : ∃ fd, FnP K "_law_rest" s__law_rest (He.ga K "_law_rest") fd := T.c.dfn 32 rfl
noncomputable def fd__law_rest (T : Txt K mg) : FuncData := (F0__law_rest T).choose
theorem F__law_rest (T : Txt K mg) : FnP K "_law_rest" s__law_rest (He.ga K "_law_rest") (fd__law_rest T) := (F0__law_rest T).choose_spec
theorem g__law_rest (T : Txt K mg) : mg "_law_rest" = some (.ref (He.ga K "_law_rest")) := T.gl (T.c.fact 32 rfl)
theorem kp__law_rest (T : Txt K mg) : PySem.W.keepIn K (.ref (He.ga K "_law_rest")) = true := (F__law_rest T).kp
theorem B__law_rest (T : Txt K mg) : Binds K (fd__law_rest T) ["_law_p", "_law_a", "_law_e"] [] := (F__law_rest T).bindsN fun _ _ _ _ _ _ us hl => match us, hl with | [_, _, _], _ => rfl
theorem F0__law_pairs (T : Txt K mg) : ∃ fd, FnP K "_law_pairs" s__law_pairs (He.ga K "_law_pairs") fd := T.c.dfn 33 rfl
noncomputable def fd__law_pairs (T : Txt K mg) : FuncData := (F0__law_pairs T).choose
theorem F__law_pairs (T : Txt K mg) : FnP K "_law_pairs" s__law_pairs (He.ga K "_law_pairs") (fd__law_pairs T) := (F0__law_pairs T).choose_spec
theorem g__law_pairs (T : Txt K mg) : mg "_law_pairs" = some (.ref (He.ga K "_law_pairs")) := T.gl (T.c.fact 33 rfl)
theorem kp__law_pairs (T : Txt K mg) : PySem.W.keepIn K (.ref (He.ga K "_law_pairs")) = true := (F__law_pairs T).kp
theorem B__law_pairs (T : Txt K mg) : Binds K (fd__law_pairs T) ["_law_rows_here"] [] := (F__law_pairs T).bindsN fun _ _ _ _ _ _ us hl => match us, hl with | [_], _ => rfl
theorem F0__law_made (T : Txt K mg) : ∃ fd, FnP K "_law_made" s__law_made (He.ga K "_law_made") fd := T.c.dfn 34 rfl
noncomputable def fd__law_made (T : Txt K mg) : FuncData := (F0__law_made T).choose
theorem F__law_made (T : Txt K mg) : FnP K "_law_made" s__law_made (He.ga K "_law_made") (fd__law_made T) := (F0__law_made T).choose_spec
theorem g__law_made (T : Txt K mg) : mg "_law_made" = some (.ref (He.ga K "_law_made")) := T.gl (T.c.fact 34 rfl)
theorem kp__law_made (T : Txt K mg) : PySem.W.keepIn K (.ref (He.ga K "_law_made")) = true := (F__law_made T).kp
theorem B__law_made (T : Txt K mg) : Binds K (fd__law_made T) ["_law_primes_here", "_law_a", "_law_rows_here", "_law_state_here"] [] := (F__law_made T).bindsN fun _ _ _ _ _ _ us hl => match us, hl with | [_, _, _, _], _ => rfl
theorem F0__law_bent_shown (T : Txt K mg) : ∃ fd, FnP K "_law_bent_shown" s__law_bent_shown (He.ga K "_law_bent_shown") fd := T.c.dfn 35 rfl
noncomputable def fd__law_bent_shown (T : Txt K mg) : FuncData := (F0__law_bent_shown T).choose
theorem F__law_bent_shown (T : Txt K mg) : FnP K "_law_bent_shown" s__law_bent_shown (He.ga K "_law_bent_shown") (fd__law_bent_shown T) := (F0__law_bent_shown T).choose_spec
theorem g__law_bent_shown (T : Txt K mg) : mg "_law_bent_shown" = some (.ref (He.ga K "_law_bent_shown")) := T.gl (T.c.fact 35 rfl)
theorem kp__law_bent_shown (T : Txt K mg) : PySem.W.keepIn K (.ref (He.ga K "_law_bent_shown")) = true := (F__law_bent_shown T).kp
theorem B__law_bent_shown (T : Txt K mg) : Binds K (fd__law_bent_shown T) ["_law_shown", "_law_state_here"] [] := (F__law_bent_shown T).bindsN fun _ _ _ _ _ _ us hl => match us, hl with | [_, _], _ => rfl
theorem F0__law_bent (T : Txt K mg) : ∃ fd, FnP K "_law_bent" s__law_bent (He.ga K "_law_bent") fd := T.c.dfn 36 rfl
noncomputable def fd__law_bent (T : Txt K mg) : FuncData := (F0__law_bent T).choose
theorem F__law_bent (T : Txt K mg) : FnP K "_law_bent" s__law_bent (He.ga K "_law_bent") (fd__law_bent T) := (F0__law_bent T).choose_spec
theorem g__law_bent (T : Txt K mg) : mg "_law_bent" = some (.ref (He.ga K "_law_bent")) := T.gl (T.c.fact 36 rfl)
theorem kp__law_bent (T : Txt K mg) : PySem.W.keepIn K (.ref (He.ga K "_law_bent")) = true := (F__law_bent T).kp
theorem B__law_bent (T : Txt K mg) : Binds K (fd__law_bent T) ["_law_thing", "_law_rows_here", "_law_state_here"] [] := (F__law_bent T).bindsN fun _ _ _ _ _ _ us hl => match us, hl with | [_, _, _], _ => rfl
theorem F0__law_is_whole (T : Txt K mg) : ∃ fd, FnP K "_law_is_whole" s__law_is_whole (He.ga K "_law_is_whole") fd := T.c.dfn 37 rfl
noncomputable def fd__law_is_whole (T : Txt K mg) : FuncData := (F0__law_is_whole T).choose
theorem F__law_is_whole (T : Txt K mg) : FnP K "_law_is_whole" s__law_is_whole (He.ga K "_law_is_whole") (fd__law_is_whole T) := (F0__law_is_whole T).choose_spec
theorem g__law_is_whole (T : Txt K mg) : mg "_law_is_whole" = some (.ref (He.ga K "_law_is_whole")) := T.gl (T.c.fact 37 rfl)
theorem kp__law_is_whole (T : Txt K mg) : PySem.W.keepIn K (.ref (He.ga K "_law_is_whole")) = true := (F__law_is_whole T).kp
theorem B__law_is_whole (T : Txt K mg) : Binds K (fd__law_is_whole T) ["_law_thing"] [] := (F__law_is_whole T).bindsN fun _ _ _ _ _ _ us hl => match us, hl with | [_], _ => rfl
theorem F0__law_is_row (T : Txt K mg) : ∃ fd, FnP K "_law_is_row" s__law_is_row (He.ga K "_law_is_row") fd := T.c.dfn 38 rfl
noncomputable def fd__law_is_row (T : Txt K mg) : FuncData := (F0__law_is_row T).choose
theorem F__law_is_row (T : Txt K mg) : FnP K "_law_is_row" s__law_is_row (He.ga K "_law_is_row") (fd__law_is_row T) := (F0__law_is_row T).choose_spec
theorem g__law_is_row (T : Txt K mg) : mg "_law_is_row" = some (.ref (He.ga K "_law_is_row")) := T.gl (T.c.fact 38 rfl)
theorem kp__law_is_row (T : Txt K mg) : PySem.W.keepIn K (.ref (He.ga K "_law_is_row")) = true := (F__law_is_row T).kp
theorem B__law_is_row (T : Txt K mg) : Binds K (fd__law_is_row T) ["_law_row", "_law_due_here"] [] := (F__law_is_row T).bindsN fun _ _ _ _ _ _ us hl => match us, hl with | [_, _], _ => rfl
theorem F0__law_are_rows (T : Txt K mg) : ∃ fd, FnP K "_law_are_rows" s__law_are_rows (He.ga K "_law_are_rows") fd := T.c.dfn 39 rfl
noncomputable def fd__law_are_rows (T : Txt K mg) : FuncData := (F0__law_are_rows T).choose
theorem F__law_are_rows (T : Txt K mg) : FnP K "_law_are_rows" s__law_are_rows (He.ga K "_law_are_rows") (fd__law_are_rows T) := (F0__law_are_rows T).choose_spec
theorem g__law_are_rows (T : Txt K mg) : mg "_law_are_rows" = some (.ref (He.ga K "_law_are_rows")) := T.gl (T.c.fact 39 rfl)
theorem kp__law_are_rows (T : Txt K mg) : PySem.W.keepIn K (.ref (He.ga K "_law_are_rows")) = true := (F__law_are_rows T).kp
theorem B__law_are_rows (T : Txt K mg) : Binds K (fd__law_are_rows T) ["_law_found", "_law_rows_here"] [] := (F__law_are_rows T).bindsN fun _ _ _ _ _ _ us hl => match us, hl with | [_, _], _ => rfl
theorem F0__law_due_none (T : Txt K mg) : ∃ fd, FnP K "_law_due_none" s__law_due_none (He.ga K "_law_due_none") fd := T.c.dfn 40 rfl
noncomputable def fd__law_due_none (T : Txt K mg) : FuncData := (F0__law_due_none T).choose
theorem F__law_due_none (T : Txt K mg) : FnP K "_law_due_none" s__law_due_none (He.ga K "_law_due_none") (fd__law_due_none T) := (F0__law_due_none T).choose_spec
theorem g__law_due_none (T : Txt K mg) : mg "_law_due_none" = some (.ref (He.ga K "_law_due_none")) := T.gl (T.c.fact 40 rfl)
theorem kp__law_due_none (T : Txt K mg) : PySem.W.keepIn K (.ref (He.ga K "_law_due_none")) = true := (F__law_due_none T).kp
theorem B__law_due_none (T : Txt K mg) : Binds K (fd__law_due_none T) ["_law_primes_here", "_law_a", "_law_rows_here", "_law_shown"] [] := (F__law_due_none T).bindsN fun _ _ _ _ _ _ us hl => match us, hl with | [_, _, _, _], _ => rfl
theorem F0__law_due_apart (T : Txt K mg) : ∃ fd, FnP K "_law_due_apart" s__law_due_apart (He.ga K "_law_due_apart") fd := T.c.dfn 41 rfl
noncomputable def fd__law_due_apart (T : Txt K mg) : FuncData := (F0__law_due_apart T).choose
theorem F__law_due_apart (T : Txt K mg) : FnP K "_law_due_apart" s__law_due_apart (He.ga K "_law_due_apart") (fd__law_due_apart T) := (F0__law_due_apart T).choose_spec
theorem g__law_due_apart (T : Txt K mg) : mg "_law_due_apart" = some (.ref (He.ga K "_law_due_apart")) := T.gl (T.c.fact 41 rfl)
theorem kp__law_due_apart (T : Txt K mg) : PySem.W.keepIn K (.ref (He.ga K "_law_due_apart")) = true := (F__law_due_apart T).kp
theorem B__law_due_apart (T : Txt K mg) : Binds K (fd__law_due_apart T) ["_law_rows_here", "_law_shown"] [] := (F__law_due_apart T).bindsN fun _ _ _ _ _ _ us hl => match us, hl with | [_, _], _ => rfl
theorem F0__law_due (T : Txt K mg) : ∃ fd, FnP K "_law_due" s__law_due (He.ga K "_law_due") fd := T.c.dfn 42 rfl
noncomputable def fd__law_due (T : Txt K mg) : FuncData := (F0__law_due T).choose
theorem F__law_due (T : Txt K mg) : FnP K "_law_due" s__law_due (He.ga K "_law_due") (fd__law_due T) := (F0__law_due T).choose_spec
theorem g__law_due (T : Txt K mg) : mg "_law_due" = some (.ref (He.ga K "_law_due")) := T.gl (T.c.fact 42 rfl)
theorem kp__law_due (T : Txt K mg) : PySem.W.keepIn K (.ref (He.ga K "_law_due")) = true := (F__law_due T).kp
theorem B__law_due (T : Txt K mg) : Binds K (fd__law_due T) ["_law_primes_here", "_law_a", "_law_rows_here", "_law_thing"] [] := (F__law_due T).bindsN fun _ _ _ _ _ _ us hl => match us, hl with | [_, _, _, _], _ => rfl
theorem F0__law_turned (T : Txt K mg) : ∃ fd, FnP K "_law_turned" s__law_turned (He.ga K "_law_turned") fd := T.c.dfn 43 rfl
noncomputable def fd__law_turned (T : Txt K mg) : FuncData := (F0__law_turned T).choose
theorem F__law_turned (T : Txt K mg) : FnP K "_law_turned" s__law_turned (He.ga K "_law_turned") (fd__law_turned T) := (F0__law_turned T).choose_spec
theorem g__law_turned (T : Txt K mg) : mg "_law_turned" = some (.ref (He.ga K "_law_turned")) := T.gl (T.c.fact 43 rfl)
theorem kp__law_turned (T : Txt K mg) : PySem.W.keepIn K (.ref (He.ga K "_law_turned")) = true := (F__law_turned T).kp
theorem B__law_turned (T : Txt K mg) : Binds K (fd__law_turned T) ["_law_thing", "_law_many"] [] := (F__law_turned T).bindsN fun _ _ _ _ _ _ us hl => match us, hl with | [_, _], _ => rfl
theorem F0__law_by_six (T : Txt K mg) : ∃ fd, FnP K "_law_by_six" s__law_by_six (He.ga K "_law_by_six") fd := T.c.dfn 44 rfl
noncomputable def fd__law_by_six (T : Txt K mg) : FuncData := (F0__law_by_six T).choose
theorem F__law_by_six (T : Txt K mg) : FnP K "_law_by_six" s__law_by_six (He.ga K "_law_by_six") (fd__law_by_six T) := (F0__law_by_six T).choose_spec
theorem g__law_by_six (T : Txt K mg) : mg "_law_by_six" = some (.ref (He.ga K "_law_by_six")) := T.gl (T.c.fact 44 rfl)
theorem kp__law_by_six (T : Txt K mg) : PySem.W.keepIn K (.ref (He.ga K "_law_by_six")) = true := (F__law_by_six T).kp
theorem B__law_by_six (T : Txt K mg) : Binds K (fd__law_by_six T) ["_law_many"] [] := (F__law_by_six T).bindsN fun _ _ _ _ _ _ us hl => match us, hl with | [_], _ => rfl
theorem F0__law_bent_papers (T : Txt K mg) : ∃ fd, FnP K "_law_bent_papers" s__law_bent_papers (He.ga K "_law_bent_papers") fd := T.c.dfn 45 rfl
noncomputable def fd__law_bent_papers (T : Txt K mg) : FuncData := (F0__law_bent_papers T).choose
theorem F__law_bent_papers (T : Txt K mg) : FnP K "_law_bent_papers" s__law_bent_papers (He.ga K "_law_bent_papers") (fd__law_bent_papers T) := (F0__law_bent_papers T).choose_spec
theorem g__law_bent_papers (T : Txt K mg) : mg "_law_bent_papers" = some (.ref (He.ga K "_law_bent_papers")) := T.gl (T.c.fact 45 rfl)
theorem kp__law_bent_papers (T : Txt K mg) : PySem.W.keepIn K (.ref (He.ga K "_law_bent_papers")) = true := (F__law_bent_papers T).kp
theorem B__law_bent_papers (T : Txt K mg) : Binds K (fd__law_bent_papers T) ["_law_papers", "_law_way", "_law_at"] [] := (F__law_bent_papers T).bindsN fun _ _ _ _ _ _ us hl => match us, hl with | [_, _, _], _ => rfl
theorem F0__law_any_apart (T : Txt K mg) : ∃ fd, FnP K "_law_any_apart" s__law_any_apart (He.ga K "_law_any_apart") fd := T.c.dfn 46 rfl
noncomputable def fd__law_any_apart (T : Txt K mg) : FuncData := (F0__law_any_apart T).choose
theorem F__law_any_apart (T : Txt K mg) : FnP K "_law_any_apart" s__law_any_apart (He.ga K "_law_any_apart") (fd__law_any_apart T) := (F0__law_any_apart T).choose_spec
theorem g__law_any_apart (T : Txt K mg) : mg "_law_any_apart" = some (.ref (He.ga K "_law_any_apart")) := T.gl (T.c.fact 46 rfl)
theorem kp__law_any_apart (T : Txt K mg) : PySem.W.keepIn K (.ref (He.ga K "_law_any_apart")) = true := (F__law_any_apart T).kp
theorem B__law_any_apart (T : Txt K mg) : Binds K (fd__law_any_apart T) ["_law_rows_here", "_law_state_here"] [] := (F__law_any_apart T).bindsN fun _ _ _ _ _ _ us hl => match us, hl with | [_, _], _ => rfl
theorem F0__law_none_right (T : Txt K mg) : ∃ fd, FnP K "_law_none_right" s__law_none_right (He.ga K "_law_none_right") fd := T.c.dfn 47 rfl
noncomputable def fd__law_none_right (T : Txt K mg) : FuncData := (F0__law_none_right T).choose
theorem F__law_none_right (T : Txt K mg) : FnP K "_law_none_right" s__law_none_right (He.ga K "_law_none_right") (fd__law_none_right T) := (F0__law_none_right T).choose_spec
theorem g__law_none_right (T : Txt K mg) : mg "_law_none_right" = some (.ref (He.ga K "_law_none_right")) := T.gl (T.c.fact 47 rfl)
theorem kp__law_none_right (T : Txt K mg) : PySem.W.keepIn K (.ref (He.ga K "_law_none_right")) = true := (F__law_none_right T).kp
theorem B__law_none_right (T : Txt K mg) : Binds K (fd__law_none_right T) ["_law_papers", "_law_b", "_law_a", "_law_rows_here"] [] := (F__law_none_right T).bindsN fun _ _ _ _ _ _ us hl => match us, hl with | [_, _, _, _], _ => rfl
theorem F0__law_apart_right (T : Txt K mg) : ∃ fd, FnP K "_law_apart_right" s__law_apart_right (He.ga K "_law_apart_right") fd := T.c.dfn 48 rfl
noncomputable def fd__law_apart_right (T : Txt K mg) : FuncData := (F0__law_apart_right T).choose
theorem F__law_apart_right (T : Txt K mg) : FnP K "_law_apart_right" s__law_apart_right (He.ga K "_law_apart_right") (fd__law_apart_right T) := (F0__law_apart_right T).choose_spec
theorem g__law_apart_right (T : Txt K mg) : mg "_law_apart_right" = some (.ref (He.ga K "_law_apart_right")) := T.gl (T.c.fact 48 rfl)
theorem kp__law_apart_right (T : Txt K mg) : PySem.W.keepIn K (.ref (He.ga K "_law_apart_right")) = true := (F__law_apart_right T).kp
theorem B__law_apart_right (T : Txt K mg) : Binds K (fd__law_apart_right T) ["_law_papers", "_law_primes_here", "_law_b", "_law_a", "_law_rows_here", "_law_state_here"] [] := (F__law_apart_right T).bindsN fun _ _ _ _ _ _ us hl => match us, hl with | [_, _, _, _, _, _], _ => rfl
theorem F0_law (T : Txt K mg) : ∃ fd, FnP K "law" s_law (He.ga K "law") fd := T.c.dfn 49 rfl
noncomputable def fd_law (T : Txt K mg) : FuncData := (F0_law T).choose
theorem F_law (T : Txt K mg) : FnP K "law" s_law (He.ga K "law") (fd_law T) := (F0_law T).choose_spec
theorem g_law (T : Txt K mg) : mg "law" = some (.ref (He.ga K "law")) := T.gl (T.c.fact 49 rfl)
theorem kp_law (T : Txt K mg) : PySem.W.keepIn K (.ref (He.ga K "law")) = true := (F_law T).kp
theorem B_law (T : Txt K mg) : Binds K (fd_law T) ["_law_script"] [] := (F_law T).bindsN fun _ _ _ _ _ _ us hl => match us, hl with | [_], _ => rfl
theorem g_PrimeError (T : Txt K mg) : mg "PrimeError" = some (.ref (He.ga K "PrimeError")) := T.gl (T.c.fact 50 rfl)
theorem g_NoInverse (T : Txt K mg) : mg "NoInverse" = some (.ref (He.ga K "NoInverse")) := T.gl (T.c.fact 51 rfl)
theorem x_NoInverse (T : Txt K mg) : XIn K (He.ga K "NoInverse") (He.ma K (He.ga K "NoInverse") "__init__") "divisor" := xin_of (T.c.fact 64 rfl)
theorem F0_init_NoInverse (T : Txt K mg) : ∃ fd, FunD K "__init__" "NoInverse.__init__" (defArgs s_init_NoInverse) (defBody s_init_NoInverse) (defScope s_init_NoInverse) [] [] (He.ma K (He.ga K "NoInverse") "__init__") fd := T.c.dfn 50 rfl
noncomputable def fd_init_NoInverse (T : Txt K mg) : FuncData := (F0_init_NoInverse T).choose
theorem F_init_NoInverse (T : Txt K mg) : FunD K "__init__" "NoInverse.__init__" (defArgs s_init_NoInverse) (defBody s_init_NoInverse) (defScope s_init_NoInverse) [] [] (He.ma K (He.ga K "NoInverse") "__init__") (fd_init_NoInverse T) := (F0_init_NoInverse T).choose_spec
theorem B_init_NoInverse (T : Txt K mg) : Binds K (fd_init_NoInverse T) ["self", "divisor"] [] := (F_init_NoInverse T).bindsN fun _ _ _ _ _ _ us hl => match us, hl with | [_, _], _ => rfl
theorem ok_init_NoInverse (T : Txt K mg) : FnOk P w K mg base CX0 1 (He.ma K (He.ga K "NoInverse") "__init__") (fd_init_NoInverse T) ["self", "divisor"] (sp_init K (He.ga K "NoInverse") "divisor") := by
  refine (F_init_NoInverse T).ok sc_init_NoInverse (fun vs H Q E h => ?_) (fun cdv A outer s H vs Q E hr h => ⟨_, PSs.nox (pss_cons (ps_expr (pe_cinit rfl (g_PrimeError T) (base_of (T.c.fact (t := fun K => baseB (He.ga K "PrimeError") K) 65 rfl)) (pa_cons (pv 0) (pa_cons pe_str pa_nil)))) (pss_one (ps_ost (pv 0) (pv 1)))), ?_⟩)
  · obtain ⟨_, _, rfl, _⟩ := h; rfl
  · exact rd_init h
theorem z_PrimeError (T : Txt K mg) : Exc0 K (He.ga K "PrimeError") := exc0_of (T.c.fact 66 rfl)
abbrev RR : PySem.W.OpenRow := PySem.W.OpenLaw.row PySem.Challenge.rw_rootprime_k73_powers_let_by
abbrev hk : PySem.W.Hook := hookR 5 fa fn
def ob (s : PySem.W.SharedT) : He.AlD := toldG 5 fa fn (HandSHeadRun.getT s)
theorem ob_eq (s : PySem.W.SharedT) : ob s = hk.obs s.abs := toldG_eq (HandSHeadRun.getT_eq s)
theorem run (w : World) : HandSHeadRun.RunEq RR (PySem.W.view RR.prog [59]) hk ob 5030 ("divisor" :: "inverse" :: "power" :: "is_whole" :: "is_row_of" :: "are_papers" :: "comes_to" :: "is_parting_paper" :: "is_prime_paper" :: "is_order" :: "are_wholes" :: "digits_in" :: "are_digits" :: "shows_which" :: "are_primes" :: "is_named" :: "is_below" :: "is_power_by" :: "are_apart" :: "is_least_by" :: "shows_which_of" :: "_law_cell_at" :: "_law_state" :: "_law_take" :: "_law_number" :: "_law_powers" :: "_law_parted" :: "_law_paper" :: "_law_primes" :: "_law_common" :: "_law_alike" :: "_law_rows" :: "_law_rest" :: "_law_pairs" :: "_law_made" :: "_law_bent_shown" :: "_law_bent" :: "_law_is_whole" :: "_law_is_row" :: "_law_are_rows" :: "_law_due_none" :: "_law_due_apart" :: "_law_due" :: "_law_turned" :: "_law_by_six" :: "_law_bent_papers" :: "_law_any_apart" :: "_law_none_right" :: "_law_apart_right" :: "PrimeError" :: "NoInverse" :: "MOST_PRIMES" :: []) w := by
  intro os
  kernel_rfl

/-- divisor(a, b): a new tuple (g, u, v) -/
def sp_divisor : Sp := fun vs H Q _ => ∃ a b : Int, vs = [.int a, .int b] ∧ a.natAbs < 2 ^ 900 ∧ b.natAbs < 2 ^ 900 ∧
  ∀ g u v p, M.DivOk a b g u v → H p = none → Q (.ref p) (upd H p (.tup [.int g, .int u, .int v]))
theorem ok_divisor (T : Txt K mg) : FnOk P w K mg base CX0 1 (He.ga K "divisor") (fd_divisor T) ["a", "b"] sp_divisor := by
  refine (F_divisor T).ok sc_divisor (fun vs H Q E h => ?_) (fun cdv A outer s H vs Q E hr h => ⟨_, PSs.nox (pss_cons (ps_par3 (i := 2) (j := 3) (l := 4) rfl sc_divisor.nd rfl rfl rfl (by decide) (by decide) (by decide) rfl rfl rfl (pa_cons (pv 0) (pa_cons pe_int (pa_cons pe_int pa_nil))) rfl)
      (pss_cons (ps_par3 (i := 5) (j := 6) (l := 7) rfl sc_divisor.nd rfl rfl rfl (by decide) (by decide) (by decide) rfl rfl rfl (pa_cons (pv 1) (pa_cons pe_int (pa_cons pe_int pa_nil))) rfl)
      (pss_cons (ps_while PassesOwn.never (pt_cmpR op_ne (pv 5) pe_int (nomark _)) (pss_cons (ps_set (i := 8) sc_divisor.nd rfl (Or.inl rfl) (pe_op op_divF (pv 2) (pv 5)))
      (pss_cons (ps_par (i := 2) (j := 5) rfl sc_divisor.nd rfl rfl (by decide) rfl rfl (pa_cons (pv 5) (pa_cons (pe_op op_sub (pv 2) (pe_op op_mulW (pv 8) (pv 5))) pa_nil)) rfl)
      (pss_cons (ps_par (i := 3) (j := 6) rfl sc_divisor.nd rfl rfl (by decide) rfl rfl (pa_cons (pv 6) (pa_cons (pe_op op_sub (pv 3) (pe_op op_mulW (pv 8) (pv 6))) pa_nil)) rfl)
      (pss_one (ps_par (i := 4) (j := 7) rfl sc_divisor.nd rfl rfl (by decide) rfl rfl (pa_cons (pv 7) (pa_cons (pe_op op_sub (pv 4) (pe_op op_mulW (pv 8) (pv 7))) pa_nil)) rfl))))))
      (pss_cons (ps_if (pt_cmpR op_lt (pv 2) pe_int (nomark _)) (pss_one (ps_ret (pe_tup (pa_cons (pe_un un_neg (pv 2)) (pa_cons (pe_un un_neg (pv 3)) (pa_cons (pe_un un_neg (pv 4)) pa_nil)))))) pss_nil)
      (pss_one (ps_ret (pe_tup (pa_cons (pv 2) (pa_cons (pv 3) (pa_cons (pv 4) pa_nil)))))))))), ?_⟩)
  · obtain ⟨a, b, rfl, _⟩ := h; rfl
  · obtain ⟨a, b, rfl, ha, hb, k⟩ := h
    walk_at "g"
    refine s_while (fun σ H' => H' = H ∧ ∃ (g u v r x y : Int) (t : Option V), σ = [some (.int a), some (.int b), some (.int g), some (.int u), some (.int v), some (.int r), some (.int x), some (.int y), t] ∧ M.DivSt a b g u v r x y)
      (fun σ _ => (iv σ 5).natAbs) ⟨rfl, a, 1, 0, b, 0, 1, none, rfl, .inl ⟨rfl, rfl, rfl, rfl, rfl, rfl⟩⟩ ?_
    · rintro σ H' ⟨rfl, g, u, v, r, x, y, t, rfl, I⟩
      walk_at "g"
      refine s_iten (fun hr => ?_) (fun hr => ?_)
      · have Z := M.div_sizes I
        have hd : r ≠ 0 := hr
        have st := M.div_step I hd
        have hf : (g.fdiv r).natAbs ≤ g.natAbs := M.fdiv_le g r
        walk_at "g"
        refine s_i (divF hd (by omega)) ?_
        walk_at "g"
        exact ⟨⟨rfl, _, _, _, _, _, _, _, rfl, st.1⟩, st.2⟩
      · walk_at "g"
        have T := M.div_told I hr
        refine s_ite (fun hg => ?_) (fun hg => ?_)
        · walk_at "g"
          exact ⟨len_le (by simp), fun p hp => k _ _ _ p (T.1 hg) hp⟩
        · walk_at "g"
          exact ⟨len_le (by simp), fun p hp => k _ _ _ p (T.2 hg) hp⟩

/-- inverse(n, a): the number that, times a, is 1 by n; else NoInverse(the divisor) -/
def sp_inverse (K : PySem.W.Frag) : Sp := fun vs H Q E => ∃ n a : Int, vs = [.int n, .int a] ∧ 0 < n ∧ n.natAbs < 2 ^ 900 ∧
  (Int.gcd a n = 1 → ∀ (H' : Hp) (b : Int), Same H H' → 0 ≤ b → b < n → (b * a - 1) % n = 0 → Q (.int b) H') ∧
  (Int.gcd a n ≠ 1 → ∀ (d : Addr) (H' : Hp), H d = none → Same H H' → H' d = some (.xd [("divisor", .int (Int.gcd a n))]) → E (.ref (He.ga K "NoInverse")) (some d) H')
theorem ok_inverse (T : Txt K mg) : FnOk P w K mg base (L2.CX P w) 5 (He.ga K "inverse") (fd_inverse T) ["n", "a"] (sp_inverse K) := by
  refine (F_inverse T).ok sc_inverse (fun vs H Q E h => ?_) (fun cdv A outer s H vs Q E hr h => ⟨_, (pss_cons (ps_asg (pe_call (ok_divisor T) (hr.mono (by decide)) rfl (g_divisor T) (kp_divisor T) (B_divisor T) .nil pass0 (pa_cons (pe_op op_mod (pv 1) (pv 0)) (pa_cons (pv 0) pa_nil))) (pg_tup rfl (pgs_cons (pg_name (i := 2) sc_inverse.nd rfl (Or.inl rfl)) (pgs_cons (pg_name (i := 3) sc_inverse.nd rfl (Or.inl rfl)) (pgs_cons (pg_name (i := 4) sc_inverse.nd rfl (Or.inl rfl)) pgs_nil)))))
      (pss_cons (ps_if (pt_cmpR op_gt (pv 2) pe_int (nomark _)) (pss_one (ps_raise rfl (takes_of rfl rfl rfl rfl) (pmk_oex (x_NoInverse T).oex (x_NoInverse T).iC (x_NoInverse T).tI (ok_init_NoInverse T) (hr.mono (by decide)) (B_init_NoInverse T) .nil pass0 rfl (g_NoInverse T) (pa_cons (pv 2) pa_nil)))) pss_nil)
      (pss_one (ps_ret (pe_op op_mod (pv 3) (pv 0)))))), ?_⟩)
  · obtain ⟨n, a, rfl, _⟩ := h; rfl
  · obtain ⟨n, a, rfl, h0, hn, k1, k2⟩ := h
    have ha0 := Int.emod_nonneg a (show n ≠ 0 by omega)
    have ha1 := Int.emod_lt_of_pos a h0
    have gp := M.gcd_pos (a := a) h0
    walk_at "g"
    refine s_i (by omega) ?_
    walk_at "g"
    refine ⟨a % n, n, rfl, by omega, hn, fun g u v p I hp => ?_⟩
    have S1 : Same H (upd H p (.tup [.int g, .int u, .int v])) := same_upd hp
    have T1 : upd H p (.tup [.int g, .int u, .int v]) p = some (.tup [.int g, .int u, .int v]) := upd_same
    generalize upd H p (.tup [.int g, .int u, .int v]) = H1 at S1 T1 ⊢
    have hg := I.hg
    rw [M.gcd_mod] at hg
    walk_at "g"
    refine s_gtup (SqT.of T1) rfl ?_
    walk_at "g"
    refine s_ite (fun c => ?_) (fun c => ?_)
    · walk_at "g"
      refine s_raise (x_NoInverse T).oex (x_NoInverse T).noF fun d H' hd hx hs => ?_
      rw [hg] at hx
      exact k2 (by omega) d H' (S1.free hd) (S1.trans hs) hx
    · walk_at "g"
      refine s_i (by omega) ?_
      have g1 : Int.gcd a n = 1 := by omega
      exact k1 g1 H1 _ S1 (Int.emod_nonneg _ (by omega)) (Int.emod_lt_of_pos _ h0) (M.inv_of h0 I g1)

/-- a def of which nothing is asked -/
theorem ok_never1 {CX : CXT} {f : Addr} {fd : FuncData} {ps : List Str} : FnOk P w K mg base CX 1 f fd ps (fun _ _ _ _ => False) := ⟨fun _ _ _ _ h => h.elim, fun _ _ _ _ _ _ _ _ _ _ _ _ _ h => h.elim⟩
/-- power(n, a, e), e from 0 on -/
def sp_power0 : Sp := fun vs H Q _ => ∃ (n a : Int) (e : Nat), vs = [.int n, .int a, .int e] ∧ 0 < n ∧ n.natAbs < 2 ^ 900 ∧ Q (.int (M.pw n a e)) H
theorem ok_power0 (T : Txt K mg) : FnOk P w K mg base (L2.CX P w) 6 (He.ga K "power") (fd_power T) ["n", "a", "e"] sp_power0 := by
  refine (F_power T).ok sc_power (fun vs H Q E h => ?_) (fun cdv A outer s H vs Q E hr h => ⟨_, (pss_cons (ps_if (pt_cmpR op_lt (pv 2) pe_int (nomark _)) (pss_one (ps_ret (pe_call (ok_never1) (hr.mono (by decide)) rfl (g_power T) (kp_power T) (B_power T) .nil (passes_call (takes_of rfl rfl rfl rfl) (fun _ _ _ _ h => h)) (pa_cons (pv 0) (pa_cons (pe_call (ok_inverse T) (hr.mono (by decide)) rfl (g_inverse T) (kp_inverse T) (B_inverse T) .nil (passes_call (takes_of rfl rfl rfl rfl) (fun _ _ _ _ h => h)) (pa_cons (pv 0) (pa_cons (pv 1) pa_nil))) (pa_cons (pe_un un_neg (pv 2)) pa_nil)))))) pss_nil)
      (pss_cons (ps_set (i := 3) sc_power.nd rfl (Or.inl rfl) (pe_op op_mod pe_int (pv 0)))
      (pss_cons (ps_set (i := 4) sc_power.nd rfl (Or.inl rfl) (pe_op op_mod (pv 1) (pv 0)))
      (pss_cons (ps_while (passes_of rfl) (pt_cmpR op_gt (pv 2) pe_int (nomark _)) (pss_cons (ps_if (pt_cmpR op_eq (pe_op op_mod (pv 2) pe_int) pe_int (nomark _)) (pss_one (ps_set (i := 3) sc_power.nd rfl (Or.inl rfl) (pe_op op_mod (pe_op op_mulW (pv 3) (pv 4)) (pv 0)))) pss_nil)
      (pss_cons (ps_set (i := 4) sc_power.nd rfl (Or.inl rfl) (pe_op op_mod (pe_op op_mulW (pv 4) (pv 4)) (pv 0)))
      (pss_one (ps_set (i := 2) sc_power.nd rfl (Or.inl rfl) (pe_op op_fdivW (pv 2) pe_int))))))
      (pss_one (ps_ret (pv 3))))))), ?_⟩)
  · obtain ⟨n, a, e, rfl, _⟩ := h; rfl
  · obtain ⟨n, a, e, rfl, h0, hn, k⟩ := h
    walk_at "g"
    refine s_itN (by omega) ?_
    walk_at "g"
    refine s_i (by omega) ?_
    walk_at "g"
    refine s_i (by omega) ?_
    walk_at "g"
    refine s_while (fun σ H' => H' = H ∧ ∃ (e' : Nat) (f b : Int), σ = [some (.int n), some (.int a), some (.int e'), some (.int f), some (.int b)] ∧ 0 ≤ f ∧ f < n ∧ 0 ≤ b ∧ b < n ∧ f * b ^ e' % n = M.pw n a e)
      (fun σ _ => (iv σ 2).natAbs) ⟨rfl, e, _, _, rfl, Int.emod_nonneg _ (by omega), Int.emod_lt_of_pos _ h0, Int.emod_nonneg _ (by omega), Int.emod_lt_of_pos _ h0, M.pw_one⟩ ?_
    rintro σ H' ⟨rfl, e', f, b, rfl, f0, f1, b0, b1, inv⟩
    have st := M.pw_turn inv
    walk_at "g"
    refine s_ite (fun c => ?_) (fun c => ?_)
    · have e2 : (e' : Int) / 2 = ((e' / 2 : Nat) : Int) := by omega
      walk_at "h"
      refine s_join (fun σ' H1 => H1 = H' ∧ ∃ f' : Int, σ' = [some (.int n), some (.int a), some (.int e'), some (.int f'), some (.int b)] ∧ 0 ≤ f' ∧ f' < n ∧ f' * (b * b % n) ^ (e' / 2) % n = M.pw n a e) ?_ fun N J => ?_
      · rintro σ' H1 ⟨rfl, f', rfl, f0', f1', inv'⟩
        walk_at "g"
        refine s_i (by omega) ?_
        walk_at "g"
        refine ⟨⟨rfl, e' / 2, f', _, ?_, f0', f1', Int.emod_nonneg _ (by omega), Int.emod_lt_of_pos _ h0, inv'⟩, ?_⟩
        · rw [e2]; rfl
        · show ((e' : Int) / 2).natAbs < (e' : Int).natAbs
          omega
      · walk_at "g"
        refine s_ite (fun c2 => ?_) (fun c2 => ?_)
        · walk_at "g"
          refine s_i (by omega) ?_
          walk_at "g"
          exact J _ _ ⟨rfl, _, rfl, Int.emod_nonneg _ (by omega), Int.emod_lt_of_pos _ h0, st.1 (by omega)⟩
        · walk_at "g"
          exact J _ _ ⟨rfl, _, rfl, f0, f1, st.2 (by omega)⟩
    · have z : e' = 0 := by omega
      subst z
      walk_at "g"
      rw [M.pw_end f0 f1 inv]
      exact k
/-- power(n, a, e) -/
def sp_power (K : PySem.W.Frag) : Sp := fun vs H Q E => ∃ n a e : Int, vs = [.int n, .int a, .int e] ∧ 0 < n ∧ n.natAbs < 2 ^ 900 ∧
  (0 ≤ e → Q (.int (M.pw n a e.toNat)) H) ∧
  (e < 0 → Int.gcd a n = 1 → ∀ (H' : Hp) (b : Int), Same H H' → 0 ≤ b → b < n → (b * a - 1) % n = 0 → Q (.int (M.pw n b (-e).toNat)) H') ∧
  (e < 0 → Int.gcd a n ≠ 1 → ∀ (d : Addr) (H' : Hp), H d = none → Same H H' → H' d = some (.xd [("divisor", .int (Int.gcd a n))]) → E (.ref (He.ga K "NoInverse")) (some d) H')
/-- .. e below 0 -/
def sp_powerN (K : PySem.W.Frag) : Sp := fun vs H Q E => ∃ n a e : Int, vs = [.int n, .int a, .int e] ∧ 0 < n ∧ n.natAbs < 2 ^ 900 ∧ e < 0 ∧
  (Int.gcd a n = 1 → ∀ (H' : Hp) (b : Int), Same H H' → 0 ≤ b → b < n → (b * a - 1) % n = 0 → Q (.int (M.pw n b (-e).toNat)) H') ∧
  (Int.gcd a n ≠ 1 → ∀ (d : Addr) (H' : Hp), H d = none → Same H H' → H' d = some (.xd [("divisor", .int (Int.gcd a n))]) → E (.ref (He.ga K "NoInverse")) (some d) H')
theorem ok_powerN (T : Txt K mg) : FnOk P w K mg base (L2.CX P w) 7 (He.ga K "power") (fd_power T) ["n", "a", "e"] (sp_powerN K) := by
  refine (F_power T).ok sc_power (fun vs H Q E h => ?_) (fun cdv A outer s H vs Q E hr h => ⟨_, (pss_cons (ps_if (pt_cmpR op_lt (pv 2) pe_int (nomark _)) (pss_one (ps_ret (pe_call (ok_power0 T) (hr.mono (by decide)) rfl (g_power T) (kp_power T) (B_power T) .nil (passes_call (takes_of rfl rfl rfl rfl) (fun _ _ _ _ h => h)) (pa_cons (pv 0) (pa_cons (pe_call (ok_inverse T) (hr.mono (by decide)) rfl (g_inverse T) (kp_inverse T) (B_inverse T) .nil (passes_call (takes_of rfl rfl rfl rfl) (fun _ _ _ _ h => h)) (pa_cons (pv 0) (pa_cons (pv 1) pa_nil))) (pa_cons (pe_un un_neg (pv 2)) pa_nil)))))) pss_nil)
      (pss_cons (ps_set (i := 3) sc_power.nd rfl (Or.inl rfl) (pe_op op_mod pe_int (pv 0)))
      (pss_cons (ps_set (i := 4) sc_power.nd rfl (Or.inl rfl) (pe_op op_mod (pv 1) (pv 0)))
      (pss_cons (ps_while (passes_of rfl) (pt_cmpR op_gt (pv 2) pe_int (nomark _)) (pss_cons (ps_if (pt_cmpR op_eq (pe_op op_mod (pv 2) pe_int) pe_int (nomark _)) (pss_one (ps_set (i := 3) sc_power.nd rfl (Or.inl rfl) (pe_op op_mod (pe_op op_mulW (pv 3) (pv 4)) (pv 0)))) pss_nil)
      (pss_cons (ps_set (i := 4) sc_power.nd rfl (Or.inl rfl) (pe_op op_mod (pe_op op_mulW (pv 4) (pv 4)) (pv 0)))
      (pss_one (ps_set (i := 2) sc_power.nd rfl (Or.inl rfl) (pe_op op_fdivW (pv 2) pe_int))))))
      (pss_one (ps_ret (pv 3))))))), ?_⟩)
  · obtain ⟨n, a, e, rfl, _⟩ := h; rfl
  · obtain ⟨n, a, e, rfl, h0, hn, c, k1, k2⟩ := h
    walk_at "g"
    refine s_itP c ?_
    walk_at "g"
    refine ⟨n, a, rfl, h0, hn, fun g1 H' b hs b0 b1 hb => ?_, fun g1 d H' hd hs hx => k2 g1 d H' hd hs hx⟩
    walk_at "g"
    refine ⟨n, b, (-e).toNat, ?_, h0, hn, k1 g1 H' b hs b0 b1 hb⟩
    have : -e = ((-e).toNat : Int) := by omega
    rw [← this]; rfl
theorem ok_power (T : Txt K mg) : FnOk P w K mg base (L2.CX P w) 7 (He.ga K "power") (fd_power T) ["n", "a", "e"] (sp_power K) := by
  refine fn_or ((ok_power0 T).mono (by decide)) (ok_powerN T) fun vs H Q E ⟨n, a, e, ev, h0, hn, k0, k1, k2⟩ => ?_
  subst ev
  by_cases c : e < 0
  · exact .inr ⟨n, a, e, rfl, h0, hn, c, k1 c, k2 c⟩
  · refine .inl ⟨n, a, e.toNat, ?_, h0, hn, k0 (by omega)⟩
    have : e = (e.toNat : Int) := by omega
    rw [← this]
theorem pos_power {H : Hp} {Q : VK} {E : XK} {n a e : Int} {m : Nat} (he : e = m) (h0 : 0 < n) (hn : n.natAbs < 2 ^ 900) (k : Q (.int (M.pw n a m)) H) : sp_power K [.int n, .int a, .int e] H Q E :=
  ⟨n, a, e, rfl, h0, hn, fun _ => by rw [show e.toNat = m by omega]; exact k, fun c => by omega, fun c => by omega⟩

theorem prodL_pos0 : ∀ {l : List (Nat × Nat)}, (∀ x ∈ l, 0 < x.1) → 0 < M.prodL l
  | [], _ => by decide
  | x :: l, h => Nat.mul_pos (Nat.pow_pos (h x (by simp))) (prodL_pos0 fun y hy => h y (by simp [hy]))
theorem prodL_take_le {l : List (Nat × Nat)} (h : ∀ x ∈ l, 0 < x.1) (i : Nat) : M.prodL (l.take i) ≤ M.prodL l := by
  conv => rhs; rw [← List.take_append_drop i l, M.prodL_app]
  exact Nat.le_mul_of_pos_right _ (prodL_pos0 fun x hx => h x (List.mem_of_mem_drop hx))
theorem prodL_one (x : Nat × Nat) (l : List (Nat × Nat)) : M.prodL (l ++ [x]) = M.prodL l * x.1 ^ x.2 := by rw [M.prodL_app]; simp [M.prodL]
theorem fac_many {F : Nat} {l : List (Nat × Nat)} (h : M.IsFac F l) (h0 : 0 < F) {x : Nat × Nat} (hx : x ∈ l) (hF : F < 2 ^ 200) : x.2 < 2 ^ 60 := by
  have h1 := M.prodL_dvd hx
  rw [h.prod] at h1
  have h2 := Nat.le_of_dvd h0 h1
  have h3 : 2 ^ x.2 ≤ x.1 ^ x.2 := Nat.pow_le_pow_left (h.primes x hx).1.1 _
  have h4 : x.2 < 200 := (Nat.pow_lt_pow_iff_right (by decide : 1 < 2)).mp (by omega)
  omega
theorem filter_take {α : Type} (P : α → Bool) {xs : List α} {i : Nat} {x : α} (h : xs[i]? = some x) : (xs.take (i + 1)).filter P = (xs.take i).filter P ++ (if P x = true then [x] else []) := by
  rw [take_more h, List.filter_append]
  congr 1
  cases e : P x <;> simp [e]

/-! data of any kind, as they lie in the heap; F tells of which lists -/
mutual
inductive DaF (F : Addr → Prop) (H : Hp) : V → PyData → Prop
  | non : DaF F H .non .none
  | bl (b : Bool) : DaF F H (.bl b) (.bool b)
  | int (i : Int) : DaF F H (.int i) (.int i)
  | str (x : Str) : DaF F H (.str x) (.str x)
  | lst {a : Addr} {xs : List V} {ds : List PyData} (e : H a = some (.lst xs)) (h : DaL F H xs ds) (f : F a) : DaF F H (.ref a) (.list ds)
  | tup {a : Addr} {xs : List V} {ds : List PyData} (e : H a = some (.tup xs)) (h : DaL F H xs ds) : DaF F H (.ref a) (.tuple ds)
inductive DaL (F : Addr → Prop) (H : Hp) : List V → List PyData → Prop
  | nil : DaL F H [] []
  | cons {v : V} {d : PyData} {vs : List V} {ds : List PyData} (h : DaF F H v d) (t : DaL F H vs ds) : DaL F H (v :: vs) (d :: ds)
end
/-- data with any lists; data without lists -/
abbrev Da (H : Hp) : V → PyData → Prop := DaF (fun _ => True) H
abbrev Tu (H : Hp) : V → PyData → Prop := DaF (fun _ => False) H
mutual
theorem DaF.same {F : Addr → Prop} {H H' : Hp} (s : Same H H') : ∀ {v : V} {d : PyData}, DaF F H v d → DaF F H' v d
  | _, _, .non => .non
  | _, _, .bl b => .bl b
  | _, _, .int i => .int i
  | _, _, .str x => .str x
  | _, _, .lst e h f => .lst (s _ _ e) (DaL.same s h) f
  | _, _, .tup e h => .tup (s _ _ e) (DaL.same s h)
theorem DaL.same {F : Addr → Prop} {H H' : Hp} (s : Same H H') : ∀ {vs : List V} {ds : List PyData}, DaL F H vs ds → DaL F H' vs ds
  | _, _, .nil => .nil
  | _, _, .cons h t => .cons (DaF.same s h) (DaL.same s t)
end
mutual
theorem DaF.mono {F G : Addr → Prop} {H : Hp} (g : ∀ a, F a → G a) : ∀ {v : V} {d : PyData}, DaF F H v d → DaF G H v d
  | _, _, .non => .non
  | _, _, .bl b => .bl b
  | _, _, .int i => .int i
  | _, _, .str x => .str x
  | _, _, .lst e h f => .lst e (DaL.mono g h) (g _ f)
  | _, _, .tup e h => .tup e (DaL.mono g h)
theorem DaL.mono {F G : Addr → Prop} {H : Hp} (g : ∀ a, F a → G a) : ∀ {vs : List V} {ds : List PyData}, DaL F H vs ds → DaL G H vs ds
  | _, _, .nil => .nil
  | _, _, .cons h t => .cons (DaF.mono g h) (DaL.mono g t)
end
mutual
/-- a list that is none of them may change -/
theorem DaF.upd {F : Addr → Prop} {H : Hp} {p : Addr} {o : HO} {zs : List V} (hp : H p = some (.lst zs)) (n : ¬ F p) : ∀ {v : V} {d : PyData}, DaF F H v d → DaF F (L2.upd H p o) v d
  | _, _, .non => .non
  | _, _, .bl b => .bl b
  | _, _, .int i => .int i
  | _, _, .str x => .str x
  | _, _, @DaF.lst _ _ a _ _ e h f => .lst (by rw [upd_ne (show a ≠ p from fun z => n (z ▸ f))]; exact e) (DaL.upd hp n h) f
  | _, _, .tup e h => .tup (by rw [upd_ne (fun z => by rw [z, hp] at e; cases e)]; exact e) (DaL.upd hp n h)
theorem DaL.upd {F : Addr → Prop} {H : Hp} {p : Addr} {o : HO} {zs : List V} (hp : H p = some (.lst zs)) (n : ¬ F p) : ∀ {vs : List V} {ds : List PyData}, DaL F H vs ds → DaL F (L2.upd H p o) vs ds
  | _, _, .nil => .nil
  | _, _, .cons h t => .cons (DaF.upd hp n h) (DaL.upd hp n t)
end
mutual
theorem DaF.dp (K : PySem.W.Frag) {F : Addr → Prop} {H : Hp} : ∀ {v : V} {d : PyData}, DaF F H v d → Dp K H v d
  | _, _, .non => .non
  | _, _, .bl b => .bl b
  | _, _, .int i => .int i
  | _, _, .str x => .str x
  | _, _, .lst e h _ => .lst (SqL.of e) (DaL.dp K h)
  | _, _, .tup e h => .tup (SqT.of e) (DaL.dp K h)
theorem DaL.dp (K : PySem.W.Frag) {F : Addr → Prop} {H : Hp} : ∀ {vs : List V} {ds : List PyData}, DaL F H vs ds → DpAll K H vs ds
  | _, _, .nil => .nil
  | _, _, .cons h t => .cons (DaF.dp K h) (DaL.dp K t)
end
theorem DaF.any {F : Addr → Prop} {H : Hp} {v : V} {d : PyData} (h : DaF F H v d) : Da H v d := h.mono fun _ _ => trivial
theorem DaL.any {F : Addr → Prop} {H : Hp} {vs : List V} {ds : List PyData} (h : DaL F H vs ds) : DaL (fun _ => True) H vs ds := h.mono fun _ _ => trivial
theorem DaL.len {F : Addr → Prop} {H : Hp} : ∀ {vs : List V} {ds : List PyData}, DaL F H vs ds → vs.length = ds.length
  | _, _, .nil => rfl
  | _, _, .cons _ t => by rw [List.length_cons, List.length_cons, DaL.len t]
theorem DaL.get {F : Addr → Prop} {H : Hp} : ∀ {vs : List V} {ds : List PyData} {i : Nat} {v : V}, DaL F H vs ds → vs[i]? = some v → ∃ d, ds[i]? = some d ∧ DaF F H v d
  | _, _, _, _, .nil, e => by simp at e
  | _, _, 0, _, .cons h _, e => by simp at e; subst e; exact ⟨_, rfl, h⟩
  | _, _, i + 1, v, .cons _ t, e => by
    obtain ⟨d, h1, h2⟩ := DaL.get (i := i) t (by simpa using e)
    exact ⟨d, by simpa using h1, h2⟩
theorem DaL.get' {F : Addr → Prop} {H : Hp} : ∀ {vs : List V} {ds : List PyData} {i : Nat} {d : PyData}, DaL F H vs ds → ds[i]? = some d → ∃ v, vs[i]? = some v ∧ DaF F H v d
  | _, _, _, _, .nil, e => by simp at e
  | _, _, 0, _, .cons h _, e => by simp at e; subst e; exact ⟨_, rfl, h⟩
  | _, _, i + 1, d, .cons _ t, e => by
    obtain ⟨v, h1, h2⟩ := DaL.get' (i := i) t (by simpa using e)
    exact ⟨v, by simpa using h1, h2⟩
theorem DaL.app {F : Addr → Prop} {H : Hp} {ys : List V} {es : List PyData} (h' : DaL F H ys es) : ∀ {vs : List V} {ds : List PyData}, DaL F H vs ds → DaL F H (vs ++ ys) (ds ++ es)
  | _, _, .nil => h'
  | _, _, .cons h t => .cons h (DaL.app h' t)
theorem DaL.take {F : Addr → Prop} {H : Hp} : ∀ {vs : List V} {ds : List PyData} (n : Nat), DaL F H vs ds → DaL F H (vs.take n) (ds.take n)
  | _, _, 0, _ => by simp; exact .nil
  | _, _, _ + 1, .nil => .nil
  | _, _, n + 1, .cons h t => .cons h (DaL.take n t)
theorem DaL.drop {F : Addr → Prop} {H : Hp} : ∀ {vs : List V} {ds : List PyData} (n : Nat), DaL F H vs ds → DaL F H (vs.drop n) (ds.drop n)
  | _, _, 0, h => h
  | _, _, _ + 1, .nil => .nil
  | _, _, n + 1, .cons _ t => DaL.drop n t
theorem DaL.cut {F : Addr → Prop} {H : Hp} {vs : List V} {ds : List PyData} (h : DaL F H vs ds) (lo hi : Option Int) : ∃ n m, DaL F H (cutV vs lo hi) ((ds.drop n).take m) := ⟨_, _, (h.drop _).take _⟩
theorem DaL.rev {F : Addr → Prop} {H : Hp} : ∀ {vs : List V} {ds : List PyData}, DaL F H vs ds → DaL F H vs.reverse ds.reverse
  | _, _, .nil => .nil
  | _, _, .cons h t => by rw [List.reverse_cons, List.reverse_cons]; exact DaL.app (.cons h .nil) (DaL.rev t)
theorem DaL.two {F : Addr → Prop} {H : Hp} {vs : List V} {d e : PyData} {ds : List PyData} (h : DaL F H vs (d :: e :: ds)) : ∃ x y ys, vs = x :: y :: ys ∧ DaF F H x d ∧ DaF F H y e ∧ DaL F H ys ds := by
  cases h with
  | cons h t => cases t with
    | cons h2 t => exact ⟨_, _, _, rfl, h, h2, t⟩
theorem DaL.three {F : Addr → Prop} {H : Hp} {vs : List V} {d e f : PyData} {ds : List PyData} (h : DaL F H vs (d :: e :: f :: ds)) : ∃ x y z ys, vs = x :: y :: z :: ys ∧ DaF F H x d ∧ DaF F H y e ∧ DaF F H z f ∧ DaL F H ys ds := by
  obtain ⟨x, y, ys, rfl, h1, h2, h3⟩ := h.two
  cases h3 with
  | cons h3 t => exact ⟨_, _, _, _, rfl, h1, h2, h3, t⟩
/-- the kind's name -/
def tyN : PyData → String
  | .none => "NoneType"
  | .bool _ => "bool"
  | .int _ => "int"
  | .str _ => "str"
  | .list _ => "list"
  | .tuple _ => "tuple"
  | .dict _ => "dict"
theorem DaF.ty {K : PySem.W.Frag} {F : Addr → Prop} {H : Hp} {v : V} {d : PyData} (h : DaF F H v d) : TyOf K H v (.type (tyN d)) := by
  cases h with
  | non => exact .non
  | bl b => exact .bl b
  | int i => exact .int i
  | str x => exact .str x
  | lst e _ => exact .lst e
  | tup e _ => exact .tup e
def isInt : PyData → Bool
  | .int _ => true
  | .bool _ => true
  | _ => false
def isBool : PyData → Bool
  | .bool _ => true
  | _ => false
def isTup : PyData → Bool
  | .tuple _ => true
  | _ => false
def isLst : PyData → Bool
  | .list _ => true
  | _ => false
theorem kb_si : kitB "str" "int" = some false := by decide +kernel
theorem kb_sb : kitB "str" "bool" = some false := by decide +kernel
theorem kb_st : kitB "str" "tuple" = some false := by decide +kernel
theorem kb_sl : kitB "str" "list" = some false := by decide +kernel
theorem kb_lb : kitB "list" "bool" = some false := by decide +kernel
theorem kb_tb : kitB "tuple" "bool" = some false := by decide +kernel
section
variable {K : PySem.W.Frag} {F : Addr → Prop} {H : Hp} {Q : VK} {v : V} {d : PyData}
theorem s_isiInt (h : DaF F H v d) (q : Q (.bl (isInt d)) H) : rIsi K [v, .ty "int"] H Q := by
  cases h with
  | non => exact s_isi .non kb_ni q
  | bl b => exact s_isi (.bl b) kb_bi q
  | int i => exact s_isi (.int i) kb_ii q
  | str x => exact s_isi (.str x) kb_si q
  | lst e _ => exact s_isi (.lst e) kb_li q
  | tup e _ => exact s_isi (.tup e) kb_ti q
theorem s_isiBool (h : DaF F H v d) (q : Q (.bl (isBool d)) H) : rIsi K [v, .ty "bool"] H Q := by
  cases h with
  | non => exact s_isi .non kb_nb q
  | bl b => exact s_isi (.bl b) kb_bb q
  | int i => exact s_isi (.int i) kb_ib q
  | str x => exact s_isi (.str x) kb_sb q
  | lst e _ => exact s_isi (.lst e) kb_lb q
  | tup e _ => exact s_isi (.tup e) kb_tb q
theorem s_isiTup (h : DaF F H v d) (q : Q (.bl (isTup d)) H) : rIsi K [v, .ty "tuple"] H Q := by
  cases h with
  | non => exact s_isi .non kb_nt q
  | bl b => exact s_isi (.bl b) kb_bt q
  | int i => exact s_isi (.int i) kb_it q
  | str x => exact s_isi (.str x) kb_st q
  | lst e _ => exact s_isi (.lst e) kb_lt q
  | tup e _ => exact s_isi (.tup e) kb_tt q
theorem s_isiLst (h : DaF F H v d) (q : Q (.bl (isLst d)) H) : rIsi K [v, .ty "list"] H Q := by
  cases h with
  | non => exact s_isi .non kb_nl q
  | bl b => exact s_isi (.bl b) kb_bl q
  | int i => exact s_isi (.int i) kb_il q
  | str x => exact s_isi (.str x) kb_sl q
  | lst e _ => exact s_isi (.lst e) kb_ll q
  | tup e _ => exact s_isi (.tup e) kb_tl q
end
/-- not too deep, not too long, no great numbers -/
inductive Bd : Nat → PyData → Prop
  | non {n : Nat} : Bd n .none
  | bl {n : Nat} (b : Bool) : Bd n (.bool b)
  | int {n : Nat} {i : Int} (h : i.natAbs < 2 ^ 300) : Bd n (.int i)
  | str {n : Nat} (x : Str) (h : PyData.strOk x = true) : Bd n (.str x)
  | lst {n : Nat} {ds : List PyData} (l : ds.length ≤ 999) (h : ∀ d ∈ ds, Bd n d) : Bd (n + 1) (.list ds)
  | tup {n : Nat} {ds : List PyData} (l : ds.length ≤ 999) (h : ∀ d ∈ ds, Bd n d) : Bd (n + 1) (.tuple ds)
theorem Bd.mono : ∀ {n m : Nat} {d : PyData}, Bd n d → n ≤ m → Bd m d := by
  intro n m d h
  induction h generalizing m with
  | non => intro _; exact .non
  | bl b => intro _; exact .bl b
  | int h => intro _; exact .int h
  | str x h => intro _; exact .str x h
  | lst l _ ih =>
    intro e
    obtain ⟨k, rfl⟩ : ∃ k, m = k + 1 := ⟨m - 1, by omega⟩
    exact .lst l fun d hd => ih d hd (by omega)
  | tup l _ ih =>
    intro e
    obtain ⟨k, rfl⟩ : ∃ k, m = k + 1 := ⟨m - 1, by omega⟩
    exact .tup l fun d hd => ih d hd (by omega)
theorem Bd.tup_inv {n : Nat} {ds : List PyData} (h : Bd n (.tuple ds)) : ∃ m, n = m + 1 ∧ ds.length ≤ 999 ∧ ∀ d ∈ ds, Bd m d := by
  cases h with
  | tup l h => exact ⟨_, rfl, l, h⟩
theorem Bd.lst_inv {n : Nat} {ds : List PyData} (h : Bd n (.list ds)) : ∃ m, n = m + 1 ∧ ds.length ≤ 999 ∧ ∀ d ∈ ds, Bd m d := by
  cases h with
  | lst l h => exact ⟨_, rfl, l, h⟩
theorem Bd.int_inv {n : Nat} {i : Int} (h : Bd n (.int i)) : i.natAbs < 2 ^ 300 := by
  cases h with
  | int h => exact h
theorem Bd.lay {n : Nat} {d : PyData} (h : Bd n d) : d.canLay0 = true ∧ d.depth ≤ n := by
  induction h with
  | non => exact ⟨by simp [PyData.canLay0], by simp [PyData.depth]⟩
  | bl b => exact ⟨by simp [PyData.canLay0], by simp [PyData.depth]⟩
  | int h => exact ⟨by simp [PyData.canLay0], by simp [PyData.depth]⟩
  | str x h => exact ⟨by simp [PyData.canLay0, h], by simp [PyData.depth]⟩
  | lst l _ ih => exact ⟨by simp only [PyData.canLay0]; exact layAll fun d hd => (ih d hd).1, by simp only [PyData.depth]; have := depAll fun d hd => (ih d hd).2; omega⟩
  | tup l _ ih => exact ⟨by simp only [PyData.canLay0]; exact layAll fun d hd => (ih d hd).1, by simp only [PyData.depth]; have := depAll fun d hd => (ih d hd).2; omega⟩
theorem Bd.shaped {n : Nat} {d : PyData} (h : Bd n d) (hn : n ≤ 64) : SeqAt.shaped d = true := by
  unfold SeqAt.shaped
  rw [h.lay.1, Bool.true_and]
  exact decide_eq_true (Nat.le_trans h.lay.2 hn)
/-- a whole number from l on -/
def isW (l : Int) : PyData → Bool
  | .int i => decide (l ≤ i)
  | _ => false
/-- a tuple of k things -/
def isR (k : Int) : PyData → Bool
  | .tuple ds => decide ((ds.length : Int) = k)
  | _ => false
theorem isW_inv {l : Int} {d : PyData} (h : isW l d = true) : ∃ i, d = .int i ∧ l ≤ i := by
  cases d <;> first | exact ⟨_, rfl, of_decide_eq_true h⟩ | cases h
theorem isR_inv {k : Int} {d : PyData} (h : isR k d = true) : ∃ ds, d = .tuple ds ∧ (ds.length : Int) = k := by
  cases d <;> first | exact ⟨_, rfl, of_decide_eq_true h⟩ | cases h
theorem isW_int (l i : Int) : isW l (.int i) = decide (l ≤ i) := rfl
theorem isR_tup (k : Int) (ds : List PyData) : isR k (.tuple ds) = decide ((ds.length : Int) = k) := rfl
/-- the same, to be computed -/
def bdB : Nat → PyData → Bool
  | _, .none => true
  | _, .bool _ => true
  | _, .int i => decide (i.natAbs < 2 ^ 300)
  | _, .str x => PyData.strOk x
  | n + 1, .list ds => decide (ds.length ≤ 999) && ds.all (bdB n)
  | n + 1, .tuple ds => decide (ds.length ≤ 999) && ds.all (bdB n)
  | _, _ => false
theorem bdB_ok : ∀ {n : Nat} {d : PyData}, bdB n d = true → Bd n d
  | _, .none, _ => .non
  | _, .bool b, _ => .bl b
  | _, .int i, h => .int (by simpa [bdB] using h)
  | _, .str x, h => .str x (by simpa [bdB] using h)
  | n + 1, .list ds, h => by
    simp only [bdB, Bool.and_eq_true, decide_eq_true_eq, List.all_eq_true] at h
    exact .lst h.1 fun d hd => bdB_ok (h.2 d hd)
  | n + 1, .tuple ds, h => by
    simp only [bdB, Bool.and_eq_true, decide_eq_true_eq, List.all_eq_true] at h
    exact .tup h.1 fun d hd => bdB_ok (h.2 d hd)
  | 0, .list _, h => by simp [bdB] at h
  | 0, .tuple _, h => by simp [bdB] at h
  | 0, .dict _, h => by simp [bdB] at h
  | _ + 1, .dict _, h => by simp [bdB] at h

/-! papers among the data -/
def papOf : PyData → PyData
  | .tuple (d :: _) => d
  | _ => .none
def pOf : PyData → Nat
  | .tuple (.int p :: _) => p.toNat
  | _ => 0
def bOf : PyData → Nat
  | .tuple (_ :: .int b :: _) => b.toNat
  | _ => 0
def qOf (d : PyData) : Nat := pOf (papOf d)
def facD (ds : List PyData) : List (Nat × Nat) := ds.map fun d => (qOf d, bOf d)
inductive IsPap : PyData → Prop
  | mk (p f : Nat) (ds : List PyData) (h2 : 2 ≤ p) (f1 : 1 ≤ f) (f2 : f < p) (hq : ∀ d ∈ ds, IsPap (papOf d)) (hr : ∀ d ∈ ds, ∃ pap b, 1 ≤ b ∧ d = .tuple [pap, .int (b : Nat)])
      (srt : (facD ds).Pairwise fun a b => a.1 < b.1) (prod : M.prodL (facD ds) = p - 1) (one : M.pw p f (p - 1) = 1) (no : ∀ d ∈ ds, M.pw p f ((p - 1) / qOf d) ≠ 1) : IsPap (.tuple [.int (p : Nat), .int (f : Nat), .tuple ds])
theorem facD_mem {ds : List PyData} {d : PyData} (h : d ∈ ds) : (qOf d, bOf d) ∈ facD ds := List.mem_map.mpr ⟨d, h, rfl⟩
theorem IsPap.prime {d : PyData} (h : IsPap d) : M.Prime (pOf d) := by
  induction h with
  | mk p f ds h2 f1 f2 hq hr srt prod one no ih =>
    show M.Prime ((p : Int).toNat)
    rw [Int.toNat_natCast]
    refine M.lucas h2 (a := f) (M.ord_of_primesN ((M.pw_one_iff h2).mp one) (by omega) fun q hq' hd z => ?_)
    obtain ⟨k, hk⟩ := M.prime_in' hq' (l := facD ds) (fun x hx => by
      obtain ⟨d, hd, rfl⟩ := List.mem_map.mp hx
      exact ih d hd) (by rw [prod]; exact hd)
    obtain ⟨d, hd, e⟩ := List.mem_map.mp hk
    have e1 : qOf d = q := (Prod.mk.inj e).1
    exact no d hd (by rw [e1]; exact (M.pw_one_iff h2).mpr z)
theorem IsPap.inv {d : PyData} (h : IsPap d) : ∃ (p f : Nat) (ds : List PyData), d = .tuple [.int (p : Nat), .int (f : Nat), .tuple ds] ∧ M.Prime p ∧ 1 ≤ f ∧ f < p ∧ (∀ d ∈ ds, IsPap (papOf d)) ∧ (∀ d ∈ ds, ∃ pap b, 1 ≤ b ∧ d = .tuple [pap, .int (b : Nat)]) ∧ M.IsFac (p - 1) (facD ds) ∧ M.Ord p f (p - 1) := by
  have hp := h.prime
  cases h with
  | mk p f ds h2 f1 f2 hq hr srt prod one no =>
    have hp' : M.Prime p := by
      have : pOf (.tuple [.int (p : Nat), .int (f : Nat), .tuple ds]) = p := Int.toNat_natCast p
      rwa [this] at hp
    have hl : M.IsFac (p - 1) (facD ds) := ⟨srt, fun x hx => by
      obtain ⟨d, hd, rfl⟩ := List.mem_map.mp hx
      obtain ⟨pap, b, hb, e⟩ := hr d hd
      refine ⟨(hq d hd).prime, ?_⟩
      rw [e]
      show 0 < ((b : Int)).toNat
      omega, prod⟩
    refine ⟨p, f, ds, rfl, hp', f1, f2, hq, hr, hl, (M.full_iff hp' (M.un_small (by omega) (by omega)) hl).mpr fun x hx => ?_⟩
    obtain ⟨d, hd, rfl⟩ := List.mem_map.mp hx
    exact no d hd
/-- a row that begins with a paper and a number -/
def RowK (k : Nat) (d : PyData) : Prop := ∃ (pap : PyData) (b : Nat) (rest : List PyData), d = .tuple (pap :: .int (b : Nat) :: rest) ∧ rest.length + 2 = k ∧ IsPap pap ∧ 1 ≤ b
/-- such rows, their primes above l and rising -/
def Rws (k : Nat) : Nat → List PyData → Prop
  | _, [] => True
  | l, d :: ds => RowK k d ∧ l < qOf d ∧ Rws k (qOf d) ds
theorem Rws.all {k : Nat} : ∀ {l : Nat} {ds : List PyData}, Rws k l ds → ∀ d ∈ ds, RowK k d ∧ l < qOf d
  | _, [], _, _, h => by simp at h
  | l, d :: ds, h, e, he => by
    rcases List.mem_cons.mp he with z | z
    · subst z; exact ⟨h.1, h.2.1⟩
    · have := Rws.all h.2.2 e z
      exact ⟨this.1, Nat.lt_trans h.2.1 this.2⟩
theorem Rws.sorted {k : Nat} : ∀ {l : Nat} {ds : List PyData}, Rws k l ds → (facD ds).Pairwise fun a b => a.1 < b.1
  | _, [], _ => .nil
  | l, d :: ds, h => List.pairwise_cons.mpr ⟨fun x hx => by
      obtain ⟨e, he, rfl⟩ := List.mem_map.mp hx
      exact (Rws.all h.2.2 e he).2, Rws.sorted h.2.2⟩
theorem Rws.of {k : Nat} : ∀ {l : Nat} {ds : List PyData}, (∀ d ∈ ds, RowK k d ∧ l < qOf d) → (facD ds).Pairwise (fun a b => a.1 < b.1) → Rws k l ds
  | _, [], _, _ => trivial
  | l, d :: ds, h, s => by
    have s' := List.pairwise_cons.mp s
    exact ⟨(h d (by simp)).1, (h d (by simp)).2, Rws.of (fun e he => ⟨(h e (by simp [he])).1, s'.1 _ (facD_mem he)⟩) s'.2⟩
theorem RowK.pap {k : Nat} {d : PyData} (h : RowK k d) : IsPap (papOf d) := by
  obtain ⟨pap, b, rest, rfl, _, h, _⟩ := h; exact h
theorem RowK.two {k : Nat} {d : PyData} (h : RowK k d) : 2 ≤ qOf d := h.pap.prime.1
theorem Rws.fac {k l : Nat} {ds : List PyData} (h : Rws k l ds) : M.IsFac (M.prodL (facD ds)) (facD ds) := ⟨h.sorted, fun x hx => by
  obtain ⟨d, hd, rfl⟩ := List.mem_map.mp hx
  obtain ⟨pap, b, rest, e, _, h1, h2⟩ := (h.all d hd).1
  subst e
  exact ⟨h1.prime, by show 0 < ((b : Int)).toNat; omega⟩, rfl⟩
/-- a parting paper of k -/
def IsPart (k : Int) (d : PyData) : Prop := ∃ ds, d = .tuple ds ∧ 1 ≤ k ∧ Rws 2 1 ds ∧ k = (M.prodL (facD ds) : Nat)
theorem isPap_iff {p f : Int} {d : PyData} (hp : 2 ≤ p) (hf : 1 ≤ f) : IsPap (.tuple [.int p, .int f, d]) ↔ f < p ∧ IsPart (p - 1) d ∧ M.pw p f (p - 1).toNat = 1 ∧ ∀ ds, d = .tuple ds → ∀ e ∈ ds, M.pw p f ((p - 1).toNat / qOf e) ≠ 1 := by
  obtain ⟨p, rfl⟩ := Int.eq_ofNat_of_zero_le (show 0 ≤ p by omega)
  obtain ⟨f, rfl⟩ := Int.eq_ofNat_of_zero_le (show 0 ≤ f by omega)
  have e1 : ((p : Int) - 1).toNat = p - 1 := by omega
  rw [e1]
  constructor
  · intro h
    cases h with
    | mk _ _ ds h2 f1 f2 hq hr srt prod one no =>
      refine ⟨by omega, ⟨ds, rfl, by omega, Rws.of (fun d hd => ?_) srt, by rw [prod]; omega⟩, one, fun ds' e => by cases e; exact no⟩
      obtain ⟨pap, b, hb, e⟩ := hr d hd
      have hpap := hq d hd
      exact ⟨⟨pap, b, [], e, rfl, by rw [e] at hpap; exact hpap, hb⟩, hpap.prime.1⟩
  · rintro ⟨h1, ⟨ds, rfl, h2, h3, h4⟩, one, no⟩
    refine .mk p f ds (by omega) (by omega) (by omega) (fun d hd => (h3.all d hd).1.pap) (fun d hd => ?_) h3.sorted (by omega) one (no ds rfl)
    obtain ⟨pap, b, rest, e, hl, _, hb⟩ := (h3.all d hd).1
    have : rest = [] := List.eq_nil_of_length_eq_zero (by omega)
    subst this
    exact ⟨pap, b, hb, e⟩
/-- a paper's first part in the heap -/
theorem DaF.pap {F : Addr → Prop} {H : Hp} {v : V} {d : PyData} (h : DaF F H v d) (hp : IsPap d) : ∃ (t : Addr) (xs : List V), v = .ref t ∧ H t = some (.tup (.int (pOf d : Nat) :: xs)) := by
  obtain ⟨p, f, ds, rfl, _⟩ := hp.inv
  cases h with
  | tup e h =>
    obtain ⟨x, y, z, ys, rfl, h1, _⟩ := h.three
    cases h1
    exact ⟨_, y :: z :: ys, rfl, e⟩
theorem DaF.row {F : Addr → Prop} {H : Hp} {v : V} {d : PyData} {k : Nat} (h : DaF F H v d) (hr : RowK k d) : ∃ (t s : Addr) (xs ys : List V), v = .ref t ∧ H t = some (.tup (.ref s :: .int (bOf d : Nat) :: xs)) ∧ H s = some (.tup (.int (qOf d : Nat) :: ys)) := by
  obtain ⟨pap, b, rest, rfl, _, hp, _⟩ := hr
  cases h with
  | tup e h =>
    obtain ⟨x, y, ys, rfl, h1, h2, h3⟩ := h.two
    cases h2
    obtain ⟨s, xs, rfl, es⟩ := h1.pap hp
    exact ⟨_, s, ys, xs, rfl, e, es⟩
/-- is_whole(thing, least) -/
def sp_is_whole : Sp := fun vs H Q _ => ∃ (v : V) (d : PyData) (l : Int), vs = [v, .int l] ∧ Da H v d ∧ Q (.bl (isW l d)) H
theorem ok_is_whole (T : Txt K mg) : FnOk P w K mg base CX0 1 (He.ga K "is_whole") (fd_is_whole T) ["thing", "least"] sp_is_whole := by
  refine (F_is_whole T).ok sc_is_whole (fun vs H Q E h => ?_) (fun cdv A outer s H vs Q E hr h => ⟨_, PSs.nox (pss_one (ps_ret (pe_and (pe_callB call_isi rfl (T.fr (T.c.fact 52 rfl)) boot_isinstance (pa_cons (pv 0) (pa_cons (pe_bltn (v := .ty "int") rfl (T.fr (T.c.fact 53 rfl)) boot_int rfl) pa_nil))) (pe_and (pe_not (pe_callB call_isi rfl (T.fr (T.c.fact 52 rfl)) boot_isinstance (pa_cons (pv 0) (pa_cons (pe_bltn (v := .ty "bool") rfl (T.fr (T.c.fact 54 rfl)) boot_bool rfl) pa_nil)))) (pe_one (pe_cmpR op_ge (pv 0) (pv 1) (nomark _))))))), ?_⟩)
  · obtain ⟨v, d, l, rfl, _⟩ := h; rfl
  · obtain ⟨v, d, l, rfl, hd, k⟩ := h
    cases hd with
    | non => walk_at "g"; refine s_isi .non kb_ni ?_; walk_at "g"; exact k
    | bl b => walk_at "g"; refine s_isi (.bl b) kb_bi ?_; walk_at "g"; refine s_isi (.bl b) kb_bb ?_; walk_at "g"; exact k
    | int i => walk_at "g"; exact k
    | str x => walk_at "g"; refine s_isi (.str x) kb_si ?_; walk_at "g"; exact k
    | lst e _ => walk_at "g"; refine s_isi (.lst e) kb_li ?_; walk_at "g"; exact k
    | tup e _ => walk_at "g"; refine s_isi (.tup e) kb_ti ?_; walk_at "g"; exact k
/-- is_row_of(thing, many) -/
def sp_is_row_of : Sp := fun vs H Q _ => ∃ (v : V) (d : PyData) (k : Int), vs = [v, .int k] ∧ Da H v d ∧ Q (.bl (isR k d)) H
theorem ok_is_row_of (T : Txt K mg) : FnOk P w K mg base CX0 1 (He.ga K "is_row_of") (fd_is_row_of T) ["thing", "many"] sp_is_row_of := by
  refine (F_is_row_of T).ok sc_is_row_of (fun vs H Q E h => ?_) (fun cdv A outer s H vs Q E hr h => ⟨_, PSs.nox (pss_one (ps_ret (pe_and (pe_callB call_isi rfl (T.fr (T.c.fact 52 rfl)) boot_isinstance (pa_cons (pv 0) (pa_cons (pe_bltn (v := .ty "tuple") rfl (T.fr (T.c.fact 55 rfl)) boot_tuple rfl) pa_nil))) (pe_one (pe_cmpR op_eq (pe_callB callLen rfl (T.fr (T.c.fact 56 rfl)) boot_len (pa_cons (pv 0) pa_nil)) (pv 1) (nomark _)))))), ?_⟩)
  · obtain ⟨v, d, k, rfl, _⟩ := h; rfl
  · obtain ⟨v, d, k, rfl, hd, q⟩ := h
    cases hd with
    | non => walk_at "g"; refine s_isi .non kb_nt ?_; walk_at "g"; exact q
    | bl b => walk_at "g"; refine s_isi (.bl b) kb_bt ?_; walk_at "g"; exact q
    | int i => walk_at "g"; refine s_isi (.int i) kb_it ?_; walk_at "g"; exact q
    | str x => walk_at "g"; refine s_isi (.str x) kb_st ?_; walk_at "g"; exact q
    | lst e _ => walk_at "g"; refine s_isi (.lst e) kb_lt ?_; walk_at "g"; exact q
    | tup e h =>
      walk_at "g"; refine s_isi (.tup e) kb_tt ?_; walk_at "g"
      refine s_lenT (SqT.of e) ?_
      walk_at "g"
      rw [h.len]
      exact q
/-- comes_to(things, n) -/
def sp_comes_to : Sp := fun vs H Q _ => ∃ (u : Addr) (xs : List V) (ds : List PyData) (k : Nat) (n : Int), vs = [.ref u, .int n] ∧ H u = some (.tup xs) ∧ DaL (fun _ => True) H xs ds ∧ (∀ d ∈ ds, RowK k d) ∧ (∀ d ∈ ds, qOf d < 2 ^ 300) ∧ n.natAbs < 2 ^ 900 ∧
  ∀ b : Bool, (b = true ↔ n = (M.prodL (facD ds) : Nat)) → Q (.bl b) H
theorem ok_comes_to (T : Txt K mg) : FnOk P w K mg base CX0 1 (He.ga K "comes_to") (fd_comes_to T) ["things", "n"] sp_comes_to := by
  refine (F_comes_to T).ok sc_comes_to (fun vs H Q E h => ?_) (fun cdv A outer s H vs Q E hr h => ⟨_, PSs.nox (pss_cons (ps_for PassesOwn.never rfl (pi_tup (pv 0)) (pg_name (i := 2) sc_comes_to.nd rfl (Or.inl rfl)) (pss_one (ps_for PassesOwn.never rfl (RLong.pi_rangeW rfl (T.fr (T.c.fact 57 rfl)) (pa_cons (pe_ix ix_seq (pv 2) pe_int (fun _ _ => rfl)) pa_nil)) (pg_name (i := 3) sc_comes_to.nd rfl (Or.inl rfl)) (pss_cons (ps_if (PW.pt (pw_or (pt_cmpR op_lt (pv 1) pe_int (nomark _)) (pw_or1 (pt_cmpR op_ne (pe_op op_mod (pv 1) (pe_ix ix_seq (pe_ix ix_seq (pv 2) pe_int (fun _ _ => rfl)) pe_int (fun _ _ => rfl))) pe_int (nomark _))))) (pss_one (ps_ret pe_bl)) pss_nil)
      (pss_one (ps_set (i := 1) sc_comes_to.nd rfl (Or.inl rfl) (pe_op op_fdivW (pv 1) (pe_ix ix_seq (pe_ix ix_seq (pv 2) pe_int (fun _ _ => rfl)) pe_int (fun _ _ => rfl)))))))))
      (pss_one (ps_ret (pe_cmpR op_eq (pv 1) pe_int (nomark _))))), ?_⟩)
  · obtain ⟨u, xs, ds, k, n, rfl, _⟩ := h; rfl
  · obtain ⟨u, xs, ds, k, n0, rfl, eu, hds, hrow, hqb, hnb, kk⟩ := h
    have pos : ∀ i, 0 < M.prodL (facD (ds.drop i)) := fun i => prodL_pos0 fun x hx => by
      obtain ⟨d, hd, rfl⟩ := List.mem_map.mp hx
      have := (hrow d (List.mem_of_mem_drop hd)).two
      show 0 < qOf d
      omega
    walk_at "g"
    refine ⟨⟨_, SqT.of eu⟩, ?_⟩
    refine for_tup (fun i σ H' => H' = H ∧ ∃ (n : Int) (v1 v2 : Option V), σ = [some (.ref u), some (.int n), v1, v2] ∧ n.natAbs < 2 ^ 900 ∧ (n0 = (M.prodL (facD ds) : Nat) ↔ n = (M.prodL (facD (ds.drop i)) : Nat))) ⟨rfl, n0, none, none, rfl, hnb, by rw [List.drop_zero]⟩ (fun i σ H' _ I => by rw [I.1]; exact SqT.of eu) ?_ ?_
    · rintro i x σ H' hi ⟨rfl, n, v1, v2, rfl, nb, inv⟩
      obtain ⟨d, hdi, hd⟩ := hds.get hi
      have hmem := List.mem_of_getElem? hdi
      obtain ⟨t, s, ys, zs, rfl, et, es⟩ := hd.row (hrow d hmem)
      have q2 := (hrow d hmem).two
      have qb := hqb d hmem
      have hil : i < ds.length := (List.getElem?_eq_some_iff.mp hdi).1
      have hdr : ds.drop i = d :: ds.drop (i + 1) := by
        rw [List.drop_eq_getElem_cons hil, (List.getElem?_eq_some_iff.mp hdi).2]
      rw [hdr] at inv
      have hR0 := pos (i + 1)
      have e0 : M.prodL (facD (d :: ds.drop (i + 1))) = qOf d ^ bOf d * M.prodL (facD (ds.drop (i + 1))) := rfl
      rw [e0] at inv
      generalize M.prodL (facD (ds.drop (i + 1))) = R at inv hR0 ⊢
      generalize qOf d = q at *
      generalize bOf d = b at *
      walk_at "g"
      refine s_rngW ?_
      walk_at "g"
      refine s_ixT (SqT.of et) (atI0 1 rfl rfl) ?_
      walk_at "g"
      refine mkRW b (by show (b : Int).toNat = b; omega) ?_
      refine for_range (n := b) (fun j σ H2 => H2 = H' ∧ ∃ (n : Int) (v2 : Option V), σ = [some (.ref u), some (.int n), some (.ref t), v2] ∧ n.natAbs < 2 ^ 900 ∧ (n0 = (M.prodL (facD ds) : Nat) ↔ n = ((q ^ (b - j) * R : Nat) : Int))) ⟨rfl, n, _, rfl, nb, by rw [Nat.sub_zero]; exact inv⟩ ?_ ?_
      · rintro j σ H2 hj ⟨rfl, n, v2, rfl, nb, inv⟩
        obtain ⟨c, hc⟩ : ∃ c, b - j = c + 1 := ⟨b - j - 1, by omega⟩
        have hc2 : b - (j + 1) = c := by omega
        rw [hc] at inv
        have ep : q ^ (c + 1) * R = q * (q ^ c * R) := by rw [Nat.pow_succ]; grind
        rw [ep] at inv
        have hpos : 0 < q * (q ^ c * R) := Nat.mul_pos (by omega) (Nat.mul_pos (Nat.pow_pos (by omega)) hR0)
        walk_at "g"
        refine s_ite (fun c1 => ?_) (fun c1 => ?_)
        · walk_at "g"
          refine kk false ⟨fun z => (nomatch z), fun z => ?_⟩
          have := inv.mp z
          omega
        · walk_at "g"
          refine s_ixT (SqT.of et) (atI0 0 rfl rfl) ?_
          walk_at "g"
          refine s_ixT (SqT.of es) (atI0 0 rfl rfl) ?_
          walk_at "g"
          refine s_i (by omega) ?_
          walk_at "g"
          refine s_iten (fun c2 => ?_) (fun c2 => ?_)
          · walk_at "g"
            refine kk false ⟨fun z => (nomatch z), fun z => ?_⟩
            have := inv.mp z
            exact absurd (Int.emod_eq_zero_of_dvd (by rw [this]; exact Int.natCast_dvd_natCast.mpr (Nat.dvd_mul_right _ _))) c2
          · obtain ⟨n', rfl⟩ := Int.eq_ofNat_of_zero_le (show 0 ≤ n by omega)
            obtain ⟨e, rfl⟩ : q ∣ n' := Int.natCast_dvd_natCast.mp (Int.dvd_of_emod_eq_zero c2)
            have e3 : ((q * e : Nat) : Int) / (q : Int) = (e : Int) := by push_cast; exact Int.mul_ediv_cancel_left _ (by omega)
            have hdle : e ≤ q * e := Nat.le_mul_of_pos_left _ (by omega)
            walk_at "g"
            refine s_ixT (SqT.of et) (atI0 0 rfl rfl) ?_
            walk_at "g"
            refine s_ixT (SqT.of es) (atI0 0 rfl rfl) ?_
            walk_at "g"
            refine s_i (divW (by omega) (by omega)) ?_
            walk_at "g"
            rw [e3]
            refine ⟨rfl, (e : Int), _, rfl, by omega, ?_⟩
            rw [hc2, inv]
            constructor
            · intro z
              have z' : q * e = q * (q ^ c * R) := by omega
              have := Nat.eq_of_mul_eq_mul_left (show 0 < q by omega) z'
              omega
            · intro z
              have : e = q ^ c * R := by omega
              rw [this]
      · rintro σ H2 ⟨rfl, n, v2, rfl, nb, inv⟩
        rw [Nat.sub_self, Nat.pow_zero, Nat.one_mul] at inv
        walk_at "g"
        exact ⟨rfl, n, _, _, rfl, nb, inv⟩
    · rintro σ H' ⟨rfl, n, v1, v2, rfl, nb, inv⟩
      rw [hds.len, List.drop_length] at inv
      walk_at "g"
      refine kk _ ?_
      rw [inv, decide_eq_true_iff]
      rfl
/-- is_prime_paper(thing) -/
def sp_is_prime_paper (n : Nat) : Sp := fun vs H Q _ => ∃ (v : V) (d : PyData), vs = [v] ∧ Da H v d ∧ Bd (3 * n) d ∧ ∀ (b : Bool) H', (b = true ↔ IsPap d) → Same H H' → Q (.bl b) H'
/-- are_papers(things, many) -/
def sp_are_papers (n : Nat) : Sp := fun vs H Q _ => ∃ (v : V) (d : PyData) (k : Nat), vs = [v, .int (k : Nat)] ∧ 2 ≤ k ∧ Da H v d ∧ Bd (3 * n + 2) d ∧ ∀ (b : Bool) H', (b = true ↔ ∃ ds, d = .tuple ds ∧ Rws k 1 ds) → Same H H' → Q (.bl b) H'
/-- is_parting_paper(n, thing) -/
def sp_is_parting_paper (n : Nat) : Sp := fun vs H Q _ => ∃ (v : V) (d : PyData) (k : Int), vs = [.int k, v] ∧ Da H v d ∧ Bd (3 * n + 2) d ∧ k.natAbs < 2 ^ 900 ∧ ∀ (b : Bool) H', (b = true ↔ IsPart k d) → Same H H' → Q (.bl b) H'
theorem RowK.qb {k n : Nat} {d : PyData} (h : RowK k d) (hb : Bd n d) : qOf d < 2 ^ 300 := by
  obtain ⟨pap, b, rest, rfl, _, hp, _⟩ := h
  obtain ⟨p, f, ds, rfl, _⟩ := hp.inv
  obtain ⟨m, rfl, _, h1⟩ := hb.tup_inv
  obtain ⟨m', rfl, _, h2⟩ := (h1 (.tuple [.int (p : Nat), .int (f : Nat), .tuple ds]) (by simp)).tup_inv
  have h3 := (h2 (.int (p : Nat)) (by simp)).int_inv
  show ((p : Int)).toNat < _
  omega
theorem ok_arePapersS (T : Txt K mg) {n : Nat} (IH : FnOk P w K mg base CX0 (3 * n + 10) (He.ga K "is_prime_paper") (fd_is_prime_paper T) ["thing"] (sp_is_prime_paper n)) : FnOk P w K mg base CX0 (3 * n + 11) (He.ga K "are_papers") (fd_are_papers T) ["things", "many"] (sp_are_papers n) := by
  refine (F_are_papers T).ok sc_are_papers (fun vs H Q E h => ?_) (fun cdv A outer s H vs Q E hr h => ⟨_, PSs.nox (pss_cons (ps_if (pt_not (pt_val (pe_callB call_isi rfl (T.fr (T.c.fact 52 rfl)) boot_isinstance (pa_cons (pv 0) (pa_cons (pe_bltn (v := .ty "tuple") rfl (T.fr (T.c.fact 55 rfl)) boot_tuple rfl) pa_nil))))) (pss_one (ps_ret pe_bl)) pss_nil)
      (pss_cons (ps_set (i := 2) sc_are_papers.nd rfl (Or.inl rfl) pe_int)
      (pss_cons (ps_for PassesOwn.never rfl (pi_tup (pv 0)) (pg_name (i := 3) sc_are_papers.nd rfl (Or.inl rfl)) (pss_cons (ps_if (PW.pt (pw_or (pt_not (pt_val (pe_call (ok_is_row_of T) (hr.mono (by omega)) rfl (g_is_row_of T) (kp_is_row_of T) (B_is_row_of T) .nil pass0 (pa_cons (pv 3) (pa_cons (pv 1) pa_nil))))) (pw_or (pt_not (pt_val (pe_call (IH) (hr.mono (by omega)) rfl (g_is_prime_paper T) (kp_is_prime_paper T) (B_is_prime_paper T) .nil pass0 (pa_cons (pe_ix ix_seq (pv 3) pe_int (fun _ _ => rfl)) pa_nil)))) (pw_or1 (pt_not (pt_val (pe_call (ok_is_whole T) (hr.mono (by omega)) rfl (g_is_whole T) (kp_is_whole T) (B_is_whole T) .nil pass0 (pa_cons (pe_ix ix_seq (pv 3) pe_int (fun _ _ => rfl)) (pa_cons pe_int pa_nil))))))))) (pss_one (ps_ret pe_bl)) pss_nil)
      (pss_cons (ps_if (pt_cmpR op_le (pe_ix ix_seq (pe_ix ix_seq (pv 3) pe_int (fun _ _ => rfl)) pe_int (fun _ _ => rfl)) (pv 2) (nomark _)) (pss_one (ps_ret pe_bl)) pss_nil)
      (pss_one (ps_set (i := 2) sc_are_papers.nd rfl (Or.inl rfl) (pe_ix ix_seq (pe_ix ix_seq (pv 3) pe_int (fun _ _ => rfl)) pe_int (fun _ _ => rfl)))))))
      (pss_one (ps_ret pe_bl))))), ?_⟩)
  · obtain ⟨v, d, k, rfl, _⟩ := h; rfl
  · obtain ⟨v, d, k, rfl, k2, hd, hb, q⟩ := h
    have no : isTup d = false → ¬ ∃ ds, d = .tuple ds ∧ Rws k 1 ds := fun z ⟨ds, e, _⟩ => by subst e; cases z
    walk_at "g"
    refine s_isiTup hd ?_
    walk_at "g"
    cases et : isTup d with
    | false =>
      walk_at "g"
      exact q false H ⟨fun z => (nomatch z), fun z => absurd z (no et)⟩ (Same.refl _)
    | true =>
    cases hd with
    | non => cases et
    | bl b => cases et
    | int i => cases et
    | str x => cases et
    | lst _ _ => cases et
    | @tup u xs ds eu hds =>
    obtain ⟨m, em, hlen, hbd⟩ := hb.tup_inv
    have hbd' : ∀ e ∈ ds, Bd (3 * n + 1) e := fun e he => by rw [show 3 * n + 1 = m by omega]; exact hbd e he
    walk_at "g"
    refine ⟨⟨_, SqT.of eu⟩, ?_⟩
    refine for_tup (fun i σ H' => Same H H' ∧ ∃ (l : Nat) (v : Option V), σ = [some (.ref u), some (.int k), some (.int l), v] ∧ (Rws k 1 ds ↔ Rws k l (ds.drop i))) ⟨Same.refl _, 1, none, rfl, by rw [List.drop_zero]⟩ (fun i σ H' _ I => SqT.of (I.1 _ _ eu)) ?_ ?_
    · rintro i x σ H' hi ⟨hs, l, v, rfl, inv⟩
      obtain ⟨d, hdi, hd0⟩ := hds.get hi
      have hd := hd0.same hs
      have hmem := List.mem_of_getElem? hdi
      have hbdd := hbd' d hmem
      have hil : i < ds.length := (List.getElem?_eq_some_iff.mp hdi).1
      have hdr : ds.drop i = d :: ds.drop (i + 1) := by
        rw [List.drop_eq_getElem_cons hil, (List.getElem?_eq_some_iff.mp hdi).2]
      rw [hdr] at inv
      have bad : ∀ H2, Same H H2 → ¬ (RowK k d ∧ l < qOf d) → Q (.bl false) H2 := fun H2 s2 nn => q false H2 ⟨fun z => (nomatch z), fun ⟨ds', e, z⟩ => by
        cases e
        have z' := inv.mp z
        exact absurd ⟨z'.1, z'.2.1⟩ nn⟩ s2
      walk_at "g"
      refine ⟨x, d, (k : Nat), rfl, hd, ?_⟩
      walk_at "g"
      cases er : isR (k : Nat) d with
      | false =>
        walk_at "g"
        refine bad H' hs fun ⟨⟨pap, b, rest, e, hl, _⟩, _⟩ => ?_
        subst e
        rw [isR_tup, decide_eq_true (by simp only [List.length_cons]; omega)] at er
        cases er
      | true =>
      obtain ⟨es, rfl, hlk⟩ := isR_inv er
      obtain ⟨e0, e1, et', rfl⟩ : ∃ e0 e1 er, es = e0 :: e1 :: er := by
        match es, hlk with
        | [], h => simp at h; omega
        | [_], h => simp at h; omega
        | a :: b :: c, _ => exact ⟨a, b, c, rfl⟩
      obtain ⟨m', em', _, hbe⟩ := hbdd.tup_inv
      have hbe0 : Bd (3 * n) e0 := by rw [show 3 * n = m' by omega]; exact hbe e0 (by simp)
      cases hd with
      | @tup t ys _ et hes =>
      obtain ⟨y0, y1, yr, rfl, h0, h1, h2⟩ := hes.two
      walk_at "g"
      refine s_ixT (SqT.of et) (atI0 0 rfl rfl) ?_
      walk_at "g"
      refine ⟨y0, e0, rfl, h0, hbe0, fun bb H2 hbb s2 => ?_⟩
      have s02 := hs.trans s2
      have et2 := s2 _ _ et
      walk_at "g"
      cases bb with
      | false =>
        walk_at "g"
        refine bad H2 s02 fun ⟨⟨pap, b, rest, e, hl, hp, _⟩, _⟩ => ?_
        cases e
        exact absurd (hbb.mpr hp) (by simp)
      | true =>
      have hp : IsPap e0 := hbb.mp rfl
      walk_at "g"
      refine s_ixT (SqT.of et2) (atI0 1 rfl rfl) ?_
      walk_at "g"
      refine ⟨y1, e1, 1, rfl, h1.same s2, ?_⟩
      walk_at "g"
      cases ew : isW 1 e1 with
      | false =>
        walk_at "g"
        refine bad H2 s02 fun ⟨⟨pap, b, rest, e, hl, hp, hb1⟩, _⟩ => ?_
        cases e
        rw [isW_int, decide_eq_true (by omega)] at ew
        cases ew
      | true =>
      obtain ⟨bi, rfl, hb1⟩ := isW_inv ew
      obtain ⟨b, rfl⟩ := Int.eq_ofNat_of_zero_le (show 0 ≤ bi by omega)
      obtain ⟨s, zs, rfl, es⟩ := (h0.same s2).pap hp
      have hrow : RowK k (.tuple (e0 :: .int (b : Nat) :: et')) := ⟨e0, b, et', rfl, by simp at hlk; omega, hp, by omega⟩
      walk_at "g"
      refine s_ixT (SqT.of et2) (atI0 0 rfl rfl) ?_
      walk_at "g"
      refine s_ixT (SqT.of es) (atI0 0 rfl rfl) ?_
      walk_at "g"
      refine s_ite (fun c => ?_) (fun c => ?_)
      · walk_at "g"
        refine bad H2 s02 fun z => ?_
        have : l < pOf e0 := z.2
        omega
      · walk_at "g"
        refine s_ixT (SqT.of et2) (atI0 0 rfl rfl) ?_
        walk_at "g"
        refine s_ixT (SqT.of es) (atI0 0 rfl rfl) ?_
        walk_at "g"
        refine ⟨s02, pOf e0, _, rfl, inv.trans ⟨fun z => z.2.2, fun z => ⟨hrow, ?_, z⟩⟩⟩
        show l < pOf e0
        omega
    · rintro σ H' ⟨hs, l, v, rfl, inv⟩
      rw [hds.len, List.drop_length] at inv
      walk_at "g"
      exact q true H' ⟨fun _ => ⟨ds, rfl, inv.mpr trivial⟩, fun _ => rfl⟩ hs
theorem ok_partingS (T : Txt K mg) {n : Nat} (IH : FnOk P w K mg base CX0 (3 * n + 11) (He.ga K "are_papers") (fd_are_papers T) ["things", "many"] (sp_are_papers n)) : FnOk P w K mg base CX0 (3 * n + 12) (He.ga K "is_parting_paper") (fd_is_parting_paper T) ["n", "thing"] (sp_is_parting_paper n) := by
  refine (F_is_parting_paper T).ok sc_is_parting_paper (fun vs H Q E h => ?_) (fun cdv A outer s H vs Q E hr h => ⟨_, PSs.nox (pss_one (ps_ret (pe_and (pe_cmpR op_ge (pv 0) pe_int (nomark _)) (pe_and (pe_call (IH) (hr.mono (by omega)) rfl (g_are_papers T) (kp_are_papers T) (B_are_papers T) .nil pass0 (pa_cons (pv 1) (pa_cons pe_int pa_nil))) (pe_one (pe_call (ok_comes_to T) (hr.mono (by omega)) rfl (g_comes_to T) (kp_comes_to T) (B_comes_to T) .nil pass0 (pa_cons (pv 1) (pa_cons (pv 0) pa_nil)))))))), ?_⟩)
  · obtain ⟨v, d, k, rfl, _⟩ := h; rfl
  · obtain ⟨v, d, k, rfl, hd, hb, kb, q⟩ := h
    walk_at "g"
    refine s_ite (fun c => ?_) (fun c => ?_)
    · walk_at "g"
      refine ⟨v, d, 2, rfl, by decide, hd, hb, fun b H1 hbb s1 => ?_⟩
      walk_at "g"
      cases b with
      | false =>
        walk_at "g"
        refine q false H1 ⟨fun z => (nomatch z), fun ⟨ds, e, _, h, _⟩ => hbb.mpr ⟨ds, e, h⟩⟩ s1
      | true =>
      obtain ⟨ds, rfl, hR⟩ := hbb.mp rfl
      cases hd with
      | @tup u xs _ eu hds =>
      obtain ⟨m, em, hlen, hbd⟩ := hb.tup_inv
      walk_at "g"
      refine ⟨u, xs, ds, 2, k, rfl, s1 _ _ eu, hds.same s1, fun d hd => (hR.all d hd).1, fun d hd => (hR.all d hd).1.qb (hbd d hd), kb, fun b hb => q b H1 (hb.trans ⟨fun z => ⟨ds, rfl, c, hR, z⟩, fun ⟨ds', e, _, _, z⟩ => by cases e; exact z⟩) s1⟩
    · walk_at "g"
      exact q false H ⟨fun z => (nomatch z), fun ⟨_, _, z, _⟩ => absurd z c⟩ (Same.refl _)
theorem ok_primePaperS (T : Txt K mg) {n : Nat} (IH : FnOk P w K mg base CX0 (3 * n + 12) (He.ga K "is_parting_paper") (fd_is_parting_paper T) ["n", "thing"] (sp_is_parting_paper n)) : FnOk P w K mg base CX0 (3 * n + 13) (He.ga K "is_prime_paper") (fd_is_prime_paper T) ["thing"] (sp_is_prime_paper (n + 1)) := by
  refine (F_is_prime_paper T).ok sc_is_prime_paper (fun vs H Q E h => ?_) (fun cdv A outer s H vs Q E hr h => ⟨_, PSs.nox (pss_cons (ps_if (PW.pt (pw_or (pt_not (pt_val (pe_call (ok_is_row_of T) (hr.mono (by omega)) rfl (g_is_row_of T) (kp_is_row_of T) (B_is_row_of T) .nil pass0 (pa_cons (pv 0) (pa_cons pe_int pa_nil))))) (pw_or (pt_not (pt_val (pe_call (ok_is_whole T) (hr.mono (by omega)) rfl (g_is_whole T) (kp_is_whole T) (B_is_whole T) .nil pass0 (pa_cons (pe_ix ix_seq (pv 0) pe_int (fun _ _ => rfl)) (pa_cons pe_int pa_nil))))) (pw_or1 (pt_not (pt_val (pe_call (ok_is_whole T) (hr.mono (by omega)) rfl (g_is_whole T) (kp_is_whole T) (B_is_whole T) .nil pass0 (pa_cons (pe_ix ix_seq (pv 0) pe_int (fun _ _ => rfl)) (pa_cons pe_int pa_nil))))))))) (pss_one (ps_ret pe_bl)) pss_nil)
      (pss_cons (ps_asg (pv 0) (pg_tup rfl (pgs_cons (pg_name (i := 1) sc_is_prime_paper.nd rfl (Or.inr rfl)) (pgs_cons (pg_name (i := 2) sc_is_prime_paper.nd rfl (Or.inr rfl)) (pgs_cons (pg_name (i := 3) sc_is_prime_paper.nd rfl (Or.inl rfl)) pgs_nil)))))
      (pss_cons (ps_if (PW.pt (pw_or (pt_cmpR op_ge (pv 2) (pv 1) (nomark _)) (pw_or (pt_not (pt_val (pe_call (IH) (hr.mono (by omega)) rfl (g_is_parting_paper T) (kp_is_parting_paper T) (B_is_parting_paper T) .nil pass0 (pa_cons (pe_op op_sub (pv 1) pe_int) (pa_cons (pv 3) pa_nil))))) (pw_or1 (pt_cmpR op_ne (pe_call (ok_power T) (hr.mono (by omega)) rfl (g_power T) (kp_power T) (B_power T) .nil passL (pa_cons (pv 1) (pa_cons (pv 2) (pa_cons (pe_op op_sub (pv 1) pe_int) pa_nil)))) pe_int (nomark _)))))) (pss_one (ps_ret pe_bl)) pss_nil)
      (pss_one (ps_ret (pe_not (pe_callB (cr_any rfl) rfl (T.fr (T.c.fact 58 rfl)) boot_any (pa_cons (pe_lc (own := [("part", 4)]) (tt := tYes) rfl sc_is_prime_paper.nd (pi_tup (pv 3)) (blkOk_by (N := N_is_prime_paper) (sc := defScope s_is_prime_paper) (by decide +kernel)) (fun _ _ _ _ _ => (pg_name (i := 4) sc_is_prime_paper.nd rfl (Or.inl rfl))) (fun _ _ _ _ _ => pts_nil) (fun _ _ _ _ _ => (pe_cmpR op_eq (pe_call (ok_power T) (hr.mono (by omega)) rfl (g_power T) (kp_power T) (B_power T) .nil passL (pa_cons (pv 1) (pa_cons (pv 2) (pa_cons (pe_op op_fdivW (pe_op op_sub (pv 1) pe_int) (pe_ix (R.ix_seqK K rfl) (pe_ix (R.ix_seqK K rfl) (pv 4) pe_int (fun _ _ => rfl)) pe_int (fun _ _ => rfl))) pa_nil)))) pe_int (nomark _)))) pa_nil)))))))), ?_⟩)
  · obtain ⟨v, d, rfl, _⟩ := h; rfl
  · obtain ⟨v, d, rfl, hd, hb, q⟩ := h
    have bad : ∀ H2, Same H H2 → ¬ IsPap d → Q (.bl false) H2 := fun H2 s2 nn => q false H2 ⟨fun z => (nomatch z), fun z => absurd z nn⟩ s2
    walk_at "g"
    refine ⟨v, d, 3, rfl, hd, ?_⟩
    walk_at "g"
    cases er : isR 3 d with
    | false =>
      walk_at "g"
      refine bad H (Same.refl _) fun z => ?_
      obtain ⟨p, f, ds, rfl, _⟩ := z.inv
      cases er
    | true =>
    obtain ⟨es, rfl, hl⟩ := isR_inv er
    obtain ⟨e0, e1, e2, rfl⟩ : ∃ e0 e1 e2, es = [e0, e1, e2] := by
      match es, hl with
      | [a, b, c], _ => exact ⟨a, b, c, rfl⟩
      | [], h => simp at h
      | [_], h => simp at h
      | [_, _], h => simp at h
      | _ :: _ :: _ :: _ :: _, h => simp at h; omega
    obtain ⟨m, em, _, hbe⟩ := hb.tup_inv
    have hb2 : Bd (3 * n + 2) e2 := by rw [show 3 * n + 2 = m by omega]; exact hbe e2 (by simp)
    cases hd with
    | @tup t ys _ et hes =>
    obtain ⟨y0, y1, y2, yr, rfl, h0, h1, h2, h3⟩ := hes.three
    cases h3
    walk_at "g"
    refine s_ixT (SqT.of et) (atI0 0 rfl rfl) ?_
    walk_at "g"
    refine ⟨y0, e0, 2, rfl, h0, ?_⟩
    walk_at "g"
    cases ew : isW 2 e0 with
    | false =>
      walk_at "g"
      refine bad H (Same.refl _) fun z => ?_
      obtain ⟨p, f, ds, e, hp, _⟩ := z.inv
      cases e
      have := hp.1
      rw [isW_int, decide_eq_true (show (2 : Int) ≤ (p : Int) by omega)] at ew
      cases ew
    | true =>
    obtain ⟨p, rfl, p2⟩ := isW_inv ew
    walk_at "g"
    refine s_ixT (SqT.of et) (atI0 1 rfl rfl) ?_
    walk_at "g"
    refine ⟨y1, e1, 1, rfl, h1, ?_⟩
    walk_at "g"
    cases ew1 : isW 1 e1 with
    | false =>
      walk_at "g"
      refine bad H (Same.refl _) fun z => ?_
      obtain ⟨p, f, ds, e, hp, hf, _⟩ := z.inv
      cases e
      rw [isW_int, decide_eq_true (show (1 : Int) ≤ (f : Int) by omega)] at ew1
      cases ew1
    | true =>
    obtain ⟨f, rfl, f1⟩ := isW_inv ew1
    cases h0
    cases h1
    have hpb := (hbe (.int p) (by simp)).int_inv
    have hfb := (hbe (.int f) (by simp)).int_inv
    have iff := isPap_iff (d := e2) p2 f1
    walk_at "g"
    refine s_gtup (SqT.of et) rfl ?_
    walk_at "g"
    refine s_ite (fun c => ?_) (fun c => ?_)
    · walk_at "g"
      exact bad H (Same.refl _) fun z => by have := (iff.mp z).1; omega
    walk_at "g"
    refine ⟨y2, e2, p - 1, rfl, h2, hb2, by omega, fun b H1 hbb s1 => ?_⟩
    walk_at "g"
    cases b with
    | false =>
      walk_at "g"
      exact bad H1 s1 fun z => absurd (hbb.mpr (iff.mp z).2.1) (by simp)
    | true =>
    have hpart := hbb.mp rfl
    walk_at "g"
    refine pos_power (m := (p - 1).toNat) (by omega) (by omega) (by omega) ?_
    walk_at "g"
    refine s_iten (fun c2 => ?_) (fun c2 => ?_)
    · walk_at "g"
      exact bad H1 s1 fun z => c2 (iff.mp z).2.2.1
    obtain ⟨ds, rfl, hp1, hR, hprod⟩ := id hpart
    cases h2 with
    | @tup u xs _ eu hds =>
    obtain ⟨m2, _, hlen, hbd⟩ := hb2.tup_inv
    have eu1 := s1 _ _ eu
    have hds1 := hds.same s1
    walk_at "g"
    refine s_lc ?_
    walk_at "g"
    refine ⟨⟨_, SqT.of eu1⟩, fun D hD => ?_⟩
    refine lc_tup (fun i H3 => Same H1 H3 ∧ H3 D = some (.lst (((ds.take i).map fun d => decide (M.pw p f ((p - 1).toNat / qOf d) = 1)).map V.bl))) ⟨same_upd hD, upd_same⟩ (fun i H3 _ I => SqT.of (I.1 _ _ eu1)) ?_ ?_
    · rintro i x H3 hi ⟨s3, hb3⟩
      obtain ⟨d, hdi, hd0⟩ := hds1.get hi
      have hmem := List.mem_of_getElem? hdi
      have hrow := (hR.all d hmem).1
      obtain ⟨t', s, ys, zs, rfl, et', es⟩ := (hd0.same s3).row hrow
      have q2 := hrow.two
      have qb := hrow.qb (hbd d hmem)
      have hil : i < ds.length := (List.getElem?_eq_some_iff.mp hdi).1
      walk_at "g"
      refine ⟨rfl, ?_⟩
      walk_at "g"
      refine s_ixT (SqT.of et') (atI0 0 rfl rfl) ?_
      walk_at "g"
      refine s_ixT (SqT.of es) (atI0 0 rfl rfl) ?_
      walk_at "g"
      refine s_i (divW (by omega) (by omega)) ?_
      walk_at "g"
      refine pos_power (m := (p - 1).toNat / qOf d) (by rw [Int.natCast_ediv, Int.toNat_of_nonneg (by omega)]) (by omega) (by omega) ?_
      walk_at "g"
      refine ⟨_, hb3, small1000 (by rw [List.length_map, List.length_map, List.length_take]; omega), same_upd' s3 hD, ?_⟩
      rw [upd_same, take_more hdi, List.map_append, List.map_append]; rfl
    · rintro H3 ⟨s3, hb3⟩
      rw [hds.len, List.take_length] at hb3
      walk_at "g"
      refine ⟨D, _, rfl, SqL.of hb3, ?_⟩
      walk_at "g"
      refine q _ H3 ?_ (s1.trans s3)
      rw [Bool.not_eq_true', List.any_eq_false, iff]
      constructor
      · intro h
        refine ⟨by omega, hpart, c2, fun ds' e => ?_⟩
        cases e
        intro d hd e
        exact h _ (List.mem_map.mpr ⟨d, hd, rfl⟩) (decide_eq_true e)
      · rintro ⟨_, _, _, h⟩ b hb4
        obtain ⟨d, hd, rfl⟩ := List.mem_map.mp hb4
        intro e
        exact h ds rfl d hd (of_decide_eq_true e)
/-- is_prime_paper of a thing that is no tuple: the bottom -/
theorem ok_primePaper0 (T : Txt K mg) (IH : FnOk P w K mg base CX0 9 (He.ga K "is_parting_paper") (fd_is_parting_paper T) ["n", "thing"] (fun _ _ _ _ => False)) : FnOk P w K mg base CX0 10 (He.ga K "is_prime_paper") (fd_is_prime_paper T) ["thing"] (sp_is_prime_paper 0) := by
  refine (F_is_prime_paper T).ok sc_is_prime_paper (fun vs H Q E h => ?_) (fun cdv A outer s H vs Q E hr h => ⟨_, PSs.nox (pss_cons (ps_if (PW.pt (pw_or (pt_not (pt_val (pe_call (ok_is_row_of T) (hr.mono (by omega)) rfl (g_is_row_of T) (kp_is_row_of T) (B_is_row_of T) .nil pass0 (pa_cons (pv 0) (pa_cons pe_int pa_nil))))) (pw_or (pt_not (pt_val (pe_call (ok_is_whole T) (hr.mono (by omega)) rfl (g_is_whole T) (kp_is_whole T) (B_is_whole T) .nil pass0 (pa_cons (pe_ix ix_seq (pv 0) pe_int (fun _ _ => rfl)) (pa_cons pe_int pa_nil))))) (pw_or1 (pt_not (pt_val (pe_call (ok_is_whole T) (hr.mono (by omega)) rfl (g_is_whole T) (kp_is_whole T) (B_is_whole T) .nil pass0 (pa_cons (pe_ix ix_seq (pv 0) pe_int (fun _ _ => rfl)) (pa_cons pe_int pa_nil))))))))) (pss_one (ps_ret pe_bl)) pss_nil)
      (pss_cons (ps_asg (pv 0) (pg_tup rfl (pgs_cons (pg_name (i := 1) sc_is_prime_paper.nd rfl (Or.inr rfl)) (pgs_cons (pg_name (i := 2) sc_is_prime_paper.nd rfl (Or.inr rfl)) (pgs_cons (pg_name (i := 3) sc_is_prime_paper.nd rfl (Or.inl rfl)) pgs_nil)))))
      (pss_cons (ps_if (PW.pt (pw_or (pt_cmpR op_ge (pv 2) (pv 1) (nomark _)) (pw_or (pt_not (pt_val (pe_call (IH) (hr.mono (by omega)) rfl (g_is_parting_paper T) (kp_is_parting_paper T) (B_is_parting_paper T) .nil pass0 (pa_cons (pe_op op_sub (pv 1) pe_int) (pa_cons (pv 3) pa_nil))))) (pw_or1 (pt_cmpR op_ne (pe_call (ok_power T) (hr.mono (by omega)) rfl (g_power T) (kp_power T) (B_power T) .nil passL (pa_cons (pv 1) (pa_cons (pv 2) (pa_cons (pe_op op_sub (pv 1) pe_int) pa_nil)))) pe_int (nomark _)))))) (pss_one (ps_ret pe_bl)) pss_nil)
      (pss_one (ps_ret (pe_not (pe_callB (cr_any rfl) rfl (T.fr (T.c.fact 58 rfl)) boot_any (pa_cons (pe_lc (own := [("part", 4)]) (tt := tYes) rfl sc_is_prime_paper.nd (pi_tup (pv 3)) (blkOk_by (N := N_is_prime_paper) (sc := defScope s_is_prime_paper) (by decide +kernel)) (fun _ _ _ _ _ => (pg_name (i := 4) sc_is_prime_paper.nd rfl (Or.inl rfl))) (fun _ _ _ _ _ => pts_nil) (fun _ _ _ _ _ => (pe_cmpR op_eq (pe_call (ok_power T) (hr.mono (by omega)) rfl (g_power T) (kp_power T) (B_power T) .nil passL (pa_cons (pv 1) (pa_cons (pv 2) (pa_cons (pe_op op_fdivW (pe_op op_sub (pv 1) pe_int) (pe_ix (R.ix_seqK K rfl) (pe_ix (R.ix_seqK K rfl) (pv 4) pe_int (fun _ _ => rfl)) pe_int (fun _ _ => rfl))) pa_nil)))) pe_int (nomark _)))) pa_nil)))))))), ?_⟩)
  · obtain ⟨v, d, rfl, _⟩ := h; rfl
  · obtain ⟨v, d, rfl, hd, hb, q⟩ := h
    walk_at "g"
    refine ⟨v, d, 3, rfl, hd, ?_⟩
    walk_at "g"
    cases er : isR 3 d with
    | false =>
      walk_at "g"
      refine q false H ⟨fun z => (nomatch z), fun z => ?_⟩ (Same.refl _)
      obtain ⟨p, f, ds, rfl, _⟩ := z.inv
      cases er
    | true =>
      obtain ⟨es, rfl, hl⟩ := isR_inv er
      obtain ⟨m, em, _⟩ := hb.tup_inv
      omega
theorem neverF {CX : CXT} {n : Nat} {f : Addr} {fd : FuncData} {ps : List Str} : FnOk P w K mg base CX n f fd ps (fun _ _ _ _ => False) := ⟨fun vs H Q E h => h.elim, fun _ _ _ _ _ _ _ _ _ _ _ _ _ h => h.elim⟩
theorem primePaperN (T : Txt K mg) : ∀ n : Nat, FnOk P w K mg base CX0 (3 * n + 10) (He.ga K "is_prime_paper") (fd_is_prime_paper T) ["thing"] (sp_is_prime_paper n)
  | 0 => ok_primePaper0 T neverF
  | n + 1 => ok_primePaperS T (ok_partingS T (ok_arePapersS T (primePaperN T n)))

theorem ok_is_prime_paper (T : Txt K mg) : FnOk P w K mg base CX0 145 (He.ga K "is_prime_paper") (fd_is_prime_paper T) ["thing"] (sp_is_prime_paper 45) := primePaperN T 45
theorem ok_are_papers (T : Txt K mg) : FnOk P w K mg base CX0 143 (He.ga K "are_papers") (fd_are_papers T) ["things", "many"] (sp_are_papers 44) := ok_arePapersS (n := 44) T (primePaperN T 44)
theorem ok_is_parting_paper (T : Txt K mg) : FnOk P w K mg base CX0 144 (He.ga K "is_parting_paper") (fd_is_parting_paper T) ["n", "thing"] (sp_is_parting_paper 44) := ok_partingS (n := 44) T (ok_arePapersS (n := 44) T (primePaperN T 44))

/-! is_order and the readers of what shows roots and powers, of data -/
theorem ord_byD {p c : Nat} {a : Int} {ds : List PyData} (hp : M.Prime p) (hl : M.IsFac (p - 1) (facD ds)) (hc : c ∣ p - 1) (c0 : 0 < c) (h1 : M.is1 p a c) : M.Ord p a c ↔ ∀ d ∈ ds, c % qOf d = 0 → M.pw p a (c / qOf d) ≠ 1 := by
  have hp2 := hp.1
  constructor
  · intro ho d hd hq e
    have q2 : 2 ≤ qOf d := (hl.primes _ (facD_mem hd)).1.1
    have hle : qOf d ≤ c := Nat.le_of_dvd c0 (Nat.dvd_of_mod_eq_zero hq)
    have h4 : c ≤ c / qOf d := ho.least _ (Nat.div_pos hle (by omega)) ((M.pw_one_iff hp2).mp e)
    have h5 := Nat.div_lt_self c0 (show 1 < qOf d by omega)
    omega
  · intro h
    refine M.ord_of_primes hp h1 c0 fun q hq hd hq1 => ?_
    obtain ⟨k, hk⟩ := M.fac_prime_in hl hq (Nat.dvd_trans hd hc)
    obtain ⟨d, hd', e⟩ := List.mem_map.mp hk
    have e1 : qOf d = q := (Prod.mk.inj e).1
    exact h d hd' (by rw [e1]; exact Nat.mod_eq_zero_of_dvd hd) (by rw [e1]; exact (M.pw_one_iff hp2).mpr hq1)
/-- a paper among the data, opened -/
theorem DaF.paper {F : Addr → Prop} {H : Hp} {v : V} {d : PyData} {n : Nat} (h : DaF F H v d) (hp : IsPap d) (hb : Bd n d) : ∃ (t u : Addr) (f : Nat) (xs : List V) (ds : List PyData), v = .ref t ∧ H t = some (.tup [.int (pOf d : Nat), .int (f : Nat), .ref u]) ∧ H u = some (.tup xs) ∧ DaL F H xs ds ∧ M.Prime (pOf d) ∧ pOf d < 2 ^ 300 ∧ M.IsFac (pOf d - 1) (facD ds) ∧ (∀ d ∈ ds, RowK 2 d) ∧ ds.length ≤ 999 := by
  obtain ⟨p, f, ds, rfl, hpr, f1, f2, hq, hr, hl, _⟩ := hp.inv
  have e : pOf (.tuple [.int (p : Nat), .int (f : Nat), .tuple ds]) = p := Int.toNat_natCast p
  rw [e]
  obtain ⟨m, em, _, hbe⟩ := hb.tup_inv
  obtain ⟨m2, em2, hlen, _⟩ := (hbe (.tuple ds) (by simp)).tup_inv
  have hpb := (hbe (.int (p : Nat)) (by simp)).int_inv
  cases h with
  | tup e0 h =>
    obtain ⟨y0, y1, y2, yr, rfl, h0, h1, h2, h3⟩ := h.three
    cases h0; cases h1; cases h3
    cases h2 with
    | tup eu hds => exact ⟨_, _, f, _, ds, rfl, e0, eu, hds, hpr, by omega, hl, fun d hd => by
        obtain ⟨pap, b, b1, ed⟩ := hr d hd
        have hpap := hq d hd
        exact ⟨pap, b, [], ed, rfl, by rw [ed] at hpap; exact hpap, b1⟩, hlen⟩
/-- is_order(paper, a, e), of a paper among the data -/
def sp_is_order : Sp := fun vs H Q _ => ∃ (v : V) (d : PyData) (n : Nat) (a e : Int), vs = [v, .int a, .int e] ∧ Da H v d ∧ IsPap d ∧ Bd n d ∧ e.natAbs < 2 ^ 900 ∧
  ∀ (b : Bool) H', (b = true ↔ ∃ c : Nat, e = c ∧ M.Ord (pOf d) a c) → Same H H' → Q (.bl b) H'
theorem ok_is_order (T : Txt K mg) : FnOk P w K mg base CX0 8 (He.ga K "is_order") (fd_is_order T) ["paper", "a", "e"] sp_is_order := by
  refine (F_is_order T).ok sc_is_order (fun vs H Q E h => ?_) (fun cdv A outer s H vs Q E hr h => ⟨_, PSs.nox (pss_cons (ps_set (i := 3) sc_is_order.nd rfl (Or.inr rfl) (pe_ix ix_seq (pv 0) pe_int (fun _ _ => rfl)))
      (pss_cons (ps_if (PW.pt (pw_or (pt_cmpR op_lt (pv 2) pe_int (nomark _)) (pw_or (pt_cmpR op_ne (pe_op op_mod (pe_op op_sub (pv 3) pe_int) (pv 2)) pe_int (nomark _)) (pw_or1 (pt_cmpR op_ne (pe_call (ok_power T) (hr.mono (by decide)) rfl (g_power T) (kp_power T) (B_power T) .nil passL (pa_cons (pv 3) (pa_cons (pv 1) (pa_cons (pv 2) pa_nil)))) pe_int (nomark _)))))) (pss_one (ps_ret pe_bl)) pss_nil)
      (pss_cons ((ps_setLc (i := 4) (own := [("part", 5)]) rfl sc_is_order.nd rfl rfl (sw_true rfl rfl rfl rfl) (pi_tup (pe_ix ix_seq (pv 0) pe_int (fun _ _ => rfl))) (blkOk_by (N := N_is_order) (sc := defScope s_is_order) (by decide +kernel)) (fun _ _ _ _ _ => (pg_name (i := 5) sc_is_order.nd rfl (Or.inl rfl))) (fun _ _ _ _ _ => (pts_one (pt_cmpR op_eq (pe_op op_mod (pv 2) (pe_ix (R.ix_seqK K rfl) (pe_ix (R.ix_seqK K rfl) (pv 5) pe_int (fun _ _ => rfl)) pe_int (fun _ _ => rfl))) pe_int (nomark _)))) (fun _ _ _ _ _ => (pe_ix (R.ix_seqK K rfl) (pe_ix (R.ix_seqK K rfl) (pv 5) pe_int (fun _ _ => rfl)) pe_int (fun _ _ => rfl)))))
      (pss_one (ps_ret (pe_not (pe_callB (cr_any rfl) rfl (T.fr (T.c.fact 58 rfl)) boot_any (pa_cons (pe_lc (own := [("q", 6)]) (tt := tYes) rfl sc_is_order.nd (pi_list (pv 4)) (blkOk_by (N := N_is_order) (sc := defScope s_is_order) (by decide +kernel)) (fun _ _ _ _ _ => (pg_name (i := 6) sc_is_order.nd rfl (Or.inl rfl))) (fun _ _ _ _ _ => pts_nil) (fun _ _ _ _ _ => (pe_cmpR op_eq (pe_call (ok_power T) (hr.mono (by decide)) rfl (g_power T) (kp_power T) (B_power T) .nil passL (pa_cons (pv 3) (pa_cons (pv 1) (pa_cons (pe_op op_fdivW (pv 2) (pv 6)) pa_nil)))) pe_int (nomark _)))) pa_nil)))))))), ?_⟩)
  · obtain ⟨v, d, n, a, e, rfl, _⟩ := h; rfl
  · obtain ⟨v, d, n, a, e, rfl, hd, hpap, hbd, heb, k⟩ := h
    obtain ⟨t, u, f, xs, ds, rfl, et, eu, hds, hp, hpb, hl, hrow, hlen⟩ := hd.paper hpap hbd
    generalize pOf d = p at *
    have hp2 := hp.1
    have e1 : (p : Int) - 1 = ((p - 1 : Nat) : Int) := by omega
    walk_at "g"
    refine s_ixT (SqT.of et) (atI0 0 rfl rfl) ?_
    walk_at "g"
    refine s_ite (fun c => ?_) (fun c => ?_)
    · walk_at "g"
      exact k false _ ⟨fun z => (nomatch z), fun ⟨c', h1, h2⟩ => by have := h2.pos; omega⟩ (Same.refl _)
    obtain ⟨c', rfl⟩ := Int.eq_ofNat_of_zero_le (show 0 ≤ e by omega)
    walk_at "g"
    refine s_i (by omega) ?_
    walk_at "g"
    refine s_iten (fun c2 => ?_) (fun c2 => ?_)
    · walk_at "g"
      refine k false _ ⟨fun z => (nomatch z), fun ⟨c3, h1, h2⟩ => absurd ?_ c2⟩ (Same.refl _)
      have h3 := h2.dvdN (M.fermat hp (h2.unit hp))
      rw [e1, h1]
      exact Int.emod_eq_zero_of_dvd (Int.natCast_dvd_natCast.mpr h3)
    have hcd : c' ∣ p - 1 := by rw [e1] at c2; exact Int.natCast_dvd_natCast.mp (Int.dvd_of_emod_eq_zero c2)
    have c0 : 0 < c' := by omega
    have cle := Nat.le_of_dvd (by omega) hcd
    walk_at "g"
    refine pos_power (m := c') rfl (by omega) (by omega) ?_
    walk_at "g"
    refine s_iten (fun c3 => ?_) (fun c3 => ?_)
    · walk_at "g"
      refine k false _ ⟨fun z => (nomatch z), fun ⟨c4, h1, h2⟩ => ?_⟩ (Same.refl _)
      have : c4 = c' := by omega
      subst this
      exact absurd ((M.pw_one_iff hp2).mpr h2.one) c3
    have h1 := (M.pw_one_iff hp2).mp c3
    have iff := ord_byD hp hl hcd c0 h1
    have hqs : ∀ d ∈ ds, 2 ≤ qOf d ∧ qOf d ≤ p - 1 := fun d hd => ⟨(hrow d hd).two, Nat.le_of_dvd (by omega) (M.fac_dvd hl (facD_mem hd))⟩
    walk_at "g"
    refine s_lc ?_
    walk_at "g"
    refine s_ixT (SqT.of et) (atI0 2 rfl rfl) ?_
    refine ⟨u, rfl, ⟨_, SqT.of eu⟩, fun D hD => ?_⟩
    refine lc_tup (fun i H2 => Same H H2 ∧ H2 D = some (.lst ((((ds.take i).filter fun d => c' % qOf d == 0).map fun d => (qOf d : Int)).map V.int))) ⟨same_upd hD, upd_same⟩ (fun i H2 _ I => SqT.of (I.1 _ _ eu)) ?_ ?_
    · rintro i x H2 hi ⟨s2, hb⟩
      obtain ⟨d', hdi, hd'⟩ := hds.get hi
      have hmem := List.mem_of_getElem? hdi
      obtain ⟨t', s, ys, zs, rfl, et', es⟩ := (hd'.same s2).row (hrow d' hmem)
      have hil : i < ds.length := (List.getElem?_eq_some_iff.mp hdi).1
      obtain ⟨q2', qb'⟩ := hqs d' hmem
      have hft := filter_take (fun d => c' % qOf d == 0) hdi
      have hfl := List.length_filter_le (fun d => c' % qOf d == 0) (ds.take i)
      rw [List.length_take] at hfl
      walk_at "g"
      refine ⟨rfl, ?_⟩
      walk_at "g"
      refine s_ixT (SqT.of et') (atI0 0 rfl rfl) ?_
      walk_at "g"
      refine s_ixT (SqT.of es) (atI0 0 rfl rfl) ?_
      walk_at "g"
      refine s_i (by omega) ?_
      walk_at "g"
      refine s_ite (fun cc => ?_) (fun cc => ?_)
      · have hdv : (c' % qOf d' == 0) = true := beq_iff_eq.mpr (by omega)
        rw [if_pos hdv] at hft
        walk_at "g"
        refine s_ixT (SqT.of et') (atI0 0 rfl rfl) ?_
        walk_at "g"
        refine s_ixT (SqT.of es) (atI0 0 rfl rfl) ?_
        refine ⟨_, hb, small1000 (by rw [List.length_map, List.length_map]; omega), same_upd' s2 hD, ?_⟩
        rw [upd_same, hft, List.map_append, List.map_append]; rfl
      · have hdv : ¬ (c' % qOf d' == 0) = true := fun z => by
          have h9 : c' % qOf d' = 0 := beq_iff_eq.mp z
          omega
        rw [if_neg hdv, List.append_nil] at hft
        walk_at "g"
        exact ⟨s2, by rw [hft]; exact hb⟩
    · rintro H2 ⟨s2, hb⟩
      rw [hds.len, List.take_length] at hb
      have hfl := List.length_filter_le (fun d => c' % qOf d == 0) ds
      have hfm : ∀ d ∈ ds.filter (fun d => c' % qOf d == 0), d ∈ ds ∧ c' % qOf d = 0 := fun r hr => ⟨(List.mem_filter.mp hr).1, beq_iff_eq.mp (List.mem_filter.mp hr).2⟩
      have hfr : ∀ d ∈ ds, c' % qOf d = 0 → d ∈ ds.filter (fun d => c' % qOf d == 0) := fun d hd e => List.mem_filter.mpr ⟨hd, beq_iff_eq.mpr e⟩
      generalize ds.filter (fun d => c' % qOf d == 0) = F at hb hfl hfm hfr
      walk_at "g"
      refine s_lc ?_
      walk_at "g"
      refine ⟨⟨_, SqL.of hb⟩, fun D2 hD2 => ?_⟩
      refine lc_list (fun i H3 => Same H2 H3 ∧ H3 D2 = some (.lst (((F.take i).map fun d => decide (M.pw p a (c' / qOf d) = 1)).map V.bl))) ⟨same_upd hD2, upd_same⟩ (fun i H3 _ I => SqL.of (I.1 _ _ hb)) ?_ ?_
      · rintro i x H3 hi ⟨s3, hb3⟩
        rw [List.getElem?_map, List.getElem?_map] at hi
        obtain ⟨y, hy, rfl⟩ := Option.map_eq_some_iff.mp hi
        obtain ⟨d', hab, rfl⟩ := Option.map_eq_some_iff.mp hy
        obtain ⟨q2', qb'⟩ := hqs _ (hfm _ (List.mem_of_getElem? hab)).1
        walk_at "g"
        refine ⟨rfl, ?_⟩
        walk_at "g"
        refine s_i (divW (by omega) (by omega)) ?_
        walk_at "g"
        refine pos_power (m := c' / qOf d') (Int.natCast_ediv _ _).symm (by omega) (by omega) ?_
        walk_at "g"
        refine ⟨_, hb3, small1000 (by rw [List.length_map, List.length_map, List.length_take]; omega), same_upd' s3 hD2, ?_⟩
        rw [upd_same, take_more hab, List.map_append, List.map_append]; rfl
      · rintro H3 ⟨s3, hb3⟩
        rw [List.length_map, List.length_map, List.take_length] at hb3
        walk_at "g"
        refine ⟨D2, _, rfl, SqL.of hb3, ?_⟩
        walk_at "g"
        refine k _ H3 ?_ (s2.trans s3)
        rw [Bool.not_eq_true', List.any_eq_false]
        constructor
        · intro h
          refine ⟨c', rfl, iff.mpr fun d' hd' hq e => ?_⟩
          exact h _ (List.mem_map.mpr ⟨d', hfr d' hd' hq, rfl⟩) (decide_eq_true e)
        · rintro ⟨c4, h5, h6⟩ b hb4
          have : c4 = c' := by omega
          subst this
          obtain ⟨d', hd', rfl⟩ := List.mem_map.mp hb4
          intro e
          exact iff.mp h6 d' (hfm d' hd').1 (hfm d' hd').2 (of_decide_eq_true e)

/-- numbers as values -/
def nv (l : List Nat) : List V := (l.map fun d : Nat => (d : Int)).map V.int
theorem ints_back {L : List Nat} {ns : List Int} (pm : ns.Perm (L.map fun d : Nat => (d : Int))) (srt : ns.Pairwise (· ≤ ·)) (nd : L.Pairwise (· ≠ ·)) : ∃ ds : List Nat, ns = ds.map (fun d : Nat => (d : Int)) ∧ ds.Perm L ∧ ds.Pairwise (· < ·) := by
  have h1 : ns = (ns.map Int.toNat).map (fun d : Nat => (d : Int)) := by
    rw [List.map_map]
    refine ((List.map_congr_left fun z hz => ?_).trans (List.map_id _)).symm
    obtain ⟨d, _, rfl⟩ := List.mem_map.mp (pm.mem_iff.mp hz)
    rfl
  have h2 : (ns.map Int.toNat).Perm L := by
    have h := pm.map Int.toNat
    rw [List.map_map] at h
    have e : L.map (Int.toNat ∘ fun d : Nat => (d : Int)) = L := (List.map_congr_left fun z _ => rfl).trans (List.map_id _)
    rw [e] at h
    exact h
  refine ⟨_, h1, h2, ?_⟩
  have h3 : (ns.map Int.toNat).Nodup := h2.nodup_iff.mpr nd
  rw [h1, List.pairwise_map] at srt
  exact (srt.and h3).imp fun z => by have := z.1; have := z.2; omega
theorem nv_app (l m : List Nat) : nv (l ++ m) = nv l ++ nv m := by simp [nv]
theorem nv_len (l : List Nat) : (nv l).length = l.length := by simp [nv]
theorem nv_get {l : List Nat} {i : Nat} {x : V} (h : (nv l)[i]? = some x) : ∃ d, l[i]? = some d ∧ x = .int (d : Nat) := by
  unfold nv at h
  rw [List.getElem?_map, List.getElem?_map] at h
  obtain ⟨z, h1, rfl⟩ := Option.map_eq_some_iff.mp h
  obtain ⟨d, h2, rfl⟩ := Option.map_eq_some_iff.mp h1
  exact ⟨d, h2, rfl⟩
theorem line2 {n : Nat} (h : n ≤ 2000000) : n < sizeLine := by rw [sizeLine_eq]; omega

/-! no truths within: == is sameness -/
mutual
def nb : PyData → Bool
  | .bool _ => false
  | .dict _ => false
  | .list ds => nbs ds
  | .tuple ds => nbs ds
  | .none => true
  | .int _ => true
  | .str _ => true
def nbs : List PyData → Bool
  | [] => true
  | d :: ds => nb d && nbs ds
end
mutual
theorem eqv_nb : ∀ (d e : PyData), nb d = true → nb e = true → PyData.eqv d e = true → d = e
  | .none, e, _, _, h => by cases e <;> simp_all [PyData.eqv]
  | .int i, e, _, h2, h => by cases e <;> simp_all [PyData.eqv, nb]
  | .str x, e, _, _, h => by cases e <;> simp_all [PyData.eqv]
  | .bool _, _, h1, _, _ => by simp [nb] at h1
  | .dict _, _, h1, _, _ => by simp [nb] at h1
  | .list xs, e, h1, h2, h => by
    cases e with
    | list ys => rw [eqvs_nb xs ys (by simpa [nb] using h1) (by simpa [nb] using h2) (by simpa [PyData.eqv] using h)]
    | _ => simp [PyData.eqv] at h
  | .tuple xs, e, h1, h2, h => by
    cases e with
    | tuple ys => rw [eqvs_nb xs ys (by simpa [nb] using h1) (by simpa [nb] using h2) (by simpa [PyData.eqv] using h)]
    | _ => simp [PyData.eqv] at h
theorem eqvs_nb : ∀ (ds es : List PyData), nbs ds = true → nbs es = true → PyData.eqvAll ds es = true → ds = es
  | [], es, _, _, h => by cases es <;> simp_all [PyData.eqvAll]
  | d :: ds, es, h1, h2, h => by
    cases es with
    | nil => simp [PyData.eqvAll] at h
    | cons e es =>
      simp only [nbs, PyData.eqvAll, Bool.and_eq_true] at h1 h2 h
      rw [eqv_nb d e h1.1 h2.1 h.1, eqvs_nb ds es h1.2 h2.2 h.2]
end
theorem eqv_nb_iff {d e : PyData} (h1 : nb d = true) (h2 : nb e = true) (hl : PyData.canLay0 d = true) : PyData.eqv d e = true ↔ d = e := ⟨eqv_nb d e h1 h2, fun z => by rw [← z]; exact eqv_refl d hl⟩
theorem eqv_str {d : PyData} {x : Str} : PyData.eqv d (.str x) = true ↔ d = .str x := by cases d <;> simp [PyData.eqv]
theorem nbs_all {ds : List PyData} : nbs ds = true ↔ ∀ d ∈ ds, nb d = true := by
  induction ds with
  | nil => simp [nbs]
  | cons d ds ih => simp [nbs, ih]
theorem isW_nb {l : Int} {d : PyData} (h : isW l d = true) : nb d = true := by
  obtain ⟨i, rfl, _⟩ := isW_inv h; rfl
theorem nbs_nats (l : List Nat) : nbs (l.map fun n : Nat => PyData.int (n : Nat)) = true := nbs_all.mpr fun d hd => by
  obtain ⟨n, _, rfl⟩ := List.mem_map.mp hd; rfl
theorem dal_ints {F : Addr → Prop} {H : Hp} : ∀ ns : List Int, DaL F H (ns.map V.int) (ns.map PyData.int)
  | [] => .nil
  | n :: ns => .cons (.int n) (dal_ints ns)

theorem dal_nv {F : Addr → Prop} {H : Hp} : ∀ l : List Nat, DaL F H (nv l) (l.map fun n : Nat => PyData.int (n : Nat))
  | [] => .nil
  | n :: ns => .cons (.int (n : Nat)) (dal_nv ns)
/-- are_wholes(things, least), of a tuple or a list -/
def sp_are_wholesT : Sp := fun vs H Q _ => ∃ (p : Addr) (xs : List V) (ds : List PyData) (l : Int), vs = [.ref p, .int l] ∧ H p = some (.tup xs) ∧ DaL (fun _ => True) H xs ds ∧ ds.length ≤ 999 ∧ ∀ H', Same H H' → Q (.bl (ds.all (isW l))) H'
def sp_are_wholesL : Sp := fun vs H Q _ => ∃ (p : Addr) (xs : List V) (ds : List PyData) (l : Int), vs = [.ref p, .int l] ∧ H p = some (.lst xs) ∧ DaL (fun _ => True) H xs ds ∧ ds.length ≤ 999 ∧ ∀ H', Same H H' → Q (.bl (ds.all (isW l))) H'
def sp_are_wholes : Sp := fun vs H Q E => sp_are_wholesT vs H Q E ∨ sp_are_wholesL vs H Q E
theorem all_map_take {ds : List PyData} {l : Int} : ((ds.map fun d => isW l d).all fun b => b) = ds.all (isW l) := by rw [List.all_map]; rfl
theorem ok_wholesT (T : Txt K mg) : FnOk P w K mg base CX0 2 (He.ga K "are_wholes") (fd_are_wholes T) ["things", "least"] sp_are_wholesT := by
  refine (F_are_wholes T).ok sc_are_wholes (fun vs H Q E h => ?_) (fun cdv A outer s H vs Q E hr h => ⟨_, PSs.nox (pss_one (ps_ret (pe_callB (cr_all rfl) rfl (T.fr (T.c.fact 59 rfl)) boot_all (pa_cons (pe_lc (own := [("thing", 2)]) (tt := tYes) rfl sc_are_wholes.nd (pi_tup (pv 0)) (blkOk_by (N := N_are_wholes) (sc := defScope s_are_wholes) (by decide +kernel)) (fun _ _ _ _ _ => (pg_name (i := 2) sc_are_wholes.nd rfl (Or.inl rfl))) (fun _ _ _ _ _ => pts_nil) (fun _ _ _ _ _ => (pe_call (ok_is_whole T) (hr.mono (by decide)) rfl (g_is_whole T) (kp_is_whole T) (B_is_whole T) .nil pass0 (pa_cons (pv 2) (pa_cons (pv 1) pa_nil))))) pa_nil)))), ?_⟩)
  · obtain ⟨p, xs, ds, l, rfl, _⟩ := h; rfl
  · obtain ⟨p, xs, ds, l, rfl, ep, hds, hlen, q⟩ := h
    have hxl := hds.len
    walk_at "g"
    refine s_lc ?_
    walk_at "g"
    refine ⟨⟨_, SqT.of ep⟩, fun D hD => ?_⟩
    refine lc_tup (fun i H3 => Same H H3 ∧ H3 D = some (.lst (((ds.take i).map fun d => isW l d).map V.bl))) ⟨same_upd hD, upd_same⟩ (fun i H3 _ I => SqT.of (I.1 _ _ ep)) ?_ ?_
    · rintro i x H3 hi ⟨s3, hb3⟩
      obtain ⟨d, hdi, hd0⟩ := hds.get hi
      have hil : i < ds.length := (List.getElem?_eq_some_iff.mp hdi).1
      walk_at "g"
      refine ⟨rfl, ?_⟩
      walk_at "g"
      refine ⟨x, d, l, rfl, hd0.same s3, ?_⟩
      refine ⟨_, hb3, small1000 (by rw [List.length_map, List.length_map, List.length_take]; omega), same_upd' s3 hD, ?_⟩
      rw [upd_same, take_more hdi, List.map_append, List.map_append]; rfl
    · rintro H3 ⟨s3, hb3⟩
      rw [hxl, List.take_length] at hb3
      walk_at "g"
      refine ⟨D, _, rfl, SqL.of hb3, ?_⟩
      walk_at "g"
      have e := @all_map_take ds l
      exact e ▸ q H3 s3
theorem ok_wholesL (T : Txt K mg) : FnOk P w K mg base CX0 2 (He.ga K "are_wholes") (fd_are_wholes T) ["things", "least"] sp_are_wholesL := by
  refine (F_are_wholes T).ok sc_are_wholes (fun vs H Q E h => ?_) (fun cdv A outer s H vs Q E hr h => ⟨_, PSs.nox (pss_one (ps_ret (pe_callB (cr_all rfl) rfl (T.fr (T.c.fact 59 rfl)) boot_all (pa_cons (pe_lc (own := [("thing", 2)]) (tt := tYes) rfl sc_are_wholes.nd (pi_list (pv 0)) (blkOk_by (N := N_are_wholes) (sc := defScope s_are_wholes) (by decide +kernel)) (fun _ _ _ _ _ => (pg_name (i := 2) sc_are_wholes.nd rfl (Or.inl rfl))) (fun _ _ _ _ _ => pts_nil) (fun _ _ _ _ _ => (pe_call (ok_is_whole T) (hr.mono (by decide)) rfl (g_is_whole T) (kp_is_whole T) (B_is_whole T) .nil pass0 (pa_cons (pv 2) (pa_cons (pv 1) pa_nil))))) pa_nil)))), ?_⟩)
  · obtain ⟨p, xs, ds, l, rfl, _⟩ := h; rfl
  · obtain ⟨p, xs, ds, l, rfl, ep, hds, hlen, q⟩ := h
    have hxl := hds.len
    walk_at "g"
    refine s_lc ?_
    walk_at "g"
    refine ⟨⟨_, SqL.of ep⟩, fun D hD => ?_⟩
    refine lc_list (fun i H3 => Same H H3 ∧ H3 D = some (.lst (((ds.take i).map fun d => isW l d).map V.bl))) ⟨same_upd hD, upd_same⟩ (fun i H3 _ I => SqL.of (I.1 _ _ ep)) ?_ ?_
    · rintro i x H3 hi ⟨s3, hb3⟩
      obtain ⟨d, hdi, hd0⟩ := hds.get hi
      have hil : i < ds.length := (List.getElem?_eq_some_iff.mp hdi).1
      walk_at "g"
      refine ⟨rfl, ?_⟩
      walk_at "g"
      refine ⟨x, d, l, rfl, hd0.same s3, ?_⟩
      refine ⟨_, hb3, small1000 (by rw [List.length_map, List.length_map, List.length_take]; omega), same_upd' s3 hD, ?_⟩
      rw [upd_same, take_more hdi, List.map_append, List.map_append]; rfl
    · rintro H3 ⟨s3, hb3⟩
      rw [hxl, List.take_length] at hb3
      walk_at "g"
      refine ⟨D, _, rfl, SqL.of hb3, ?_⟩
      walk_at "g"
      have e := @all_map_take ds l
      exact e ▸ q H3 s3
theorem ok_are_wholes (T : Txt K mg) : FnOk P w K mg base CX0 2 (He.ga K "are_wholes") (fd_are_wholes T) ["things", "least"] sp_are_wholes := fn_or (ok_wholesT T) (ok_wholesL T) fun _ _ _ _ h => h

/-- the digits of a number by a prime, as data -/
def digD (x : Nat) (y : Nat × Nat) : PyData := .tuple [.int (y.1 : Nat), .tuple ((M.digL x y.1 y.2).map fun n : Nat => .int (n : Nat))]
def digsD (x : Nat) (L : List (Nat × Nat)) : PyData := .tuple (L.map (digD x))
theorem nb_digD (x : Nat) (y : Nat × Nat) : nb (digD x y) = true := by simp [digD, nb, nbs, nbs_nats]
theorem nb_digsD (x : Nat) (L : List (Nat × Nat)) : nb (digsD x L) = true := by
  simp only [digsD, nb]
  exact nbs_all.mpr fun d hd => by
    obtain ⟨y, _, rfl⟩ := List.mem_map.mp hd
    exact nb_digD x y
/-- a row of digits of any kind -/
def digOk : PyData → Bool
  | .tuple [a, .tuple ns] => isW 2 a && ns.all (isW 0)
  | _ => false
theorem digOk_nb {d : PyData} (h : digOk d = true) : nb d = true := by
  unfold digOk at h
  split at h
  · rename_i a ns
    simp only [Bool.and_eq_true, List.all_eq_true] at h
    simp only [nb, nbs, Bool.and_eq_true, isW_nb h.1, and_true, true_and]
    exact nbs_all.mpr fun d hd => isW_nb (h.2 d hd)
  · cases h
theorem digOk_dig {x : Nat} {y : Nat × Nat} (h : 2 ≤ y.1) : digOk (digD x y) = true := by
  simp only [digOk, digD, Bool.and_eq_true, List.all_eq_true, isW_int, decide_eq_true_eq]
  refine ⟨by omega, fun d hd => ?_⟩
  obtain ⟨n, _, rfl⟩ := List.mem_map.mp hd
  rw [isW_int, decide_eq_true (by omega)]
/-- the primes of a part, each with how often -/
def rowsD (ds : List PyData) (e : Nat) : List (Nat × Nat) := (ds.filter fun d => e % qOf d == 0).map fun d => (qOf d, M.vq (qOf d) e)
theorem rowsD_fac {N e : Nat} {ds : List PyData} (hl : M.IsFac N (facD ds)) (e0 : 0 < e) (hd : e ∣ N) : M.IsFac e (rowsD ds e) := by
  have h := M.within_fac hl e0 hd
  have eq : rowsD ds e = M.within (facD ds) e := by
    unfold rowsD M.within M.vL facD
    rw [List.map_map, List.filter_map]
    congr 1
    refine List.filter_congr fun r hr => ?_
    have h2 := (hl.primes _ (facD_mem hr)).1.1
    show (e % qOf r == 0) = decide (0 < M.vq (qOf r) e)
    by_cases c : e % qOf r = 0
    · rw [decide_eq_true ((M.vq_pos_iff h2 e0).mpr c)]; exact beq_iff_eq.mpr c
    · rw [decide_eq_false fun z => c ((M.vq_pos_iff h2 e0).mp z)]; exact beq_eq_false_iff_ne.mpr c
  rw [eq]; exact h
/-- digits_in(x, q, e) -/
def sp_digits_in : Sp := fun vs H Q _ => ∃ x q e : Nat, vs = [.int x, .int q, .int e] ∧ 2 ≤ q ∧ q < 2 ^ 300 ∧ 0 < e ∧ e < 2 ^ 300 ∧ ∀ t H', H' t = some (.tup (nv (M.digL x q (M.vq q e)))) → Same H H' → Q (.ref t) H'
theorem ok_digits_in (T : Txt K mg) : FnOk P w K mg base CX0 1 (He.ga K "digits_in") (fd_digits_in T) ["x", "q", "e"] sp_digits_in := by
  refine (F_digits_in T).ok sc_digits_in (fun vs H Q E h => ?_) (fun cdv A outer s H vs Q E hr h => ⟨_, PSs.nox (pss_cons (ps_set (i := 3) sc_digits_in.nd rfl (Or.inl rfl) (pe_lst pa_nil))
      (pss_cons (ps_while PassesOwn.never (pt_cmpR op_eq (pe_op op_mod (pv 2) (pv 1)) pe_int (nomark _)) (pss_cons (ps_expr (pe_bm PySem.F.plainAttrs_list PySem.F.slot_list_append PySem.F.type_list_append mt_append (pv 3) (pa_cons (pe_op op_mod (pv 0) (pv 1)) pa_nil)))
      (pss_cons (ps_set (i := 0) sc_digits_in.nd rfl (Or.inl rfl) (pe_op op_fdivW (pv 0) (pv 1)))
      (pss_one (ps_set (i := 2) sc_digits_in.nd rfl (Or.inl rfl) (pe_op op_fdivW (pv 2) (pv 1)))))))
      (pss_one (ps_ret (pe_callTy callTup rfl (T.fr (T.c.fact 55 rfl)) boot_tuple (pa_cons (pv 3) pa_nil)))))), ?_⟩)
  · obtain ⟨x, q, e, rfl, _⟩ := h; rfl
  · obtain ⟨x, q, e, rfl, q2, qb, e0, eb, k⟩ := h
    walk_at "g"
    refine mkL (by simp) fun t H0 nt0 et0 s0 => ?_
    walk_at "g"
    refine s_while (fun σ H' => Same H H' ∧ ∃ (i m : Nat), σ = [some (.int (x / q ^ i : Nat)), some (.int q), some (.int m), some (.ref t)] ∧ H' t = some (.lst (nv (M.digL x q i))) ∧ e = q ^ i * m ∧ 0 < m) (fun σ _ => (iv σ 2).toNat) ⟨s0, 0, e, by rw [Nat.pow_zero, Nat.div_one]; rfl, et0, by simp, e0⟩ ?_
    rintro σ H1 ⟨s1, i, m, rfl, et, em, m0⟩
    have hi : i < 300 := by
      have h1 : q ^ i ≤ e := by rw [em]; exact Nat.le_mul_of_pos_right _ m0
      have h2 : 2 ^ i ≤ q ^ i := Nat.pow_le_pow_left q2 _
      exact (Nat.pow_lt_pow_iff_right (by decide : 1 < 2)).mp (by omega)
    have hme : m ≤ e := by rw [em]; exact Nat.le_mul_of_pos_left _ (Nat.pow_pos (by omega))
    walk_at "g"
    refine s_i (by omega) ?_
    walk_at "g"
    refine s_ite (fun c => ?_) (fun c => ?_)
    · have hdm : q ∣ m := Int.natCast_dvd_natCast.mp (Int.dvd_of_emod_eq_zero c)
      obtain ⟨m', rfl⟩ := hdm
      have e3 : ((q * m' : Nat) : Int) / (q : Int) = (m' : Int) := by
        push_cast
        exact Int.mul_ediv_cancel_left _ (by omega)
      have m0' : 0 < m' := Nat.pos_of_ne_zero fun z => by rw [z] at m0; omega
      have e4 : ((x / q ^ i : Nat) : Int) / (q : Int) = ((x / q ^ (i + 1) : Nat) : Int) := by rw [Nat.pow_succ, ← Nat.div_div_eq_div_mul, Int.natCast_ediv (x / q ^ i)]
      walk_at "g"
      refine ⟨s_tyL et, ?_⟩
      walk_at "g"
      refine s_i (by omega) ?_
      walk_at "g"
      refine s_append et (small1000 (by rw [nv_len, M.digL_len]; omega)) ?_
      walk_at "g"
      refine s_i (divW (by omega) (by omega)) ?_
      rw [e4]
      walk_at "g"
      refine s_i (divW (by omega) (by omega)) ?_
      rw [e3]
      walk_at "g"
      have h2m : 2 * m' ≤ q * m' := Nat.mul_le_mul_right m' q2
      refine ⟨⟨same_upd' s1 nt0, i + 1, m', rfl, ?_, by rw [em, Nat.pow_succ]; grind, m0'⟩, ?_⟩
      · rw [upd_same, M.digL_more, nv_app]; rfl
      · show (m' : Int).toNat < ((q * m' : Nat) : Int).toNat
        omega
    · have hdm : ¬ q ∣ m := fun z => c (Int.emod_eq_zero_of_dvd (Int.natCast_dvd_natCast.mpr z))
      have ev : M.vq q e = i := by rw [em]; exact M.vq_eq q2 hdm m0 i
      walk_at "g"
      refine s_tupL (SqL.of et) fun l nl => ?_
      rw [ev] at k
      exact k l _ upd_same (same_new s1 nl)

/-- are_digits(paper, e, x, parts) -/
def sp_are_digits : Sp := fun vs H Q _ => ∃ (v vt : V) (d dt : PyData) (n e x : Nat), vs = [v, .int e, .int x, vt] ∧ Da H v d ∧ IsPap d ∧ Bd n d ∧ Da H vt dt ∧ Bd 60 dt ∧ 0 < e ∧ e ∣ pOf d - 1 ∧ x < e ∧
  ∀ (b : Bool) H', (b = true ↔ ∃ L, M.IsFac e L ∧ dt = digsD x L) → Same H H' → Q (.bl b) H'
theorem ok_are_digits (T : Txt K mg) : FnOk P w K mg base CX0 3 (He.ga K "are_digits") (fd_are_digits T) ["paper", "e", "x", "parts"] sp_are_digits := by
  refine (F_are_digits T).ok sc_are_digits (fun vs H Q E h => ?_) (fun cdv A outer s H vs Q E hr h => ⟨_, PSs.nox (pss_cons (ps_if (pt_not (pt_val (pe_callB call_isi rfl (T.fr (T.c.fact 52 rfl)) boot_isinstance (pa_cons (pv 3) (pa_cons (pe_bltn (v := .ty "tuple") rfl (T.fr (T.c.fact 55 rfl)) boot_tuple rfl) pa_nil))))) (pss_one (ps_ret pe_bl)) pss_nil)
      (pss_cons (ps_for PassesOwn.never rfl (pi_tup (pv 3)) (pg_name (i := 4) sc_are_digits.nd rfl (Or.inl rfl)) (pss_cons (ps_if (PW.pt (pw_or (pt_not (pt_val (pe_call (ok_is_row_of T) (hr.mono (by decide)) rfl (g_is_row_of T) (kp_is_row_of T) (B_is_row_of T) .nil pass0 (pa_cons (pv 4) (pa_cons pe_int pa_nil))))) (pw_or1 (pt_not (pt_val (pe_call (ok_is_whole T) (hr.mono (by decide)) rfl (g_is_whole T) (kp_is_whole T) (B_is_whole T) .nil pass0 (pa_cons (pe_ix ix_seq (pv 4) pe_int (fun _ _ => rfl)) (pa_cons pe_int pa_nil)))))))) (pss_one (ps_ret pe_bl)) pss_nil)
      (pss_one (ps_if (PW.pt (pw_or (pt_not (pt_val (pe_callB call_isi rfl (T.fr (T.c.fact 52 rfl)) boot_isinstance (pa_cons (pe_ix ix_seq (pv 4) pe_int (fun _ _ => rfl)) (pa_cons (pe_bltn (v := .ty "tuple") rfl (T.fr (T.c.fact 55 rfl)) boot_tuple rfl) pa_nil))))) (pw_or1 (pt_not (pt_val (pe_call (ok_are_wholes T) (hr.mono (by decide)) rfl (g_are_wholes T) (kp_are_wholes T) (B_are_wholes T) .nil pass0 (pa_cons (pe_ix ix_seq (pv 4) pe_int (fun _ _ => rfl)) (pa_cons pe_int pa_nil)))))))) (pss_one (ps_ret pe_bl)) pss_nil))))
      (pss_cons ((ps_setLc (i := 5) (own := [("part", 4)]) rfl sc_are_digits.nd rfl rfl (sw_true rfl rfl rfl rfl) (pi_tup (pe_ix ix_seq (pv 0) pe_int (fun _ _ => rfl))) (blkOk_by (N := N_are_digits) (sc := defScope s_are_digits) (by decide +kernel)) (fun _ _ _ _ _ => (pg_name (i := 4) sc_are_digits.nd rfl (Or.inl rfl))) (fun _ _ _ _ _ => (pts_one (pt_cmpR op_eq (pe_op op_mod (pv 1) (pe_ix (R.ix_seqK K rfl) (pe_ix (R.ix_seqK K rfl) (pv 4) pe_int (fun _ _ => rfl)) pe_int (fun _ _ => rfl))) pe_int (nomark _)))) (fun _ _ _ _ _ => (pe_ix (R.ix_seqK K rfl) (pe_ix (R.ix_seqK K rfl) (pv 4) pe_int (fun _ _ => rfl)) pe_int (fun _ _ => rfl)))))
      (pss_one (ps_ret (pe_cmpR (op_eqD hr.units) (pv 3) (pe_callTy callTup rfl (T.fr (T.c.fact 55 rfl)) boot_tuple (pa_cons (pe_lc (own := [("q", 6)]) (tt := tYes) rfl sc_are_digits.nd (pi_list (pv 5)) (blkOk_by (N := N_are_digits) (sc := defScope s_are_digits) (by decide +kernel)) (fun _ _ _ _ _ => (pg_name (i := 6) sc_are_digits.nd rfl (Or.inl rfl))) (fun _ _ _ _ _ => pts_nil) (fun _ _ _ _ _ => (pe_tup (pa_cons (pv 6) (pa_cons (pe_call (ok_digits_in T) (hr.mono (by decide)) rfl (g_digits_in T) (kp_digits_in T) (B_digits_in T) .nil pass0 (pa_cons (pv 2) (pa_cons (pv 6) (pa_cons (pv 1) pa_nil)))) pa_nil))))) pa_nil)) (nomark _))))))), ?_⟩)
  · obtain ⟨v, vt, d, dt, n, e, x, rfl, _⟩ := h; rfl
  · obtain ⟨v, vt, d, dt, n, e, x, rfl, hd, hpap, hbd, hdt, hbt, e0, hed, hx, k⟩ := h
    obtain ⟨t, u, f, xs, ds, rfl, et, eu, hds, hp, hpb, hl, hrow, hlen⟩ := hd.paper hpap hbd
    generalize pOf d = p at *
    have hp2 := hp.1
    have hele := Nat.le_of_dvd (by omega) hed
    have bad : (∀ L, M.IsFac e L → dt ≠ digsD x L) → ∀ H2, Same H H2 → Q (.bl false) H2 := fun h H2 s2 => k false H2 ⟨fun z => (nomatch z), fun ⟨L, h1, h2⟩ => absurd h2 (h L h1)⟩ s2
    walk_at "g"
    refine s_isiTup hdt ?_
    walk_at "g"
    cases ett : isTup dt with
    | false =>
      walk_at "g"
      exact bad (fun L _ z => by rw [z] at ett; cases ett) H (Same.refl _)
    | true =>
    cases hdt with
    | non => cases ett
    | bl b => cases ett
    | int i => cases ett
    | str x => cases ett
    | lst _ _ => cases ett
    | @tup w ws es ew hes =>
    obtain ⟨m0, em0, hel, hbe⟩ := hbt.tup_inv
    have hwl := hes.len
    walk_at "g"
    refine ⟨⟨_, SqT.of ew⟩, ?_⟩
    refine for_tup (fun i σ H' => Same H H' ∧ (∀ d ∈ es.take i, digOk d = true) ∧ ∃ v4 v5 v6 : Option V, σ = [some (.ref t), some (.int e), some (.int x), some (.ref w), v4, v5, v6]) ⟨Same.refl _, by simp, none, none, none, rfl⟩ (fun i σ H' _ I => SqT.of (I.1 _ _ ew)) ?_ ?_
    · rintro i y σ H1 hi ⟨s1, hok, v4, v5, v6, rfl⟩
      obtain ⟨dy, hdi, hdy0⟩ := hes.get hi
      have hdy := hdy0.same s1
      have hmem := List.mem_of_getElem? hdi
      have hbdy := hbe dy hmem
      have bad1 : digOk dy = false → ∀ H2, Same H H2 → Q (.bl false) H2 := fun z => bad fun L hL e => by
        have e' : es = L.map (digD x) := by unfold digsD at e; exact PyData.tuple.inj e
        rw [e'] at hmem
        obtain ⟨yy, hy, rfl⟩ := List.mem_map.mp hmem
        rw [digOk_dig (hL.primes yy hy).1.1] at z
        cases z
      walk_at "g"
      refine ⟨y, dy, 2, rfl, hdy, ?_⟩
      walk_at "g"
      cases er : isR 2 dy with
      | false =>
        walk_at "g"
        refine bad1 ?_ H1 s1
        cases dy with
        | tuple ds =>
          match ds, er with
          | [], _ => rfl
          | [_], _ => rfl
          | [a, b], h => simp [isR_tup] at h
          | _ :: _ :: _ :: _, _ => simp [digOk]
        | _ => rfl
      | true =>
      obtain ⟨ds2, rfl, hl2⟩ := isR_inv er
      obtain ⟨a0, a1, rfl⟩ : ∃ a0 a1, ds2 = [a0, a1] := by
        match ds2, hl2 with
        | [a, b], _ => exact ⟨a, b, rfl⟩
        | [], h => simp at h
        | [_], h => simp at h
        | _ :: _ :: _ :: _, h => simp at h; omega
      obtain ⟨m1, em1, _, hb1⟩ := hbdy.tup_inv
      cases hdy with
      | @tup ty ys _ ety hy2 =>
      obtain ⟨z0, z1, zr, rfl, h0, h1, h2⟩ := hy2.two
      cases h2
      walk_at "g"
      refine s_ixT (SqT.of ety) (atI0 0 rfl rfl) ?_
      walk_at "g"
      refine ⟨z0, a0, 2, rfl, h0, ?_⟩
      walk_at "g"
      cases ew0 : isW 2 a0 with
      | false =>
        walk_at "g"
        refine bad1 ?_ H1 s1
        unfold digOk
        split
        · rename_i _ a ns heq
          simp only [PyData.tuple.injEq, List.cons.injEq, and_true] at heq
          rw [← heq.1, ew0]; rfl
        · rfl
      | true =>
      walk_at "g"
      refine s_ixT (SqT.of ety) (atI0 1 rfl rfl) ?_
      walk_at "g"
      refine s_isiTup h1 ?_
      walk_at "g"
      cases ett1 : isTup a1 with
      | false =>
        walk_at "g"
        refine bad1 ?_ H1 s1
        cases a1 <;> first | rfl | cases ett1
      | true =>
      cases h1 with
      | non => cases ett1
      | bl b => cases ett1
      | int i => cases ett1
      | str x => cases ett1
      | lst _ _ => cases ett1
      | @tup t1 zs ns et1 hns =>
      obtain ⟨_, _, hnl, _⟩ := (hb1 (.tuple ns) (by simp)).tup_inv
      walk_at "g"
      refine s_ixT (SqT.of ety) (atI0 1 rfl rfl) ?_
      walk_at "g"
      refine .inl ⟨t1, zs, ns, 0, rfl, et1, hns, hnl, fun H2 s2 => ?_⟩
      walk_at "g"
      cases eall : ns.all (isW 0) with
      | false =>
        walk_at "g"
        refine bad1 ?_ H2 (s1.trans s2)
        show (isW 2 a0 && ns.all (isW 0)) = false
        rw [eall, Bool.and_false]
      | true =>
        walk_at "g"
        refine ⟨s1.trans s2, fun d hd => ?_, _, _, _, rfl⟩
        rw [take_more hdi] at hd
        rcases List.mem_append.mp hd with z | z
        · exact hok d z
        · rw [List.mem_singleton.mp z]
          show (isW 2 a0 && ns.all (isW 0)) = true
          rw [eall, ew0]; rfl
    rintro σ H1 ⟨s1, hok, v4, v5, v6, rfl⟩
    rw [hwl, List.take_length] at hok
    have et1 := s1 _ _ et
    have eu1 := s1 _ _ eu
    have hds1 := hds.same s1
    have hqs : ∀ d ∈ ds, 2 ≤ qOf d ∧ qOf d ≤ p - 1 := fun d hd => ⟨(hrow d hd).two, Nat.le_of_dvd (by omega) (M.fac_dvd hl (facD_mem hd))⟩
    have hL := rowsD_fac hl e0 hed
    walk_at "g"
    refine s_lc ?_
    walk_at "g"
    refine s_ixT (SqT.of et1) (atI0 2 rfl rfl) ?_
    refine ⟨u, rfl, ⟨_, SqT.of eu1⟩, fun D hD => ?_⟩
    refine lc_tup (fun i H2 => Same H1 H2 ∧ H2 D = some (.lst ((((ds.take i).filter fun d => e % qOf d == 0).map fun d => (qOf d : Int)).map V.int))) ⟨same_upd hD, upd_same⟩ (fun i H2 _ I => SqT.of (I.1 _ _ eu1)) ?_ ?_
    · rintro i y H2 hi ⟨s2, hb⟩
      obtain ⟨d', hdi, hd'⟩ := hds1.get hi
      have hmem := List.mem_of_getElem? hdi
      obtain ⟨t', s, ys, zs, rfl, et', es'⟩ := (hd'.same s2).row (hrow d' hmem)
      have hil : i < ds.length := (List.getElem?_eq_some_iff.mp hdi).1
      obtain ⟨q2', qb'⟩ := hqs d' hmem
      have hft := filter_take (fun d => e % qOf d == 0) hdi
      have hfl := List.length_filter_le (fun d => e % qOf d == 0) (ds.take i)
      rw [List.length_take] at hfl
      walk_at "g"
      refine ⟨rfl, ?_⟩
      walk_at "g"
      refine s_ixT (SqT.of et') (atI0 0 rfl rfl) ?_
      walk_at "g"
      refine s_ixT (SqT.of es') (atI0 0 rfl rfl) ?_
      walk_at "g"
      refine s_i (by omega) ?_
      walk_at "g"
      refine s_ite (fun cc => ?_) (fun cc => ?_)
      · have hdv : (e % qOf d' == 0) = true := beq_iff_eq.mpr (by omega)
        rw [if_pos hdv] at hft
        walk_at "g"
        refine s_ixT (SqT.of et') (atI0 0 rfl rfl) ?_
        walk_at "g"
        refine s_ixT (SqT.of es') (atI0 0 rfl rfl) ?_
        refine ⟨_, hb, small1000 (by rw [List.length_map, List.length_map]; omega), same_upd' s2 hD, ?_⟩
        rw [upd_same, hft, List.map_append, List.map_append]; rfl
      · have hdv : ¬ (e % qOf d' == 0) = true := fun z => by
          have h9 : e % qOf d' = 0 := beq_iff_eq.mp z
          omega
        rw [if_neg hdv, List.append_nil] at hft
        walk_at "g"
        exact ⟨s2, by rw [hft]; exact hb⟩
    rintro H2 ⟨s2, hb⟩
    rw [hds.len, List.take_length] at hb
    have hfl := List.length_filter_le (fun d => e % qOf d == 0) ds
    have hLe : rowsD ds e = (ds.filter fun d => e % qOf d == 0).map fun d => (qOf d, M.vq (qOf d) e) := rfl
    have hfm : ∀ d ∈ ds.filter (fun d => e % qOf d == 0), d ∈ ds := fun r hr => (List.mem_filter.mp hr).1
    generalize hLL : rowsD ds e = L at hL hLe
    generalize ds.filter (fun d => e % qOf d == 0) = F at hb hfl hfm hLe
    walk_at "g"
    refine s_lc ?_
    walk_at "g"
    refine ⟨⟨_, SqL.of hb⟩, fun D2 hD2 => ?_⟩
    refine lc_list (fun i H3 => Same H2 H3 ∧ ∃ ys, H3 D2 = some (.lst ys) ∧ DaL (fun _ => False) H3 ys ((L.take i).map (digD x))) ⟨same_upd hD2, [], upd_same, by rw [List.take_zero]; exact .nil⟩ (fun i H3 _ I => SqL.of (I.1 _ _ hb)) ?_ ?_
    · rintro i y H3 hi ⟨s3, ys, hb3, hys⟩
      rw [List.getElem?_map, List.getElem?_map] at hi
      obtain ⟨yy, hy, rfl⟩ := Option.map_eq_some_iff.mp hi
      obtain ⟨d', hab, rfl⟩ := Option.map_eq_some_iff.mp hy
      obtain ⟨q2', qb'⟩ := hqs _ (hfm _ (List.mem_of_getElem? hab))
      have hLi : L[i]? = some (qOf d', M.vq (qOf d') e) := by rw [hLe, List.getElem?_map, hab]; rfl
      have hyl := hys.len
      rw [List.length_map, List.length_take] at hyl
      have hLlen : L.length = F.length := by rw [hLe, List.length_map]
      walk_at "g"
      refine ⟨rfl, ?_⟩
      walk_at "g"
      refine ⟨x, qOf d', e, rfl, q2', by omega, e0, by omega, fun T H4 eT s4 => ?_⟩
      walk_at "g"
      refine mkT (by simp) fun W H5 nW eW s5 => ?_
      refine ⟨_, s5 _ _ (s4 _ _ hb3), small1000 (by omega), same_upd' (s3.trans (s4.trans s5)) hD2, _, upd_same, ?_⟩
      rw [take_more hLi, List.map_append]
      have hnew : DaL (fun _ => False) H5 [.ref W] [digD x (qOf d', M.vq (qOf d') e)] := .cons (.tup eW (.cons (.int _) (.cons (.tup (s5 _ _ eT) (dal_nv _)) .nil))) .nil
      exact DaL.upd (s5 _ _ (s4 _ _ hb3)) (fun z => z) (DaL.app hnew (hys.same (s4.trans s5)))
    · rintro H3 ⟨s3, ys, hb3, hys⟩
      have hLlen : L.length = F.length := by rw [hLe, List.length_map]
      rw [List.length_map, List.length_map, ← hLlen, List.take_length] at hys
      have hyl := hys.len
      rw [List.length_map] at hyl
      walk_at "g"
      refine s_tupL (SqL.of hb3) fun T nT => ?_
      have s4 : Same H3 (upd H3 T (.tup ys)) := same_upd nT
      have eT : upd H3 T (.tup ys) T = some (.tup ys) := upd_same
      generalize upd H3 T (.tup ys) = H4 at s4 eT ⊢
      have hL9 : L.length ≤ 999 := by omega
      have hvq : ∀ y ∈ L, y.2 ≤ 999 := fun z hz => by
        have h1 := (hL.primes z hz).1.1
        obtain ⟨m', em', _, m0'⟩ := M.vq_split (hL.primes z hz).1 e0
        rw [← ((M.fac_mem_iff hL z).mp hz).2.2] at em'
        have h2 : z.1 ^ z.2 ≤ e := by rw [em']; exact Nat.le_mul_of_pos_right _ m0'
        have h3 : 2 ^ z.2 ≤ z.1 ^ z.2 := Nat.pow_le_pow_left h1 _
        have h4 : 2 ^ z.2 < 2 ^ 300 := by omega
        have := (Nat.pow_lt_pow_iff_right (by decide : 1 < 2)).mp h4
        omega
      have hbD : Bd 3 (digsD x L) := .tup (by rw [List.length_map]; omega) fun d hd => by
        obtain ⟨z, hz, rfl⟩ := List.mem_map.mp hd
        have h1 := (hL.primes z hz).1.1
        have h2 := Nat.le_of_dvd e0 (M.fac_dvd hL hz)
        refine .tup (by simp) fun y hy => ?_
        simp only [List.mem_cons, List.not_mem_nil, or_false] at hy
        rcases hy with zz | zz <;> subst zz
        · exact .int (by omega)
        · refine .tup (by rw [List.length_map, M.digL_len]; exact hvq z hz) fun y hy => ?_
          obtain ⟨n, hn, rfl⟩ := List.mem_map.mp hy
          have := M.digL_lt (by omega) hn
          exact .int (by omega)
      have hes4 : Da H4 (.ref w) (.tuple es) := .tup (s4 _ _ (s3 _ _ (s2 _ _ (s1 _ _ ew)))) (hes.same (s1.trans (s2.trans (s3.trans s4))))
      have hnbe : nb (.tuple es) = true := by
        simp only [nb]
        exact nbs_all.mpr fun d hd => digOk_nb (hok d hd)
      refine s_eqD (.tuple es) (digsD x L) (hes4.dp K) (DaF.dp K (F := fun _ => False) (.tup eT (hys.same s4))) (hbt.shaped (by decide)) (hbD.shaped (by decide)) ?_
      refine k _ H4 ?_ (s1.trans (s2.trans (s3.trans s4)))
      rw [eqv_nb_iff hnbe (nb_digsD x L) hbt.lay.1]
      exact ⟨fun z => ⟨L, hL, z⟩, fun ⟨L', h1, h2⟩ => by rw [M.fac_unique hL h1]; exact h2⟩
/-- which power of b a is, with what shows it -/
def IsWh (p : Nat) (b a : Int) (d : PyData) : Prop := ∃ e : Nat, M.Ord p b e ∧ ((¬ M.is1 p a e ∧ d = .tuple [.none, .tuple [.str "none", .int (e : Nat), .int (M.pw p a e)]]) ∨
  ∃ (x : Nat) (L : List (Nat × Nat)), x < e ∧ M.al p a (b ^ x) ∧ M.IsFac e L ∧ d = .tuple [.int (x : Nat), .tuple [.str "is", .int (e : Nat), digsD x L]])
/-- shows_which(paper, b, a, thing), of any things -/
def sp_shows_which : Sp := fun vs H Q _ => ∃ (v vt : V) (d dt : PyData) (b a : Int), vs = [v, .int b, .int a, vt] ∧ Da H v d ∧ Bd 135 d ∧ Da H vt dt ∧ Bd 60 dt ∧
  ∀ (o : Bool) H', (o = true ↔ IsPap d ∧ M.un (pOf d) b ∧ M.un (pOf d) a ∧ IsWh (pOf d) b a dt) → Same H H' → Q (.bl o) H'
theorem ok_shows_which (T : Txt K mg) : FnOk P w K mg base CX0 146 (He.ga K "shows_which") (fd_shows_which T) ["paper", "b", "a", "thing"] sp_shows_which := by
  refine (F_shows_which T).ok sc_shows_which (fun vs H Q E h => ?_) (fun cdv A outer s H vs Q E hr h => ⟨_, PSs.nox (pss_cons (ps_if (PW.pt (pw_or (pt_not (pt_val (pe_call (ok_is_prime_paper T) (hr.mono (by decide)) rfl (g_is_prime_paper T) (kp_is_prime_paper T) (B_is_prime_paper T) .nil pass0 (pa_cons (pv 0) pa_nil)))) (pw_or (pt_cmpR op_eq (pe_op op_mod (pv 1) (pe_ix ix_seq (pv 0) pe_int (fun _ _ => rfl))) pe_int (nomark _)) (pw_or1 (pt_cmpR op_eq (pe_op op_mod (pv 2) (pe_ix ix_seq (pv 0) pe_int (fun _ _ => rfl))) pe_int (nomark _)))))) (pss_one (ps_ret pe_bl)) pss_nil)
      (pss_cons (ps_if (PW.pt (pw_or (pt_not (pt_val (pe_call (ok_is_row_of T) (hr.mono (by decide)) rfl (g_is_row_of T) (kp_is_row_of T) (B_is_row_of T) .nil pass0 (pa_cons (pv 3) (pa_cons pe_int pa_nil))))) (pw_or (pt_not (pt_val (pe_call (ok_is_row_of T) (hr.mono (by decide)) rfl (g_is_row_of T) (kp_is_row_of T) (B_is_row_of T) .nil pass0 (pa_cons (pe_ix ix_seq (pv 3) pe_int (fun _ _ => rfl)) (pa_cons pe_int pa_nil))))) (pw_or1 (pt_not (pt_val (pe_call (ok_is_whole T) (hr.mono (by decide)) rfl (g_is_whole T) (kp_is_whole T) (B_is_whole T) .nil pass0 (pa_cons (pe_ix ix_seq (pe_ix ix_seq (pv 3) pe_int (fun _ _ => rfl)) pe_int (fun _ _ => rfl)) (pa_cons pe_int pa_nil))))))))) (pss_one (ps_ret pe_bl)) pss_nil)
      (pss_cons (ps_asg (pv 3) (pg_tup rfl (pgs_cons (pg_name (i := 4) sc_shows_which.nd rfl (Or.inl rfl)) (pgs_cons (pg_name (i := 5) sc_shows_which.nd rfl (Or.inl rfl)) pgs_nil))))
      (pss_cons (ps_set (i := 6) sc_shows_which.nd rfl (Or.inl rfl) (pe_ix ix_seq (pv 0) pe_int (fun _ _ => rfl)))
      (pss_cons (ps_set (i := 7) sc_shows_which.nd rfl (Or.inl rfl) (pe_ix ix_seq (pv 5) pe_int (fun _ _ => rfl)))
      (pss_cons (ps_if (pt_not (pt_val (pe_call (ok_is_order T) (hr.mono (by decide)) rfl (g_is_order T) (kp_is_order T) (B_is_order T) .nil pass0 (pa_cons (pv 0) (pa_cons (pv 1) (pa_cons (pv 7) pa_nil)))))) (pss_one (ps_ret pe_bl)) pss_nil)
      (pss_cons (ps_if (pt_cmpR (op_eqD hr.units) (pe_ix ix_seq (pv 5) pe_int (fun _ _ => rfl)) pe_str (nomark _)) (pss_cons (ps_set (i := 8) sc_shows_which.nd rfl (Or.inl rfl) (pe_call (ok_power T) (hr.mono (by decide)) rfl (g_power T) (kp_power T) (B_power T) .nil passL (pa_cons (pv 6) (pa_cons (pv 2) (pa_cons (pv 7) pa_nil)))))
      (pss_one (ps_ret (pe_and (pe_cmpR op_isN1 (pv 4) pe_non (nomark _)) (pe_and (pe_call (ok_is_whole T) (hr.mono (by decide)) rfl (g_is_whole T) (kp_is_whole T) (B_is_whole T) .nil pass0 (pa_cons (pe_ix ix_seq (pv 5) pe_int (fun _ _ => rfl)) (pa_cons pe_int pa_nil))) (pe_and (pe_cmpR op_eq (pe_ix ix_seq (pv 5) pe_int (fun _ _ => rfl)) (pv 8) (nomark _)) (pe_one (pe_cmpR op_ne (pv 8) pe_int (nomark _))))))))) pss_nil)
      (pss_cons (ps_if (PW.pt (pw_or (pt_cmpR (op_neD hr.units) (pe_ix ix_seq (pv 5) pe_int (fun _ _ => rfl)) pe_str (nomark _)) (pw_or (pt_not (pt_val (pe_call (ok_is_whole T) (hr.mono (by decide)) rfl (g_is_whole T) (kp_is_whole T) (B_is_whole T) .nil pass0 (pa_cons (pv 4) (pa_cons pe_int pa_nil))))) (pw_or1 (pt_cmpR op_ge (pv 4) (pv 7) (nomark _)))))) (pss_one (ps_ret pe_bl)) pss_nil)
      (pss_one (ps_ret (pe_and (pe_cmpR op_eq (pe_call (ok_power T) (hr.mono (by decide)) rfl (g_power T) (kp_power T) (B_power T) .nil passL (pa_cons (pv 6) (pa_cons (pv 1) (pa_cons (pv 4) pa_nil)))) (pe_op op_mod (pv 2) (pv 6)) (nomark _)) (pe_one (pe_call (ok_are_digits T) (hr.mono (by decide)) rfl (g_are_digits T) (kp_are_digits T) (B_are_digits T) .nil pass0 (pa_cons (pv 0) (pa_cons (pv 7) (pa_cons (pv 4) (pa_cons (pe_ix ix_seq (pv 5) pe_int (fun _ _ => rfl)) pa_nil))))))))))))))))), ?_⟩)
  · obtain ⟨v, vt, d, dt, b, a, rfl, _⟩ := h; rfl
  · obtain ⟨v, vt, d, dt, b, a, rfl, hd, hbd, hdt, hbt, k⟩ := h
    have bad : ¬ (IsPap d ∧ M.un (pOf d) b ∧ M.un (pOf d) a ∧ IsWh (pOf d) b a dt) → ∀ H2, Same H H2 → Q (.bl false) H2 := fun h H2 s2 => k false H2 ⟨fun z => (nomatch z), fun z => absurd z h⟩ s2
    walk_at "g"
    refine ⟨v, d, rfl, hd, hbd, fun bb H1 hbb s1 => ?_⟩
    walk_at "g"
    cases bb with
    | false =>
      walk_at "g"
      exact bad (fun z => absurd (hbb.mpr z.1) (by simp)) H1 s1
    | true =>
    have hpap : IsPap d := hbb.mp rfl
    obtain ⟨t, u, f, xs, ds, rfl, et, eu, hds, hp, hpb, hl, hrow, hlen⟩ := (hd.same s1).paper hpap hbd
    have hp2 := hp.1
    have hdP : Da H1 (.ref t) d := hd.same s1
    have hk := k
    generalize hpd : pOf d = p at *
    have ib := M.un_iff (p := p) (a := b)
    have ia := M.un_iff (p := p) (a := a)
    walk_at "g"
    refine s_ixT (SqT.of et) (atI0 0 rfl rfl) ?_
    walk_at "g"
    refine s_i (by omega) ?_
    walk_at "g"
    refine s_ite (fun c => ?_) (fun c => ?_)
    · walk_at "g"
      exact bad (fun z => ib.mp z.2.1 c) H1 s1
    walk_at "g"
    refine s_ixT (SqT.of et) (atI0 0 rfl rfl) ?_
    walk_at "g"
    refine s_i (by omega) ?_
    walk_at "g"
    refine s_ite (fun c2 => ?_) (fun c2 => ?_)
    · walk_at "g"
      exact bad (fun z => ia.mp z.2.2.1 c2) H1 s1
    have hub : M.un p b := ib.mpr c
    have hua : M.un p a := ia.mpr c2
    walk_at "g"
    refine ⟨vt, dt, 2, rfl, hdt.same s1, ?_⟩
    walk_at "g"
    have badF : (∀ x s, dt = .tuple [x, s] → ¬ IsWh p b a (.tuple [x, s])) → ∀ H2, Same H H2 → Q (.bl false) H2 := fun h H2 s2 => bad (fun ⟨_, _, _, z⟩ => by
      obtain ⟨e, _, ⟨_, e1⟩ | ⟨x, L, _, _, _, e1⟩⟩ := id z
      · rw [e1] at z; exact h _ _ e1 z
      · rw [e1] at z; exact h _ _ e1 z) H2 s2
    cases er : isR 2 dt with
    | false =>
      walk_at "g"
      exact badF (fun x s e => by rw [e] at er; cases er) H1 s1
    | true =>
    obtain ⟨es, rfl, hl2⟩ := isR_inv er
    obtain ⟨d0, d1, rfl⟩ : ∃ a0 a1, es = [a0, a1] := by
      match es, hl2 with
      | [a, b], _ => exact ⟨a, b, rfl⟩
      | [], h => simp at h
      | [_], h => simp at h
      | _ :: _ :: _ :: _, h => simp at h; omega
    obtain ⟨m1, em1, _, hb1⟩ := hbt.tup_inv
    have hbd1 : Bd 59 d1 := by rw [show 59 = m1 by omega]; exact hb1 d1 (by simp)
    have hdt1 := hdt.same s1
    cases hdt1 with
    | @tup tt ys _ ett hy =>
    obtain ⟨y0, y1, yr, rfl, h0, h1, h2⟩ := hy.two
    cases h2
    walk_at "g"
    refine s_ixT (SqT.of ett) (atI0 1 rfl rfl) ?_
    walk_at "g"
    refine ⟨y1, d1, 3, rfl, h1, ?_⟩
    walk_at "g"
    have badG : (∀ w e r, d1 = .tuple [w, e, r] → ¬ IsWh p b a (.tuple [d0, .tuple [w, e, r]])) → ∀ H2, Same H H2 → Q (.bl false) H2 := fun h H2 s2 => badF (fun x s e z => by
      cases e
      obtain ⟨e, _, ⟨_, e1⟩ | ⟨x, L, _, _, _, e1⟩⟩ := id z
      · cases e1; exact h _ _ _ rfl z
      · cases e1; exact h _ _ _ rfl z) H2 s2
    cases er1 : isR 3 d1 with
    | false =>
      walk_at "g"
      exact badG (fun w e r z => by rw [z] at er1; cases er1) H1 s1
    | true =>
    obtain ⟨es, rfl, hl3⟩ := isR_inv er1
    obtain ⟨w0, w1, w2, rfl⟩ : ∃ a0 a1 a2, es = [a0, a1, a2] := by
      match es, hl3 with
      | [a, b, c], _ => exact ⟨a, b, c, rfl⟩
      | [], h => simp at h
      | [_], h => simp at h
      | [_, _], h => simp at h
      | _ :: _ :: _ :: _ :: _, h => simp at h; omega
    obtain ⟨m2, em2, _, hb2⟩ := hbd1.tup_inv
    cases h1 with
    | @tup ts zs _ ets hz =>
    obtain ⟨z0, z1, z2, zr, rfl, g0, g1, g2, g3⟩ := hz.three
    cases g3
    walk_at "g"
    refine s_ixT (SqT.of ett) (atI0 1 rfl rfl) ?_
    walk_at "g"
    refine s_ixT (SqT.of ets) (atI0 1 rfl rfl) ?_
    walk_at "g"
    refine ⟨z1, w1, 1, rfl, g1, ?_⟩
    walk_at "g"
    have badH : ¬ IsWh p b a (.tuple [d0, .tuple [w0, w1, w2]]) → ∀ H2, Same H H2 → Q (.bl false) H2 := fun h H2 s2 => badG (fun w e r z => by cases z; exact h) H2 s2
    cases ew1 : isW 1 w1 with
    | false =>
      walk_at "g"
      refine badH (fun z => ?_) H1 s1
      obtain ⟨e, ho, ⟨_, e1⟩ | ⟨x, L, _, _, _, e1⟩⟩ := z
      all_goals
        cases e1
        have := ho.pos
        rw [isW_int, decide_eq_true (by omega)] at ew1
        cases ew1
    | true =>
    obtain ⟨e, rfl, e1⟩ := isW_inv ew1
    cases g1
    have heb := (hb2 (.int e) (by simp)).int_inv
    walk_at "g"
    refine s_gtup (SqT.of ett) rfl ?_
    walk_at "g"
    refine s_ixT (SqT.of et) (atI0 0 rfl rfl) ?_
    walk_at "g"
    refine s_ixT (SqT.of ets) (atI0 1 rfl rfl) ?_
    walk_at "g"
    refine ⟨.ref t, d, 135, b, e, rfl, hdP, hpap, hbd, by omega, fun o H2 ho s2 => ?_⟩
    rw [hpd] at ho
    walk_at "g"
    cases o with
    | false =>
      walk_at "g"
      refine badH (fun z => ?_) H2 (s1.trans s2)
      obtain ⟨e', ho', ⟨_, e1⟩ | ⟨x, L, _, _, _, e1⟩⟩ := z
      all_goals
        cases e1
        exact absurd (ho.mpr ⟨e', rfl, ho'⟩) (by simp)
    | true =>
    obtain ⟨e, rfl, hord⟩ := ho.mp rfl
    have hed := hord.dvd hp (M.fermat hp hub)
    have hele := Nat.le_of_dvd (by omega) hed
    have e0 := hord.pos
    have ett2 := s2 _ _ ett
    have ets2 := s2 _ _ ets
    have g02 := g0.same s2
    have g22 := g2.same s2
    have s12 := s1.trans s2
    have uq : ∀ e' : Nat, M.Ord p b e' → e' = e := fun e' h => h.uniqueN hord
    walk_at "g"
    refine s_ixT (SqT.of ets2) (atI0 0 rfl rfl) ?_
    walk_at "g"
    have hbw : Bd 58 w0 := by rw [show 58 = m2 by omega]; exact hb2 w0 (by simp)
    refine s_eqD w0 (.str "none") (g02.dp K) (.str _) (hbw.shaped (by decide)) ((.str _ (by decide +kernel) : Bd 1 _).shaped (by decide)) ?_
    walk_at "g"
    cases ee : PyData.eqv w0 (.str "none") with
    | true =>
      obtain rfl := eqv_str.mp ee
      walk_at "g"
      refine pos_power (m := e) rfl (by omega) (by omega) ?_
      walk_at "g"
      refine ⟨rfl, ?_⟩
      have hno : ¬ (d0 = .none ∧ w2 = .int (M.pw p a e) ∧ M.pw p a e ≠ 1) → ∀ H3, Same H H3 → Q (.bl false) H3 := fun h => badH fun z => by
        obtain ⟨e', ho', ⟨hn, e1⟩ | ⟨x, L, _, _, _, e1⟩⟩ := z
        · cases e1
          exact h ⟨rfl, rfl, fun z => hn ((M.pw_one_iff hp2).mp z)⟩
        · cases e1
      have hr := M.pw_range (n := (p : Int)) (by omega) a e
      by_cases cx : y0 = .non
      · subst cx
        cases h0
        rw [decide_eq_true rfl]
        walk_at "g"
        refine s_ixT (SqT.of ets2) (atI0 2 rfl rfl) ?_
        walk_at "g"
        refine ⟨z2, w2, 0, rfl, g22, ?_⟩
        cases ew2 : isW 0 w2 with
        | false =>
          walk_at "g"
          refine hno (fun z => ?_) H2 s12
          rw [z.2.1, isW_int, decide_eq_true (by omega)] at ew2
          cases ew2
        | true =>
        obtain ⟨r, rfl, r0⟩ := isW_inv ew2
        cases g22
        walk_at "g"
        refine s_ixT (SqT.of ets2) (atI0 2 rfl rfl) ?_
        walk_at "g"
        refine s_ite (fun c5 => ?_) (fun c5 => ?_)
        · walk_at "g"
          refine hk _ H2 ?_ s12
          rw [Bool.not_eq_true', decide_eq_false_iff_not]
          constructor
          · intro h5
            refine ⟨hpap, hub, hua, e, hord, .inl ⟨fun z => h5 ((M.pw_one_iff hp2).mpr z), ?_⟩⟩
            rw [c5]
          · rintro ⟨_, _, _, e', ho', ⟨hn, e1⟩ | ⟨x, L, _, _, _, e1⟩⟩
            · obtain rfl := uq _ ho'
              exact fun z => hn ((M.pw_one_iff hp2).mp z)
            · cases e1
        · walk_at "g"
          exact hno (fun z => c5 (PyData.int.inj z.2.1)) H2 s12
      · rw [decide_eq_false cx]
        walk_at "g"
        refine hno (fun z => cx ?_) H2 s12
        rw [z.1] at h0
        cases h0; rfl
    | false =>
    have hw0 : w0 ≠ .str "none" := fun z => by rw [eqv_str.mpr z] at ee; cases ee
    walk_at "g"
    refine s_ixT (SqT.of ets2) (atI0 0 rfl rfl) ?_
    walk_at "g"
    refine s_neD w0 (.str "is") (g02.dp K) (.str _) (hbw.shaped (by decide)) ((.str _ (by decide +kernel) : Bd 1 _).shaped (by decide)) ?_
    walk_at "g"
    cases ee2 : PyData.eqv w0 (.str "is") with
    | false =>
      walk_at "g"
      refine badH (fun z => ?_) H2 s12
      obtain ⟨e', ho', ⟨hn, e1⟩ | ⟨x, L, _, _, _, e1⟩⟩ := z
      · cases e1; exact hw0 rfl
      · cases e1
        rw [eqv_str.mpr rfl] at ee2
        cases ee2
    | true =>
    obtain rfl := eqv_str.mp ee2
    walk_at "g"
    refine ⟨y0, d0, 0, rfl, h0.same s2, ?_⟩
    walk_at "g"
    have hno : ¬ (∃ (x : Nat) (L : List (Nat × Nat)), x < e ∧ M.al p a (b ^ x) ∧ M.IsFac e L ∧ d0 = .int (x : Nat) ∧ w2 = digsD x L) → ∀ H3, Same H H3 → Q (.bl false) H3 := fun h => badH fun z => by
      obtain ⟨e', ho', ⟨hn, e1⟩ | ⟨x, L, h1, h2, h3, e1⟩⟩ := z
      · cases e1
      · cases e1
        exact h ⟨x, L, h1, h2, h3, rfl, rfl⟩
    cases ew0 : isW 0 d0 with
    | false =>
      walk_at "g"
      refine hno (fun ⟨x, L, _, _, _, z, _⟩ => ?_) H2 s12
      rw [z, isW_int, decide_eq_true (by omega)] at ew0
      cases ew0
    | true =>
    obtain ⟨x, rfl, x0⟩ := isW_inv ew0
    obtain ⟨x, rfl⟩ := Int.eq_ofNat_of_zero_le x0
    cases h0
    walk_at "g"
    refine s_ite (fun c6 => ?_) (fun c6 => ?_)
    · walk_at "g"
      refine hno (fun ⟨x', L, h1, _, _, z, _⟩ => ?_) H2 s12
      have := PyData.int.inj z
      omega
    walk_at "g"
    refine pos_power (m := x) rfl (by omega) (by omega) ?_
    walk_at "g"
    refine s_i (by omega) ?_
    walk_at "g"
    refine s_ite (fun c7 => ?_) (fun c7 => ?_)
    · have hal : M.al p a (b ^ x) := M.al_of_emod c7.symm
      walk_at "g"
      refine s_ixT (SqT.of ets2) (atI0 2 rfl rfl) ?_
      walk_at "g"
      have hbw2 : Bd 58 w2 := by rw [show 58 = m2 by omega]; exact hb2 w2 (by simp)
      refine ⟨.ref t, z2, d, w2, 135, e, x, rfl, hdP.same s2, hpap, hbd, g22, hbw2.mono (by decide), e0, by rw [hpd]; exact hed, by omega, fun o H3 ho3 s3 => ?_⟩
      refine hk _ H3 (ho3.trans ?_) (s12.trans s3)
      constructor
      · rintro ⟨L, h1, h2⟩
        exact ⟨hpap, hub, hua, e, hord, .inr ⟨x, L, by omega, hal, h1, by rw [h2]⟩⟩
      · rintro ⟨_, _, _, e', ho', ⟨hn, e1⟩ | ⟨x', L, h1, h2, h3, e1⟩⟩
        · cases e1
        · simp only [PyData.tuple.injEq, List.cons.injEq, PyData.int.injEq, and_true, true_and] at e1
          obtain ⟨q1, q2, q3⟩ := e1
          obtain rfl := uq _ ho'
          have : x' = x := by omega
          subst this
          exact ⟨L, h3, q3⟩
    · walk_at "g"
      refine hno (fun ⟨x', L, _, hal, _, z, _⟩ => c7 ?_) H2 s12
      have : x' = x := by have := PyData.int.inj z; omega
      subst this
      exact (M.al_emod hal).symm

/-! data of tuples alone stand when one place that holds no tuple changes -/
mutual
theorem DaF.tups {H H' : Hp} (s : ∀ b r, H b = some (.tup r) → H' b = some (.tup r)) : ∀ {v : V} {d : PyData}, DaF (fun _ => False) H v d → DaF (fun _ => False) H' v d
  | _, _, .non => .non
  | _, _, .bl b => .bl b
  | _, _, .int i => .int i
  | _, _, .str x => .str x
  | _, _, .tup e h => .tup (s _ _ e) (DaL.tups s h)
theorem DaL.tups {H H' : Hp} (s : ∀ b r, H b = some (.tup r) → H' b = some (.tup r)) : ∀ {vs : List V} {ds : List PyData}, DaL (fun _ => False) H vs ds → DaL (fun _ => False) H' vs ds
  | _, _, .nil => .nil
  | _, _, .cons h t => .cons (DaF.tups s h) (DaL.tups s t)
end
theorem DaF.sameN {H H' : Hp} {s : Addr} {v : V} {d : PyData} (h : DaF (fun _ => False) H v d) (st : ∀ r, H s ≠ some (.tup r)) (sb : SameB s H H') : Tu H' v d := DaF.tups (fun b r e => sb _ _ (fun z => by
  rw [z] at e; exact st _ e) e) h
theorem DaF.da {H : Hp} {v : V} {d : PyData} (h : DaF (fun _ => False) H v d) : Da H v d := h.mono fun _ z => z.elim

/-! the small readers of morechecks, of any datum -/
/-- a list of one to five prime papers, their primes rising -/
def PapsD (d : PyData) : Prop := ∃ ds : List PyData, d = .list ds ∧ 1 ≤ ds.length ∧ ds.length ≤ 5 ∧ (∀ e ∈ ds, IsPap e) ∧ (ds.map pOf).Pairwise (· < ·)
def isBel : PyData → Int → Bool
  | .int i, b => decide (0 ≤ i) && decide (i < b)
  | _, _ => false
theorem isBel_inv {d : PyData} {b : Int} (h : isBel d b = true) : ∃ i : Nat, d = .int (i : Nat) ∧ (i : Int) < b := by
  cases d with
  | int i =>
    simp only [isBel, Bool.and_eq_true, decide_eq_true_eq] at h
    obtain ⟨n, rfl⟩ := Int.eq_ofNat_of_zero_le h.1
    exact ⟨n, rfl, h.2⟩
  | _ => cases h
def isNm : PyData → Str → Int → Bool
  | .tuple (e :: es), w, m => decide (((e :: es).length : Int) = m) && PyData.eqv e (.str w)
  | _, _, _ => false
theorem isNm_inv {d : PyData} {w : Str} {m : Int} (h : isNm d w m = true) : ∃ es, d = .tuple (.str w :: es) ∧ ((es.length : Int) + 1 = m) := by
  cases d with
  | tuple es =>
    cases es with
    | nil => cases h
    | cons e es =>
      simp only [isNm, Bool.and_eq_true, decide_eq_true_eq] at h
      have := eqv_str.mp h.2
      subst this
      exact ⟨es, rfl, by have := h.1; simp only [List.length_cons] at this; omega⟩
  | _ => cases h
theorem isNm_of {w : Str} {es : List PyData} {m : Int} (h : (es.length : Int) + 1 = m) : isNm (.tuple (.str w :: es)) w m = true := by
  simp only [isNm, Bool.and_eq_true, decide_eq_true_eq]
  exact ⟨by simp only [List.length_cons]; omega, eqv_str.mpr rfl⟩
/-- is_below(thing, bound), of any datum -/
def sp_is_below : Sp := fun vs H Q _ => ∃ (v : V) (d : PyData) (b : Int), vs = [v, .int b] ∧ Da H v d ∧ Q (.bl (isBel d b)) H
theorem ok_is_below (T : Txt K mg) : FnOk P w K mg base CX0 2 (He.ga K "is_below") (fd_is_below T) ["thing", "bound"] sp_is_below := by
  refine (F_is_below T).ok sc_is_below (fun vs H Q E h => ?_) (fun cdv A outer s H vs Q E hr h => ⟨_, PSs.nox (pss_one (ps_ret (pe_and (pe_call (ok_is_whole T) (hr.mono (by decide)) rfl (g_is_whole T) (kp_is_whole T) (B_is_whole T) .nil pass0 (pa_cons (pv 0) (pa_cons pe_int pa_nil))) (pe_one (pe_cmpR op_lt (pv 0) (pv 1) (nomark _)))))), ?_⟩)
  · obtain ⟨v, d, b, rfl, _⟩ := h; rfl
  · obtain ⟨v, d, b, rfl, hd, k⟩ := h
    walk_at "g"
    refine ⟨v, d, 0, rfl, hd, ?_⟩
    walk_at "g"
    cases ew : isW 0 d with
    | false =>
      have e : isBel d b = false := by
        cases d with
        | int i =>
          rw [isW_int] at ew
          simp only [isBel, ew, Bool.false_and]
        | _ => rfl
      rw [e] at k
      walk_at "g"
      exact k
    | true =>
      obtain ⟨i, rfl, i0⟩ := isW_inv ew
      cases hd
      have e : isBel (.int i) b = decide (i < b) := by
        simp only [isBel]
        rw [decide_eq_true i0, Bool.true_and]
      rw [e] at k
      walk_at "g"
      exact k
/-- is_named(thing, word, many), of any datum -/
def sp_is_named : Sp := fun vs H Q _ => ∃ (v : V) (d : PyData) (w : Str) (m : Int) (n : Nat), vs = [v, .str w, .int m] ∧ Da H v d ∧ Bd n d ∧ n ≤ 64 ∧ PyData.strOk w = true ∧ 1 ≤ m ∧ Q (.bl (isNm d w m)) H
theorem ok_is_named (T : Txt K mg) : FnOk P w K mg base CX0 2 (He.ga K "is_named") (fd_is_named T) ["thing", "word", "many"] sp_is_named := by
  refine (F_is_named T).ok sc_is_named (fun vs H Q E h => ?_) (fun cdv A outer s H vs Q E hr h => ⟨_, PSs.nox (pss_one (ps_ret (pe_and (pe_call (ok_is_row_of T) (hr.mono (by decide)) rfl (g_is_row_of T) (kp_is_row_of T) (B_is_row_of T) .nil pass0 (pa_cons (pv 0) (pa_cons (pv 2) pa_nil))) (pe_one (pe_cmpR (op_eqD hr.units) (pe_ix ix_seq (pv 0) pe_int (fun _ _ => rfl)) (pv 1) (nomark _)))))), ?_⟩)
  · obtain ⟨v, d, w, m, n, rfl, _⟩ := h; rfl
  · obtain ⟨v, d, w, m, n, rfl, hd, hbd, n64, hw, m1, k⟩ := h
    walk_at "g"
    refine ⟨v, d, m, rfl, hd, ?_⟩
    walk_at "g"
    cases er : isR m d with
    | false =>
      have e : isNm d w m = false := by
        cases h : isNm d w m with
        | false => rfl
        | true =>
          obtain ⟨es, rfl, hl⟩ := isNm_inv h
          rw [isR_tup] at er
          have := of_decide_eq_false er
          simp only [List.length_cons] at this
          omega
      rw [e] at k
      walk_at "g"
      exact k
    | true =>
      obtain ⟨es, rfl, hl⟩ := isR_inv er
      cases es with
      | nil => simp at hl; omega
      | cons e0 es =>
      obtain ⟨m1', em1, _, hb1⟩ := hbd.tup_inv
      cases hd with
      | @tup t ys _ et hy =>
      cases hy with
      | @cons y0 ys' _ _ h0 ht =>
      walk_at "g"
      refine s_ixT (SqT.of et) (atI0 0 rfl rfl) ?_
      walk_at "g"
      refine s_eqD e0 (.str w) (h0.dp K) (.str _) ((hb1 e0 (by simp)).shaped (by omega)) ((Bd.str w hw : Bd 1 _).shaped (by decide)) ?_
      have e : isNm (.tuple (e0 :: es)) w m = PyData.eqv e0 (.str w) := by
        simp only [isNm]
        rw [decide_eq_true hl, Bool.true_and]
      rw [e] at k
      walk_at "g"
      exact k
/-- are_primes(things), of any datum -/
def sp_are_primes : Sp := fun vs H Q _ => ∃ (v : V) (d : PyData), vs = [v] ∧ Da H v d ∧ Bd 136 d ∧ ∀ (o : Bool) H', (o = true ↔ PapsD d) → Same H H' → Q (.bl o) H'
theorem ok_are_primes (T : Txt K mg) : FnOk P w K mg base CX0 146 (He.ga K "are_primes") (fd_are_primes T) ["things"] sp_are_primes := by
  refine (F_are_primes T).ok sc_are_primes (fun vs H Q E h => ?_) (fun cdv A outer s H vs Q E hr h => ⟨_, PSs.nox (pss_cons (ps_if (PW.pt (pw_or (pt_not (pt_val (pe_callB call_isi rfl (T.fr (T.c.fact 52 rfl)) boot_isinstance (pa_cons (pv 0) (pa_cons (pe_bltn (v := .ty "list") rfl (T.fr (T.c.fact 60 rfl)) boot_list rfl) pa_nil))))) (pw_or (pt_cmpR op_lt (pe_callB callLen rfl (T.fr (T.c.fact 56 rfl)) boot_len (pa_cons (pv 0) pa_nil)) pe_int (nomark _)) (pw_or1 (pt_cmpR op_gt (pe_callB callLen rfl (T.fr (T.c.fact 56 rfl)) boot_len (pa_cons (pv 0) pa_nil)) (pe_glob (v := .int 5) rfl (T.int_ok (T.c.fact 63 rfl)).choose_spec ⟨_, rfl⟩) (nomark _)))))) (pss_one (ps_ret pe_bl)) pss_nil)
      (pss_cons (ps_set (i := 1) sc_are_primes.nd rfl (Or.inl rfl) pe_int)
      (pss_cons (ps_for PassesOwn.never rfl (pi_list (pv 0)) (pg_name (i := 2) sc_are_primes.nd rfl (Or.inl rfl)) (pss_cons (ps_if (PW.pt (pw_or (pt_not (pt_val (pe_call (ok_is_prime_paper T) (hr.mono (by decide)) rfl (g_is_prime_paper T) (kp_is_prime_paper T) (B_is_prime_paper T) .nil pass0 (pa_cons (pv 2) pa_nil)))) (pw_or1 (pt_cmpR op_le (pe_ix ix_seq (pv 2) pe_int (fun _ _ => rfl)) (pv 1) (nomark _))))) (pss_one (ps_ret pe_bl)) pss_nil)
      (pss_one (ps_set (i := 1) sc_are_primes.nd rfl (Or.inl rfl) (pe_ix ix_seq (pv 2) pe_int (fun _ _ => rfl))))))
      (pss_one (ps_ret pe_bl))))), ?_⟩)
  · obtain ⟨v, d, rfl, _⟩ := h; rfl
  · obtain ⟨v, d, rfl, hd, hbd, k⟩ := h
    have bad : (PapsD d → False) → ∀ H2, Same H H2 → Q (.bl false) H2 := fun h H2 s2 => k false H2 ⟨fun z => (nomatch z), fun z => (h z).elim⟩ s2
    walk_at "g"
    refine s_isiLst hd ?_
    walk_at "g"
    cases el : isLst d with
    | false =>
      walk_at "g"
      exact bad (fun ⟨ds, e, _⟩ => by rw [e] at el; cases el) H (Same.refl _)
    | true =>
    cases hd with
    | non => cases el
    | bl b => cases el
    | int i => cases el
    | str x => cases el
    | tup _ _ => cases el
    | @lst D ws ds eD hds _ =>
    obtain ⟨m2, em2, hql, hbq⟩ := hbd.lst_inv
    have hwl := hds.len
    walk_at "g"
    refine s_lenL (SqL.of eD) ?_
    rw [hwl]
    walk_at "g"
    refine s_ite (fun c1 => ?_) (fun c1 => ?_)
    · walk_at "g"
      exact bad (fun ⟨ds', e, z, _⟩ => by cases e; omega) H (Same.refl _)
    walk_at "g"
    refine s_lenL (SqL.of eD) ?_
    rw [hwl]
    walk_at "g"
    refine s_ite (fun c2 => ?_) (fun c2 => ?_)
    · walk_at "g"
      exact bad (fun ⟨ds', e, _, z, _⟩ => by cases e; omega) H (Same.refl _)
    walk_at "g"
    refine ⟨⟨_, SqL.of eD⟩, ?_⟩
    refine for_list (fun i σ H' => Same H H' ∧ ∃ (last : Int) (v2 : Option V), σ = [some (.ref D), some (.int last), v2] ∧ (∀ e ∈ ds.take i, IsPap e ∧ (pOf e : Int) ≤ last) ∧ ((ds.take i).map pOf).Pairwise (· < ·) ∧ (i = 0 ∧ last = 1 ∨ ∃ e ∈ ds.take i, (pOf e : Int) = last)) ⟨Same.refl _, 1, none, rfl, by simp, by simp, .inl ⟨rfl, rfl⟩⟩ (fun i σ H' _ I => SqL.of (I.1 _ _ eD)) ?_ ?_
    · rintro i x σ H' hi ⟨s1, last, v2, rfl, hall, hpw, hla⟩
      obtain ⟨q, hq, hxq⟩ := hds.get hi
      have hmem := List.mem_of_getElem? hq
      have hqi := List.getElem?_eq_some_iff.mp hq
      walk_at "g"
      refine ⟨x, q, rfl, hxq.same s1, by rw [show 3 * 45 = m2 by omega]; exact hbq q hmem, fun bb H2 hbb s2 => ?_⟩
      have s12 := s1.trans s2
      walk_at "g"
      cases bb with
      | false =>
        walk_at "g"
        exact bad (fun ⟨ds', e, _, _, z, _⟩ => by cases e; exact absurd (hbb.mpr (z q hmem)) (by simp)) H2 s12
      | true =>
      have hpap : IsPap q := hbb.mp rfl
      obtain ⟨t, u, f, xs, es, rfl, et, eu, hes, hp, hpb, hl, hrow, hlen⟩ := (hxq.same s12).paper hpap (hbq q hmem)
      have hp2 := hp.1
      walk_at "g"
      refine s_ixT (SqT.of et) (atI0 0 rfl rfl) ?_
      walk_at "g"
      refine s_ite (fun c3 => ?_) (fun c3 => ?_)
      · walk_at "g"
        refine bad (fun ⟨ds', e, _, _, _, z⟩ => ?_) H2 s12
        cases e
        rcases hla with ⟨_, z1⟩ | ⟨e', he', z1⟩
        · omega
        · obtain ⟨j, hj, hje⟩ := List.getElem_of_mem he'
          rw [List.length_take] at hj
          rw [List.getElem_take] at hje
          have := List.pairwise_iff_getElem.mp z j i (by rw [List.length_map]; omega) (by rw [List.length_map]; exact hqi.1) (by omega)
          rw [List.getElem_map, List.getElem_map, hje, hqi.2] at this
          omega
      walk_at "g"
      refine s_ixT (SqT.of et) (atI0 0 rfl rfl) ?_
      walk_at "g"
      refine ⟨s12, _, _, rfl, ?_, ?_, .inr ⟨q, by rw [take_more hq]; simp, rfl⟩⟩
      · intro e he
        rw [take_more hq] at he
        rcases List.mem_append.mp he with z | z
        · exact ⟨(hall e z).1, by have := (hall e z).2; omega⟩
        · rw [List.mem_singleton.mp z]; exact ⟨hpap, Int.le_refl _⟩
      · rw [take_more hq, List.map_append]
        refine List.pairwise_append.mpr ⟨hpw, by simp, fun r hr z hz => ?_⟩
        obtain ⟨e, he, rfl⟩ := List.mem_map.mp hr
        simp only [List.map_cons, List.map_nil, List.mem_singleton] at hz
        rw [hz]
        have := (hall e he).2
        omega
    · rintro σ H' ⟨s1, last, v2, rfl, hall, hpw, hla⟩
      rw [hwl, List.take_length] at hall hpw
      walk_at "g"
      exact k true H' ⟨fun _ => ⟨ds, rfl, by omega, by omega, fun e he => (hall e he).1, hpw⟩, fun _ => rfl⟩ s1
/-- is_power_by's place: the order and which power -/
def PlaceD (p : Nat) (b a : Int) (d : PyData) : Prop := ∃ e y : Nat, d = .tuple [.int (e : Nat), .int (y : Nat)] ∧ M.Ord p b e ∧ y < e ∧ M.al p (b ^ y) a
/-- is_power_by(paper, b, a, place), of any place -/
def sp_is_power_by : Sp := fun vs H Q _ => ∃ (v vt : V) (d dt : PyData) (b a : Int) (n m : Nat), vs = [v, .int b, .int a, vt] ∧ Da H v d ∧ IsPap d ∧ Bd n d ∧ Da H vt dt ∧ Bd m dt ∧ b.natAbs < 2 ^ 900 ∧ a.natAbs < 2 ^ 900 ∧
  ∀ (o : Bool) H', (o = true ↔ PlaceD (pOf d) b a dt) → Same H H' → Q (.bl o) H'
theorem ok_is_power_by (T : Txt K mg) : FnOk P w K mg base CX0 9 (He.ga K "is_power_by") (fd_is_power_by T) ["paper", "b", "a", "place"] sp_is_power_by := by
  refine (F_is_power_by T).ok sc_is_power_by (fun vs H Q E h => ?_) (fun cdv A outer s H vs Q E hr h => ⟨_, PSs.nox (pss_cons (ps_if (PW.pt (pw_or (pt_not (pt_val (pe_call (ok_is_row_of T) (hr.mono (by decide)) rfl (g_is_row_of T) (kp_is_row_of T) (B_is_row_of T) .nil pass0 (pa_cons (pv 3) (pa_cons pe_int pa_nil))))) (pw_or (pt_not (pt_val (pe_call (ok_is_whole T) (hr.mono (by decide)) rfl (g_is_whole T) (kp_is_whole T) (B_is_whole T) .nil pass0 (pa_cons (pe_ix ix_seq (pv 3) pe_int (fun _ _ => rfl)) (pa_cons pe_int pa_nil))))) (pw_or1 (pt_not (pt_val (pe_call (ok_is_order T) (hr.mono (by decide)) rfl (g_is_order T) (kp_is_order T) (B_is_order T) .nil pass0 (pa_cons (pv 0) (pa_cons (pv 1) (pa_cons (pe_ix ix_seq (pv 3) pe_int (fun _ _ => rfl)) pa_nil)))))))))) (pss_one (ps_ret pe_bl)) pss_nil)
      (pss_one (ps_ret (pe_and (pe_call (ok_is_below T) (hr.mono (by decide)) rfl (g_is_below T) (kp_is_below T) (B_is_below T) .nil pass0 (pa_cons (pe_ix ix_seq (pv 3) pe_int (fun _ _ => rfl)) (pa_cons (pe_ix ix_seq (pv 3) pe_int (fun _ _ => rfl)) pa_nil))) (pe_one (pe_cmpR op_eq (pe_call (ok_power T) (hr.mono (by decide)) rfl (g_power T) (kp_power T) (B_power T) .nil passL (pa_cons (pe_ix ix_seq (pv 0) pe_int (fun _ _ => rfl)) (pa_cons (pv 1) (pa_cons (pe_ix ix_seq (pv 3) pe_int (fun _ _ => rfl)) pa_nil)))) (pe_op op_mod (pv 2) (pe_ix ix_seq (pv 0) pe_int (fun _ _ => rfl))) (nomark _))))))), ?_⟩)
  · obtain ⟨v, vt, d, dt, b, a, n, m, rfl, _⟩ := h; rfl
  · obtain ⟨v, vt, d, dt, b, a, n, m, rfl, hd, hpap, hbd, hdt, hbt, hbb, hab, k⟩ := h
    have bad : (PlaceD (pOf d) b a dt → False) → ∀ H2, Same H H2 → Q (.bl false) H2 := fun h H2 s2 => k false H2 ⟨fun z => (nomatch z), fun z => (h z).elim⟩ s2
    walk_at "g"
    refine ⟨vt, dt, 2, rfl, hdt, ?_⟩
    walk_at "g"
    cases er : isR 2 dt with
    | false =>
      walk_at "g"
      exact bad (fun ⟨e, y, z, _⟩ => by rw [z] at er; cases er) H (Same.refl _)
    | true =>
    obtain ⟨es, rfl, hl2⟩ := isR_inv er
    obtain ⟨d0, d1, rfl⟩ : ∃ a0 a1, es = [a0, a1] := by
      match es, hl2 with
      | [a, b], _ => exact ⟨a, b, rfl⟩
      | [], h => simp at h
      | [_], h => simp at h
      | _ :: _ :: _ :: _, h => simp at h; omega
    obtain ⟨m1, em1, _, hb1⟩ := hbt.tup_inv
    cases hdt with
    | @tup t ys _ ett hy =>
    obtain ⟨y0, y1, yr, rfl, h0, h1, h2⟩ := hy.two
    cases h2
    walk_at "g"
    refine s_ixT (SqT.of ett) (atI0 0 rfl rfl) ?_
    walk_at "g"
    refine ⟨y0, d0, 1, rfl, h0, ?_⟩
    walk_at "g"
    cases ew : isW 1 d0 with
    | false =>
      walk_at "g"
      refine bad (fun ⟨e, y, z, ho, _⟩ => ?_) H (Same.refl _)
      cases z
      rw [isW_int] at ew
      have := of_decide_eq_false ew
      have := ho.pos
      omega
    | true =>
    obtain ⟨i, rfl, i1⟩ := isW_inv ew
    obtain ⟨e, rfl⟩ := Int.eq_ofNat_of_zero_le (show 0 ≤ i by omega)
    cases h0
    have heb := (hb1 (.int (e : Nat)) (by simp)).int_inv
    walk_at "g"
    refine s_ixT (SqT.of ett) (atI0 0 rfl rfl) ?_
    walk_at "g"
    refine ⟨v, d, n, b, e, rfl, hd, hpap, hbd, by omega, fun o H1 ho s1 => ?_⟩
    walk_at "g"
    cases o with
    | false =>
      walk_at "g"
      refine bad (fun ⟨e1, y, z, ho', _⟩ => ?_) H1 s1
      cases z
      exact absurd (ho.mpr ⟨_, rfl, ho'⟩) (by simp)
    | true =>
    obtain ⟨e', ee', hord⟩ := ho.mp rfl
    rw [show e' = e by omega] at hord
    clear ee' e'
    walk_at "g"
    refine s_ixT (SqT.of (s1 _ _ ett)) (atI0 1 rfl rfl) ?_
    walk_at "g"
    refine s_ixT (SqT.of (s1 _ _ ett)) (atI0 0 rfl rfl) ?_
    walk_at "g"
    refine ⟨y1, d1, e, rfl, h1.same s1, ?_⟩
    walk_at "g"
    cases ew2 : isBel d1 e with
    | false =>
      walk_at "g"
      refine bad (fun ⟨e', y, z, _, hy, _⟩ => ?_) H1 s1
      cases z
      simp only [isBel, Bool.and_eq_false_iff, decide_eq_false_iff_not] at ew2
      omega
    | true =>
    obtain ⟨y, rfl, hye⟩ := isBel_inv ew2
    cases h1
    obtain ⟨t', u, f, xs, ds, rfl, et, eu, hds, hp, hpb, hl, hrow, hlen⟩ := (hd.same s1).paper hpap hbd
    have hp2 := hp.1
    walk_at "g"
    refine s_ixT (SqT.of et) (atI0 0 rfl rfl) ?_
    walk_at "g"
    refine s_ixT (SqT.of (s1 _ _ ett)) (atI0 1 rfl rfl) ?_
    walk_at "g"
    refine pos_power (m := y) rfl (by omega) (by omega) ?_
    walk_at "g"
    refine s_ixT (SqT.of et) (atI0 0 rfl rfl) ?_
    walk_at "g"
    refine s_i (by omega) ?_
    walk_at "g"
    refine k _ H1 ?_ s1
    rw [decide_eq_true_iff]
    constructor
    · intro h
      exact ⟨e, y, rfl, hord, by omega, M.al_of_emod h⟩
    · rintro ⟨e', y', z, _, _, h⟩
      cases z
      exact M.al_emod h

/-- two primes by which a number is powers that no number is alike with -/
def ApartD (ds : List PyData) (b a : Int) (es : List PyData) : Prop := ∃ (w : PyData) (i j e y e' y' : Nat) (di dj : PyData), es = [w, .int (i : Nat), .int (j : Nat), .tuple [.int (e : Nat), .int (y : Nat)], .tuple [.int (e' : Nat), .int (y' : Nat)]] ∧ i < j ∧ ds[i]? = some di ∧ ds[j]? = some dj ∧
  PlaceD (pOf di) b a (.tuple [.int (e : Nat), .int (y : Nat)]) ∧ PlaceD (pOf dj) b a (.tuple [.int (e' : Nat), .int (y' : Nat)]) ∧ ((y : Int) - (y' : Int)) % ((Nat.gcd e e' : Nat) : Int) ≠ 0
/-- are_apart(papers, b, a, shown), of any five things -/
def sp_are_apart : Sp := fun vs H Q _ => ∃ (D : Addr) (ws : List V) (ds : List PyData) (v : V) (es : List PyData) (b a : Int) (m : Nat), vs = [.ref D, .int b, .int a, v] ∧ H D = some (.lst ws) ∧ DaL (fun _ => True) H ws ds ∧ (∀ d ∈ ds, IsPap d ∧ Bd 135 d) ∧ Da H v (.tuple es) ∧ Bd m (.tuple es) ∧ es.length = 5 ∧ b.natAbs < 2 ^ 900 ∧ a.natAbs < 2 ^ 900 ∧
  ∀ (o : Bool) H', (o = true ↔ ApartD ds b a es) → Same H H' → Q (.bl o) H'
theorem ok_are_apart (T : Txt K mg) : FnOk P w K mg base CX0 10 (He.ga K "are_apart") (fd_are_apart T) ["papers", "b", "a", "shown"] sp_are_apart := by
  refine (F_are_apart T).ok sc_are_apart (fun vs H Q E h => ?_) (fun cdv A outer s H vs Q E hr h => ⟨_, PSs.nox (pss_cons (ps_asg (pv 3) (pg_tup rfl (pgs_cons (pg_name (i := 4) sc_are_apart.nd rfl (Or.inl rfl)) (pgs_cons (pg_name (i := 5) sc_are_apart.nd rfl (Or.inl rfl)) (pgs_cons (pg_name (i := 6) sc_are_apart.nd rfl (Or.inl rfl)) (pgs_cons (pg_name (i := 7) sc_are_apart.nd rfl (Or.inl rfl)) (pgs_cons (pg_name (i := 8) sc_are_apart.nd rfl (Or.inl rfl)) pgs_nil)))))))
      (pss_cons (ps_if (PW.pt (pw_or (pt_not (pt_val (pe_call (ok_is_below T) (hr.mono (by decide)) rfl (g_is_below T) (kp_is_below T) (B_is_below T) .nil pass0 (pa_cons (pv 6) (pa_cons (pe_callB callLen rfl (T.fr (T.c.fact 56 rfl)) boot_len (pa_cons (pv 0) pa_nil)) pa_nil))))) (pw_or1 (pt_not (pt_val (pe_call (ok_is_below T) (hr.mono (by decide)) rfl (g_is_below T) (kp_is_below T) (B_is_below T) .nil pass0 (pa_cons (pv 5) (pa_cons (pv 6) pa_nil)))))))) (pss_one (ps_ret pe_bl)) pss_nil)
      (pss_cons (ps_if (PW.pt (pw_or (pt_not (pt_val (pe_call (ok_is_power_by T) (hr.mono (by decide)) rfl (g_is_power_by T) (kp_is_power_by T) (B_is_power_by T) .nil pass0 (pa_cons (pe_ix ix_seq (pv 0) (pv 5) (fun _ _ => rfl)) (pa_cons (pv 1) (pa_cons (pv 2) (pa_cons (pv 7) pa_nil))))))) (pw_or1 (pt_not (pt_val (pe_call (ok_is_power_by T) (hr.mono (by decide)) rfl (g_is_power_by T) (kp_is_power_by T) (B_is_power_by T) .nil pass0 (pa_cons (pe_ix ix_seq (pv 0) (pv 6) (fun _ _ => rfl)) (pa_cons (pv 1) (pa_cons (pv 2) (pa_cons (pv 8) pa_nil)))))))))) (pss_one (ps_ret pe_bl)) pss_nil)
      (pss_one (ps_ret (pe_cmpR op_ne (pe_op op_mod (pe_op op_sub (pe_ix ix_seq (pv 7) pe_int (fun _ _ => rfl)) (pe_ix ix_seq (pv 8) pe_int (fun _ _ => rfl))) (pe_ix ix_seq (pe_call (ok_divisor T) (hr.mono (by decide)) rfl (g_divisor T) (kp_divisor T) (B_divisor T) .nil pass0 (pa_cons (pe_ix ix_seq (pv 7) pe_int (fun _ _ => rfl)) (pa_cons (pe_ix ix_seq (pv 8) pe_int (fun _ _ => rfl)) pa_nil))) pe_int (fun _ _ => rfl))) pe_int (nomark _))))))), ?_⟩)
  · obtain ⟨D, ws, ds, v, es, b, a, m, rfl, _⟩ := h; rfl
  · obtain ⟨D, ws, ds, v, es, b, a, m, rfl, eD, hds, hpaps, hv, hbv, h5, hbb, hab, k⟩ := h
    have bad : (ApartD ds b a es → False) → ∀ H2, Same H H2 → Q (.bl false) H2 := fun h H2 s2 => k false H2 ⟨fun z => (nomatch z), fun z => (h z).elim⟩ s2
    have hwl := hds.len
    obtain ⟨e0, e1, e2, e3, e4, rfl⟩ : ∃ a0 a1 a2 a3 a4, es = [a0, a1, a2, a3, a4] := by
      match es, h5 with
      | [a, b, c, d, e], _ => exact ⟨a, b, c, d, e, rfl⟩
    obtain ⟨m1, em1, _, hb1⟩ := hbv.tup_inv
    cases hv with
    | @tup t ys _ et hy =>
    cases hy with
    | @cons y0 _ _ _ h0 hy =>
    cases hy with
    | @cons y1 _ _ _ h1 hy =>
    cases hy with
    | @cons y2 _ _ _ h2 hy =>
    cases hy with
    | @cons y3 _ _ _ h3 hy =>
    cases hy with
    | @cons y4 _ _ _ h4 hy =>
    cases hy
    walk_at "g"
    refine s_gtup (SqT.of et) rfl ?_
    walk_at "g"
    refine s_lenL (SqL.of eD) ?_
    rw [hwl]
    walk_at "g"
    refine ⟨y2, e2, ds.length, rfl, h2, ?_⟩
    walk_at "g"
    cases c1 : isBel e2 ds.length with
    | false =>
      walk_at "g"
      refine bad (fun ⟨w, i, j, e, y, e', y', di, dj, z, hij, hdi, hdj, _⟩ => ?_) H (Same.refl _)
      simp only [List.cons.injEq, and_true] at z
      obtain ⟨_, rfl, rfl, rfl, rfl⟩ := z
      have := (List.getElem?_eq_some_iff.mp hdj).1
      simp only [isBel, Bool.and_eq_false_iff, decide_eq_false_iff_not] at c1
      omega
    | true =>
    obtain ⟨j, rfl, hj⟩ := isBel_inv c1
    cases h2
    walk_at "g"
    refine ⟨y1, e1, j, rfl, h1, ?_⟩
    walk_at "g"
    cases c2 : isBel e1 j with
    | false =>
      walk_at "g"
      refine bad (fun ⟨w, i, j', e, y, e', y', di, dj, z, hij, hdi, hdj, _⟩ => ?_) H (Same.refl _)
      simp only [List.cons.injEq, and_true, PyData.int.injEq] at z
      obtain ⟨_, rfl, z2, rfl, rfl⟩ := z
      simp only [isBel, Bool.and_eq_false_iff, decide_eq_false_iff_not] at c2
      omega
    | true =>
    obtain ⟨i, rfl, hi⟩ := isBel_inv c2
    cases h1
    have hj' : j < ds.length := by omega
    have hi' : i < ds.length := by omega
    obtain ⟨xi, hxi, hdi⟩ := hds.get' (List.getElem?_eq_getElem hi')
    obtain ⟨xj, hxj, hdj⟩ := hds.get' (List.getElem?_eq_getElem hj')
    have hpi := hpaps _ (List.getElem_mem hi')
    have hpj := hpaps _ (List.getElem_mem hj')
    have b3 : Bd m1 e3 := hb1 e3 (by simp)
    have b4 : Bd m1 e4 := hb1 e4 (by simp)
    walk_at "g"
    refine s_ixL (SqL.of eD) (atI_nat hxi) ?_
    walk_at "g"
    refine ⟨xi, y3, ds[i], e3, b, a, 135, m1, rfl, hdi, hpi.1, hpi.2, h3, b3, hbb, hab, fun o1 H1 ho1 s1 => ?_⟩
    walk_at "g"
    cases o1 with
    | false =>
      walk_at "g"
      refine bad (fun ⟨w, i', j', e, y, e', y', di, dj, z, hij, hd1, hd2, p1, _⟩ => ?_) H1 s1
      simp only [List.cons.injEq, and_true, PyData.int.injEq] at z
      obtain ⟨_, z1, z2, rfl, rfl⟩ := z
      obtain rfl : i = i' := by omega
      rw [List.getElem?_eq_getElem hi'] at hd1
      cases hd1
      exact absurd (ho1.mpr p1) (by simp)
    | true =>
    have p1 := ho1.mp rfl
    walk_at "g"
    refine s_ixL (SqL.of (s1 _ _ eD)) (atI_nat hxj) ?_
    walk_at "g"
    refine ⟨xj, y4, ds[j], e4, b, a, 135, m1, rfl, hdj.same s1, hpj.1, hpj.2, h4.same s1, b4, hbb, hab, fun o2 H2 ho2 s2 => ?_⟩
    have s12 := s1.trans s2
    walk_at "g"
    cases o2 with
    | false =>
      walk_at "g"
      refine bad (fun ⟨w, i', j', e, y, e', y', di, dj, z, hij, hd1, hd2, _, p2, _⟩ => ?_) H2 s12
      simp only [List.cons.injEq, and_true, PyData.int.injEq] at z
      obtain ⟨_, z1, z2, rfl, rfl⟩ := z
      obtain rfl : j = j' := by omega
      rw [List.getElem?_eq_getElem hj'] at hd2
      cases hd2
      exact absurd (ho2.mpr p2) (by simp)
    | true =>
    have p2 := ho2.mp rfl
    obtain ⟨e, y, rfl, oe, hye, hal1⟩ := id p1
    obtain ⟨e', y', rfl, oe', hye', hal2⟩ := id p2
    have q1 := (b3.tup_inv)
    have q2 := (b4.tup_inv)
    obtain ⟨m3, _, _, hq1⟩ := q1
    obtain ⟨m4, _, _, hq2⟩ := q2
    have be := (hq1 (.int (e : Nat)) (by simp)).int_inv
    have be' := (hq2 (.int (e' : Nat)) (by simp)).int_inv
    have h32 := h3.same s12
    have h42 := h4.same s12
    cases h32 with
    | @tup t3 zs3 _ et3 hz3 =>
    cases h42 with
    | @tup t4 zs4 _ et4 hz4 =>
    obtain ⟨u0, u1, ur, rfl, g0, g1, g2⟩ := hz3.two
    obtain ⟨v0, v1, vr, rfl, f0, f1, f2⟩ := hz4.two
    cases g2
    cases f2
    cases g0
    cases g1
    cases f0
    cases f1
    walk_at "g"
    refine s_ixT (SqT.of et3) (atI0 1 rfl rfl) ?_
    walk_at "g"
    refine s_ixT (SqT.of et4) (atI0 1 rfl rfl) ?_
    walk_at "g"
    refine s_ixT (SqT.of et3) (atI0 0 rfl rfl) ?_
    walk_at "g"
    refine s_ixT (SqT.of et4) (atI0 0 rfl rfl) ?_
    walk_at "g"
    refine ⟨e, e', rfl, by omega, by omega, fun g u v p hdv hp => ?_⟩
    have s3 : Same H2 (upd H2 p (.tup [.int g, .int u, .int v])) := same_upd hp
    have ep : upd H2 p (.tup [.int g, .int u, .int v]) p = some (.tup [.int g, .int u, .int v]) := upd_same
    generalize upd H2 p (.tup [.int g, .int u, .int v]) = H3 at s3 ep ⊢
    have hg : g = ((Nat.gcd e e' : Nat) : Int) := hdv.hg
    have g0 : 0 < Nat.gcd e e' := Nat.gcd_pos_of_pos_left _ oe.pos
    walk_at "g"
    refine s_ixT (SqT.of ep) (atI0 0 rfl rfl) ?_
    walk_at "g"
    refine s_i (by omega) ?_
    walk_at "g"
    refine k _ H3 ?_ (s12.trans s3)
    rw [Bool.not_eq_true', decide_eq_false_iff_not, hg]
    constructor
    · intro h
      exact ⟨e0, i, j, e, y, e', y', _, _, rfl, by omega, List.getElem?_eq_getElem hi', List.getElem?_eq_getElem hj', p1, p2, h⟩
    · rintro ⟨w, i', j', f, z, f', z', di, dj, eq, _, _, _, _, _, h⟩
      simp only [List.cons.injEq, and_true, PyData.int.injEq, PyData.tuple.injEq] at eq
      obtain ⟨_, _, _, ⟨q1, q2⟩, q3, q4⟩ := eq
      have r1 : e = f := by omega
      have r3 : e' = f' := by omega
      rw [r1, r3, q2, q4]
      exact h

theorem mkSlA {K : PySem.W.Frag} {H : Hp} {Q : VK} {p : Addr} {xs : List V} {lo hi : Option Int} (hs : SqT K H p xs) (hp : H p = some (.tup xs)) (h : ∀ l H', H' l = some (.tup (cutV xs lo hi)) → Same H H' → Q (.ref l) H') : rSlA K (.ref p) lo hi H Q :=
  ⟨p, xs, rfl, hs, fun z => h p H (by
    have : cutV xs lo hi = xs := by
      unfold cutV
      rw [z.1, z.2, List.drop_zero, Nat.sub_zero, List.take_length]
    rw [this]; exact hp) (Same.refl _), fun _ l hl => h l _ upd_same (same_upd hl)⟩
theorem mkCatA {K : PySem.W.Frag} {H : Hp} {Q : VK} {p q : Addr} {xs ys : List V} (hp : H p = some (.tup xs)) (hq : H q = some (.tup ys)) (hl : xs.length + ys.length ≤ 1000) (h : ∀ l H', H' l = some (.tup (xs ++ ys)) → Same H H' → Q (.ref l) H') : rCatA K (.ref p) (.ref q) H Q :=
  ⟨p, q, xs, ys, rfl, rfl, SqT.of hp, SqT.of hq, Nat.le_trans hl (Nat.le_of_lt (small1000 (Nat.le_refl _))), fun z => h q H (by rw [z]; exact hq) (Same.refl _), fun _ z => h p H (by rw [z, List.append_nil]; exact hp) (Same.refl _), fun _ _ l hl => h l _ upd_same (same_upd hl)⟩

/-! expressions that come to data, the heap only growing -/
section
variable {K : PySem.W.Frag} {F : Addr → Prop} {n m k L : Nat} {te ta tb ti : TE} {tl : TA} {tlo thi : TO} {σ : L2.St} {H : Hp} {v : V} {i j : Int} {d : PyData} {P : Int → Prop}
def EvV (te : TE) (σ : L2.St) (H : Hp) (v : V) : Prop := ∀ H1, Same H H1 → ∀ Q : VK, Q v H1 → te σ H1 Q
def EvI (te : TE) (σ : L2.St) (H : Hp) (P : Int → Prop) : Prop := ∀ H1, Same H H1 → ∀ Q : VK, (∀ i H2, Same H1 H2 → P i → Q (.int i) H2) → te σ H1 Q
def EvD (F : Addr → Prop) (n : Nat) (te : TE) (σ : L2.St) (H : Hp) : Prop := ∀ H1, Same H H1 → ∀ Q : VK, (∀ x H2 d, Same H1 H2 → DaF F H2 x d → Bd n d → Q x H2) → te σ H1 Q
def EvL (F : Addr → Prop) (n k : Nat) (tl : TA) (σ : L2.St) (H : Hp) : Prop := ∀ H1, Same H H1 → ∀ Q : List V → Hp → Prop, (∀ xs H2 ds, Same H1 H2 → DaL F H2 xs ds → (∀ d ∈ ds, Bd n d) → ds.length = k → Q xs H2) → tl σ H1 Q
def EvT (F : Addr → Prop) (n L : Nat) (te : TE) (σ : L2.St) (H : Hp) : Prop := ∀ H1, Same H H1 → ∀ Q : VK, (∀ p xs H2 ds, Same H1 H2 → H2 p = some (.tup xs) → DaL F H2 xs ds → (∀ d ∈ ds, Bd n d) → ds.length ≤ L → Q (.ref p) H2) → te σ H1 Q
def EvX (F : Addr → Prop) (n L : Nat) (te : TE) (σ : L2.St) (H : Hp) : Prop := ∀ H1, Same H H1 → ∀ Q : VK, (∀ p xs H2 ds, Same H1 H2 → H1 p = none → H2 p = some (.lst xs) → DaL F H2 xs ds → (∀ d ∈ ds, Bd n d) → ds.length = L → Q (.ref p) H2) → te σ H1 Q
def EvVs (tl : TA) (σ : L2.St) (H : Hp) (vs : List V) : Prop := ∀ H1, Same H H1 → ∀ Q : List V → Hp → Prop, Q vs H1 → tl σ H1 Q
def EvO (t : TO) (σ : L2.St) (H : Hp) (o : Option Int) : Prop := ∀ H1, Same H H1 → ∀ Q : Option Int → Hp → Prop, Q o H1 → t σ H1 Q
theorem evv_var (e : σ[k]? = some (some v)) : EvV (tVar k) σ H v := fun _ _ _ q => ⟨v, e, q⟩
theorem evv_c : EvV (tC v) σ H v := fun _ _ _ q => q
theorem evi_v (e : EvV te σ H (.int i)) (h : P i) : EvI te σ H P := fun H1 s1 Q q => e H1 s1 Q (q i H1 (Same.refl _) h)
theorem evi_mono {P' : Int → Prop} (e : EvI te σ H P) (h : ∀ i, P i → P' i) : EvI te σ H P' := fun H1 s1 Q q => e H1 s1 Q fun i H2 s2 hp => q i H2 s2 (h i hp)
theorem evd_i (e : EvI te σ H P) (h : ∀ i, P i → i.natAbs < 2 ^ 300) : EvD F n te σ H := fun H1 s1 Q q => e H1 s1 Q fun i H2 s2 hp => q _ H2 (.int i) s2 (.int i) (.int (h i hp))
theorem evd_v (e : EvV te σ H v) (h : DaF F H v d) (b : Bd m d) (le : m ≤ n) : EvD F n te σ H := fun H1 s1 Q q => e H1 s1 Q (q v H1 d (Same.refl _) (h.same s1) (b.mono le))
theorem evd_var (e : σ[k]? = some (some v)) (h : DaF F H v d) (b : Bd m d) (le : m ≤ n) : EvD F n (tVar k) σ H := evd_v (evv_var e) h b le
theorem evd_int (e : EvV te σ H (.int i)) (h : i.natAbs < 2 ^ 300) : EvD F n te σ H := evd_v e (.int i) (.int h : Bd n _) (Nat.le_refl _)
theorem evd_non : EvD F n (tC .non) σ H := evd_v evv_c .non (.non : Bd n _) (Nat.le_refl _)
theorem evd_bl {b : Bool} : EvD F n (tC (.bl b)) σ H := evd_v evv_c (.bl b) (.bl b : Bd n _) (Nat.le_refl _)
theorem evd_str {x : Str} (h : PyData.strOk x = true) : EvD F n (tC (.str x)) σ H := evd_v evv_c (.str x) (.str x h : Bd n _) (Nat.le_refl _)
theorem evl_nil : EvL F n 0 tNil σ H := fun H1 _ Q q => q [] H1 [] (Same.refl _) .nil (by simp) rfl
theorem evl_cons (h : EvD F n ta σ H) (t : EvL F n k tl σ H) : EvL F n (k + 1) (tCons ta tl) σ H := fun H1 s1 Q q => h H1 s1 _ fun x H2 d s2 hd hb => t H2 (s1.trans s2) _ fun xs H3 ds s3 hds hbs hl => q (x :: xs) H3 (d :: ds) (s2.trans s3) (.cons (hd.same s3) hds) (fun e he => by
  rcases List.mem_cons.mp he with z | z
  · rw [z]; exact hb
  · exact hbs e z) (by rw [List.length_cons, hl])
theorem evt_tup (h : EvL F n k tl σ H) (hk : k ≤ 900) : EvT F n k (tTup tl) σ H := fun H1 s1 Q q => h H1 s1 _ fun xs H2 ds s2 hds hbs hl => ⟨len_le (by rw [hds.len]; omega), fun p hp => q p xs _ ds (s2.trans (same_upd hp)) upd_same (hds.same (same_upd hp)) hbs (Nat.le_of_eq hl)⟩
theorem evx_lst (h : EvL F n k tl σ H) (hk : k ≤ 900) : EvX F n k (tLst tl) σ H := fun H1 s1 Q q => h H1 s1 _ fun xs H2 ds s2 hds hbs hl => ⟨len_le (by rw [hds.len]; omega), fun p hp => q p xs _ ds (s2.trans (same_upd hp)) (s2.free hp) upd_same (hds.same (same_upd hp)) hbs hl⟩
theorem evd_t (h : EvT F n L te σ H) (hL : L ≤ 900) : EvD F (n + 1) te σ H := fun H1 s1 Q q => h H1 s1 Q fun p xs H2 ds s2 hp hds hbs hl => q _ H2 (.tuple ds) s2 (.tup hp hds) (.tup (by omega) hbs)
theorem evd_x (hF : ∀ a, H a = none → F a) (h : EvX F n L te σ H) (hL : L ≤ 900) : EvD F (n + 1) te σ H := fun H1 s1 Q q => h H1 s1 Q fun p xs H2 ds s2 np hp hds hbs hl => q _ H2 (.list ds) s2 (.lst hp hds (hF p (s1.free np))) (.lst (by omega) hbs)
theorem evd_tup (h : EvL F n k tl σ H) (hk : k ≤ 900) : EvD F (n + 1) (tTup tl) σ H := evd_t (evt_tup h hk) hk
theorem evd_lst (hF : ∀ a, H a = none → F a) (h : EvL F n k tl σ H) (hk : k ≤ 900) : EvD F (n + 1) (tLst tl) σ H := evd_x hF (evx_lst h hk) hk
theorem evt_var {p : Addr} {xs : List V} {ds : List PyData} (e : σ[k]? = some (some (.ref p))) (hp : H p = some (.tup xs)) (hd : DaL F H xs ds) (hb : ∀ d ∈ ds, Bd m d) (le : m ≤ n) (hl : ds.length ≤ L) : EvT F n L (tVar k) σ H := fun H1 s1 Q q => ⟨_, e, q p xs H1 ds (Same.refl _) (s1 _ _ hp) (hd.same s1) (fun d hd' => (hb d hd').mono le) hl⟩
theorem evt_cat (h1 : EvT F n L ta σ H) (h2 : EvT F n m tb σ H) (hL : L + m ≤ 1000) : EvT F n (L + m) (tOp (rCatA K) ta tb) σ H := fun H1 s1 Q q => h1 H1 s1 _ fun p xs H2 ds s2 hp hds hbs hl => h2 H2 (s1.trans s2) _ fun p' ys H3 es s3 hp' hes hbs' hl' => by
  have a1 := hds.len
  have a2 := hes.len
  refine mkCatA (s3 _ _ hp) hp' (by omega) fun l H4 el s4 => q l _ H4 (ds ++ es) (s2.trans (s3.trans s4)) el (DaL.app (hes.same s4) (hds.same (s3.trans s4))) (fun e he => ?_) (by rw [List.length_append]; omega)
  rcases List.mem_append.mp he with z | z
  · exact hbs e z
  · exact hbs' e z
theorem evx_cat (h1 : EvX F n L ta σ H) (h2 : EvX F n m tb σ H) (hL : L + m ≤ 1000) : EvX F n (L + m) (tOp rCat ta tb) σ H := fun H1 s1 Q q => h1 H1 s1 _ fun p xs H2 ds s2 np hp hds hbs hl => h2 H2 (s1.trans s2) _ fun p' ys H3 es s3 np' hp' hes hbs' hl' => by
  have a1 := hds.len
  have a2 := hes.len
  refine mkCat (s3 _ _ hp) hp' (by omega) fun l H4 nl el s4 => q l _ H4 (ds ++ es) (s2.trans (s3.trans s4)) ((s2.trans s3).free nl) el (DaL.app (hes.same s4) (hds.same (s3.trans s4))) (fun e he => ?_) (by rw [List.length_append]; omega)
  rcases List.mem_append.mp he with z | z
  · exact hbs e z
  · exact hbs' e z
/-- a list that a name holds, added to -/
theorem evx_catV {p : Addr} {xs : List V} {ds : List PyData} (e : σ[k]? = some (some (.ref p))) (hp : H p = some (.lst xs)) (hd : DaL F H xs ds) (hb : ∀ d ∈ ds, Bd n d) (hl : ds.length = L) (h2 : EvX F n m tb σ H) (hL : L + m ≤ 1000) : EvX F n (L + m) (tOp rCat (tVar k) tb) σ H := fun H1 s1 Q q => ⟨_, e, h2 H1 s1 _ fun p' ys H3 es s3 np' hp' hes hbs' hl' => by
  have a1 := hd.len
  have a2 := hes.len
  refine mkCat (s3 _ _ (s1 _ _ hp)) hp' (by omega) fun l H4 nl el s4 => q l _ H4 (ds ++ es) (s3.trans s4) (s3.free nl) el (DaL.app (hes.same s4) (hd.same (s1.trans (s3.trans s4)))) (fun e he => ?_) (by rw [List.length_append]; omega)
  rcases List.mem_append.mp he with z | z
  · exact hb e z
  · exact hbs' e z⟩
theorem evo_none : EvO tNoPart σ H none := fun _ _ _ q => q
theorem evo_some (e : EvV te σ H (.int i)) : EvO (tPart te) σ H (some i) := fun H1 s1 Q q => e H1 s1 _ ⟨i, rfl, q⟩
theorem cut_bd {xs : List V} {ds : List PyData} {F : Addr → Prop} {H : Hp} {n L : Nat} (h : DaL F H xs ds) (hb : ∀ d ∈ ds, Bd n d) (hl : ds.length ≤ L) (lo hi : Option Int) : ∃ es, DaL F H (cutV xs lo hi) es ∧ (∀ d ∈ es, Bd n d) ∧ es.length ≤ L := by
  obtain ⟨a, b, h'⟩ := h.cut lo hi
  refine ⟨_, h', fun d hd => hb d (List.mem_of_mem_drop (List.mem_of_mem_take hd)), ?_⟩
  rw [List.length_take, List.length_drop]; omega
theorem evt_sl {o u : Option Int} (h : EvT F n L te σ H) (l : EvO tlo σ H o) (r : EvO thi σ H u) : EvT F n L (L2.tSl (rSlA K) te tlo thi) σ H := fun H1 s1 Q q => h H1 s1 _ fun p xs H2 ds s2 hp hds hbs hl => l H2 (s1.trans s2) _ (r H2 (s1.trans s2) _ (mkSlA (SqT.of hp) hp fun l' H3 el s3 => by
  obtain ⟨es, h1, h2, h3⟩ := cut_bd hds hbs hl o u
  exact q l' _ H3 es (s2.trans s3) el (h1.same s3) h2 h3))
theorem evt_rev (h : EvT F n L te σ H) : EvT F n L (RevT.tRevT K te) σ H := fun H1 s1 Q q => h H1 s1 _ fun p xs H2 ds s2 hp hds hbs hl => ⟨p, xs, rfl, SqT.of hp, fun l nl => q l _ _ ds.reverse (s2.trans (same_upd nl)) upd_same (hds.rev.same (same_upd nl)) (fun d hd => hbs d (List.mem_reverse.mp hd)) (by rw [List.length_reverse]; exact hl)⟩
/-- one of a list that has just been made -/
theorem evd_pick (h : EvX F n L ta σ H) (e : EvV ti σ H (.int j)) (hj : 0 ≤ j ∧ j < (L : Int)) : EvD F n (tOp (rIx K) ta ti) σ H := fun H1 s1 Q q => h H1 s1 _ fun p xs H2 ds s2 np hp hds hbs hl => e H2 (s1.trans s2) _ (by
  obtain ⟨k, rfl⟩ := Int.eq_ofNat_of_zero_le hj.1
  have hk : k < ds.length := by omega
  obtain ⟨x, hx, hd⟩ := hds.get' (List.getElem?_eq_getElem hk)
  exact s_ixL (SqL.of hp) (atI_nat hx) (q x H2 _ s2 hd (hbs _ (List.getElem_mem hk))))
theorem evvs_nil : EvVs tNil σ H [] := fun _ _ _ q => q
theorem evvs_cons {vs : List V} (h : EvV ta σ H v) (t : EvVs tl σ H vs) : EvVs (tCons ta tl) σ H (v :: vs) := fun H1 s1 Q q => h H1 s1 _ (t H1 s1 _ q)
/-- one of some numbers -/
theorem evi_pick (ns : List Int) (h : EvVs tl σ H (ns.map V.int)) (hl : ns.length ≤ 1000) (e : EvV ti σ H (.int j)) (hj : 0 ≤ j ∧ j < ns.length) (hp : ∀ z ∈ ns, P z) : EvI (tOp (rIx K) (tLst tl) ti) σ H P := fun H1 s1 Q q => h H1 s1 _ ⟨len_le (by rw [List.length_map]; exact hl), fun p np => e _ (s1.trans (same_upd np)) _ (s_pickN ns upd_same hj hp fun z hz => q z _ (same_upd np) hz)⟩
end

/-- list(t), tuple(l) in an expression -/
theorem evx_lstOf {F : Addr → Prop} {n k L : Nat} {σ : L2.St} {H : Hp} {p : Addr} {xs : List V} {ds : List PyData} (e : σ[k]? = some (some (.ref p))) (hp : H p = some (.tup xs)) (hd : DaL F H xs ds) (hb : ∀ d ∈ ds, Bd n d) (hl : ds.length = L) : EvX F n L (tCB (rLstOf K) (tCons (tVar k) tNil)) σ H := fun H1 s1 Q q => ⟨_, e, s_lstT (SqT.of (s1 _ _ hp)) fun l nl => q l xs _ ds (same_upd nl) nl upd_same (hd.same (s1.trans (same_upd nl))) hb hl⟩
theorem dal_false {F : Addr → Prop} {H : Hp} {xs : List V} {ds : List PyData} (h : DaL (fun _ => False) H xs ds) : DaL F H xs ds := h.mono fun _ z => z.elim
/-- the slots, written out -/
theorem s_ckS {a b : TS} {D : Ends} {σ σ' : L2.St} {H : Hp} (e : σ = σ') (h : tSeq a b D σ' H) : tSeq a b D σ H := by subst e; exact h
theorem s_ckR {te : TE} {D : Ends} {σ σ' : L2.St} {H : Hp} (e : σ = σ') (h : tRet te D σ' H) : tRet te D σ H := by subst e; exact h
theorem sl_tupAK (K : PySem.W.Frag) {X : Cx} (h : X.K = K) : SlR X (rSlA K) := h ▸ sl_tupA
theorem op_catAK (K : PySem.W.Frag) {X : Cx} (h : X.K = K) : OpR X (binaryOp .Add) (rCatA K) := h ▸ op_catA

/-! expressions that come to a told datum, the heap only growing -/
section
variable {K : PySem.W.Frag} {F : Addr → Prop} {te ta tb ti : TE} {tl : TA} {tlo thi : TO} {σ : L2.St} {H : Hp} {v x y z : V} {i j : Int} {k : Nat} {d e : PyData} {ds es : List PyData} {r : R2}
def EvE (F : Addr → Prop) (te : TE) (σ : L2.St) (H : Hp) (d : PyData) : Prop := ∀ H1, Same H H1 → ∀ Q : VK, (∀ x H2, Same H1 H2 → DaF F H2 x d → Q x H2) → te σ H1 Q
def EvEs (F : Addr → Prop) (tl : TA) (σ : L2.St) (H : Hp) (ds : List PyData) : Prop := ∀ H1, Same H H1 → ∀ Q : List V → Hp → Prop, (∀ xs H2, Same H1 H2 → DaL F H2 xs ds → Q xs H2) → tl σ H1 Q
theorem eve_v (e : EvV te σ H v) (h : DaF F H v d) : EvE F te σ H d := fun H1 s1 Q q => e H1 s1 Q (q v H1 (Same.refl _) (h.same s1))
theorem eve_var (e : σ[k]? = some (some v)) (h : DaF F H v d) : EvE F (tVar k) σ H d := eve_v (evv_var e) h
theorem eve_i (e : EvV te σ H (.int i)) : EvE F te σ H (.int i) := eve_v e (.int i)
theorem eve_b {b : Bool} (e : EvV te σ H (.bl b)) : EvE F te σ H (.bool b) := eve_v e (.bl b)
theorem eve_int : EvE F (tC (.int i)) σ H (.int i) := eve_i evv_c
theorem eve_non : EvE F (tC .non) σ H .none := eve_v evv_c .non
theorem eve_bl {b : Bool} : EvE F (tC (.bl b)) σ H (.bool b) := eve_b evv_c
theorem eve_str {x : Str} : EvE F (tC (.str x)) σ H (.str x) := eve_v evv_c (.str x)
theorem eves_nil : EvEs F tNil σ H [] := fun H1 _ Q q => q [] H1 (Same.refl _) .nil
theorem eves_cons (h : EvE F ta σ H d) (t : EvEs F tl σ H ds) : EvEs F (tCons ta tl) σ H (d :: ds) := fun H1 s1 Q q => h H1 s1 _ fun x H2 s2 hd => t H2 (s1.trans s2) _ fun xs H3 s3 hds => q (x :: xs) H3 (s2.trans s3) (.cons (hd.same s3) hds)
theorem eve_tup (h : EvEs F tl σ H ds) (hl : ds.length ≤ 1000 := by first | decide | simp) : EvE F (tTup tl) σ H (.tuple ds) := fun H1 s1 Q q => h H1 s1 _ fun xs H2 s2 hds => ⟨len_le (by rw [hds.len]; exact hl), fun p hp => q _ _ (s2.trans (same_upd hp)) (.tup upd_same (hds.same (same_upd hp)))⟩
theorem eve_lst (hF : ∀ a, H a = none → F a) (h : EvEs F tl σ H ds) (hl : ds.length ≤ 1000 := by first | decide | simp) : EvE F (tLst tl) σ H (.list ds) := fun H1 s1 Q q => h H1 s1 _ fun xs H2 s2 hds => ⟨len_le (by rw [hds.len]; exact hl), fun p hp => q _ _ (s2.trans (same_upd hp)) (.lst upd_same (hds.same (same_upd hp)) (hF p ((s1.trans s2).free hp)))⟩
theorem DaF.tup_inv (h : DaF F H v (.tuple ds)) : ∃ p xs, v = .ref p ∧ H p = some (.tup xs) ∧ DaL F H xs ds := by
  cases h with
  | tup e h => exact ⟨_, _, rfl, e, h⟩
theorem DaF.lst_inv (h : DaF F H v (.list ds)) : ∃ p xs, v = .ref p ∧ H p = some (.lst xs) ∧ DaL F H xs ds ∧ F p := by
  cases h with
  | lst e h f => exact ⟨_, _, rfl, e, h, f⟩
theorem eve_cat (h1 : EvE F ta σ H (.tuple ds)) (h2 : EvE F tb σ H (.tuple es)) (hL : ds.length + es.length ≤ 1000) : EvE F (tOp (rCatA K) ta tb) σ H (.tuple (ds ++ es)) := fun H1 s1 Q q => h1 H1 s1 _ fun x H2 s2 hx => h2 H2 (s1.trans s2) _ fun y H3 s3 hy => by
  obtain ⟨p, xs, rfl, hp, hds⟩ := hx.tup_inv
  obtain ⟨p', ys, rfl, hp', hes⟩ := hy.tup_inv
  have a1 := hds.len
  have a2 := hes.len
  exact mkCatA (s3 _ _ hp) hp' (by omega) fun l H4 el s4 => q _ H4 (s2.trans (s3.trans s4)) (.tup el (DaL.app (hes.same s4) (hds.same (s3.trans s4))))
theorem eve_catL (hF : ∀ a, H a = none → F a) (h1 : EvE F ta σ H (.list ds)) (h2 : EvE F tb σ H (.list es)) (hL : ds.length + es.length ≤ 1000) : EvE F (tOp rCat ta tb) σ H (.list (ds ++ es)) := fun H1 s1 Q q => h1 H1 s1 _ fun x H2 s2 hx => h2 H2 (s1.trans s2) _ fun y H3 s3 hy => by
  obtain ⟨p, xs, rfl, hp, hds, _⟩ := hx.lst_inv
  obtain ⟨p', ys, rfl, hp', hes, _⟩ := hy.lst_inv
  have a1 := hds.len
  have a2 := hes.len
  exact mkCat (s3 _ _ hp) hp' (by omega) fun l H4 nl el s4 => q _ H4 (s2.trans (s3.trans s4)) (.lst el (DaL.app (hes.same s4) (hds.same (s3.trans s4))) (hF l ((s1.trans (s2.trans s3)).free nl)))
/-- cut, of data -/
def cutD (ds : List PyData) (lo hi : Option Int) : List PyData := (ds.drop (HT.sIx ds.length 0 lo)).take (HT.sIx ds.length ds.length hi - HT.sIx ds.length 0 lo)
theorem cutD_len (ds : List PyData) (lo hi : Option Int) : (cutD ds lo hi).length ≤ ds.length := by unfold cutD; rw [List.length_take, List.length_drop]; omega
theorem cutD_mem {lo hi : Option Int} (h : d ∈ cutD ds lo hi) : d ∈ ds := List.mem_of_mem_drop (List.mem_of_mem_take h)
theorem DaL.cutD {xs : List V} (h : DaL F H xs ds) (lo hi : Option Int) : DaL F H (cutV xs lo hi) (C.cutD ds lo hi) := by
  unfold cutV C.cutD
  rw [h.len]
  exact (h.drop _).take _
theorem sIx_k {n m k : Nat} (h : k ≤ n) : HT.sIx n m (some (k : Int)) = k := (HT.sIx_nat n m k).trans (by omega)
theorem cutD_to {k : Nat} (h : k ≤ ds.length) : cutD ds none (some (k : Int)) = ds.take k := by
  unfold cutD
  rw [sIx_k h, show HT.sIx ds.length 0 none = 0 from rfl, List.drop_zero, Nat.sub_zero]
theorem cutD_from {k : Nat} (h : k ≤ ds.length) : cutD ds (some (k : Int)) none = ds.drop k := by
  unfold cutD
  rw [sIx_k h, show HT.sIx ds.length ds.length none = ds.length from rfl]
  exact List.take_of_length_le (by rw [List.length_drop]; exact Nat.le_refl _)
theorem eve_sl {o u : Option Int} (h : EvE F te σ H (.tuple ds)) (l : EvO tlo σ H o) (r : EvO thi σ H u) : EvE F (L2.tSl (rSlA K) te tlo thi) σ H (.tuple (cutD ds o u)) := fun H1 s1 Q q => h H1 s1 _ fun x H2 s2 hx => l H2 (s1.trans s2) _ (r H2 (s1.trans s2) _ (by
  obtain ⟨p, xs, rfl, hp, hds⟩ := hx.tup_inv
  exact mkSlA (SqT.of hp) hp fun l' H3 el s3 => q _ H3 (s2.trans s3) (.tup el ((hds.cutD o u).same s3))))
theorem eve_slL (hF : ∀ a, H a = none → F a) {o u : Option Int} (h : EvE F te σ H (.list ds)) (l : EvO tlo σ H o) (r : EvO thi σ H u) : EvE F (L2.tSl (rSlL K) te tlo thi) σ H (.list (cutD ds o u)) := fun H1 s1 Q q => h H1 s1 _ fun x H2 s2 hx => l H2 (s1.trans s2) _ (r H2 (s1.trans s2) _ (by
  obtain ⟨p, xs, rfl, hp, hds, _⟩ := hx.lst_inv
  exact mkSl (SqL.of hp) fun l' H3 nl el s3 => q _ H3 (s2.trans s3) (.lst el ((hds.cutD o u).same s3) (hF l' ((s1.trans s2).free nl)))))
theorem eve_rev (h : EvE F te σ H (.tuple ds)) : EvE F (RevT.tRevT K te) σ H (.tuple ds.reverse) := fun H1 s1 Q q => h H1 s1 _ fun x H2 s2 hx => by
  obtain ⟨p, xs, rfl, hp, hds⟩ := hx.tup_inv
  exact ⟨p, xs, rfl, SqT.of hp, fun l nl => q _ _ (s2.trans (same_upd nl)) (.tup upd_same (hds.rev.same (same_upd nl)))⟩
theorem eve_revL (hF : ∀ a, H a = none → F a) (h : EvE F te σ H (.list ds)) : EvE F (L2.tRevL K te) σ H (.list ds.reverse) := fun H1 s1 Q q => h H1 s1 _ fun x H2 s2 hx => by
  obtain ⟨p, xs, rfl, hp, hds, _⟩ := hx.lst_inv
  exact ⟨p, xs, rfl, SqL.of hp, fun l nl => q _ _ (s2.trans (same_upd nl)) (.lst upd_same (hds.rev.same (same_upd nl)) (hF l ((s1.trans s2).free nl)))⟩
theorem atI_da {xs : List V} (h : DaL F H xs ds) (k : Nat) (hj : j = k) (e : ds[k]? = some d) : ∃ x, atI xs j = some x ∧ DaF F H x d := by
  subst hj
  obtain ⟨x, h1, h2⟩ := h.get' e
  exact ⟨x, atI_nat h1, h2⟩
theorem eve_ix (h : EvE F te σ H (.tuple ds)) (e : EvV ti σ H (.int j)) (k : Nat) (hj : j = k) (hd : ds[k]? = some d) : EvE F (tOp (rIx K) te ti) σ H d := fun H1 s1 Q q => h H1 s1 _ fun x H2 s2 hx => e H2 (s1.trans s2) _ (by
  obtain ⟨p, xs, rfl, hp, hds⟩ := hx.tup_inv
  obtain ⟨x, h1, h2⟩ := atI_da hds k hj hd
  exact s_ixT (SqT.of hp) h1 (q x H2 s2 h2))
theorem eve_ixL (h : EvE F te σ H (.list ds)) (e : EvV ti σ H (.int j)) (k : Nat) (hj : j = k) (hd : ds[k]? = some d) : EvE F (tOp (rIx K) te ti) σ H d := fun H1 s1 Q q => h H1 s1 _ fun x H2 s2 hx => e H2 (s1.trans s2) _ (by
  obtain ⟨p, xs, rfl, hp, hds, _⟩ := hx.lst_inv
  obtain ⟨x, h1, h2⟩ := atI_da hds k hj hd
  exact s_ixL (SqL.of hp) h1 (q x H2 s2 h2))
theorem eve_lstOf (hF : ∀ a, H a = none → F a) (h : EvE F te σ H (.tuple ds)) : EvE F (tCB (rLstOf K) (tCons te tNil)) σ H (.list ds) := fun H1 s1 Q q => h H1 s1 _ fun x H2 s2 hx => by
  obtain ⟨p, xs, rfl, hp, hds⟩ := hx.tup_inv
  exact s_lstT (SqT.of hp) fun l nl => q _ _ (s2.trans (same_upd nl)) (.lst upd_same (hds.same (same_upd nl)) (hF l ((s1.trans s2).free nl)))
theorem eve_lstOfL (hF : ∀ a, H a = none → F a) (h : EvE F te σ H (.list ds)) : EvE F (tCB (rLstOf K) (tCons te tNil)) σ H (.list ds) := fun H1 s1 Q q => h H1 s1 _ fun x H2 s2 hx => by
  obtain ⟨p, xs, rfl, hp, hds, _⟩ := hx.lst_inv
  exact s_lstL (SqL.of hp) fun l nl => q _ _ (s2.trans (same_upd nl)) (.lst upd_same (hds.same (same_upd nl)) (hF l ((s1.trans s2).free nl)))
theorem eve_tupOfL (h : EvE F te σ H (.list ds)) : EvE F (tCB (rTupOf K) (tCons te tNil)) σ H (.tuple ds) := fun H1 s1 Q q => h H1 s1 _ fun x H2 s2 hx => by
  obtain ⟨p, xs, rfl, hp, hds, _⟩ := hx.lst_inv
  exact s_tupL (SqL.of hp) fun l nl => q _ _ (s2.trans (same_upd nl)) (.tup upd_same (hds.same (same_upd nl)))
theorem evv_op (h1 : EvV ta σ H x) (h2 : EvV tb σ H y) (h : ∀ H1 (Q : VK), Q z H1 → r x y H1 Q) : EvV (tOp r ta tb) σ H z := fun H1 s1 Q q => h1 H1 s1 _ (h2 H1 s1 _ (h H1 Q q))
theorem evv_un {r : V → Hp → VK → Prop} (h1 : EvV ta σ H x) (h : ∀ H1 (Q : VK), Q z H1 → r x H1 Q) : EvV (tUn r ta) σ H z := fun H1 s1 Q q => h1 H1 s1 _ (h H1 Q q)
theorem evv_neg (h1 : EvV ta σ H (.int i)) : EvV (tUn (rU fun a => V.int (-a)) ta) σ H (.int (-i)) := evv_un h1 fun _ _ q => s_u (f := fun a => V.int (-a)) q
theorem evv_p59 : EvV (tOp (rI CPow fun i j => V.int (i ^ j.toNat)) (tC (.int 10)) (tC (.int 59))) σ H (.int (10 ^ 59)) := evv_op evv_c evv_c fun _ _ q => s_p10_59 q
theorem evv_add (h1 : EvV ta σ H (.int i)) (h2 : EvV tb σ H (.int j)) : EvV (tOp (rI0 fun a b => V.int (a + b)) ta tb) σ H (.int (i + j)) := evv_op h1 h2 fun _ _ q => s_i0 q
theorem evv_sub (h1 : EvV ta σ H (.int i)) (h2 : EvV tb σ H (.int j)) : EvV (tOp (rI0 fun a b => V.int (a - b)) ta tb) σ H (.int (i - j)) := evv_op h1 h2 fun _ _ q => s_i0 q
end
mutual
/-- data stand when what is neither tuple nor list changes -/
theorem DaF.keep {F : Addr → Prop} {H H' : Hp} (kt : ∀ b r, H b = some (.tup r) → H' b = some (.tup r)) (kl : ∀ b r, H b = some (.lst r) → H' b = some (.lst r)) : ∀ {v : V} {d : PyData}, DaF F H v d → DaF F H' v d
  | _, _, .non => .non
  | _, _, .bl b => .bl b
  | _, _, .int i => .int i
  | _, _, .str x => .str x
  | _, _, .lst e h f => .lst (kl _ _ e) (DaL.keep kt kl h) f
  | _, _, .tup e h => .tup (kt _ _ e) (DaL.keep kt kl h)
theorem DaL.keep {F : Addr → Prop} {H H' : Hp} (kt : ∀ b r, H b = some (.tup r) → H' b = some (.tup r)) (kl : ∀ b r, H b = some (.lst r) → H' b = some (.lst r)) : ∀ {vs : List V} {ds : List PyData}, DaL F H vs ds → DaL F H' vs ds
  | _, _, .nil => .nil
  | _, _, .cons h t => .cons (DaF.keep kt kl h) (DaL.keep kt kl t)
end

/-- a row of an order and which power, as a datum -/
def rowN (q : Nat × Nat) : PyData := .tuple [.int (q.1 : Nat), .int (q.2 : Nat)]
def plI (pl : List (Nat × Nat)) : List (Int × Int) := pl.map fun q => ((q.1 : Int), (q.2 : Int))
/-- the least number that is each power, by all primes -/
def LeastD (ds : List PyData) (b a : Int) (dx dr : PyData) : Prop := ∃ (x : Nat) (pl : List (Nat × Nat)), dx = .int (x : Nat) ∧ dr = .tuple (pl.map rowN) ∧ Paired (fun d q => PlaceD (pOf d) b a (rowN q)) ds pl ∧ (∀ q ∈ pl, (x : Int) % (q.1 : Int) = (q.2 : Int)) ∧ x < M.lcmL (plI pl)
theorem place_rowN {p : Nat} {b a : Int} {q : Nat × Nat} (h : PlaceD p b a (rowN q)) : M.Ord p b q.1 ∧ q.2 < q.1 ∧ M.al p (b ^ q.2) a := by
  obtain ⟨e, y, h1, h2, h3, h4⟩ := h
  simp only [rowN, PyData.tuple.injEq, List.cons.injEq, PyData.int.injEq, and_true] at h1
  obtain ⟨z1, z2⟩ := h1
  have r1 : q.1 = e := by omega
  have r2 : q.2 = y := by omega
  rw [r1, r2]; exact ⟨h2, h3, h4⟩
/-- is_least_by(papers, b, a, x, rows), of any x and rows -/
def sp_is_least_by (K : PySem.W.Frag) : Sp := fun vs H Q _ => ∃ (D : Addr) (ws : List V) (ds : List PyData) (vx vr : V) (dx dr : PyData) (b a : Int) (n : Nat), vs = [.ref D, .int b, .int a, vx, vr] ∧ H D = some (.lst ws) ∧ DaL (fun _ => True) H ws ds ∧ ds.length ≤ 5 ∧ (∀ d ∈ ds, IsPap d ∧ Bd 135 d ∧ pOf d ≤ 1000000000) ∧ Da H vx dx ∧ Bd n dx ∧ Da H vr dr ∧ Bd n dr ∧ b.natAbs < 2 ^ 900 ∧ a.natAbs < 2 ^ 900 ∧
  ∀ (o : Bool) H', (o = true ↔ LeastD ds b a dx dr) → Same H H' → Q (.bl o) H'
theorem ok_is_least_by (T : Txt K mg) : FnOk P w K mg base CX0 10 (He.ga K "is_least_by") (fd_is_least_by T) ["papers", "b", "a", "x", "rows"] (sp_is_least_by K) := by
  refine (F_is_least_by T).ok sc_is_least_by (fun vs H Q E h => ?_) (fun cdv A outer s H vs Q E hr h => ⟨_, PSs.nox (pss_cons (ps_if (PW.pt (pw_or (pt_not (pt_val (pe_call (ok_is_row_of T) (hr.mono (by decide)) rfl (g_is_row_of T) (kp_is_row_of T) (B_is_row_of T) .nil pass0 (pa_cons (pv 4) (pa_cons (pe_callB callLen rfl (T.fr (T.c.fact 56 rfl)) boot_len (pa_cons (pv 0) pa_nil)) pa_nil))))) (pw_or1 (pt_not (pt_val (pe_call (ok_is_whole T) (hr.mono (by decide)) rfl (g_is_whole T) (kp_is_whole T) (B_is_whole T) .nil pass0 (pa_cons (pv 3) (pa_cons pe_int pa_nil)))))))) (pss_one (ps_ret pe_bl)) pss_nil)
      (pss_cons (ps_set (i := 5) sc_is_least_by.nd rfl (Or.inl rfl) pe_int)
      (pss_cons (ps_for PassesOwn.never rfl (RZM.pi_zipM rfl (T.fr (T.c.fact 61 rfl)) (pa_cons (pv 0) (pa_cons (pv 4) pa_nil))) (pg_tup rfl (pgs_cons (pg_name (i := 6) sc_is_least_by.nd rfl (Or.inl rfl)) (pgs_cons (pg_name (i := 7) sc_is_least_by.nd rfl (Or.inl rfl)) pgs_nil))) (pss_cons (ps_if (PW.pt (pw_or (pt_not (pt_val (pe_call (ok_is_power_by T) (hr.mono (by decide)) rfl (g_is_power_by T) (kp_is_power_by T) (B_is_power_by T) .nil pass0 (pa_cons (pv 6) (pa_cons (pv 1) (pa_cons (pv 2) (pa_cons (pv 7) pa_nil))))))) (pw_or1 (pt_cmpR op_ne (pe_op op_mod (pv 3) (pe_ix ix_seq (pv 7) pe_int (fun _ _ => rfl))) (pe_ix ix_seq (pv 7) pe_int (fun _ _ => rfl)) (nomark _))))) (pss_one (ps_ret pe_bl)) pss_nil)
      (pss_one (ps_set (i := 5) sc_is_least_by.nd rfl (Or.inl rfl) (pe_op op_mulW (pe_op op_fdivW (pv 5) (pe_ix ix_seq (pe_call (ok_divisor T) (hr.mono (by decide)) rfl (g_divisor T) (kp_divisor T) (B_divisor T) .nil pass0 (pa_cons (pv 5) (pa_cons (pe_ix ix_seq (pv 7) pe_int (fun _ _ => rfl)) pa_nil))) pe_int (fun _ _ => rfl))) (pe_ix ix_seq (pv 7) pe_int (fun _ _ => rfl)))))))
      (pss_one (ps_ret (pe_cmpR op_lt (pv 3) (pv 5) (nomark _))))))), ?_⟩)
  · obtain ⟨D, ws, ds, vx, vr, dx, dr, b, a, n, rfl, _⟩ := h; rfl
  · obtain ⟨D, ws, ds, vx, vr, dx, dr, b, a, n, rfl, eD, hds, hl5, hpaps, hdx, hbx, hdr, hbr, hbb, hab, k⟩ := h
    have bad : (LeastD ds b a dx dr → False) → ∀ H2, Same H H2 → Q (.bl false) H2 := fun h H2 s2 => k false H2 ⟨fun z => (nomatch z), fun z => (h z).elim⟩ s2
    have hwl := hds.len
    walk_at "g"
    refine s_lenL (SqL.of eD) ?_
    rw [hwl]
    walk_at "g"
    refine ⟨vr, dr, ds.length, rfl, hdr, ?_⟩
    walk_at "g"
    cases er : isR ds.length dr with
    | false =>
      walk_at "g"
      refine bad (fun ⟨x, pl, _, z, hp, _⟩ => ?_) H (Same.refl _)
      rw [z, isR_tup, List.length_map, ← hp.length] at er
      simp at er
    | true =>
    obtain ⟨es, rfl, hle⟩ := isR_inv er
    have hle : es.length = ds.length := by omega
    obtain ⟨m1, em1, _, hb1⟩ := hbr.tup_inv
    cases hdr with
    | @tup R ys _ eR hys =>
    have hyl := hys.len
    walk_at "g"
    refine ⟨vx, dx, 0, rfl, hdx, ?_⟩
    walk_at "g"
    cases ew : isW 0 dx with
    | false =>
      walk_at "g"
      refine bad (fun ⟨x, pl, z, _⟩ => ?_) H (Same.refl _)
      rw [z, isW_int, decide_eq_true (by omega)] at ew
      cases ew
    | true =>
    obtain ⟨x, rfl, x0⟩ := isW_inv ew
    obtain ⟨x, rfl⟩ := Int.eq_ofNat_of_zero_le x0
    have hxb := hbx.int_inv
    cases hdx
    walk_at "g"
    refine s_zipM ?_
    walk_at "g"
    refine ⟨D, R, ws, ys, rfl, SqL.of eD, SqT.of eR, ?_⟩
    refine for_it (walk_zipM (xs := ws) (ys := ys) (n := ds.length) (by omega)) (fun i σ H' => Same H H' ∧ ∃ (pl : List (Nat × Nat)) (v6 v7 : Option V), σ = [some (.ref D), some (.int b), some (.int a), some (.int x), some (.ref R), some (.int (M.lcmL (plI pl) : Nat)), v6, v7] ∧ es.take i = pl.map rowN ∧ Paired (fun d q => PlaceD (pOf d) b a (rowN q)) (ds.take i) pl ∧ (∀ q ∈ pl, (x : Int) % (q.1 : Int) = (q.2 : Int)) ∧ ∀ q ∈ pl, 0 < q.1 ∧ q.1 < 2 ^ 60) ⟨Same.refl _, [], none, none, rfl, by simp, by rw [List.take_zero]; exact .nil, by simp, by simp⟩ (fun i σ H' _ I => ⟨SqL.of (I.1 _ _ eD), SqT.of (I.1 _ _ eR)⟩) ?_ ?_
    · rintro i v σ H1 H2 hi ⟨s1, pl, v6, v7, rfl, hes, hpl, hall, hbd⟩ ⟨T, x1, y1, rfl, nT, rfl, hx1, hy1⟩
      have hi' : i < ds.length := hi
      have hi2 : i < es.length := by omega
      obtain ⟨d, hdi, hd⟩ := hds.get hx1
      obtain ⟨e, hei, he⟩ := hys.get hy1
      have hdm := List.mem_of_getElem? hdi
      have hem := List.mem_of_getElem? hei
      obtain ⟨hpap, hbpd, hp9⟩ := hpaps d hdm
      have hpll : pl.length = i := by rw [← hpl.length, List.length_take]; omega
      have s2 : Same H1 (upd H1 T (.tup [x1, y1])) := same_upd nT
      have eT : upd H1 T (.tup [x1, y1]) T = some (.tup [x1, y1]) := upd_same
      generalize upd H1 T (.tup [x1, y1]) = H2 at s2 eT ⊢
      have S2 := s1.trans s2
      refine s_gtup (SqT.of eT) rfl ?_
      walk_at "g"
      refine ⟨x1, y1, d, e, b, a, 135, m1, rfl, hd.same S2, hpap, hbpd, he.same S2, hb1 e hem, hbb, hab, fun r H3 hr s3 => ?_⟩
      have S3 := S2.trans s3
      walk_at "g"
      have inv : ∀ pl' : List (Nat × Nat), es = pl'.map rowN → Paired (fun d q => PlaceD (pOf d) b a (rowN q)) ds pl' → ∃ q, pl'[i]? = some q ∧ e = rowN q ∧ PlaceD (pOf d) b a (rowN q) := fun pl' z1 z2 => by
        rw [z1, List.getElem?_map] at hei
        obtain ⟨q, hq, rfl⟩ := Option.map_eq_some_iff.mp hei
        obtain ⟨d', hd', hP⟩ := pget' z2 hq
        rw [hdi] at hd'
        cases hd'
        exact ⟨q, hq, rfl, hP⟩
      cases r with
      | false =>
        walk_at "g"
        refine bad (fun ⟨x', pl', _, z1, z2, _⟩ => ?_) H3 S3
        obtain ⟨q, _, rfl, h⟩ := inv pl' (PyData.tuple.inj z1) z2
        exact absurd (hr.mpr h) (by simp)
      | true =>
      have hP := hr.mp rfl
      obtain ⟨e1, y, rfl, ho, hye, hal⟩ := id hP
      obtain ⟨t', u, f, xs, ds', hdeq, et, eu, hds', hpp, hpb, hl, hrow, hlen⟩ := (hd.same S3).paper hpap hbpd
      have h5 := ho.pos
      have h6 := ho.le hpp (ho.unit hpp)
      have h1 := he.same S3
      cases h1 with
      | @tup tr zs _ etr hz =>
      obtain ⟨u0, u1, ur, rfl, g0, g1, g2⟩ := hz.two
      cases g2
      cases g0
      cases g1
      have W0 := M.lcm_pos (plI pl) fun z hz => by
        obtain ⟨q, hq, rfl⟩ := List.mem_map.mp hz
        have := (hbd q hq).1
        show (0 : Int) < (q.1 : Int)
        omega
      have Wl := M.lcm_lt (plI pl) (fun z hz => by
        obtain ⟨q, hq, rfl⟩ := List.mem_map.mp hz
        have := hbd q hq
        show (0 : Int) < (q.1 : Int) ∧ (q.1 : Int) < 2 ^ 60
        omega) (by unfold plI; rw [List.length_map]; omega)
      walk_at "g"
      refine s_ixT (SqT.of etr) (atI0 0 rfl rfl) ?_
      walk_at "g"
      refine s_i (by omega) ?_
      walk_at "g"
      refine s_ixT (SqT.of etr) (atI0 1 rfl rfl) ?_
      walk_at "g"
      refine s_iten (fun c1 => ?_) (fun c1 => ?_)
      · walk_at "g"
        refine bad (fun ⟨x', pl', zx, z1, z2, z3, _⟩ => ?_) H3 S3
        obtain ⟨q, hq, z4, h⟩ := inv pl' (PyData.tuple.inj z1) z2
        have z5 := z3 q (List.mem_of_getElem? hq)
        simp only [rowN, PyData.tuple.injEq, List.cons.injEq, PyData.int.injEq, and_true] at z4
        have := PyData.int.inj zx
        rw [← z4.1, ← z4.2, ← this] at z5
        exact c1 z5
      · walk_at "g"
        refine s_ixT (SqT.of etr) (atI0 0 rfl rfl) ?_
        walk_at "g"
        refine ⟨(M.lcmL (plI pl) : Nat), (e1 : Int), rfl, by omega, by omega, fun g u' v' T1 I nT1 => ?_⟩
        have s4 : Same H3 (upd H3 T1 (.tup [.int g, .int u', .int v'])) := same_upd nT1
        have eT1 : upd H3 T1 (.tup [.int g, .int u', .int v']) T1 = some (.tup [.int g, .int u', .int v']) := upd_same
        generalize upd H3 T1 (.tup [.int g, .int u', .int v']) = H4 at s4 eT1 ⊢
        have hg : g = ((Nat.gcd (M.lcmL (plI pl)) e1 : Nat) : Int) := I.hg
        clear I
        subst hg
        have el : ((M.lcmL (plI pl) / Nat.gcd (M.lcmL (plI pl)) e1 : Nat) : Int) * (e1 : Int) = ((M.lcmL (plI (pl ++ [(e1, y)])) : Nat) : Int) := by
          unfold plI
          rw [List.map_append, List.map_cons, List.map_nil, M.lcmL_snoc, ← Int.natCast_mul]
          congr 1
          show M.lcmL (plI pl) / Nat.gcd (M.lcmL (plI pl)) e1 * e1 = Nat.lcm (M.lcmL (plI pl)) e1
          unfold Nat.lcm
          rw [Nat.div_mul_right_comm (Nat.gcd_dvd_left _ _)]
        have hgp : 0 < Nat.gcd (M.lcmL (plI pl)) e1 := Nat.gcd_pos_of_pos_left _ W0
        have hgl : Nat.gcd (M.lcmL (plI pl)) e1 ≤ e1 := Nat.gcd_le_right _ (by omega)
        walk_at "g"
        refine s_ixT (SqT.of eT1) (atI0 0 rfl rfl) ?_
        walk_at "g"
        refine s_i (divW (by omega) (by omega)) ?_
        rw [← Int.natCast_ediv]
        have hq' : M.lcmL (plI pl) / Nat.gcd (M.lcmL (plI pl)) e1 ≤ M.lcmL (plI pl) := Nat.div_le_self _ _
        generalize M.lcmL (plI pl) / Nat.gcd (M.lcmL (plI pl)) e1 = tq at hq' el ⊢
        walk_at "g"
        refine s_ixT (SqT.of (s4 _ _ etr)) (atI0 0 rfl rfl) ?_
        walk_at "g"
        try refine s_i (mulW (by omega) (by omega)) ?_
        rw [el]
        walk_at "g"
        refine ⟨S3.trans s4, _, _, _, rfl, ?_, ?_, fun q hq => ?_, fun q hq => ?_⟩
        · rw [take_more hei, hes, List.map_append]; rfl
        · rw [take_more hdi]
          exact paired_snoc hpl hP
        · rcases List.mem_append.mp hq with w | w
          · exact hall q w
          · rw [List.mem_singleton.mp w]; exact c1
        · rcases List.mem_append.mp hq with w | w
          · exact hbd q w
          · rw [List.mem_singleton.mp w]
            exact ⟨h5, by show e1 < 2 ^ 60; omega⟩
    · rintro σ H1 ⟨s1, pl, v6, v7, rfl, hes, hpl, hall, hbd⟩
      rw [show ds.length = es.length from hle.symm, List.take_length] at hes
      rw [List.take_length] at hpl
      walk_at "g"
      refine k _ H1 ?_ s1
      rw [decide_eq_true_iff]
      constructor
      · intro h
        exact ⟨x, pl, rfl, by rw [hes], hpl, hall, by omega⟩
      · rintro ⟨x', pl', zx, z1, z2, z3, z4⟩
        have e1 : pl' = pl := by
          have z5 : pl'.map rowN = pl.map rowN := by rw [← PyData.tuple.inj z1, hes]
          refine List.map_inj_right (f := rowN) (fun a b h => ?_) |>.mp z5
          simp only [rowN, PyData.tuple.injEq, List.cons.injEq, PyData.int.injEq, and_true] at h
          exact Prod.ext (by have := h.1; omega) (by have := h.2; omega)
        rw [e1] at z4
        have := PyData.int.inj zx
        omega

/-- what is told of which power by some primes -/
def ShowsD (ds : List PyData) (b a : Int) (dt : PyData) : Prop := (∀ d ∈ ds, M.un (pOf d) b ∧ M.un (pOf d) a) ∧
  ((∃ (i : Nat) (d e r : PyData), ds[i]? = some d ∧ dt = .tuple [.none, .tuple [.str "none", .int (i : Nat), e, r]] ∧ IsWh (pOf d) b a (.tuple [.none, .tuple [.str "none", e, r]])) ∨
  (∃ es, dt = .tuple [.none, .tuple (.str "apart" :: es)] ∧ ApartD ds b a (.str "apart" :: es)) ∨
  (∃ x rows, dt = .tuple [x, .tuple [.str "by", rows]] ∧ LeastD ds b a x rows))
theorem isWh_none {p : Nat} {b a : Int} {x e r : PyData} (h : IsWh p b a (.tuple [x, .tuple [.str "none", e, r]])) : x = .none := by
  obtain ⟨e', _, ⟨_, h⟩ | ⟨_, _, _, _, _, h⟩⟩ := h
  · simp only [PyData.tuple.injEq, List.cons.injEq] at h; exact h.1
  · simp only [PyData.tuple.injEq, List.cons.injEq, PyData.str.injEq] at h
    exact absurd h.2.1.1 (by decide +kernel)
/-- shows_which_of(papers, b, a, thing), of any things -/
def sp_shows_which_of : Sp := fun vs H Q _ => ∃ (v vt : V) (d dt : PyData) (b a : Int), vs = [v, .int b, .int a, vt] ∧ Da H v d ∧ Bd 136 d ∧ (PapsD d → ∀ ds, d = .list ds → ∀ e ∈ ds, pOf e ≤ 1000000000) ∧ Da H vt dt ∧ Bd 60 dt ∧ b.natAbs < 2 ^ 900 ∧ a.natAbs < 2 ^ 900 ∧
  ∀ (o : Bool) H', (o = true ↔ PapsD d ∧ ∃ ds, d = .list ds ∧ ShowsD ds b a dt) → Same H H' → Q (.bl o) H'
theorem ok_shows_which_of (T : Txt K mg) : FnOk P w K mg base CX0 147 (He.ga K "shows_which_of") (fd_shows_which_of T) ["papers", "b", "a", "thing"] sp_shows_which_of := by
  refine (F_shows_which_of T).ok sc_shows_which_of (fun vs H Q E h => ?_) (fun cdv A outer s H vs Q E hr h => ⟨_, PSs.nox (pss_cons (ps_if (PW.pt (pw_or (pt_not (pt_val (pe_call (ok_are_primes T) (hr.mono (by decide)) rfl (g_are_primes T) (kp_are_primes T) (B_are_primes T) .nil pass0 (pa_cons (pv 0) pa_nil)))) (pw_or1 (pt_not (pt_val (pe_call (ok_is_row_of T) (hr.mono (by decide)) rfl (g_is_row_of T) (kp_is_row_of T) (B_is_row_of T) .nil pass0 (pa_cons (pv 3) (pa_cons pe_int pa_nil)))))))) (pss_one (ps_ret pe_bl)) pss_nil)
      (pss_cons (ps_if (pt_val (pe_callB (cr_any rfl) rfl (T.fr (T.c.fact 58 rfl)) boot_any (pa_cons (pe_lc (own := [("paper", 7)]) (tt := tYes) rfl sc_shows_which_of.nd (pi_list (pv 0)) (blkOk_by (N := N_shows_which_of) (sc := defScope s_shows_which_of) (by decide +kernel)) (fun _ _ _ _ _ => (pg_name (i := 7) sc_shows_which_of.nd rfl (Or.inl rfl))) (fun _ _ _ _ _ => pts_nil) (fun _ _ _ _ _ => (pe_or (pe_cmpR op_eq (pe_op op_mod (pv 1) (pe_ix (R.ix_seqK K rfl) (pv 7) pe_int (fun _ _ => rfl))) pe_int (nomark _)) (pe_one (pe_cmpR op_eq (pe_op op_mod (pv 2) (pe_ix (R.ix_seqK K rfl) (pv 7) pe_int (fun _ _ => rfl))) pe_int (nomark _)))))) pa_nil))) (pss_one (ps_ret pe_bl)) pss_nil)
      (pss_cons (ps_asg (pv 3) (pg_tup rfl (pgs_cons (pg_name (i := 4) sc_shows_which_of.nd rfl (Or.inl rfl)) (pgs_cons (pg_name (i := 5) sc_shows_which_of.nd rfl (Or.inl rfl)) pgs_nil))))
      (pss_cons (ps_if (pt_val (pe_call (ok_is_named T) (hr.mono (by decide)) rfl (g_is_named T) (kp_is_named T) (B_is_named T) .nil pass0 (pa_cons (pv 5) (pa_cons pe_str (pa_cons pe_int pa_nil))))) (pss_cons (ps_set (i := 6) sc_shows_which_of.nd rfl (Or.inl rfl) (pe_tup (pa_cons (pv 4) (pa_cons (pe_op op_catA (pe_tup (pa_cons pe_str pa_nil)) (pe_slice sl_tupA (pv 5) (po_some pe_int) po_none)) pa_nil))))
      (pss_one (ps_ret (pe_and (pe_call (ok_is_below T) (hr.mono (by decide)) rfl (g_is_below T) (kp_is_below T) (B_is_below T) .nil pass0 (pa_cons (pe_ix ix_seq (pv 5) pe_int (fun _ _ => rfl)) (pa_cons (pe_callB callLen rfl (T.fr (T.c.fact 56 rfl)) boot_len (pa_cons (pv 0) pa_nil)) pa_nil))) (pe_and (pe_cmpR op_isN1 (pv 4) pe_non (nomark _)) (pe_one (pe_call (ok_shows_which T) (hr.mono (by decide)) rfl (g_shows_which T) (kp_shows_which T) (B_shows_which T) .nil pass0 (pa_cons (pe_ix ix_seq (pv 0) (pe_ix ix_seq (pv 5) pe_int (fun _ _ => rfl)) (fun _ _ => rfl)) (pa_cons (pv 1) (pa_cons (pv 2) (pa_cons (pv 6) pa_nil))))))))))) pss_nil)
      (pss_cons (ps_if (pt_val (pe_call (ok_is_named T) (hr.mono (by decide)) rfl (g_is_named T) (kp_is_named T) (B_is_named T) .nil pass0 (pa_cons (pv 5) (pa_cons pe_str (pa_cons pe_int pa_nil))))) (pss_one (ps_ret (pe_and (pe_cmpR op_isN1 (pv 4) pe_non (nomark _)) (pe_one (pe_call (ok_are_apart T) (hr.mono (by decide)) rfl (g_are_apart T) (kp_are_apart T) (B_are_apart T) .nil pass0 (pa_cons (pv 0) (pa_cons (pv 1) (pa_cons (pv 2) (pa_cons (pv 5) pa_nil))))))))) pss_nil)
      (pss_one (ps_ret (pe_and (pe_call (ok_is_named T) (hr.mono (by decide)) rfl (g_is_named T) (kp_is_named T) (B_is_named T) .nil pass0 (pa_cons (pv 5) (pa_cons pe_str (pa_cons pe_int pa_nil)))) (pe_one (pe_call (ok_is_least_by T) (hr.mono (by decide)) rfl (g_is_least_by T) (kp_is_least_by T) (B_is_least_by T) .nil pass0 (pa_cons (pv 0) (pa_cons (pv 1) (pa_cons (pv 2) (pa_cons (pv 4) (pa_cons (pe_ix ix_seq (pv 5) pe_int (fun _ _ => rfl)) pa_nil))))))))))))))), ?_⟩)
  · obtain ⟨v, vt, d, dt, b, a, rfl, _⟩ := h; rfl
  · obtain ⟨v, vt, d, dt, b, a, rfl, hd, hbd, hp9, hdt, hbt, hbb, hab, k⟩ := h
    have bad : (PapsD d → ∀ ds, d = .list ds → ShowsD ds b a dt → False) → ∀ H2, Same H H2 → Q (.bl false) H2 := fun h H2 s2 => k false H2 ⟨fun z => (nomatch z), fun ⟨z, ds, e, z2⟩ => (h z ds e z2).elim⟩ s2
    walk_at "g"
    refine ⟨v, d, rfl, hd, hbd, fun o1 H1 ho1 s1 => ?_⟩
    walk_at "g"
    cases o1 with
    | false =>
      walk_at "g"
      exact bad (fun z => absurd (ho1.mpr z) (by simp)) H1 s1
    | true =>
    have hP := ho1.mp rfl
    obtain ⟨ds, rfl, hl0, hl5, hpap, hpw⟩ := id hP
    have hp9 := hp9 hP ds rfl
    obtain ⟨m0, em0, _, hbds⟩ := hbd.lst_inv
    obtain rfl : m0 = 135 := by omega
    have badS : ¬ ShowsD ds b a dt → ∀ H2, Same H H2 → Q (.bl false) H2 := fun h => bad fun _ ds' e z => by cases e; exact h z
    have hd1 := hd.same s1
    cases hd1 with
    | @lst D ws _ eD hds _ =>
    have hwl := hds.len
    have hdt1 := hdt.same s1
    walk_at "g"
    refine ⟨vt, dt, 2, rfl, hdt1, ?_⟩
    walk_at "g"
    cases er : isR 2 dt with
    | false =>
      walk_at "g"
      refine badS (fun ⟨_, z⟩ => ?_) H1 s1
      obtain ⟨_, _, _, _, _, z, _⟩ | ⟨_, z, _⟩ | ⟨_, _, z, _⟩ := z <;> rw [z] at er <;> cases er
    | true =>
    obtain ⟨es, rfl, hl2⟩ := isR_inv er
    obtain ⟨dx, dsh, rfl⟩ : ∃ a0 a1, es = [a0, a1] := by
      match es, hl2 with
      | [a, b], _ => exact ⟨a, b, rfl⟩
      | [], h => simp at h
      | [_], h => simp at h
      | _ :: _ :: _ :: _, h => simp at h; omega
    obtain ⟨m1, em1, _, hb1⟩ := hbt.tup_inv
    obtain rfl : m1 = 59 := by omega
    have hbx := hb1 dx (by simp)
    have hbs := hb1 dsh (by simp)
    cases hdt1 with
    | @tup tt ys _ ett hy =>
    obtain ⟨vx, vs, yr, rfl, h0, h1, h2⟩ := hy.two
    cases h2
    walk_at "g"
    refine s_lc ?_
    walk_at "g"
    refine ⟨⟨_, SqL.of eD⟩, fun F hF => ?_⟩
    refine lc_list (fun i H' => Same H1 H' ∧ H' F = some (.lst (((ds.take i).map fun d => decide (b % (pOf d : Int) = 0) || decide (a % (pOf d : Int) = 0)).map V.bl))) ⟨same_upd hF, upd_same⟩ (fun i H' _ I => SqL.of (I.1 _ _ eD)) ?_ ?_
    · rintro i v H2 hi ⟨s2, eF⟩
      obtain ⟨d, hdi, hdd⟩ := hds.get hi
      have hdm := List.mem_of_getElem? hdi
      obtain ⟨t, u, f, xs, ds', rfl, et, eu, hds', hp, hpb, hl, hrow, hlen⟩ := (hdd.same s2).paper (hpap d hdm) (hbds d hdm)
      generalize hpe : pOf d = p at *
      have hp2 : 2 ≤ p := hp.1
      have hil := (List.getElem?_eq_some_iff.mp hdi).1
      have fin : ∀ o : Bool, o = (decide (b % (p : Int) = 0) || decide (a % (p : Int) = 0)) → Same H1 (upd H2 F (.lst ((((ds.take i).map fun d => decide (b % (pOf d : Int) = 0) || decide (a % (pOf d : Int) = 0)).map V.bl) ++ [.bl o]))) ∧ upd H2 F (.lst ((((ds.take i).map fun d => decide (b % (pOf d : Int) = 0) || decide (a % (pOf d : Int) = 0)).map V.bl) ++ [.bl o])) F = some (.lst (((ds.take (i + 1)).map fun d => decide (b % (pOf d : Int) = 0) || decide (a % (pOf d : Int) = 0)).map V.bl)) := fun o ho => by
        refine ⟨same_upd' s2 hF, ?_⟩
        rw [upd_same, take_more hdi, List.map_append, List.map_append, ho, ← hpe]; rfl
      walk_at "g"
      refine ⟨rfl, ?_⟩
      walk_at "g"
      refine s_ixT (SqT.of et) (atI0 0 rfl rfl) ?_
      walk_at "g"
      refine s_i (by omega) ?_
      walk_at "g"
      by_cases c : b % (p : Int) = 0
      · rw [decide_eq_true c]
        walk_at "g"
        exact ⟨_, eF, line2 (by rw [List.length_map, List.length_map, List.length_take]; omega), fin _ (by rw [decide_eq_true c]; rfl)⟩
      · rw [decide_eq_false c]
        walk_at "g"
        refine s_ixT (SqT.of et) (atI0 0 rfl rfl) ?_
        walk_at "g"
        refine s_i (by omega) ?_
        walk_at "g"
        exact ⟨_, eF, line2 (by rw [List.length_map, List.length_map, List.length_take]; omega), fin _ (by rw [decide_eq_false c]; rfl)⟩
    rintro H2 ⟨s2, eF⟩
    rw [hwl, List.take_length] at eF
    have S2 := s1.trans s2
    have hany : ((ds.map fun d => decide (b % (pOf d : Int) = 0) || decide (a % (pOf d : Int) = 0)).any id) = true ↔ ¬ ∀ d ∈ ds, M.un (pOf d) b ∧ M.un (pOf d) a := by
      rw [List.any_eq_true]
      constructor
      · rintro ⟨o, ho, h⟩ hall
        obtain ⟨x, hx, rfl⟩ := List.mem_map.mp ho
        obtain ⟨h1, h2⟩ := hall x hx
        have h : (decide (b % (pOf x : Int) = 0) || decide (a % (pOf x : Int) = 0)) = true := h
        rw [Bool.or_eq_true, decide_eq_true_eq, decide_eq_true_eq] at h
        rcases h with z | z
        · exact M.un_iff.mp h1 z
        · exact M.un_iff.mp h2 z
      · intro h
        have : ∃ d ∈ ds, ¬ (M.un (pOf d) b ∧ M.un (pOf d) a) := Classical.byContradiction fun z => h fun d hd => Classical.byContradiction fun w => z ⟨d, hd, w⟩
        obtain ⟨d, hd, hn⟩ := this
        refine ⟨_, List.mem_map.mpr ⟨d, hd, rfl⟩, ?_⟩
        show (decide (b % (pOf d : Int) = 0) || decide (a % (pOf d : Int) = 0)) = true
        rw [Bool.or_eq_true, decide_eq_true_eq, decide_eq_true_eq]
        by_cases c : b % (pOf d : Int) = 0
        · exact .inl c
        · by_cases c2 : a % (pOf d : Int) = 0
          · exact .inr c2
          · exact absurd ⟨M.un_iff.mpr c, M.un_iff.mpr c2⟩ hn
    walk_at "g"
    refine ⟨F, _, rfl, SqL.of eF, ?_⟩
    cases ea : ((ds.map fun d => decide (b % (pOf d : Int) = 0) || decide (a % (pOf d : Int) = 0)).any id) with
    | true =>
      walk_at "g"
      exact badS (fun z => hany.mp ea z.1) H2 S2
    | false =>
    have hun : ∀ d ∈ ds, M.un (pOf d) b ∧ M.un (pOf d) a := Classical.byContradiction fun z => by
      have := hany.mpr z
      rw [ea] at this; cases this
    have ett2 := s2 _ _ ett
    have hk : ∀ (o : Bool) H', (o = true ↔ ShowsD ds b a (.tuple [dx, dsh])) → Same H H' → Q (.bl o) H' := fun o H' h s => k o H' (h.trans ⟨fun z => ⟨hP, ds, rfl, z⟩, fun ⟨_, ds', e, z⟩ => by cases e; exact z⟩) s
    have h02 := h0.same s2
    have h12 := h1.same s2
    have hds2 := hds.same s2
    have eD2 := s2 _ _ eD
    clear k bad
    walk_at "g"
    refine s_gtup (SqT.of ett2) rfl ?_
    walk_at "g"
    refine ⟨vs, dsh, "none", 4, 59, rfl, h12, hbs, by decide, by decide +kernel, by decide, ?_⟩
    cases c1 : isNm dsh "none" 4 with
    | true =>
      obtain ⟨es, rfl, hl3⟩ := isNm_inv c1
      obtain ⟨d1, d2, d3, rfl⟩ : ∃ a b c, es = [a, b, c] := by
        match es, hl3 with
        | [a, b, c], _ => exact ⟨a, b, c, rfl⟩
        | [], h => simp at h
        | [_], h => simp at h
        | [_, _], h => simp at h
        | _ :: _ :: _ :: _ :: _, h => simp at h; omega
      obtain ⟨m2, em2, _, hb2⟩ := hbs.tup_inv
      obtain rfl : m2 = 58 := by omega
      cases h12 with
      | @tup ts zs _ ets hz =>
      cases hz with
      | @cons z0 zs' _ _ q0 qz =>
      obtain ⟨z1, z2, z3, zr, rfl, q1, q2, q3, q4⟩ := qz.three
      cases q4
      cases q0
      have iff1 : ∀ o : Bool, (o = true ↔ ∃ (i : Nat) (d : PyData), d1 = .int (i : Nat) ∧ ds[i]? = some d ∧ dx = .none ∧ IsWh (pOf d) b a (.tuple [.none, .tuple [.str "none", d2, d3]])) → (o = true ↔ ShowsD ds b a (.tuple [dx, .tuple [.str "none", d1, d2, d3]])) := fun o h => h.trans (by
        constructor
        · rintro ⟨i, d, rfl, hdi, rfl, hW⟩
          exact ⟨hun, .inl ⟨i, d, d2, d3, hdi, rfl, hW⟩⟩
        · rintro ⟨_, ⟨i, d, e, r, hdi, z, hW⟩ | ⟨es, z, _⟩ | ⟨x, rows, z, _⟩⟩
          · simp only [PyData.tuple.injEq, List.cons.injEq, and_true, true_and] at z
            obtain ⟨rfl, rfl, rfl, rfl⟩ := z
            exact ⟨i, d, rfl, hdi, rfl, hW⟩
          · simp only [PyData.tuple.injEq, List.cons.injEq, PyData.str.injEq] at z
            exact absurd z.2.1.1 (by decide +kernel)
          · simp only [PyData.tuple.injEq, List.cons.injEq, PyData.str.injEq] at z
            exact absurd z.2.1.1 (by decide +kernel))
      have badN : (∀ (i : Nat) (d : PyData), d1 = .int (i : Nat) → ds[i]? = some d → dx = .none → IsWh (pOf d) b a (.tuple [.none, .tuple [.str "none", d2, d3]]) → False) → ∀ H3, Same H H3 → Q (.bl false) H3 := fun h H3 s3 => hk false H3 (iff1 false ⟨fun z => (nomatch z), fun ⟨i, d, z1, z2, z3, z4⟩ => (h i d z1 z2 z3 z4).elim⟩) s3
      walk_at "c"
      with_reducible refine s_asg ?_
      refine (eve_tup (eves_cons (eve_var rfl h02) (eves_cons (eve_cat (eve_tup (eves_cons eve_str eves_nil)) (eve_sl (eve_var rfl (.tup ets (.cons (.str _) (.cons q1 (.cons q2 (.cons q3 .nil)))))) (evo_some evv_c) evo_none) (by have := cutD_len [.str "none", d1, d2, d3] (some 2) none; simp only [List.length_cons, List.length_nil] at this ⊢; omega)) eves_nil)) : EvE (fun _ => True) _ _ H2 (.tuple [dx, .tuple ([.str "none"] ++ cutD [.str "none", d1, d2, d3] (some 2) none)])) H2 (Same.refl _) _ fun vt H3 s3 hvt => ?_
      have hcut : cutD [.str "none", d1, d2, d3] (some 2) none = [d2, d3] := cutD_from (k := 2) (ds := [.str "none", d1, d2, d3]) (by simp)
      rw [hcut] at hvt
      have hvt : Da H3 vt (.tuple [dx, .tuple [.str "none", d2, d3]]) := hvt
      have S3 := S2.trans s3
      walk_at "g"
      refine s_ixT (SqT.of (s3 _ _ ets)) (atI0 1 rfl rfl) ?_
      walk_at "g"
      refine s_lenL (SqL.of (s3 _ _ eD2)) ?_
      rw [hwl]
      walk_at "g"
      refine ⟨z1, d1, ds.length, rfl, q1.same s3, ?_⟩
      walk_at "g"
      cases c2 : isBel d1 ds.length with
      | false =>
        walk_at "g"
        refine badN (fun i d z1 z2 _ _ => ?_) H3 S3
        rw [z1] at c2
        have := (List.getElem?_eq_some_iff.mp z2).1
        simp only [isBel, Bool.and_eq_false_iff, decide_eq_false_iff_not] at c2
        omega
      | true =>
      obtain ⟨i, rfl, hi⟩ := isBel_inv c2
      have hi : i < ds.length := by omega
      cases q1
      walk_at "g"
      refine ⟨rfl, ?_⟩
      by_cases cx : vx = .non
      · subst cx
        cases h02
        rw [decide_eq_true rfl]
        walk_at "g"
        obtain ⟨wi, hwi, hdi⟩ := hds2.get' (List.getElem?_eq_getElem hi)
        have hmi := List.getElem_mem hi
        refine s_ixT (SqT.of (s3 _ _ ets)) (atI0 1 rfl rfl) ?_
        walk_at "g"
        refine s_ixL (SqL.of (s3 _ _ eD2)) (atI_nat hwi) ?_
        walk_at "g"
        have hbt' : Bd 60 (.tuple [.none, .tuple [.str "none", d2, d3]]) := .tup (by simp) fun y hy => by
          simp only [List.mem_cons, List.not_mem_nil, or_false] at hy
          rcases hy with w | w <;> subst w
          · exact .non
          · refine .tup (by simp) fun y hy => hb2 y ?_
            simp only [List.mem_cons, List.not_mem_nil, or_false] at hy ⊢
            rcases hy with w | w | w <;> simp [w]
        refine ⟨wi, vt, ds[i], _, b, a, rfl, hdi.same s3, hbds _ hmi, hvt, hbt', fun o H4 ho s4 => ?_⟩
        refine hk o H4 (iff1 o (ho.trans ?_)) (S3.trans s4)
        constructor
        · rintro ⟨_, _, _, hW⟩
          exact ⟨i, _, rfl, List.getElem?_eq_getElem hi, rfl, hW⟩
        · rintro ⟨i', d, z1, z2, _, hW⟩
          obtain rfl : i = i' := by have := PyData.int.inj z1; omega
          rw [List.getElem?_eq_getElem hi] at z2
          cases z2
          exact ⟨hpap _ hmi, (hun _ hmi).1, (hun _ hmi).2, hW⟩
      · rw [decide_eq_false cx]
        walk_at "g"
        refine badN (fun i d _ _ z _ => cx ?_) H3 S3
        rw [z] at h02
        cases h02; rfl
    | false =>
    walk_at "g"
    refine ⟨vs, dsh, "apart", 5, 59, rfl, h12, hbs, by decide, by decide +kernel, by decide, ?_⟩
    have notN : ∀ e r i, dsh ≠ .tuple [.str "none", i, e, r] := fun e r i z => by
      rw [z, isNm_of (by simp)] at c1
      cases c1
    cases c2 : isNm dsh "apart" 5 with
    | true =>
      obtain ⟨es, rfl, hl4⟩ := isNm_inv c2
      have iff1 : ∀ o : Bool, (o = true ↔ dx = .none ∧ ApartD ds b a (.str "apart" :: es)) → (o = true ↔ ShowsD ds b a (.tuple [dx, .tuple (.str "apart" :: es)])) := fun o h => h.trans (by
        constructor
        · rintro ⟨rfl, hA⟩
          exact ⟨hun, .inr (.inl ⟨es, rfl, hA⟩)⟩
        · rintro ⟨_, ⟨i, d, e, r, hdi, z, hW⟩ | ⟨es', z, hA⟩ | ⟨x, rows, z, _⟩⟩
          · simp only [PyData.tuple.injEq, List.cons.injEq, PyData.str.injEq] at z
            exact absurd z.2.1.1 (by decide +kernel)
          · simp only [PyData.tuple.injEq, List.cons.injEq, and_true, true_and] at z
            obtain ⟨rfl, rfl⟩ := z
            exact ⟨rfl, hA⟩
          · simp only [PyData.tuple.injEq, List.cons.injEq, PyData.str.injEq] at z
            exact absurd z.2.1.1 (by decide +kernel))
      walk_at "g"
      refine ⟨rfl, ?_⟩
      by_cases cx : vx = .non
      · subst cx
        cases h02
        rw [decide_eq_true rfl]
        walk_at "g"
        refine ⟨D, ws, ds, vs, _, b, a, 59, rfl, eD2, hds2, fun d hd => ⟨hpap d hd, hbds d hd⟩, h12, hbs, by rw [List.length_cons]; omega, hbb, hab, fun o H3 ho s3 => ?_⟩
        exact hk o H3 (iff1 o (ho.trans ⟨fun z => ⟨rfl, z⟩, fun z => z.2⟩)) (S2.trans s3)
      · rw [decide_eq_false cx]
        walk_at "g"
        refine hk false H2 (iff1 false ⟨fun z => (nomatch z), fun z => absurd ?_ cx⟩) S2
        rw [z.1] at h02
        cases h02; rfl
    | false =>
    have notA : ∀ es, es.length = 4 → dsh ≠ .tuple (.str "apart" :: es) := fun es hl z => by
      rw [z, isNm_of (by omega)] at c2
      cases c2
    walk_at "g"
    refine ⟨vs, dsh, "by", 2, 59, rfl, h12, hbs, by decide, by decide +kernel, by decide, ?_⟩
    have apl : ∀ es, ApartD ds b a (.str "apart" :: es) → es.length = 4 := fun es ⟨_, _, _, _, _, _, _, _, _, z, _⟩ => by
      simp only [List.cons.injEq] at z
      rw [z.2]; rfl
    cases c3 : isNm dsh "by" 2 with
    | false =>
      walk_at "g"
      refine badS (fun ⟨_, z⟩ => ?_) H2 S2
      rcases z with ⟨i, d, e, r, hdi, z, hW⟩ | ⟨es', z, hA⟩ | ⟨x, rows, z, _⟩
      · simp only [PyData.tuple.injEq, List.cons.injEq, and_true] at z
        exact notN _ _ _ z.2
      · simp only [PyData.tuple.injEq, List.cons.injEq, and_true] at z
        exact notA _ (apl _ hA) z.2
      · simp only [PyData.tuple.injEq, List.cons.injEq, and_true] at z
        rw [z.2, isNm_of (by simp)] at c3
        cases c3
    | true =>
    obtain ⟨es, rfl, hl5'⟩ := isNm_inv c3
    obtain ⟨dr, rfl⟩ : ∃ a, es = [a] := by
      match es, hl5' with
      | [a], _ => exact ⟨a, rfl⟩
      | [], h => simp at h
      | _ :: _ :: _, h => simp at h; omega
    obtain ⟨m2, em2, _, hb2⟩ := hbs.tup_inv
    cases h12 with
    | @tup ts zs _ ets hz =>
    obtain ⟨z0, z1, zr, rfl, q0, q1, q2⟩ := hz.two
    cases q2
    cases q0
    walk_at "g"
    refine s_ixT (SqT.of ets) (atI0 1 rfl rfl) ?_
    walk_at "g"
    refine ⟨D, ws, ds, vx, z1, dx, dr, b, a, 59, rfl, eD2, hds2, hl5, fun d hd => ⟨hpap d hd, hbds d hd, hp9 d hd⟩, h02, hbx, q1, (hb2 dr (by simp)).mono (by omega), hbb, hab, fun o H3 ho s3 => ?_⟩
    refine hk o H3 (ho.trans ?_) (S2.trans s3)
    constructor
    · intro h
      exact ⟨hun, .inr (.inr ⟨dx, dr, rfl, h⟩)⟩
    · rintro ⟨_, ⟨i, d, e, r, hdi, z, hW⟩ | ⟨es', z, hA⟩ | ⟨x, rows, z, hL⟩⟩
      · simp only [PyData.tuple.injEq, List.cons.injEq, PyData.str.injEq] at z
        exact absurd z.2.1.1 (by decide +kernel)
      · simp only [PyData.tuple.injEq, List.cons.injEq, PyData.str.injEq] at z
        exact absurd z.2.1.1 (by decide +kernel)
      · simp only [PyData.tuple.injEq, List.cons.injEq, and_true, true_and] at z
        obtain ⟨rfl, rfl⟩ := z
        exact hL

theorem callLenK (K : PySem.W.Frag) {X : Cx} (h : X.K = K) : CallR X (.builtin "len") (rLenS K) := h ▸ callLen

theorem fac_len {n : Nat} {l : List (Nat × Nat)} {m d : Nat} (h : M.Fac n l m d) (hn : n < 2 ^ 200) : l.length ≤ 200 := by
  have h1 : ∀ l : List (Nat × Nat), (∀ x ∈ l, M.Prime x.1 ∧ 0 < x.2) → 2 ^ l.length ≤ M.prodL l := fun l => by
    induction l with
    | nil => intro _; exact Nat.le_refl 1
    | cons x l ih =>
      intro hl
      have h1 := ih fun y hy => hl y (by simp [hy])
      have h2 := hl x (by simp)
      have h3 : 2 ≤ x.1 ^ x.2 := Nat.le_trans h2.1.1 (Nat.le_of_dvd (Nat.pow_pos h2.1.pos) (M.dvd_pow_self x.1 h2.2))
      rw [List.length_cons, Nat.pow_succ, Nat.mul_comm]
      exact Nat.mul_le_mul h3 h1
  have h2 := h1 l h.primes
  have h3 : M.prodL l ≤ n := by rw [← h.prod]; exact Nat.le_mul_of_pos_right _ h.npos
  rcases Nat.lt_or_ge 200 l.length with z | z
  · have := Nat.pow_le_pow_right (show 0 < 2 by decide) (Nat.le_of_lt z)
    omega
  · exact z
theorem fac_rest {n : Nat} {l : List (Nat × Nat)} {m d : Nat} (h : M.Fac n l m d) : m ≤ n := by
  rw [← h.prod]
  have : 0 < M.prodL l := Nat.pos_of_ne_zero fun z => by
    have h1 := h.prod
    rw [z, Nat.zero_mul] at h1
    have h2 : ∀ l : List (Nat × Nat), (∀ x ∈ l, M.Prime x.1 ∧ 0 < x.2) → 0 < M.prodL l := fun l => by
      induction l with
      | nil => intro _; decide
      | cons x l ih => intro hl; exact Nat.mul_pos (Nat.pow_pos (hl x (by simp)).1.pos) (ih fun y hy => hl y (by simp [hy]))
    have := h2 l h.primes
    omega
  exact Nat.le_mul_of_pos_left _ this

/-- _law_cell_at(script, k): a cell, or 0 -/
def sp__law_cell_at (K : PySem.W.Frag) : Sp := fun vs H Q _ => ∃ (a : Addr) (ns : List Int) (k : Nat), vs = [.ref a, .int k] ∧ SqL K H a (ns.map V.int) ∧ ∀ z : Int, Q (.int z) H
theorem ok__law_cell_at (T : Txt K mg) : FnOk P w K mg base CX0 1 (He.ga K "_law_cell_at") (fd__law_cell_at T) ["_law_script", "_law_k"] (sp__law_cell_at K) := by
  refine (F__law_cell_at T).ok sc__law_cell_at (fun vs H Q E h => ?_) (fun cdv A outer s H vs Q E hr h => ⟨_, PSs.nox (pss_cons (ps_if (pt_cmpR op_lt (pv 1) (pe_callB callLen rfl (T.fr (T.c.fact 56 rfl)) boot_len (pa_cons (pv 0) pa_nil)) (nomark _)) (pss_one (ps_ret (pe_ix ix_seq (pv 0) (pv 1) (fun _ _ => rfl)))) pss_nil)
      (pss_one (ps_ret pe_int))), ?_⟩)
  · obtain ⟨a, ns, k, rfl, _⟩ := h; rfl
  · obtain ⟨a, ns, k, rfl, hS, q⟩ := h
    walk_at "g"
    refine s_lenL hS ?_
    walk_at "g"
    refine s_ite (fun c => ?_) (fun c => ?_)
    · rw [List.length_map] at c
      obtain ⟨z, hz⟩ : ∃ z, ns[k]? = some z := ⟨_, List.getElem?_eq_getElem (show k < ns.length by omega)⟩
      walk_at "g"
      refine s_ixL hS (atI0 k rfl (v := .int z) (by rw [List.getElem?_map, hz]; rfl)) ?_
      exact q _
    · walk_at "g"
      exact q 0

/-- the state of a law's draws: a dict of what is left and whether it is free -/
def StAt (H : Hp) (p : Addr) : Prop := ∃ (l : Int) (f : Bool), H p = some (.dK [(.inr "left", .int l), (.inr "free", .bl f)]) ∧ (f = false → 0 ≤ l ∧ l < 2147483647)
theorem StAt.same {H H' : Hp} {p : Addr} (h : StAt H p) (s : Same H H') : StAt H' p := by
  obtain ⟨l, f, e, k⟩ := h
  exact ⟨l, f, s _ _ e, k⟩
theorem tups_b {H H' : Hp} {p : Addr} (h : StAt H p) (s : ∀ b o, b ≠ p → H b = some o → H' b = some o) {xs : List V} {rs : List (List V)} (ht : TupsIn H xs rs) : TupsIn H' xs rs := by
  induction ht with
  | nil => exact .nil
  | cons f _ ih =>
    obtain ⟨t, e, ht⟩ := f
    refine .cons ⟨t, e, s _ _ (fun z => ?_) ht⟩ ih
    obtain ⟨_, _, e2, _⟩ := h
    rw [z, e2] at ht; cases ht
/-- _law_state(cell, free): a new state -/
def sp__law_state : Sp := fun vs H Q _ => ∃ (c : Int) (f : Bool), vs = [.int c, .bl f] ∧ ∀ p H', H p = none → Same H H' → StAt H' p → Q (.ref p) H'
theorem ok__law_state (T : Txt K mg) : FnOk P w K mg base CX0 1 (He.ga K "_law_state") (fd__law_state T) ["_law_cell", "_law_free"] sp__law_state := by
  refine (F__law_state T).ok sc__law_state (fun vs H Q E h => ?_) (fun cdv A outer s H vs Q E hr h => ⟨_, PSs.nox (pss_cons (ps_if (pt_val (pv 1)) (pss_one (ps_ret (pe_disp (pps_cons pe_str (pv 0) (pps_cons pe_str pe_bl pps_nil)) rfl rfl (by simp) (by decide)))) pss_nil)
      (pss_one (ps_ret (pe_disp (pps_cons pe_str (pe_op op_add pe_int (pe_op op_mod (pv 0) pe_int)) (pps_cons pe_str pe_bl pps_nil)) rfl rfl (by simp) (by decide))))), ?_⟩)
  · obtain ⟨c, f, rfl, _⟩ := h; rfl
  · obtain ⟨c, f, rfl, k⟩ := h
    walk_at "g"
    refine s_iteb (fun e => ?_) (fun e => ?_)
    · walk_at "g"
      refine s_disp fun p H1 np hd s1 => ?_
      walk_at "g"
      refine mkDisp [(.inr "left", .int c), (.inr "free", .bl true)] hd rfl (by simp) fun H2 e2 s2 => ?_
      exact k p H2 np (s2 H np s1) ⟨c, true, e2, fun z => nomatch z⟩
    · walk_at "g"
      refine s_disp fun p H1 np hd s1 => ?_
      walk_at "g"
      refine mkDisp [(.inr "left", .int (1 + c % 2147483646)), (.inr "free", .bl false)] hd rfl (by simp) fun H2 e2 s2 => ?_
      exact k p H2 np (s2 H np s1) ⟨1 + c % 2147483646, false, e2, fun _ => by omega⟩

/-- _law_take(state, many): a number from 0 to below many -/
def sp__law_take : Sp := fun vs H Q _ => ∃ (p : Addr) (m : Int), vs = [.ref p, .int m] ∧ 0 < m ∧ m < 2 ^ 900 ∧ StAt H p ∧ ∀ (z : Int) H', 0 ≤ z → z < m → StAt H' p → SameB p H H' → Q (.int z) H'
theorem ok__law_take (T : Txt K mg) : FnOk P w K mg base CX0 1 (He.ga K "_law_take") (fd__law_take T) ["_law_state_here", "_law_many"] sp__law_take := by
  refine (F__law_take T).ok sc__law_take (fun vs H Q E h => ?_) (fun cdv A outer s H vs Q E hr h => ⟨_, PSs.nox (pss_cons (ps_if (pt_val (pe_dget (hu_of hr) (pv 0) pe_str (fun _ _ => rfl))) (pss_cons (ps_set (i := 2) sc__law_take.nd rfl (Or.inl rfl) (pe_op op_mod (pe_dget (hu_of hr) (pv 0) pe_str (fun _ _ => rfl)) (pv 1)))
      (pss_cons (ps_dput (hu_of hr) (pv 0) pe_str (pe_op op_fdivW (pe_dget (hu_of hr) (pv 0) pe_str (fun _ _ => rfl)) (pv 1)) rfl)
      (pss_one (ps_ret (pv 2))))) pss_nil)
      (pss_cons (ps_dput (hu_of hr) (pv 0) pe_str (pe_op op_mod (pe_op op_mulW (pe_dget (hu_of hr) (pv 0) pe_str (fun _ _ => rfl)) pe_int) pe_int) rfl)
      (pss_one (ps_ret (pe_op op_mod (pe_op op_fdivW (pe_op op_mod (pe_op op_mulW (pe_dget (hu_of hr) (pv 0) pe_str (fun _ _ => rfl)) pe_int) pe_int) pe_int) (pv 1)))))), ?_⟩)
  · obtain ⟨p, m, rfl, _⟩ := h; rfl
  · obtain ⟨p, m, rfl, m0, m1, ⟨l, f, hd, hf⟩, k⟩ := h
    have hl : ([(.inr "left", .int l), (.inr "free", .bl f)] : List (Key × V)).length < sizeLine := by exact small1000 (by simp)
    have v1 : valV ([(.inr "left", .int l), (.inr "free", .bl f)] : List (Key × V)) (.inr "left") = some (.int l) := by rfl
    have v2 : valV ([(.inr "left", .int l), (.inr "free", .bl f)] : List (Key × V)) (.inr "free") = some (.bl f) := by rfl
    have pk : ∀ x : Int, putK ([(.inr "left", .int l), (.inr "free", .bl f)] : List (Key × V)) (.inr "left") (.int x) = [(.inr "left", .int x), (.inr "free", .bl f)] := fun x => by rfl
    walk_at "g"
    refine s_dgetS hd v2 ?_
    walk_at "g"
    cases f with
    | true =>
      walk_at "g"
      refine s_dgetS hd v1 ?_
      walk_at "g"
      refine s_i (by omega) ?_
      walk_at "g"
      refine s_dgetS hd v1 ?_
      walk_at "g"
      refine s_i (divW m0 (by omega)) ?_
      walk_at "g"
      refine s_dputS hd hl ?_
      walk_at "g"
      rw [pk]
      exact k _ _ (Int.emod_nonneg _ (by omega)) (Int.emod_lt_of_pos _ m0) ⟨_, true, upd_same, fun z => nomatch z⟩ SameB.put
    | false =>
      have hb := hf rfl
      walk_at "g"
      refine s_dgetS hd v1 ?_
      walk_at "g"
      refine s_dputS hd hl ?_
      walk_at "g"
      rw [pk]
      have e : upd H p (.dK [(.inr "left", .int (l * 48271 % 2147483647)), (.inr "free", .bl false)]) p = some (.dK [(.inr "left", .int (l * 48271 % 2147483647)), (.inr "free", .bl false)]) := upd_same
      refine s_dgetS e (by rfl) ?_
      have b0 : 0 ≤ l * 48271 % 2147483647 := by omega
      have b1 : l * 48271 % 2147483647 < 2147483647 := by omega
      walk_at "g"
      refine s_i (by omega) ?_
      walk_at "g"
      exact k _ _ (Int.emod_nonneg _ (by omega)) (Int.emod_lt_of_pos _ m0) ⟨_, false, upd_same, fun _ => ⟨b0, b1⟩⟩ SameB.put

/-- _law_number(state): a number of at most fifty-six figures, of either sign -/
def sp__law_number : Sp := fun vs H Q _ => ∃ (p : Addr), vs = [.ref p] ∧ StAt H p ∧ ∀ (z : Int) H', z.natAbs < 10 ^ 57 → StAt H' p → SameB p H H' → Q (.int z) H'
theorem ok__law_number (T : Txt K mg) : FnOk P w K mg base CX0 2 (He.ga K "_law_number") (fd__law_number T) ["_law_state_here"] sp__law_number := by
  refine (F__law_number T).ok sc__law_number (fun vs H Q E h => ?_) (fun cdv A outer s H vs Q E hr h => ⟨_, PSs.nox (pss_cons (ps_if (pt_cmpR op_eq (pe_call (ok__law_take T) (hr.mono (by decide)) rfl (g__law_take T) (kp__law_take T) (B__law_take T) .nil pass0 (pa_cons (pv 0) (pa_cons pe_int pa_nil))) pe_int (nomark _)) (pss_one (ps_ret (pe_op op_sub (pe_call (ok__law_take T) (hr.mono (by decide)) rfl (g__law_take T) (kp__law_take T) (B__law_take T) .nil pass0 (pa_cons (pv 0) (pa_cons pe_int pa_nil))) pe_int))) pss_nil)
      (pss_cons (ps_set (i := 1) sc__law_number.nd rfl (Or.inl rfl) pe_int)
      (pss_cons (ps_for PassesOwn.never rfl (pi_range1 rfl (T.fr (T.c.fact 57 rfl)) (pa_cons pe_int pa_nil)) (pg_name (i := 2) sc__law_number.nd rfl (Or.inl rfl)) (pss_one (ps_set (i := 1) sc__law_number.nd rfl (Or.inl rfl) (pe_op op_add (pe_op op_mulW (pv 1) (pe_op op_pow pe_int pe_int)) (pe_call (ok__law_take T) (hr.mono (by decide)) rfl (g__law_take T) (kp__law_take T) (B__law_take T) .nil pass0 (pa_cons (pv 0) (pa_cons (pe_op op_pow pe_int pe_int) pa_nil)))))))
      (pss_one (ps_ret (pe_op op_mulW (pv 1) (pe_op op_sub (pe_op op_mulW pe_int (pe_call (ok__law_take T) (hr.mono (by decide)) rfl (g__law_take T) (kp__law_take T) (B__law_take T) .nil pass0 (pa_cons (pv 0) (pa_cons pe_int pa_nil)))) pe_int))))))), ?_⟩)
  · obtain ⟨p, rfl, _⟩ := h; rfl
  · obtain ⟨p, rfl, hst, k⟩ := h
    walk_at "g"
    refine ⟨p, 2, rfl, by decide, by decide, hst, fun w H1 w0 w1 st1 s1 => ?_⟩
    walk_at "g"
    refine s_ite (fun _ => ?_) (fun _ => ?_)
    · walk_at "g"
      refine ⟨p, 201, rfl, by decide, by decide, st1, fun z H2 z0 z1 st2 s2 => ?_⟩
      walk_at "g"
      exact k _ H2 (by omega) st2 (s1.trans s2)
    walk_at "g"
    refine mkR1 7 rfl (by decide) (by decide) ?_
    refine for_range (n := 7) (fun i σ H' => SameB p H H' ∧ StAt H' p ∧ ∃ (f : Int) (v : Option V), σ = [some (.ref p), some (.int f), v] ∧ 0 ≤ f ∧ f < 10 ^ (8 * i)) ⟨s1, st1, 0, none, rfl, by decide, by decide⟩ ?_ ?_
    · rintro i σ H' hi ⟨hs, st, f, v, rfl, f0, f1⟩
      have f2 : f < 10 ^ 56 := Int.lt_of_lt_of_le f1 (by
        have : i = 0 ∨ i = 1 ∨ i = 2 ∨ i = 3 ∨ i = 4 ∨ i = 5 ∨ i = 6 := by omega
        rcases this with rfl | rfl | rfl | rfl | rfl | rfl | rfl <;> decide)
      walk_at "g"
      refine ⟨p, _, rfl, by decide, by decide, st, fun z H2 z0 z1 st2 s2 => ?_⟩
      walk_at "g"
      refine ⟨hs.trans s2, st2, _, _, rfl, by omega, ?_⟩
      have e : (10 : Int) ^ (8 * (i + 1)) = 10 ^ (8 * i) * 10 ^ 8 := by rw [← Int.pow_add]; congr 1
      rw [e]
      generalize (10 : Int) ^ (8 * i) = M at f1 ⊢
      omega
    · rintro σ H' ⟨hs, st, f, v, rfl, f0, f1⟩
      have f2 : f < 10 ^ 56 := f1
      walk_at "g"
      refine ⟨p, 2, rfl, by decide, by decide, st, fun z H2 z0 z1 st2 s2 => ?_⟩
      walk_at "g"
      have e : z = 0 ∨ z = 1 := by omega
      refine k _ H2 ?_ st2 (hs.trans s2)
      rcases e with rfl | rfl <;> omega

def powL (p : Nat) (b : Int) (i : Nat) : List Int := (List.range i).map fun j => M.pw p b j
theorem powL_more (p : Nat) (b : Int) (i : Nat) : powL p b (i + 1) = powL p b i ++ [M.pw p b i] := by unfold powL; rw [List.range_succ, List.map_append]; rfl
theorem powL_len (p : Nat) (b : Int) (i : Nat) : (powL p b i).length = i := by unfold powL; rw [List.length_map, List.length_range]
theorem eqV_int (a b : Int) : eqV (.int a) (.int b) = decide (a = b) := by simp only [eqV]; by_cases h : a = b <;> simp [h]
/-- _law_powers(p, b): the powers below the order, a new list -/
def sp__law_powers : Sp := fun vs H Q _ => ∃ (p e : Nat) (b : Int), vs = [.int p, .int b] ∧ M.Prime p ∧ p ≤ 1000000 ∧ b.natAbs < 2 ^ 900 ∧ M.Ord p b e ∧ ∀ F H', H F = none → H' F = some (.lst ((powL p b e).map V.int)) → Same H H' → Q (.ref F) H'
theorem ok__law_powers (T : Txt K mg) : FnOk P w K mg base CX0 1 (He.ga K "_law_powers") (fd__law_powers T) ["_law_p", "_law_b"] sp__law_powers := by
  refine (F__law_powers T).ok sc__law_powers (fun vs H Q E h => ?_) (fun cdv A outer s H vs Q E hr h => ⟨_, PSs.nox (pss_cons (ps_set (i := 2) sc__law_powers.nd rfl (Or.inl rfl) (pe_lst (pa_cons pe_int pa_nil)))
      (pss_cons (ps_while PassesOwn.never (pt_cmpR op_ne (pe_op op_mod (pe_op op_mulW (pe_ix ix_seq (pv 2) (pe_un un_neg pe_int) (fun _ _ => rfl)) (pv 1)) (pv 0)) pe_int (nomark _)) (pss_one (ps_expr (pe_bm PySem.F.plainAttrs_list PySem.F.slot_list_append PySem.F.type_list_append mt_append (pv 2) (pa_cons (pe_op op_mod (pe_op op_mulW (pe_ix ix_seq (pv 2) (pe_un un_neg pe_int) (fun _ _ => rfl)) (pv 1)) (pv 0)) pa_nil)))))
      (pss_one (ps_ret (pv 2))))), ?_⟩)
  · obtain ⟨p, e, b, rfl, _⟩ := h; rfl
  · obtain ⟨p, e, b, rfl, hp, hpb, hbb, ho, k⟩ := h
    have hp2 := hp.1
    have e0 := ho.pos
    have hed := ho.dvd hp (M.fermat hp (ho.unit hp))
    have hele := Nat.le_of_dvd (by omega) hed
    have p0 : M.pw p b 0 = 1 := by unfold M.pw; rw [Int.pow_zero, Int.emod_eq_of_lt (by decide) (by omega)]
    walk_at "g"
    refine mkL (by simp) fun l H1 nl el s1 => ?_
    walk_at "g"
    refine s_while (fun σ H' => Same H H' ∧ ∃ i : Nat, σ = [some (.int p), some (.int b), some (.ref l)] ∧ H' l = some (.lst ((powL p b (i + 1)).map V.int)) ∧ i + 1 ≤ e) (fun σ H' => e - (match H' l with | some (.lst xs) => xs.length | _ => 0)) ⟨s1, 0, rfl, by rw [el]; unfold powL; rw [List.range_succ]; simp [p0], e0⟩ ?_
    rintro σ H2 ⟨s2, i, rfl, el2, hi⟩
    have hr := M.pw_range (n := (p : Int)) (by omega) b i
    have hlast : ((powL p b (i + 1)).map V.int).getLast? = some (.int (M.pw p b i)) := by rw [powL_more, List.map_append]; exact List.getLast?_concat ..
    have hmul : M.pw p b i * b % p = M.pw p b (i + 1) := by
      unfold M.pw
      rw [Int.mul_emod, Int.emod_emod_of_dvd _ (Int.dvd_refl _), ← Int.mul_emod, Int.pow_succ]
    walk_at "g"
    refine s_ixL (SqL.of el2) (atI_neg1 hlast) ?_
    walk_at "g"
    try refine s_i (mulW (by omega) (by omega)) ?_
    walk_at "g"
    refine s_i (by omega) ?_
    rw [hmul]
    walk_at "g"
    refine s_iten (fun c => ?_) (fun c => ?_)
    · have hlt : i + 1 < e := by
        rcases Nat.lt_or_ge (i + 1) e with z | z
        · exact z
        · have : i + 1 = e := by omega
          rw [this] at c
          exact absurd ((M.pw_one_iff hp2).mpr ho.one) c
      walk_at "g"
      refine ⟨s_tyL el2, ?_⟩
      walk_at "g"
      refine s_ixL (SqL.of el2) (atI_neg1 hlast) ?_
      walk_at "g"
      try refine s_i (mulW (by omega) (by omega)) ?_
      walk_at "g"
      refine s_i (by omega) ?_
      rw [hmul]
      walk_at "g"
      refine s_append el2 (line2 (by rw [List.length_map, powL_len]; omega)) ?_
      walk_at "g"
      refine ⟨⟨same_upd' s2 nl, i + 1, rfl, by rw [upd_same, powL_more _ _ (i + 1), List.map_append]; rfl, hlt⟩, ?_⟩
      rw [upd_same, el2]
      simp only [List.length_append, List.length_map, powL_len, List.length_cons, List.length_nil]
      omega
    · have h1 := (M.pw_one_iff hp2).mp c
      have he : i + 1 = e := by
        have := ho.least (i + 1) (by omega) h1
        omega
      rw [he] at el2
      walk_at "g"
      exact k l H2 nl el2 s2

/-- _law_parted(n), n to 250, by all numbers from 2 on -/
def sp__law_parted : Sp := fun vs H Q _ => ∃ n : Nat, vs = [.int n] ∧ 0 < n ∧ n < 2 ^ 200 ∧ ∀ p H' xs l, M.IsFac n l → H p = none → Same H H' → H' p = some (.lst xs) → TupsIn H' xs (l.map fun x => [V.int (x.1 : Nat), V.int (x.2 : Nat)]) → Q (.ref p) H'
theorem ok__law_parted (T : Txt K mg) : FnOk P w K mg base CX0 1 (He.ga K "_law_parted") (fd__law_parted T) ["_law_n"] sp__law_parted := by
  refine (F__law_parted T).ok sc__law_parted (fun vs H Q E h => ?_) (fun cdv A outer s H vs Q E hr h => ⟨_, PSs.nox (pss_cons (ps_set (i := 1) sc__law_parted.nd rfl (Or.inl rfl) (pe_lst pa_nil))
      (pss_cons (ps_set (i := 2) sc__law_parted.nd rfl (Or.inl rfl) pe_int)
      (pss_cons (ps_while PassesOwn.never (pt_cmpR op_gt (pv 0) pe_int (nomark _)) (pss_cons (ps_set (i := 3) sc__law_parted.nd rfl (Or.inl rfl) pe_int)
      (pss_cons (ps_while PassesOwn.never (pt_cmpR op_eq (pe_op op_mod (pv 0) (pv 2)) pe_int (nomark _)) (pss_cons (ps_set (i := 0) sc__law_parted.nd rfl (Or.inl rfl) (pe_op op_fdivW (pv 0) (pv 2)))
      (pss_one (ps_set (i := 3) sc__law_parted.nd rfl (Or.inl rfl) (pe_op op_add (pv 3) pe_int)))))
      (pss_cons (ps_if (pt_cmpR op_gt (pv 3) pe_int (nomark _)) (pss_one (ps_expr (pe_bm PySem.F.plainAttrs_list PySem.F.slot_list_append PySem.F.type_list_append mt_append (pv 1) (pa_cons (pe_tup (pa_cons (pv 2) (pa_cons (pv 3) pa_nil))) pa_nil)))) pss_nil)
      (pss_one (ps_set (i := 2) sc__law_parted.nd rfl (Or.inl rfl) (pe_op op_add (pv 2) pe_int)))))))
      (pss_one (ps_ret (pv 1)))))), ?_⟩)
  · obtain ⟨n, rfl, _⟩ := h; rfl
  · obtain ⟨n0, rfl, h0, hn, k⟩ := h
    walk_at "g"
    refine mkL (by simp) fun p H1 np e1 s1 => ?_
    walk_at "g"
    refine s_while (fun σ H' => Same H H' ∧ ∃ (n d : Nat) (v : Option V) (xs : List V) (l : List (Nat × Nat)), σ = [some (.int n), some (.ref p), some (.int d), v] ∧ H' p = some (.lst xs) ∧ TupsIn H' xs (l.map fun x => [V.int (x.1 : Nat), V.int (x.2 : Nat)]) ∧ M.Fac n0 l n d ∧ d ≤ n0 + 2)
      (fun σ _ => n0 + 3 - (iv σ 2).toNat) ⟨s1, n0, 2, none, [], [], rfl, e1, .nil, M.fac_start h0, by omega⟩ ?_
    rintro σ H' ⟨hs, n, d, v, xs, l, rfl, hp, ht, fac, hdn0⟩
    have hxl : xs.length = l.length := by rw [ht.length, List.length_map]
    have hll := fac_len fac hn
    have hnl := fac_rest fac
    walk_at "g"
    refine s_ite (fun c => ?_) (fun c => ?_)
    · have hn1 : 1 < n := by omega
      have hdn := M.fac_le fac hn1
      have hd2 := fac.dtwo
      walk_at "g"
      refine s_while (fun σ' H3 => H3 = H' ∧ ∃ m k : Nat, σ' = [some (.int m), some (.ref p), some (.int d), some (.int k)] ∧ n = d ^ k * m ∧ 0 < m) (fun σ _ => (iv σ 0).toNat) ⟨rfl, n, 0, rfl, by simp, by omega⟩ ?_
      rintro σ' H3 ⟨rfl, m, j, rfl, em, m0⟩
      have hml : m ≤ n := by rw [em]; exact Nat.le_mul_of_pos_left _ (Nat.pow_pos (by omega))
      walk_at "g"
      refine s_i (by omega) ?_
      walk_at "g"
      refine s_ite (fun c2 => ?_) (fun c2 => ?_)
      · have hdm : d ∣ m := Int.natCast_dvd_natCast.mp (Int.dvd_of_emod_eq_zero c2)
        obtain ⟨m', rfl⟩ := hdm
        have e3 : ((d * m' : Nat) : Int) / (d : Int) = (m' : Int) := by
          push_cast
          exact Int.mul_ediv_cancel_left _ (by omega)
        walk_at "g"
        refine s_i (divW (by omega) (by omega)) ?_
        walk_at "g"
        rw [e3]
        have m0' : 0 < m' := Nat.pos_of_ne_zero fun z => by rw [z] at m0; omega
        have : 2 * m' ≤ d * m' := Nat.mul_le_mul_right m' hd2
        refine ⟨⟨rfl, m', j + 1, rfl, by rw [em, Nat.pow_succ]; grind, m0'⟩, ?_⟩
        show (m' : Int).toNat < ((d * m' : Nat) : Int).toNat
        omega
      · have hdm : ¬ d ∣ m := fun z => c2 (Int.emod_eq_zero_of_dvd (Int.natCast_dvd_natCast.mpr z))
        have stp := M.fac_step fac em hdm
        have dec : n0 + 3 - ((d : Int) + 1).toNat < n0 + 3 - (d : Int).toNat := by omega
        walk_at "g"
        refine s_ite (fun c3 => ?_) (fun c3 => ?_)
        · rw [if_pos (by omega)] at stp
          walk_at "g"
          refine ⟨s_tyL hp, ?_⟩
          walk_at "g"
          refine mkT (by simp) fun t H4 nt et s4 => ?_
          walk_at "g"
          refine s_append (s4 _ _ hp) (small1000 (by omega)) ?_
          walk_at "g"
          refine ⟨⟨same_upd' (hs.trans s4) np, m, d + 1, _, xs ++ [.ref t], l ++ [(d, j)], by push_cast; rfl, upd_same, ?_, stp, by omega⟩, dec⟩
          rw [List.map_append]
          exact TupsIn.app hp ht s4 nt et
        · rw [if_neg (by omega)] at stp
          walk_at "g"
          exact ⟨⟨hs, m, d + 1, _, xs, l, by push_cast; rfl, hp, ht, stp, by omega⟩, dec⟩
    · walk_at "g"
      exact k p H' xs l (M.fac_end fac (by omega)) np hs hp ht

/-- numbers, each with how often, as the entries of a dict -/
def pKv (L : List (Nat × Nat)) : List (Key × V) := L.map fun x => ((.inl (x.1 : Int) : Key), V.int (x.2 : Nat))
def cur : List (Nat × Nat) → Nat → Nat
  | [], _ => 0
  | x :: L, q => if x.1 = q then x.2 else cur L q
theorem key_ne {a b : Nat} (h : a ≠ b) : ¬ ((Sum.inl (a : Int) : Key) = Sum.inl (b : Int)) := fun z => h (by
  have := Sum.inl.inj z
  omega)
theorem pk_get (q : Nat) : ∀ L : List (Nat × Nat), (valV (pKv L) (.inl (q : Int))).getD (.int 0) = V.int (cur L q : Nat)
  | [] => rfl
  | x :: L => by
    have ih := pk_get q L
    unfold pKv valV at ih ⊢
    rw [List.map_cons, List.find?_cons]
    unfold cur
    by_cases c : x.1 = q
    · rw [if_pos c]
      simp [c]
    · rw [if_neg c]
      have h1 : decide ((Sum.inl (x.1 : Int) : Key) = Sum.inl (q : Int)) = false := decide_eq_false (key_ne c)
      simp only [h1]
      exact ih
theorem pk_val {L : List (Nat × Nat)} {q b : Nat} (nd : (L.map (·.1)).Nodup) (h : (q, b) ∈ L) : valV (pKv L) (.inl (q : Int)) = some (.int (b : Nat)) ∧ cur L q = b := by
  induction L with
  | nil => cases h
  | cons x L ih =>
    have nd' := List.nodup_cons.mp (by rw [List.map_cons] at nd; exact nd)
    unfold pKv valV cur
    rw [List.map_cons, List.find?_cons]
    rcases List.mem_cons.mp h with e | e
    · subst e
      simp
    · have hne : x.1 ≠ q := fun z => nd'.1 (List.mem_map.mpr ⟨_, e, z.symm⟩)
      have h1 : decide ((Sum.inl (x.1 : Int) : Key) = Sum.inl (q : Int)) = false := decide_eq_false (key_ne hne)
      simp only [h1]
      rw [if_neg hne]
      exact ih nd'.2 e
theorem cur_none {L : List (Nat × Nat)} {q : Nat} (h : q ∉ L.map (·.1)) : cur L q = 0 := by
  induction L with
  | nil => rfl
  | cons x L ih =>
    rw [List.map_cons, List.mem_cons] at h
    unfold cur
    rw [if_neg fun z => h (.inl z.symm)]
    exact ih fun z => h (.inr z)
theorem pk_none {L : List (Nat × Nat)} {q : Nat} (h : q ∉ L.map (·.1)) : valV (pKv L) (.inl (q : Int)) = none := by
  unfold valV pKv
  rw [Option.map_eq_none_iff, List.find?_eq_none]
  intro kv hkv
  obtain ⟨x, hx, rfl⟩ := List.mem_map.mp hkv
  intro e
  have e1 : (Sum.inl (x.1 : Int) : Key) = Sum.inl (q : Int) := of_decide_eq_true e
  have e2 := Sum.inl.inj e1
  exact h (List.mem_map.mpr ⟨x, hx, by omega⟩)
/-- the list behind a put -/
def pkPut (L : List (Nat × Nat)) (q m : Nat) : List (Nat × Nat) := if q ∈ L.map (·.1) then L.map fun x => if x.1 = q then (q, m) else x else L ++ [(q, m)]
theorem pk_put {L : List (Nat × Nat)} (q m : Nat) : putK (pKv L) (.inl (q : Int)) (.int (m : Nat)) = pKv (pkPut L q m) := by
  unfold pkPut
  by_cases c : q ∈ L.map (·.1)
  · rw [if_pos c]
    obtain ⟨y, hy, rfl⟩ := List.mem_map.mp c
    unfold putK
    rw [if_pos (by
      rw [List.any_eq_true]
      exact ⟨_, List.mem_map.mpr ⟨y, hy, rfl⟩, by simp⟩)]
    unfold pKv
    rw [List.map_map, List.map_map]
    refine List.map_congr_left fun k hk => ?_
    by_cases d : k.1 = y.1
    · simp [d]
    · simp only [Function.comp, if_neg d, if_neg (key_ne d)]
  · rw [if_neg c, putK_new _ (pk_none c)]
    unfold pKv
    rw [List.map_append]; rfl
theorem pk_keys {L : List (Nat × Nat)} {q m : Nat} (c : q ∈ L.map (·.1)) : (L.map fun x => if x.1 = q then (q, m) else x).map (·.1) = L.map (·.1) := by
  rw [List.map_map]
  refine List.map_congr_left fun x _ => ?_
  show (if x.1 = q then (q, m) else x).1 = x.1
  split
  · rename_i h; exact h.symm
  · rfl
theorem pk_nd {L : List (Nat × Nat)} (q m : Nat) (nd : (L.map (·.1)).Nodup) : ((pkPut L q m).map (·.1)).Nodup := by
  unfold pkPut
  by_cases c : q ∈ L.map (·.1)
  · rw [if_pos c, pk_keys c]; exact nd
  · rw [if_neg c, List.map_append]
    exact List.nodup_append.mpr ⟨nd, List.pairwise_singleton _ _, fun a ha b hb => by rw [List.mem_singleton.mp hb]; exact fun z => c (by rw [← show a = q from z]; exact ha)⟩
theorem pk_mem {L : List (Nat × Nat)} {q m : Nat} {x : Nat × Nat} (h : x ∈ pkPut L q m) : x = (q, m) ∨ x ∈ L ∧ x.1 ≠ q := by
  unfold pkPut at h
  by_cases c : q ∈ L.map (·.1)
  · rw [if_pos c] at h
    obtain ⟨y, hy, rfl⟩ := List.mem_map.mp h
    by_cases d : y.1 = q
    · rw [if_pos d]; exact .inl rfl
    · rw [if_neg d]; exact .inr ⟨hy, d⟩
  · rw [if_neg c] at h
    rcases List.mem_append.mp h with z | z
    · exact .inr ⟨z, fun e => c (List.mem_map.mpr ⟨x, z, e⟩)⟩
    · exact .inl (List.mem_singleton.mp z)
theorem pk_has {L : List (Nat × Nat)} (q m : Nat) : (q, m) ∈ pkPut L q m := by
  unfold pkPut
  by_cases c : q ∈ L.map (·.1)
  · rw [if_pos c]
    obtain ⟨y, hy, e⟩ := List.mem_map.mp c
    exact List.mem_map.mpr ⟨y, hy, by rw [if_pos e]⟩
  · rw [if_neg c]; simp
theorem pk_old {L : List (Nat × Nat)} {q m : Nat} {x : Nat × Nat} (h : x ∈ L) (hx : x.1 ≠ q) : x ∈ pkPut L q m := by
  unfold pkPut
  by_cases c : q ∈ L.map (·.1)
  · rw [if_pos c]
    exact List.mem_map.mpr ⟨x, h, by rw [if_neg hx]⟩
  · rw [if_neg c]; simp [h]
theorem pk_len {L : List (Nat × Nat)} (q m : Nat) : (pkPut L q m).length ≤ L.length + 1 := by
  unfold pkPut
  split
  · rw [List.length_map]; omega
  · rw [List.length_append]; simp
theorem pk_prod {L : List (Nat × Nat)} {q t : Nat} (nd : (L.map (·.1)).Nodup) : M.prodL (pkPut L q (cur L q + t)) = M.prodL L * q ^ t := by
  unfold pkPut
  by_cases c : q ∈ L.map (·.1)
  · rw [if_pos c]
    induction L with
    | nil => cases c
    | cons x L ih =>
      have nd' := List.nodup_cons.mp (by rw [List.map_cons] at nd; exact nd)
      rw [List.map_cons]
      unfold cur
      by_cases d : x.1 = q
      · rw [if_pos d, if_pos d]
        have hno : q ∉ L.map (·.1) := by rw [← d]; exact nd'.1
        have e : (L.map fun y => if y.1 = q then (q, x.2 + t) else y) = L := (List.map_congr_left fun y hy => by rw [if_neg fun z => hno (List.mem_map.mpr ⟨y, hy, z⟩)]; rfl).trans (List.map_id _)
        rw [e]
        simp only [M.prodL]
        rw [d, Nat.pow_add]
        grind
      · rw [if_neg d, if_neg d]
        rw [List.map_cons, List.mem_cons] at c
        have ih' := ih nd'.2 (c.resolve_left fun z => d z.symm)
        simp only [M.prodL]
        rw [ih', Nat.mul_assoc]
  · rw [if_neg c, cur_none c, M.prodL_app]
    simp [M.prodL]
theorem pk_merge : ∀ (B A : List (Nat × Nat)), ((A ++ B).map (·.1)).Nodup → mergeK (pKv A) (pKv B) = pKv (A ++ B)
  | [], A, _ => by rw [List.append_nil]; rfl
  | x :: B, A, nd => by
    have hx : x.1 ∉ A.map (·.1) := fun z => by
      rw [List.map_append, List.map_cons] at nd
      exact (List.nodup_append.mp nd).2.2 x.1 z x.1 (by simp) rfl
    have e1 : mergeK (pKv A) (pKv (x :: B)) = mergeK (putK (pKv A) (.inl (x.1 : Int)) (.int (x.2 : Nat))) (pKv B) := rfl
    rw [e1, putK_new _ (pk_none hx)]
    have e2 : pKv A ++ [((.inl (x.1 : Int) : Key), V.int (x.2 : Nat))] = pKv (A ++ [x]) := by unfold pKv; rw [List.map_append]; rfl
    rw [e2, pk_merge B (A ++ [x]) (by rw [List.append_assoc]; exact nd), List.append_assoc]; rfl
theorem pk_sort {L : List (Nat × Nat)} {qs : List Nat} (nd : (L.map (·.1)).Nodup) (pm : qs.Perm (L.map (·.1))) : (qs.map fun q => (q, cur L q)).Perm L := by
  have h1 : L.map (fun x => (x.1, cur L x.1)) = L := (List.map_congr_left fun x hx => by rw [(pk_val nd (q := x.1) (b := x.2) hx).2]; rfl).trans (List.map_id _)
  have h2 := pm.map fun q => (q, cur L q)
  rw [List.map_map] at h2
  have h3 : L.map ((fun q => (q, cur L q)) ∘ fun x => x.1) = L.map (fun x => (x.1, cur L x.1)) := rfl
  rw [h3, h1] at h2
  exact h2

/-- numbers, each with a truth, as the entries of a dict -/
def trKv (L : List Nat) : List (Key × V) := L.map fun d : Nat => ((.inl (d : Int) : Key), V.bl true)
theorem tr_put {L : List Nat} (o : Nat) (nd : L.Nodup) : ∃ L' : List Nat, putK (trKv L) (.inl (o : Int)) (.bl true) = trKv L' ∧ L'.Nodup ∧ (∀ z, z ∈ L' ↔ z ∈ L ∨ z = o) ∧ L'.length ≤ L.length + 1 := by
  by_cases c : o ∈ L
  · refine ⟨L, ?_, nd, fun z => ⟨.inl, fun h => h.elim id fun e => e ▸ c⟩, by omega⟩
    unfold putK
    rw [if_pos (by
      rw [List.any_eq_true]
      exact ⟨_, List.mem_map.mpr ⟨o, c, rfl⟩, by simp⟩)]
    unfold trKv
    rw [List.map_map]
    refine List.map_congr_left fun k hk => ?_
    show (if (Sum.inl (k : Int) : Key) = Sum.inl (o : Int) then ((Sum.inl (k : Int) : Key), V.bl true) else ((Sum.inl (k : Int) : Key), V.bl true)) = _
    split <;> rfl
  · refine ⟨L ++ [o], ?_, ?_, fun z => by rw [List.mem_append, List.mem_singleton], by rw [List.length_append]; simp⟩
    · have hv : valV (trKv L) (.inl (o : Int)) = none := by
        unfold valV trKv
        rw [Option.map_eq_none_iff, List.find?_eq_none]
        intro kv hkv
        obtain ⟨x, hx, rfl⟩ := List.mem_map.mp hkv
        intro e
        have e1 : (Sum.inl (x : Int) : Key) = Sum.inl (o : Int) := of_decide_eq_true e
        have e2 := Sum.inl.inj e1
        exact c (by rw [show o = x by omega]; exact hx)
      rw [putK_new _ hv]
      unfold trKv
      rw [List.map_append]; rfl
    · exact List.nodup_append.mpr ⟨nd, List.pairwise_singleton _ _, fun a ha b hb => by rw [List.mem_singleton.mp hb]; exact fun z => c (by rw [← z]; exact ha)⟩
theorem mkDN {σ : L2.St} {H : Hp} {Q : VK} (h : ∀ p H', H p = none → H' p = some (.dK []) → Same H H' → Q (.ref p) H') : tDNewK σ H Q := fun p hp => h p _ hp upd_same (same_upd hp)

/-- a prime's paper as a datum of tuples, by any full number -/
def PD (n : Nat) (H : Hp) (v : V) (p : Nat) : Prop := ∃ d, Tu H v d ∧ Bd (3 * n) d ∧ IsPap d ∧ pOf d = p
theorem PD.same {n : Nat} {H H' : Hp} {v : V} {p : Nat} (h : PD n H v p) (s : Same H H') : PD n H' v p := by
  obtain ⟨d, h1, h2⟩ := h
  exact ⟨d, h1.same s, h2⟩
/-- _law_paper(p, at): a paper of the prime by some full number -/
def sp__law_paper (n : Nat) : Sp := fun vs H Q _ => ∃ (p k : Nat) (a : Int), vs = [.int p, .int a] ∧ M.Prime p ∧ p ≤ 2 ^ k ∧ k ≤ n ∧ p ≤ 1000 ∧ 0 ≤ a ∧ ∀ t H', PD (k + 1) H' (.ref t) p → Same H H' → Q (.ref t) H'
theorem ok_paperS (T : Txt K mg) {n : Nat} (IH : FnOk P w K mg base CX0 (n + 2) (He.ga K "_law_paper") (fd__law_paper T) ["_law_p", "_law_at"] (sp__law_paper n)) : FnOk P w K mg base CX0 (n + 3) (He.ga K "_law_paper") (fd__law_paper T) ["_law_p", "_law_at"] (sp__law_paper (n + 1)) := by
  refine (F__law_paper T).ok sc__law_paper (fun vs H Q E h => ?_) (fun cdv A outer s H vs Q E hr h => ⟨_, PSs.nox (pss_cons ((ps_setLc (i := 2) (own := [("_law_full", 3)]) rfl sc__law_paper.nd rfl rfl (sw_true rfl rfl rfl rfl) (pi_range2 rfl (T.fr (T.c.fact 57 rfl)) (pa_cons pe_int (pa_cons (pv 0) pa_nil))) (blkOk_by (N := N__law_paper) (sc := defScope s__law_paper) (by decide +kernel)) (fun _ _ _ _ _ => (pg_name (i := 3) sc__law_paper.nd rfl (Or.inl rfl))) (fun _ _ _ _ _ => (pts_one (pt_cmpR op_eq (pe_callB (callLenK K rfl) rfl (T.fr (T.c.fact 56 rfl)) boot_len (pa_cons (pe_call (ok__law_powers T) (hr.mono (by omega)) rfl (g__law_powers T) (kp__law_powers T) (B__law_powers T) .nil pass0 (pa_cons (pv 0) (pa_cons (pv 3) pa_nil))) pa_nil)) (pe_op op_sub (pv 0) pe_int) (nomark _)))) (fun _ _ _ _ _ => (pv 3))))
      (pss_one (ps_ret (pe_tup (pa_cons (pv 0) (pa_cons (pe_ix ix_seq (pv 2) (pe_op op_mod (pv 1) (pe_callB callLen rfl (T.fr (T.c.fact 56 rfl)) boot_len (pa_cons (pv 2) pa_nil))) (fun _ _ => rfl)) (pa_cons (pe_callTy callTup rfl (T.fr (T.c.fact 55 rfl)) boot_tuple (pa_cons (pe_lc (own := [("_law_q", 4), ("_law_many", 5)]) (tt := tYes) (g := gTup K 2 (gCons (gName 4) (gCons (gName 5) gNil))) rfl sc__law_paper.nd (pi_list (pe_call (ok__law_parted T) (hr.mono (by omega)) rfl (g__law_parted T) (kp__law_parted T) (B__law_parted T) .nil pass0 (pa_cons (pe_op op_sub (pv 0) pe_int) pa_nil))) (blkOk_by (N := N__law_paper) (sc := defScope s__law_paper) (by decide +kernel)) (fun _ _ _ _ _ => (pg_tup rfl (pgs_cons (pg_name (i := 4) sc__law_paper.nd rfl (Or.inl rfl)) (pgs_cons (pg_name (i := 5) sc__law_paper.nd rfl (Or.inl rfl)) pgs_nil)))) (fun _ _ _ _ _ => pts_nil) (fun _ _ _ _ _ => (pe_tup (pa_cons (pe_call (IH) (hr.mono (by omega)) rfl (g__law_paper T) (kp__law_paper T) (B__law_paper T) .nil pass0 (pa_cons (pv 4) (pa_cons (pv 1) pa_nil))) (pa_cons (pv 5) pa_nil))))) pa_nil)) pa_nil))))))), ?_⟩)
  · obtain ⟨p, k, a, rfl, _⟩ := h; rfl
  · obtain ⟨p, kk, a, rfl, hp, hpk, hkn, hpb, ha, k⟩ := h
    have hp2 := hp.1
    obtain ⟨kk, rfl⟩ : ∃ j, kk = j + 1 := by
      cases kk with
      | zero => simp at hpk; omega
      | succ j => exact ⟨j, rfl⟩
    have e1 : (p : Int) - 1 = ((p - 1 : Nat) : Int) := by omega
    obtain ⟨g, g0, g1, gf⟩ := M.full_small hp
    walk_at "g"
    refine s_lc ?_
    walk_at "g"
    refine mkR2 (p - 1) (by omega) (by omega) ?_
    refine fun D hD => ?_
    refine lc_range (n := p - 1) (fun i H' => Same H H' ∧ ∃ fl : List Nat, H' D = some (.lst (nv fl)) ∧ fl.length ≤ i ∧ (∀ f ∈ fl, 1 ≤ f ∧ f < p ∧ M.Ord p (f : Int) (p - 1)) ∧ ∀ f : Nat, 1 ≤ f → f < i + 1 → M.Ord p (f : Int) (p - 1) → f ∈ fl) ⟨same_upd hD, [], upd_same, by simp, by simp, fun f h1 h2 => by omega⟩ ?_ ?_
    · rintro i H1 hi ⟨s1, fl, eD, hfl, hall, hin⟩
      have e2 : (1 : Int) + (i : Int) = ((i + 1 : Nat) : Int) := by omega
      rw [e2]
      have hun : M.un p ((i + 1 : Nat) : Int) := M.un_small (by omega) (by omega)
      obtain ⟨o, ho⟩ := M.exists_ord hp hun
      have hole := ho.le hp hun
      walk_at "g"
      refine ⟨rfl, ?_⟩
      walk_at "g"
      refine ⟨p, o, _, rfl, hp, by omega, by omega, ho, fun Z HZ nZ eZ sZ => ?_⟩
      walk_at "g"
      refine s_lenL (SqL.of eZ) ?_
      rw [List.length_map, powL_len]
      walk_at "g"
      refine s_ite (fun c => ?_) (fun c => ?_)
      · have ho' : o = p - 1 := by omega
        subst ho'
        walk_at "g"
        refine ⟨_, sZ _ _ eD, line2 (by rw [nv_len]; omega), same_upd' (s1.trans sZ) hD, fl ++ [i + 1], by rw [upd_same, nv_app]; rfl, by rw [List.length_append]; simp; omega, fun f hf => ?_, fun f h1 h2 h3 => ?_⟩
        · rcases List.mem_append.mp hf with z | z
          · exact hall f z
          · rw [List.mem_singleton.mp z]; exact ⟨by omega, by omega, ho⟩
        · rcases Nat.lt_or_ge f (i + 1) with z | z
          · exact List.mem_append_left _ (hin f h1 z h3)
          · exact List.mem_append_right _ (List.mem_singleton.mpr (by omega))
      · walk_at "g"
        refine ⟨s1.trans sZ, fl, sZ _ _ eD, by omega, hall, fun f h1 h2 h3 => ?_⟩
        rcases Nat.lt_or_ge f (i + 1) with z | z
        · exact hin f h1 z h3
        · have : f = i + 1 := by omega
          subst this
          have := ho.uniqueN h3
          omega
    rintro H1 ⟨s1, fl, eD, hfl, hall, hin⟩
    have hgm := hin g (by omega) (by omega) gf
    have hl0 := List.length_pos_of_mem hgm
    walk_at "g"
    refine s_lenL (SqL.of eD) ?_
    rw [nv_len]
    walk_at "g"
    refine s_i (by omega) ?_
    have r0 := Int.emod_nonneg a (show (fl.length : Int) ≠ 0 by omega)
    have r1 := Int.emod_lt_of_pos a (show (0 : Int) < (fl.length : Int) by omega)
    obtain ⟨j, hj⟩ := Int.eq_ofNat_of_zero_le r0
    have hjl : j < fl.length := by omega
    have hfj := hall _ (List.getElem_mem hjl)
    have hjx : (nv fl)[j]? = some (.int (fl[j] : Nat)) := by unfold nv; rw [List.getElem?_map, List.getElem?_map, List.getElem?_eq_getElem hjl]; rfl
    generalize fl[j] = f at hfj hjx
    obtain ⟨f0, f1, hof⟩ := hfj
    walk_at "g"
    refine s_ixL (SqL.of eD) (atI0 j hj hjx) ?_
    walk_at "g"
    refine s_lc ?_
    walk_at "g"
    refine ⟨p - 1, by rw [e1]; rfl, by omega, by omega, fun q H2 xs l hl nq s2 hq ht => ?_⟩
    have hxl : xs.length = l.length := by rw [ht.length, List.length_map]
    have hll : l.length ≤ 200 := by
      obtain ⟨d, hd⟩ := M.Fac.of hl (by omega)
      exact fac_len hd (by omega)
    walk_at "g"
    refine ⟨⟨_, SqL.of hq⟩, fun D2 hD2' => ?_⟩
    refine lc_list (fun i H3 => Same H2 H3 ∧ ∃ (ys : List V) (ds : List PyData), H3 D2 = some (.lst ys) ∧ DaL (fun _ => False) H3 ys ds ∧ (∀ d ∈ ds, Bd (3 * (kk + 1) + 1) d) ∧ facD ds = l.take i ∧ (∀ d ∈ ds, IsPap (papOf d)) ∧ (∀ d ∈ ds, ∃ pap b, 1 ≤ b ∧ d = .tuple [pap, .int (b : Nat)])) ⟨same_upd hD2', [], [], upd_same, .nil, by simp, by rw [List.take_zero]; rfl, by simp, by simp⟩ (fun i H3 _ I => SqL.of (I.1 _ _ hq)) ?_ ?_
    · rintro i x H3 hi ⟨s3, ys, ds, hD3', hds, hbd, hfac, hpap, hform⟩
      have hil : i < xs.length := (List.getElem?_eq_some_iff.mp hi).1
      obtain ⟨y, hy, t, rfl, et⟩ := pget ht hi
      rw [List.getElem?_map] at hy
      obtain ⟨⟨a', b⟩, hab, rfl⟩ := Option.map_eq_some_iff.mp hy
      have hpa := hl.primes _ (List.mem_of_getElem? hab)
      have hda := M.fac_dvd hl (List.mem_of_getElem? hab)
      have had := Nat.le_of_dvd (by omega) hda
      have hbb : b < 2 ^ 60 := fac_many hl (by omega) (List.mem_of_getElem? hab) (by omega)
      have hdl : ds.length = i := by
        have := congrArg List.length hfac
        unfold facD at this
        rw [List.length_map, List.length_take] at this
        omega
      have hyl := hds.len
      refine s_gtup (SqT.of (s3 _ _ et)) rfl ?_
      walk_at "g"
      refine ⟨rfl, ?_⟩
      walk_at "g"
      refine ⟨a', kk, a, rfl, hpa.1, M.paper_prime hp hpa.1 hda hpk, by omega, Nat.le_trans had (by omega), ha, fun s H4 ⟨d, g1, g2, g3, g4⟩ s4 => ?_⟩
      walk_at "g"
      refine mkT (by simp) fun t2 H5 nt2 et2 s5 => ?_
      have s35 := s4.trans s5
      have hnew : DaL (fun _ => False) H5 [.ref t2] [.tuple [d, .int (b : Nat)]] := .cons (.tup et2 (.cons (g1.same s5) (.cons (.int _) .nil))) .nil
      refine ⟨ys, s35 _ _ hD3', small1000 (by omega), same_upd' (s3.trans s35) hD2', ys ++ [.ref t2], ds ++ [.tuple [d, .int (b : Nat)]], upd_same, ?_, fun e he => ?_, ?_, fun e he => ?_, fun e he => ?_⟩
      · exact DaL.upd (s35 _ _ hD3') (fun z => z) (DaL.app hnew (hds.same s35))
      · rcases List.mem_append.mp he with z | z
        · exact hbd e z
        · rw [List.mem_singleton.mp z]
          refine .tup (by simp) fun y hy => ?_
          rcases List.mem_cons.mp hy with z | z
          · subst z; exact g2
          · rw [List.mem_singleton.mp z]; exact .int (by omega)
      · rw [take_more hab, ← hfac]
        unfold facD
        rw [List.map_append]
        congr 1
        show [(pOf d, ((b : Nat) : Int).toNat)] = [(a', b)]
        rw [g4]; rfl
      · rcases List.mem_append.mp he with z | z
        · exact hpap e z
        · rw [List.mem_singleton.mp z]; exact g3
      · rcases List.mem_append.mp he with z | z
        · exact hform e z
        · rw [List.mem_singleton.mp z]; exact ⟨d, b, hpa.2, rfl⟩
    · rintro H3 ⟨s3, ys, ds, hD3', hds, hbd, hfac, hpap, hform⟩
      rw [hxl, List.take_length] at hfac
      have hdl : ds.length = l.length := by
        have := congrArg List.length hfac
        unfold facD at this
        rw [List.length_map] at this
        exact this
      have hyl := hds.len
      walk_at "g"
      refine s_tupL (SqL.of hD3') fun u nu => ?_
      have S4 : Same H3 (upd H3 u (.tup ys)) := same_upd nu
      have e4 : upd H3 u (.tup ys) u = some (.tup ys) := upd_same
      generalize upd H3 u (.tup ys) = H4 at S4 e4 ⊢
      walk_at "g"
      refine mkT (by simp) fun t H5 nt et s5 => ?_
      have hun : M.un p (f : Int) := M.un_small (by omega) (by omega)
      refine k t H5 ⟨.tuple [.int (p : Nat), .int (f : Nat), .tuple ds], .tup et (.cons (.int _) (.cons (.int _) (.cons (.tup (s5 _ _ e4) (hds.same (S4.trans s5))) .nil))), ?_, ?_, rfl⟩ (s1.trans (s2.trans (s3.trans (S4.trans s5))))
      · refine .tup (n := 3 * (kk + 1) + 2) (by simp) fun y hy => ?_
        simp only [List.mem_cons, List.not_mem_nil, or_false] at hy
        rcases hy with z | z | z <;> subst z
        · exact .int (by omega)
        · exact .int (by omega)
        · exact .tup (by omega) hbd
      · refine .mk p f ds hp.1 (by omega) (by omega) hpap hform (by rw [hfac]; exact hl.sorted) (by rw [hfac]; exact hl.prod) ((M.pw_one_iff hp.1).mpr (M.fermat hp hun)) fun d hd => ?_
        exact (M.full_iff hp hun hl).mp hof (qOf d, bOf d) (by rw [← hfac]; exact facD_mem hd)
theorem paperN73 (T : Txt K mg) : ∀ n : Nat, FnOk P w K mg base CX0 (n + 2) (He.ga K "_law_paper") (fd__law_paper T) ["_law_p", "_law_at"] (sp__law_paper n)
  | 0 => ⟨fun vs H Q E ⟨p, k, a, e, hp, h, hk, _⟩ => by have := hp.1; rw [show k = 0 by omega, Nat.pow_zero] at h; omega, fun _ _ _ _ _ _ vs _ _ _ _ _ _ ⟨p, k, a, e, hp, h, hk, _⟩ => by have := hp.1; rw [show k = 0 by omega, Nat.pow_zero] at h; omega⟩
  | n + 1 => ok_paperS T (paperN73 T n)
theorem ok__law_paper (T : Txt K mg) : FnOk P w K mg base CX0 40 (He.ga K "_law_paper") (fd__law_paper T) ["_law_p", "_law_at"] (sp__law_paper 38) := paperN73 T 38

/-- _law_common of two numbers from 0 on: their greatest divisor -/
def sp__law_common : Sp := fun vs H Q _ => ∃ a b : Nat, vs = [.int a, .int b] ∧ Q (.int (Nat.gcd a b)) H
theorem ok__law_common (T : Txt K mg) : FnOk P w K mg base CX0 1 (He.ga K "_law_common") (fd__law_common T) ["_law_one", "_law_other"] sp__law_common := by
  refine (F__law_common T).ok sc__law_common (fun vs H Q E h => ?_) (fun cdv A outer s H vs Q E hr h => ⟨_, PSs.nox (pss_cons (ps_while PassesOwn.never (pt_cmpR op_ne (pv 1) pe_int (nomark _)) (pss_one (ps_par (i := 0) (j := 1) rfl sc__law_common.nd rfl rfl (by decide) rfl rfl (pa_cons (pv 1) (pa_cons (pe_op op_mod (pv 0) (pv 1)) pa_nil)) rfl)))
      (pss_one (ps_ret (pv 0)))), ?_⟩)
  · obtain ⟨a, b, rfl, _⟩ := h; rfl
  · obtain ⟨a, b, rfl, k⟩ := h
    walk_at "g"
    refine s_while (fun σ H' => H' = H ∧ ∃ c d : Nat, σ = [some (.int c), some (.int d)] ∧ Nat.gcd c d = Nat.gcd a b) (fun σ _ => (iv σ 1).natAbs) ⟨rfl, a, b, rfl, rfl⟩ ?_
    rintro σ H' ⟨rfl, c, d, rfl, e⟩
    walk_at "g"
    refine s_iten (fun hd => ?_) (fun hd => ?_)
    · walk_at "g"
      refine s_i (by omega) ?_
      walk_at "g"
      have dp : 0 < d := by omega
      have ml := Nat.mod_lt c dp
      refine ⟨⟨rfl, d, c % d, rfl, ?_⟩, ?_⟩
      · rw [Nat.gcd_comm, ← Nat.gcd_rec, Nat.gcd_comm]; exact e
      · show ((c : Int) % d).natAbs < (d : Int).natAbs
        omega
    · have z : d = 0 := by omega
      subst z
      walk_at "g"
      rw [Nat.gcd_zero_right] at e
      rw [e]
      exact k

def chkP (n : Nat) : Bool := decide (2 ≤ n) && (List.range n).all fun d => decide (d < 2) || !decide (n % d = 0)
theorem prime_chk {n : Nat} (h : chkP n = true) : M.Prime n := by
  unfold chkP at h
  rw [Bool.and_eq_true] at h
  have h2 := of_decide_eq_true h.1
  refine M.prime_of_no h2 fun d h1 hdd h3 => ?_
  have h4 : 2 * d ≤ d * d := Nat.mul_le_mul_right d h1
  have h5 := List.all_eq_true.mp h.2 d (List.mem_range.mpr (by omega))
  rw [Bool.or_eq_true] at h5
  rcases h5 with z | z
  · have := of_decide_eq_true z; omega
  · rw [Bool.not_eq_true', decide_eq_false_iff_not] at z
    exact z (Nat.mod_eq_zero_of_dvd h3)
def some31 : List Int := [2, 3, 5, 7, 11, 13, 17, 19, 23, 29, 31]
theorem some31_pr : ∀ z ∈ some31, ∃ q : Nat, z = (q : Int) ∧ M.Prime q ∧ q ≤ 31 := fun z hz => by
  have h : ∀ z ∈ some31, 0 ≤ z ∧ z ≤ 31 ∧ chkP z.toNat = true := by decide
  obtain ⟨h1, h2, h3⟩ := h z hz
  exact ⟨z.toNat, by omega, prime_chk h3, by omega⟩
/-- _law_primes(state): a new list of one to four primes to 31, rising -/
def sp__law_primes : Sp := fun vs H Q _ => ∃ (s : Addr), vs = [.ref s] ∧ StAt H s ∧ ∀ (L : List Nat) (C : Addr) (H' : Hp), L.Pairwise (· < ·) → (∀ z ∈ L, M.Prime z ∧ z ≤ 31) → L.length ≤ 4 → 0 < L.length → H C = none → H' C = some (.lst (nv L)) → StAt H' s → SameB s H H' → Q (.ref C) H'
theorem ok__law_primes (T : Txt K mg) : FnOk P w K mg base CX0 2 (He.ga K "_law_primes") (fd__law_primes T) ["_law_state_here"] sp__law_primes := by
  refine (F__law_primes T).ok sc__law_primes (fun vs H Q E h => ?_) (fun cdv A outer s H vs Q E hr h => ⟨_, PSs.nox (pss_cons (ps_set (i := 1) sc__law_primes.nd rfl (Or.inl rfl) pe_dnewK)
      (pss_cons (ps_for PassesOwn.never rfl (pi_range1 rfl (T.fr (T.c.fact 57 rfl)) (pa_cons (pe_op op_add pe_int (pe_call (ok__law_take T) (hr.mono (by decide)) rfl (g__law_take T) (kp__law_take T) (B__law_take T) .nil pass0 (pa_cons (pv 0) (pa_cons pe_int pa_nil)))) pa_nil)) (pg_name (i := 2) sc__law_primes.nd rfl (Or.inl rfl)) (pss_one (ps_dput (hu_of hr) (pv 1) (pe_ix ix_seq (pe_lst (pa_cons pe_int (pa_cons pe_int (pa_cons pe_int (pa_cons pe_int (pa_cons pe_int (pa_cons pe_int (pa_cons pe_int (pa_cons pe_int (pa_cons pe_int (pa_cons pe_int (pa_cons pe_int pa_nil)))))))))))) (pe_call (ok__law_take T) (hr.mono (by decide)) rfl (g__law_take T) (kp__law_take T) (B__law_take T) .nil pass0 (pa_cons (pv 0) (pa_cons pe_int pa_nil))) (fun _ _ => rfl)) pe_bl rfl)))
      (pss_one (ps_ret (pe_callB (call_sortedDI rfl) rfl (T.fr (T.c.fact 62 rfl)) boot_sorted (pa_cons (pv 1) pa_nil)))))), ?_⟩)
  · obtain ⟨s, rfl, _⟩ := h; rfl
  · obtain ⟨s, rfl, hst, cont⟩ := h
    have nes : ∀ {l : Addr} {H' : Hp}, H' l = none → StAt H' s → l ≠ s := fun n ⟨_, _, e, _⟩ z => by rw [z, e] at n; cases n
    walk_at "g"
    refine mkDN fun D H0 nD hD s0 => ?_
    have hDs : D ≠ s := nes nD hst
    walk_at "g"
    refine ⟨s, 4, rfl, by decide, by decide, hst.same s0, fun c H2 c0 c1 st2 s2 => ?_⟩
    have S2 : SameB s H H2 := (SameB.of s0).trans s2
    walk_at "g"
    obtain ⟨c, rfl⟩ := Int.eq_ofNat_of_zero_le c0
    refine mkR1 (c + 1) (by omega) (by omega) (by omega) ?_
    refine for_range (n := c + 1) (fun i σ H' => (∃ L : List Nat, H' D = some (.dK (trKv L)) ∧ L.Nodup ∧ (∀ z ∈ L, M.Prime z ∧ z ≤ 31) ∧ L.length ≤ i ∧ (0 < i → 0 < L.length)) ∧ StAt H' s ∧ SameB s H H' ∧ ∃ (v3 : Option V), σ = [some (.ref s), some (.ref D), v3]) ⟨⟨[], s2 _ _ hDs hD, List.Pairwise.nil, by simp, by simp, fun z => absurd z (by decide)⟩, st2, S2, _, rfl⟩ ?_ ?_
    · rintro i σ H3 hi ⟨⟨L, hD3, nd, hL, hll, hpos⟩, st3, S3, v3, rfl⟩
      walk_at "g"
      refine mkL (by simp) fun l0 H4 nl0 el0 s4 => ?_
      have hl0s : l0 ≠ s := nes nl0 st3
      walk_at "g"
      refine ⟨s, 11, rfl, by decide, by decide, st3.same s4, fun z H6 z0 z1 st6 s6 => ?_⟩
      have S6 : SameB s H3 H6 := (SameB.of s4).trans s6
      have nD6 : H6 D = some (.dK (trKv L)) := S6 _ _ hDs hD3
      have el6 : H6 l0 = some (.lst (some31.map V.int)) := s6 _ _ hl0s el0
      walk_at "g"
      refine s_pickN (P := fun z => ∃ q : Nat, z = (q : Int) ∧ M.Prime q ∧ q ≤ 31) some31 el6 ⟨z0, by show z < ((11 : Nat) : Int); omega⟩ some31_pr ?_
      rintro _ ⟨n, rfl, hpn, n9⟩
      obtain ⟨L', e1, e2, e3, e4⟩ := tr_put n nd
      walk_at "g"
      refine s_dputI nD6 (line2 (by unfold trKv; rw [List.length_map]; omega)) ?_
      rw [e1]
      have S9 := (S3.trans S6).updn (o := .dK (trKv L')) nD
      walk_at "g"
      refine ⟨⟨L', upd_same, e2, fun z hz => ?_, by omega, fun _ => List.length_pos_of_mem ((e3 n).mpr (.inr rfl))⟩, ?_, S9, _, rfl⟩
      · rcases (e3 z).mp hz with h | h
        · exact hL z h
        · rw [h]; exact ⟨hpn, n9⟩
      · obtain ⟨x1, x2, x3, x4⟩ := st6
        exact ⟨x1, x2, by rw [upd_ne (Ne.symm hDs)]; exact x3, x4⟩
    · rintro σ H3 ⟨⟨L, hD3, nd, hL, hll, hpos⟩, st3, S3, v3, rfl⟩
      walk_at "g"
      refine ⟨D, _, L.map fun d : Nat => (d : Int), rfl, .inl hD3, by unfold trKv; rw [List.map_map, List.map_map]; rfl, by rw [List.length_map]; omega, fun ys C ypm ysrt nC => ?_⟩
      obtain ⟨ds, rfl, pm, srt⟩ := ints_back ypm ysrt nd
      refine cont ds C _ srt (fun z hz => hL z (pm.mem_iff.mp hz)) (by rw [pm.length_eq]; omega) (by rw [pm.length_eq]; exact hpos (by omega)) ?_ upd_same (st3.same (same_upd nC)) (S3.trans (SameB.of (same_upd nC)))
      cases e : H C with
      | none => rfl
      | some o =>
        have hCs : C ≠ s := nes nC st3
        rw [S3 _ _ hCs e] at nC
        cases nC

theorem coprime_new {L : List Nat} (hs : L.Pairwise (· < ·)) (hp : ∀ z ∈ L, M.Prime z) {i p W : Nat} (hx : L[i]? = some p) (hW : ∀ q, M.Prime q → q ∣ W → q ∈ L.take i) : Nat.gcd W p = 1 := by
  have hpp := hp p (List.mem_of_getElem? hx)
  have hn : ¬ p ∣ W := fun z => by
    have h1 := hW p hpp z
    obtain ⟨j, hj⟩ := List.getElem?_of_mem h1
    have hji : j < i := by have := (List.getElem?_eq_some_iff.mp hj).1; rw [List.length_take] at this; omega
    rw [List.getElem?_take_of_lt hji] at hj
    obtain ⟨a1, a2⟩ := List.getElem?_eq_some_iff.mp hj
    obtain ⟨b1, b2⟩ := List.getElem?_eq_some_iff.mp hx
    have := List.pairwise_iff_getElem.mp hs j i a1 b1 hji
    omega
  rcases hpp.2 _ (Nat.gcd_dvd_right W p) with z | z
  · exact z
  · exact absurd (by have := Nat.gcd_dvd_left W p; rw [z] at this; exact this) hn
/-- _law_alike(primes, b, state): some number -/
def sp__law_alike : Sp := fun vs H Q _ => ∃ (s C : Addr) (L : List Nat) (b : Int), vs = [.ref C, .int b, .ref s] ∧ StAt H s ∧ H C = some (.lst (nv L)) ∧ L.Pairwise (· < ·) ∧ (∀ z ∈ L, M.Prime z ∧ z ≤ 31) ∧ L.length ≤ 4 ∧ 0 < L.length ∧ b.natAbs < 10 ^ 57 ∧ ∀ (z : Int) H', z.natAbs < 2 ^ 100 → StAt H' s → SameB s H H' → Q (.int z) H'
theorem ok__law_alike (T : Txt K mg) : FnOk P w K mg base CX0 2 (He.ga K "_law_alike") (fd__law_alike T) ["_law_primes_here", "_law_b", "_law_state_here"] sp__law_alike := by
  refine (F__law_alike T).ok sc__law_alike (fun vs H Q E h => ?_) (fun cdv A outer s H vs Q E hr h => ⟨_, PSs.nox (pss_cons (ps_set (i := 3) sc__law_alike.nd rfl (Or.inl rfl) (pe_call (ok__law_take T) (hr.mono (by decide)) rfl (g__law_take T) (kp__law_take T) (B__law_take T) .nil pass0 (pa_cons (pv 2) (pa_cons (pe_op op_pow pe_int pe_int) pa_nil))))
      (pss_cons (ps_set (i := 4) sc__law_alike.nd rfl (Or.inl rfl) (pe_op op_mulW (pe_op op_fdivW (pe_call (ok__law_take T) (hr.mono (by decide)) rfl (g__law_take T) (kp__law_take T) (B__law_take T) .nil pass0 (pa_cons (pv 2) (pa_cons pe_int pa_nil))) pe_int) (pe_op op_add pe_int (pe_call (ok__law_take T) (hr.mono (by decide)) rfl (g__law_take T) (kp__law_take T) (B__law_take T) .nil pass0 (pa_cons (pv 2) (pa_cons pe_int pa_nil))))))
      (pss_cons (ps_set (i := 5) sc__law_alike.nd rfl (Or.inl rfl) pe_int)
      (pss_cons (ps_set (i := 6) sc__law_alike.nd rfl (Or.inl rfl) pe_int)
      (pss_cons (ps_for PassesOwn.never rfl (pi_list (pv 0)) (pg_name (i := 7) sc__law_alike.nd rfl (Or.inl rfl)) (pss_cons (ps_set (i := 8) sc__law_alike.nd rfl (Or.inl rfl) pe_int)
      (pss_cons (ps_for PassesOwn.never rfl (pi_range1 rfl (T.fr (T.c.fact 57 rfl)) (pa_cons (pe_op op_mod (pe_op op_add (pv 3) (pe_op op_mulW (pv 4) (pe_callTy callInt1 rfl (T.fr (T.c.fact 53 rfl)) boot_int (pa_cons (pe_cmpR op_eq (pv 7) (pe_ix ix_seq (pv 0) (pe_un un_neg pe_int) (fun _ _ => rfl)) (nomark _)) pa_nil)))) (pe_op op_sub (pv 7) pe_int)) pa_nil)) (pg_name (i := 9) sc__law_alike.nd rfl (Or.inl rfl)) (pss_one (ps_set (i := 8) sc__law_alike.nd rfl (Or.inl rfl) (pe_op op_mod (pe_op op_mulW (pv 8) (pv 1)) (pv 7)))))
      (pss_cons (ps_while PassesOwn.never (pt_cmpR op_ne (pe_op op_mod (pv 6) (pv 7)) (pv 8) (nomark _)) (pss_one (ps_set (i := 6) sc__law_alike.nd rfl (Or.inl rfl) (pe_op op_add (pv 6) (pv 5)))))
      (pss_one (ps_set (i := 5) sc__law_alike.nd rfl (Or.inl rfl) (pe_op op_mulW (pv 5) (pv 7))))))))
      (pss_one (ps_ret (pv 6)))))))), ?_⟩)
  · obtain ⟨s, C, L, b, rfl, _⟩ := h; rfl
  · obtain ⟨s, C, L, b, rfl, hst, hC, hs, hL, hl, hl0, hbb, k⟩ := h
    have hCs : C ≠ s := fun z => by
      obtain ⟨_, _, e, _⟩ := hst
      rw [← z, hC] at e; cases e
    have hlast : ∃ r, (nv L).getLast? = some (.int (r : Nat)) := by
      rcases List.eq_nil_or_concat L with e | ⟨L', r, e⟩
      · rw [e] at hl0; exact absurd hl0 (by decide)
      · rw [List.concat_eq_append] at e
        refine ⟨r, ?_⟩
        rw [e, nv_app]
        exact List.getLast?_concat ..
    obtain ⟨lr, hlr⟩ := hlast
    walk_at "g"
    refine ⟨s, _, rfl, by decide, by decide, hst, fun N H1 N0 N1 st1 s1 => ?_⟩
    walk_at "g"
    refine ⟨s, 3, rfl, by decide, by decide, st1, fun A H2 A0 A1 st2 s2 => ?_⟩
    walk_at "g"
    refine ⟨s, 6, rfl, by decide, by decide, st2, fun B H3 B0 B1 st3 s3 => ?_⟩
    walk_at "g"
    have hm0 : 0 ≤ A / 2 * (1 + B) ∧ A / 2 * (1 + B) ≤ 6 := by
      have e : A / 2 = 0 ∨ A / 2 = 1 := by omega
      rcases e with e | e
      · rw [e]; omega
      · rw [e]; omega
    generalize A / 2 * (1 + B) = mo at hm0 ⊢
    have S3 := s1.trans (s2.trans s3)
    have hC3 := S3 _ _ hCs hC
    refine ⟨⟨_, SqL.of hC3⟩, ?_⟩
    refine for_list (fun i σ H' => H' = H3 ∧ ∃ (W f : Nat) (v7 v8 v9 : Option V), σ = [some (.ref C), some (.int b), some (.ref s), some (.int N), some (.int mo), some (.int W), some (.int f), v7, v8, v9] ∧ 0 < W ∧ W ≤ 31 ^ i ∧ f < W ∧ ∀ q, M.Prime q → q ∣ W → q ∈ L.take i) ⟨rfl, 1, 0, none, none, none, rfl, by decide, by decide, by decide, fun q hq hd => by have := hq.1; have := Nat.le_of_dvd (by decide) hd; omega⟩ (fun i σ H' _ I => by rw [I.1]; exact SqL.of hC3) ?_ ?_
    · rintro i x σ H' hi ⟨rfl, W, f, v7, v8, v9, rfl, W0, W1, fW, hW⟩
      obtain ⟨p, hx, rfl⟩ := nv_get hi
      have hmem := List.mem_of_getElem? hx
      obtain ⟨hp, hp9⟩ := hL _ hmem
      have hp2 := hp.1
      have hil : i < 4 := by have := (List.getElem?_eq_some_iff.mp hx).1; omega
      have W5 : (31 : Nat) ^ i ≤ 31 ^ 4 := Nat.pow_le_pow_right (by decide) (by omega)
      have W6 : W ≤ 923521 := Nat.le_trans W1 (Nat.le_trans W5 (by decide))
      walk_at "g"
      refine s_ixL (SqL.of hC3) (atI_neg1 hlr) ?_
      walk_at "g"
      have hI : ∃ I : Int, (if decide ((p : Int) = (lr : Int)) = true then (1 : Int) else 0) = I ∧ 0 ≤ I ∧ I ≤ 1 := by
        by_cases c : (p : Int) = (lr : Int)
        · exact ⟨1, by rw [decide_eq_true c, if_pos rfl], by decide, by decide⟩
        · exact ⟨0, by rw [decide_eq_false c, if_neg Bool.false_ne_true], by decide, by decide⟩
      obtain ⟨I, hIe, I0, I1⟩ := hI
      rw [hIe]
      walk_at "g"
      have hmI : 0 ≤ mo * I ∧ mo * I ≤ 6 := by
        have e : I = 0 ∨ I = 1 := by omega
        rcases e with e | e
        · rw [e]; omega
        · rw [e]; omega
      generalize mo * I = mI at hmI ⊢
      walk_at "g"
      refine s_i (by omega) ?_
      have r0 := Int.emod_nonneg (N + mI) (show (p : Int) - 1 ≠ 0 by omega)
      have r1 := Int.emod_lt_of_pos (N + mI) (show (0 : Int) < (p : Int) - 1 by omega)
      generalize (N + mI) % ((p : Int) - 1) = rr at r0 r1 ⊢
      walk_at "g"
      refine mkR1 rr.toNat rfl (by omega) (by omega) ?_
      refine for_range (n := rr.toNat) (fun j σ H9 => H9 = H' ∧ ∃ (h : Int) (v9 : Option V), σ = [some (.ref C), some (.int b), some (.ref s), some (.int N), some (.int mo), some (.int W), some (.int f), some (.int p), some (.int h), v9] ∧ 0 ≤ h ∧ h < p) ⟨rfl, 1, _, rfl, by decide, by omega⟩ ?_ ?_
      · rintro j σ H' hj ⟨rfl, h, v9, rfl, h0, h1⟩
        walk_at "g"
        try refine s_i (mulW (by omega) (by omega)) ?_
        walk_at "g"
        refine s_i (by omega) ?_
        walk_at "g"
        exact ⟨rfl, _, _, rfl, Int.emod_nonneg _ (by omega), Int.emod_lt_of_pos _ (by omega)⟩
      · rintro σ H' ⟨rfl, h, v9, rfl, h0, h1⟩
        obtain ⟨y, rfl⟩ := Int.eq_ofNat_of_zero_le h0
        have hg := coprime_new hs (fun z hz => (hL z hz).1) hx hW
        obtain ⟨t, ht, hte⟩ := M.step_to (w := W) (x := f) (y := y) (show 0 < p by omega) (by omega) (by rw [hg]; omega)
        walk_at "g"
        refine s_while (fun σ H9 => H9 = H' ∧ ∃ (j : Nat), σ = [some (.ref C), some (.int b), some (.ref s), some (.int N), some (.int mo), some (.int W), some (.int (f + W * j : Nat)), some (.int p), some (.int y), v9] ∧ j ≤ t) (fun σ _ => f + W * t + 1 - (iv σ 6).toNat) ⟨rfl, 0, by rw [Nat.mul_zero, Nat.add_zero], by omega⟩ ?_
        rintro σ H' ⟨rfl, j, rfl, hj⟩
        walk_at "g"
        refine s_i (by omega) ?_
        rw [← Int.natCast_emod]
        walk_at "g"
        have hWj : W * j ≤ W * t := Nat.mul_le_mul_left W hj
        have hWt : W * t + W ≤ W * p := by
          have : W * (t + 1) ≤ W * p := Nat.mul_le_mul_left W ht
          rwa [Nat.mul_succ] at this
        refine s_iten (fun c => ?_) (fun c => ?_)
        · have hjt : j < t := by
            rcases Nat.lt_or_ge j t with z | z
            · exact z
            · have : j = t := by omega
              rw [this, hte] at c
              exact absurd rfl c
          have hWs : W * (j + 1) ≤ W * t := Nat.mul_le_mul_left W hjt
          rw [Nat.mul_succ] at hWs
          walk_at "g"
          refine ⟨⟨rfl, j + 1, by push_cast; rw [Int.mul_add, Int.mul_one, Int.add_assoc]; rfl, hjt⟩, ?_⟩
          show f + W * t + 1 - (((f + W * j : Nat) : Int) + (W : Int)).toNat < f + W * t + 1 - ((f + W * j : Nat) : Int).toNat
          omega
        · walk_at "g"
          try refine s_i (mulW (by omega) (by omega)) ?_
          walk_at "g"
          refine ⟨rfl, W * p, f + W * j, _, _, _, by push_cast; rfl, Nat.mul_pos W0 (by omega), ?_, by omega, fun q hq hd => ?_⟩
          · rw [Nat.pow_succ]; exact Nat.mul_le_mul W1 hp9
          · rw [take_more hx]
            rcases hq.dvd_mul hd with z | z
            · exact List.mem_append_left _ (hW q hq z)
            · refine List.mem_append_right _ (List.mem_singleton.mpr ?_)
              rcases hp.2 _ z with w | w
              · have := hq.1; omega
              · exact w
    · rintro σ H' ⟨rfl, W, f, v7, v8, v9, rfl, W0, W1, fW, hW⟩
      rw [nv_len] at W1
      have W5 : (31 : Nat) ^ L.length ≤ 31 ^ 4 := Nat.pow_le_pow_right (by decide) (by omega)
      have W6 : W ≤ 923521 := Nat.le_trans W1 (Nat.le_trans W5 (by decide))
      walk_at "g"
      exact k _ _ (by omega) st3 S3

/-- by one prime: the order, and which power a is, or none -/
def RowO (b a : Int) (p : Nat) (q : Nat × Option Nat) : Prop := M.Ord p b q.1 ∧ (∀ y, q.2 = some y → y < q.1 ∧ M.al p a (b ^ y)) ∧ (q.2 = none → ¬ M.is1 p a q.1)
def optD : Option Nat → PyData
  | some y => .int (y : Nat)
  | none => .none
def rowO (q : Nat × Option Nat) : PyData := .tuple [.int (q.1 : Nat), optD q.2]
def optV : Option Nat → V
  | some y => .int (y : Nat)
  | none => .non
theorem optV_da {F : Addr → Prop} {H : Hp} : ∀ o : Option Nat, DaF F H (optV o) (optD o)
  | some y => .int _
  | none => .non
theorem optV_inv {F : Addr → Prop} {H : Hp} {v : V} : ∀ {o : Option Nat}, DaF F H v (optD o) → v = optV o
  | some y, h => by cases h; rfl
  | none, h => by cases h; rfl
/-- the rows, in the heap -/
def RowsAt (H : Hp) (R : Addr) (rws : List (Nat × Option Nat)) : Prop := ∃ ys, H R = some (.lst ys) ∧ DaL (fun _ => False) H ys (rws.map rowO)
theorem RowsAt.same {H H' : Hp} {R : Addr} {rws : List (Nat × Option Nat)} (h : RowsAt H R rws) (s : Same H H') : RowsAt H' R rws := by
  obtain ⟨ys, h1, h2⟩ := h
  exact ⟨ys, s _ _ h1, h2.same s⟩
theorem RowsAt.sameS {H H' : Hp} {R s : Addr} {rws : List (Nat × Option Nat)} (h : RowsAt H R rws) (st : StAt H s) (sb : SameB s H H') : RowsAt H' R rws := by
  obtain ⟨ys, h1, h2⟩ := h
  obtain ⟨_, _, e, _⟩ := st
  exact ⟨ys, sb _ _ (fun z => by rw [← z, h1] at e; cases e) h1, h2.tups fun b r eb => sb _ _ (fun z => by rw [← z, eb] at e; cases e) eb⟩
theorem RowsAt.len {H : Hp} {R : Addr} {rws : List (Nat × Option Nat)} (h : RowsAt H R rws) : ∃ ys, H R = some (.lst ys) ∧ ys.length = rws.length := by
  obtain ⟨ys, h1, h2⟩ := h
  exact ⟨ys, h1, by rw [h2.len, List.length_map]⟩
/-- one row -/
theorem RowsAt.get {H : Hp} {R : Addr} {rws : List (Nat × Option Nat)} (h : RowsAt H R rws) {i : Nat} {q : Nat × Option Nat} (hi : rws[i]? = some q) : ∃ ys t, H R = some (.lst ys) ∧ ys[i]? = some (.ref t) ∧ H t = some (.tup [.int (q.1 : Nat), optV q.2]) := by
  obtain ⟨ys, h1, h2⟩ := h
  obtain ⟨v, hv, hd⟩ := h2.get' (i := i) (d := rowO q) (by rw [List.getElem?_map, hi]; rfl)
  obtain ⟨t, xs, rfl, et, hx⟩ := hd.tup_inv
  obtain ⟨y0, y1, yr, rfl, g0, g1, g2⟩ := hx.two
  cases g2
  cases g0
  rw [optV_inv g1] at et
  exact ⟨ys, t, h1, hv, et⟩
theorem RowsAt.getV {H : Hp} {R : Addr} {rws : List (Nat × Option Nat)} (h : RowsAt H R rws) {ys : List V} (hR : H R = some (.lst ys)) {i : Nat} {v : V} (hv : ys[i]? = some v) : ∃ t q, rws[i]? = some q ∧ v = .ref t ∧ H t = some (.tup [.int (q.1 : Nat), optV q.2]) := by
  obtain ⟨ys', h1, h2⟩ := id h
  rw [hR] at h1
  cases h1
  obtain ⟨d, hd, _⟩ := h2.get hv
  rw [List.getElem?_map] at hd
  obtain ⟨q, hq, _⟩ := Option.map_eq_some_iff.mp hd
  obtain ⟨ys', t, g1, g2, g3⟩ := h.get hq
  rw [hR] at g1
  cases g1
  rw [hv] at g2
  exact ⟨t, q, hq, Option.some.inj g2, g3⟩
/-- _law_rows(primes, b, a): a new list of rows -/
def sp__law_rows : Sp := fun vs H Q _ => ∃ (C : Addr) (L : List Nat) (b a : Int), vs = [.ref C, .int b, .int a] ∧ H C = some (.lst (nv L)) ∧ L.length ≤ 4 ∧ (∀ z ∈ L, M.Prime z ∧ z ≤ 31) ∧ (∀ z ∈ L, M.un z b ∧ M.un z a) ∧ b.natAbs < 2 ^ 900 ∧ a.natAbs < 2 ^ 900 ∧
  ∀ (R : Addr) (H' : Hp) (rws : List (Nat × Option Nat)), Paired (RowO b a) L rws → RowsAt H' R rws → Same H H' → Q (.ref R) H'
theorem ok__law_rows (T : Txt K mg) : FnOk P w K mg base CX0 2 (He.ga K "_law_rows") (fd__law_rows T) ["_law_primes_here", "_law_b", "_law_a"] sp__law_rows := by
  refine (F__law_rows T).ok sc__law_rows (fun vs H Q E h => ?_) (fun cdv A outer s H vs Q E hr h => ⟨_, PSs.nox (pss_cons (ps_set (i := 3) sc__law_rows.nd rfl (Or.inl rfl) (pe_lst pa_nil))
      (pss_cons (ps_for PassesOwn.never rfl (pi_list (pv 0)) (pg_name (i := 4) sc__law_rows.nd rfl (Or.inl rfl)) (pss_cons (ps_set (i := 5) sc__law_rows.nd rfl (Or.inl rfl) (pe_call (ok__law_powers T) (hr.mono (by decide)) rfl (g__law_powers T) (kp__law_powers T) (B__law_powers T) .nil pass0 (pa_cons (pv 4) (pa_cons (pv 1) pa_nil))))
      (pss_cons (ps_set (i := 6) sc__law_rows.nd rfl (Or.inl rfl) pe_non)
      (pss_cons (ps_if (pt_cmpR op_in_seq (pe_op op_mod (pv 2) (pv 4)) (pv 5) rfl) (pss_one (ps_set (i := 6) sc__law_rows.nd rfl (Or.inl rfl) (pe_bm PySem.F.plainAttrs_list PySem.F.slot_list_index PySem.F.type_list_index mt_index (pv 5) (pa_cons (pe_op op_mod (pv 2) (pv 4)) pa_nil)))) pss_nil)
      (pss_one (ps_expr (pe_bm PySem.F.plainAttrs_list PySem.F.slot_list_append PySem.F.type_list_append mt_append (pv 3) (pa_cons (pe_tup (pa_cons (pe_callB callLen rfl (T.fr (T.c.fact 56 rfl)) boot_len (pa_cons (pv 5) pa_nil)) (pa_cons (pv 6) pa_nil))) pa_nil))))))))
      (pss_one (ps_ret (pv 3))))), ?_⟩)
  · obtain ⟨C, L, b, a, rfl, _⟩ := h; rfl
  · obtain ⟨C, L, b, a, rfl, hC, hl, hL, hun, hbb, hab, k⟩ := h
    walk_at "g"
    refine mkL (by simp) fun R H1 nR eR s1 => ?_
    walk_at "g"
    refine ⟨⟨_, SqL.of (s1 _ _ hC)⟩, ?_⟩
    refine for_list (fun i σ H' => Same H H' ∧ (∃ (rws : List (Nat × Option Nat)) (ys : List V), H' R = some (.lst ys) ∧ DaL (fun _ => False) H' ys (rws.map rowO) ∧ Paired (RowO b a) (L.take i) rws) ∧ ∃ v4 v5 v6 : Option V, σ = [some (.ref C), some (.int b), some (.int a), some (.ref R), v4, v5, v6]) ⟨s1, ⟨[], [], eR, .nil, by rw [List.take_zero]; exact .nil⟩, none, none, none, rfl⟩ (fun i σ H' _ I => SqL.of (I.1 _ _ hC)) ?_ ?_
    · rintro i x σ H2 hi ⟨s2, ⟨rws, ys, eR2, hys, hrw⟩, v4, v5, v6, rfl⟩
      obtain ⟨p, hx, rfl⟩ := nv_get hi
      have hmem := List.mem_of_getElem? hx
      obtain ⟨hp, hp9⟩ := hL _ hmem
      obtain ⟨hub, hua⟩ := hun _ hmem
      have hp2 := hp.1
      have hil := (List.getElem?_eq_some_iff.mp hx).1
      have hwl : rws.length = i := by rw [← hrw.length, List.length_take]; omega
      have hyl : ys.length = i := by rw [hys.len, List.length_map]; exact hwl
      obtain ⟨e, ho⟩ := M.exists_ord hp hub
      have e0 := ho.pos
      have hele := ho.le hp hub
      have nRn : H2 R ≠ none := by rw [eR2]; simp
      walk_at "g"
      refine ⟨p, e, b, rfl, hp, by omega, hbb, ho, fun F H3 nF eF s3 => ?_⟩
      have eR3 := s3 _ _ eR2
      have hys3 := hys.same s3
      have hlen : ((powL p b e).map V.int).length = e := by rw [List.length_map, powL_len]
      walk_at "g"
      refine s_i (by omega) ?_
      walk_at "g"
      refine s_inL eF ?_
      have hmemP : a % (p : Int) ∈ powL p b e ↔ M.is1 p a e := by
        constructor
        · intro h
          obtain ⟨j, hj, hje⟩ := List.mem_map.mp h
          have h2 : M.al p a (b ^ j) := M.al_of_emod hje.symm
          exact (M.is1_congr h2 e).mpr (M.one_pow_iff.mpr (M.one_of_dvd ho.one (Nat.dvd_mul_left _ _)))
        · intro h
          obtain ⟨x, hx, hax⟩ := M.ord_powers hp ho h
          exact List.mem_map.mpr ⟨x, List.mem_range.mpr hx, (M.al_emod hax).symm⟩
      have fin : ∀ (o : Option Nat) (H4 : Hp) (t : Addr), RowO b a p (e, o) → Same H3 H4 → H3 t = none → H4 t = some (.tup [.int (e : Nat), optV o]) → Same H (upd H4 R (.lst (ys ++ [.ref t]))) ∧ ∃ (rws : List (Nat × Option Nat)) (ys' : List V), upd H4 R (.lst (ys ++ [.ref t])) R = some (.lst ys') ∧ DaL (fun _ => False) (upd H4 R (.lst (ys ++ [.ref t]))) ys' (rws.map rowO) ∧ Paired (RowO b a) (L.take (i + 1)) rws := fun o H4 t hrow s4 nt et => by
        refine ⟨fun b' o' eb => by
          rw [upd_ne (ne_of_none eb nR)]
          exact s4 _ _ (s3 _ _ (s2 _ _ eb)), rws ++ [(e, o)], _, upd_same, ?_, ?_⟩
        · rw [List.map_append]
          exact DaL.upd (s4 _ _ eR3) (fun z => z) (DaL.app (.cons (.tup et (.cons (.int _) (.cons (optV_da o) .nil))) .nil) (hys3.same s4))
        · rw [take_more hx]
          exact paired_snoc hrw hrow
      walk_at "g"
      refine s_ite (fun c => ?_) (fun c => ?_)
      · have hy := hmemP.mp c
        obtain ⟨x, hxe, hax⟩ := M.ord_powers hp ho hy
        have hxp : M.pw p b x = a % p := (M.al_emod hax).symm
        walk_at "g"
        refine ⟨s_tyL eF, ?_⟩
        walk_at "g"
        refine s_i (by omega) ?_
        walk_at "g"
        have gx : ∀ j, j < e → ((powL p b e).map V.int)[j]? = some (.int (M.pw p b j)) := fun j hj => by
          unfold powL
          rw [List.getElem?_map, List.getElem?_map, List.getElem?_range hj]; rfl
        refine ⟨F, _, .int (a % p), x, .int (M.pw p b x), rfl, rfl, SqL.of eF, rfl, flat_ints _, gx x hxe, by rw [eqV_int, hxp]; simp, fun m z hm hz => ?_, ?_⟩
        · rw [gx m (by omega)] at hz
          obtain rfl := Option.some.inj hz
          rw [eqV_int]
          refine decide_eq_false fun z => ?_
          have h3 : M.al p (b ^ m) (b ^ x) := M.al_of_emod (by rw [← hxp] at z; exact z)
          have h4 := M.al_pow_inv hp ho h3
          rw [Nat.mod_eq_of_lt (by omega), Nat.mod_eq_of_lt hxe] at h4
          omega
        walk_at "g"
        refine ⟨s_tyL eR3, ?_⟩
        walk_at "g"
        refine s_lenL (SqL.of eF) ?_
        rw [hlen]
        walk_at "g"
        refine mkT (by simp) fun t H4 nt et s4 => ?_
        walk_at "g"
        refine s_append (s4 _ _ eR3) (line2 (by omega)) ?_
        walk_at "g"
        obtain ⟨f1, f2⟩ := fin (some x) H4 t ⟨ho, (fun y z => by cases z; exact ⟨hxe, hax⟩), (fun z => nomatch z)⟩ s4 nt et
        exact ⟨f1, f2, _, _, _, rfl⟩
      · have hn : ¬ M.is1 p a e := fun z => c (hmemP.mpr z)
        walk_at "g"
        refine ⟨s_tyL eR3, ?_⟩
        walk_at "g"
        refine s_lenL (SqL.of eF) ?_
        rw [hlen]
        walk_at "g"
        refine mkT (by simp) fun t H4 nt et s4 => ?_
        walk_at "g"
        refine s_append (s4 _ _ eR3) (line2 (by omega)) ?_
        walk_at "g"
        obtain ⟨f1, f2⟩ := fin none H4 t ⟨ho, (fun y z => by cases z), fun _ => hn⟩ s4 nt et
        exact ⟨f1, f2, _, _, _, rfl⟩
    · rintro σ H2 ⟨s2, ⟨rws, ys, eR2, hys, hrw⟩, v4, v5, v6, rfl⟩
      rw [nv_len, List.take_length] at hrw
      walk_at "g"
      exact k R H2 rws hrw ⟨ys, eR2, hys⟩ s2
/-- _law_rest(p, a, e): the power -/
def sp__law_rest : Sp := fun vs H Q _ => ∃ (p e : Nat) (a : Int), vs = [.int p, .int a, .int e] ∧ 2 ≤ p ∧ p ≤ 31 ∧ e ≤ 31 ∧ a.natAbs < 2 ^ 900 ∧ Q (.int (M.pw p a e)) H
theorem ok__law_rest (T : Txt K mg) : FnOk P w K mg base CX0 1 (He.ga K "_law_rest") (fd__law_rest T) ["_law_p", "_law_a", "_law_e"] sp__law_rest := by
  refine (F__law_rest T).ok sc__law_rest (fun vs H Q E h => ?_) (fun cdv A outer s H vs Q E hr h => ⟨_, PSs.nox (pss_cons (ps_set (i := 3) sc__law_rest.nd rfl (Or.inl rfl) pe_int)
      (pss_cons (ps_for PassesOwn.never rfl (pi_range1 rfl (T.fr (T.c.fact 57 rfl)) (pa_cons (pv 2) pa_nil)) (pg_name (i := 4) sc__law_rest.nd rfl (Or.inl rfl)) (pss_one (ps_set (i := 3) sc__law_rest.nd rfl (Or.inl rfl) (pe_op op_mod (pe_op op_mulW (pv 3) (pv 1)) (pv 0)))))
      (pss_one (ps_ret (pv 3))))), ?_⟩)
  · obtain ⟨p, e, a, rfl, _⟩ := h; rfl
  · obtain ⟨p, e, a, rfl, hp2, hp9, he, hab, k⟩ := h
    walk_at "g"
    refine mkR1 e (by omega) (by omega) (by omega) ?_
    refine for_range (n := e) (fun j σ H' => H' = H ∧ ∃ v4 : Option V, σ = [some (.int p), some (.int a), some (.int e), some (.int (M.pw p a j)), v4]) ⟨rfl, _, by rw [M.pw_zero, Int.emod_eq_of_lt (by decide) (by omega)]; rfl⟩ ?_ ?_
    · rintro j σ H' hj ⟨rfl, v4, rfl⟩
      have hr := M.pw_range (n := (p : Int)) (by omega) a j
      walk_at "g"
      try refine s_i (mulW (by omega) (by omega)) ?_
      walk_at "g"
      refine s_i (by omega) ?_
      rw [M.pw_mul]
      walk_at "g"
      exact ⟨rfl, _, rfl⟩
    · rintro σ H' ⟨rfl, v4, rfl⟩
      walk_at "g"
      exact k

/-- rows that are all powers -/
def AllP (rws : List (Nat × Option Nat)) : Prop := ∀ q ∈ rws, 0 < q.1 ∧ q.1 ≤ 31 ∧ ∃ y, q.2 = some y ∧ y < q.1
/-- two rows that no number is alike with -/
def ApR (rws : List (Nat × Option Nat)) (i j : Nat) : Prop := i < j ∧ ∃ e y e' y', rws[i]? = some (e, some y) ∧ rws[j]? = some (e', some y') ∧ ((y : Int) - (y' : Int)) % ((Nat.gcd e e' : Nat) : Int) ≠ 0
def prD (x : Nat × Nat) : PyData := .tuple [.int (x.1 : Nat), .int (x.2 : Nat)]
theorem AllP.get {rws : List (Nat × Option Nat)} (h : AllP rws) {i : Nat} (hi : i < rws.length) : ∃ e y, rws[i]? = some (e, some y) ∧ 0 < e ∧ e ≤ 31 ∧ y < e := by
  obtain ⟨h1, h2, y, h3, h4⟩ := h _ (List.getElem_mem hi)
  exact ⟨rws[i].1, y, by rw [List.getElem?_eq_getElem hi, ← h3], h1, h2, h4⟩
/-- _law_pairs(rows): a new list of the pairs that are apart -/
def sp__law_pairs : Sp := fun vs H Q _ => ∃ (R : Addr) (rws : List (Nat × Option Nat)), vs = [.ref R] ∧ RowsAt H R rws ∧ rws.length ≤ 4 ∧ AllP rws ∧
  ∀ (D : Addr) (H' : Hp) (xs : List V) (prs : List (Nat × Nat)), H D = none → H' D = some (.lst xs) → DaL (fun _ => False) H' xs (prs.map prD) → prs.length ≤ 20 → (∀ i j, (i, j) ∈ prs ↔ ApR rws i j) → Same H H' → Q (.ref D) H'
theorem ok__law_pairs (T : Txt K mg) : FnOk P w K mg base CX0 2 (He.ga K "_law_pairs") (fd__law_pairs T) ["_law_rows_here"] sp__law_pairs := by
  refine (F__law_pairs T).ok sc__law_pairs (fun vs H Q E h => ?_) (fun cdv A outer s H vs Q E hr h => ⟨_, PSs.nox (pss_cons (ps_set (i := 1) sc__law_pairs.nd rfl (Or.inl rfl) (pe_lst pa_nil))
      (pss_cons (ps_for PassesOwn.never rfl (pi_range1 rfl (T.fr (T.c.fact 57 rfl)) (pa_cons (pe_callB callLen rfl (T.fr (T.c.fact 56 rfl)) boot_len (pa_cons (pv 0) pa_nil)) pa_nil)) (pg_name (i := 2) sc__law_pairs.nd rfl (Or.inl rfl)) (pss_one (ps_for PassesOwn.never rfl (pi_range2 rfl (T.fr (T.c.fact 57 rfl)) (pa_cons (pe_op op_add (pv 2) pe_int) (pa_cons (pe_callB callLen rfl (T.fr (T.c.fact 56 rfl)) boot_len (pa_cons (pv 0) pa_nil)) pa_nil))) (pg_name (i := 3) sc__law_pairs.nd rfl (Or.inl rfl)) (pss_one (ps_if (pt_cmpR op_ne (pe_op op_mod (pe_op op_sub (pe_ix ix_seq (pe_ix ix_seq (pv 0) (pv 2) (fun _ _ => rfl)) pe_int (fun _ _ => rfl)) (pe_ix ix_seq (pe_ix ix_seq (pv 0) (pv 3) (fun _ _ => rfl)) pe_int (fun _ _ => rfl))) (pe_call (ok__law_common T) (hr.mono (by decide)) rfl (g__law_common T) (kp__law_common T) (B__law_common T) .nil pass0 (pa_cons (pe_ix ix_seq (pe_ix ix_seq (pv 0) (pv 2) (fun _ _ => rfl)) pe_int (fun _ _ => rfl)) (pa_cons (pe_ix ix_seq (pe_ix ix_seq (pv 0) (pv 3) (fun _ _ => rfl)) pe_int (fun _ _ => rfl)) pa_nil)))) pe_int (nomark _)) (pss_one (ps_expr (pe_bm PySem.F.plainAttrs_list PySem.F.slot_list_append PySem.F.type_list_append mt_append (pv 1) (pa_cons (pe_tup (pa_cons (pv 2) (pa_cons (pv 3) pa_nil))) pa_nil)))) pss_nil)))))
      (pss_one (ps_ret (pv 1))))), ?_⟩)
  · obtain ⟨R, rws, rfl, _⟩ := h; rfl
  · obtain ⟨R, rws, rfl, hR, hl, hall, k⟩ := h
    obtain ⟨ys, eR, hyl⟩ := hR.len
    walk_at "g"
    refine mkL (by simp) fun D H1 nD eD s1 => ?_
    walk_at "g"
    refine s_lenL (SqL.of (s1 _ _ eR)) ?_
    rw [hyl]
    walk_at "g"
    refine mkR1 rws.length (by omega) (by omega) (by omega) ?_
    refine for_range (n := rws.length) (fun i σ H' => Same H H' ∧ (∃ (xs : List V) (prs : List (Nat × Nat)), H' D = some (.lst xs) ∧ DaL (fun _ => False) H' xs (prs.map prD) ∧ prs.length ≤ 4 * i ∧ ∀ i' j', (i', j') ∈ prs ↔ ApR rws i' j' ∧ i' < i) ∧ ∃ v3 v4 : Option V, σ = [some (.ref R), some (.ref D), v3, v4]) ⟨s1, ⟨[], [], eD, .nil, by simp, by simp⟩, none, none, rfl⟩ ?_ ?_
    · rintro i σ H2 hi ⟨s2, ⟨xs, prs, eD2, hxs, hpl, hin⟩, v3, v4, rfl⟩
      rw [Int.zero_add]
      walk_at "g"
      refine s_lenL (SqL.of (s2 _ _ eR)) ?_
      rw [hyl]
      walk_at "g"
      refine mkR2 (rws.length - (i + 1)) (by omega) (by omega) ?_
      refine for_range (n := rws.length - (i + 1)) (fun d σ H' => Same H H' ∧ (∃ (xs : List V) (prs : List (Nat × Nat)), H' D = some (.lst xs) ∧ DaL (fun _ => False) H' xs (prs.map prD) ∧ prs.length ≤ 4 * i + d ∧ ∀ i' j', (i', j') ∈ prs ↔ ApR rws i' j' ∧ (i' < i ∨ i' = i ∧ j' < i + 1 + d)) ∧ ∃ v4 : Option V, σ = [some (.ref R), some (.ref D), some (.int (i : Nat)), v4]) ⟨s2, ⟨xs, prs, eD2, hxs, by omega, fun i' j' => (hin i' j').trans ⟨fun ⟨a, b⟩ => ⟨a, .inl b⟩, fun ⟨a, b⟩ => ⟨a, by have := a.1; omega⟩⟩⟩, _, rfl⟩ ?_ ?_
      · rintro d σ H3 hd ⟨s3, ⟨xs, prs, eD3, hxs, hpl, hin⟩, v4, rfl⟩
        have hR3 := hR.same s3
        obtain ⟨e, y, hx1, e0, e31, ye⟩ := hall.get hi
        obtain ⟨e', y', hx2, e0', e31', ye'⟩ := hall.get (show i + 1 + d < rws.length by omega)
        obtain ⟨ys1, t1, a1, a2, a3⟩ := hR3.get hx1
        obtain ⟨ys2, t2, b1, b2, b3⟩ := hR3.get hx2
        rw [a1] at b1
        cases b1
        have a3 : H3 t1 = some (.tup [.int (e : Nat), .int (y : Nat)]) := a3
        have b3 : H3 t2 = some (.tup [.int (e' : Nat), .int (y' : Nat)]) := b3
        have gp : 0 < Nat.gcd e e' := Nat.gcd_pos_of_pos_left _ e0
        have gl : Nat.gcd e e' ≤ e := Nat.gcd_le_left _ e0
        have hxl : xs.length = prs.length := by rw [hxs.len, List.length_map]
        walk_at "g"
        refine s_ixL (SqL.of a1) (atI0 i (by omega) a2) ?_
        walk_at "g"
        refine s_ixT (SqT.of a3) (atI0 1 rfl rfl) ?_
        walk_at "g"
        refine s_ixL (SqL.of a1) (atI0 (i + 1 + d) (by omega) b2) ?_
        walk_at "g"
        refine s_ixT (SqT.of b3) (atI0 1 rfl rfl) ?_
        walk_at "g"
        refine s_ixL (SqL.of a1) (atI0 i (by omega) a2) ?_
        walk_at "g"
        refine s_ixT (SqT.of a3) (atI0 0 rfl rfl) ?_
        walk_at "g"
        refine s_ixL (SqL.of a1) (atI0 (i + 1 + d) (by omega) b2) ?_
        walk_at "g"
        refine s_ixT (SqT.of b3) (atI0 0 rfl rfl) ?_
        walk_at "g"
        refine ⟨e, e', rfl, ?_⟩
        walk_at "g"
        refine s_i (by omega) ?_
        walk_at "g"
        have ap : ApR rws i (i + 1 + d) ↔ ((y : Int) - (y' : Int)) % ((Nat.gcd e e' : Nat) : Int) ≠ 0 := by
          constructor
          · rintro ⟨_, f, z, f', z', h1, h2, h3⟩
            rw [hx1] at h1
            rw [hx2] at h2
            cases h1
            cases h2
            exact h3
          · intro h
            exact ⟨by omega, e, y, e', y', hx1, hx2, h⟩
        refine s_iten (fun c => ?_) (fun c => ?_)
        · walk_at "g"
          refine ⟨s_tyL eD3, ?_⟩
          walk_at "g"
          refine mkT (by simp) fun t H4 nt et s4 => ?_
          walk_at "g"
          refine s_append (s4 _ _ eD3) (line2 (by omega)) ?_
          walk_at "g"
          refine ⟨same_upd' (s3.trans s4) nD, ⟨_, prs ++ [(i, i + 1 + d)], upd_same, ?_, by rw [List.length_append]; simp; omega, fun i' j' => ?_⟩, _, rfl⟩
          · rw [List.map_append]
            refine DaL.upd (s4 _ _ eD3) (fun z => z) (DaL.app (.cons (.tup et (.cons (.int _) (.cons ?_ .nil))) .nil) (hxs.same s4))
            have e9 : ((i : Int) + 1 + (d : Int)) = ((i + 1 + d : Nat) : Int) := by omega
            rw [e9]; exact .int _
          · rw [List.mem_append, hin, List.mem_singleton, Prod.mk.injEq]
            constructor
            · rintro (⟨z1, z2⟩ | ⟨rfl, rfl⟩)
              · exact ⟨z1, by omega⟩
              · exact ⟨ap.mpr c, .inr ⟨rfl, by omega⟩⟩
            · rintro ⟨z1, z2 | ⟨z2, z3⟩⟩
              · exact .inl ⟨z1, .inl z2⟩
              · rcases Nat.lt_or_ge j' (i + 1 + d) with w | w
                · exact .inl ⟨z1, .inr ⟨z2, w⟩⟩
                · exact .inr ⟨z2, by omega⟩
        · walk_at "g"
          refine ⟨s3, ⟨xs, prs, eD3, hxs, by omega, fun i' j' => (hin i' j').trans ⟨fun ⟨a, b⟩ => ⟨a, by omega⟩, fun ⟨a, b⟩ => ⟨a, ?_⟩⟩⟩, _, rfl⟩
          rcases b with z2 | ⟨z2, z3⟩
          · exact .inl z2
          · rcases Nat.lt_or_ge j' (i + 1 + d) with w | w
            · exact .inr ⟨z2, w⟩
            · have : j' = i + 1 + d := by omega
              subst z2 this
              exact absurd c (ap.mp a)
      · rintro σ H3 ⟨s3, ⟨xs, prs, eD3, hxs, hpl, hin⟩, v4, rfl⟩
        walk_at "g"
        refine ⟨s3, ⟨xs, prs, eD3, hxs, by omega, fun i' j' => (hin i' j').trans ⟨fun ⟨a, b⟩ => ⟨a, by omega⟩, fun ⟨a, b⟩ => ⟨a, ?_⟩⟩⟩, _, _, rfl⟩
        obtain ⟨h1, f, z, f', z', _, h2, _⟩ := id a
        have := (List.getElem?_eq_some_iff.mp h2).1
        omega
    · rintro σ H2 ⟨s2, ⟨xs, prs, eD2, hxs, hpl, hin⟩, v3, v4, rfl⟩
      walk_at "g"
      refine k D H2 xs prs ?_ eD2 hxs (by omega) (fun i j => (hin i j).trans ⟨fun z => z.1, fun z => ⟨z, ?_⟩⟩) s2
      · exact nD
      · obtain ⟨h1, f, w, f', w', h3, _, _⟩ := z
        exact (List.getElem?_eq_some_iff.mp h3).1

/-- what is made to be told -/
def MadeD (rws : List (Nat × Option Nat)) (d : PyData) : Prop :=
  (∃ (n e : Nat) (r : Int), d = .tuple [.none, .tuple [.str "none", .int (n : Nat), .int (e : Nat), .int r]] ∧ n < rws.length ∧ e ≤ 31 ∧ r.natAbs ≤ 31) ∨
  (AllP rws ∧ ∃ (i j : Nat) (q q' : Nat × Option Nat), d = .tuple [.none, .tuple [.str "apart", .int (i : Nat), .int (j : Nat), rowO q, rowO q']] ∧ i < rws.length ∧ j < rws.length ∧ q ∈ rws ∧ q' ∈ rws) ∨
  (AllP rws ∧ ∃ x : Nat, d = .tuple [.int (x : Nat), .tuple [.str "by", .tuple (rws.map rowO)]] ∧ x < 2 ^ 60)
theorem bd_rowO {rws : List (Nat × Option Nat)} (h : AllP rws) {q : Nat × Option Nat} (hq : q ∈ rws) : Bd 1 (rowO q) := by
  obtain ⟨h1, h2, y, h3, h4⟩ := h q hq
  refine .tup (by simp) fun d hd => ?_
  simp only [List.mem_cons, List.not_mem_nil, or_false, h3, optD] at hd
  rcases hd with z | z <;> subst z
  · exact .int (by omega)
  · exact .int (by omega)
theorem MadeD.bd {rws : List (Nat × Option Nat)} {d : PyData} (h : MadeD rws d) (hl : rws.length ≤ 4) : Bd 5 d := by
  rcases h with ⟨n, e, r, rfl, h1, h2, h3⟩ | ⟨ha, i, j, q, q', rfl, h1, h2, h3, h4⟩ | ⟨ha, x, rfl, h1⟩
  · refine .tup (by simp) fun d hd => ?_
    simp only [List.mem_cons, List.not_mem_nil, or_false] at hd
    rcases hd with z | z <;> subst z
    · exact .non
    · refine .tup (by simp) fun d hd => ?_
      simp only [List.mem_cons, List.not_mem_nil, or_false] at hd
      rcases hd with z | z | z | z <;> subst z
      · exact .str _ (by decide +kernel)
      · exact .int (by omega)
      · exact .int (by omega)
      · exact .int (by omega)
  · refine .tup (by simp) fun d hd => ?_
    simp only [List.mem_cons, List.not_mem_nil, or_false] at hd
    rcases hd with z | z <;> subst z
    · exact .non
    · refine .tup (by simp) fun d hd => ?_
      simp only [List.mem_cons, List.not_mem_nil, or_false] at hd
      rcases hd with z | z | z | z | z <;> subst z
      · exact .str _ (by decide +kernel)
      · exact .int (by omega)
      · exact .int (by omega)
      · exact (bd_rowO ha h3).mono (by decide)
      · exact (bd_rowO ha h4).mono (by decide)
  · refine .tup (by simp) fun d hd => ?_
    simp only [List.mem_cons, List.not_mem_nil, or_false] at hd
    rcases hd with z | z <;> subst z
    · exact .int (by omega)
    · refine .tup (by simp) fun d hd => ?_
      simp only [List.mem_cons, List.not_mem_nil, or_false] at hd
      rcases hd with z | z <;> subst z
      · exact .str _ (by decide +kernel)
      · refine .tup (by rw [List.length_map]; omega) fun d hd => ?_
        obtain ⟨q, hq, rfl⟩ := List.mem_map.mp hd
        exact (bd_rowO ha hq).mono (by decide)
theorem eqv_nil {α : Type} (f : α → PyData) (l : List α) : PyData.eqv (.list (l.map f)) (.list []) = l.isEmpty := by cases l <;> simp [PyData.eqv, PyData.eqvAll]
theorem paired_mem {α β : Type} {R : α → β → Prop} {xs : List α} {ys : List β} (h : Paired R xs ys) {y : β} (hy : y ∈ ys) : ∃ x ∈ xs, R x y := by
  induction h with
  | nil => simp at hy
  | @cons x y0 xs ys f _ ih =>
    rcases List.mem_cons.mp hy with z | z
    · rw [z]; exact ⟨x, by simp, f⟩
    · obtain ⟨x', h1, h2⟩ := ih z
      exact ⟨x', by simp [h1], h2⟩
def plO (rws : List (Nat × Option Nat)) : List (Int × Int) := rws.map fun q => ((q.1 : Int), ((q.2.getD 0 : Nat) : Int))
theorem alike_of_no {rws : List (Nat × Option Nat)} (hall : AllP rws) (h : ∀ i j, ¬ ApR rws i j) : M.allAlike (plO rws) := fun i j p q hij hi hj => by
  unfold plO at hi hj
  rw [List.getElem?_map] at hi hj
  obtain ⟨q1, h1, rfl⟩ := Option.map_eq_some_iff.mp hi
  obtain ⟨q2, h2, rfl⟩ := Option.map_eq_some_iff.mp hj
  obtain ⟨e, y, g1, _⟩ := hall.get (List.getElem?_eq_some_iff.mp h1).1
  obtain ⟨e', y', g2, _⟩ := hall.get (List.getElem?_eq_some_iff.mp h2).1
  rw [h1] at g1
  rw [h2] at g2
  cases g1
  cases g2
  refine Classical.byContradiction fun z => h i j ⟨hij, e, y, e', y', h1, h2, z⟩
theorem plO_bd {rws : List (Nat × Option Nat)} (hall : AllP rws) : ∀ q ∈ plO rws, 0 < q.1 ∧ q.1 ≤ 31 ∧ 0 ≤ q.2 ∧ q.2 < q.1 := fun q hq => by
  obtain ⟨r, hr, rfl⟩ := List.mem_map.mp hq
  obtain ⟨h1, h2, y, h3, h4⟩ := hall r hr
  show (0 : Int) < (r.1 : Int) ∧ (r.1 : Int) ≤ 31 ∧ (0 : Int) ≤ ((r.2.getD 0 : Nat) : Int) ∧ ((r.2.getD 0 : Nat) : Int) < (r.1 : Int)
  rw [h3]
  show (0 : Int) < (r.1 : Int) ∧ (r.1 : Int) ≤ 31 ∧ (0 : Int) ≤ (y : Int) ∧ (y : Int) < (r.1 : Int)
  omega
/-- is a row met by x -/
def metB (x : Int) (q : Nat × Option Nat) : Bool := decide (x % (q.1 : Int) = ((q.2.getD 0 : Nat) : Int))
/-- _law_made(primes, a, rows, state): what is told -/
def sp__law_made : Sp := fun vs H Q _ => ∃ (C R s : Addr) (L : List Nat) (b a : Int) (rws : List (Nat × Option Nat)), vs = [.ref C, .int a, .ref R, .ref s] ∧ StAt H s ∧ H C = some (.lst (nv L)) ∧ L.length ≤ 4 ∧ (∀ z ∈ L, M.Prime z ∧ z ≤ 31) ∧ a.natAbs < 2 ^ 900 ∧ RowsAt H R rws ∧ Paired (RowO b a) L rws ∧
  ∀ (T : Addr) (H' : Hp) (d : PyData), MadeD rws d → Tu H' (.ref T) d → StAt H' s → SameB s H H' → Q (.ref T) H'
theorem ok__law_made (T : Txt K mg) : FnOk P w K mg base CX0 3 (He.ga K "_law_made") (fd__law_made T) ["_law_primes_here", "_law_a", "_law_rows_here", "_law_state_here"] sp__law_made := by
  refine (F__law_made T).ok sc__law_made (fun vs H Q E h => ?_) (fun cdv A outer s H vs Q E hr h => ⟨_, PSs.nox (pss_cons ((ps_setLc (i := 4) (own := [("_law_n", 5)]) rfl sc__law_made.nd rfl rfl (sw_true rfl rfl rfl rfl) (pi_range1 rfl (T.fr (T.c.fact 57 rfl)) (pa_cons (pe_callB callLen rfl (T.fr (T.c.fact 56 rfl)) boot_len (pa_cons (pv 2) pa_nil)) pa_nil)) (blkOk_by (N := N__law_made) (sc := defScope s__law_made) (by decide +kernel)) (fun _ _ _ _ _ => (pg_name (i := 5) sc__law_made.nd rfl (Or.inl rfl))) (fun _ _ _ _ _ => (pts_one (pt_cmpR op_isN1 (pe_ix (R.ix_seqK K rfl) (pe_ix (R.ix_seqK K rfl) (pv 2) (pv 5) (fun _ _ => rfl)) pe_int (fun _ _ => rfl)) pe_non (nomark _)))) (fun _ _ _ _ _ => (pv 5))))
      (pss_cons (ps_if (pt_cmpR (op_neD hr.units) (pv 4) (pe_lst pa_nil) (nomark _)) (pss_cons (ps_set (i := 5) sc__law_made.nd rfl (Or.inl rfl) (pe_ix ix_seq (pv 4) (pe_call (ok__law_take T) (hr.mono (by decide)) rfl (g__law_take T) (kp__law_take T) (B__law_take T) .nil pass0 (pa_cons (pv 3) (pa_cons (pe_callB callLen rfl (T.fr (T.c.fact 56 rfl)) boot_len (pa_cons (pv 4) pa_nil)) pa_nil))) (fun _ _ => rfl)))
      (pss_one (ps_ret (pe_tup (pa_cons pe_non (pa_cons (pe_tup (pa_cons pe_str (pa_cons (pv 5) (pa_cons (pe_ix ix_seq (pe_ix ix_seq (pv 2) (pv 5) (fun _ _ => rfl)) pe_int (fun _ _ => rfl)) (pa_cons (pe_call (ok__law_rest T) (hr.mono (by decide)) rfl (g__law_rest T) (kp__law_rest T) (B__law_rest T) .nil pass0 (pa_cons (pe_ix ix_seq (pv 0) (pv 5) (fun _ _ => rfl)) (pa_cons (pv 1) (pa_cons (pe_ix ix_seq (pe_ix ix_seq (pv 2) (pv 5) (fun _ _ => rfl)) pe_int (fun _ _ => rfl)) pa_nil)))) pa_nil))))) pa_nil)))))) pss_nil)
      (pss_cons (ps_set (i := 6) sc__law_made.nd rfl (Or.inl rfl) (pe_call (ok__law_pairs T) (hr.mono (by decide)) rfl (g__law_pairs T) (kp__law_pairs T) (B__law_pairs T) .nil pass0 (pa_cons (pv 2) pa_nil)))
      (pss_cons (ps_if (pt_cmpR (op_neD hr.units) (pv 6) (pe_lst pa_nil) (nomark _)) (pss_cons (ps_asg (pe_ix ix_seq (pv 6) (pe_call (ok__law_take T) (hr.mono (by decide)) rfl (g__law_take T) (kp__law_take T) (B__law_take T) .nil pass0 (pa_cons (pv 3) (pa_cons (pe_callB callLen rfl (T.fr (T.c.fact 56 rfl)) boot_len (pa_cons (pv 6) pa_nil)) pa_nil))) (fun _ _ => rfl)) (pg_tup rfl (pgs_cons (pg_name (i := 7) sc__law_made.nd rfl (Or.inl rfl)) (pgs_cons (pg_name (i := 8) sc__law_made.nd rfl (Or.inl rfl)) pgs_nil))))
      (pss_one (ps_ret (pe_tup (pa_cons pe_non (pa_cons (pe_tup (pa_cons pe_str (pa_cons (pv 7) (pa_cons (pv 8) (pa_cons (pe_ix ix_seq (pv 2) (pv 7) (fun _ _ => rfl)) (pa_cons (pe_ix ix_seq (pv 2) (pv 8) (fun _ _ => rfl)) pa_nil)))))) pa_nil)))))) pss_nil)
      (pss_cons (ps_set (i := 9) sc__law_made.nd rfl (Or.inr rfl) pe_int)
      (pss_cons (ps_while PassesOwn.never (pt_cmpR op_gt (pe_callB callLen rfl (T.fr (T.c.fact 56 rfl)) boot_len (pa_cons (pe_lc (own := [("_law_e", 10), ("_law_y", 11)]) (g := gTup K 2 (gCons (gName 10) (gCons (gName 11) gNil))) rfl sc__law_made.nd (pi_list (pv 2)) (blkOk_by (N := N__law_made) (sc := defScope s__law_made) (by decide +kernel)) (fun _ _ _ _ _ => (pg_tup rfl (pgs_cons (pg_name (i := 10) sc__law_made.nd rfl (Or.inl rfl)) (pgs_cons (pg_name (i := 11) sc__law_made.nd rfl (Or.inl rfl)) pgs_nil)))) (fun _ _ _ _ _ => (pts_one (pt_cmpR op_ne (pe_op op_mod (pv 9) (pv 10)) (pv 11) (nomark _)))) (fun _ _ _ _ _ => (pv 10))) pa_nil)) pe_int (nomark _)) (pss_one (ps_set (i := 9) sc__law_made.nd rfl (Or.inr rfl) (pe_op op_add (pv 9) pe_int))))
      (pss_one (ps_ret (pe_tup (pa_cons (pv 9) (pa_cons (pe_tup (pa_cons pe_str (pa_cons (pe_callTy callTup rfl (T.fr (T.c.fact 55 rfl)) boot_tuple (pa_cons (pv 2) pa_nil)) pa_nil))) pa_nil))))))))))), ?_⟩)
  · obtain ⟨C, R, s, L, b, a, rws, rfl, _⟩ := h; rfl
  · obtain ⟨C, R, s, L, b, a, rws, rfl, hst, hC, hl, hL, hab, hR, hrw, k⟩ := h
    have hrl : rws.length = L.length := hrw.length.symm
    have hCs : C ≠ s := fun z => by
      obtain ⟨_, _, e, _⟩ := hst
      rw [← z, hC] at e; cases e
    have hb : ∀ q ∈ rws, 0 < q.1 ∧ q.1 ≤ 31 ∧ ∀ y, q.2 = some y → y < q.1 := fun q hq => by
      obtain ⟨p, hp, h1, h2, _⟩ := paired_mem hrw hq
      have h3 := hL p hp
      have h4 := h1.pos
      have h5 := h1.le h3.1 (h1.unit h3.1)
      exact ⟨h4, by omega, fun y hy => (h2 y hy).1⟩
    obtain ⟨ys, eR, hyl⟩ := hR.len
    walk_at "g"
    refine s_lc ?_
    walk_at "g"
    refine s_lenL (SqL.of eR) ?_
    rw [hyl]
    walk_at "g"
    refine mkR1 rws.length (by omega) (by omega) (by omega) ?_
    refine fun D hD => ?_
    refine lc_range (n := rws.length) (fun i H' => Same H H' ∧ ∃ fl : List Nat, H' D = some (.lst (nv fl)) ∧ fl.length ≤ i ∧ (∀ f, f ∈ fl ↔ f < i ∧ ∃ e, rws[f]? = some (e, none))) ⟨same_upd hD, [], upd_same, by simp, by simp⟩ ?_ ?_
    · rintro i H1 hi ⟨s1, fl, eD, hfl, hin⟩
      obtain ⟨⟨e, o⟩, hx⟩ : ∃ q, rws[i]? = some q := ⟨_, List.getElem?_eq_getElem hi⟩
      obtain ⟨ys1, t1, a1, a2, a3⟩ := (hR.same s1).get hx
      have a3 : H1 t1 = some (.tup [.int (e : Nat), optV o]) := a3
      rw [Int.zero_add]
      walk_at "g"
      refine ⟨rfl, ?_⟩
      walk_at "g"
      refine s_ixL (SqL.of a1) (atI0 i rfl a2) ?_
      walk_at "g"
      cases o with
      | none =>
        have a3 : H1 t1 = some (.tup [.int (e : Nat), .non]) := a3
        refine s_ixT (SqT.of a3) (atI0 1 rfl rfl) ?_
        walk_at "g"
        refine ⟨_, eD, line2 (by rw [nv_len]; omega), same_upd' s1 hD, fl ++ [i], by rw [upd_same, nv_app]; rfl, by rw [List.length_append]; simp; omega, fun f => ?_⟩
        rw [List.mem_append, hin, List.mem_singleton]
        constructor
        · rintro (⟨z1, z2⟩ | rfl)
          · exact ⟨by omega, z2⟩
          · exact ⟨by omega, e, hx⟩
        · rintro ⟨z1, z2⟩
          rcases Nat.lt_or_ge f i with w | w
          · exact .inl ⟨w, z2⟩
          · exact .inr (by omega)
      | some y =>
        have a3 : H1 t1 = some (.tup [.int (e : Nat), .int (y : Nat)]) := a3
        refine s_ixT (SqT.of a3) (atI0 1 rfl rfl) ?_
        walk_at "g"
        refine ⟨s1, fl, eD, by omega, fun f => (hin f).trans ⟨fun ⟨z1, z2⟩ => ⟨by omega, z2⟩, fun ⟨z1, z2⟩ => ⟨?_, z2⟩⟩⟩
        rcases Nat.lt_or_ge f i with w | w
        · exact w
        · have : f = i := by omega
          subst this
          obtain ⟨e', z3⟩ := z2
          rw [hx] at z3
          cases z3
    rintro H1 ⟨s1, fl, eD, hfl, hin⟩
    have hst1 := hst.same s1
    have hDs : D ≠ s := fun z => by
      obtain ⟨_, _, e, _⟩ := hst
      rw [z, e] at hD; cases hD
    walk_at "g"
    refine mkL (by simp) fun E H2 nE eE s2 => ?_
    walk_at "g"
    refine s_neD (.list ((fl.map fun n : Nat => (n : Int)).map PyData.int)) (.list []) (.lst (SqL.of (s2 _ _ eD)) ((dal_ints (F := fun _ => True) _).dp K)) (.lst (SqL.of eE) .nil) ?_ (by decide +kernel) ?_
    · refine (Bd.lst (n := 0) (by rw [List.length_map, List.length_map]; omega) fun d hd => ?_).shaped (by decide)
      obtain ⟨z, hz, rfl⟩ := List.mem_map.mp hd
      obtain ⟨f, hf, rfl⟩ := List.mem_map.mp hz
      have h1 := ((hin f).mp hf).1
      exact .int (by omega)
    rw [eqv_nil, show (fl.map fun n : Nat => (n : Int)).isEmpty = fl.isEmpty by cases fl <;> rfl]
    have S2 := s1.trans s2
    have hR2 := hR.same S2
    have hst2 := hst1.same s2
    have eD2 := s2 _ _ eD
    cases fl with
    | cons f0 fr =>
      rw [show (f0 :: fr).isEmpty = false from rfl]
      walk_at "g"
      refine s_lenL (SqL.of eD2) ?_
      rw [nv_len]
      walk_at "g"
      refine ⟨s, _, rfl, by simp only [List.length_cons]; omega, by omega, hst2, fun z H3 z0 z1 st3 s3 => ?_⟩
      obtain ⟨j, rfl⟩ := Int.eq_ofNat_of_zero_le z0
      have hj : j < (f0 :: fr).length := by omega
      have hfj := (hin _).mp (List.getElem_mem hj)
      have hjx : (nv (f0 :: fr))[j]? = some (.int ((f0 :: fr)[j] : Nat)) := by unfold nv; rw [List.getElem?_map, List.getElem?_map, List.getElem?_eq_getElem hj]; rfl
      generalize (f0 :: fr)[j] = n at hfj hjx
      obtain ⟨hn, e, hx⟩ := hfj
      have hn' : n < rws.length := hn
      have hR3 := hR2.sameS hst2 s3
      have hC3 : H3 C = some (.lst (nv L)) := s3 _ _ hCs (S2 _ _ hC)
      have S3 : SameB s H H3 := (SameB.of S2).trans s3
      obtain ⟨ys1, t1, a1, a2, a3⟩ := hR3.get hx
      have a3 : H3 t1 = some (.tup [.int (e : Nat), .non]) := a3
      obtain ⟨p, hp⟩ : ∃ p, L[n]? = some p := ⟨_, List.getElem?_eq_getElem (by omega)⟩
      obtain ⟨hpp, hp9⟩ := hL p (List.mem_of_getElem? hp)
      have hp2 := hpp.1
      have hpx : (nv L)[n]? = some (.int (p : Nat)) := by unfold nv; rw [List.getElem?_map, List.getElem?_map, hp]; rfl
      have he := hb _ (List.mem_of_getElem? hx)
      have he1 : e ≤ 31 := he.2.1
      walk_at "g"
      refine s_ixL (SqL.of (s3 _ _ hDs eD2)) (atI_nat hjx) ?_
      walk_at "g"
      refine s_ixL (SqL.of a1) (atI0 n rfl a2) ?_
      walk_at "g"
      refine s_ixT (SqT.of a3) (atI0 0 rfl rfl) ?_
      walk_at "g"
      refine s_ixL (SqL.of hC3) (atI0 n rfl hpx) ?_
      walk_at "g"
      refine s_ixL (SqL.of a1) (atI0 n rfl a2) ?_
      walk_at "g"
      refine s_ixT (SqT.of a3) (atI0 0 rfl rfl) ?_
      walk_at "g"
      refine ⟨p, e, a, rfl, hp2, hp9, he1, hab, ?_⟩
      have hr := M.pw_range (n := (p : Int)) (by omega) a e
      walk_at "g"
      refine mkT (by simp) fun S H4 nS eS s4 => ?_
      walk_at "g"
      refine mkT (by simp) fun T' H5 nT eT s5 => ?_
      walk_at "g"
      exact k T' H5 _ (.inl ⟨n, e, M.pw p a e, rfl, hn', he1, by omega⟩) (.tup eT (.cons .non (.cons (.tup (s5 _ _ eS) (.cons (.str _) (.cons (.int _) (.cons (.int _) (.cons (.int _) .nil))))) .nil))) (st3.same (s4.trans s5)) (S3.trans (SameB.of (s4.trans s5)))
    | nil =>
    have hall : AllP rws := fun q hq => by
      obtain ⟨h1, h2, h3⟩ := hb q hq
      obtain ⟨e, o⟩ := q
      cases o with
      | some y => exact ⟨h1, h2, y, rfl, h3 y rfl⟩
      | none =>
        obtain ⟨i, hi⟩ := List.getElem?_of_mem hq
        have := (hin i).mpr ⟨(List.getElem?_eq_some_iff.mp hi).1, e, hi⟩
        simp at this
    rw [show ([] : List Nat).isEmpty = true from rfl]
    walk_at "g"
    refine ⟨R, rws, rfl, hR2, by omega, hall, fun F H3 xs prs nF eF hxs hpl hpr s3 => ?_⟩
    have S3 := S2.trans s3
    have hxl : xs.length = prs.length := by rw [hxs.len, List.length_map]
    walk_at "g"
    refine mkL (by simp) fun E2 H4 nE2 eE2 s4 => ?_
    walk_at "g"
    refine s_neD (.list (prs.map prD)) (.list []) (.lst (SqL.of (s4 _ _ eF)) ((hxs.same s4).dp K)) (.lst (SqL.of eE2) .nil) ?_ (by decide +kernel) ?_
    · refine (Bd.lst (n := 1) (by rw [List.length_map]; omega) fun d hd => ?_).shaped (by decide)
      obtain ⟨⟨i, j⟩, hq, rfl⟩ := List.mem_map.mp hd
      have h1 := (hpr i j).mp hq
      obtain ⟨h0, e, y, e', y', h2, h3, _⟩ := h1
      have h4 := (List.getElem?_eq_some_iff.mp h2).1
      have h5 := (List.getElem?_eq_some_iff.mp h3).1
      refine .tup (by simp) fun d hd => ?_
      simp only [List.mem_cons, List.not_mem_nil, or_false] at hd
      rcases hd with z | z <;> subst z
      · exact .int (by omega)
      · exact .int (by omega)
    rw [eqv_nil]
    have S4 := S3.trans s4
    have hst4 := hst.same S4
    have hR4 := hR.same S4
    have hxs4 := hxs.same s4
    have hFs : F ≠ s := fun z => by
      obtain ⟨_, _, e, _⟩ := hst2
      rw [z, e] at nF; cases nF
    cases prs with
    | cons p0 pr =>
      rw [show (p0 :: pr).isEmpty = false from rfl]
      walk_at "g"
      refine s_lenL (SqL.of (s4 _ _ eF)) ?_
      rw [hxl]
      walk_at "g"
      refine ⟨s, _, rfl, by simp only [List.length_cons]; omega, by omega, hst4, fun z H5 z0 z1 st5 s5 => ?_⟩
      obtain ⟨m, rfl⟩ := Int.eq_ofNat_of_zero_le z0
      have hm : m < (p0 :: pr).length := by omega
      have hpm := List.getElem_mem hm
      have hmx : ((p0 :: pr).map prD)[m]? = some (prD (p0 :: pr)[m]) := by rw [List.getElem?_map, List.getElem?_eq_getElem hm]; rfl
      obtain ⟨v, hv, hvd⟩ := hxs4.get' hmx
      generalize (p0 :: pr)[m] = ij at hpm hvd
      obtain ⟨i, j⟩ := ij
      obtain ⟨hij, e, y, e', y', hx1, hx2, _⟩ := (hpr i j).mp hpm
      obtain ⟨t, zs, rfl, et, hzs⟩ := hvd.tup_inv
      obtain ⟨u0, u1, ur, rfl, g0, g1, g2⟩ := hzs.two
      cases g2
      cases g0
      cases g1
      have S5 : SameB s H H5 := (SameB.of S4).trans s5
      have hR5 := hR4.sameS hst4 s5
      have kt : ∀ b r, H4 b = some (.tup r) → H5 b = some (.tup r) := fun b r eb => s5 _ _ (fun z => by
        obtain ⟨_, _, e, _⟩ := hst4
        rw [← z, eb] at e; cases e) eb
      obtain ⟨ys1, t1, a1, a2, a3⟩ := hR5.get hx1
      obtain ⟨ys2, t2, b1, b2, b3⟩ := hR5.get hx2
      rw [a1] at b1
      cases b1
      walk_at "g"
      refine s_ixL (SqL.of (s5 _ _ hFs (s4 _ _ eF))) (atI_nat hv) ?_
      walk_at "g"
      refine s_gtup (SqT.of (kt _ _ et)) rfl ?_
      walk_at "g"
      refine s_ixL (SqL.of a1) (atI0 i rfl a2) ?_
      walk_at "g"
      refine s_ixL (SqL.of a1) (atI0 j rfl b2) ?_
      walk_at "g"
      refine mkT (by simp) fun S H6 nS eS s6 => ?_
      walk_at "g"
      refine mkT (by simp) fun T' H7 nT eT s7 => ?_
      walk_at "g"
      refine k T' H7 (.tuple [.none, .tuple [.str "apart", .int (i : Nat), .int (j : Nat), rowO (e, some y), rowO (e', some y')]]) (.inr (.inl ⟨hall, i, j, _, _, rfl, (List.getElem?_eq_some_iff.mp hx1).1, (List.getElem?_eq_some_iff.mp hx2).1, List.mem_of_getElem? hx1, List.mem_of_getElem? hx2⟩)) (.tup eT (.cons .non (.cons (.tup (s7 _ _ eS) (.cons (.str _) (.cons (.int _) (.cons (.int _) (.cons (.tup (s7 _ _ (s6 _ _ a3)) (.cons (.int _) (.cons (.int _) .nil))) (.cons (.tup (s7 _ _ (s6 _ _ b3)) (.cons (.int _) (.cons (.int _) .nil))) .nil)))))) .nil))) (st5.same (s6.trans s7)) (S5.trans (SameB.of (s6.trans s7)))
    | nil =>
    have hal := alike_of_no hall fun i j h => by
      have := (hpr i j).mpr h
      simp at this
    have hpb := plO_bd hall
    obtain ⟨W, x0, hP⟩ := M.put_exists (plO rws) (fun q hq => by have := hpb q hq; omega) hal
    have hWl : W ≤ 31 ^ 4 := by
      have h1 := M.lcm_le 31 (plO rws) fun q hq => by have := hpb q hq; omega
      have h2 : (31 : Nat) ^ (plO rws).length ≤ 31 ^ 4 := Nat.pow_le_pow_right (by decide) (by unfold plO; rw [List.length_map]; omega)
      rw [hP.hw]
      exact Int.ofNat_le.mpr (Nat.le_trans h1 h2)
    have hx0 := hP.x0
    have hx1 := hP.x1
    obtain ⟨t, rfl⟩ := Int.eq_ofNat_of_zero_le hx0
    have hmet : ∀ q ∈ rws, metB (t : Int) q = true := fun q hq => by
      have h1 := hP.at_ _ (List.mem_map.mpr ⟨q, hq, rfl⟩)
      have h2 := hpb _ (List.mem_map.mpr ⟨q, hq, rfl⟩)
      have h1 : ((t : Int) - ((q.2.getD 0 : Nat) : Int)) % (q.1 : Int) = 0 := h1
      have h2 : (0 : Int) < (q.1 : Int) ∧ (q.1 : Int) ≤ 31 ∧ (0 : Int) ≤ ((q.2.getD 0 : Nat) : Int) ∧ ((q.2.getD 0 : Nat) : Int) < (q.1 : Int) := h2
      unfold metB
      refine decide_eq_true ?_
      have h3 := Int.emod_emod_of_dvd
      have h4 : (t : Int) % (q.1 : Int) = ((q.2.getD 0 : Nat) : Int) % (q.1 : Int) := Int.emod_eq_emod_iff_emod_sub_eq_zero.mpr h1
      rw [h4]
      exact Int.emod_eq_of_lt h2.2.2.1 h2.2.2.2
    rw [show ([] : List (Nat × Nat)).isEmpty = true from rfl]
    walk_at "g"
    refine s_while (fun σ H' => Same H H' ∧ ∃ (x : Nat), σ = [some (.ref C), some (.int a), some (.ref R), some (.ref s), some (.ref D), none, some (.ref F), none, none, some (.int (x : Nat)), none, none] ∧ x ≤ t)
      (fun σ _ => t - (iv σ 9).toNat) ⟨S4, 0, rfl, by omega⟩ ?_
    rintro σ H5 ⟨S5, x, rfl, hxt⟩
    have hR5 := hR.same S5
    have eR5 := S5 _ _ eR
    walk_at "g"
    refine s_lc ?_
    walk_at "g"
    refine ⟨⟨_, SqL.of eR5⟩, fun G hG => ?_⟩
    refine lc_list (fun i H6 => Same H5 H6 ∧ ∃ gl : List Int, H6 G = some (.lst (gl.map V.int)) ∧ gl.length ≤ i ∧ (gl = [] ↔ ∀ q ∈ rws.take i, metB x q = true)) ⟨same_upd hG, [], upd_same, by simp, by simp⟩ (fun i H6 _ I => SqL.of (I.1 _ _ eR5)) ?_ ?_
    · rintro i v H6 hi ⟨s6, gl, eG, hgl, hiff⟩
      obtain ⟨t2, q, hq, rfl, et⟩ := (hR5.same s6).getV (s6 _ _ eR5) hi
      obtain ⟨q0, q31, y, hqy, yq⟩ := hall q (List.mem_of_getElem? hq)
      have hqi := (List.getElem?_eq_some_iff.mp hq).1
      rw [hqy] at et
      have et : H6 t2 = some (.tup [.int (q.1 : Nat), .int (y : Nat)]) := et
      refine s_gtup (SqT.of et) rfl ?_
      walk_at "g"
      refine ⟨rfl, ?_⟩
      walk_at "g"
      refine s_i (by omega) ?_
      walk_at "g"
      have hme : metB x q = decide ((x : Int) % (q.1 : Int) = (y : Int)) := by unfold metB; rw [hqy]; rfl
      refine s_iten (fun c => ?_) (fun c => ?_)
      · walk_at "g"
        refine ⟨_, eG, line2 (by rw [List.length_map]; omega), same_upd' s6 hG, gl ++ [(q.1 : Int)], by rw [upd_same, List.map_append]; rfl, by rw [List.length_append]; simp; omega, ?_⟩
        rw [take_more hq]
        constructor
        · intro z; simp at z
        · intro z
          have := z q (by simp)
          rw [hme] at this
          exact absurd (of_decide_eq_true this) c
      · walk_at "g"
        refine ⟨s6, gl, eG, by omega, hiff.trans ?_⟩
        rw [take_more hq]
        constructor
        · intro z q' hq'
          rcases List.mem_append.mp hq' with w | w
          · exact z q' w
          · rw [List.mem_singleton.mp w, hme]; exact decide_eq_true c
        · intro z q' hq'
          exact z q' (List.mem_append_left _ hq')
    rintro H6 ⟨s6, gl, eG, hgl, hiff⟩
    rw [hyl, List.take_length] at hiff
    have S6 := S5.trans s6
    walk_at "g"
    refine s_lenL (SqL.of eG) ?_
    rw [List.length_map]
    walk_at "g"
    refine s_ite (fun c => ?_) (fun c => ?_)
    · have hlt : x < t := by
        rcases Nat.lt_or_ge x t with z | z
        · exact z
        · have e9 : x = t := by omega
          have := hiff.mpr (by rw [e9]; exact hmet)
          rw [this] at c
          simp at c
      walk_at "g"
      refine ⟨⟨S6, x + 1, by push_cast; rfl, by omega⟩, ?_⟩
      show t - (((x : Int) + 1)).toNat < t - (x : Int).toNat
      omega
    · walk_at "g"
      refine s_tupL (SqL.of (S6 _ _ eR)) fun u nu => ?_
      have s7 : Same H6 (upd H6 u (.tup ys)) := same_upd nu
      have eu : upd H6 u (.tup ys) u = some (.tup ys) := upd_same
      generalize upd H6 u (.tup ys) = H7 at s7 eu ⊢
      walk_at "g"
      refine mkT (by simp) fun S H8 nS eS s8 => ?_
      walk_at "g"
      refine mkT (by simp) fun T' H9 nT eT s9 => ?_
      have S9 := S6.trans (s7.trans (s8.trans s9))
      obtain ⟨ys', z1, hda⟩ := hR
      rw [eR] at z1
      cases z1
      exact k T' H9 _ (.inr (.inr ⟨hall, x, rfl, by omega⟩)) (.tup eT (.cons (.int _) (.cons (.tup (s9 _ _ eS) (.cons (.str _) (.cons (.tup (s9 _ _ (s8 _ _ eu)) (hda.same S9)) .nil))) .nil))) (hst.same S9) (SameB.of S9)

def isWh : PyData → Bool
  | .int _ => true
  | _ => false
theorem isWh_inv {d : PyData} (h : isWh d = true) : ∃ i, d = .int i := by
  cases d <;> first | exact ⟨_, rfl⟩ | cases h
/-- _law_is_whole(found), of any datum -/
def sp__law_is_whole : Sp := fun vs H Q _ => ∃ (v : V) (d : PyData), vs = [v] ∧ Da H v d ∧ Q (.bl (isWh d)) H
theorem ok__law_is_whole (T : Txt K mg) : FnOk P w K mg base CX0 1 (He.ga K "_law_is_whole") (fd__law_is_whole T) ["_law_thing"] sp__law_is_whole := by
  refine (F__law_is_whole T).ok sc__law_is_whole (fun vs H Q E h => ?_) (fun cdv A outer s H vs Q E hr h => ⟨_, PSs.nox (pss_one (ps_ret (pe_and (pe_callB call_isi rfl (T.fr (T.c.fact 52 rfl)) boot_isinstance (pa_cons (pv 0) (pa_cons (pe_bltn (v := .ty "int") rfl (T.fr (T.c.fact 53 rfl)) boot_int rfl) pa_nil))) (pe_one (pe_not (pe_callB call_isi rfl (T.fr (T.c.fact 52 rfl)) boot_isinstance (pa_cons (pv 0) (pa_cons (pe_bltn (v := .ty "bool") rfl (T.fr (T.c.fact 54 rfl)) boot_bool rfl) pa_nil)))))))), ?_⟩)
  · obtain ⟨v, d, rfl, _⟩ := h; rfl
  · obtain ⟨v, d, rfl, hd, k⟩ := h
    cases hd with
    | non => walk_at "g"; refine s_isi .non kb_ni ?_; walk_at "g"; exact k
    | bl b => walk_at "g"; refine s_isi (.bl b) kb_bi ?_; walk_at "g"; refine s_isi (.bl b) kb_bb ?_; walk_at "g"; exact k
    | int i => walk_at "g"; exact k
    | str x => walk_at "g"; refine s_isi (.str x) kb_si ?_; walk_at "g"; exact k
    | lst e _ => walk_at "g"; refine s_isi (.lst e) kb_li ?_; walk_at "g"; exact k
    | tup e _ => walk_at "g"; refine s_isi (.tup e) kb_ti ?_; walk_at "g"; exact k

theorem RowO.uniq {b a : Int} {p : Nat} {q : Nat × Option Nat} (hp : M.Prime p) (h : RowO b a p q) {d : PyData} : PlaceD p b a d ↔ ∃ y, q.2 = some y ∧ d = rowO q := by
  constructor
  · rintro ⟨e, y, rfl, ho, hy, hal⟩
    have he := ho.uniqueN h.1
    subst he
    obtain ⟨e, o⟩ := q
    cases o with
    | none =>
      exact absurd ((M.is1_congr (M.al_symm hal) e).mpr (M.one_pow_iff.mpr (M.one_of_dvd ho.one (Nat.dvd_mul_left _ _)))) (h.2.2 rfl)
    | some y' =>
      obtain ⟨h1, h2⟩ := h.2.1 y' rfl
      have h3 := M.al_pow_inv hp ho (M.al_trans hal h2)
      rw [Nat.mod_eq_of_lt hy, Nat.mod_eq_of_lt h1] at h3
      subst h3
      exact ⟨y, rfl, rfl⟩
  · rintro ⟨y, hy, rfl⟩
    obtain ⟨e, o⟩ := q
    have hy : o = some y := hy
    subst hy
    obtain ⟨h1, h2⟩ := h.2.1 y rfl
    exact ⟨e, y, rfl, h.1, h1, M.al_symm h2⟩
theorem RowO.none_iff {b a : Int} {p : Nat} {q : Nat × Option Nat} (h : RowO b a p q) : M.is1 p a q.1 ↔ q.2 ≠ none := by
  obtain ⟨e, o⟩ := q
  cases o with
  | none => exact ⟨fun z => absurd z (h.2.2 rfl), fun z => absurd rfl z⟩
  | some y => exact ⟨(fun _ z => by cases z), fun _ => (M.is1_congr (h.2.1 y rfl).2 e).mpr (M.one_pow_iff.mpr (M.one_of_dvd h.1.one (Nat.dvd_mul_left _ _)))⟩
theorem nb_two (i j : Int) : nb (.tuple [.int i, .int j]) = true := by simp [nb, nbs]
theorem bd_rowI {q : Nat × Option Nat} (h1 : q.1 ≤ 31) (h2 : ∀ y, q.2 = some y → y < q.1) : Bd 1 (rowO q) := by
  obtain ⟨e, o⟩ := q
  have h1 : e ≤ 31 := h1
  refine .tup (by simp) fun d hd => ?_
  simp only [List.mem_cons, List.not_mem_nil, or_false] at hd
  rcases hd with z | z <;> subst z
  · exact .int (by omega)
  · cases o with
    | none => exact .non
    | some y => exact .int (by have := h2 y rfl; have : y < e := this; omega)
theorem bd_two {i j : Int} (h1 : i.natAbs < 2 ^ 300) (h2 : j.natAbs < 2 ^ 300) : Bd 1 (.tuple [.int i, .int j]) := .tup (by simp) fun d hd => by
  simp only [List.mem_cons, List.not_mem_nil, or_false] at hd
  rcases hd with z | z <;> subst z
  · exact .int h1
  · exact .int h2
theorem nb_rowO (q : Nat × Option Nat) : nb (rowO q) = true := by
  obtain ⟨e, o⟩ := q
  cases o <;> simp [nb, nbs, rowO, optD]
/-- _law_is_row(row, due): is it just that row, of whole numbers -/
def sp__law_is_row : Sp := fun vs H Q _ => ∃ (v : V) (t : Addr) (d : PyData) (q : Nat × Option Nat), vs = [v, .ref t] ∧ Da H v d ∧ Bd 60 d ∧ H t = some (.tup [.int (q.1 : Nat), optV q.2]) ∧ q.1 ≤ 31 ∧ (∀ y, q.2 = some y → y < q.1) ∧
  ∀ (o : Bool) H', (o = true ↔ q.2 ≠ none ∧ d = rowO q) → Same H H' → Q (.bl o) H'
theorem ok__law_is_row (T : Txt K mg) : FnOk P w K mg base CX0 2 (He.ga K "_law_is_row") (fd__law_is_row T) ["_law_row", "_law_due_here"] sp__law_is_row := by
  refine (F__law_is_row T).ok sc__law_is_row (fun vs H Q E h => ?_) (fun cdv A outer s H vs Q E hr h => ⟨_, PSs.nox (pss_cons (ps_if (PW.pt (pw_or (pt_not (pt_val (pe_callB call_isi rfl (T.fr (T.c.fact 52 rfl)) boot_isinstance (pa_cons (pv 0) (pa_cons (pe_bltn (v := .ty "tuple") rfl (T.fr (T.c.fact 55 rfl)) boot_tuple rfl) pa_nil))))) (pw_or (pt_cmpR op_ne (pe_callB callLen rfl (T.fr (T.c.fact 56 rfl)) boot_len (pa_cons (pv 0) pa_nil)) pe_int (nomark _)) (pw_or (pt_not (pt_val (pe_call (ok__law_is_whole T) (hr.mono (by decide)) rfl (g__law_is_whole T) (kp__law_is_whole T) (B__law_is_whole T) .nil pass0 (pa_cons (pe_ix ix_seq (pv 0) pe_int (fun _ _ => rfl)) pa_nil)))) (pw_or1 (pt_not (pt_val (pe_call (ok__law_is_whole T) (hr.mono (by decide)) rfl (g__law_is_whole T) (kp__law_is_whole T) (B__law_is_whole T) .nil pass0 (pa_cons (pe_ix ix_seq (pv 0) pe_int (fun _ _ => rfl)) pa_nil))))))))) (pss_one (ps_ret pe_bl)) pss_nil)
      (pss_one (ps_ret (pe_cmpR (op_eqD hr.units) (pv 0) (pv 1) (nomark _))))), ?_⟩)
  · obtain ⟨v, t, d, q, rfl, _⟩ := h; rfl
  · obtain ⟨v, t, d, q, rfl, hd, hbd, et, hq1, hq2, k⟩ := h
    have bad : (∀ i j : Int, d ≠ .tuple [.int i, .int j]) → Q (.bl false) H := fun h => k false H ⟨fun z => (nomatch z), fun ⟨z1, z2⟩ => by
      obtain ⟨e, o⟩ := q
      cases o with
      | none => exact absurd rfl z1
      | some y => exact absurd z2 (h _ _)⟩ (Same.refl _)
    walk_at "g"
    refine s_isiTup hd ?_
    walk_at "g"
    cases ett : isTup d with
    | false =>
      walk_at "g"
      exact bad fun i j z => by rw [z] at ett; cases ett
    | true =>
    cases hd with
    | non => cases ett
    | bl b => cases ett
    | int i => cases ett
    | str x => cases ett
    | lst _ _ => cases ett
    | @tup u ys es eu hy =>
    have hyl := hy.len
    walk_at "g"
    refine s_lenT (SqT.of eu) ?_
    rw [hyl]
    walk_at "g"
    refine s_iten (fun c => ?_) (fun c => ?_)
    · walk_at "g"
      exact bad fun i j z => c (by rw [PyData.tuple.inj z]; rfl)
    obtain ⟨d0, d1, rfl⟩ : ∃ a0 a1, es = [a0, a1] := by
      match es, c with
      | [a, b], _ => exact ⟨a, b, rfl⟩
      | [], h => simp at h
      | [_], h => simp at h
      | _ :: _ :: _ :: _, h => simp at h; omega
    have hdd : Da H (.ref u) (.tuple [d0, d1]) := .tup eu hy
    obtain ⟨y0, y1, yr, rfl, h0, h1, h2⟩ := hy.two
    cases h2
    walk_at "g"
    refine s_ixT (SqT.of eu) (atI0 0 rfl rfl) ?_
    walk_at "g"
    refine ⟨y0, d0, rfl, h0, ?_⟩
    walk_at "g"
    cases w0 : isWh d0 with
    | false =>
      walk_at "g"
      exact bad fun i j z => by
        simp only [PyData.tuple.injEq, List.cons.injEq, and_true] at z
        rw [z.1] at w0; cases w0
    | true =>
    obtain ⟨i, rfl⟩ := isWh_inv w0
    walk_at "g"
    refine s_ixT (SqT.of eu) (atI0 1 rfl rfl) ?_
    walk_at "g"
    refine ⟨y1, d1, rfl, h1, ?_⟩
    walk_at "g"
    cases w1 : isWh d1 with
    | false =>
      walk_at "g"
      exact bad fun i j z => by
        simp only [PyData.tuple.injEq, List.cons.injEq, and_true] at z
        rw [z.2] at w1; cases w1
    | true =>
    obtain ⟨j, rfl⟩ := isWh_inv w1
    walk_at "g"
    refine s_eqD (.tuple [.int i, .int j]) (rowO q) (hdd.dp K) (DaF.dp K (F := fun _ => True) (.tup et (.cons (.int _) (.cons (optV_da _) .nil)))) (hbd.shaped (by decide)) ((bd_rowI hq1 hq2).shaped (by decide)) ?_
    refine k _ H ?_ (Same.refl _)
    rw [eqv_nb_iff (nb_two i j) (nb_rowO q) hbd.lay.1]
    constructor
    · intro z
      refine ⟨fun z2 => ?_, z⟩
      obtain ⟨e, o⟩ := q
      have z2 : o = none := z2
      subst z2
      simp [rowO, optD] at z
    · exact fun z => z.2
/-- _law_are_rows(found, rows) -/
def sp__law_are_rows (K : PySem.W.Frag) : Sp := fun vs H Q _ => ∃ (t R : Addr) (xs : List V) (ds : List PyData) (rws : List (Nat × Option Nat)), vs = [.ref t, .ref R] ∧ H t = some (.tup xs) ∧ DaL (fun _ => True) H xs ds ∧ (∀ d ∈ ds, Bd 60 d) ∧ ds.length = rws.length ∧ RowsAt H R rws ∧ AllP rws ∧ rws.length ≤ 4 ∧
  ∀ (o : Bool) H', (o = true ↔ ds = rws.map rowO) → Same H H' → Q (.bl o) H'
theorem ok__law_are_rows (T : Txt K mg) : FnOk P w K mg base CX0 3 (He.ga K "_law_are_rows") (fd__law_are_rows T) ["_law_found", "_law_rows_here"] (sp__law_are_rows K) := by
  refine (F__law_are_rows T).ok sc__law_are_rows (fun vs H Q E h => ?_) (fun cdv A outer s H vs Q E hr h => ⟨_, PSs.nox (pss_cons (ps_for PassesOwn.never rfl (RZN.pi_zipN rfl (T.fr (T.c.fact 61 rfl)) (pa_cons (pv 0) (pa_cons (pv 1) pa_nil))) (pg_tup rfl (pgs_cons (pg_name (i := 2) sc__law_are_rows.nd rfl (Or.inl rfl)) (pgs_cons (pg_name (i := 3) sc__law_are_rows.nd rfl (Or.inl rfl)) pgs_nil))) (pss_one (ps_if (pt_not (pt_val (pe_call (ok__law_is_row T) (hr.mono (by decide)) rfl (g__law_is_row T) (kp__law_is_row T) (B__law_is_row T) .nil pass0 (pa_cons (pv 2) (pa_cons (pv 3) pa_nil))))) (pss_one (ps_ret pe_bl)) pss_nil)))
      (pss_one (ps_ret pe_bl))), ?_⟩)
  · obtain ⟨t, R, xs, ds, rws, rfl, _⟩ := h; rfl
  · obtain ⟨t, R, xs, ds, rws, rfl, et, hds, hbd, hdl, hR, hall, hl4, k⟩ := h
    obtain ⟨ys, eR, hyl⟩ := hR.len
    have hxl := hds.len
    walk_at "g"
    refine s_zipN ?_
    walk_at "g"
    refine ⟨t, R, xs, ys, rfl, SqT.of et, SqL.of eR, ?_⟩
    refine for_it (walk_zipN (xs := xs) (ys := ys) (n := rws.length) (by omega)) (fun i σ H' => Same H H' ∧ ds.take i = (rws.map rowO).take i ∧ ∃ v2 v3 : Option V, σ = [some (.ref t), some (.ref R), v2, v3]) ⟨Same.refl _, by simp, none, none, rfl⟩ (fun i σ H' _ I => ⟨SqT.of (I.1 _ _ et), SqL.of (I.1 _ _ eR)⟩) ?_ ?_
    · rintro i v σ H1 H2 hi ⟨s1, htk, v2, v3, rfl⟩ ⟨T, x1, y1, rfl, nT, rfl, hx1, hy1⟩
      obtain ⟨d, hdi, hd⟩ := hds.get hx1
      have s2 : Same H1 (upd H1 T (.tup [x1, y1])) := same_upd nT
      have eT : upd H1 T (.tup [x1, y1]) T = some (.tup [x1, y1]) := upd_same
      generalize upd H1 T (.tup [x1, y1]) = H2 at s2 eT ⊢
      have S2 := s1.trans s2
      obtain ⟨t2, q, hq, rfl, et2⟩ := (hR.same S2).getV (S2 _ _ eR) hy1
      obtain ⟨q0, q31, y, hqy, yq⟩ := hall q (List.mem_of_getElem? hq)
      have hqr : (rws.map rowO)[i]? = some (rowO q) := by rw [List.getElem?_map, hq]; rfl
      refine s_gtup (SqT.of eT) rfl ?_
      walk_at "g"
      refine ⟨x1, t2, d, q, rfl, hd.same S2, hbd d (List.mem_of_getElem? hdi), et2, q31, fun z hz => by rw [hqy] at hz; cases hz; exact yq, fun o H3 ho s3 => ?_⟩
      have hoi : o = true ↔ d = rowO q := ho.trans ⟨fun z => z.2, fun z => ⟨by rw [hqy]; simp, z⟩⟩
      walk_at "g"
      cases o with
      | false =>
        walk_at "g"
        refine k false H3 ⟨fun z => (nomatch z), fun z => ?_⟩ (S2.trans s3)
        rw [z, hqr] at hdi
        cases hdi
        exact absurd (hoi.mpr rfl) (by simp)
      | true =>
        walk_at "g"
        refine ⟨S2.trans s3, ?_, _, _, rfl⟩
        rw [take_more hdi, take_more hqr, htk, hoi.mp rfl]
    · rintro σ H1 ⟨s1, htk, v2, v3, rfl⟩
      rw [List.take_of_length_le (by omega), List.take_of_length_le (by rw [List.length_map]; omega)] at htk
      walk_at "g"
      exact k true H1 ⟨fun _ => htk, fun _ => rfl⟩ s1
/-- _law_due_none(primes, a, rows, shown), of four things -/
def sp__law_due_none : Sp := fun vs H Q _ => ∃ (C R t : Addr) (L : List Nat) (a : Int) (rws : List (Nat × Option Nat)) (xs : List V) (d0 d1 d2 d3 : PyData), vs = [.ref C, .int a, .ref R, .ref t] ∧ H C = some (.lst (nv L)) ∧ L.length ≤ 4 ∧ (∀ z ∈ L, M.Prime z ∧ z ≤ 31) ∧ a.natAbs < 2 ^ 900 ∧ RowsAt H R rws ∧ rws.length = L.length ∧ (∀ q ∈ rws, q.1 ≤ 31) ∧ H t = some (.tup xs) ∧ DaL (fun _ => True) H xs [d0, d1, d2, d3] ∧ (∀ d ∈ [d0, d1, d2, d3], Bd 50 d) ∧
  ∀ (o : Bool) H', (o = true ↔ ∃ (n p e : Nat), L[n]? = some p ∧ rws[n]? = some (e, none) ∧ d1 = .int (n : Nat) ∧ d2 = .int (e : Nat) ∧ d3 = .int (M.pw p a e)) → Same H H' → Q (.bl o) H'
theorem ok__law_due_none (T : Txt K mg) : FnOk P w K mg base CX0 2 (He.ga K "_law_due_none") (fd__law_due_none T) ["_law_primes_here", "_law_a", "_law_rows_here", "_law_shown"] sp__law_due_none := by
  refine (F__law_due_none T).ok sc__law_due_none (fun vs H Q E h => ?_) (fun cdv A outer s H vs Q E hr h => ⟨_, PSs.nox (pss_cons (ps_if (PW.pt (pw_or (pt_not (pt_val (pe_call (ok__law_is_whole T) (hr.mono (by decide)) rfl (g__law_is_whole T) (kp__law_is_whole T) (B__law_is_whole T) .nil pass0 (pa_cons (pe_ix ix_seq (pv 3) pe_int (fun _ _ => rfl)) pa_nil)))) (pw_or (pt_not (pt_val (pe_call (ok__law_is_whole T) (hr.mono (by decide)) rfl (g__law_is_whole T) (kp__law_is_whole T) (B__law_is_whole T) .nil pass0 (pa_cons (pe_ix ix_seq (pv 3) pe_int (fun _ _ => rfl)) pa_nil)))) (pw_or1 (pt_not (pt_val (pe_call (ok__law_is_whole T) (hr.mono (by decide)) rfl (g__law_is_whole T) (kp__law_is_whole T) (B__law_is_whole T) .nil pass0 (pa_cons (pe_ix ix_seq (pv 3) pe_int (fun _ _ => rfl)) pa_nil)))))))) (pss_one (ps_ret pe_bl)) pss_nil)
      (pss_cons (ps_if (PW.pt (pw_or (pt_cmpR op_lt (pe_ix ix_seq (pv 3) pe_int (fun _ _ => rfl)) pe_int (nomark _)) (pw_or (pt_cmpR op_ge (pe_ix ix_seq (pv 3) pe_int (fun _ _ => rfl)) (pe_callB callLen rfl (T.fr (T.c.fact 56 rfl)) boot_len (pa_cons (pv 2) pa_nil)) (nomark _)) (pw_or1 (pt_cmpR op_notN1 (pe_ix ix_seq (pe_ix ix_seq (pv 2) (pe_ix ix_seq (pv 3) pe_int (fun _ _ => rfl)) (fun _ _ => rfl)) pe_int (fun _ _ => rfl)) pe_non (nomark _)))))) (pss_one (ps_ret pe_bl)) pss_nil)
      (pss_one (ps_ret (pe_cmpR (op_eqD hr.units) (pe_slice sl_tup (pv 3) (po_some pe_int) po_none) (pe_tup (pa_cons (pe_ix ix_seq (pe_ix ix_seq (pv 2) (pe_ix ix_seq (pv 3) pe_int (fun _ _ => rfl)) (fun _ _ => rfl)) pe_int (fun _ _ => rfl)) (pa_cons (pe_call (ok__law_rest T) (hr.mono (by decide)) rfl (g__law_rest T) (kp__law_rest T) (B__law_rest T) .nil pass0 (pa_cons (pe_ix ix_seq (pv 0) (pe_ix ix_seq (pv 3) pe_int (fun _ _ => rfl)) (fun _ _ => rfl)) (pa_cons (pv 1) (pa_cons (pe_ix ix_seq (pe_ix ix_seq (pv 2) (pe_ix ix_seq (pv 3) pe_int (fun _ _ => rfl)) (fun _ _ => rfl)) pe_int (fun _ _ => rfl)) pa_nil)))) pa_nil))) (nomark _)))))), ?_⟩)
  · obtain ⟨C, R, t, L, a, rws, xs, d0, d1, d2, d3, rfl, _⟩ := h; rfl
  · obtain ⟨C, R, t, L, a, rws, xs, d0, d1, d2, d3, rfl, hC, hl, hL, hab, hR, hrl, hr31, et, hds, hbd, k⟩ := h
    have bad : (∀ (n p e : Nat), L[n]? = some p → rws[n]? = some (e, none) → d1 = .int (n : Nat) → d2 = .int (e : Nat) → d3 = .int (M.pw p a e) → False) → ∀ H2, Same H H2 → Q (.bl false) H2 := fun h H2 s2 => k false H2 ⟨fun z => (nomatch z), fun ⟨n, p, e, h1, h2, h3, h4, h5⟩ => (h n p e h1 h2 h3 h4 h5).elim⟩ s2
    cases hds with
    | @cons x0 _ _ _ g0 hds =>
    cases hds with
    | @cons x1 _ _ _ g1 hds =>
    cases hds with
    | @cons x2 _ _ _ g2 hds =>
    cases hds with
    | @cons x3 _ _ _ g3 hds =>
    cases hds
    walk_at "g"
    refine s_ixT (SqT.of et) (atI0 1 rfl rfl) ?_
    walk_at "g"
    refine ⟨x1, d1, rfl, g1, ?_⟩
    walk_at "g"
    cases w1 : isWh d1 with
    | false =>
      walk_at "g"
      exact bad (fun n p e _ _ z _ _ => by rw [z] at w1; cases w1) H (Same.refl _)
    | true =>
    obtain ⟨i, rfl⟩ := isWh_inv w1
    walk_at "g"
    refine s_ixT (SqT.of et) (atI0 2 rfl rfl) ?_
    walk_at "g"
    refine ⟨x2, d2, rfl, g2, ?_⟩
    walk_at "g"
    cases w2 : isWh d2 with
    | false =>
      walk_at "g"
      exact bad (fun n p e _ _ _ z _ => by rw [z] at w2; cases w2) H (Same.refl _)
    | true =>
    obtain ⟨e2, rfl⟩ := isWh_inv w2
    walk_at "g"
    refine s_ixT (SqT.of et) (atI0 3 rfl rfl) ?_
    walk_at "g"
    refine ⟨x3, d3, rfl, g3, ?_⟩
    walk_at "g"
    cases w3 : isWh d3 with
    | false =>
      walk_at "g"
      exact bad (fun n p e _ _ _ _ z => by rw [z] at w3; cases w3) H (Same.refl _)
    | true =>
    obtain ⟨e3, rfl⟩ := isWh_inv w3
    have b2 := (hbd (.int e2) (by simp)).int_inv
    have b3 := (hbd (.int e3) (by simp)).int_inv
    cases g1
    cases g2
    cases g3
    obtain ⟨ys, eR, hyl⟩ := hR.len
    walk_at "g"
    refine s_ixT (SqT.of et) (atI0 1 rfl rfl) ?_
    walk_at "g"
    refine s_ite (fun c1 => ?_) (fun c1 => ?_)
    · walk_at "g"
      exact bad (fun n p e _ _ z _ _ => by have := PyData.int.inj z; omega) H (Same.refl _)
    walk_at "g"
    refine s_ixT (SqT.of et) (atI0 1 rfl rfl) ?_
    walk_at "g"
    refine s_lenL (SqL.of eR) ?_
    rw [hyl]
    walk_at "g"
    refine s_ite (fun c2 => ?_) (fun c2 => ?_)
    · walk_at "g"
      exact bad (fun n p e h1 h2 z _ _ => by
        have := PyData.int.inj z
        have := (List.getElem?_eq_some_iff.mp h2).1
        omega) H (Same.refl _)
    obtain ⟨n, rfl⟩ := Int.eq_ofNat_of_zero_le (show 0 ≤ i by omega)
    have hn : n < rws.length := by omega
    obtain ⟨⟨e, oo⟩, hx⟩ : ∃ q, rws[n]? = some q := ⟨_, List.getElem?_eq_getElem hn⟩
    obtain ⟨ys1, t1, a1, a2, a3⟩ := hR.get hx
    have he31 : e ≤ 31 := hr31 _ (List.mem_of_getElem? hx)
    walk_at "g"
    refine s_ixT (SqT.of et) (atI0 1 rfl rfl) ?_
    walk_at "g"
    refine s_ixL (SqL.of a1) (atI0 n rfl a2) ?_
    walk_at "g"
    cases oo with
    | some y =>
      have a3 : H t1 = some (.tup [.int (e : Nat), .int (y : Nat)]) := a3
      refine s_ixT (SqT.of a3) (atI0 1 rfl rfl) ?_
      walk_at "g"
      exact bad (fun n' p e h1 h2 z _ _ => by
        obtain rfl : n = n' := by have := PyData.int.inj z; omega
        rw [hx] at h2; cases h2) H (Same.refl _)
    | none =>
    have a3 : H t1 = some (.tup [.int (e : Nat), .non]) := a3
    refine s_ixT (SqT.of a3) (atI0 1 rfl rfl) ?_
    obtain ⟨p, hp⟩ : ∃ p, L[n]? = some p := ⟨_, List.getElem?_eq_getElem (by omega)⟩
    obtain ⟨hpp, hp9⟩ := hL p (List.mem_of_getElem? hp)
    have hp2 := hpp.1
    have hpx : (nv L)[n]? = some (.int (p : Nat)) := by unfold nv; rw [List.getElem?_map, List.getElem?_map, hp]; rfl
    have hr := M.pw_range (n := (p : Int)) (by omega) a e
    walk_at "g"
    refine mkSlT (SqT.of et) (by simp [HT.sIx]) fun T2 H3 nT2 eT2 s3 => ?_
    have hcut : cutV [x0, .int ((n : Nat) : Int), .int e2, .int e3] (some 2) none = [.int e2, .int e3] := by rfl
    rw [hcut] at eT2
    have a1' := s3 _ _ a1
    have a3' := s3 _ _ a3
    walk_at "g"
    refine s_ixT (SqT.of (s3 _ _ et)) (atI0 1 rfl rfl) ?_
    walk_at "g"
    refine s_ixL (SqL.of a1') (atI0 n rfl a2) ?_
    walk_at "g"
    refine s_ixT (SqT.of a3') (atI0 0 rfl rfl) ?_
    walk_at "g"
    refine s_ixT (SqT.of (s3 _ _ et)) (atI0 1 rfl rfl) ?_
    walk_at "g"
    refine s_ixL (SqL.of (s3 _ _ hC)) (atI0 n rfl hpx) ?_
    walk_at "g"
    refine s_ixT (SqT.of (s3 _ _ et)) (atI0 1 rfl rfl) ?_
    walk_at "g"
    refine s_ixL (SqL.of a1') (atI0 n rfl a2) ?_
    walk_at "g"
    refine s_ixT (SqT.of a3') (atI0 0 rfl rfl) ?_
    walk_at "g"
    refine ⟨p, e, a, rfl, hp2, hp9, he31, hab, ?_⟩
    walk_at "g"
    refine mkT (by simp) fun T4 H4 nT4 eT4 s4 => ?_
    walk_at "g"
    refine s_eqD (.tuple [.int e2, .int e3]) (.tuple [.int (e : Nat), .int (M.pw p a e)]) (DaF.dp K (F := fun _ => True) (.tup (s4 _ _ eT2) (.cons (.int _) (.cons (.int _) .nil)))) (DaF.dp K (F := fun _ => True) (.tup eT4 (.cons (.int _) (.cons (.int _) .nil)))) ((bd_two b2 b3).shaped (by decide)) ((bd_two (by omega) (by omega)).shaped (by decide)) ?_
    refine k _ H4 ?_ (s3.trans s4)
    rw [eqv_nb_iff (nb_two _ _) (nb_two _ _) (bd_two b2 b3).lay.1]
    constructor
    · intro z
      simp only [PyData.tuple.injEq, List.cons.injEq, and_true, PyData.int.injEq] at z
      exact ⟨n, p, e, hp, hx, rfl, by rw [z.1], by rw [z.2]⟩
    · rintro ⟨n', p', e', h1, h2, h3, h4, h5⟩
      obtain rfl : n = n' := by have := PyData.int.inj h3; omega
      rw [hx] at h2
      rw [hp] at h1
      cases h2
      cases h1
      rw [PyData.int.inj h4, PyData.int.inj h5]

theorem prDs_any {prs : List (Nat × Nat)} {d1 d2 : PyData} : ((prs.map prD).any fun z => PyData.eqv z (.tuple [d1, d2])) = true ↔ ∃ i j, (i, j) ∈ prs ∧ PyData.eqv (prD (i, j)) (.tuple [d1, d2]) = true := by
  rw [List.any_eq_true]
  constructor
  · rintro ⟨z, hz, h⟩
    obtain ⟨⟨i, j⟩, hq, rfl⟩ := List.mem_map.mp hz
    exact ⟨i, j, hq, h⟩
  · rintro ⟨i, j, hq, h⟩
    exact ⟨_, List.mem_map.mpr ⟨(i, j), hq, rfl⟩, h⟩
/-- _law_due_apart(rows, shown), of five things -/
def sp__law_due_apart : Sp := fun vs H Q _ => ∃ (R t : Addr) (rws : List (Nat × Option Nat)) (xs : List V) (d0 d1 d2 d3 d4 : PyData), vs = [.ref R, .ref t] ∧ RowsAt H R rws ∧ rws.length ≤ 4 ∧ AllP rws ∧ H t = some (.tup xs) ∧ DaL (fun _ => True) H xs [d0, d1, d2, d3, d4] ∧ (∀ d ∈ [d0, d1, d2, d3, d4], Bd 50 d) ∧
  ∀ (o : Bool) H', (o = true ↔ ∃ (i j : Nat) (q q' : Nat × Option Nat), ApR rws i j ∧ rws[i]? = some q ∧ rws[j]? = some q' ∧ d1 = .int (i : Nat) ∧ d2 = .int (j : Nat) ∧ d3 = rowO q ∧ d4 = rowO q') → Same H H' → Q (.bl o) H'
theorem ok__law_due_apart (T : Txt K mg) : FnOk P w K mg base CX0 3 (He.ga K "_law_due_apart") (fd__law_due_apart T) ["_law_rows_here", "_law_shown"] sp__law_due_apart := by
  refine (F__law_due_apart T).ok sc__law_due_apart (fun vs H Q E h => ?_) (fun cdv A outer s H vs Q E hr h => ⟨_, PSs.nox (pss_cons (ps_if (PW.pt (pw_or (pt_not (pt_val (pe_call (ok__law_is_whole T) (hr.mono (by decide)) rfl (g__law_is_whole T) (kp__law_is_whole T) (B__law_is_whole T) .nil pass0 (pa_cons (pe_ix ix_seq (pv 1) pe_int (fun _ _ => rfl)) pa_nil)))) (pw_or (pt_not (pt_val (pe_call (ok__law_is_whole T) (hr.mono (by decide)) rfl (g__law_is_whole T) (kp__law_is_whole T) (B__law_is_whole T) .nil pass0 (pa_cons (pe_ix ix_seq (pv 1) pe_int (fun _ _ => rfl)) pa_nil)))) (pw_or1 (pt_cmpR (R.op_notInQ (R.units65 hr)) (pe_tup (pa_cons (pe_ix ix_seq (pv 1) pe_int (fun _ _ => rfl)) (pa_cons (pe_ix ix_seq (pv 1) pe_int (fun _ _ => rfl)) pa_nil))) (pe_call (ok__law_pairs T) (hr.mono (by decide)) rfl (g__law_pairs T) (kp__law_pairs T) (B__law_pairs T) .nil pass0 (pa_cons (pv 0) pa_nil)) rfl))))) (pss_one (ps_ret pe_bl)) pss_nil)
      (pss_one (ps_ret (pe_and (pe_call (ok__law_is_row T) (hr.mono (by decide)) rfl (g__law_is_row T) (kp__law_is_row T) (B__law_is_row T) .nil pass0 (pa_cons (pe_ix ix_seq (pv 1) pe_int (fun _ _ => rfl)) (pa_cons (pe_ix ix_seq (pv 0) (pe_ix ix_seq (pv 1) pe_int (fun _ _ => rfl)) (fun _ _ => rfl)) pa_nil))) (pe_one (pe_call (ok__law_is_row T) (hr.mono (by decide)) rfl (g__law_is_row T) (kp__law_is_row T) (B__law_is_row T) .nil pass0 (pa_cons (pe_ix ix_seq (pv 1) pe_int (fun _ _ => rfl)) (pa_cons (pe_ix ix_seq (pv 0) (pe_ix ix_seq (pv 1) pe_int (fun _ _ => rfl)) (fun _ _ => rfl)) pa_nil)))))))), ?_⟩)
  · obtain ⟨R, t, rws, xs, d0, d1, d2, d3, d4, rfl, _⟩ := h; rfl
  · obtain ⟨R, t, rws, xs, d0, d1, d2, d3, d4, rfl, hR, hl, hall, et, hds, hbd, k⟩ := h
    have bad : (∀ (i j : Nat) (q q' : Nat × Option Nat), ApR rws i j → rws[i]? = some q → rws[j]? = some q' → d1 = .int (i : Nat) → d2 = .int (j : Nat) → d3 = rowO q → d4 = rowO q' → False) → ∀ H2, Same H H2 → Q (.bl false) H2 := fun h H2 s2 => k false H2 ⟨fun z => (nomatch z), fun ⟨i, j, q, q', h1, h2, h3, h4, h5, h6, h7⟩ => (h i j q q' h1 h2 h3 h4 h5 h6 h7).elim⟩ s2
    cases hds with
    | @cons x0 _ _ _ g0 hds =>
    cases hds with
    | @cons x1 _ _ _ g1 hds =>
    cases hds with
    | @cons x2 _ _ _ g2 hds =>
    cases hds with
    | @cons x3 _ _ _ g3 hds =>
    cases hds with
    | @cons x4 _ _ _ g4 hds =>
    cases hds
    walk_at "g"
    refine s_ixT (SqT.of et) (atI0 1 rfl rfl) ?_
    walk_at "g"
    refine ⟨x1, d1, rfl, g1, ?_⟩
    walk_at "g"
    cases w1 : isWh d1 with
    | false =>
      walk_at "g"
      exact bad (fun i j q q' _ _ _ z _ _ _ => by rw [z] at w1; cases w1) H (Same.refl _)
    | true =>
    obtain ⟨i, rfl⟩ := isWh_inv w1
    walk_at "g"
    refine s_ixT (SqT.of et) (atI0 2 rfl rfl) ?_
    walk_at "g"
    refine ⟨x2, d2, rfl, g2, ?_⟩
    walk_at "g"
    cases w2 : isWh d2 with
    | false =>
      walk_at "g"
      exact bad (fun i j q q' _ _ _ _ z _ _ => by rw [z] at w2; cases w2) H (Same.refl _)
    | true =>
    obtain ⟨j, rfl⟩ := isWh_inv w2
    have b1 := (hbd (.int i) (by simp)).int_inv
    have b2 := (hbd (.int j) (by simp)).int_inv
    cases g1
    cases g2
    walk_at "g"
    refine s_ixT (SqT.of et) (atI0 1 rfl rfl) ?_
    walk_at "g"
    refine s_ixT (SqT.of et) (atI0 2 rfl rfl) ?_
    walk_at "g"
    refine mkT (by simp) fun T2 H2 nT2 eT2 s2 => ?_
    walk_at "g"
    refine ⟨R, rws, rfl, hR.same s2, hl, hall, fun F H3 ps prs nF eF hps hpl hpr s3 => ?_⟩
    have S3 := s2.trans s3
    walk_at "g"
    refine ⟨F, ps, .tuple [.int i, .int j], prs.map prD, rfl, SqL.of eF, hps.dp K, DaF.dp K (F := fun _ => True) (.tup (s3 _ _ eT2) (.cons (.int _) (.cons (.int _) .nil))), (bd_two b1 b2).shaped (by decide), ?_, ?_⟩
    · refine (Bd.lst (n := 1) (by rw [List.length_map]; omega) fun d hd => ?_).shaped (by decide)
      obtain ⟨⟨i, j⟩, hq, rfl⟩ := List.mem_map.mp hd
      have h1 := (hpr i j).mp hq
      obtain ⟨h0, e, y, e', y', h2, h3, _⟩ := h1
      have h4 := (List.getElem?_eq_some_iff.mp h2).1
      have h5 := (List.getElem?_eq_some_iff.mp h3).1
      exact bd_two (by show ((i : Nat) : Int).natAbs < _; omega) (by show ((j : Nat) : Int).natAbs < _; omega)
    have hiff : ((prs.map prD).any fun z => PyData.eqv z (.tuple [.int i, .int j])) = true ↔ ∃ i' j', ApR rws i' j' ∧ i = (i' : Nat) ∧ j = (j' : Nat) := by
      rw [prDs_any]
      constructor
      · rintro ⟨i', j', hq, h⟩
        have := eqv_nb _ _ (nb_two _ _) (nb_two _ _) h
        simp only [prD, PyData.tuple.injEq, List.cons.injEq, and_true, PyData.int.injEq] at this
        exact ⟨i', j', (hpr i' j').mp hq, by omega, by omega⟩
      · rintro ⟨i', j', hq, rfl, rfl⟩
        exact ⟨i', j', (hpr i' j').mpr hq, eqv_refl _ (bd_two (i := ((i' : Nat) : Int)) (j := ((j' : Nat) : Int)) b1 b2).lay.1⟩
    walk_at "g"
    cases ea : ((prs.map prD).any fun z => PyData.eqv z (.tuple [.int i, .int j])) with
    | false =>
      walk_at "g"
      refine bad (fun i' j' q q' h1 _ _ z1 z2 _ _ => ?_) H3 S3
      have := hiff.mpr ⟨i', j', h1, PyData.int.inj z1, PyData.int.inj z2⟩
      rw [ea] at this; cases this
    | true =>
    obtain ⟨i', j', hap, rfl, rfl⟩ := hiff.mp ea
    obtain ⟨hij, e, y, e', y', hx1, hx2, _⟩ := id hap
    have hR3 := hR.same S3
    obtain ⟨ys1, t1, a1, a2, a3⟩ := hR3.get hx1
    obtain ⟨ys2, t2, c1, c2, c3⟩ := hR3.get hx2
    rw [a1] at c1
    cases c1
    have q1 := hall _ (List.mem_of_getElem? hx1)
    have q2 := hall _ (List.mem_of_getElem? hx2)
    have et3 := S3 _ _ et
    walk_at "g"
    refine s_ixT (SqT.of et3) (atI0 3 rfl rfl) ?_
    walk_at "g"
    refine s_ixT (SqT.of et3) (atI0 1 rfl rfl) ?_
    walk_at "g"
    refine s_ixL (SqL.of a1) (atI0 i' rfl a2) ?_
    walk_at "g"
    refine ⟨x3, t1, d3, _, rfl, g3.same S3, (hbd d3 (by simp)).mono (by decide), a3, q1.2.1, fun z hz => by obtain ⟨_, _, y0, h1, h2⟩ := q1; rw [h1] at hz; cases hz; exact h2, fun o1 H4 ho1 s4 => ?_⟩
    have S4 := S3.trans s4
    walk_at "g"
    cases o1 with
    | false =>
      walk_at "g"
      refine bad (fun i2 j2 q q' h1 h2 _ z1 _ z3 _ => ?_) H4 S4
      obtain rfl : i' = i2 := by have := PyData.int.inj z1; omega
      rw [hx1] at h2
      cases h2
      exact absurd (ho1.mpr ⟨by simp, z3⟩) (by simp)
    | true =>
    have hd3 := (ho1.mp rfl).2
    walk_at "g"
    refine s_ixT (SqT.of (s4 _ _ et3)) (atI0 4 rfl rfl) ?_
    walk_at "g"
    refine s_ixT (SqT.of (s4 _ _ et3)) (atI0 2 rfl rfl) ?_
    walk_at "g"
    refine s_ixL (SqL.of (s4 _ _ a1)) (atI0 j' rfl c2) ?_
    walk_at "g"
    refine ⟨x4, t2, d4, _, rfl, g4.same S4, (hbd d4 (by simp)).mono (by decide), s4 _ _ c3, q2.2.1, fun z hz => by obtain ⟨_, _, y0, h1, h2⟩ := q2; rw [h1] at hz; cases hz; exact h2, fun o2 H5 ho2 s5 => ?_⟩
    refine k o2 H5 (ho2.trans ?_) (S4.trans s5)
    constructor
    · rintro ⟨_, z⟩
      exact ⟨i', j', _, _, hap, hx1, hx2, rfl, rfl, hd3, z⟩
    · rintro ⟨i2, j2, q, q', _, h2, h3, z1, z2, _, z4⟩
      obtain rfl : j' = j2 := by have := PyData.int.inj z2; omega
      rw [hx2] at h3
      cases h3
      exact ⟨by simp, z4⟩

theorem paired_ix {α β : Type} {F : α → β → Prop} : ∀ {xs : List α} {ys : List β}, xs.length = ys.length → (∀ (i : Nat) (x : α) (y : β), xs[i]? = some x → ys[i]? = some y → F x y) → Paired F xs ys
  | [], [], _, _ => .nil
  | x :: xs, y :: ys, hl, h => .cons (h 0 x y rfl rfl) (paired_ix (by simpa using hl) fun i u v hu hv => h (i + 1) u v (by simpa using hu) (by simpa using hv))
  | [], _ :: _, hl, _ => by simp at hl
  | _ :: _, [], hl, _ => by simp at hl
/-- what stands about the papers, the rows and the numbers -/
structure DueC (ds : List PyData) (L : List Nat) (b a : Int) (rws : List (Nat × Option Nat)) : Prop where
  dl : ds.map pOf = L
  pr : ∀ z ∈ L, M.Prime z ∧ z ≤ 31
  un : ∀ z ∈ L, M.un z b ∧ M.un z a
  rw_ : Paired (RowO b a) L rws
  len : L.length ≤ 4
  pap : ∀ d ∈ ds, IsPap d
  ris : L.Pairwise (· < ·)
section
variable {ds : List PyData} {L : List Nat} {b a : Int} {rws : List (Nat × Option Nat)} {x d1 d2 d3 d4 dr : PyData}
theorem DueC.at_ (h : DueC ds L b a rws) {i : Nat} {d : PyData} (hi : ds[i]? = some d) : ∃ q, L[i]? = some (pOf d) ∧ rws[i]? = some q ∧ RowO b a (pOf d) q ∧ M.Prime (pOf d) := by
  have h1 : L[i]? = some (pOf d) := by rw [← h.dl, List.getElem?_map, hi]; rfl
  obtain ⟨q, h2, h3⟩ := pget h.rw_ h1
  exact ⟨q, h1, h2, h3, (h.pr _ (List.mem_of_getElem? h1)).1⟩
theorem DueC.of (h : DueC ds L b a rws) {i p : Nat} (hi : L[i]? = some p) : ∃ d q, ds[i]? = some d ∧ pOf d = p ∧ rws[i]? = some q ∧ RowO b a p q := by
  have h1 := hi
  rw [← h.dl, List.getElem?_map] at h1
  obtain ⟨d, h2, rfl⟩ := Option.map_eq_some_iff.mp h1
  obtain ⟨q, _, h3, h4, _⟩ := h.at_ h2
  exact ⟨d, q, h2, rfl, h3, h4⟩
theorem DueC.allun (h : DueC ds L b a rws) : ∀ d ∈ ds, M.un (pOf d) b ∧ M.un (pOf d) a := fun d hd => h.un _ (by rw [← h.dl]; exact List.mem_map.mpr ⟨d, hd, rfl⟩)
theorem shows_none (h : DueC ds L b a rws) : ShowsD ds b a (.tuple [x, .tuple [.str "none", d1, d2, d3]]) ↔ x = .none ∧ ∃ (n p e : Nat), L[n]? = some p ∧ rws[n]? = some (e, none) ∧ d1 = .int (n : Nat) ∧ d2 = .int (e : Nat) ∧ d3 = .int (M.pw p a e) := by
  constructor
  · rintro ⟨_, ⟨i, d, e, r, hi, z, hW⟩ | ⟨es, z, _⟩ | ⟨y, rows, z, _⟩⟩
    · simp only [PyData.tuple.injEq, List.cons.injEq, and_true, true_and] at z
      obtain ⟨rfl, rfl, rfl, rfl⟩ := z
      obtain ⟨q, g1, g2, g3, g4⟩ := h.at_ hi
      obtain ⟨e', ho, ⟨hn, z⟩ | ⟨_, _, _, _, _, z⟩⟩ := hW
      · simp only [PyData.tuple.injEq, List.cons.injEq, and_true, true_and] at z
        obtain ⟨rfl, rfl⟩ := z
        have := ho.uniqueN g3.1
        subst this
        obtain ⟨e, o⟩ := q
        cases o with
        | none => exact ⟨rfl, i, _, e, g1, g2, rfl, rfl, rfl⟩
        | some y => exact absurd (g3.none_iff.mpr (by simp)) hn
      · simp only [PyData.tuple.injEq, List.cons.injEq, PyData.str.injEq] at z
        exact absurd z.2.1.1 (by decide +kernel)
    · simp only [PyData.tuple.injEq, List.cons.injEq, PyData.str.injEq] at z
      exact absurd z.2.1.1 (by decide +kernel)
    · simp only [PyData.tuple.injEq, List.cons.injEq, PyData.str.injEq] at z
      exact absurd z.2.1.1 (by decide +kernel)
  · rintro ⟨rfl, n, p, e, h1, h2, rfl, rfl, rfl⟩
    obtain ⟨d, q, g1, rfl, g3, g4⟩ := h.of h1
    rw [h2] at g3
    cases g3
    refine ⟨h.allun, .inl ⟨n, d, _, _, g1, rfl, e, g4.1, .inl ⟨fun z => ?_, rfl⟩⟩⟩
    exact absurd rfl (g4.none_iff.mp z)
theorem shows_apart (h : DueC ds L b a rws) (hall : AllP rws) : ShowsD ds b a (.tuple [x, .tuple [.str "apart", d1, d2, d3, d4]]) ↔ x = .none ∧ ∃ (i j : Nat) (q q' : Nat × Option Nat), ApR rws i j ∧ rws[i]? = some q ∧ rws[j]? = some q' ∧ d1 = .int (i : Nat) ∧ d2 = .int (j : Nat) ∧ d3 = rowO q ∧ d4 = rowO q' := by
  constructor
  · rintro ⟨_, ⟨i, d, e, r, hi, z, hW⟩ | ⟨es, z, w, i, j, e, y, e', y', di, dj, z2, hij, hi, hj, p1, p2, hne⟩ | ⟨y, rows, z, _⟩⟩
    · simp only [PyData.tuple.injEq, List.cons.injEq, PyData.str.injEq] at z
      exact absurd z.2.1.1 (by decide +kernel)
    · simp only [PyData.tuple.injEq, List.cons.injEq, and_true, true_and] at z
      obtain ⟨rfl, rfl⟩ := z
      simp only [List.cons.injEq, and_true] at z2
      obtain ⟨rfl, rfl, rfl, rfl, rfl⟩ := z2
      obtain ⟨q, g1, g2, g3, g4⟩ := h.at_ hi
      obtain ⟨q', g1', g2', g3', g4'⟩ := h.at_ hj
      obtain ⟨y1, k1, k2⟩ := (g3.uniq g4).mp p1
      obtain ⟨y2, k3, k4⟩ := (g3'.uniq g4').mp p2
      obtain ⟨e0, o0⟩ := q
      obtain ⟨e1, o1⟩ := q'
      have k1 : o0 = some y1 := k1
      have k3 : o1 = some y2 := k3
      subst k1 k3
      simp only [rowO, optD, PyData.tuple.injEq, List.cons.injEq, PyData.int.injEq, and_true] at k2 k4
      obtain rfl : e = e0 := by omega
      obtain rfl : y = y1 := by omega
      obtain rfl : e' = e1 := by omega
      obtain rfl : y' = y2 := by omega
      exact ⟨rfl, i, j, _, _, ⟨hij, e, y, e', y', g2, g2', hne⟩, g2, g2', rfl, rfl, rfl, rfl⟩
    · simp only [PyData.tuple.injEq, List.cons.injEq, PyData.str.injEq] at z
      exact absurd z.2.1.1 (by decide +kernel)
  · rintro ⟨rfl, i, j, q, q', ⟨hij, e, y, e', y', h1, h2, hne⟩, h3, h4, rfl, rfl, rfl, rfl⟩
    rw [h1] at h3
    rw [h2] at h4
    cases h3
    cases h4
    have li : i < L.length := by rw [h.rw_.length]; exact (List.getElem?_eq_some_iff.mp h1).1
    have lj : j < L.length := by rw [h.rw_.length]; exact (List.getElem?_eq_some_iff.mp h2).1
    obtain ⟨di, q1, g1, g2, g3, g4⟩ := h.of (List.getElem?_eq_getElem li)
    obtain ⟨dj, q2, f1, f2, f3, f4⟩ := h.of (List.getElem?_eq_getElem lj)
    rw [h1] at g3
    rw [h2] at f3
    cases g3
    cases f3
    rw [← g2] at g4
    rw [← f2] at f4
    have hpi := (h.at_ g1).choose_spec.2.2.2
    have hpj := (h.at_ f1).choose_spec.2.2.2
    exact ⟨h.allun, .inr (.inl ⟨_, rfl, _, i, j, e, y, e', y', di, dj, rfl, hij, g1, f1, (g4.uniq hpi).mpr ⟨y, rfl, rfl⟩, (f4.uniq hpj).mpr ⟨y', rfl, rfl⟩, hne⟩)⟩
theorem shows_by (h : DueC ds L b a rws) : ShowsD ds b a (.tuple [x, .tuple [.str "by", dr]]) ↔ ∃ xn : Nat, x = .int (xn : Nat) ∧ dr = .tuple (rws.map rowO) ∧ AllP rws ∧ (∀ q ∈ rws, metB xn q = true) ∧ xn < M.lcmL (plO rws) := by
  have dll : ds.length = L.length := by rw [← h.dl, List.length_map]
  constructor
  · rintro ⟨_, ⟨i, d, e, r, hi, z, hW⟩ | ⟨es, z, _⟩ | ⟨y, rows, z, xn, pl, z1, z2, hP, hmet, hlt⟩⟩
    · simp only [PyData.tuple.injEq, List.cons.injEq, PyData.str.injEq] at z
      exact absurd z.2.1.1 (by decide +kernel)
    · simp only [PyData.tuple.injEq, List.cons.injEq, PyData.str.injEq] at z
      exact absurd z.2.1.1 (by decide +kernel)
    · simp only [PyData.tuple.injEq, List.cons.injEq, and_true, true_and] at z
      obtain ⟨rfl, rfl⟩ := z
      have key : rws = pl.map fun q => (q.1, some q.2) := by
        refine List.ext_getElem? fun i => ?_
        rw [List.getElem?_map]
        rcases Nat.lt_or_ge i ds.length with c | c
        · obtain ⟨d, hd⟩ : ∃ d, ds[i]? = some d := ⟨_, List.getElem?_eq_getElem c⟩
          obtain ⟨q, g1, g2, g3, g4⟩ := h.at_ hd
          obtain ⟨r, g5, g6⟩ := pget hP hd
          obtain ⟨y, k1, k2⟩ := (g3.uniq g4).mp g6
          obtain ⟨e0, o0⟩ := q
          have k1 : o0 = some y := k1
          subst k1
          simp only [rowN, rowO, optD, PyData.tuple.injEq, List.cons.injEq, PyData.int.injEq, and_true] at k2
          rw [g2, g5]
          show some (e0, some y) = some (r.1, some r.2)
          rw [show r.1 = e0 by omega, show r.2 = y by omega]
        · have c2 : pl.length ≤ i := by rw [← hP.length]; exact c
          have c3 : rws.length ≤ i := by rw [← h.rw_.length]; omega
          rw [List.getElem?_eq_none c2, List.getElem?_eq_none c3]; rfl
      refine ⟨xn, z1, ?_, ?_, ?_, ?_⟩
      · rw [z2, key, List.map_map]; rfl
      · intro q hq
        obtain ⟨p, hp, h1, h2, _⟩ := paired_mem h.rw_ hq
        have h3 := h.pr p hp
        have h4 := h1.pos
        have h5 := h1.le h3.1 (h1.unit h3.1)
        rw [key] at hq
        obtain ⟨r, hr, rfl⟩ := List.mem_map.mp hq
        exact ⟨h4, by omega, r.2, rfl, (h2 r.2 rfl).1⟩
      · intro q hq
        rw [key] at hq
        obtain ⟨r, hr, rfl⟩ := List.mem_map.mp hq
        exact decide_eq_true (hmet r hr)
      · have e : plO rws = plI pl := by rw [key]; unfold plO plI; rw [List.map_map]; rfl
        rw [e]; exact hlt
  · rintro ⟨xn, rfl, rfl, hall, hmet, hlt⟩
    obtain ⟨pl, key⟩ : ∃ pl : List (Nat × Nat), rws = pl.map fun q => (q.1, some q.2) := by
      refine ⟨rws.map fun q => (q.1, q.2.getD 0), ?_⟩
      rw [List.map_map]
      refine (List.map_id rws).symm.trans (List.map_congr_left fun q hq => ?_)
      obtain ⟨_, _, y, hy, _⟩ := hall q hq
      obtain ⟨e, o⟩ := q
      have hy : o = some y := hy
      subst hy
      rfl
    have hpl : pl.length = ds.length := by
      have := congrArg List.length key
      rw [List.length_map] at this
      rw [← this, dll, h.rw_.length]
    refine ⟨h.allun, .inr (.inr ⟨_, _, rfl, xn, pl, rfl, by rw [key, List.map_map]; rfl, paired_ix hpl.symm fun i d q hd hq => ?_, fun q hq => ?_, ?_⟩)⟩
    · obtain ⟨q', g1, g2, g3, g4⟩ := h.at_ hd
      rw [key, List.getElem?_map, hq] at g2
      cases g2
      exact (g3.uniq g4).mpr ⟨q.2, rfl, rfl⟩
    · have := hmet (q.1, some q.2) (by rw [key]; exact List.mem_map.mpr ⟨q, hq, rfl⟩)
      exact of_decide_eq_true this
    · have e : plO rws = plI pl := by rw [key]; unfold plO plI; rw [List.map_map]; rfl
      rw [← e]; exact hlt
theorem shows_tup {dt : PyData} (h : ShowsD ds b a dt) : ∃ x es, dt = .tuple [x, .tuple es] ∧ ((∃ d1 d2 d3, es = [.str "none", d1, d2, d3]) ∨ (∃ d1 d2 d3 d4, es = [.str "apart", d1, d2, d3, d4]) ∨ ∃ dr, es = [.str "by", dr]) := by
  obtain ⟨_, ⟨i, d, e, r, hi, z, hW⟩ | ⟨es, z, w, i, j, e, y, e', y', di, dj, z2, _⟩ | ⟨y, rows, z, _⟩⟩ := h
  · exact ⟨_, _, z, .inl ⟨_, _, _, rfl⟩⟩
  · simp only [List.cons.injEq] at z2
    rw [z2.2] at z
    exact ⟨_, _, z, .inr (.inl ⟨_, _, _, _, rfl⟩)⟩
  · exact ⟨_, _, z, .inr (.inr ⟨_, rfl⟩)⟩
end

theorem s_ifand {c c' : TT} {t u : TS} {D : Ends} {σ : L2.St} {H : Hp} (b1 b2 : Bool) (h1 : ∀ QB : Bool → Hp → Prop, QB b1 H → c σ H QB) (h2 : b1 = true → ∀ QB : Bool → Hp → Prop, QB b2 H → c' σ H QB) (h : if (b1 && b2) = true then t D σ H else u D σ H) : tIfS (tAnd c c') t u D σ H := s_if (s_andc (h1 _ (by
  cases b1 with
  | false => exact s_iteF (s_iteF h)
  | true => exact s_iteT (h2 rfl _ h))))
/-- _law_due(primes, a, rows, thing): whether it is told so -/
def sp__law_due (K : PySem.W.Frag) : Sp := fun vs H Q _ => ∃ (C R : Addr) (v : V) (ds : List PyData) (L : List Nat) (b a : Int) (rws : List (Nat × Option Nat)) (dt : PyData), vs = [.ref C, .int a, .ref R, v] ∧ DueC ds L b a rws ∧ H C = some (.lst (nv L)) ∧ a.natAbs < 2 ^ 900 ∧ RowsAt H R rws ∧ Da H v dt ∧ Bd 52 dt ∧
  ((∃ q ∈ rws, q.2 = none) → ∀ x es, dt = .tuple [x, .tuple (.str "apart" :: es)] → es.length ≠ 4) ∧
  ∀ (o : Bool) H', (o = true ↔ ShowsD ds b a dt) → Same H H' → Q (.bl o) H'
theorem ok__law_due (T : Txt K mg) : FnOk P w K mg base CX0 4 (He.ga K "_law_due") (fd__law_due T) ["_law_primes_here", "_law_a", "_law_rows_here", "_law_thing"] (sp__law_due K) := by
  refine (F__law_due T).ok sc__law_due (fun vs H Q E h => ?_) (fun cdv A outer s H vs Q E hr h => ⟨_, PSs.nox (pss_cons (ps_if (PW.pt (pw_or (pt_not (pt_val (pe_callB call_isi rfl (T.fr (T.c.fact 52 rfl)) boot_isinstance (pa_cons (pv 3) (pa_cons (pe_bltn (v := .ty "tuple") rfl (T.fr (T.c.fact 55 rfl)) boot_tuple rfl) pa_nil))))) (pw_or (pt_cmpR op_ne (pe_callB callLen rfl (T.fr (T.c.fact 56 rfl)) boot_len (pa_cons (pv 3) pa_nil)) pe_int (nomark _)) (pw_or (pt_not (pt_val (pe_callB call_isi rfl (T.fr (T.c.fact 52 rfl)) boot_isinstance (pa_cons (pe_ix ix_seq (pv 3) pe_int (fun _ _ => rfl)) (pa_cons (pe_bltn (v := .ty "tuple") rfl (T.fr (T.c.fact 55 rfl)) boot_tuple rfl) pa_nil))))) (pw_or1 (pt_cmpR op_eq (pe_callB callLen rfl (T.fr (T.c.fact 56 rfl)) boot_len (pa_cons (pe_ix ix_seq (pv 3) pe_int (fun _ _ => rfl)) pa_nil)) pe_int (nomark _))))))) (pss_one (ps_ret pe_bl)) pss_nil)
      (pss_cons (ps_asg (pv 3) (pg_tup rfl (pgs_cons (pg_name (i := 4) sc__law_due.nd rfl (Or.inr rfl)) (pgs_cons (pg_name (i := 5) sc__law_due.nd rfl (Or.inl rfl)) pgs_nil))))
      (pss_cons (ps_if (PW.pt (pw_and (pt_cmpR op_eq (pe_callB callLen rfl (T.fr (T.c.fact 56 rfl)) boot_len (pa_cons (pv 5) pa_nil)) pe_int (nomark _)) (pw_and1 (pt_cmpR (op_eqD hr.units) (pe_ix ix_seq (pv 5) pe_int (fun _ _ => rfl)) pe_str (nomark _))))) (pss_one (ps_ret (pe_and (pe_cmpR op_isN1 (pv 4) pe_non (nomark _)) (pe_one (pe_call (ok__law_due_none T) (hr.mono (by decide)) rfl (g__law_due_none T) (kp__law_due_none T) (B__law_due_none T) .nil pass0 (pa_cons (pv 0) (pa_cons (pv 1) (pa_cons (pv 2) (pa_cons (pv 5) pa_nil))))))))) pss_nil)
      (pss_cons (ps_if (pt_cmpR op_in_seq pe_non (pe_lc (own := [("_law_e", 7), ("_law_y", 8)]) (tt := tYes) (g := gTup K 2 (gCons (gName 7) (gCons (gName 8) gNil))) rfl sc__law_due.nd (pi_list (pv 2)) (blkOk_by (N := N__law_due) (sc := defScope s__law_due) (by decide +kernel)) (fun _ _ _ _ _ => (pg_tup rfl (pgs_cons (pg_name (i := 7) sc__law_due.nd rfl (Or.inl rfl)) (pgs_cons (pg_name (i := 8) sc__law_due.nd rfl (Or.inl rfl)) pgs_nil)))) (fun _ _ _ _ _ => pts_nil) (fun _ _ _ _ _ => (pv 8))) rfl) (pss_one (ps_ret pe_bl)) pss_nil)
      (pss_cons (ps_if (PW.pt (pw_and (pt_cmpR op_eq (pe_callB callLen rfl (T.fr (T.c.fact 56 rfl)) boot_len (pa_cons (pv 5) pa_nil)) pe_int (nomark _)) (pw_and1 (pt_cmpR (op_eqD hr.units) (pe_ix ix_seq (pv 5) pe_int (fun _ _ => rfl)) pe_str (nomark _))))) (pss_one (ps_ret (pe_and (pe_cmpR op_isN1 (pv 4) pe_non (nomark _)) (pe_one (pe_call (ok__law_due_apart T) (hr.mono (by decide)) rfl (g__law_due_apart T) (kp__law_due_apart T) (B__law_due_apart T) .nil pass0 (pa_cons (pv 2) (pa_cons (pv 5) pa_nil))))))) pss_nil)
      (pss_cons (ps_if (PW.pt (pw_or (pt_cmpR op_ne (pe_callB callLen rfl (T.fr (T.c.fact 56 rfl)) boot_len (pa_cons (pv 5) pa_nil)) pe_int (nomark _)) (pw_or (pt_cmpR (op_neD hr.units) (pe_ix ix_seq (pv 5) pe_int (fun _ _ => rfl)) pe_str (nomark _)) (pw_or (pt_not (pt_val (pe_callB call_isi rfl (T.fr (T.c.fact 52 rfl)) boot_isinstance (pa_cons (pe_ix ix_seq (pv 5) pe_int (fun _ _ => rfl)) (pa_cons (pe_bltn (v := .ty "tuple") rfl (T.fr (T.c.fact 55 rfl)) boot_tuple rfl) pa_nil))))) (pw_or1 (pt_cmpR op_ne (pe_callB callLen rfl (T.fr (T.c.fact 56 rfl)) boot_len (pa_cons (pe_ix ix_seq (pv 5) pe_int (fun _ _ => rfl)) pa_nil)) (pe_callB callLen rfl (T.fr (T.c.fact 56 rfl)) boot_len (pa_cons (pv 2) pa_nil)) (nomark _))))))) (pss_one (ps_ret pe_bl)) pss_nil)
      (pss_cons (ps_if (PW.pt (pw_or (pt_not (pt_val (pe_call (ok__law_is_whole T) (hr.mono (by decide)) rfl (g__law_is_whole T) (kp__law_is_whole T) (B__law_is_whole T) .nil pass0 (pa_cons (pv 4) pa_nil)))) (pw_or1 (pt_not (pt_val (pe_call (ok__law_are_rows T) (hr.mono (by decide)) rfl (g__law_are_rows T) (kp__law_are_rows T) (B__law_are_rows T) .nil pass0 (pa_cons (pe_ix ix_seq (pv 5) pe_int (fun _ _ => rfl)) (pa_cons (pv 2) pa_nil)))))))) (pss_one (ps_ret pe_bl)) pss_nil)
      (pss_cons (ps_set (i := 6) sc__law_due.nd rfl (Or.inl rfl) pe_int)
      (pss_cons (ps_for PassesOwn.never rfl (pi_list (pv 2)) (pg_tup rfl (pgs_cons (pg_name (i := 7) sc__law_due.nd rfl (Or.inl rfl)) (pgs_cons (pg_name (i := 8) sc__law_due.nd rfl (Or.inl rfl)) pgs_nil))) (pss_one (ps_set (i := 6) sc__law_due.nd rfl (Or.inl rfl) (pe_op op_mulW (pe_op op_fdivW (pv 6) (pe_call (ok__law_common T) (hr.mono (by decide)) rfl (g__law_common T) (kp__law_common T) (B__law_common T) .nil pass0 (pa_cons (pv 6) (pa_cons (pv 7) pa_nil)))) (pv 7)))))
      (pss_one (ps_ret (pe_and (pe_cmpR op_le pe_int (pv 4) (nomark _)) (pe_and (pe_cmpR op_lt (pv 4) (pv 6) (nomark _)) (pe_one (pe_cmpR op_eq (pe_callB callLen rfl (T.fr (T.c.fact 56 rfl)) boot_len (pa_cons (pe_lc (own := [("_law_e", 7), ("_law_y", 8)]) (g := gTup K 2 (gCons (gName 7) (gCons (gName 8) gNil))) rfl sc__law_due.nd (pi_list (pv 2)) (blkOk_by (N := N__law_due) (sc := defScope s__law_due) (by decide +kernel)) (fun _ _ _ _ _ => (pg_tup rfl (pgs_cons (pg_name (i := 7) sc__law_due.nd rfl (Or.inl rfl)) (pgs_cons (pg_name (i := 8) sc__law_due.nd rfl (Or.inl rfl)) pgs_nil)))) (fun _ _ _ _ _ => (pts_one (pt_cmpR op_ne (pe_op op_mod (pv 4) (pv 7)) (pv 8) (nomark _)))) (fun _ _ _ _ _ => (pv 7))) pa_nil)) pe_int (nomark _)))))))))))))))), ?_⟩)
  · obtain ⟨C, R, v, ds, L, b, a, rws, dt, rfl, _⟩ := h; rfl
  · obtain ⟨C, R, v, ds, L, b, a, rws, dt, rfl, hc, hC, hab, hR, hd, hbd, hna, k⟩ := h
    have bad : ¬ ShowsD ds b a dt → ∀ H2, Same H H2 → Q (.bl false) H2 := fun h H2 s2 => k false H2 ⟨fun z => (nomatch z), fun z => absurd z h⟩ s2
    have hrl : rws.length = L.length := hc.rw_.length.symm
    have hl4 := hc.len
    have hb31 : ∀ q ∈ rws, 0 < q.1 ∧ q.1 ≤ 31 ∧ ∀ y, q.2 = some y → y < q.1 := fun q hq => by
      obtain ⟨p, hp, h1, h2, _⟩ := paired_mem hc.rw_ hq
      have h3 := hc.pr p hp
      have h4 := h1.pos
      have h5 := h1.le h3.1 (h1.unit h3.1)
      exact ⟨h4, by omega, fun y hy => (h2 y hy).1⟩
    obtain ⟨ys, eR, hyl⟩ := hR.len
    walk_at "g"
    refine s_isiTup hd ?_
    walk_at "g"
    cases ett : isTup dt with
    | false =>
      walk_at "g"
      exact bad (fun z => by obtain ⟨x, es, rfl, _⟩ := shows_tup z; cases ett) H (Same.refl _)
    | true =>
    cases hd with
    | non => cases ett
    | bl b => cases ett
    | int i => cases ett
    | str x => cases ett
    | lst _ _ => cases ett
    | @tup u xs es eu hes =>
    have hxl := hes.len
    walk_at "g"
    refine s_lenT (SqT.of eu) ?_
    rw [hxl]
    walk_at "g"
    refine s_iten (fun c => ?_) (fun c => ?_)
    · walk_at "g"
      exact bad (fun z => by obtain ⟨x, es', e, _⟩ := shows_tup z; exact c (by rw [PyData.tuple.inj e]; rfl)) H (Same.refl _)
    obtain ⟨dx, dsh, rfl⟩ : ∃ a0 a1, es = [a0, a1] := by
      match es, c with
      | [a, b], _ => exact ⟨a, b, rfl⟩
      | [], h => simp at h
      | [_], h => simp at h
      | _ :: _ :: _ :: _, h => simp at h; omega
    obtain ⟨m1, em1, _, hb1⟩ := hbd.tup_inv
    obtain rfl : m1 = 51 := by omega
    have hbx := hb1 dx (by simp)
    have hbs := hb1 dsh (by simp)
    obtain ⟨vx, vs, yr, rfl, h0, h1, h2⟩ := hes.two
    cases h2
    walk_at "g"
    refine s_ixT (SqT.of eu) (atI0 1 rfl rfl) ?_
    walk_at "g"
    refine s_isiTup h1 ?_
    walk_at "g"
    cases ett2 : isTup dsh with
    | false =>
      walk_at "g"
      exact bad (fun z => by
        obtain ⟨x, es, e, _⟩ := shows_tup z
        simp only [PyData.tuple.injEq, List.cons.injEq, and_true] at e
        rw [e.2] at ett2; cases ett2) H (Same.refl _)
    | true =>
    cases h1 with
    | non => cases ett2
    | bl b => cases ett2
    | int i => cases ett2
    | str x => cases ett2
    | lst _ _ => cases ett2
    | @tup ts zs ss ets hss =>
    have hzl := hss.len
    obtain ⟨m2, em2, _, hb2⟩ := hbs.tup_inv
    obtain rfl : m2 = 50 := by omega
    walk_at "g"
    refine s_ixT (SqT.of eu) (atI0 1 rfl rfl) ?_
    walk_at "g"
    refine s_lenT (SqT.of ets) ?_
    rw [hzl]
    walk_at "g"
    refine s_ite (fun c2 => ?_) (fun c2 => ?_)
    · walk_at "g"
      exact bad (fun z => by
        obtain ⟨x, es, e, h⟩ := shows_tup z
        simp only [PyData.tuple.injEq, List.cons.injEq, and_true] at e
        have : ss.length = 0 := by omega
        rw [e.2] at this
        obtain ⟨_, _, _, rfl⟩ | ⟨_, _, _, _, rfl⟩ | ⟨_, rfl⟩ := h <;> simp at this) H (Same.refl _)
    cases ss with
    | nil => simp at c2
    | cons s0 sr =>
    cases hss with
    | @cons z0 _ zr _ g0 hsr =>
    have hb0 := hb2 s0 (by simp)
    have badS : (∀ d1 d2 d3, s0 :: sr = [.str "none", d1, d2, d3] → False) → (∀ d1 d2 d3 d4, s0 :: sr = [.str "apart", d1, d2, d3, d4] → False) → (∀ dr, s0 :: sr = [.str "by", dr] → False) → ¬ ShowsD ds b a (.tuple [dx, .tuple (s0 :: sr)]) := fun n1 n2 n3 z => by
      obtain ⟨x, es, e, h⟩ := shows_tup z
      have e1 := (List.cons.inj (PyData.tuple.inj e)).2
      have e2 := PyData.tuple.inj (List.cons.inj e1).1
      rw [← e2] at h
      obtain ⟨_, _, _, h⟩ | ⟨_, _, _, _, h⟩ | ⟨_, h⟩ := h
      · exact n1 _ _ _ h
      · exact n2 _ _ _ _ h
      · exact n3 _ h
    walk_at "g"
    refine s_gtup (SqT.of eu) rfl ?_
    walk_at "h"
    have hlz : ((z0 :: zr).length : Int) = ((s0 :: sr).length : Int) := by rw [hzl]
    refine s_ifand (decide (((z0 :: zr).length : Int) = 4)) (PyData.eqv s0 (.str "none")) (fun QB q => by
      walk_at "g"
      refine s_lenT (SqT.of ets) ?_
      walk_at "g"
      exact q) (fun _ QB q => by
      walk_at "g"
      refine s_ixT (SqT.of ets) (atI0 0 rfl rfl) ?_
      walk_at "g"
      refine s_eqD s0 (.str "none") (g0.dp K) (.str _) (hb0.shaped (by decide)) ((Bd.str _ (by decide +kernel) : Bd 1 _).shaped (by decide)) ?_
      walk_at "g"
      exact q) ?_
    rw [hlz]
    cases cN : (decide (((s0 :: sr).length : Int) = 4) && PyData.eqv s0 (.str "none")) with
    | true =>
      rw [Bool.and_eq_true, decide_eq_true_eq, eqv_str] at cN
      obtain ⟨c4, rfl⟩ := cN
      obtain ⟨d1, d2, d3, rfl⟩ : ∃ a b c, sr = [a, b, c] := by
        match sr, c4 with
        | [a, b, c], _ => exact ⟨a, b, c, rfl⟩
        | [], h => simp at h
        | [_], h => simp at h
        | [_, _], h => simp at h
        | _ :: _ :: _ :: _ :: _, h => simp at h; omega
      walk_at "g"
      refine ⟨rfl, ?_⟩
      by_cases cx : vx = .non
      · subst cx
        cases h0
        rw [decide_eq_true rfl]
        walk_at "g"
        refine ⟨C, R, ts, L, a, rws, _, _, _, _, _, rfl, hC, hl4, hc.pr, hab, hR, hrl, fun q hq => (hb31 q hq).2.1, ets, .cons g0 hsr, hb2, fun o H2 ho s2 => ?_⟩
        exact k o H2 (ho.trans ((shows_none hc).trans ⟨fun z => z.2, fun z => ⟨rfl, z⟩⟩).symm) s2
      · rw [decide_eq_false cx]
        walk_at "g"
        refine bad (fun z => cx ?_) H (Same.refl _)
        have := ((shows_none hc).mp z).1
        rw [this] at h0
        cases h0; rfl
    | false =>
    have notN : ∀ d1 d2 d3, s0 :: sr ≠ [.str "none", d1, d2, d3] := fun d1 d2 d3 z => by
      rw [(List.cons.inj z).1, (List.cons.inj z).2, eqv_str.mpr rfl] at cN
      simp at cN
    walk_at "g"
    refine s_lc ?_
    walk_at "g"
    refine ⟨⟨_, SqL.of eR⟩, fun F hF => ?_⟩
    refine lc_list (fun i H2 => Same H H2 ∧ H2 F = some (.lst ((rws.take i).map fun q => optV q.2))) ⟨same_upd hF, upd_same⟩ (fun i H2 _ I => SqL.of (I.1 _ _ eR)) ?_ ?_
    · rintro i v H2 hi ⟨s2, eF⟩
      obtain ⟨t2, q, hq, rfl, et⟩ := (hR.same s2).getV (s2 _ _ eR) hi
      refine s_gtup (SqT.of et) rfl ?_
      walk_at "g"
      refine ⟨rfl, ?_⟩
      walk_at "g"
      refine ⟨_, eF, line2 (by rw [List.length_map, List.length_take]; omega), same_upd' s2 hF, ?_⟩
      rw [upd_same, take_more hq, List.map_append]; rfl
    rintro H2 ⟨s2, eF⟩
    rw [hyl, List.take_length] at eF
    refine ⟨F, _, rfl, .inl (SqL.of eF), rfl, by rw [List.all_eq_true]; intro z hz; obtain ⟨q, _, rfl⟩ := List.mem_map.mp hz; obtain ⟨e, o⟩ := q; cases o <;> rfl, ?_⟩
    rw [if_neg Bool.false_ne_true]
    have hiN : inV .non (rws.map fun q => optV q.2) = true ↔ ∃ q ∈ rws, q.2 = none := by
      unfold inV
      rw [List.any_eq_true]
      constructor
      · rintro ⟨z, hz, h⟩
        obtain ⟨q, hq, rfl⟩ := List.mem_map.mp hz
        refine ⟨q, hq, ?_⟩
        obtain ⟨e, o⟩ := q
        cases o with
        | none => rfl
        | some y => simp [optV, eqV] at h
      · rintro ⟨q, hq, h⟩
        exact ⟨_, List.mem_map.mpr ⟨q, hq, rfl⟩, by rw [h]; rfl⟩
    walk_at "g"
    cases cH : inV .non (rws.map fun q => optV q.2) with
    | true =>
      obtain ⟨q, hq, hqn⟩ := hiN.mp cH
      walk_at "g"
      refine bad (fun z => ?_) H2 s2
      obtain ⟨x, es, e, h⟩ := shows_tup z
      have e1 := (List.cons.inj (PyData.tuple.inj e)).2
      have e2 := PyData.tuple.inj (List.cons.inj e1).1
      rw [← e2] at h
      obtain ⟨d1, d2, d3, h⟩ | ⟨d1, d2, d3, d4, h⟩ | ⟨dr, h⟩ := h
      · exact notN _ _ _ h
      · rw [h] at hna
        exact hna ⟨q, hq, hqn⟩ dx _ rfl rfl
      · rw [h] at z
        obtain ⟨xn, _, _, hall, _⟩ := (shows_by hc).mp z
        obtain ⟨_, _, y, h1, _⟩ := hall q hq
        rw [hqn] at h1; cases h1
    | false =>
    have hall : AllP rws := fun q hq => by
      obtain ⟨h1, h2, h3⟩ := hb31 q hq
      obtain ⟨e, o⟩ := q
      cases o with
      | some y => exact ⟨h1, h2, y, rfl, h3 y rfl⟩
      | none =>
        have := hiN.mpr ⟨_, hq, rfl⟩
        rw [cH] at this; cases this
    have ets2 := s2 _ _ ets
    have hR2 := hR.same s2
    have h02 := h0.same s2
    have hsr2 := hsr.same s2
    have g02 := g0.same s2
    walk_at "h"
    refine s_ifand (decide (((z0 :: zr).length : Int) = 5)) (PyData.eqv s0 (.str "apart")) (fun QB q => by
      walk_at "g"
      refine s_lenT (SqT.of ets2) ?_
      walk_at "g"
      exact q) (fun _ QB q => by
      walk_at "g"
      refine s_ixT (SqT.of ets2) (atI0 0 rfl rfl) ?_
      walk_at "g"
      refine s_eqD s0 (.str "apart") (g02.dp K) (.str _) (hb0.shaped (by decide)) ((Bd.str _ (by decide +kernel) : Bd 1 _).shaped (by decide)) ?_
      walk_at "g"
      exact q) ?_
    rw [hlz]
    cases cA : (decide (((s0 :: sr).length : Int) = 5) && PyData.eqv s0 (.str "apart")) with
    | true =>
      rw [Bool.and_eq_true, decide_eq_true_eq, eqv_str] at cA
      obtain ⟨c5, rfl⟩ := cA
      obtain ⟨d1, d2, d3, d4, rfl⟩ : ∃ a b c d, sr = [a, b, c, d] := by
        match sr, c5 with
        | [a, b, c, d], _ => exact ⟨a, b, c, d, rfl⟩
        | [], h => simp at h
        | [_], h => simp at h
        | [_, _], h => simp at h
        | [_, _, _], h => simp at h
        | _ :: _ :: _ :: _ :: _ :: _, h => simp at h; omega
      walk_at "g"
      refine ⟨rfl, ?_⟩
      by_cases cx : vx = .non
      · subst cx
        cases h02
        rw [decide_eq_true rfl]
        walk_at "g"
        refine ⟨R, ts, rws, _, _, _, _, _, _, rfl, hR2, by omega, hall, ets2, .cons g02 hsr2, hb2, fun o H3 ho s3 => ?_⟩
        cases h0
        exact k o H3 (ho.trans ((shows_apart hc hall).trans ⟨fun z => z.2, fun z => ⟨rfl, z⟩⟩).symm) (s2.trans s3)
      · rw [decide_eq_false cx]
        walk_at "g"
        refine bad (fun z => cx ?_) H2 s2
        have := ((shows_apart hc hall).mp z).1
        rw [this] at h0
        cases h0; rfl
    | false =>
    have notA : ∀ d1 d2 d3 d4, s0 :: sr ≠ [.str "apart", d1, d2, d3, d4] := fun d1 d2 d3 d4 z => by
      rw [(List.cons.inj z).1, (List.cons.inj z).2, eqv_str.mpr rfl] at cA
      simp at cA
    walk_at "g"
    refine s_lenT (SqT.of ets2) ?_
    rw [hlz]
    walk_at "g"
    refine s_iten (fun c6 => ?_) (fun c6 => ?_)
    · walk_at "g"
      exact bad (badS (fun _ _ _ z => notN _ _ _ z) (fun _ _ _ _ z => notA _ _ _ _ z) (fun dr z => c6 (by rw [z]; rfl))) H2 s2
    obtain ⟨dr, rfl⟩ : ∃ a, sr = [a] := by
      match sr, c6 with
      | [a], _ => exact ⟨a, rfl⟩
      | [], h => simp at h
      | _ :: _ :: _, h => simp at h; omega
    obtain ⟨z1, zq, rfl, k1, k2⟩ : ∃ x ys, zr = x :: ys ∧ DaF (fun _ => True) H2 x dr ∧ DaL (fun _ => True) H2 ys [] := by
      cases hsr2 with
      | cons h t => exact ⟨_, _, rfl, h, t⟩
    cases k2
    walk_at "g"
    refine s_ixT (SqT.of ets2) (atI0 0 rfl rfl) ?_
    walk_at "g"
    refine s_neD s0 (.str "by") (g02.dp K) (.str _) (hb0.shaped (by decide)) ((Bd.str _ (by decide +kernel) : Bd 1 _).shaped (by decide)) ?_
    walk_at "g"
    cases ee : PyData.eqv s0 (.str "by") with
    | false =>
      walk_at "g"
      exact bad (badS (fun _ _ _ z => notN _ _ _ z) (fun _ _ _ _ z => notA _ _ _ _ z) (fun dr z => by rw [(List.cons.inj z).1, eqv_str.mpr rfl] at ee; cases ee)) H2 s2
    | true =>
    obtain rfl := eqv_str.mp ee
    have badB : (∀ xn : Nat, dx = .int (xn : Nat) → dr = .tuple (rws.map rowO) → AllP rws → (∀ q ∈ rws, metB xn q = true) → xn < M.lcmL (plO rws) → False) → ∀ H2, Same H H2 → Q (.bl false) H2 := fun h => bad fun z => by
      obtain ⟨xn, h1, h2, h3, h4, h5⟩ := (shows_by hc).mp z
      exact h xn h1 h2 h3 h4 h5
    walk_at "g"
    refine s_ixT (SqT.of ets2) (atI0 1 rfl rfl) ?_
    walk_at "g"
    refine s_isiTup k1 ?_
    walk_at "g"
    cases ett3 : isTup dr with
    | false =>
      walk_at "g"
      exact badB (fun xn _ z _ _ _ => by rw [z] at ett3; cases ett3) H2 s2
    | true =>
    cases k1 with
    | non => cases ett3
    | bl b => cases ett3
    | int i => cases ett3
    | str x => cases ett3
    | lst _ _ => cases ett3
    | @tup tr ws rs etr hrs =>
    have hwl := hrs.len
    obtain ⟨m3, em3, _, hb3⟩ := (hb2 (.tuple rs) (by simp)).tup_inv
    walk_at "g"
    refine s_ixT (SqT.of ets2) (atI0 1 rfl rfl) ?_
    walk_at "g"
    refine s_lenT (SqT.of etr) ?_
    walk_at "g"
    refine s_lenL (SqL.of (s2 _ _ eR)) ?_
    rw [hwl, hyl]
    walk_at "g"
    refine s_iten (fun c7 => ?_) (fun c7 => ?_)
    · walk_at "g"
      exact badB (fun xn _ z _ _ _ => c7 (by rw [PyData.tuple.inj z, List.length_map])) H2 s2
    have c7 : rs.length = rws.length := by omega
    walk_at "g"
    refine ⟨vx, dx, rfl, h02, ?_⟩
    walk_at "g"
    cases w1 : isWh dx with
    | false =>
      walk_at "g"
      exact badB (fun xn z _ _ _ _ => by rw [z] at w1; cases w1) H2 s2
    | true =>
    obtain ⟨x, rfl⟩ := isWh_inv w1
    have hxb := hbx.int_inv
    cases h02
    walk_at "g"
    refine s_ixT (SqT.of ets2) (atI0 1 rfl rfl) ?_
    walk_at "g"
    refine ⟨tr, R, ws, rs, rws, rfl, etr, hrs, fun d hd => (hb3 d hd).mono (by omega), c7, hR2, hall, by omega, fun o1 H3 ho1 s3 => ?_⟩
    have S3 := s2.trans s3
    walk_at "g"
    cases o1 with
    | false =>
      walk_at "g"
      exact badB (fun xn _ z _ _ _ => absurd (ho1.mpr (PyData.tuple.inj z)) (by simp)) H3 S3
    | true =>
    have hrs' := ho1.mp rfl
    subst hrs'
    have hR3 := hR.same S3
    have eR3 := S3 _ _ eR
    walk_at "g"
    refine ⟨⟨_, SqL.of eR3⟩, ?_⟩
    have hpb := plO_bd hall
    refine for_list (fun i σ H' => Same H3 H' ∧ ∃ v7 v8 : Option V, σ = [some (.ref C), some (.int a), some (.ref R), some (.ref u), some (.int x), some (.ref ts), some (.int (M.lcmL (plO (rws.take i)) : Nat)), v7, v8]) ⟨Same.refl _, none, none, by rw [List.take_zero]; rfl⟩ (fun i σ H' _ I => SqL.of (I.1 _ _ eR3)) ?_ ?_
    · rintro i v σ H4 hi ⟨s4, v7, v8, rfl⟩
      obtain ⟨t2, q, hq, rfl, et⟩ := (hR3.same s4).getV (s4 _ _ eR3) hi
      obtain ⟨q0, q31, y, hqy, yq⟩ := hall q (List.mem_of_getElem? hq)
      have hsub : ∀ z ∈ plO (rws.take i), z ∈ plO rws := fun z hz => by
        obtain ⟨r, hr, rfl⟩ := List.mem_map.mp hz
        exact List.mem_map.mpr ⟨r, List.mem_of_mem_take hr, rfl⟩
      have W0 := M.lcm_pos (plO (rws.take i)) fun z hz => (hpb z (hsub z hz)).1
      have Wl := M.lcm_le 31 (plO (rws.take i)) fun z hz => by have := hpb z (hsub z hz); omega
      have Wl2 : (31 : Nat) ^ (plO (rws.take i)).length ≤ 31 ^ 4 := Nat.pow_le_pow_right (by decide) (by unfold plO; rw [List.length_map, List.length_take]; omega)
      have el : ((M.lcmL (plO (rws.take i)) / Nat.gcd (M.lcmL (plO (rws.take i))) q.1 : Nat) : Int) * (q.1 : Int) = ((M.lcmL (plO (rws.take (i + 1))) : Nat) : Int) := by
        rw [take_more hq]
        unfold plO
        rw [List.map_append, List.map_cons, List.map_nil, M.lcmL_snoc, ← Int.natCast_mul]
        congr 1
        show M.lcmL (plO (rws.take i)) / Nat.gcd (M.lcmL (plO (rws.take i))) q.1 * q.1 = Nat.lcm (M.lcmL (plO (rws.take i))) q.1
        unfold Nat.lcm
        rw [Nat.div_mul_right_comm (Nat.gcd_dvd_left _ _)]
      generalize hWe : M.lcmL (plO (rws.take i)) = W at W0 Wl el ⊢
      have hgp : 0 < Nat.gcd W q.1 := Nat.gcd_pos_of_pos_left _ W0
      have hgl : Nat.gcd W q.1 ≤ q.1 := Nat.gcd_le_right _ q0
      refine s_gtup (SqT.of et) rfl ?_
      walk_at "g"
      refine ⟨W, q.1, rfl, ?_⟩
      walk_at "g"
      refine s_i (divW (by omega) (by omega)) ?_
      rw [← Int.natCast_ediv]
      have hq' : W / Nat.gcd W q.1 ≤ W := Nat.div_le_self _ _
      generalize W / Nat.gcd W q.1 = tq at hq' el ⊢
      walk_at "g"
      try refine s_i (mulW (by omega) (by omega)) ?_
      rw [el]
      walk_at "g"
      exact ⟨s4, _, _, rfl⟩
    · rintro σ H4 ⟨s4, v7, v8, rfl⟩
      rw [hyl, List.take_length]
      have S4 := S3.trans s4
      have eR4 := s4 _ _ eR3
      have hR4 := hR3.same s4
      have hsh := shows_by hc (x := .int x) (dr := .tuple (rws.map rowO))
      walk_at "g"
      by_cases c8 : 0 ≤ x
      · rw [decide_eq_true c8]
        obtain ⟨xn, rfl⟩ := Int.eq_ofNat_of_zero_le c8
        walk_at "g"
        by_cases c9 : (xn : Int) < (M.lcmL (plO rws) : Nat)
        · rw [decide_eq_true c9]
          walk_at "g"
          refine s_lc ?_
          walk_at "g"
          refine ⟨⟨_, SqL.of eR4⟩, fun G hG => ?_⟩
          refine lc_list (fun i H6 => Same H4 H6 ∧ ∃ gl : List Int, H6 G = some (.lst (gl.map V.int)) ∧ gl.length ≤ i ∧ (gl = [] ↔ ∀ q ∈ rws.take i, metB xn q = true)) ⟨same_upd hG, [], upd_same, by simp, by simp⟩ (fun i H6 _ I => SqL.of (I.1 _ _ eR4)) ?_ ?_
          · rintro i v H6 hi ⟨s6, gl, eG, hgl, hiff⟩
            obtain ⟨t2, q, hq, rfl, et⟩ := (hR4.same s6).getV (s6 _ _ eR4) hi
            obtain ⟨q0, q31, y, hqy, yq⟩ := hall q (List.mem_of_getElem? hq)
            have hqi := (List.getElem?_eq_some_iff.mp hq).1
            rw [hqy] at et
            have et : H6 t2 = some (.tup [.int (q.1 : Nat), .int (y : Nat)]) := et
            refine s_gtup (SqT.of et) rfl ?_
            walk_at "g"
            refine ⟨rfl, ?_⟩
            walk_at "g"
            refine s_i (by omega) ?_
            walk_at "g"
            have hme : metB xn q = decide ((xn : Int) % (q.1 : Int) = (y : Int)) := by unfold metB; rw [hqy]; rfl
            refine s_iten (fun c => ?_) (fun c => ?_)
            · walk_at "g"
              refine ⟨_, eG, line2 (by rw [List.length_map]; omega), same_upd' s6 hG, gl ++ [(q.1 : Int)], by rw [upd_same, List.map_append]; rfl, by rw [List.length_append]; simp; omega, ?_⟩
              rw [take_more hq]
              constructor
              · intro z; simp at z
              · intro z
                have := z q (by simp)
                rw [hme] at this
                exact absurd (of_decide_eq_true this) c
            · walk_at "g"
              refine ⟨s6, gl, eG, by omega, hiff.trans ?_⟩
              rw [take_more hq]
              constructor
              · intro z q' hq'
                rcases List.mem_append.mp hq' with w | w
                · exact z q' w
                · rw [List.mem_singleton.mp w, hme]; exact decide_eq_true c
              · intro z q' hq'
                exact z q' (List.mem_append_left _ hq')
          rintro H6 ⟨s6, gl, eG, hgl, hiff⟩
          rw [hyl, List.take_length] at hiff
          walk_at "g"
          refine s_lenL (SqL.of eG) ?_
          rw [List.length_map]
          walk_at "g"
          refine k _ H6 ?_ (S4.trans s6)
          rw [decide_eq_true_iff, hsh]
          constructor
          · intro z
            exact ⟨xn, rfl, rfl, hall, hiff.mp (List.eq_nil_of_length_eq_zero (by omega)), by omega⟩
          · rintro ⟨xm, z1, _, _, z4, _⟩
            obtain rfl : xn = xm := by have := PyData.int.inj z1; omega
            rw [hiff.mpr z4]; rfl
        · rw [decide_eq_false c9]
          walk_at "g"
          exact bad (fun z => by
            obtain ⟨xm, z1, _, _, _, z5⟩ := hsh.mp z
            have := PyData.int.inj z1
            omega) H4 S4
      · rw [decide_eq_false c8]
        walk_at "g"
        exact bad (fun z => by
          obtain ⟨xm, z1, _⟩ := hsh.mp z
          have := PyData.int.inj z1
          omega) H4 S4

theorem bd_nil {m : Nat} : ∀ d ∈ ([] : List PyData), Bd m d := fun _ h => absurd h (by simp)
theorem bd_cons {m : Nat} {d : PyData} {ds : List PyData} (h : Bd m d) (t : ∀ d ∈ ds, Bd m d) : ∀ e ∈ d :: ds, Bd m e := fun e he => by
  rcases List.mem_cons.mp he with z | z
  · rw [z]; exact h
  · exact t e z

theorem DaF.sameS {F : Addr → Prop} {H H' : Hp} {s : Addr} {v : V} {d : PyData} (h : DaF F H v d) (st : StAt H s) (sb : SameB s H H') : DaF F H' v d := by
  obtain ⟨_, _, e, _⟩ := st
  exact h.keep (fun b r eb => sb _ _ (fun z => by rw [← z, eb] at e; cases e) eb) (fun b r eb => sb _ _ (fun z => by rw [← z, eb] at e; cases e) eb)
theorem DaL.sameS {F : Addr → Prop} {H H' : Hp} {s : Addr} {vs : List V} {ds : List PyData} (h : DaL F H vs ds) (st : StAt H s) (sb : SameB s H H') : DaL F H' vs ds := by
  obtain ⟨_, _, e, _⟩ := st
  exact h.keep (fun b r eb => sb _ _ (fun z => by rw [← z, eb] at e; cases e) eb) (fun b r eb => sb _ _ (fun z => by rw [← z, eb] at e; cases e) eb)
theorem sbLst {H H' : Hp} {s b : Addr} {r : List V} (sb : SameB s H H') (st : StAt H s) (eb : H b = some (.lst r)) : H' b = some (.lst r) := by
  obtain ⟨_, _, e, _⟩ := st
  exact sb _ _ (fun z => by rw [← z, eb] at e; cases e) eb
theorem sbTup {H H' : Hp} {s b : Addr} {r : List V} (sb : SameB s H H') (st : StAt H s) (eb : H b = some (.tup r)) : H' b = some (.tup r) := by
  obtain ⟨_, _, e, _⟩ := st
  exact sb _ _ (fun z => by rw [← z, eb] at e; cases e) eb
theorem dal_set {F : Addr → Prop} {H : Hp} {x : V} {d : PyData} (hd : DaF F H x d) : ∀ {vs : List V} {ds : List PyData}, DaL F H vs ds → ∀ i, DaL F H (vs.set i x) (ds.set i d)
  | _, _, .nil, _ => .nil
  | _, _, .cons h t, 0 => .cons hd t
  | _, _, .cons h t, i + 1 => .cons h (dal_set hd t i)
/-- what shows, as it is made -/
def MadeS (rws : List (Nat × Option Nat)) (sh : List PyData) : Prop :=
  (∃ (n e : Nat) (r : Int), sh = [.str "none", .int (n : Nat), .int (e : Nat), .int r] ∧ n < rws.length ∧ e ≤ 31 ∧ r.natAbs ≤ 31) ∨
  (AllP rws ∧ ∃ (i j : Nat) (q q' : Nat × Option Nat), sh = [.str "apart", .int (i : Nat), .int (j : Nat), rowO q, rowO q'] ∧ i < rws.length ∧ j < rws.length ∧ q ∈ rws ∧ q' ∈ rws) ∨
  (AllP rws ∧ sh = [.str "by", .tuple (rws.map rowO)])
theorem MadeS.bd {rws : List (Nat × Option Nat)} {sh : List PyData} (h : MadeS rws sh) (hl : rws.length ≤ 4) : (∀ d ∈ sh, Bd 3 d) ∧ 2 ≤ sh.length ∧ sh.length ≤ 5 := by
  rcases h with ⟨n, e, r, rfl, h1, h2, h3⟩ | ⟨ha, i, j, q, q', rfl, h1, h2, h3, h4⟩ | ⟨ha, rfl⟩
  · refine ⟨fun d hd => ?_, by simp, by simp⟩
    simp only [List.mem_cons, List.not_mem_nil, or_false] at hd
    rcases hd with z | z | z | z <;> subst z
    · exact .str _ (by decide +kernel)
    · exact .int (by omega)
    · exact .int (by omega)
    · exact .int (by omega)
  · refine ⟨fun d hd => ?_, by simp, by simp⟩
    simp only [List.mem_cons, List.not_mem_nil, or_false] at hd
    rcases hd with z | z | z | z | z <;> subst z
    · exact .str _ (by decide +kernel)
    · exact .int (by omega)
    · exact .int (by omega)
    · exact (bd_rowO ha h3).mono (by decide)
    · exact (bd_rowO ha h4).mono (by decide)
  · refine ⟨fun d hd => ?_, by simp, by simp⟩
    simp only [List.mem_cons, List.not_mem_nil, or_false] at hd
    rcases hd with z | z <;> subst z
    · exact .str _ (by decide +kernel)
    · refine .tup (by rw [List.length_map]; omega) fun d hd => ?_
      obtain ⟨q, hq, rfl⟩ := List.mem_map.mp hd
      exact (bd_rowO ha hq).mono (by decide)
theorem MadeD.split {rws : List (Nat × Option Nat)} {d : PyData} (h : MadeD rws d) : ∃ x sh, d = .tuple [x, .tuple sh] ∧ MadeS rws sh ∧ (x = .none ∨ AllP rws ∧ ∃ n : Nat, x = .int (n : Nat) ∧ n < 2 ^ 60) := by
  rcases h with ⟨n, e, r, rfl, h1, h2, h3⟩ | ⟨ha, i, j, q, q', rfl, h1, h2, h3, h4⟩ | ⟨ha, x, rfl, h1⟩
  · exact ⟨_, _, rfl, .inl ⟨n, e, r, rfl, h1, h2, h3⟩, .inl rfl⟩
  · exact ⟨_, _, rfl, .inr (.inl ⟨ha, i, j, q, q', rfl, h1, h2, h3, h4⟩), .inl rfl⟩
  · exact ⟨_, _, rfl, .inr (.inr ⟨ha, rfl⟩), .inr ⟨ha, x, rfl, h1⟩⟩
/-- no five things with 'apart' ahead, where by a prime there is none -/
def NoAp (rws : List (Nat × Option Nat)) (d : PyData) : Prop := (∃ q ∈ rws, q.2 = none) → ∀ es, d = .tuple (.str "apart" :: es) → es.length ≠ 4
theorem noAp_all {rws : List (Nat × Option Nat)} (h : AllP rws) (d : PyData) : NoAp rws d := fun ⟨q, hq, hn⟩ => by
  obtain ⟨_, _, y, hy, _⟩ := h q hq
  rw [hn] at hy; cases hy
/-- where there is none: four things, 'none' ahead -/
theorem MadeS.head {rws : List (Nat × Option Nat)} {sh : List PyData} (h : MadeS rws sh) : AllP rws ∨ (sh.length = 4 ∧ ∃ r, sh = .str "none" :: r) := by
  rcases h with ⟨n, e, r, rfl, _⟩ | ⟨ha, _⟩ | ⟨ha, _⟩
  · exact .inr ⟨rfl, _, rfl⟩
  · exact .inl ha
  · exact .inl ha
theorem MadeS.noAp {rws : List (Nat × Option Nat)} {sh es : List PyData} (h : MadeS rws sh) (he : (sh.length = 4 → es.length ≠ 5) ∨ ∀ r, sh = .str "none" :: r → ∃ r', es = .str "none" :: r') : NoAp rws (.tuple es) := by
  rcases h.head with ha | ⟨h4, r, hr⟩
  · exact noAp_all ha _
  · intro _ fs e
    have e := PyData.tuple.inj e
    rcases he with z | z
    · intro w
      exact z h4 (by rw [e, List.length_cons, w])
    · obtain ⟨r', hr'⟩ := z r hr
      rw [e] at hr'
      simp only [List.cons.injEq, PyData.str.injEq] at hr'
      exact absurd hr'.1 (by decide +kernel)
/-- _law_bent_shown(shown, state): something else, or not -/
def sp__law_bent_shown : Sp := fun vs H Q _ => ∃ (t s : Addr) (rws : List (Nat × Option Nat)) (sh : List PyData), vs = [.ref t, .ref s] ∧ StAt H s ∧ MadeS rws sh ∧ rws.length ≤ 4 ∧ 0 < rws.length ∧ Tu H (.ref t) (.tuple sh) ∧
  ∀ (v : V) (H' : Hp) (d : PyData), Da H' v d → Bd 10 d → NoAp rws d → StAt H' s → SameB s H H' → Q v H'
theorem ok__law_bent_shown (T : Txt K mg) : FnOk P w K mg base CX0 2 (He.ga K "_law_bent_shown") (fd__law_bent_shown T) ["_law_shown", "_law_state_here"] sp__law_bent_shown := by
  refine (F__law_bent_shown T).ok sc__law_bent_shown (fun vs H Q E h => ?_) (fun cdv A outer s H vs Q E hr h => ⟨_, PSs.nox (pss_cons (ps_set (i := 2) sc__law_bent_shown.nd rfl (Or.inl rfl) (pe_call (ok__law_take T) (hr.mono (by decide)) rfl (g__law_take T) (kp__law_take T) (B__law_take T) .nil pass0 (pa_cons (pv 1) (pa_cons pe_int pa_nil))))
      (pss_cons (ps_set (i := 3) sc__law_bent_shown.nd rfl (Or.inl rfl) (pe_call (ok__law_take T) (hr.mono (by decide)) rfl (g__law_take T) (kp__law_take T) (B__law_take T) .nil pass0 (pa_cons (pv 1) (pa_cons (pe_callB callLen rfl (T.fr (T.c.fact 56 rfl)) boot_len (pa_cons (pv 0) pa_nil)) pa_nil))))
      (pss_cons (ps_if (pt_cmpR op_lt (pv 2) pe_int (nomark _)) (pss_cons (ps_set (i := 4) sc__law_bent_shown.nd rfl (Or.inl rfl) (pe_lst (pa_cons pe_non (pa_cons pe_int (pa_cons (pe_un un_neg pe_int) (pa_cons pe_int (pa_cons pe_bl (pa_cons pe_str (pa_cons pe_str (pa_cons pe_str (pa_cons (pe_tup pa_nil) (pa_cons (pe_lst pa_nil) (pa_cons pe_int (pa_cons (pe_tup (pa_cons pe_int (pa_cons pe_int pa_nil))) (pa_cons (pe_tup (pa_cons pe_int (pa_cons pe_int pa_nil))) pa_nil)))))))))))))))
      (pss_one (ps_ret (pe_op op_catA (pe_op op_catA (pe_slice sl_tupA (pv 0) po_none (po_some (pv 3))) (pe_tup (pa_cons (pe_ix ix_seq (pv 4) (pe_call (ok__law_take T) (hr.mono (by decide)) rfl (g__law_take T) (kp__law_take T) (B__law_take T) .nil pass0 (pa_cons (pv 1) (pa_cons pe_int pa_nil))) (fun _ _ => rfl)) pa_nil))) (pe_slice sl_tupA (pv 0) (po_some (pe_op op_add (pv 3) pe_int)) po_none))))) pss_nil)
      (pss_cons (ps_if (pt_cmpR op_eq (pv 2) pe_int (nomark _)) (pss_one (ps_ret (pe_op op_catA (pv 0) (pe_tup (pa_cons (pe_tup (pa_cons pe_int (pa_cons pe_int pa_nil))) pa_nil))))) pss_nil)
      (pss_cons (ps_if (pt_cmpR op_eq (pv 2) pe_int (nomark _)) (pss_one (ps_ret (pe_slice sl_tupA (pv 0) po_none (po_some (pe_un un_neg pe_int))))) pss_nil)
      (pss_cons (ps_if (pt_cmpR op_eq (pv 2) pe_int (nomark _)) (pss_one (ps_ret (pe_callTy callLst rfl (T.fr (T.c.fact 60 rfl)) boot_list (pa_cons (pv 0) pa_nil)))) pss_nil)
      (pss_cons (ps_if (pt_cmpR (op_eqD hr.units) (pe_ix ix_seq (pv 0) pe_int (fun _ _ => rfl)) pe_str (nomark _)) (pss_one (ps_ret (pe_tup (pa_cons pe_str (pa_cons (pe_ix ix_seq (pv 0) pe_int (fun _ _ => rfl)) (pa_cons (pe_ix ix_seq (pv 0) pe_int (fun _ _ => rfl)) (pa_cons (pe_ix ix_seq (pv 0) pe_int (fun _ _ => rfl)) (pa_cons (pe_ix ix_seq (pv 0) pe_int (fun _ _ => rfl)) pa_nil)))))))) pss_nil)
      (pss_cons (ps_if (pt_cmpR (op_eqD hr.units) (pe_ix ix_seq (pv 0) pe_int (fun _ _ => rfl)) pe_str (nomark _)) (pss_one (ps_ret (pe_tup (pa_cons pe_str (pa_cons (pe_ix ix_seq (pv 0) pe_int (fun _ _ => rfl)) (pa_cons (pe_op op_mulW (pe_ix ix_seq (pv 0) pe_int (fun _ _ => rfl)) (pe_op op_add pe_int (pe_call (ok__law_take T) (hr.mono (by decide)) rfl (g__law_take T) (kp__law_take T) (B__law_take T) .nil pass0 (pa_cons (pv 1) (pa_cons pe_int pa_nil))))) (pa_cons (pe_ix ix_seq (pv 0) pe_int (fun _ _ => rfl)) pa_nil))))))) pss_nil)
      (pss_cons (ps_set (i := 5) sc__law_bent_shown.nd rfl (Or.inl rfl) (pe_callTy callLst rfl (T.fr (T.c.fact 60 rfl)) boot_list (pa_cons (pe_ix ix_seq (pv 0) pe_int (fun _ _ => rfl)) pa_nil)))
      (pss_cons (ps_set (i := 3) sc__law_bent_shown.nd rfl (Or.inl rfl) (pe_call (ok__law_take T) (hr.mono (by decide)) rfl (g__law_take T) (kp__law_take T) (B__law_take T) .nil pass0 (pa_cons (pv 1) (pa_cons (pe_callB callLen rfl (T.fr (T.c.fact 56 rfl)) boot_len (pa_cons (pv 5) pa_nil)) pa_nil))))
      (pss_cons (ps_asg (pe_ix ix_seq (pv 5) (pv 3) (fun _ _ => rfl)) (pg_tup rfl (pgs_cons (pg_name (i := 6) sc__law_bent_shown.nd rfl (Or.inl rfl)) (pgs_cons (pg_name (i := 7) sc__law_bent_shown.nd rfl (Or.inl rfl)) pgs_nil))))
      (pss_cons (ps_set (i := 4) sc__law_bent_shown.nd rfl (Or.inl rfl) (pe_lst (pa_cons (pe_tup (pa_cons (pe_op op_mulW (pv 6) (pe_op op_add pe_int (pe_call (ok__law_take T) (hr.mono (by decide)) rfl (g__law_take T) (kp__law_take T) (B__law_take T) .nil pass0 (pa_cons (pv 1) (pa_cons pe_int pa_nil))))) (pa_cons (pe_op op_add (pv 7) (pe_op op_mulW (pe_call (ok__law_take T) (hr.mono (by decide)) rfl (g__law_take T) (kp__law_take T) (B__law_take T) .nil pass0 (pa_cons (pv 1) (pa_cons pe_int pa_nil))) (pv 6))) pa_nil))) (pa_cons (pe_tup (pa_cons (pv 6) (pa_cons (pe_op op_sub (pv 7) (pv 6)) pa_nil))) (pa_cons (pe_lst (pa_cons (pv 6) (pa_cons (pv 7) pa_nil))) (pa_cons (pe_tup (pa_cons (pe_cmpR op_eq (pv 6) pe_int (nomark _)) (pa_cons (pv 7) pa_nil))) (pa_cons (pe_tup (pa_cons (pv 6) (pa_cons (pe_cmpR op_eq (pv 7) pe_int (nomark _)) pa_nil))) pa_nil)))))))
      (pss_cons (ps_asg (pe_ix ix_seq (pe_op op_cat (pv 4) (pe_slice sl_list (pv 4) po_none (po_some pe_int))) (pe_call (ok__law_take T) (hr.mono (by decide)) rfl (g__law_take T) (kp__law_take T) (B__law_take T) .nil pass0 (pa_cons (pv 1) (pa_cons pe_int pa_nil))) (fun _ _ => rfl)) (pg_sub (pv 5) (pv 3) set_list))
      (pss_one (ps_ret (pe_tup (pa_cons pe_str (pa_cons (pe_callTy callTup rfl (T.fr (T.c.fact 55 rfl)) boot_tuple (pa_cons (pv 5) pa_nil)) pa_nil)))))))))))))))))), ?_⟩)
  · obtain ⟨t, s, rws, sh, rfl, _⟩ := h; rfl
  · obtain ⟨t, s, rws, sh, rfl, hst, hm, hl4, hl0, ht, k⟩ := h
    obtain ⟨hb, hs2, hs5⟩ := hm.bd hl4
    obtain ⟨t', xs, z, et, hxs⟩ := ht.tup_inv
    cases z
    have hxl := hxs.len
    walk_at "g"
    refine ⟨s, 7, rfl, by decide, by decide, hst, fun wy H1 w0 w1 st1 s1 => ?_⟩
    have et1 := sbTup s1 hst et
    have hxs1 := hxs.sameS hst s1
    walk_at "g"
    refine s_lenT (SqT.of et1) ?_
    rw [hxl]
    walk_at "g"
    refine ⟨s, _, rfl, by omega, by omega, st1, fun at0 H2 a0 a1 st2 s2 => ?_⟩
    obtain ⟨w, rfl⟩ := Int.eq_ofNat_of_zero_le a0
    have hw : w < sh.length := by omega
    have S2 := s1.trans s2
    have et2 := sbTup s2 st1 et1
    have hxs2 := hxs1.sameS st1 s2
    walk_at "h"
    with_reducible refine s_if ?_
    walk_at "g"
    refine s_ite (fun c => ?_) (fun c => ?_)
    · with_reducible refine s_seq ?_
      with_reducible refine s_asg ?_
      refine (evx_lst (evl_cons evd_non <| evl_cons (evd_int evv_c (by decide)) <| evl_cons (evd_int (evv_un evv_c fun _ _ q => s_u (f := fun a => V.int (-a)) q) (by decide)) <| evl_cons (evd_int evv_c (by decide)) <| evl_cons evd_bl <| evl_cons (evd_str (by decide +kernel)) <| evl_cons (evd_str (by decide +kernel)) <| evl_cons (evd_str (by decide +kernel)) <| evl_cons (evd_tup evl_nil (by decide)) <| evl_cons (evd_lst (fun _ _ => trivial) evl_nil (by decide)) <| evl_cons (evd_int evv_c (by decide)) <| evl_cons (evd_tup (evl_cons (evd_int evv_c (by decide)) <| evl_cons (evd_int evv_c (by decide)) evl_nil) (by decide)) <| evl_cons (evd_tup (evl_cons (evd_int evv_c (by decide)) <| evl_cons (evd_int evv_c (by decide)) evl_nil) (by decide)) evl_nil) (by decide) : EvX (fun _ => True) 3 13 _ _ H2) H2 (Same.refl _) _ fun p ps H3 ds s3 np ep hds hbs hdl => ?_
      have st3 := st2.same s3
      walk_at "g"
      refine mkSlA (SqT.of (s3 _ _ et2)) (s3 _ _ et2) fun l4 H4 el4 s4 => ?_
      have st4 := st3.same s4
      walk_at "g"
      refine ⟨s, 13, rfl, by decide, by decide, st4, fun z0 H5 z1 z2 st5 s5 => ?_⟩
      obtain ⟨i, rfl⟩ := Int.eq_ofNat_of_zero_le z1
      obtain ⟨x, hx, hxd⟩ := ((hds.same s4).sameS st4 s5).get' (List.getElem?_eq_getElem (show i < ds.length by omega))
      have hbx := hbs _ (List.getElem_mem (show i < ds.length by omega))
      generalize ds[i]'(by omega) = d at hxd hbx
      have ep5 := sbLst s5 st4 (s4 _ _ ep)
      walk_at "g"
      refine s_ixL (SqL.of ep5) (atI_nat hx) ?_
      walk_at "g"
      refine mkT (by simp) fun l6 H6 nl6 el6 s6 => ?_
      have e1 := hxs2.cutD none (some ((w : Nat) : Int))
      have c1 := cutD_len sh none (some ((w : Nat) : Int))
      have el46 := s6 _ _ (sbTup s5 st4 el4)
      walk_at "g"
      refine mkCatA el46 el6 (by rw [e1.len, List.length_singleton]; omega) fun l7 H7 el7 s7 => ?_
      have et7 := s7 _ _ (s6 _ _ (sbTup s5 st4 (s4 _ _ (s3 _ _ et2))))
      walk_at "g"
      refine mkSlA (SqT.of et7) et7 fun l8 H8 el8 s8 => ?_
      have e2 := hxs2.cutD (some (((w : Nat) : Int) + 1)) none
      have c2 := cutD_len sh (some (((w : Nat) : Int) + 1)) none
      walk_at "g"
      refine mkCatA (s8 _ _ el7) el8 (by rw [List.length_append, e1.len, e2.len, List.length_singleton]; omega) fun l9 H9 el9 s9 => ?_
      have S39 : ∀ {v d}, Tu H2 v d → Da H9 v d := fun h => ((((DaF.any h).same (s3.trans s4)).sameS st4 s5).same (s6.trans (s7.trans (s8.trans s9))))
      have S39L : ∀ {v d}, DaL (fun _ => False) H2 v d → DaL (fun _ => True) H9 v d := fun h => (((h.any).same (s3.trans s4)).sameS st4 s5).same (s6.trans (s7.trans (s8.trans s9)))
      have hcl : cutD sh none (some ((w : Nat) : Int)) = sh.take w := cutD_to (by omega)
      have hcr : cutD sh (some (((w : Nat) : Int) + 1)) none = sh.drop (w + 1) := by
        have := cutD_from (ds := sh) (k := w + 1) (by omega)
        push_cast at this
        exact this
      refine k _ H9 (.tuple (sh.take w ++ [d] ++ sh.drop (w + 1))) (.tup el9 (DaL.app (by rw [← hcr]; exact S39L e2) (DaL.app (.cons (hxd.same (s6.trans (s7.trans (s8.trans s9)))) .nil) (by rw [← hcl]; exact S39L e1)))) (.tup (by simp; omega) fun e he => ?_) (hm.noAp (.inl fun h4 => by simp; omega)) (st5.same (s6.trans (s7.trans (s8.trans s9)))) (S2.trans ((SameB.of (s3.trans s4)).trans (s5.trans (SameB.of (s6.trans (s7.trans (s8.trans s9)))))))
      rcases List.mem_append.mp he with z | z
      · rcases List.mem_append.mp z with z | z
        · exact (hb e (List.mem_of_mem_take z)).mono (by decide)
        · rw [List.mem_singleton.mp z]; exact hbx.mono (by decide)
      · exact (hb e (List.mem_of_mem_drop z)).mono (by decide)
    walk_at "h"
    with_reducible refine s_if ?_
    walk_at "g"
    refine s_ite (fun c3 => ?_) (fun c3 => ?_)
    · with_reducible refine s_ret ?_
      refine (eve_cat (eve_var rfl (.tup et2 hxs2)) (eve_tup (eves_cons (eve_tup (eves_cons eve_int <| eves_cons eve_int eves_nil)) eves_nil)) (by simp; omega) : EvE (fun _ => False) _ _ H2 _) H2 (Same.refl _) _ fun x H3 s3 hx => ?_
      refine k x H3 _ hx.any (.tup (by simp; omega) fun e he => ?_) (hm.noAp (.inr fun r hr => ⟨r ++ _, by rw [hr]; rfl⟩)) (st2.same s3) (S2.trans (SameB.of s3))
      rcases List.mem_append.mp he with z | z
      · exact (hb e z).mono (by decide)
      · rw [List.mem_singleton.mp z]; exact (bd_two (by decide) (by decide)).mono (by decide)
    walk_at "h"
    with_reducible refine s_if ?_
    walk_at "g"
    refine s_ite (fun c4 => ?_) (fun c4 => ?_)
    · with_reducible refine s_ret ?_
      refine (eve_sl (eve_var rfl (.tup et2 hxs2)) evo_none (evo_some (evv_un evv_c fun _ _ q => s_u (f := fun a => V.int (-a)) q)) : EvE (fun _ => False) _ _ H2 _) H2 (Same.refl _) _ fun x H3 s3 hx => ?_
      have c1 := cutD_len sh none (some (-1))
      refine k x H3 _ hx.any (.tup (by omega) fun e he => (hb e (cutD_mem he)).mono (by decide)) (hm.noAp (.inl fun h4 => by omega)) (st2.same s3) (S2.trans (SameB.of s3))
    walk_at "h"
    with_reducible refine s_if ?_
    walk_at "g"
    refine s_ite (fun c5 => ?_) (fun c5 => ?_)
    · with_reducible refine s_ret ?_
      refine (eve_lstOf (fun _ _ => trivial) (eve_var rfl (DaF.tup et2 hxs2.any)) : EvE (fun _ => True) _ _ H2 _) H2 (Same.refl _) _ fun x H3 s3 hx => ?_
      exact k x H3 _ hx (.lst (by omega) fun e he => (hb e he).mono (by decide)) (fun _ es z => nomatch z) (st2.same s3) (S2.trans (SameB.of s3))
    have eqF1 : PyData.eqv (.str "none") (.str "apart") = false := by decide +kernel
    have eqF2 : PyData.eqv (.str "by") (.str "apart") = false := by decide +kernel
    have eqF3 : PyData.eqv (.str "by") (.str "none") = false := by decide +kernel
    have eqT1 : PyData.eqv (.str "none") (.str "none") = true := by decide +kernel
    have eqT2 : PyData.eqv (.str "apart") (.str "apart") = true := by decide +kernel
    have shN : ∀ w : Str, PyData.strOk w = true → SeqAt.shaped (.str w) = true := fun w hw => (Bd.str _ hw : Bd 1 _).shaped (by decide)
    clear c c3 c4 c5
    rcases id hm with ⟨n, e, r, rfl, h1, h2, h3⟩ | ⟨ha, i, j, q, q', rfl, h1, h2, h3, h4⟩ | ⟨ha, rfl⟩
    · cases hxs2 with
      | cons g0 hx =>
      obtain ⟨x1, x2, x3, xr, rfl, g1, g2, g3, g4⟩ := hx.three
      cases g4
      cases g0
      cases g1
      cases g2
      cases g3
      walk_at "g"
      refine s_ixT (SqT.of et2) (atI0 0 rfl rfl) ?_
      walk_at "g"
      refine s_eqD (.str "none") (.str "apart") (.str _) (.str _) (shN _ (by decide +kernel)) (shN _ (by decide +kernel)) ?_
      rw [eqF1]
      walk_at "g"
      refine s_ixT (SqT.of et2) (atI0 0 rfl rfl) ?_
      walk_at "g"
      refine s_eqD (.str "none") (.str "none") (.str _) (.str _) (shN _ (by decide +kernel)) (shN _ (by decide +kernel)) ?_
      rw [eqT1]
      walk_at "g"
      refine s_ixT (SqT.of et2) (atI0 1 rfl rfl) ?_
      walk_at "g"
      refine s_ixT (SqT.of et2) (atI0 2 rfl rfl) ?_
      walk_at "g"
      refine ⟨s, 3, rfl, by decide, by decide, st2, fun z0 H3 z1 z2 st3 s3 => ?_⟩
      walk_at "g"
      try refine s_i (mulW (by omega) (by omega)) ?_
      have hz : ((e : Int) * (2 + z0)).natAbs ≤ 31 * 4 := by
        rw [Int.natAbs_mul]
        exact Nat.mul_le_mul (by omega) (by omega)
      generalize (e : Int) * (2 + z0) = ez at hz ⊢
      walk_at "g"
      refine s_ixT (SqT.of (sbTup s3 st2 et2)) (atI0 3 rfl rfl) ?_
      walk_at "g"
      refine mkT (by simp) fun l4 H4 nl4 el4 s4 => ?_
      refine k _ H4 (.tuple [.str "none", .int (n : Nat), .int ez, .int r]) (.tup el4 (.cons (.str _) (.cons (.int _) (.cons (.int _) (.cons (.int _) .nil))))) (.tup (by simp) fun d hd => ?_) (hm.noAp (.inr fun r' _ => ⟨_, rfl⟩)) (st3.same s4) (S2.trans (s3.trans (SameB.of s4)))
      simp only [List.mem_cons, List.not_mem_nil, or_false] at hd
      rcases hd with z | z | z | z <;> subst z
      · exact .str _ (by decide +kernel)
      · exact .int (by omega)
      · exact .int (by omega)
      · exact .int (by omega)
    · cases hxs2 with
      | cons g0 hx =>
      obtain ⟨x1, x2, x3, xr, rfl, g1, g2, g3, g4⟩ := hx.three
      cases g4 with
      | cons g4 g5 =>
      cases g5
      rename_i x4
      cases g0
      cases g1
      cases g2
      walk_at "g"
      refine s_ixT (SqT.of et2) (atI0 0 rfl rfl) ?_
      walk_at "g"
      refine s_eqD (.str "apart") (.str "apart") (.str _) (.str _) (shN _ (by decide +kernel)) (shN _ (by decide +kernel)) ?_
      rw [eqT2]
      walk_at "g"
      refine s_ixT (SqT.of et2) (atI0 2 rfl rfl) ?_
      walk_at "g"
      refine s_ixT (SqT.of et2) (atI0 1 rfl rfl) ?_
      walk_at "g"
      refine s_ixT (SqT.of et2) (atI0 4 rfl rfl) ?_
      walk_at "g"
      refine s_ixT (SqT.of et2) (atI0 3 rfl rfl) ?_
      walk_at "g"
      refine mkT (by simp) fun l4 H4 nl4 el4 s4 => ?_
      refine k _ H4 (.tuple [.str "apart", .int (j : Nat), .int (i : Nat), rowO q', rowO q]) (.tup el4 (.cons (.str _) (.cons (.int _) (.cons (.int _) (.cons (g4.any.same s4) (.cons (g3.any.same s4) .nil)))))) (.tup (by simp) fun d hd => ?_) (noAp_all ha _) (st2.same s4) (S2.trans (SameB.of s4))
      simp only [List.mem_cons, List.not_mem_nil, or_false] at hd
      rcases hd with z | z | z | z | z <;> subst z
      · exact .str _ (by decide +kernel)
      · exact .int (by omega)
      · exact .int (by omega)
      · exact (bd_rowO ha h4).mono (by decide)
      · exact (bd_rowO ha h3).mono (by decide)
    · obtain ⟨x0, x1, xr, rfl, g0, g1, g2⟩ := hxs2.two
      cases g2
      cases g0
      obtain ⟨rt, ys, rfl, ert, hys⟩ := g1.tup_inv
      have hyl := hys.len
      rw [List.length_map] at hyl
      walk_at "g"
      refine s_ixT (SqT.of et2) (atI0 0 rfl rfl) ?_
      walk_at "g"
      refine s_eqD (.str "by") (.str "apart") (.str _) (.str _) (shN _ (by decide +kernel)) (shN _ (by decide +kernel)) ?_
      rw [eqF2]
      walk_at "g"
      refine s_ixT (SqT.of et2) (atI0 0 rfl rfl) ?_
      walk_at "g"
      refine s_eqD (.str "by") (.str "none") (.str _) (.str _) (shN _ (by decide +kernel)) (shN _ (by decide +kernel)) ?_
      rw [eqF3]
      walk_at "g"
      refine s_ixT (SqT.of et2) (atI0 1 rfl rfl) ?_
      walk_at "g"
      refine s_lstT (SqT.of ert) fun D nD => ?_
      have s3 : Same H2 (upd H2 D (.lst ys)) := same_upd nD
      have eD : upd H2 D (.lst ys) D = some (.lst ys) := upd_same
      generalize upd H2 D (.lst ys) = H3 at s3 eD ⊢
      have st3 := st2.same s3
      walk_at "g"
      refine s_lenL (SqL.of eD) ?_
      rw [hyl]
      walk_at "g"
      refine ⟨s, _, rfl, by omega, by omega, st3, fun z0 H4 z1 z2 st4 s4 => ?_⟩
      obtain ⟨i, rfl⟩ := Int.eq_ofNat_of_zero_le z1
      have hi : i < rws.length := by omega
      obtain ⟨e, y, hx, e0, e31, ye⟩ := ha.get hi
      have eD4 := sbLst s4 st3 eD
      have hys4 := (hys.same s3).sameS st3 s4
      obtain ⟨v, hv, hvd⟩ := hys4.get' (i := i) (d := rowO (e, some y)) (by rw [List.getElem?_map, hx]; rfl)
      obtain ⟨tr, zs, rfl, etr, hzs⟩ := hvd.tup_inv
      obtain ⟨y0, y1, yr, rfl, f0, f1, f2⟩ := hzs.two
      cases f2
      cases f0
      cases f1
      walk_at "g"
      refine s_ixL (SqL.of eD4) (atI_nat hv) ?_
      refine s_gtup (SqT.of etr) rfl ?_
      walk_at "g"
      refine ⟨s, 2, rfl, by decide, by decide, st4, fun a1 H5 a10 a11 st5 s5 => ?_⟩
      walk_at "g"
      try refine s_i (mulW (by omega) (by omega)) ?_
      have hz1 : ((e : Int) * (1 + a1)).natAbs ≤ 31 * 2 := by
        rw [Int.natAbs_mul]
        exact Nat.mul_le_mul (by omega) (by omega)
      generalize (e : Int) * (1 + a1) = ez1 at hz1 ⊢
      walk_at "g"
      refine ⟨s, 3, rfl, by decide, by decide, st5, fun a2 H6 a20 a21 st6 s6 => ?_⟩
      walk_at "g"
      try refine s_i (mulW (by omega) (by omega)) ?_
      have hz2 : (a2 * (e : Int)).natAbs ≤ 2 * 31 := by
        rw [Int.natAbs_mul]
        exact Nat.mul_le_mul (by omega) (by omega)
      generalize a2 * (e : Int) = ez2 at hz2 ⊢
      walk_at "g"
      have S46 := s5.trans s6
      have eD6 := sbLst S46 st4 eD4
      have hys6 := hys4.sameS st4 S46
      refine mkT (by simp) fun l7 H7 nl7 el7 s7 => ?_
      walk_at "g"
      refine mkT (by simp) fun l8 H8 nl8 el8 s8 => ?_
      walk_at "g"
      refine mkL (by simp) fun l9 H9 nl9 el9 s9 => ?_
      walk_at "g"
      refine mkT (by simp) fun l10 H10 nl10 el10 s10 => ?_
      walk_at "g"
      refine mkT (by simp) fun l11 H11 nl11 el11 s11 => ?_
      walk_at "g"
      refine mkL (by simp) fun l12 H12 nl12 el12 s12 => ?_
      have bdi : ∀ {u : Int}, u.natAbs ≤ 200 → Bd 0 (.int u) := fun h => .int (by omega)
      have hes : ∃ ds : List PyData, DaL (fun a => a ≠ D) H12 [.ref l7, .ref l8, .ref l9, .ref l10, .ref l11] ds ∧ (∀ d ∈ ds, Bd 1 d) ∧ ds.length = 5 := by
        refine ⟨[.tuple [.int ez1, .int ((y : Int) + ez2)], .tuple [.int (e : Nat), .int ((y : Int) - (e : Int))], .list [.int (e : Nat), .int (y : Nat)], .tuple [.bool (decide ((e : Int) = 1)), .int (y : Nat)], .tuple [.int (e : Nat), .bool (decide ((y : Int) = 1))]],
          .cons (.tup (s12 _ _ (s11 _ _ (s10 _ _ (s9 _ _ (s8 _ _ el7))))) (.cons (.int _) (.cons (.int _) .nil))) (.cons (.tup (s12 _ _ (s11 _ _ (s10 _ _ (s9 _ _ el8)))) (.cons (.int _) (.cons (.int _) .nil))) (.cons (.lst (s12 _ _ (s11 _ _ (s10 _ _ el9))) (.cons (.int _) (.cons (.int _) .nil)) (fun z => by rw [z, s8 _ _ (s7 _ _ eD6)] at nl9; cases nl9)) (.cons (.tup (s12 _ _ (s11 _ _ el10)) (.cons (.bl _) (.cons (.int _) .nil))) (.cons (.tup (s12 _ _ el11) (.cons (.int _) (.cons (.bl _) .nil))) .nil)))), fun d hd => ?_, rfl⟩
        simp only [List.mem_cons, List.not_mem_nil, or_false] at hd
        rcases hd with z | z | z | z | z <;> subst z
        · exact .tup (by simp) (bd_cons (bdi (by omega)) (bd_cons (bdi (by omega)) bd_nil))
        · exact .tup (by simp) (bd_cons (bdi (by omega)) (bd_cons (bdi (by omega)) bd_nil))
        · exact .lst (by simp) (bd_cons (bdi (by omega)) (bd_cons (bdi (by omega)) bd_nil))
        · exact .tup (by simp) (bd_cons (.bl _) (bd_cons (bdi (by omega)) bd_nil))
        · exact .tup (by simp) (bd_cons (bdi (by omega)) (bd_cons (.bl _) bd_nil))
      obtain ⟨ds, hds, hdb, hdl⟩ := hes
      have S12 := s7.trans (s8.trans (s9.trans (s10.trans (s11.trans s12))))
      have st12 := st6.same S12
      walk_at "g"
      refine mkSl (SqL.of el12) fun l13 H13 nl13 el13 s13 => ?_
      walk_at "g"
      refine mkCat (s13 _ _ el12) el13 (by simp [cutV, HT.sIx]) fun l14 H14 nl14 el14 s14 => ?_
      have hds14 := (DaL.app (hds.cutD none (some 1)) hds).same (s13.trans s14)
      have hdb14 : ∀ d ∈ ds ++ cutD ds none (some 1), Bd 1 d := fun d hd => by
        rcases List.mem_append.mp hd with z | z
        · exact hdb d z
        · exact hdb d (cutD_mem z)
      have hdl14 : (ds ++ cutD ds none (some 1)).length = 6 := by
        rw [List.length_append, show cutD ds none (some 1) = ds.take 1 from cutD_to (k := 1) (by omega), List.length_take]; omega
      have st14 := st12.same (s13.trans s14)
      have S14 := S12.trans (s13.trans s14)
      walk_at "g"
      refine ⟨s, 6, rfl, by decide, by decide, st14, fun z3 H15 z4 z5 st15 s15 => ?_⟩
      obtain ⟨m, rfl⟩ := Int.eq_ofNat_of_zero_le z4
      have hm6 : m < (ds ++ cutD ds none (some 1)).length := by omega
      obtain ⟨x, hx15, hxd⟩ := (hds14.sameS st14 s15).get' (List.getElem?_eq_getElem hm6)
      have hbx := hdb14 _ (List.getElem_mem hm6)
      generalize (ds ++ cutD ds none (some 1))[m] = dx at hxd hbx
      have eD15 := sbLst s15 st14 (S14 _ _ eD6)
      have hys15 := (hys6.same S14).sameS st14 s15
      walk_at "g"
      refine s_ixL (SqL.of (sbLst s15 st14 el14)) (atI_nat hx15) ?_
      walk_at "g"
      refine ⟨D, ys, (i : Int), i, rfl, rfl, eD15, by unfold ixN; rw [if_pos (by omega), if_pos (by omega)]; rfl, ?_⟩
      walk_at "g"
      refine s_tupL (SqL.of upd_same) fun u nu => ?_
      have s17 : Same (upd H15 D (.lst (ys.set i x))) (upd (upd H15 D (.lst (ys.set i x))) u (.tup (ys.set i x))) := same_upd nu
      have eu : upd (upd H15 D (.lst (ys.set i x))) u (.tup (ys.set i x)) u = some (.tup (ys.set i x)) := upd_same
      have st16 : StAt (upd H15 D (.lst (ys.set i x))) s := by
        obtain ⟨x1, x2, x3, x4⟩ := st15
        exact ⟨x1, x2, by rw [upd_ne (fun z => by rw [z, eD15] at x3; cases x3)]; exact x3, x4⟩
      have sD : SameB s H H15 := S2.trans ((SameB.of s3).trans (s4.trans (S46.trans ((SameB.of S14).trans s15))))
      have nDH : H D = none := by
        cases e : H D with
        | none => rfl
        | some o =>
          have hDs : D ≠ s := fun z => by
            obtain ⟨_, _, e2, _⟩ := st2
            rw [z, e2] at nD; cases nD
          rw [S2 _ _ hDs e] at nD; cases nD
      have hset : DaL (fun a => a ≠ D) (upd H15 D (.lst (ys.set i x))) (ys.set i x) ((rws.map rowO).set i dx) := DaL.upd eD15 (fun z => z rfl) (dal_set hxd (dal_false hys15) i)
      generalize upd (upd H15 D (.lst (ys.set i x))) u (.tup (ys.set i x)) = H17 at s17 eu ⊢
      walk_at "g"
      refine mkT (by simp) fun l18 H18 nl18 el18 s18 => ?_
      refine k _ H18 (.tuple [.str "by", .tuple ((rws.map rowO).set i dx)]) (.tup el18 (.cons (.str _) (.cons (.tup (s18 _ _ eu) (hset.any.same (s17.trans s18))) .nil))) (.tup (by simp) (bd_cons (.str _ (by decide +kernel)) (bd_cons (.tup (by rw [List.length_set, List.length_map]; omega) fun d hd => ?_) bd_nil))) (noAp_all ha _) (st16.same (s17.trans s18)) ((sD.updn nDH).trans (SameB.of (s17.trans s18)))
      rcases List.mem_or_eq_of_mem_set hd with z | z
      · obtain ⟨q, hq, rfl⟩ := List.mem_map.mp z
        exact (bd_rowO ha hq).mono (by decide)
      · rw [z]; exact hbx.mono (by decide)

def NoAp2 (rws : List (Nat × Option Nat)) (d : PyData) : Prop := (∃ q ∈ rws, q.2 = none) → ∀ x es, d = .tuple [x, .tuple (.str "apart" :: es)] → es.length ≠ 4
theorem NoAp.two {rws : List (Nat × Option Nat)} {d : PyData} (h : NoAp rws d) (x : PyData) : NoAp2 rws (.tuple [x, d]) := fun hn y es z => by
  simp only [PyData.tuple.injEq, List.cons.injEq, and_true] at z
  exact h hn es z.2
theorem noAp2_all {rws : List (Nat × Option Nat)} (h : AllP rws) (d : PyData) : NoAp2 rws d := fun ⟨q, hq, hn⟩ => by
  obtain ⟨_, _, y, hy, _⟩ := h q hq
  rw [hn] at hy; cases hy
theorem MadeS.noAp0 {rws : List (Nat × Option Nat)} {sh : List PyData} (h : MadeS rws sh) : NoAp rws (.tuple sh) := h.noAp (.inl fun h4 => by omega)
/-- _law_bent(thing, rows, state): something else, or not -/
def sp__law_bent : Sp := fun vs H Q _ => ∃ (t R s : Addr) (rws : List (Nat × Option Nat)) (x0 : PyData) (sh : List PyData), vs = [.ref t, .ref R, .ref s] ∧ StAt H s ∧ MadeS rws sh ∧ (x0 = .none ∨ AllP rws ∧ ∃ n : Nat, x0 = .int (n : Nat) ∧ n < 2 ^ 60) ∧ RowsAt H R rws ∧ rws.length ≤ 4 ∧ 0 < rws.length ∧ Tu H (.ref t) (.tuple [x0, .tuple sh]) ∧
  ∀ (v : V) (H' : Hp) (d : PyData), Da H' v d → Bd 52 d → NoAp2 rws d → StAt H' s → SameB s H H' → Q v H'
theorem ok__law_bent (T : Txt K mg) : FnOk P w K mg base CX0 3 (He.ga K "_law_bent") (fd__law_bent T) ["_law_thing", "_law_rows_here", "_law_state_here"] sp__law_bent := by
  refine (F__law_bent T).ok sc__law_bent (fun vs H Q E h => ?_) (fun cdv A outer s H vs Q E hr h => ⟨_, PSs.nox (pss_cons (ps_set (i := 3) sc__law_bent.nd rfl (Or.inl rfl) (pe_call (ok__law_take T) (hr.mono (by decide)) rfl (g__law_take T) (kp__law_take T) (B__law_take T) .nil pass0 (pa_cons (pv 2) (pa_cons pe_int pa_nil))))
      (pss_cons (ps_if (pt_cmpR op_eq (pv 3) pe_int (nomark _)) (pss_one (ps_ret (pe_tup (pa_cons (pe_op op_sub (pe_call (ok__law_take T) (hr.mono (by decide)) rfl (g__law_take T) (kp__law_take T) (B__law_take T) .nil pass0 (pa_cons (pv 2) (pa_cons pe_int pa_nil))) pe_int) (pa_cons (pe_ix ix_seq (pv 0) pe_int (fun _ _ => rfl)) pa_nil))))) pss_nil)
      (pss_cons (ps_if (pt_cmpR op_eq (pv 3) pe_int (nomark _)) (pss_one (ps_ret (pe_tup (pa_cons (pe_ix ix_seq (pv 0) pe_int (fun _ _ => rfl)) (pa_cons (pe_call (ok__law_bent_shown T) (hr.mono (by decide)) rfl (g__law_bent_shown T) (kp__law_bent_shown T) (B__law_bent_shown T) .nil pass0 (pa_cons (pe_ix ix_seq (pv 0) pe_int (fun _ _ => rfl)) (pa_cons (pv 2) pa_nil))) pa_nil))))) pss_nil)
      (pss_cons (ps_if (pt_cmpR op_eq (pv 3) pe_int (nomark _)) (pss_one (ps_ret (pe_ix ix_seq (pe_lst (pa_cons (pe_callTy callLst rfl (T.fr (T.c.fact 60 rfl)) boot_list (pa_cons (pv 0) pa_nil)) (pa_cons (pe_op op_catA (pv 0) (pe_tup (pa_cons pe_int pa_nil))) (pa_cons (pe_slice sl_tupA (pv 0) po_none (po_some pe_int)) (pa_cons pe_non (pa_cons pe_int (pa_cons pe_str (pa_cons (pe_tup (pa_cons (pe_ix ix_seq (pv 0) pe_int (fun _ _ => rfl)) (pa_cons (pe_ix ix_seq (pv 0) pe_int (fun _ _ => rfl)) pa_nil))) pa_nil)))))))) (pe_call (ok__law_take T) (hr.mono (by decide)) rfl (g__law_take T) (kp__law_take T) (B__law_take T) .nil pass0 (pa_cons (pv 2) (pa_cons pe_int pa_nil))) (fun _ _ => rfl)))) pss_nil)
      (pss_cons (ps_if (PW.pt (pw_and (pt_cmpR op_eq (pv 3) pe_int (nomark _)) (pw_and1 (pt_cmpR op_notN1 (pe_ix ix_seq (pv 0) pe_int (fun _ _ => rfl)) pe_non (nomark _))))) (pss_cons (ps_set (i := 4) sc__law_bent.nd rfl (Or.inl rfl) pe_int)
      (pss_cons (ps_for PassesOwn.never rfl (pi_list (pv 1)) (pg_tup rfl (pgs_cons (pg_name (i := 5) sc__law_bent.nd rfl (Or.inl rfl)) (pgs_cons (pg_name (i := 6) sc__law_bent.nd rfl (Or.inl rfl)) pgs_nil))) (pss_one (ps_set (i := 4) sc__law_bent.nd rfl (Or.inl rfl) (pe_op op_mulW (pe_op op_fdivW (pv 4) (pe_call (ok__law_common T) (hr.mono (by decide)) rfl (g__law_common T) (kp__law_common T) (B__law_common T) .nil pass0 (pa_cons (pv 4) (pa_cons (pv 5) pa_nil)))) (pv 5)))))
      (pss_one (ps_ret (pe_tup (pa_cons (pe_op op_add (pe_ix ix_seq (pv 0) pe_int (fun _ _ => rfl)) (pe_op op_mulW (pv 4) (pe_op op_sub (pe_call (ok__law_take T) (hr.mono (by decide)) rfl (g__law_take T) (kp__law_take T) (B__law_take T) .nil pass0 (pa_cons (pv 2) (pa_cons pe_int pa_nil))) pe_int))) (pa_cons (pe_ix ix_seq (pv 0) pe_int (fun _ _ => rfl)) pa_nil))))))) pss_nil)
      (pss_cons (ps_if (pt_cmpR op_eq (pv 3) pe_int (nomark _)) (pss_one (ps_ret (pe_tup (pa_cons (pe_ix ix_seq (pe_lst (pa_cons pe_bl (pa_cons pe_non (pa_cons pe_bl (pa_cons pe_str pa_nil))))) (pe_call (ok__law_take T) (hr.mono (by decide)) rfl (g__law_take T) (kp__law_take T) (B__law_take T) .nil pass0 (pa_cons (pv 2) (pa_cons pe_int pa_nil))) (fun _ _ => rfl)) (pa_cons (pe_ix ix_seq (pv 0) pe_int (fun _ _ => rfl)) pa_nil))))) pss_nil)
      (pss_one (ps_ret (pv 0))))))))), ?_⟩)
  · obtain ⟨t, R, s, rws, x0, sh, rfl, _⟩ := h; rfl
  · obtain ⟨t, R, s, rws, x0, sh, rfl, hst, hm, hx0, hR, hl4, hl0, ht, k⟩ := h
    obtain ⟨hb, hs2, hs5⟩ := hm.bd hl4
    have hbsh : Bd 4 (.tuple sh) := .tup (by omega) hb
    have hbx : Bd 0 x0 := by
      rcases hx0 with rfl | ⟨_, n, rfl, hn⟩
      · exact .non
      · exact .int (by omega)
    obtain ⟨t', xs, z, et, hxs⟩ := ht.tup_inv
    cases z
    obtain ⟨vx, vs, xr, rfl, g0, g1, g2⟩ := hxs.two
    cases g2
    walk_at "g"
    refine ⟨s, 6, rfl, by decide, by decide, hst, fun wy H1 w0 w1 st1 s1 => ?_⟩
    have et1 := sbTup s1 hst et
    have g01 := g0.sameS hst s1
    have g11 := g1.sameS hst s1
    have ht1 : Tu H1 (.ref t) (.tuple [x0, .tuple sh]) := .tup et1 (.cons g01 (.cons g11 .nil))
    walk_at "g"
    refine s_ite (fun c => ?_) (fun c => ?_)
    · walk_at "g"
      refine ⟨s, 60, rfl, by decide, by decide, st1, fun z H2 z0 z1 st2 s2 => ?_⟩
      walk_at "g"
      refine s_ixT (SqT.of (sbTup s2 st1 et1)) (atI0 1 rfl rfl) ?_
      walk_at "g"
      refine mkT (by simp) fun l3 H3 nl3 el3 s3 => ?_
      exact k _ H3 (.tuple [.int (z - 10), .tuple sh]) (.tup el3 (.cons (.int _) (.cons ((g11.sameS st1 s2).any.same s3) .nil))) (.tup (by simp) (bd_cons (.int (by omega)) (bd_cons (hbsh.mono (by decide)) bd_nil))) (hm.noAp0.two _) (st2.same s3) (s1.trans (s2.trans (SameB.of s3)))
    walk_at "g"
    refine s_ite (fun c => ?_) (fun c => ?_)
    · walk_at "g"
      refine s_ixT (SqT.of et1) (atI0 0 rfl rfl) ?_
      walk_at "g"
      refine s_ixT (SqT.of et1) (atI0 1 rfl rfl) ?_
      walk_at "g"
      obtain ⟨ts, ss, rfl, ets, hss⟩ := g11.tup_inv
      refine ⟨ts, s, rws, sh, rfl, st1, hm, hl4, hl0, .tup ets hss, fun v H2 d hd hbd hno st2 s2 => ?_⟩
      walk_at "g"
      refine mkT (by simp) fun l3 H3 nl3 el3 s3 => ?_
      exact k _ H3 (.tuple [x0, d]) (.tup el3 (.cons ((g01.sameS st1 s2).any.same s3) (.cons (hd.same s3) .nil))) (.tup (by simp) (bd_cons (hbx.mono (by decide)) (bd_cons (hbd.mono (by decide)) bd_nil))) (hno.two _) (st2.same s3) (s1.trans (s2.trans (SameB.of s3)))
    walk_at "g"
    refine s_ite (fun c => ?_) (fun c => ?_)
    · with_reducible refine s_ret ?_
      with_reducible refine s_op ?_
      refine (eve_lst (fun _ _ => trivial) (eves_cons (eve_lstOf (fun _ _ => trivial) (eve_var rfl ht1.any)) <| eves_cons (eve_cat (eve_var rfl ht1.any) (eve_tup (eves_cons eve_int eves_nil)) (by simp)) <| eves_cons (eve_sl (eve_var rfl ht1.any) evo_none (evo_some evv_c)) <| eves_cons eve_non <| eves_cons eve_int <| eves_cons eve_str <| eves_cons (eve_tup (eves_cons (eve_ix (d := .tuple sh) (eve_var rfl ht1.any) evv_c 1 rfl rfl) <| eves_cons (eve_ix (d := x0) (eve_var rfl ht1.any) evv_c 0 rfl rfl) eves_nil)) eves_nil) (by simp) : EvE (fun _ => True) _ _ H1 (.list [.list [x0, .tuple sh], .tuple ([x0, .tuple sh] ++ [.int 0]), .tuple (cutD [x0, .tuple sh] none (some 1)), .none, .int 7, .str "by", .tuple [.tuple sh, x0]])) H1 (Same.refl _) _ fun x H2 s2 hx => ?_
      have hcut : cutD [x0, .tuple sh] none (some 1) = [x0] := cutD_to (k := 1) (by simp)
      rw [hcut] at hx
      obtain ⟨p, ps, rfl, ep, hps, _⟩ := hx.lst_inv
      have hpl := hps.len
      have st2 := st1.same s2
      have hall : ∀ d ∈ [PyData.list [x0, .tuple sh], .tuple ([x0, .tuple sh] ++ [.int 0]), .tuple [x0], .none, .int 7, .str "by", .tuple [.tuple sh, x0]], Bd 52 d ∧ NoAp2 rws d := fun d hd => by
        simp only [List.mem_cons, List.not_mem_nil, or_false] at hd
        rcases hd with z | z | z | z | z | z | z <;> subst z
        · exact ⟨.lst (by simp) (bd_cons (hbx.mono (by decide)) (bd_cons (hbsh.mono (by decide)) bd_nil)), fun _ _ _ z => nomatch z⟩
        · exact ⟨.tup (by simp) (bd_cons (hbx.mono (by decide)) (bd_cons (hbsh.mono (by decide)) (bd_cons (.int (by decide)) bd_nil))), fun _ _ _ z => by simp at z⟩
        · exact ⟨.tup (by simp) (bd_cons (hbx.mono (by decide)) bd_nil), fun _ _ _ z => by simp at z⟩
        · exact ⟨.non, fun _ _ _ z => nomatch z⟩
        · exact ⟨.int (by decide), fun _ _ _ z => nomatch z⟩
        · exact ⟨.str _ (by decide +kernel), fun _ _ _ z => nomatch z⟩
        · refine ⟨.tup (by simp) (bd_cons (hbsh.mono (by decide)) (bd_cons (hbx.mono (by decide)) bd_nil)), fun _ _ _ z => ?_⟩
          simp only [PyData.tuple.injEq, List.cons.injEq, and_true] at z
          rcases hx0 with w | ⟨_, n, w, _⟩
          · rw [z.2] at w; cases w
          · rw [z.2] at w; cases w
      walk_at "g"
      refine ⟨s, 7, rfl, by decide, by decide, st2, fun z3 H3 z4 z5 st3 s3 => ?_⟩
      obtain ⟨m, rfl⟩ := Int.eq_ofNat_of_zero_le z4
      have hm7 : m < [PyData.list [x0, .tuple sh], .tuple ([x0, .tuple sh] ++ [.int 0]), .tuple [x0], .none, .int 7, .str "by", .tuple [.tuple sh, x0]].length := by simp only [List.length_cons, List.length_nil]; omega
      obtain ⟨y, hy, hyd⟩ := (hps.sameS st2 s3).get' (List.getElem?_eq_getElem hm7)
      obtain ⟨b1, b2⟩ := hall _ (List.getElem_mem hm7)
      walk_at "g"
      refine s_ixL (SqL.of (sbLst s3 st2 ep)) (atI_nat hy) ?_
      exact k y H3 _ hyd b1 b2 st3 (s1.trans ((SameB.of s2).trans s3))
    have keep : ∀ (x : PyData) (v : V) (H3 : Hp) (S : SameB s H1 H3) (st3 : StAt H3 s), Da H3 v x → Bd 0 x → ∀ l H4, H4 l = some (.tup [v, vs]) → Same H3 H4 → Q (.ref l) H4 := fun x v H3 S st3 hv hbv l H4 el s4 =>
      k _ H4 (.tuple [x, .tuple sh]) (.tup el (.cons (hv.same s4) (.cons ((g11.sameS st1 S).any.same s4) .nil))) (.tup (by simp) (bd_cons (hbv.mono (by decide)) (bd_cons (hbsh.mono (by decide)) bd_nil))) (hm.noAp0.two _) (st3.same s4) (s1.trans (S.trans (SameB.of s4)))
    walk_at "h"
    have hR1 := hR.sameS hst s1
    refine s_ifand (decide (wy = 3)) (!decide (vx = .non)) (fun QB q => by
      walk_at "g"
      exact q) (fun _ QB q => by
      walk_at "g"
      refine s_ixT (SqT.of et1) (atI0 0 rfl rfl) ?_
      walk_at "g"
      refine ⟨rfl, ?_⟩
      walk_at "g"
      exact q) ?_
    cases c3 : (decide (wy = 3) && !decide (vx = .non)) with
    | true =>
      rw [Bool.and_eq_true, decide_eq_true_eq, Bool.not_eq_true', decide_eq_false_iff_not] at c3
      obtain ⟨_, hvx⟩ := c3
      have hx0' : AllP rws ∧ ∃ n : Nat, x0 = .int (n : Nat) ∧ n < 2 ^ 60 := by
        rcases hx0 with rfl | h
        · cases g0; exact absurd rfl hvx
        · exact h
      obtain ⟨hall, n, rfl, hn⟩ := hx0'
      cases g0
      have hpb := plO_bd hall
      obtain ⟨ys, eR, hyl⟩ := hR1.len
      walk_at "g"
      refine ⟨⟨_, SqL.of eR⟩, ?_⟩
      refine for_list (fun i σ H' => Same H1 H' ∧ ∃ v5 v6 : Option V, σ = [some (.ref t), some (.ref R), some (.ref s), some (.int wy), some (.int (M.lcmL (plO (rws.take i)) : Nat)), v5, v6]) ⟨Same.refl _, none, none, by rw [List.take_zero]; rfl⟩ (fun i σ H' _ I => SqL.of (I.1 _ _ eR)) ?_ ?_
      · rintro i v σ H4 hi ⟨s4, v7, v8, rfl⟩
        obtain ⟨t2, q, hq, rfl, et2⟩ := (hR1.same s4).getV (s4 _ _ eR) hi
        obtain ⟨q0, q31, y, hqy, yq⟩ := hall q (List.mem_of_getElem? hq)
        have hsub : ∀ z ∈ plO (rws.take i), z ∈ plO rws := fun z hz => by
          obtain ⟨r, hr, rfl⟩ := List.mem_map.mp hz
          exact List.mem_map.mpr ⟨r, List.mem_of_mem_take hr, rfl⟩
        have W0 := M.lcm_pos (plO (rws.take i)) fun z hz => (hpb z (hsub z hz)).1
        have Wl := M.lcm_le 31 (plO (rws.take i)) fun z hz => by have := hpb z (hsub z hz); omega
        have Wl2 : (31 : Nat) ^ (plO (rws.take i)).length ≤ 31 ^ 4 := Nat.pow_le_pow_right (by decide) (by unfold plO; rw [List.length_map, List.length_take]; omega)
        have el : ((M.lcmL (plO (rws.take i)) / Nat.gcd (M.lcmL (plO (rws.take i))) q.1 : Nat) : Int) * (q.1 : Int) = ((M.lcmL (plO (rws.take (i + 1))) : Nat) : Int) := by
          rw [take_more hq]
          unfold plO
          rw [List.map_append, List.map_cons, List.map_nil, M.lcmL_snoc, ← Int.natCast_mul]
          congr 1
          show M.lcmL (plO (rws.take i)) / Nat.gcd (M.lcmL (plO (rws.take i))) q.1 * q.1 = Nat.lcm (M.lcmL (plO (rws.take i))) q.1
          unfold Nat.lcm
          rw [Nat.div_mul_right_comm (Nat.gcd_dvd_left _ _)]
        generalize hWe : M.lcmL (plO (rws.take i)) = W at W0 Wl el ⊢
        have hgp : 0 < Nat.gcd W q.1 := Nat.gcd_pos_of_pos_left _ W0
        have hgl : Nat.gcd W q.1 ≤ q.1 := Nat.gcd_le_right _ q0
        refine s_gtup (SqT.of et2) rfl ?_
        walk_at "g"
        refine ⟨W, q.1, rfl, ?_⟩
        walk_at "g"
        refine s_i (divW (by omega) (by omega)) ?_
        rw [← Int.natCast_ediv]
        have hq' : W / Nat.gcd W q.1 ≤ W := Nat.div_le_self _ _
        generalize W / Nat.gcd W q.1 = tq at hq' el ⊢
        walk_at "g"
        try refine s_i (mulW (by omega) (by omega)) ?_
        rw [el]
        walk_at "g"
        exact ⟨s4, _, _, rfl⟩
      · rintro σ H4 ⟨s4, v7, v8, rfl⟩
        rw [hyl, List.take_length]
        have Wl := M.lcm_le 31 (plO rws) fun z hz => by have := hpb z hz; omega
        have Wl2 : (31 : Nat) ^ (plO rws).length ≤ 31 ^ 4 := Nat.pow_le_pow_right (by decide) (by unfold plO; rw [List.length_map]; omega)
        generalize M.lcmL (plO rws) = W at Wl ⊢
        have st4 := st1.same s4
        walk_at "g"
        refine s_ixT (SqT.of (s4 _ _ et1)) (atI0 0 rfl rfl) ?_
        walk_at "g"
        refine ⟨s, 3, rfl, by decide, by decide, st4, fun z3 H5 z4 z5 st5 s5 => ?_⟩
        have et5 := sbTup s5 st4 (s4 _ _ et1)
        walk_at "g"
        try refine s_i (mulW (by omega) (by omega)) ?_
        have hz : ((W : Int) * (z3 - 1)).natAbs ≤ 923521 * 1 := by
          rw [Int.natAbs_mul]
          exact Nat.mul_le_mul (by omega) (by omega)
        generalize (W : Int) * (z3 - 1) = wz at hz ⊢
        walk_at "g"
        refine s_ixT (SqT.of et5) (atI0 1 rfl rfl) ?_
        walk_at "g"
        refine mkT (by simp) fun l6 H6 nl6 el6 s6 => ?_
        exact keep (.int ((n : Int) + wz)) _ H5 ((SameB.of s4).trans s5) st5 (.int _) (.int (by omega)) l6 H6 el6 s6
    | false =>
    walk_at "g"
    refine s_ite (fun c => ?_) (fun c => ?_)
    · with_reducible refine s_ret ?_
      with_reducible refine s_tup ?_
      with_reducible refine s_cons ?_
      with_reducible refine s_op ?_
      refine (evx_lst (evl_cons evd_bl <| evl_cons evd_non <| evl_cons evd_bl <| evl_cons (evd_str (by decide +kernel)) evl_nil) (by decide) : EvX (fun _ => True) 0 4 _ _ H1) H1 (Same.refl _) _ fun p ps H2 ds s2 np ep hds hbs hdl => ?_
      have st2 := st1.same s2
      walk_at "g"
      refine ⟨s, 4, rfl, by decide, by decide, st2, fun z3 H3 z4 z5 st3 s3 => ?_⟩
      obtain ⟨m, rfl⟩ := Int.eq_ofNat_of_zero_le z4
      have hm4 : m < ds.length := by omega
      obtain ⟨y, hy, hyd⟩ := (hds.sameS st2 s3).get' (List.getElem?_eq_getElem hm4)
      have hby := hbs _ (List.getElem_mem hm4)
      walk_at "g"
      refine s_ixL (SqL.of (sbLst s3 st2 ep)) (atI_nat hy) ?_
      walk_at "g"
      refine s_ixT (SqT.of (sbTup s3 st2 (s2 _ _ et1))) (atI0 1 rfl rfl) ?_
      walk_at "g"
      refine mkT (by simp) fun l6 H6 nl6 el6 s6 => ?_
      exact keep _ y H3 ((SameB.of s2).trans s3) st3 hyd hby l6 H6 el6 s6
    walk_at "g"
    exact k _ H1 _ ht1.any (.tup (by simp) (bd_cons (hbx.mono (by decide)) (bd_cons (hbsh.mono (by decide)) bd_nil))) (hm.noAp0.two _) st1 s1

/-- _law_turned(thing, many): turned about -/
def sp__law_turned : Sp := fun vs H Q _ => ∃ (t : Addr) (m : Int) (rws : List (Nat × Option Nat)) (x0 : PyData) (sh : List PyData), vs = [.ref t, .int m] ∧ m.natAbs ≤ 10 ∧ MadeS rws sh ∧ Bd 0 x0 ∧ rws.length ≤ 4 ∧ Tu H (.ref t) (.tuple [x0, .tuple sh]) ∧
  ∀ (v : V) (H' : Hp) (d : PyData), Tu H' v d → Bd 10 d → Same H H' → Q v H'
theorem ok__law_turned (T : Txt K mg) : FnOk P w K mg base CX0 1 (He.ga K "_law_turned") (fd__law_turned T) ["_law_thing", "_law_many"] sp__law_turned := by
  refine (F__law_turned T).ok sc__law_turned (fun vs H Q E h => ?_) (fun cdv A outer s H vs Q E hr h => ⟨_, PSs.nox (pss_cons (ps_asg (pv 0) (pg_tup rfl (pgs_cons (pg_name (i := 2) sc__law_turned.nd rfl (Or.inl rfl)) (pgs_cons (pg_name (i := 3) sc__law_turned.nd rfl (Or.inl rfl)) pgs_nil))))
      (pss_cons (ps_if (pt_cmpR (op_eqD hr.units) (pe_ix ix_seq (pv 3) pe_int (fun _ _ => rfl)) pe_str (nomark _)) (pss_one (ps_ret (pe_tup (pa_cons (pv 2) (pa_cons (pe_op op_catA (pe_tup (pa_cons pe_str (pa_cons (pe_op op_sub (pe_op op_sub (pv 1) pe_int) (pe_ix ix_seq (pv 3) pe_int (fun _ _ => rfl))) pa_nil))) (pe_slice sl_tupA (pv 3) (po_some pe_int) po_none)) pa_nil))))) pss_nil)
      (pss_cons (ps_if (pt_cmpR (op_eqD hr.units) (pe_ix ix_seq (pv 3) pe_int (fun _ _ => rfl)) pe_str (nomark _)) (pss_one (ps_ret (pe_tup (pa_cons (pv 2) (pa_cons (pe_tup (pa_cons pe_str (pa_cons (pe_op op_sub (pe_op op_sub (pv 1) pe_int) (pe_ix ix_seq (pv 3) pe_int (fun _ _ => rfl))) (pa_cons (pe_op op_sub (pe_op op_sub (pv 1) pe_int) (pe_ix ix_seq (pv 3) pe_int (fun _ _ => rfl))) (pa_cons (pe_ix ix_seq (pv 3) pe_int (fun _ _ => rfl)) (pa_cons (pe_ix ix_seq (pv 3) pe_int (fun _ _ => rfl)) pa_nil)))))) pa_nil))))) pss_nil)
      (pss_one (ps_ret (pe_tup (pa_cons (pv 2) (pa_cons (pe_tup (pa_cons pe_str (pa_cons (RevT.pe_revT (pe_ix ix_seq (pv 3) pe_int (fun _ _ => rfl))) pa_nil))) pa_nil)))))))), ?_⟩)
  · obtain ⟨t, m, rws, x0, sh, rfl, _⟩ := h; rfl
  · obtain ⟨t, m, rws, x0, sh, rfl, hm10, hm, hbx, hl4, ht, k⟩ := h
    obtain ⟨hb, hs2, hs5⟩ := hm.bd hl4
    obtain ⟨t', xs, z, et, hxs⟩ := ht.tup_inv
    cases z
    obtain ⟨vx, vs, xr, rfl, g0, g1, g2⟩ := hxs.two
    cases g2
    obtain ⟨ts, ss, rfl, ets, hss⟩ := g1.tup_inv
    have eqF1 : PyData.eqv (.str "none") (.str "apart") = false := by decide +kernel
    have eqF2 : PyData.eqv (.str "by") (.str "apart") = false := by decide +kernel
    have eqF3 : PyData.eqv (.str "by") (.str "none") = false := by decide +kernel
    have eqF4 : PyData.eqv (.str "apart") (.str "none") = false := by decide +kernel
    have eqT1 : PyData.eqv (.str "none") (.str "none") = true := by decide +kernel
    have eqT2 : PyData.eqv (.str "apart") (.str "apart") = true := by decide +kernel
    have shN : ∀ w : Str, PyData.strOk w = true → SeqAt.shaped (.str w) = true := fun w hw => (Bd.str _ hw : Bd 1 _).shaped (by decide)
    have fin : ∀ (sh' : List PyData) (l l' : Addr) (H3 H4 : Hp), Same H H3 → Tu H3 (.ref l) (.tuple sh') → (∀ d ∈ sh', Bd 4 d) → sh'.length ≤ 10 → H4 l' = some (.tup [vx, .ref l]) → Same H3 H4 → Q (.ref l') H4 := fun sh' l l' H3 H4 s3 hl hbd hln el s4 =>
      k _ H4 (.tuple [x0, .tuple sh']) (.tup el (.cons (g0.same (s3.trans s4)) (.cons (hl.same s4) .nil))) (.tup (by simp) (bd_cons (hbx.mono (by decide)) (bd_cons (.tup (by omega) fun d hd => (hbd d hd).mono (by decide)) bd_nil))) (s3.trans s4)
    walk_at "g"
    refine s_gtup (SqT.of et) rfl ?_
    walk_at "g"
    rcases id hm with ⟨n, e, r, rfl, h1, h2, h3⟩ | ⟨ha, i, j, q, q', rfl, h1, h2, h3, h4⟩ | ⟨ha, rfl⟩
    · cases hss with
      | cons f0 hx =>
      obtain ⟨x1, x2, x3, xr, rfl, f1, f2, f3, f4⟩ := hx.three
      cases f4
      cases f0
      cases f1
      cases f2
      cases f3
      refine s_ixT (SqT.of ets) (atI0 0 rfl rfl) ?_
      walk_at "g"
      refine s_eqD (.str "none") (.str "none") (.str _) (.str _) (shN _ (by decide +kernel)) (shN _ (by decide +kernel)) ?_
      rw [eqT1]
      walk_at "g"
      refine s_ixT (SqT.of ets) (atI0 1 rfl rfl) ?_
      walk_at "g"
      refine mkT (by simp) fun l4 H4 nl4 el4 s4 => ?_
      walk_at "g"
      refine mkSlA (SqT.of (s4 _ _ ets)) (s4 _ _ ets) fun l5 H5 el5 s5 => ?_
      have hcut : cutV [V.str "none", .int ((n : Nat) : Int), .int ((e : Nat) : Int), .int r] (some 2) none = [.int ((e : Nat) : Int), .int r] := by rfl
      rw [hcut] at el5
      walk_at "g"
      refine mkCatA (s5 _ _ el4) el5 (by simp) fun l6 H6 el6 s6 => ?_
      walk_at "g"
      refine mkT (by simp) fun l7 H7 nl7 el7 s7 => ?_
      exact fin [.str "none", .int (m - 1 - (n : Nat)), .int (e : Nat), .int r] l6 l7 H6 H7 (s4.trans (s5.trans s6)) (.tup el6 (.cons (.str _) (.cons (.int _) (.cons (.int _) (.cons (.int _) .nil))))) (bd_cons (.str _ (by decide +kernel)) (bd_cons (.int (by omega)) (bd_cons (.int (by omega)) (bd_cons (.int (by omega)) bd_nil)))) (by simp) el7 s7
    · cases hss with
      | cons f0 hx =>
      obtain ⟨x1, x2, x3, xr, rfl, f1, f2, f3, f4⟩ := hx.three
      cases f4 with
      | cons f4 f5 =>
      cases f5
      cases f0
      cases f1
      cases f2
      refine s_ixT (SqT.of ets) (atI0 0 rfl rfl) ?_
      walk_at "g"
      refine s_eqD (.str "apart") (.str "none") (.str _) (.str _) (shN _ (by decide +kernel)) (shN _ (by decide +kernel)) ?_
      rw [eqF4]
      walk_at "g"
      refine s_ixT (SqT.of ets) (atI0 0 rfl rfl) ?_
      walk_at "g"
      refine s_eqD (.str "apart") (.str "apart") (.str _) (.str _) (shN _ (by decide +kernel)) (shN _ (by decide +kernel)) ?_
      rw [eqT2]
      walk_at "g"
      refine s_ixT (SqT.of ets) (atI0 2 rfl rfl) ?_
      walk_at "g"
      refine s_ixT (SqT.of ets) (atI0 1 rfl rfl) ?_
      walk_at "g"
      refine s_ixT (SqT.of ets) (atI0 4 rfl rfl) ?_
      walk_at "g"
      refine s_ixT (SqT.of ets) (atI0 3 rfl rfl) ?_
      walk_at "g"
      refine mkT (by simp) fun l4 H4 nl4 el4 s4 => ?_
      walk_at "g"
      refine mkT (by simp) fun l7 H7 nl7 el7 s7 => ?_
      exact fin [.str "apart", .int (m - 1 - (j : Nat)), .int (m - 1 - (i : Nat)), rowO q', rowO q] l4 l7 H4 H7 s4 (.tup el4 (.cons (.str _) (.cons (.int _) (.cons (.int _) (.cons (f4.same s4) (.cons (f3.same s4) .nil)))))) (bd_cons (.str _ (by decide +kernel)) (bd_cons (.int (by omega)) (bd_cons (.int (by omega)) (bd_cons ((bd_rowO ha h4).mono (by decide)) (bd_cons ((bd_rowO ha h3).mono (by decide)) bd_nil))))) (by simp) el7 s7
    · obtain ⟨x0', x1, xr, rfl, f0, f1, f2⟩ := hss.two
      cases f2
      cases f0
      refine s_ixT (SqT.of ets) (atI0 0 rfl rfl) ?_
      walk_at "g"
      refine s_eqD (.str "by") (.str "none") (.str _) (.str _) (shN _ (by decide +kernel)) (shN _ (by decide +kernel)) ?_
      rw [eqF3]
      walk_at "g"
      refine s_ixT (SqT.of ets) (atI0 0 rfl rfl) ?_
      walk_at "g"
      refine s_eqD (.str "by") (.str "apart") (.str _) (.str _) (shN _ (by decide +kernel)) (shN _ (by decide +kernel)) ?_
      rw [eqF2]
      walk_at "c"
      with_reducible refine s_ret ?_
      refine (eve_tup (eves_cons (eve_var rfl g0) <| eves_cons (eve_tup (eves_cons eve_str <| eves_cons (eve_rev (eve_ix (d := .tuple (rws.map rowO)) (eve_var rfl (.tup ets (.cons (.str _) (.cons f1 .nil)))) evv_c 1 rfl rfl)) eves_nil)) eves_nil) (by simp) : EvE (fun _ => False) _ _ H _) H (Same.refl _) _ fun x H3 s3 hx => ?_
      refine k x H3 _ hx (.tup (by simp) (bd_cons (hbx.mono (by decide)) (bd_cons (.tup (by simp) (bd_cons (.str _ (by decide +kernel)) (bd_cons (.tup (by rw [List.length_reverse, List.length_map]; omega) fun d hd => ?_) bd_nil))) bd_nil))) s3
      obtain ⟨q, hq, rfl⟩ := List.mem_map.mp (List.mem_reverse.mp hd)
      exact (bd_rowO ha hq).mono (by decide)
/-- _law_any_apart(rows, state): two by any two primes -/
def sp__law_any_apart : Sp := fun vs H Q _ => ∃ (R s : Addr) (rws : List (Nat × Option Nat)), vs = [.ref R, .ref s] ∧ StAt H s ∧ RowsAt H R rws ∧ AllP rws ∧ rws.length ≤ 4 ∧ 2 ≤ rws.length ∧
  ∀ (v : V) (H' : Hp) (d : PyData), Tu H' v d → Bd 10 d → StAt H' s → SameB s H H' → Q v H'
theorem ok__law_any_apart (T : Txt K mg) : FnOk P w K mg base CX0 2 (He.ga K "_law_any_apart") (fd__law_any_apart T) ["_law_rows_here", "_law_state_here"] sp__law_any_apart := by
  refine (F__law_any_apart T).ok sc__law_any_apart (fun vs H Q E h => ?_) (fun cdv A outer s H vs Q E hr h => ⟨_, PSs.nox (pss_cons (ps_set (i := 2) sc__law_any_apart.nd rfl (Or.inl rfl) (pe_op op_add pe_int (pe_call (ok__law_take T) (hr.mono (by decide)) rfl (g__law_take T) (kp__law_take T) (B__law_take T) .nil pass0 (pa_cons (pv 1) (pa_cons (pe_op op_sub (pe_callB callLen rfl (T.fr (T.c.fact 56 rfl)) boot_len (pa_cons (pv 0) pa_nil)) pe_int) pa_nil)))))
      (pss_cons (ps_set (i := 3) sc__law_any_apart.nd rfl (Or.inl rfl) (pe_call (ok__law_take T) (hr.mono (by decide)) rfl (g__law_take T) (kp__law_take T) (B__law_take T) .nil pass0 (pa_cons (pv 1) (pa_cons (pv 2) pa_nil))))
      (pss_cons (ps_set (i := 4) sc__law_any_apart.nd rfl (Or.inl rfl) (pe_tup (pa_cons (pe_ix ix_seq (pe_ix ix_seq (pv 0) (pv 3) (fun _ _ => rfl)) pe_int (fun _ _ => rfl)) (pa_cons (pe_call (ok__law_take T) (hr.mono (by decide)) rfl (g__law_take T) (kp__law_take T) (B__law_take T) .nil pass0 (pa_cons (pv 1) (pa_cons (pe_ix ix_seq (pe_ix ix_seq (pv 0) (pv 3) (fun _ _ => rfl)) pe_int (fun _ _ => rfl)) pa_nil))) pa_nil))))
      (pss_cons (ps_set (i := 5) sc__law_any_apart.nd rfl (Or.inl rfl) (pe_tup (pa_cons (pe_ix ix_seq (pe_ix ix_seq (pv 0) (pv 2) (fun _ _ => rfl)) pe_int (fun _ _ => rfl)) (pa_cons (pe_call (ok__law_take T) (hr.mono (by decide)) rfl (g__law_take T) (kp__law_take T) (B__law_take T) .nil pass0 (pa_cons (pv 1) (pa_cons (pe_ix ix_seq (pe_ix ix_seq (pv 0) (pv 2) (fun _ _ => rfl)) pe_int (fun _ _ => rfl)) pa_nil))) pa_nil))))
      (pss_cons (ps_if (pt_cmpR op_eq (pe_call (ok__law_take T) (hr.mono (by decide)) rfl (g__law_take T) (kp__law_take T) (B__law_take T) .nil pass0 (pa_cons (pv 1) (pa_cons pe_int pa_nil))) pe_int (nomark _)) (pss_one (ps_set (i := 4) sc__law_any_apart.nd rfl (Or.inl rfl) (pe_ix ix_seq (pv 0) (pv 3) (fun _ _ => rfl)))) pss_nil)
      (pss_one (ps_ret (pe_tup (pa_cons pe_non (pa_cons (pe_tup (pa_cons pe_str (pa_cons (pv 3) (pa_cons (pv 2) (pa_cons (pv 4) (pa_cons (pv 5) pa_nil)))))) pa_nil)))))))))), ?_⟩)
  · obtain ⟨R, s, rws, rfl, _⟩ := h; rfl
  · obtain ⟨R, s, rws, rfl, hst, hR, hall, hl4, hl2, k⟩ := h
    obtain ⟨ys, eR, hyl⟩ := hR.len
    walk_at "g"
    refine s_lenL (SqL.of eR) ?_
    rw [hyl]
    walk_at "g"
    refine ⟨s, _, rfl, by omega, by omega, hst, fun j0 H1 j1 j2 st1 s1 => ?_⟩
    obtain ⟨j, rfl⟩ := Int.eq_ofNat_of_zero_le j1
    walk_at "g"
    refine ⟨s, _, rfl, by omega, by omega, st1, fun i0 H2 i1 i2 st2 s2 => ?_⟩
    obtain ⟨i, rfl⟩ := Int.eq_ofNat_of_zero_le i1
    have S2 := s1.trans s2
    have hR2 := (hR.sameS hst s1).sameS st1 s2
    obtain ⟨e, y, hx, e0, e31, ye⟩ := hall.get (show i < rws.length by omega)
    obtain ⟨e', y', hx', e0', e31', ye'⟩ := hall.get (show 1 + j < rws.length by omega)
    obtain ⟨ys1, t1, a1, a2, a3⟩ := hR2.get hx
    have a3 : H2 t1 = some (.tup [.int (e : Nat), .int (y : Nat)]) := a3
    walk_at "g"
    refine s_ixL (SqL.of a1) (atI0 i rfl a2) ?_
    walk_at "g"
    refine s_ixT (SqT.of a3) (atI0 0 rfl rfl) ?_
    walk_at "g"
    refine s_ixL (SqL.of a1) (atI0 i rfl a2) ?_
    walk_at "g"
    refine s_ixT (SqT.of a3) (atI0 0 rfl rfl) ?_
    walk_at "g"
    refine ⟨s, _, rfl, by omega, by omega, st2, fun z3 H3 z30 z31 st3 s3 => ?_⟩
    walk_at "g"
    refine mkT (by simp) fun l4 H4 nl4 el4 s4 => ?_
    have st4 := st3.same s4
    have hR4 := (hR2.sameS st2 s3).same s4
    obtain ⟨ys2, t2, b1, b2, b3⟩ := hR4.get hx'
    have b3 : H4 t2 = some (.tup [.int (e' : Nat), .int (y' : Nat)]) := b3
    walk_at "g"
    refine s_ixL (SqL.of b1) (atI0 (1 + j) (by omega) b2) ?_
    walk_at "g"
    refine s_ixT (SqT.of b3) (atI0 0 rfl rfl) ?_
    walk_at "g"
    refine s_ixL (SqL.of b1) (atI0 (1 + j) (by omega) b2) ?_
    walk_at "g"
    refine s_ixT (SqT.of b3) (atI0 0 rfl rfl) ?_
    walk_at "g"
    refine ⟨s, _, rfl, by omega, by omega, st4, fun z5 H5 z50 z51 st5 s5 => ?_⟩
    have el5 := sbTup s5 st4 el4
    walk_at "g"
    refine mkT (by simp) fun l6 H6 nl6 el6 s6 => ?_
    have st6 := st5.same s6
    walk_at "g"
    refine ⟨s, 4, rfl, by decide, by decide, st6, fun z7 H7 z70 z71 st7 s7 => ?_⟩
    have S7 := S2.trans (s3.trans ((SameB.of s4).trans (s5.trans ((SameB.of s6).trans s7))))
    have hR7 := ((hR4.sameS st4 s5).same s6).sameS st6 s7
    have el57 := sbTup s7 st6 (s6 _ _ el5)
    have el67 := sbTup s7 st6 el6
    have bi : ∀ {i : Int}, i.natAbs ≤ 100 → Bd 4 (.int i) := fun h => .int (by omega)
    walk_at "g"
    refine s_ite (fun c => ?_) (fun c => ?_)
    · obtain ⟨ys3, t3, c1, c2, c3⟩ := hR7.get hx
      have c3 : H7 t3 = some (.tup [.int (e : Nat), .int (y : Nat)]) := c3
      walk_at "g"
      refine s_ixL (SqL.of c1) (atI0 i rfl c2) ?_
      walk_at "g"
      refine mkT (by simp) fun l8 H8 nl8 el8 s8 => ?_
      walk_at "g"
      refine mkT (by simp) fun l9 H9 nl9 el9 s9 => ?_
      refine k _ H9 (.tuple [.none, .tuple [.str "apart", .int (i : Nat), .int (1 + (j : Nat)), .tuple [.int (e : Nat), .int (y : Nat)], .tuple [.int (e' : Nat), .int z5]]]) (.tup el9 (.cons .non (.cons (.tup (s9 _ _ el8) (.cons (.str _) (.cons (.int _) (.cons (.int _) (.cons (.tup (s9 _ _ (s8 _ _ c3)) (.cons (.int _) (.cons (.int _) .nil))) (.cons (.tup (s9 _ _ (s8 _ _ el67)) (.cons (.int _) (.cons (.int _) .nil))) .nil)))))) .nil))) ?_ (st7.same (s8.trans s9)) (S7.trans (SameB.of (s8.trans s9)))
      exact .tup (by simp) (bd_cons .non (bd_cons (.tup (by simp) (bd_cons (.str _ (by decide +kernel)) (bd_cons (.int (by omega)) (bd_cons (.int (by omega)) (bd_cons ((bd_two (by omega) (by omega)).mono (by decide)) (bd_cons ((bd_two (by omega) (by omega)).mono (by decide)) bd_nil)))))) bd_nil))
    · walk_at "g"
      refine mkT (by simp) fun l8 H8 nl8 el8 s8 => ?_
      walk_at "g"
      refine mkT (by simp) fun l9 H9 nl9 el9 s9 => ?_
      refine k _ H9 (.tuple [.none, .tuple [.str "apart", .int (i : Nat), .int (1 + (j : Nat)), .tuple [.int (e : Nat), .int z3], .tuple [.int (e' : Nat), .int z5]]]) (.tup el9 (.cons .non (.cons (.tup (s9 _ _ el8) (.cons (.str _) (.cons (.int _) (.cons (.int _) (.cons (.tup (s9 _ _ (s8 _ _ el57)) (.cons (.int _) (.cons (.int _) .nil))) (.cons (.tup (s9 _ _ (s8 _ _ el67)) (.cons (.int _) (.cons (.int _) .nil))) .nil)))))) .nil))) ?_ (st7.same (s8.trans s9)) (S7.trans (SameB.of (s8.trans s9)))
      exact .tup (by simp) (bd_cons .non (bd_cons (.tup (by simp) (bd_cons (.str _ (by decide +kernel)) (bd_cons (.int (by omega)) (bd_cons (.int (by omega)) (bd_cons ((bd_two (by omega) (by omega)).mono (by decide)) (bd_cons ((bd_two (by omega) (by omega)).mono (by decide)) bd_nil)))))) bd_nil))

theorem papsD_mem {l : List PyData} {x : PyData} (h : PapsD (.list l)) (hx : x ∈ l) : IsPap x := by
  obtain ⟨ds, e, _, _, h1, _⟩ := h
  cases e
  exact h1 x hx
theorem pap_not {p f : Int} {d : PyData} (h : IsPap (.tuple [.int p, .int f, d])) : 1 ≤ f ∧ (f = p - 1 → p ≤ 3) := by
  obtain ⟨p', f', ds, e, hp, f1, f2, _, _, _, ho⟩ := h.inv
  simp only [PyData.tuple.injEq, List.cons.injEq, PyData.int.injEq, and_true] at e
  obtain ⟨rfl, rfl, rfl⟩ := e
  refine ⟨by omega, fun z => ?_⟩
  have h2 : M.is1 p' (f' : Int) 2 := by
    refine ⟨(p' : Int) - 2, ?_⟩
    rw [z]
    grind
  have := ho.least 2 (by decide) h2
  omega
theorem isPap_three {d : PyData} (h : IsPap d) : ∃ a b c, d = .tuple [a, b, c] := by
  obtain ⟨p, f, ds, e, _⟩ := h.inv
  exact ⟨_, _, _, e⟩
theorem s_pickIf {K : PySem.W.Frag} {H : Hp} {Q : VK} {l : Addr} {a b : Int} {c : Bool} (hl : H l = some (.lst [.int a, .int b])) (h : ∀ z, (c = true ∧ z = b ∨ c = false ∧ z = a) → Q (.int z) H) : rIx K (.ref l) (.int (if c = true then 1 else 0)) H Q := by
  cases c with
  | true => exact s_ixL (SqL.of hl) (atI0 1 rfl rfl) (h b (.inl ⟨rfl, rfl⟩))
  | false => exact s_ixL (SqL.of hl) (atI0 0 rfl rfl) (h a (.inr ⟨rfl, rfl⟩))
/-- _law_bent_papers(papers, way, at): no papers of rising primes -/
def sp__law_bent_papers : Sp := fun vs H Q _ => ∃ (D : Addr) (way : Int) (w : Nat) (ws : List V) (ds : List PyData), vs = [.ref D, .int way, .int (w : Nat)] ∧ 0 ≤ way ∧ way < 7 ∧ w < ds.length ∧ ds.length ≤ 4 ∧ H D = some (.lst ws) ∧ DaL (fun _ => False) H ws ds ∧ (∀ d ∈ ds, IsPap d ∧ Bd 30 d) ∧
  ∀ (v : V) (H' : Hp) (d : PyData), Da H' v d → Bd 32 d → ¬ PapsD d → Same H H' → Q v H'
theorem ok__law_bent_papers (T : Txt K mg) : FnOk P w K mg base CX0 1 (He.ga K "_law_bent_papers") (fd__law_bent_papers T) ["_law_papers", "_law_way", "_law_at"] sp__law_bent_papers := by
  refine (F__law_bent_papers T).ok sc__law_bent_papers (fun vs H Q E h => ?_) (fun cdv A outer s H vs Q E hr h => ⟨_, PSs.nox (pss_cons (ps_set (i := 3) sc__law_bent_papers.nd rfl (Or.inl rfl) (pe_ix ix_seq (pv 0) (pv 2) (fun _ _ => rfl)))
      (pss_cons (ps_set (i := 4) sc__law_bent_papers.nd rfl (Or.inl rfl) (pe_ix ix_seq (pe_lst (pa_cons pe_int (pa_cons (pe_op op_sub (pe_ix ix_seq (pv 3) pe_int (fun _ _ => rfl)) pe_int) pa_nil))) (pe_callTy callInt1 rfl (T.fr (T.c.fact 53 rfl)) boot_int (pa_cons (pe_cmpR op_gt (pe_ix ix_seq (pv 3) pe_int (fun _ _ => rfl)) pe_int (nomark _)) pa_nil)) (fun _ _ => rfl)))
      (pss_cons (ps_set (i := 5) sc__law_bent_papers.nd rfl (Or.inl rfl) (pe_lst (pa_cons (pe_op op_cat (pe_op op_cat (pe_slice sl_list (pv 0) po_none (po_some (pv 2))) (pe_lst (pa_cons (pv 3) pa_nil))) (pe_slice sl_list (pv 0) (po_some (pv 2)) po_none)) (pa_cons (pe_op op_cat (pe_op op_cat (pe_slice sl_list (pv 0) po_none (po_some (pv 2))) (pe_lst (pa_cons (pe_tup (pa_cons (pe_ix ix_seq (pv 3) pe_int (fun _ _ => rfl)) (pa_cons pe_int (pa_cons (pe_ix ix_seq (pv 3) pe_int (fun _ _ => rfl)) pa_nil)))) pa_nil))) (pe_slice sl_list (pv 0) (po_some (pe_op op_add (pv 2) pe_int)) po_none)) (pa_cons (pe_callTy callTup rfl (T.fr (T.c.fact 55 rfl)) boot_tuple (pa_cons (pv 0) pa_nil)) (pa_cons (pe_lst pa_nil) pa_nil))))))
      (pss_cons (ps_set (i := 5) sc__law_bent_papers.nd rfl (Or.inl rfl) (pe_op op_cat (pv 5) (pe_lst (pa_cons (pe_op op_cat (pe_op op_cat (pe_slice sl_list (pv 0) po_none (po_some (pv 2))) (pe_lst (pa_cons (pe_slice sl_tupA (pv 3) po_none (po_some pe_int)) pa_nil))) (pe_slice sl_list (pv 0) (po_some (pe_op op_add (pv 2) pe_int)) po_none)) (pa_cons (pe_op op_cat (pe_op op_cat (pe_slice sl_list (pv 0) po_none (po_some (pv 2))) (pe_lst (pa_cons pe_non pa_nil))) (pe_slice sl_list (pv 0) (po_some (pv 2)) po_none)) pa_nil)))))
      (pss_one (ps_ret (pe_ix ix_seq (pe_op op_cat (pv 5) (pe_lst (pa_cons (pe_op op_cat (pe_op op_cat (pe_slice sl_list (pv 0) po_none (po_some (pv 2))) (pe_lst (pa_cons (pe_tup (pa_cons (pe_ix ix_seq (pv 3) pe_int (fun _ _ => rfl)) (pa_cons (pv 4) (pa_cons (pe_ix ix_seq (pv 3) pe_int (fun _ _ => rfl)) pa_nil)))) pa_nil))) (pe_slice sl_list (pv 0) (po_some (pe_op op_add (pv 2) pe_int)) po_none)) pa_nil))) (pv 1) (fun _ _ => rfl)))))))), ?_⟩)
  · obtain ⟨D, way, w, ws, ds, rfl, _⟩ := h; rfl
  · obtain ⟨D, way, w, ws, ds, rfl, hw0, hw7, hw, hl4, eD, hds, hpap, k⟩ := h
    have hwl := hds.len
    obtain ⟨x, hx, hxd⟩ := hds.get' (List.getElem?_eq_getElem hw)
    have hdm := List.getElem_mem hw
    have hdw : ds[w]? = some ds[w] := List.getElem?_eq_getElem hw
    obtain ⟨hP, hbP⟩ := hpap _ hdm
    generalize ds[w] = d at hxd hdm hP hbP hdw
    obtain ⟨p, f, pds, rfl, hpp, f1, f2, _⟩ := hP.inv
    have hp2 := hpp.1
    obtain ⟨mb, emb, _, hbm⟩ := hbP.tup_inv
    have bp := (hbm (.int (p : Nat)) (by simp)).int_inv
    have hbds := (hbm (.tuple pds) (by simp))
    have hds0 : DaF (fun _ => True) H (.ref D) (.list ds) := .lst eD hds.any trivial
    have hxd0 : DaF (fun _ => True) H x (.tuple [.int (p : Nat), .int (f : Nat), .tuple pds]) := hxd.any
    obtain ⟨t, xs, rfl, et, hxs⟩ := hxd.tup_inv
    obtain ⟨y0, y1, y2, yr, rfl, g0, g1, g2, g3⟩ := hxs.three
    cases g3
    cases g0
    have bad : ∀ (l : List PyData) (x : PyData), x ∈ l → ¬ IsPap x → ¬ PapsD (.list l) := fun l x h1 h2 h3 => h2 (papsD_mem h3 h1)
    walk_at "g"
    refine s_ixL (SqL.of eD) (atI_nat hx) ?_
    walk_at "g"
    refine s_ixT (SqT.of et) (atI0 0 rfl rfl) ?_
    walk_at "g"
    refine mkL (by simp) fun l1 H1 nl1 el1 s1 => ?_
    walk_at "g"
    refine s_ixT (SqT.of (s1 _ _ et)) (atI0 0 rfl rfl) ?_
    walk_at "g"
    refine s_pickIf el1 fun L hL => ?_
    walk_at "c"
    with_reducible refine s_asg ?_
    have hD1 : DaF (fun _ => True) H1 (.ref D) (.list ds) := hds0.same s1
    have hx1 : DaF (fun _ => True) H1 (.ref t) (.tuple [.int (p : Nat), .int (f : Nat), .tuple pds]) := hxd0.same s1
    have eF : ∀ a : Addr, H1 a = none → (fun _ : Addr => True) a := fun _ _ => trivial
    have c1 := cutD_len ds none (some ((w : Nat) : Int))
    have c2 := cutD_len ds (some ((w : Nat) : Int)) none
    have c3 := cutD_len ds (some (((w : Nat) : Int) + 1)) none
    refine (eve_lst eF (eves_cons (eve_catL eF (eve_catL eF (eve_slL eF (eve_var rfl hD1) evo_none (evo_some (i := (w : Nat)) (evv_var rfl))) (eve_lst eF (eves_cons (eve_var rfl hx1) eves_nil)) (by simp only [List.length_cons, List.length_nil]; omega)) (eve_slL eF (eve_var rfl hD1) (evo_some (i := (w : Nat)) (evv_var rfl)) evo_none) (by simp only [List.length_append, List.length_cons, List.length_nil]; omega)) <|
      eves_cons (eve_catL eF (eve_catL eF (eve_slL eF (eve_var rfl hD1) evo_none (evo_some (i := (w : Nat)) (evv_var rfl))) (eve_lst eF (eves_cons (eve_tup (eves_cons (eve_ix (d := .int (p : Nat)) (eve_var rfl hx1) evv_c 0 rfl rfl) <| eves_cons eve_int <| eves_cons (eve_ix (d := .tuple pds) (eve_var rfl hx1) evv_c 2 rfl rfl) eves_nil)) eves_nil)) (by simp only [List.length_cons, List.length_nil]; omega)) (eve_slL eF (eve_var rfl hD1) (evo_some (i := (w : Nat) + 1) (evv_add (evv_var rfl) evv_c)) evo_none) (by simp only [List.length_append, List.length_cons, List.length_nil]; omega)) <|
      eves_cons (eve_tupOfL (eve_var rfl hD1)) <| eves_cons (eve_lst eF eves_nil) eves_nil) (by simp) : EvE (fun _ => True) _ _ H1 _) H1 (Same.refl _) _ fun x2 H2 s2 hx2 => ?_
    have hD2 := hD1.same s2
    have hx2' := hx1.same s2
    walk_at "c"
    with_reducible refine s_asg ?_
    have eF : ∀ a : Addr, H2 a = none → (fun _ : Addr => True) a := fun _ _ => trivial
    refine (eve_catL eF (eve_var rfl hx2) (eve_lst eF (eves_cons (eve_catL eF (eve_catL eF (eve_slL eF (eve_var rfl hD2) evo_none (evo_some (i := (w : Nat)) (evv_var rfl))) (eve_lst eF (eves_cons (eve_sl (eve_var rfl hx2') evo_none (evo_some evv_c)) eves_nil)) (by simp only [List.length_cons, List.length_nil]; omega)) (eve_slL eF (eve_var rfl hD2) (evo_some (i := (w : Nat) + 1) (evv_add (evv_var rfl) evv_c)) evo_none) (by simp only [List.length_append, List.length_cons, List.length_nil]; omega)) <|
      eves_cons (eve_catL eF (eve_catL eF (eve_slL eF (eve_var rfl hD2) evo_none (evo_some (i := (w : Nat)) (evv_var rfl))) (eve_lst eF (eves_cons eve_non eves_nil)) (by simp only [List.length_cons, List.length_nil]; omega)) (eve_slL eF (eve_var rfl hD2) (evo_some (i := (w : Nat)) (evv_var rfl)) evo_none) (by simp only [List.length_append, List.length_cons, List.length_nil]; omega)) eves_nil) (by simp)) (by simp) : EvE (fun _ => True) _ _ H2 _) H2 (Same.refl _) _ fun x3 H3 s3 hx3 => ?_
    have hD3 := hD2.same s3
    have hx3' := hx2'.same s3
    walk_at "c"
    with_reducible refine s_ret ?_
    with_reducible refine s_op ?_
    have eF : ∀ a : Addr, H3 a = none → (fun _ : Addr => True) a := fun _ _ => trivial
    refine (eve_catL eF (eve_var rfl hx3) (eve_lst eF (eves_cons (eve_catL eF (eve_catL eF (eve_slL eF (eve_var rfl hD3) evo_none (evo_some (i := (w : Nat)) (evv_var rfl))) (eve_lst eF (eves_cons (eve_tup (eves_cons (eve_ix (d := .int (p : Nat)) (eve_var rfl hx3') evv_c 0 rfl rfl) <| eves_cons (eve_i (i := L) (evv_var rfl)) <| eves_cons (eve_ix (d := .tuple pds) (eve_var rfl hx3') evv_c 2 rfl rfl) eves_nil)) eves_nil)) (by simp only [List.length_cons, List.length_nil]; omega)) (eve_slL eF (eve_var rfl hD3) (evo_some (i := (w : Nat) + 1) (evv_add (evv_var rfl) evv_c)) evo_none) (by simp only [List.length_append, List.length_cons, List.length_nil]; omega)) eves_nil) (by simp)) (by simp) : EvE (fun _ => True) _ _ H3 _) H3 (Same.refl _) _ fun x4 H4 s4 hx4 => ?_
    obtain ⟨P4, ps, rfl, eP4, hps, _⟩ := hx4.lst_inv
    have hcut1 : cutD ds none (some ((w : Nat) : Int)) = ds.take w := cutD_to (by omega)
    have hcut2 : cutD ds (some ((w : Nat) : Int)) none = ds.drop w := cutD_from (by omega)
    have hcut3 : cutD ds (some (((w : Nat) : Int) + 1)) none = ds.drop (w + 1) := by
      have := cutD_from (ds := ds) (k := w + 1) (by omega)
      push_cast at this
      exact this
    have hcut4 : cutD [.int ((p : Nat) : Int), .int ((f : Nat) : Int), .tuple pds] none (some 2) = [.int ((p : Nat) : Int), .int ((f : Nat) : Int)] := cutD_to (k := 2) (by simp)
    rw [hcut1, hcut2, hcut3, hcut4] at hps
    have hL' : ¬ IsPap (.tuple [.int (p : Nat), .int L, .tuple pds]) := fun z => by
      obtain ⟨z1, z2⟩ := pap_not z
      rcases hL with ⟨c, rfl⟩ | ⟨c, rfl⟩
      · have c := of_decide_eq_true c
        have := z2 rfl
        omega
      · omega
    have bL : L.natAbs < 2 ^ 300 := by rcases hL with ⟨c, rfl⟩ | ⟨c, rfl⟩ <;> omega
    have bds : ∀ e ∈ ds, Bd 31 e := fun e he => (hpap e he).2.mono (by decide)
    have btk : ∀ e ∈ ds.take w, Bd 31 e := fun e he => bds e (List.mem_of_mem_take he)
    have bdr : ∀ (j : Nat), ∀ e ∈ ds.drop j, Bd 31 e := fun j e he => bds e (List.mem_of_mem_drop he)
    have bcat : ∀ {l1 l2 l3 : List PyData}, (∀ e ∈ l1, Bd 31 e) → (∀ e ∈ l2, Bd 31 e) → (∀ e ∈ l3, Bd 31 e) → ∀ e ∈ l1 ++ l2 ++ l3, Bd 31 e := fun h1 h2 h3 e he => by
      rcases List.mem_append.mp he with z | z
      · rcases List.mem_append.mp z with z | z
        · exact h1 e z
        · exact h2 e z
      · exact h3 e z
    have hall : ∀ d ∈ [PyData.list (ds.take w ++ [.tuple [.int (p : Nat), .int (f : Nat), .tuple pds]] ++ ds.drop w), .list (ds.take w ++ [.tuple [.int (p : Nat), .int 0, .tuple pds]] ++ ds.drop (w + 1)), .tuple ds, .list []] ++ [.list (ds.take w ++ [.tuple [.int (p : Nat), .int (f : Nat)]] ++ ds.drop (w + 1)), .list (ds.take w ++ [.none] ++ ds.drop w)] ++ [.list (ds.take w ++ [.tuple [.int (p : Nat), .int L, .tuple pds]] ++ ds.drop (w + 1))], Bd 32 d ∧ ¬ PapsD d := fun d hd => by
      simp only [List.mem_append, List.mem_cons, List.not_mem_nil, or_false] at hd
      have bt : ∀ {i : Int}, i.natAbs < 2 ^ 300 → Bd 31 (.tuple [.int (p : Nat), .int i, .tuple pds]) := fun h => .tup (by simp) (bd_cons (.int bp) (bd_cons (.int h) (bd_cons (hbds.mono (by omega)) bd_nil)))
      rcases hd with ((z | z | z | z) | z | z) | z <;> subst z
      · refine ⟨.lst (by simp; omega) (bcat btk (bd_cons (hbP.mono (by decide)) bd_nil) (bdr w)), fun ⟨ds', e, _, _, _, hpw⟩ => ?_⟩
        cases e
        have q1 : (ds.take w ++ [.tuple [.int (p : Nat), .int (f : Nat), .tuple pds]] ++ ds.drop w)[w]? = some (.tuple [.int (p : Nat), .int (f : Nat), .tuple pds]) := by
          rw [List.getElem?_append_left (by simp; omega), List.getElem?_append_right (by simp; omega)]
          simp [Nat.min_eq_left (Nat.le_of_lt hw)]
        have q2 : (ds.take w ++ [.tuple [.int (p : Nat), .int (f : Nat), .tuple pds]] ++ ds.drop w)[w + 1]? = some (.tuple [.int (p : Nat), .int (f : Nat), .tuple pds]) := by
          rw [List.getElem?_append_right (by simp; omega), List.getElem?_drop]
          simp only [List.length_append, List.length_take, List.length_cons, List.length_nil, Nat.min_eq_left (Nat.le_of_lt hw)]
          rw [show w + (w + 1 - (w + (0 + 1))) = w by omega]
          exact hdw
        obtain ⟨a1, a2⟩ := List.getElem?_eq_some_iff.mp q1
        obtain ⟨b1, b2⟩ := List.getElem?_eq_some_iff.mp q2
        have := List.pairwise_iff_getElem.mp hpw w (w + 1) (by rw [List.length_map]; exact a1) (by rw [List.length_map]; exact b1) (by omega)
        rw [List.getElem_map, List.getElem_map, a2, b2] at this
        omega
      · exact ⟨.lst (by simp; omega) (bcat btk (bd_cons (bt (by decide)) bd_nil) (bdr _)), bad _ (.tuple [.int (p : Nat), .int 0, .tuple pds]) (by simp) fun z => by have := (pap_not z).1; omega⟩
      · exact ⟨.tup (by omega) bds, fun ⟨_, e, _⟩ => nomatch e⟩
      · exact ⟨.lst (by simp) bd_nil, fun ⟨_, e, h1, _⟩ => by cases e; simp at h1⟩
      · exact ⟨.lst (by simp; omega) (bcat btk (bd_cons (.tup (by simp) (bd_cons (.int bp) (bd_cons (.int (by omega)) bd_nil))) bd_nil) (bdr _)), bad _ (.tuple [.int (p : Nat), .int (f : Nat)]) (by simp) fun z => by obtain ⟨_, _, _, e⟩ := isPap_three z; simp at e⟩
      · exact ⟨.lst (by simp; omega) (bcat btk (bd_cons .non bd_nil) (bdr _)), bad _ .none (by simp) fun z => by obtain ⟨_, _, _, e⟩ := isPap_three z; cases e⟩
      · exact ⟨.lst (by simp; omega) (bcat btk (bd_cons (bt bL) bd_nil) (bdr _)), bad _ (.tuple [.int (p : Nat), .int L, .tuple pds]) (by simp) hL'⟩
    obtain ⟨m, rfl⟩ := Int.eq_ofNat_of_zero_le hw0
    have hpl : ps.length = 7 := by rw [hps.len]; simp
    obtain ⟨BL, hps, hall⟩ : ∃ BL, DaL (fun _ => True) H4 ps BL ∧ ∀ d ∈ BL, Bd 32 d ∧ ¬ PapsD d := ⟨_, hps, hall⟩
    have hm7 : m < BL.length := by rw [← hps.len]; omega
    obtain ⟨y, hy, hyd⟩ := hps.get' (List.getElem?_eq_getElem hm7)
    obtain ⟨b1, b2⟩ := hall _ (List.getElem_mem hm7)
    walk_at "g"
    refine s_ixL (SqL.of eP4) (atI_nat hy) ?_
    exact k y H4 _ hyd b1 b2 (s1.trans (s2.trans (s3.trans s4)))

theorem s_isBl {H : Hp} {Q : VK} {a b : Bool} (h : Q (.bl (decide (a = b))) H) : L2.rIsB (.bl a) (.bl b) H Q := ⟨a, b, rfl, rfl, h⟩

theorem s_notBl {H : Hp} {Q : VK} {a b : Bool} (h : Q (.bl (!decide (a = b))) H) : L2.rNotB (.bl a) (.bl b) H Q := ⟨a, b, rfl, rfl, h⟩

def sixP : List Nat := [2, 3, 5, 7, 11, 13]
theorem six_pr : ∀ z ∈ sixP, M.Prime z ∧ z ≤ 13 := fun z hz => by
  have h : ∀ z ∈ sixP, z ≤ 13 ∧ chkP z = true := by decide
  obtain ⟨h1, h2⟩ := h z hz
  exact ⟨prime_chk h2, h1⟩
theorem six_al : ∀ z ∈ sixP, (30031 : Int) % (z : Int) = 1 := by decide
theorem lcm_onesN : ∀ k : Nat, M.lcmL (plI (List.replicate k (1, 0))) = 1 := fun k => by
  induction k with
  | zero => rfl
  | succ k ih =>
    rw [List.replicate_succ']
    unfold plI
    rw [List.map_append, List.map_cons, List.map_nil, M.lcmL_snoc]
    have ih : M.lcmL (List.map (fun q : Nat × Nat => ((q.1 : Int), (q.2 : Int))) (List.replicate k (1, 0))) = 1 := ih
    rw [ih]; rfl
/-- _law_by_six(many), of five or six -/
def sp__law_by_six : Sp := fun vs H Q _ => ∃ m : Nat, vs = [.int (m : Nat)] ∧ (m = 5 ∨ m = 6) ∧ ∀ H', Same H H' → Q (.bl (decide (m = 5))) H'
theorem ok__law_by_six (T : Txt K mg) : FnOk P w K mg base CX0 148 (He.ga K "_law_by_six") (fd__law_by_six T) ["_law_many"] sp__law_by_six := by
  refine (F__law_by_six T).ok sc__law_by_six (fun vs H Q E h => ?_) (fun cdv A outer s H vs Q E hr h => ⟨_, PSs.nox (pss_cons ((ps_setLc (i := 1) (own := [("_law_p", 2)]) (tt := tYes) rfl sc__law_by_six.nd rfl rfl (sw_true rfl rfl rfl rfl) (pi_list (pe_slice sl_list (pe_lst (pa_cons pe_int (pa_cons pe_int (pa_cons pe_int (pa_cons pe_int (pa_cons pe_int (pa_cons pe_int pa_nil))))))) po_none (po_some (pv 0)))) (blkOk_by (N := N__law_by_six) (sc := defScope s__law_by_six) (by decide +kernel)) (fun _ _ _ _ _ => (pg_name (i := 2) sc__law_by_six.nd rfl (Or.inl rfl))) (fun _ _ _ _ _ => pts_nil) (fun _ _ _ _ _ => (pe_call (ok__law_paper T) (hr.mono (by decide)) rfl (g__law_paper T) (kp__law_paper T) (B__law_paper T) .nil pass0 (pa_cons (pv 2) (pa_cons pe_int pa_nil))))))
      (pss_one (ps_ret (pe_call (ok_shows_which_of T) (hr.mono (by decide)) rfl (g_shows_which_of T) (kp_shows_which_of T) (B_shows_which_of T) .nil pass0 (pa_cons (pv 1) (pa_cons pe_int (pa_cons pe_int (pa_cons (pe_tup (pa_cons pe_int (pa_cons (pe_tup (pa_cons pe_str (pa_cons (pe_op RepT1.op_repTA (pe_tup (pa_cons (pe_tup (pa_cons pe_int (pa_cons pe_int pa_nil))) pa_nil)) (pv 0)) pa_nil))) pa_nil))) pa_nil)))))))), ?_⟩)
  · obtain ⟨m, rfl, _⟩ := h; rfl
  · obtain ⟨m, rfl, hm, k⟩ := h
    walk_at "g"
    refine s_lc ?_
    walk_at "g"
    refine mkL (by simp) fun l0 H0 nl0 el0 s0 => ?_
    walk_at "g"
    refine mkSl (SqL.of el0) fun l1 H1 nl1 el1 s1 => ?_
    have hcut : cutV ([2, 3, 5, 7, 11, 13].map V.int) none (some ((m : Nat) : Int)) = nv (sixP.take m) := by
      rcases hm with rfl | rfl <;> rfl
    have el1 : H1 l1 = some (.lst (nv (sixP.take m))) := by rw [← hcut]; exact el1
    have hlm : (sixP.take m).length = m := by rcases hm with rfl | rfl <;> rfl
    refine ⟨l1, rfl, ⟨_, SqL.of el1⟩, fun D hD => ?_⟩
    refine lc_list (fun i H2 => Same H1 H2 ∧ ∃ (ys : List V) (ds : List PyData), H2 D = some (.lst ys) ∧ DaL (fun _ => False) H2 ys ds ∧ (∀ d ∈ ds, IsPap d ∧ Bd 18 d) ∧ ds.map pOf = (sixP.take m).take i) ⟨same_upd hD, [], [], upd_same, .nil, by simp, by simp⟩ (fun i H2 _ I => SqL.of (I.1 _ _ el1)) ?_ ?_
    · rintro i v H2 hi ⟨s2, ys, ds, eD, hds, hpap, hmap⟩
      obtain ⟨p, hx, rfl⟩ := nv_get hi
      have hmem := List.mem_of_mem_take (List.mem_of_getElem? hx)
      obtain ⟨hp, hp13⟩ := six_pr p hmem
      have hil := (List.getElem?_eq_some_iff.mp hx).1
      have hdl : ds.length ≤ 6 := by
        have := congrArg List.length hmap
        rw [List.length_map, List.length_take] at this
        omega
      walk_at "g"
      refine ⟨rfl, ?_⟩
      walk_at "g"
      refine ⟨p, 4, 0, rfl, hp, by omega, by decide, by omega, by decide, fun t H3 ⟨d, g1, g2, g3, g4⟩ s3 => ?_⟩
      refine ⟨ys, s3 _ _ eD, line2 (by rw [hds.len]; omega), same_upd' (s2.trans s3) hD, ys ++ [.ref t], ds ++ [d], upd_same, DaL.upd (s3 _ _ eD) (fun z => z) (DaL.app (.cons g1 .nil) (hds.same s3)), fun e he => ?_, ?_⟩
      · rcases List.mem_append.mp he with z | z
        · exact hpap e z
        · rw [List.mem_singleton.mp z]; exact ⟨g3, g2.mono (by decide)⟩
      · rw [take_more hx, List.map_append, hmap]
        show _ ++ [pOf d] = _
        rw [g4]
    rintro H2 ⟨s2, ys, ds, eD, hds, hpap, hmap⟩
    rw [nv_len, List.take_length] at hmap
    have hdl : ds.length = m := by
      have := congrArg List.length hmap
      rw [List.length_map] at this
      omega
    have S2 := s0.trans (s1.trans s2)
    have hpO : ∀ d ∈ ds, pOf d ∈ sixP := fun d hd => by
      have : pOf d ∈ ds.map pOf := List.mem_map.mpr ⟨d, hd, rfl⟩
      rw [hmap] at this
      exact List.mem_of_mem_take this
    walk_at "g"
    refine mkT (by simp) fun l3 H3 nl3 el3 s3 => ?_
    walk_at "g"
    refine mkT (by simp) fun l4 H4 nl4 el4 s4 => ?_
    walk_at "g"
    refine RepT1.mkRepT el4 (by omega) fun l5 H5 el5 s5 => ?_
    walk_at "g"
    refine mkT (by simp) fun l6 H6 nl6 el6 s6 => ?_
    walk_at "g"
    refine mkT (by simp) fun l7 H7 nl7 el7 s7 => ?_
    have S7 : Same H2 H7 := s3.trans (s4.trans (Same.trans s5 (s6.trans s7)))
    have hrep : ∀ j : Nat, DaL (fun _ => False) H7 (List.replicate j (.ref l3)) ((List.replicate j (1, 0)).map rowN) := fun j => by
      induction j with
      | zero => exact .nil
      | succ j ih => exact .cons (.tup (s7 _ _ (s6 _ _ (s5 _ _ (s4 _ _ el3)))) (.cons (.int _) (.cons (.int _) .nil))) ih
    have b2 : Bd 1 (.tuple [.int 1, .int 0]) := bd_two (by decide) (by decide)
    refine ⟨.ref D, .ref l7, .list ds, .tuple [.int 0, .tuple [.str "by", .tuple ((List.replicate m (1, 0)).map rowN)]], 1, 30031, rfl, .lst (S7 _ _ eD) (hds.any.same S7) trivial, .lst (by omega) fun d hd => (hpap d hd).2.mono (by decide), fun _ ds' e d hd => by
      cases e
      have := (six_pr _ (hpO d hd)).2
      omega, .tup el7 (.cons (.int _) (.cons (.tup (s7 _ _ el6) (.cons (.str _) (.cons (.tup (s7 _ _ (s6 _ _ el5)) (hrep m).any) .nil))) .nil)), .tup (by simp) (bd_cons (.int (by decide)) (bd_cons (.tup (by simp) (bd_cons (.str _ (by decide +kernel)) (bd_cons (.tup (by rw [List.length_map, List.length_replicate]; omega) fun d hd => ?_) bd_nil))) bd_nil)), by decide, by decide, fun o H8 ho s8 => ?_⟩
    · obtain ⟨q, hq, rfl⟩ := List.mem_map.mp hd
      rw [(List.mem_replicate.mp hq).2]
      exact b2.mono (by decide)
    have hom : o = decide (m = 5) := by
      rw [Bool.eq_iff_iff, decide_eq_true_iff, ho]
      constructor
      · rintro ⟨⟨ds', e, _, h5, _⟩, _⟩
        cases e
        omega
      · intro h5
        refine ⟨⟨ds, rfl, by omega, by omega, fun e he => (hpap e he).1, by rw [hmap, h5]; decide⟩, ds, rfl, fun d hd => ⟨?_, ?_⟩, .inr (.inr ⟨_, _, rfl, 0, List.replicate m (1, 0), rfl, rfl, paired_ix (by rw [List.length_replicate]; exact hdl) fun i d q hd hq => ?_, fun q hq => ?_, ?_⟩)⟩
        · have := (six_pr _ (hpO d hd)).1.1
          exact M.un_iff.mpr (by rw [Int.emod_eq_of_lt (by decide) (by omega)]; decide)
        · exact M.un_iff.mpr (by rw [six_al _ (hpO d hd)]; decide)
        · have hq' := (List.mem_replicate.mp (List.mem_of_getElem? hq)).2
          subst hq'
          have hal := six_al _ (hpO d (List.mem_of_getElem? hd))
          have h2 := (six_pr _ (hpO d (List.mem_of_getElem? hd))).1.1
          refine ⟨1, 0, rfl, ⟨by decide, ?_, fun f hf _ => hf⟩, by decide, ?_⟩
          · show ((pOf d : Nat) : Int) ∣ 1 ^ 1 - 1
            simp
          · exact M.al_of_emod (by rw [hal, Int.pow_zero, Int.emod_eq_of_lt (by decide) (by omega)])
        · rw [(List.mem_replicate.mp hq).2]; rfl
        · rw [lcm_onesN]; decide
    rw [hom]
    exact k H8 (S2.trans (S7.trans s8))
/-- _law_none_right(papers, b, a, rows) -/
def sp__law_none_right : Sp := fun vs H Q _ => ∃ (D R : Addr) (ws : List V) (ds : List PyData) (L : List Nat) (b a : Int) (rws : List (Nat × Option Nat)), vs = [.ref D, .int b, .int a, .ref R] ∧ DueC ds L b a rws ∧ H D = some (.lst ws) ∧ DaL (fun _ => False) H ws ds ∧ (∀ d ∈ ds, Bd 30 d) ∧ RowsAt H R rws ∧ b.natAbs < 2 ^ 900 ∧ a.natAbs < 2 ^ 900 ∧ ∀ H', Same H H' → Q (.bl true) H'
theorem ok__law_none_right (T : Txt K mg) : FnOk P w K mg base CX0 148 (He.ga K "_law_none_right") (fd__law_none_right T) ["_law_papers", "_law_b", "_law_a", "_law_rows_here"] sp__law_none_right := by
  refine (F__law_none_right T).ok sc__law_none_right (fun vs H Q E h => ?_) (fun cdv A outer s H vs Q E hr h => ⟨_, PSs.nox (pss_cons (ps_for PassesOwn.never rfl (pi_range1 rfl (T.fr (T.c.fact 57 rfl)) (pa_cons (pe_callB callLen rfl (T.fr (T.c.fact 56 rfl)) boot_len (pa_cons (pv 3) pa_nil)) pa_nil)) (pg_name (i := 4) sc__law_none_right.nd rfl (Or.inl rfl)) (pss_one (ps_for PassesOwn.never rfl (pi_list (pe_lst (pa_cons (pe_ix ix_seq (pe_ix ix_seq (pv 3) (pv 4) (fun _ _ => rfl)) pe_int (fun _ _ => rfl)) (pa_cons (pe_op op_sub (pe_ix ix_seq (pe_ix ix_seq (pv 0) (pv 4) (fun _ _ => rfl)) pe_int (fun _ _ => rfl)) pe_int) pa_nil)))) (pg_name (i := 5) sc__law_none_right.nd rfl (Or.inl rfl)) (pss_cons (ps_set (i := 6) sc__law_none_right.nd rfl (Or.inl rfl) (pe_tup (pa_cons pe_non (pa_cons (pe_tup (pa_cons pe_str (pa_cons (pv 4) (pa_cons (pv 5) (pa_cons pe_int pa_nil))))) pa_nil))))
      (pss_one (ps_if (PW.pt (pw_and (pt_cmpR op_notN1 (pe_ix ix_seq (pe_ix ix_seq (pv 3) (pv 4) (fun _ _ => rfl)) pe_int (fun _ _ => rfl)) pe_non (nomark _)) (pw_and1 (pt_cmpR op_notBl (pe_call (ok_shows_which_of T) (hr.mono (by decide)) rfl (g_shows_which_of T) (kp_shows_which_of T) (B_shows_which_of T) .nil pass0 (pa_cons (pe_callTy callLst rfl (T.fr (T.c.fact 60 rfl)) boot_list (pa_cons (pv 0) pa_nil)) (pa_cons (pv 1) (pa_cons (pv 2) (pa_cons (pv 6) pa_nil))))) pe_bl (nomark _))))) (pss_one (ps_ret pe_bl)) pss_nil))))))
      (pss_one (ps_ret pe_bl))), ?_⟩)
  · obtain ⟨D, R, ws, ds, L, b, a, rws, rfl, _⟩ := h; rfl
  · obtain ⟨D, R, ws, ds, L, b, a, rws, rfl, hc, eD, hds, hbd, hR, hbb, hab, k⟩ := h
    obtain ⟨ys, eR, hyl⟩ := hR.len
    have hwl := hds.len
    have hdl : ds.length = L.length := by rw [← hc.dl, List.length_map]
    have hrl : rws.length = L.length := hc.rw_.length.symm
    have hl4 := hc.len
    walk_at "g"
    refine s_lenL (SqL.of eR) ?_
    rw [hyl]
    walk_at "g"
    refine mkR1 rws.length (by omega) (by omega) (by omega) ?_
    refine for_range (n := rws.length) (fun i σ H' => Same H H' ∧ ∃ v4 v5 v6 : Option V, σ = [some (.ref D), some (.int b), some (.int a), some (.ref R), v4, v5, v6]) ⟨Same.refl _, none, none, none, rfl⟩ ?_ ?_
    · rintro i σ H1 hi ⟨s1, v4, v5, v6, rfl⟩
      rw [Int.zero_add]
      obtain ⟨⟨e, oo⟩, hx⟩ : ∃ q, rws[i]? = some q := ⟨_, List.getElem?_eq_getElem hi⟩
      obtain ⟨ys1, t1, a1, a2, a3⟩ := (hR.same s1).get hx
      have a3 : H1 t1 = some (.tup [.int (e : Nat), optV oo]) := a3
      obtain ⟨d, hd⟩ : ∃ d, ds[i]? = some d := ⟨_, List.getElem?_eq_getElem (by omega)⟩
      obtain ⟨q0, g1, g2, g3, g4⟩ := hc.at_ hd
      rw [hx] at g2
      cases g2
      have hp9 := (hc.pr _ (List.mem_of_getElem? g1)).2
      have e0 := g3.1.pos
      have e1 := g3.1.le g4 (g3.1.unit g4)
      have e0 : 0 < e := e0
      have e1 : e ≤ pOf d - 1 := e1
      obtain ⟨x, hx2, hxd⟩ := (hds.same s1).get' hd
      have hP : IsPap d := hc.pap d (List.mem_of_getElem? hd)
      obtain ⟨tp, xs, rfl, etp⟩ := hxd.pap hP
      walk_at "g"
      refine s_ixL (SqL.of a1) (atI0 i rfl a2) ?_
      walk_at "g"
      refine s_ixT (SqT.of a3) (atI0 0 rfl rfl) ?_
      walk_at "g"
      refine s_ixL (SqL.of (s1 _ _ eD)) (atI0 i rfl hx2) ?_
      walk_at "g"
      refine s_ixT (SqT.of etp) (atI0 0 rfl rfl) ?_
      walk_at "g"
      refine mkL (by simp) fun l2 H2 nl2 el2 s2 => ?_
      have el2 : H2 l2 = some (.lst ([(e : Int), ((pOf d : Nat) : Int) - 1].map V.int)) := el2
      walk_at "g"
      refine ⟨⟨_, SqL.of el2⟩, ?_⟩
      refine for_list (fun j σ H' => Same H2 H' ∧ ∃ v5 v6 : Option V, σ = [some (.ref D), some (.int b), some (.int a), some (.ref R), some (.int (i : Nat)), v5, v6]) ⟨Same.refl _, _, _, rfl⟩ (fun j σ H' _ I => SqL.of (I.1 _ _ el2)) ?_ ?_
      · rintro j z σ H3 hj ⟨s3, v5, v6, rfl⟩
        have S3 := s1.trans (s2.trans s3)
        obtain ⟨u, hu, rfl, hub⟩ : ∃ u : Int, True ∧ z = .int u ∧ u.natAbs ≤ 31 := by
          obtain ⟨u, hu, rfl⟩ := List.mem_map.mp (List.mem_of_getElem? hj)
          simp only [List.mem_cons, List.not_mem_nil, or_false] at hu
          rcases hu with w | w
          · exact ⟨u, trivial, rfl, by omega⟩
          · exact ⟨u, trivial, rfl, by omega⟩
        walk_at "g"
        refine mkT (by simp) fun l4 H4 nl4 el4 s4 => ?_
        walk_at "g"
        refine mkT (by simp) fun l5 H5 nl5 el5 s5 => ?_
        have S5 := S3.trans (s4.trans s5)
        obtain ⟨ys3, t3, c1, c2, c3⟩ := (hR.same S5).get hx
        walk_at "g"
        refine s_ixL (SqL.of c1) (atI0 i rfl c2) ?_
        walk_at "g"
        cases oo with
        | none =>
          have c3 : H5 t3 = some (.tup [.int (e : Nat), .non]) := c3
          refine s_ixT (SqT.of c3) (atI0 1 rfl rfl) ?_
          walk_at "g"
          exact ⟨s3.trans (s4.trans s5), _, _, rfl⟩
        | some y =>
          have c3 : H5 t3 = some (.tup [.int (e : Nat), .int (y : Nat)]) := c3
          refine s_ixT (SqT.of c3) (atI0 1 rfl rfl) ?_
          walk_at "g"
          refine s_lstL (SqL.of (S5 _ _ eD)) fun G nG => ?_
          have s6 : Same H5 (upd H5 G (.lst ws)) := same_upd nG
          have eG : upd H5 G (.lst ws) G = some (.lst ws) := upd_same
          generalize upd H5 G (.lst ws) = H6 at s6 eG ⊢
          walk_at "g"
          refine ⟨.ref G, .ref l5, .list ds, .tuple [.none, .tuple [.str "none", .int (i : Nat), .int u, .int 1]], b, a, rfl, .lst eG (hds.any.same (S5.trans s6)) trivial, .lst (by omega) fun d hd => (hbd d hd).mono (by decide), fun _ ds' e d' hd' => by
            cases e
            have h1 : pOf d' ∈ L := by rw [← hc.dl]; exact List.mem_map.mpr ⟨d', hd', rfl⟩
            have := (hc.pr _ h1).2
            omega, .tup (s6 _ _ el5) (.cons .non (.cons (.tup (s6 _ _ (s5 _ _ el4)) (.cons (.str _) (.cons (.int _) (.cons (.int _) (.cons (.int _) .nil))))) .nil)), .tup (by simp) (bd_cons .non (bd_cons (.tup (by simp) (bd_cons (.str _ (by decide +kernel)) (bd_cons (.int (by omega)) (bd_cons (.int (by omega)) (bd_cons (.int (by decide)) bd_nil))))) bd_nil)), hbb, hab, fun o H7 ho s7 => ?_⟩
          have hof : o = false := by
            cases o with
            | false => rfl
            | true =>
              obtain ⟨_, ds', e, hS⟩ := ho.mp rfl
              cases e
              obtain ⟨_, n, p, e', h1, h2, h3, _⟩ := (shows_none hc).mp hS
              obtain rfl : i = n := by have := PyData.int.inj h3; omega
              rw [hx] at h2; cases h2
          subst hof
          walk_at "g"
          refine s_notBl ?_
          walk_at "g"
          exact ⟨s3.trans (s4.trans (s5.trans (s6.trans s7))), _, _, rfl⟩
      · rintro σ H3 ⟨s3, v5, v6, rfl⟩
        walk_at "g"
        exact ⟨s1.trans (s2.trans s3), _, _, _, rfl⟩
    · rintro σ H1 ⟨s1, v4, v5, v6, rfl⟩
      walk_at "g"
      exact k H1 s1

theorem DueC.paps {ds : List PyData} {L : List Nat} {b a : Int} {rws : List (Nat × Option Nat)} (h : DueC ds L b a rws) (h0 : 0 < L.length) : PapsD (.list ds) := by
  have hdl : ds.length = L.length := by rw [← h.dl, List.length_map]
  have := h.len
  exact ⟨ds, rfl, by omega, by omega, h.pap, by rw [h.dl]; exact h.ris⟩
theorem DueC.le9 {ds : List PyData} {L : List Nat} {b a : Int} {rws : List (Nat × Option Nat)} (h : DueC ds L b a rws) : ∀ d ∈ ds, pOf d ≤ 1000000000 := fun d hd => by
  have h1 : pOf d ∈ L := by rw [← h.dl]; exact List.mem_map.mpr ⟨d, hd, rfl⟩
  have := (h.pr _ h1).2
  omega
/-- _law_apart_right(papers, primes, b, a, rows, state) -/
def sp__law_apart_right (K : PySem.W.Frag) : Sp := fun vs H Q _ => ∃ (D C R s : Addr) (ws : List V) (ds : List PyData) (L : List Nat) (b a : Int) (rws : List (Nat × Option Nat)), vs = [.ref D, .ref C, .int b, .int a, .ref R, .ref s] ∧ StAt H s ∧ DueC ds L b a rws ∧ 0 < L.length ∧ H C = some (.lst (nv L)) ∧ H D = some (.lst ws) ∧ DaL (fun _ => False) H ws ds ∧ (∀ d ∈ ds, Bd 30 d) ∧ RowsAt H R rws ∧ b.natAbs < 2 ^ 900 ∧ a.natAbs < 2 ^ 900 ∧ ∀ H', StAt H' s → SameB s H H' → Q (.bl true) H'
theorem ok__law_apart_right (T : Txt K mg) : FnOk P w K mg base CX0 149 (He.ga K "_law_apart_right") (fd__law_apart_right T) ["_law_papers", "_law_primes_here", "_law_b", "_law_a", "_law_rows_here", "_law_state_here"] (sp__law_apart_right K) := by
  refine (F__law_apart_right T).ok sc__law_apart_right (fun vs H Q E h => ?_) (fun cdv A outer s H vs Q E hr h => ⟨_, PSs.nox (pss_cons (ps_if (pt_not (pt_val (pe_call (ok__law_none_right T) (hr.mono (by decide)) rfl (g__law_none_right T) (kp__law_none_right T) (B__law_none_right T) .nil pass0 (pa_cons (pv 0) (pa_cons (pv 2) (pa_cons (pv 3) (pa_cons (pv 4) pa_nil))))))) (pss_one (ps_ret pe_bl)) pss_nil)
      (pss_cons (ps_if (PW.pt (pw_or (pt_cmpR op_lt (pe_callB callLen rfl (T.fr (T.c.fact 56 rfl)) boot_len (pa_cons (pv 4) pa_nil)) pe_int (nomark _)) (pw_or1 (pt_cmpR op_in_seq pe_non (pe_lc (own := [("_law_e", 8), ("_law_y", 9)]) (tt := tYes) (g := gTup K 2 (gCons (gName 8) (gCons (gName 9) gNil))) rfl sc__law_apart_right.nd (pi_list (pv 4)) (blkOk_by (N := N__law_apart_right) (sc := defScope s__law_apart_right) (by decide +kernel)) (fun _ _ _ _ _ => (pg_tup rfl (pgs_cons (pg_name (i := 8) sc__law_apart_right.nd rfl (Or.inl rfl)) (pgs_cons (pg_name (i := 9) sc__law_apart_right.nd rfl (Or.inl rfl)) pgs_nil)))) (fun _ _ _ _ _ => pts_nil) (fun _ _ _ _ _ => (pv 9))) rfl)))) (pss_one (ps_ret pe_bl)) pss_nil)
      (pss_cons (ps_set (i := 6) sc__law_apart_right.nd rfl (Or.inl rfl) (pe_call (ok__law_any_apart T) (hr.mono (by decide)) rfl (g__law_any_apart T) (kp__law_any_apart T) (B__law_any_apart T) .nil pass0 (pa_cons (pv 4) (pa_cons (pv 5) pa_nil))))
      (pss_cons (ps_set (i := 7) sc__law_apart_right.nd rfl (Or.inl rfl) (pe_call (ok_shows_which_of T) (hr.mono (by decide)) rfl (g_shows_which_of T) (kp_shows_which_of T) (B_shows_which_of T) .nil pass0 (pa_cons (pe_callTy callLst rfl (T.fr (T.c.fact 60 rfl)) boot_list (pa_cons (pv 0) pa_nil)) (pa_cons (pv 2) (pa_cons (pv 3) (pa_cons (pv 6) pa_nil))))))
      (pss_one (ps_ret (pe_and (pe_callB call_isi rfl (T.fr (T.c.fact 52 rfl)) boot_isinstance (pa_cons (pv 7) (pa_cons (pe_bltn (v := .ty "bool") rfl (T.fr (T.c.fact 54 rfl)) boot_bool rfl) pa_nil))) (pe_one (pe_cmpR op_eq (pv 7) (pe_call (ok__law_due T) (hr.mono (by decide)) rfl (g__law_due T) (kp__law_due T) (B__law_due T) .nil pass0 (pa_cons (pv 1) (pa_cons (pv 3) (pa_cons (pv 4) (pa_cons (pv 6) pa_nil))))) (nomark _)))))))))), ?_⟩)
  · obtain ⟨D, C, R, s, ws, ds, L, b, a, rws, rfl, _⟩ := h; rfl
  · obtain ⟨D, C, R, s, ws, ds, L, b, a, rws, rfl, hst, hc, hL0, eC, eD, hds, hbd, hR, hbb, hab, k⟩ := h
    obtain ⟨ys, eR, hyl⟩ := hR.len
    have hwl := hds.len
    have hdl : ds.length = L.length := by rw [← hc.dl, List.length_map]
    have hrl : rws.length = L.length := hc.rw_.length.symm
    have hl4 := hc.len
    walk_at "g"
    refine ⟨D, R, ws, ds, L, b, a, rws, rfl, hc, eD, hds, hbd, hR, hbb, hab, fun H1 s1 => ?_⟩
    have hR1 := hR.same s1
    have eR1 := s1 _ _ eR
    walk_at "g"
    refine s_lenL (SqL.of eR1) ?_
    rw [hyl]
    walk_at "g"
    refine s_ite (fun c => ?_) (fun c => ?_)
    · walk_at "g"
      exact k H1 (hst.same s1) (SameB.of s1)
    walk_at "g"
    refine s_lc ?_
    walk_at "g"
    refine ⟨⟨_, SqL.of eR1⟩, fun F hF => ?_⟩
    refine lc_list (fun i H2 => Same H1 H2 ∧ H2 F = some (.lst ((rws.take i).map fun q => optV q.2))) ⟨same_upd hF, upd_same⟩ (fun i H2 _ I => SqL.of (I.1 _ _ eR1)) ?_ ?_
    · rintro i v H2 hi ⟨s2, eF⟩
      obtain ⟨t2, q, hq, rfl, et⟩ := (hR1.same s2).getV (s2 _ _ eR1) hi
      refine s_gtup (SqT.of et) rfl ?_
      walk_at "g"
      refine ⟨rfl, ?_⟩
      walk_at "g"
      refine ⟨_, eF, line2 (by rw [List.length_map, List.length_take]; omega), same_upd' s2 hF, ?_⟩
      rw [upd_same, take_more hq, List.map_append]; rfl
    rintro H2 ⟨s2, eF⟩
    rw [hyl, List.take_length] at eF
    have S2 := s1.trans s2
    refine ⟨F, _, rfl, .inl (SqL.of eF), rfl, by rw [List.all_eq_true]; intro z hz; obtain ⟨q, _, rfl⟩ := List.mem_map.mp hz; obtain ⟨e, o⟩ := q; cases o <;> rfl, ?_⟩
    rw [if_neg Bool.false_ne_true]
    have hiN : inV .non (rws.map fun q => optV q.2) = true ↔ ∃ q ∈ rws, q.2 = none := by
      unfold inV
      rw [List.any_eq_true]
      constructor
      · rintro ⟨z, hz, h⟩
        obtain ⟨q, hq, rfl⟩ := List.mem_map.mp hz
        refine ⟨q, hq, ?_⟩
        obtain ⟨e, o⟩ := q
        cases o with
        | none => rfl
        | some y => simp [optV, eqV] at h
      · rintro ⟨q, hq, h⟩
        exact ⟨_, List.mem_map.mpr ⟨q, hq, rfl⟩, by rw [h]; rfl⟩
    walk_at "g"
    cases cH : inV .non (rws.map fun q => optV q.2) with
    | true =>
      walk_at "g"
      exact k H2 (hst.same S2) (SameB.of S2)
    | false =>
    have hall : AllP rws := fun q hq => by
      obtain ⟨p, hp, h1, h2, _⟩ := paired_mem hc.rw_ hq
      have h3 := hc.pr p hp
      have h4 := h1.pos
      have h5 := h1.le h3.1 (h1.unit h3.1)
      obtain ⟨e, o⟩ := q
      cases o with
      | some y => exact ⟨h4, by omega, y, rfl, (h2 y rfl).1⟩
      | none =>
        have := hiN.mpr ⟨_, hq, rfl⟩
        rw [cH] at this; cases this
    have hR2 := hR.same S2
    have hst2 := hst.same S2
    walk_at "g"
    refine ⟨R, s, rws, rfl, hst2, hR2, hall, by omega, by omega, fun v H3 d hd hbd3 st3 s3 => ?_⟩
    have S3 : SameB s H H3 := (SameB.of S2).trans s3
    have eD3 := sbLst s3 hst2 (S2 _ _ eD)
    have hds3 := (hds.same S2).sameS hst2 s3
    have eC3 := sbLst s3 hst2 (S2 _ _ eC)
    have hR3 := hR2.sameS hst2 s3
    walk_at "g"
    refine s_lstL (SqL.of eD3) fun G nG => ?_
    have s4 : Same H3 (upd H3 G (.lst ws)) := same_upd nG
    have eG : upd H3 G (.lst ws) G = some (.lst ws) := upd_same
    generalize upd H3 G (.lst ws) = H4 at s4 eG ⊢
    walk_at "g"
    refine ⟨.ref G, v, .list ds, d, b, a, rfl, .lst eG (hds3.any.same s4) trivial, .lst (by omega) fun d hd => (hbd d hd).mono (by decide), fun _ ds' e d' hd' => by cases e; exact hc.le9 d' hd', hd.any.same s4, hbd3.mono (by decide), hbb, hab, fun o H5 ho s5 => ?_⟩
    have S5 := s4.trans s5
    walk_at "g"
    refine s_isi (.bl _) kb_bb ?_
    walk_at "g"
    refine ⟨C, R, v, ds, L, b, a, rws, d, rfl, hc, S5 _ _ eC3, hab, hR3.same S5, hd.any.same S5, hbd3.mono (by decide), fun hn => absurd (hiN.mpr hn) (by rw [cH]; simp), fun o2 H6 ho2 s6 => ?_⟩
    have hoo : o = o2 := by
      rw [Bool.eq_iff_iff, ho, ho2]
      exact ⟨fun ⟨_, ds', e, h⟩ => by cases e; exact h, fun h => ⟨hc.paps hL0, ds, rfl, h⟩⟩
    walk_at "g"
    rw [decide_eq_true hoo]
    exact k H6 (st3.same (S5.trans s6)) (S3.trans (SameB.of (S5.trans s6)))
/-- the law -/
def sp_law (K : PySem.W.Frag) : Sp := fun vs H Q _ => ∃ (a : Addr) (ns : List Int), vs = [.ref a] ∧ ns.length ≤ 63 ∧ SqL K H a (ns.map V.int) ∧ ∀ H', Q (.bl true) H'
theorem ok_law (T : Txt K mg) : FnOk P w K mg base CX0 150 (He.ga K "law") (fd_law T) ["_law_script"] (sp_law K) := by
  refine (F_law T).ok sc_law (fun vs H Q E h => ?_) (fun cdv A outer s H vs Q E hr h => ⟨_, PSs.nox (pss_cons (ps_for PassesOwn.never rfl (pi_list (pe_op op_cat (pe_slice sl_list (pv 0) (po_some pe_int) (po_some pe_int)) (pe_lst (pa_cons pe_int pa_nil)))) (pg_name (i := 1) sc_law.nd rfl (Or.inl rfl)) (pss_cons (ps_set (i := 2) sc_law.nd rfl (Or.inr rfl) (pe_call (ok__law_state T) (hr.mono (by decide)) rfl (g__law_state T) (kp__law_state T) (B__law_state T) .nil pass0 (pa_cons (pv 1) (pa_cons (pe_cmpR op_eq (pe_op op_mod (pe_call (ok__law_cell_at T) (hr.mono (by decide)) rfl (g__law_cell_at T) (kp__law_cell_at T) (B__law_cell_at T) .nil pass0 (pa_cons (pv 0) (pa_cons pe_int pa_nil))) pe_int) pe_int (nomark _)) pa_nil))))
      (pss_cons (ps_set (i := 3) sc_law.nd rfl (Or.inl rfl) (pe_call (ok__law_primes T) (hr.mono (by decide)) rfl (g__law_primes T) (kp__law_primes T) (B__law_primes T) .nil pass0 (pa_cons (pv 2) pa_nil)))
      (pss_cons ((ps_setLc (i := 4) (own := [("_law_p", 15)]) (tt := tYes) rfl sc_law.nd rfl rfl (sw_true rfl rfl rfl rfl) (pi_list (pv 3)) (blkOk_by (N := N_law) (sc := defScope s_law) (by decide +kernel)) (fun _ _ _ _ _ => (pg_name (i := 15) sc_law.nd rfl (Or.inl rfl))) (fun _ _ _ _ _ => pts_nil) (fun _ _ _ _ _ => (pe_call (ok__law_paper T) (hr.mono (by decide)) rfl (g__law_paper T) (kp__law_paper T) (B__law_paper T) .nil pass0 (pa_cons (pv 15) (pa_cons (pe_op op_mulW (pe_call (ok__law_take T) (hr.mono (by decide)) rfl (g__law_take T) (kp__law_take T) (B__law_take T) .nil pass0 (pa_cons (pv 2) (pa_cons pe_int pa_nil))) (pe_call (ok__law_take T) (hr.mono (by decide)) rfl (g__law_take T) (kp__law_take T) (B__law_take T) .nil pass0 (pa_cons (pv 2) (pa_cons pe_int pa_nil)))) pa_nil))))))
      (pss_cons (ps_set (i := 5) sc_law.nd rfl (Or.inr rfl) (pe_call (ok__law_number T) (hr.mono (by decide)) rfl (g__law_number T) (kp__law_number T) (B__law_number T) .nil pass0 (pa_cons (pv 2) pa_nil)))
      (pss_cons (ps_set (i := 6) sc_law.nd rfl (Or.inr rfl) (pe_call (ok__law_number T) (hr.mono (by decide)) rfl (g__law_number T) (kp__law_number T) (B__law_number T) .nil pass0 (pa_cons (pv 2) pa_nil)))
      (pss_cons (ps_set (i := 7) sc_law.nd rfl (Or.inl rfl) (pe_tup (pa_cons pe_int (pa_cons (pe_tup (pa_cons pe_str (pa_cons (pe_op RepT1.op_repTA (pe_tup (pa_cons (pe_tup (pa_cons pe_int (pa_cons pe_int pa_nil))) pa_nil)) (pe_callB callLen rfl (T.fr (T.c.fact 56 rfl)) boot_len (pa_cons (pv 3) pa_nil))) pa_nil))) pa_nil))))
      (pss_cons (ps_set (i := 8) sc_law.nd rfl (Or.inl rfl) pe_bl)
      (pss_cons (ps_if (pt_cmpR op_notIn_seq pe_int (pe_lc (own := [("_law_p", 15)]) (tt := tYes) rfl sc_law.nd (pi_list (pv 3)) (blkOk_by (N := N_law) (sc := defScope s_law) (by decide +kernel)) (fun _ _ _ _ _ => (pg_name (i := 15) sc_law.nd rfl (Or.inl rfl))) (fun _ _ _ _ _ => pts_nil) (fun _ _ _ _ _ => (pe_op op_mod (pv 5) (pv 15)))) rfl) (pss_cons (ps_if (pt_cmpR op_eq (pe_call (ok__law_take T) (hr.mono (by decide)) rfl (g__law_take T) (kp__law_take T) (B__law_take T) .nil pass0 (pa_cons (pv 2) (pa_cons pe_int pa_nil))) pe_int (nomark _)) (pss_one (ps_set (i := 6) sc_law.nd rfl (Or.inr rfl) (pe_call (ok__law_alike T) (hr.mono (by decide)) rfl (g__law_alike T) (kp__law_alike T) (B__law_alike T) .nil pass0 (pa_cons (pv 3) (pa_cons (pv 5) (pa_cons (pv 2) pa_nil)))))) pss_nil)
      (pss_one (ps_if (pt_cmpR op_notIn_seq pe_int (pe_lc (own := [("_law_p", 15)]) (tt := tYes) rfl sc_law.nd (pi_list (pv 3)) (blkOk_by (N := N_law) (sc := defScope s_law) (by decide +kernel)) (fun _ _ _ _ _ => (pg_name (i := 15) sc_law.nd rfl (Or.inl rfl))) (fun _ _ _ _ _ => pts_nil) (fun _ _ _ _ _ => (pe_op op_mod (pv 6) (pv 15)))) rfl) (pss_cons (ps_set (i := 9) sc_law.nd rfl (Or.inl rfl) (pe_call (ok__law_rows T) (hr.mono (by decide)) rfl (g__law_rows T) (kp__law_rows T) (B__law_rows T) .nil pass0 (pa_cons (pv 3) (pa_cons (pv 5) (pa_cons (pv 6) pa_nil)))))
      (pss_cons (ps_set (i := 10) sc_law.nd rfl (Or.inl rfl) (pe_call (ok__law_made T) (hr.mono (by decide)) rfl (g__law_made T) (kp__law_made T) (B__law_made T) .nil pass0 (pa_cons (pv 3) (pa_cons (pv 6) (pa_cons (pv 9) (pa_cons (pv 2) pa_nil))))))
      (pss_cons (ps_set (i := 11) sc_law.nd rfl (Or.inl rfl) (pe_call (ok__law_turned T) (hr.mono (by decide)) rfl (g__law_turned T) (kp__law_turned T) (B__law_turned T) .nil pass0 (pa_cons (pv 10) (pa_cons (pe_callB callLen rfl (T.fr (T.c.fact 56 rfl)) boot_len (pa_cons (pv 4) pa_nil)) pa_nil))))
      (pss_cons (ps_if (PW.pt (pw_and (pt_cmpR op_gt (pe_callB callLen rfl (T.fr (T.c.fact 56 rfl)) boot_len (pa_cons (pv 4) pa_nil)) pe_int (nomark _)) (pw_and1 (pt_cmpR op_notBl (pe_call (ok_shows_which_of T) (hr.mono (by decide)) rfl (g_shows_which_of T) (kp_shows_which_of T) (B_shows_which_of T) .nil pass0 (pa_cons (pe_revL (pv 4)) (pa_cons (pv 5) (pa_cons (pv 6) (pa_cons (pv 11) pa_nil))))) pe_bl (nomark _))))) (pss_one (ps_ret pe_bl)) pss_nil)
      (pss_cons (ps_set (i := 7) sc_law.nd rfl (Or.inl rfl) (pe_call (ok__law_bent T) (hr.mono (by decide)) rfl (g__law_bent T) (kp__law_bent T) (B__law_bent T) .nil pass0 (pa_cons (pv 10) (pa_cons (pv 9) (pa_cons (pv 2) pa_nil)))))
      (pss_cons (ps_set (i := 8) sc_law.nd rfl (Or.inl rfl) (pe_call (ok__law_due T) (hr.mono (by decide)) rfl (g__law_due T) (kp__law_due T) (B__law_due T) .nil pass0 (pa_cons (pv 3) (pa_cons (pv 6) (pa_cons (pv 9) (pa_cons (pv 7) pa_nil))))))
      (pss_one (ps_if (pt_not (pt_val (pe_call (ok__law_apart_right T) (hr.mono (by decide)) rfl (g__law_apart_right T) (kp__law_apart_right T) (B__law_apart_right T) .nil pass0 (pa_cons (pv 4) (pa_cons (pv 3) (pa_cons (pv 5) (pa_cons (pv 6) (pa_cons (pv 9) (pa_cons (pv 2) pa_nil))))))))) (pss_one (ps_ret pe_bl)) pss_nil)))))))) pss_nil))) pss_nil)
      (pss_cons (ps_set (i := 12) sc_law.nd rfl (Or.inl rfl) (pe_callTy callLst rfl (T.fr (T.c.fact 60 rfl)) boot_list (pa_cons (pv 4) pa_nil)))
      (pss_cons (ps_set (i := 13) sc_law.nd rfl (Or.inl rfl) (pe_call (ok_shows_which_of T) (hr.mono (by decide)) rfl (g_shows_which_of T) (kp_shows_which_of T) (B_shows_which_of T) .nil pass0 (pa_cons (pv 12) (pa_cons (pv 5) (pa_cons (pv 6) (pa_cons (pv 7) pa_nil))))))
      (pss_cons (ps_if (PW.pt (pw_or (pt_not (pt_val (pe_callB call_isi rfl (T.fr (T.c.fact 52 rfl)) boot_isinstance (pa_cons (pv 13) (pa_cons (pe_bltn (v := .ty "bool") rfl (T.fr (T.c.fact 54 rfl)) boot_bool rfl) pa_nil))))) (pw_or (pt_cmpR op_ne (pv 13) (pv 8) (nomark _)) (pw_or1 (pt_cmpR (op_neD hr.units) (pv 12) (pv 4) (nomark _)))))) (pss_one (ps_ret pe_bl)) pss_nil)
      (pss_cons (ps_set (i := 14) sc_law.nd rfl (Or.inl rfl) (pe_call (ok__law_bent_papers T) (hr.mono (by decide)) rfl (g__law_bent_papers T) (kp__law_bent_papers T) (B__law_bent_papers T) .nil pass0 (pa_cons (pv 4) (pa_cons (pe_call (ok__law_take T) (hr.mono (by decide)) rfl (g__law_take T) (kp__law_take T) (B__law_take T) .nil pass0 (pa_cons (pv 2) (pa_cons pe_int pa_nil))) (pa_cons (pe_call (ok__law_take T) (hr.mono (by decide)) rfl (g__law_take T) (kp__law_take T) (B__law_take T) .nil pass0 (pa_cons (pv 2) (pa_cons (pe_callB callLen rfl (T.fr (T.c.fact 56 rfl)) boot_len (pa_cons (pv 4) pa_nil)) pa_nil))) pa_nil)))))
      (pss_one (ps_if (pt_cmpR op_notBl (pe_call (ok_shows_which_of T) (hr.mono (by decide)) rfl (g_shows_which_of T) (kp_shows_which_of T) (B_shows_which_of T) .nil pass0 (pa_cons (pv 14) (pa_cons (pv 5) (pa_cons (pv 6) (pa_cons (pv 7) pa_nil))))) pe_bl (nomark _)) (pss_one (ps_ret pe_bl)) pss_nil)))))))))))))))
      (pss_one (ps_ret (pe_and (pe_cmpR op_isBl (pe_call (ok__law_by_six T) (hr.mono (by decide)) rfl (g__law_by_six T) (kp__law_by_six T) (B__law_by_six T) .nil pass0 (pa_cons pe_int pa_nil)) pe_bl (nomark _)) (pe_one (pe_cmpR op_isBl (pe_call (ok__law_by_six T) (hr.mono (by decide)) rfl (g__law_by_six T) (kp__law_by_six T) (B__law_by_six T) .nil pass0 (pa_cons pe_int pa_nil)) pe_bl (nomark _))))))), ?_⟩)
  · obtain ⟨a, ns, rfl, _⟩ := h; rfl
  · obtain ⟨a, ns, rfl, hlen, hS, k⟩ := h
    walk_at "g"
    refine mkSl hS fun l H3 hl hL3 s3 => ?_
    walk_at "g"
    refine mkL (by simp) fun l2 H4 hl2 hL4 s4 => ?_
    have zl := cutV_length (ns.map V.int) (some 1) (some 9)
    rw [List.length_map] at zl
    refine mkCat (s4 _ _ hL3) hL4 (by simp; omega) fun l3 H5 n5 e5 s5 => ?_
    have S5 := s3.trans (s4.trans s5)
    walk_at "g"
    refine ⟨⟨_, SqL.of e5⟩, ?_⟩
    refine for_list (fun i σ H' => Same H5 H' ∧ ∃ v1 v2 v3 v4 v5 v6 v7 v8 v9 v10 v11 v12 v13 v14 : Option V, σ = [some (.ref a), v1, v2, v3, v4, v5, v6, v7, v8, v9, v10, v11, v12, v13, v14, none]) ⟨Same.refl _, _, _, _, _, _, _, _, _, _, _, _, _, _, _, rfl⟩ (fun i σ H' _ I => SqL.of (I.1 _ _ e5)) ?_ ?_
    · rintro i x σ H6 hi ⟨s6, v1, v2, v3, v4, v5, v6, v7, v8, v9, v10, v11, v12, v13, v14, rfl⟩
      have hc : ∃ c, x = V.int c := by
        rcases List.mem_append.mp (get_mem hi) with z | z
        · obtain ⟨c, e, _⟩ := of_mem_ints (cutV_mem z)
          exact ⟨c, e⟩
        · exact ⟨0, by simpa using z⟩
      obtain ⟨c, rfl⟩ := hc
      walk_at "g"
      refine ⟨a, ns, 0, rfl, (S5.trans s6).seq hS, fun z1 => ?_⟩
      walk_at "g"
      refine ⟨c, _, rfl, fun s Hs ns' ss sts => ?_⟩
      walk_at "g"
      refine ⟨s, rfl, sts, fun L C H1 srt hL hLl hL0 nC eC st1 s1 => ?_⟩
      have hCs : C ≠ s := fun z => by
        obtain ⟨_, _, e, _⟩ := st1
        rw [← z, eC] at e; cases e
      refine s_ckS (σ' := [some (.ref a), some (.int c), some (.ref s), some (.ref C), v4, v5, v6, v7, v8, v9, v10, v11, v12, v13, v14, none]) rfl ?_
      walk_at "g"
      refine s_lc ?_
      walk_at "g"
      refine ⟨⟨_, SqL.of eC⟩, fun F hF => ?_⟩
      have hFs : F ≠ s := fun z => by
        obtain ⟨_, _, e, _⟩ := st1
        rw [z, e] at hF; cases hF
      refine lc_list (fun i H' => StAt H' s ∧ SameB s H1 H' ∧ ∃ (ys : List V) (ds : List PyData), H' F = some (.lst ys) ∧ DaL (fun _ => False) H' ys ds ∧ (∀ d ∈ ds, IsPap d ∧ Bd 18 d) ∧ ds.map pOf = L.take i) ⟨st1.same (same_upd hF), SameB.of (same_upd hF), [], [], upd_same, .nil, by simp, by simp⟩ (fun i H' _ I => SqL.of (I.2.1 _ _ hCs eC)) ?_ ?_
      · rintro i v H2 hi ⟨st2, sb2, ys, ds, eF, hds, hpap, hmap⟩
        obtain ⟨p, hx, rfl⟩ := nv_get hi
        obtain ⟨hp, hp9⟩ := hL p (List.mem_of_getElem? hx)
        have hp2 := hp.1
        have hil := (List.getElem?_eq_some_iff.mp hx).1
        have hdl : ds.length ≤ 6 := by
          have := congrArg List.length hmap
          rw [List.length_map, List.length_take] at this
          omega
        walk_at "g"
        refine ⟨rfl, ?_⟩
        walk_at "g"
        refine ⟨s, 2, rfl, by decide, by decide, st2, fun z1 Ha z10 z11 sta sa => ?_⟩
        walk_at "g"
        refine ⟨s, 12, rfl, by decide, by decide, sta, fun z2 Hb z20 z21 stb sb => ?_⟩
        walk_at "g"
        try refine s_i (mulW (by omega) (by omega)) ?_
        have hz : 0 ≤ z1 * z2 := Int.mul_nonneg z10 z20
        generalize z1 * z2 = zz at hz ⊢
        walk_at "g"
        refine ⟨p, 5, zz, rfl, hp, by omega, by decide, by omega, hz, fun t Hc ⟨d, g1, g2, g3, g4⟩ sc => ?_⟩
        have eFc := sc _ _ (sb _ _ hFs (sa _ _ hFs eF))
        have sbc : SameB s H1 Hc := sb2.trans (sa.trans (sb.trans (SameB.of sc)))
        refine ⟨ys, eFc, line2 (by rw [hds.len]; omega), ?_, sbc.updn hF, ys ++ [.ref t], ds ++ [d], upd_same, DaL.upd eFc (fun z => z) (DaL.app (.cons g1 .nil) (((hds.sameS st2 sa).sameS sta sb).same sc)), fun e he => ?_, ?_⟩
        · obtain ⟨x1, x2, x3, x4⟩ := stb.same sc
          exact ⟨x1, x2, by rw [upd_ne (Ne.symm hFs)]; exact x3, x4⟩
        · rcases List.mem_append.mp he with z | z
          · exact hpap e z
          · rw [List.mem_singleton.mp z]; exact ⟨g3, g2.mono (by decide)⟩
        · rw [take_more hx, List.map_append, hmap]
          show _ ++ [pOf d] = _
          rw [g4]
      rintro H7 ⟨st7, sb7, ys, ds, eF7, hds7, hpap, hmap⟩
      rw [nv_len, List.take_length] at hmap
      have hdl : ds.length = L.length := by
        have := congrArg List.length hmap
        rw [List.length_map] at this
        omega
      have eC7 : H7 C = some (.lst (nv L)) := sb7 _ _ hCs eC
      have hb30 : ∀ d ∈ ds, Bd 30 d := fun d hd => (hpap d hd).2.mono (by decide)
      have hle9 : ∀ d ∈ ds, pOf d ≤ 1000000000 := fun d hd => by
        have h1 : pOf d ∈ L := by rw [← hmap]; exact List.mem_map.mpr ⟨d, hd, rfl⟩
        have := (hL _ h1).2
        omega
      have hPaps : PapsD (.list ds) := ⟨ds, rfl, by omega, by omega, fun e he => (hpap e he).1, by rw [hmap]; exact srt⟩
      have hds7l := hds7.len
      have hS6 : ∀ H', SameB s H7 H' → Same H6 H' := fun H' sb' => SameB.same ns' ((s1.trans sb7).trans sb') ss
      walk_at "g"
      refine ⟨s, rfl, st7, fun b H8 hb st8 s8 => ?_⟩
      walk_at "g"
      refine ⟨s, rfl, st8, fun a1 H9 ha1 st9 s9 => ?_⟩
      have S9 : SameB s H7 H9 := s8.trans s9
      refine s_ckS (σ' := [some (.ref a), some (.int c), some (.ref s), some (.ref C), some (.ref F), some (.int b), some (.int a1), v7, v8, v9, v10, v11, v12, v13, v14, none]) rfl ?_
      walk_at "g"
      refine mkT (by simp) fun l10 H10 nl10 el10 s10 => ?_
      walk_at "g"
      refine mkT (by simp) fun l11 H11 nl11 el11 s11 => ?_
      walk_at "g"
      have S11 : SameB s H7 H11 := S9.trans (SameB.of (s10.trans s11))
      refine s_lenL (SqL.of (S11 _ _ hCs eC7)) ?_
      rw [nv_len]
      walk_at "g"
      refine RepT1.mkRepT el11 (by omega) fun l12 H12 el12 s12 => ?_
      walk_at "g"
      refine mkT (by simp) fun l13 H13 nl13 el13 s13 => ?_
      walk_at "g"
      refine mkT (by simp) fun l14 H14 nl14 el14 s14 => ?_
      have Sx : Same H9 H14 := s10.trans (s11.trans (Same.trans s12 (s13.trans s14)))
      have S14 : SameB s H7 H14 := S9.trans (SameB.of Sx)
      have st14 := st9.same Sx
      have hrep : ∀ j : Nat, DaL (fun _ => False) H14 (List.replicate j (.ref l10)) ((List.replicate j (1, 0)).map rowN) := fun j => by
        induction j with
        | zero => exact .nil
        | succ j ih => exact .cons (.tup (s14 _ _ (s13 _ _ (s12 _ _ (s11 _ _ el10)))) (.cons (.int _) (.cons (.int _) .nil))) ih
      have hd0 : Da H14 (.ref l14) (.tuple [.int 0, .tuple [.str "by", .tuple ((List.replicate L.length (1, 0)).map rowN)]]) := .tup el14 (.cons (.int _) (.cons (.tup (s14 _ _ el13) (.cons (.str _) (.cons (.tup (s14 _ _ (s13 _ _ el12)) (hrep _).any) .nil))) .nil))
      have bd0 : Bd 52 (.tuple [.int 0, .tuple [.str "by", .tuple ((List.replicate L.length (1, 0)).map rowN)]]) := .tup (by simp) (bd_cons (.int (by decide)) (bd_cons (.tup (by simp) (bd_cons (.str _ (by decide +kernel)) (bd_cons (.tup (by rw [List.length_map, List.length_replicate]; omega) fun d hd => by
        obtain ⟨q, hq, rfl⟩ := List.mem_map.mp hd
        rw [(List.mem_replicate.mp hq).2]
        exact (bd_two (by decide) (by decide)).mono (by decide)) bd_nil))) bd_nil))
      generalize PyData.tuple [.int 0, .tuple [.str "by", .tuple ((List.replicate L.length (1, 0)).map rowN)]] = d0 at hd0 bd0
      refine s_ckS (σ' := [some (.ref a), some (.int c), some (.ref s), some (.ref C), some (.ref F), some (.int b), some (.int a1), some (.ref l14), v8, v9, v10, v11, v12, v13, v14, none]) rfl ?_
      walk_at "h"
      refine s_join (fun σ' H' => ∃ (a2 : Int) (v : V) (dt : PyData) (due : Bool) (v9 v10 v11 : Option V), σ' = [some (.ref a), some (.int c), some (.ref s), some (.ref C), some (.ref F), some (.int b), some (.int a2), some v, some (.bl due), v9, v10, v11, v12, v13, v14, none] ∧ a2.natAbs < 2 ^ 200 ∧ Da H' v dt ∧ Bd 52 dt ∧ StAt H' s ∧ SameB s H7 H' ∧ (due = true ↔ ShowsD ds b a2 dt)) ?_ ?_
      · rintro σ' H15 ⟨a2, v, dt, due, v9, v10, v11, rfl, ha2, hv, hbdt, st15, S15, hdue⟩
        have eF15 := S15 _ _ hFs eF7
        have hds15 := hds7.sameS st7 S15
        walk_at "g"
        refine s_lstL (SqL.of eF15) fun G nG => ?_
        have s16 : Same H15 (upd H15 G (.lst ys)) := same_upd nG
        have eG : upd H15 G (.lst ys) G = some (.lst ys) := upd_same
        generalize upd H15 G (.lst ys) = H16 at s16 eG ⊢
        walk_at "g"
        refine ⟨.ref G, v, .list ds, dt, b, a2, rfl, .lst eG (hds15.any.same s16) trivial, .lst (by omega) fun d hd => (hb30 d hd).mono (by decide), fun _ ds' e d' hd' => by cases e; exact hle9 d' hd', hv.same s16, hbdt.mono (by decide), by omega, by omega, fun o H17 ho s17 => ?_⟩
        have S17 := s16.trans s17
        have hoo : o = due := by
          rw [Bool.eq_iff_iff, ho, hdue]
          exact ⟨fun ⟨_, ds', e, h⟩ => by cases e; exact h, fun h => ⟨hPaps, ds, rfl, h⟩⟩
        subst hoo
        refine s_ckS (σ' := [some (.ref a), some (.int c), some (.ref s), some (.ref C), some (.ref F), some (.int b), some (.int a2), some v, some (.bl o), v9, v10, v11, some (.ref G), some (.bl o), v14, none]) rfl ?_
        walk_at "g"
        refine s_isi (.bl _) kb_bb ?_
        walk_at "g"
        have hshL : SeqAt.shaped (.list ds) = true := (Bd.lst (n := 30) (by omega) hb30).shaped (by decide)
        refine s_neD (.list ds) (.list ds) (.lst (SqL.of (s17 _ _ eG)) ((hds15.same S17).dp K)) (.lst (SqL.of (S17 _ _ eF15)) ((hds15.same S17).dp K)) hshL hshL ?_
        rw [eqv_refl _ (Bd.lst (n := 30) (by omega) hb30 : Bd 31 (.list ds)).lay.1]
        have st17 := st15.same S17
        walk_at "g"
        refine ⟨s, 7, rfl, by decide, by decide, st17, fun wy H18 w0 w1 st18 s18 => ?_⟩
        have Sb : SameB s H15 H18 := (SameB.of S17).trans s18
        have eF18 := sbLst s18 st17 (S17 _ _ eF15)
        walk_at "g"
        refine s_lenL (SqL.of eF18) ?_
        rw [hds7l, hdl]
        walk_at "g"
        refine ⟨s, _, rfl, by omega, by omega, st18, fun wz H19 x0 x1 st19 s19 => ?_⟩
        obtain ⟨w, rfl⟩ := Int.eq_ofNat_of_zero_le x0
        have eF19 := sbLst s19 st18 eF18
        have S19 : SameB s H15 H19 := Sb.trans s19
        have hds19 := hds15.sameS st15 S19
        walk_at "g"
        refine ⟨F, wy, w, ys, ds, rfl, w0, w1, by omega, by omega, eF19, hds19, fun d hd => ⟨(hpap d hd).1, hb30 d hd⟩, fun v2 H20 d2 hd2 hb2 hn2 s20 => ?_⟩
        walk_at "g"
        refine ⟨v2, v, d2, dt, b, a2, rfl, hd2, hb2.mono (by decide), fun hP => absurd hP hn2, (hv.sameS st15 S19).same s20, hbdt.mono (by decide), by omega, by omega, fun o2 H21 ho2 s21 => ?_⟩
        have ho2' : o2 = false := by
          cases o2 with
          | false => rfl
          | true => exact absurd (ho2.mp rfl).1 hn2
        subst ho2'
        walk_at "g"
        refine s_notBl ?_
        walk_at "g"
        refine ⟨s6.trans (hS6 _ (S15.trans (S19.trans (SameB.of (s20.trans s21))))), _, _, _, _, _, _, _, _, _, _, _, _, _, _, rfl⟩
      · intro N hN
        walk_at "g"
        refine s_lc ?_
        walk_at "g"
        have eC14 := S14 _ _ hCs eC7
        refine ⟨⟨_, SqL.of eC14⟩, fun D hD => ?_⟩
        refine lc_list (fun i H' => Same H14 H' ∧ H' D = some (.lst (((L.take i).map fun p : Nat => b % (p : Int)).map V.int))) ⟨same_upd hD, upd_same⟩ (fun i H' _ I => SqL.of (I.1 _ _ eC14)) ?_ ?_
        · rintro i x H15 hi ⟨s15, eD⟩
          obtain ⟨p, hx, rfl⟩ := nv_get hi
          have hp2 := (hL _ (List.mem_of_getElem? hx)).1.1
          have hil := (List.getElem?_eq_some_iff.mp hx).1
          walk_at "g"
          refine ⟨rfl, ?_⟩
          walk_at "g"
          refine s_i (by omega) ?_
          refine ⟨_, eD, line2 (by rw [List.length_map, List.length_map, List.length_take]; omega), same_upd' s15 hD, ?_⟩
          rw [upd_same, take_more hx, List.map_append, List.map_append]; rfl
        rintro H15 ⟨s15, eD⟩
        rw [nv_len, List.take_length] at eD
        refine s_notInL eD ?_
        have S15 : SameB s H7 H15 := S14.trans (SameB.of s15)
        have st15 := st14.same s15
        have hmod : ∀ z : Int, (0 : Int) ∈ (L.map fun p : Nat => z % (p : Int)) ↔ ¬ ∀ p ∈ L, M.un p z := fun z => by
          constructor
          · intro h hall
            obtain ⟨p, hp, e⟩ := List.mem_map.mp h
            exact M.un_iff.mp (hall p hp) e
          · intro h
            have : ∃ p ∈ L, ¬ M.un p z := Classical.byContradiction fun w => h fun p hp => Classical.byContradiction fun w2 => w ⟨p, hp, w2⟩
            obtain ⟨p, hp, hn⟩ := this
            exact List.mem_map.mpr ⟨p, hp, Classical.byContradiction fun w => hn (M.un_iff.mpr w)⟩
        have noB : ∀ z : Int, (¬ ∀ p ∈ L, M.un p b ∧ M.un p z) → ∀ dt, (false = true ↔ ShowsD ds b z dt) := fun z h dt => ⟨fun w => (nomatch w), fun w => (h fun p hp => by
          rw [← hmap] at hp
          obtain ⟨d, hd, rfl⟩ := List.mem_map.mp hp
          exact w.1 d hd).elim⟩
        walk_at "g"
        refine s_iten (fun c2 => ?_) (fun c2 => ?_)
        · have hub : ∀ p ∈ L, M.un p b := Classical.byContradiction fun w => c2 ((hmod b).mpr w)
          walk_at "h"
          refine s_join (fun σ' H' => ∃ (a2 : Int), σ' = [some (.ref a), some (.int c), some (.ref s), some (.ref C), some (.ref F), some (.int b), some (.int a2), some (.ref l14), some (.bl false), v9, v10, v11, v12, v13, v14, none] ∧ a2.natAbs < 2 ^ 200 ∧ StAt H' s ∧ SameB s H15 H') ?_ ?_
          · rintro σ' H16 ⟨a2, rfl, ha2, st16, S16⟩
            have S16' : SameB s H7 H16 := S15.trans S16
            have eC16 := S16' _ _ hCs eC7
            have hd16 : Da H16 (.ref l14) d0 := (hd0.same s15).sameS st15 S16
            walk_at "g"
            refine s_lc ?_
            walk_at "g"
            refine ⟨⟨_, SqL.of eC16⟩, fun D2 hD2 => ?_⟩
            refine lc_list (fun i H' => Same H16 H' ∧ H' D2 = some (.lst (((L.take i).map fun p : Nat => a2 % (p : Int)).map V.int))) ⟨same_upd hD2, upd_same⟩ (fun i H' _ I => SqL.of (I.1 _ _ eC16)) ?_ ?_
            · rintro i x H17 hi ⟨s17, eD2⟩
              obtain ⟨p, hx, rfl⟩ := nv_get hi
              have hp2 := (hL _ (List.mem_of_getElem? hx)).1.1
              have hil := (List.getElem?_eq_some_iff.mp hx).1
              walk_at "g"
              refine ⟨rfl, ?_⟩
              walk_at "g"
              refine s_i (by omega) ?_
              refine ⟨_, eD2, line2 (by rw [List.length_map, List.length_map, List.length_take]; omega), same_upd' s17 hD2, ?_⟩
              rw [upd_same, take_more hx, List.map_append, List.map_append]; rfl
            rintro H17 ⟨s17, eD2⟩
            rw [nv_len, List.take_length] at eD2
            refine s_notInL eD2 ?_
            have S17 : SameB s H7 H17 := S16'.trans (SameB.of s17)
            have st17 := st16.same s17
            walk_at "g"
            refine s_iten (fun c3 => ?_) (fun c3 => ?_)
            · have hua : ∀ p ∈ L, M.un p a2 := Classical.byContradiction fun w => c3 ((hmod a2).mpr w)
              have hun : ∀ p ∈ L, M.un p b ∧ M.un p a2 := fun p hp => ⟨hub p hp, hua p hp⟩
              walk_at "g"
              refine ⟨C, L, b, a2, rfl, S17 _ _ hCs eC7, hLl, hL, hun, by omega, by omega, fun R H18 rws hrw hR s18 => ?_⟩
              have hDC : DueC ds L b a2 rws := ⟨hmap, hL, hun, hrw, hLl, fun d hd => (hpap d hd).1, srt⟩
              have hrl : rws.length = L.length := hrw.length.symm
              have st18 := st17.same s18
              have S18 : SameB s H7 H18 := S17.trans (SameB.of s18)
              refine s_ckS (σ' := [some (.ref a), some (.int c), some (.ref s), some (.ref C), some (.ref F), some (.int b), some (.int a2), some (.ref l14), some (.bl false), some (.ref R), v10, v11, v12, v13, v14, none]) rfl ?_
              walk_at "g"
              refine ⟨C, R, s, L, b, a2, rws, rfl, st18, S18 _ _ hCs eC7, hLl, hL, by omega, hR, hrw, fun T H19 dm hm hT st19 s19 => ?_⟩
              obtain ⟨xm, sh, rfl, hms, hxm⟩ := hm.split
              have S19 : SameB s H7 H19 := S18.trans s19
              have hR19 := hR.sameS st18 s19
              have eF19 := S19 _ _ hFs eF7
              have hds19 := hds7.sameS st7 S19
              refine s_ckS (σ' := [some (.ref a), some (.int c), some (.ref s), some (.ref C), some (.ref F), some (.int b), some (.int a2), some (.ref l14), some (.bl false), some (.ref R), some (.ref T), v11, v12, v13, v14, none]) rfl ?_
              walk_at "g"
              refine s_lenL (SqL.of eF19) ?_
              rw [hds7l, hdl]
              walk_at "g"
              have bxm : Bd 0 xm := by
                rcases hxm with rfl | ⟨_, n, rfl, hn⟩
                · exact .non
                · exact .int (by omega)
              refine ⟨T, _, rws, xm, sh, rfl, by omega, hms, bxm, by omega, hT, fun vb H20 db hdb hbb s20 => ?_⟩
              have eF20 := s20 _ _ eF19
              refine s_ckS (σ' := [some (.ref a), some (.int c), some (.ref s), some (.ref C), some (.ref F), some (.int b), some (.int a2), some (.ref l14), some (.bl false), some (.ref R), some (.ref T), some vb, v12, v13, v14, none]) rfl ?_
              have S20 : SameB s H19 H20 := SameB.of s20
              have st20 := st19.same s20
              walk_at "h"
              refine s_join (fun σ' H' => σ' = [some (.ref a), some (.int c), some (.ref s), some (.ref C), some (.ref F), some (.int b), some (.int a2), some (.ref l14), some (.bl false), some (.ref R), some (.ref T), some vb, v12, v13, v14, none] ∧ Same H20 H') ?_ ?_
              · rintro σ' H21 ⟨rfl, s21⟩
                have st21 := st20.same s21
                have S21 : SameB s H7 H21 := S19.trans (SameB.of (s20.trans s21))
                have hT21 : Tu H21 (.ref T) (.tuple [xm, .tuple sh]) := hT.same (s20.trans s21)
                have hR21 := hR19.same (s20.trans s21)
                walk_at "g"
                refine ⟨T, R, s, rws, xm, sh, rfl, st21, hms, hxm, hR21, by omega, by omega, hT21, fun v2 H22 dt hdt hbdt hno st22 s22 => ?_⟩
                have S22 : SameB s H7 H22 := S21.trans s22
                have hR22 := hR21.sameS st21 s22
                refine s_ckS (σ' := [some (.ref a), some (.int c), some (.ref s), some (.ref C), some (.ref F), some (.int b), some (.int a2), some v2, some (.bl false), some (.ref R), some (.ref T), some vb, v12, v13, v14, none]) rfl ?_
                walk_at "g"
                refine ⟨C, R, v2, ds, L, b, a2, rws, dt, rfl, hDC, S22 _ _ hCs eC7, by omega, hR22, hdt, hbdt, hno, fun o H23 ho s23 => ?_⟩
                have S23 : SameB s H7 H23 := S22.trans (SameB.of s23)
                have st23 := st22.same s23
                refine s_ckS (σ' := [some (.ref a), some (.int c), some (.ref s), some (.ref C), some (.ref F), some (.int b), some (.int a2), some v2, some (.bl o), some (.ref R), some (.ref T), some vb, v12, v13, v14, none]) rfl ?_
                walk_at "g"
                refine ⟨F, C, R, s, ys, ds, L, b, a2, rws, rfl, st23, hDC, hL0, S23 _ _ hCs eC7, S23 _ _ hFs eF7, hds7.sameS st7 S23, hb30, hR22.same s23, by omega, by omega, fun H24 st24 s24 => ?_⟩
                walk_at "g"
                exact hN _ _ ⟨a2, v2, dt, o, _, _, _, rfl, ha2, (hdt.same s23).sameS st23 s24, hbdt, st24, S23.trans s24, ho⟩
              · intro N2 hN2
                walk_at "g"
                refine s_lenL (SqL.of eF20) ?_
                rw [hds7l, hdl]
                walk_at "g"
                refine s_ite (fun c5 => ?_) (fun c5 => ?_)
                · have hF20 : DaF (fun _ => True) H20 (.ref F) (.list ds) := .lst eF20 (hds19.any.same s20) trivial
                  walk_at "g"
                  refine (eve_revL (fun _ _ => trivial) (eve_var rfl hF20) : EvE (fun _ => True) _ _ H20 _) H20 (Same.refl _) _ fun x H21 s21 hx => ?_
                  have hnr : ¬ PapsD (.list ds.reverse) := fun ⟨ds', e, _, _, _, hpw⟩ => by
                    cases e
                    rw [List.map_reverse, hmap, List.pairwise_reverse] at hpw
                    have h1 := List.pairwise_iff_getElem.mp hpw 0 1 (by omega) (by omega) (by omega)
                    have h2 := List.pairwise_iff_getElem.mp srt 0 1 (by omega) (by omega) (by omega)
                    omega
                  walk_at "g"
                  refine ⟨x, vb, .list ds.reverse, db, b, a2, rfl, hx, .lst (by rw [List.length_reverse]; omega) fun d hd => (hb30 d (List.mem_reverse.mp hd)).mono (by decide), fun hP => absurd hP hnr, hdb.any.same s21, hbb.mono (by decide), by omega, by omega, fun o H22 ho s22 => ?_⟩
                  have ho' : o = false := by
                    cases o with
                    | false => rfl
                    | true => exact absurd (ho.mp rfl).1 hnr
                  subst ho'
                  walk_at "g"
                  refine s_notBl ?_
                  walk_at "g"
                  exact hN2 _ _ ⟨rfl, s21.trans s22⟩
                · walk_at "g"
                  exact hN2 _ _ ⟨rfl, Same.refl _⟩
            · walk_at "g"
              refine hN _ _ ⟨a2, _, d0, false, _, _, _, rfl, ha2, hd16.same s17, bd0, st17, S17, noB a2 (fun w => (hmod a2).mp (by simpa using c3) fun p hp => (w p hp).2) d0⟩
          · intro N2 hN2
            walk_at "g"
            refine ⟨s, 2, rfl, by decide, by decide, st15, fun z H16 z0 z1 st16 s16 => ?_⟩
            walk_at "g"
            refine s_ite (fun _ => ?_) (fun _ => ?_)
            · walk_at "g"
              refine ⟨s, C, L, b, rfl, st16, (S15.trans s16) _ _ hCs eC7, srt, hL, hLl, hL0, hb, fun a2 H17 ha2 st17 s17 => ?_⟩
              walk_at "g"
              exact hN2 _ _ ⟨a2, rfl, by omega, st17, s16.trans s17⟩
            · walk_at "g"
              exact hN2 _ _ ⟨a1, rfl, by omega, st16, s16⟩
        · walk_at "g"
          refine hN _ _ ⟨a1, _, d0, false, _, _, _, rfl, by omega, hd0.same s15, bd0, st15, S15, noB a1 (fun w => (hmod b).mp (by simpa using c2) fun p hp => (w p hp).1) d0⟩
    · rintro σ H6 ⟨s6, v1, v2, v3, v4, v5, v6, v7, v8, v9, v10, v11, v12, v13, v14, rfl⟩
      walk_at "g"
      refine ⟨5, rfl, .inl rfl, fun H7 s7 => ?_⟩
      rw [decide_eq_true rfl]
      walk_at "g"
      refine s_isBl ?_
      walk_at "g"
      refine ⟨6, rfl, .inr rfl, fun H8 s8 => ?_⟩
      rw [decide_eq_false (by decide)]
      walk_at "g"
      refine s_isBl ?_
      rw [decide_eq_true rfl]
      walk_at "g"
      exact k H8
theorem law_end {K : PySem.W.Frag} {H : Hp} {a : Addr} {ns : List Int} (hl : ns.length ≤ 63) (hb : ∀ z ∈ ns, Builtin.Int.intBits z ≤ 1048576) (hS : SqL K H a (ns.map V.int)) : sp_law K [.ref a] H (fun v _ => v = .bl true) fun _ _ _ => False :=
  ⟨a, ns, rfl, hl, hS, fun _ => rfl⟩

theorem facts {h : Heap} {f : Addr} (X : K.In h) (G : h.Ns mainGlobals mg) (hfa : mg ("law" : Str) = some (.ref f)) (c : Told fa fn K) :
    ∃ fd : FuncData, (∀ (s : Shared) (v : Value), BindsTo s fd ⟨[v], []⟩ [("_law_script", v)]) ∧ ∀ base : Heap, K.In base → base.Ns mainGlobals mg → FnOk P w K mg base CX0 150 f fd ["_law_script"] (sp_law K) := by
  have T : Txt K mg := ⟨c, fun z => He.glo_ok X G z, fun z => He.free_ok X G z, fun z => He.int_ok X G z⟩
  have e := hfa.symm.trans (g_law T)
  cases e
  have b := FunD.bindsA (ps := ["_law_script"]) (F_law T) fun _ _ _ _ _ _ us hl => match us, hl with | [_], _ => rfl
  exact ⟨fd_law T, fun s v => b s [v] rfl, fun base _ _ => ok_law T⟩
end
end C
open PySem PySem.W PySem.Calls PyProof.Rows
set_option maxRecDepth 100000 in
set_option maxHeartbeats 0 in
theorem PySem.Challenge.cw_rootprime_k73_powers_let_by_holds : PySem.Challenge.rw_rootprime_k73_powers_let_by.Holds := by
  w_on; o_law
  refine HandSHeadRun.head_any (r := OpenLaw.row PySem.Challenge.rw_rootprime_k73_powers_let_by) (q := view (OpenLaw.row PySem.Challenge.rw_rootprime_k73_powers_let_by).prog [59]) (H := C.hk) (ob := C.ob) (M := 5030) (loose := ("divisor" :: "inverse" :: "power" :: "is_whole" :: "is_row_of" :: "are_papers" :: "comes_to" :: "is_parting_paper" :: "is_prime_paper" :: "is_order" :: "are_wholes" :: "digits_in" :: "are_digits" :: "shows_which" :: "are_primes" :: "is_named" :: "is_below" :: "is_power_by" :: "are_apart" :: "is_least_by" :: "shows_which_of" :: "_law_cell_at" :: "_law_state" :: "_law_take" :: "_law_number" :: "_law_powers" :: "_law_parted" :: "_law_paper" :: "_law_primes" :: "_law_common" :: "_law_alike" :: "_law_rows" :: "_law_rest" :: "_law_pairs" :: "_law_made" :: "_law_bent_shown" :: "_law_bent" :: "_law_is_whole" :: "_law_is_row" :: "_law_are_rows" :: "_law_due_none" :: "_law_due_apart" :: "_law_due" :: "_law_turned" :: "_law_by_six" :: "_law_bent_papers" :: "_law_any_apart" :: "_law_none_right" :: "_law_apart_right" :: "PrimeError" :: "NoInverse" :: "MOST_PRIMES" :: [])) (d := HandSHeadRun.topDef (OpenLaw.row PySem.Challenge.rw_rootprime_k73_powers_let_by).prog 59) (kwd := []) C.ob_eq
    (by kernel_rfl) (fun s => by kernel_rfl) C.run (by kernel_rfl) (by kernel_rfl) (by kernel_rfl) (by rfl) (by first | assumption | decide +kernel) (by decide +kernel) ⟨rfl, rfl, rfl, rfl, rfl, by decide +kernel⟩ ?hw ?hc
  case hw => w_witness2
  case hc =>
    refine R.walk_ofEB (l := PySem.Challenge.rw_rootprime_k73_powers_let_by) (n := 63) (k := 150) (prm := "_law_script") (CX := fun w => L2.CX0) rfl (by decide) (by kernel_rfl) ⟨rfl, by decide, by decide⟩ ?F (fun _ _ _ _ _ z => z)
    intro w mg fa h Y G hmg0
    obtain ⟨K, KX, c⟩ := Y
    have hmg : mg ("law" : PySem.Str) = some (.ref fa) := by
      have e : (HandSHeadRun.topDef (OpenLaw.row PySem.Challenge.rw_rootprime_k73_powers_let_by).prog 59).name = ("law" : PySem.Str) := by kernel_rfl
      rw [← e]
      exact hmg0
    obtain ⟨fd, hb, hF⟩ := C.facts (P := (PySem.Challenge.rw_rootprime_k73_powers_let_by).prog) (w := w) KX G hmg c
    exact ⟨K, fd, (C.sp_law K), KX, hb, fun H a ns hl hbits hO hS => C.law_end hl hbits hS, hF⟩

import PyProof.Rows.All
import Wide.All
import OpenK.AllK
import Wide.FinOn
import HandS.ForMost
import HandS.ForExc
import HandS.Wide
import HandS.IsInst
import HandS.Style
import HandS.Flow
import HandS.Conv
import HandS.Defaults
import HandS.Head0
import HandS.Head1
import HandS.Head2
import HandS.HeadEnd
import HandS.HeadHook1
import HandS.HeadHook2
import HandS.EndBits
import HandS.ExcInit
import HandS.ExcField
import HandS.ExcOwn
import HandS.ExcIs
import HandS.TryOnly
import HandS.WordsExc
import HandS.ClsMeth
import HandS.HeadNt
import HandS.Steps
import HandS.Zip
import HandS.Walk
import HandS.Small
import HandS.NoneIn
import HandS.TryMany
import HandS.TupAny
import HandS.SortInts
import HandS.SetKeys
import HandS.Iter
import KE.GoesMore
import PySem.Challenge.RW_rootprime_k31_orders_by_what_lies_beside

set_option Elab.async false
set_option linter.all false
set_option maxRecDepth 100000
set_option maxHeartbeats 4000000
set_option exponentiation.threshold 5000

namespace R
open PySem PySem.Spec PyProof.Rows L2
/-! steps of a reading -/
section
variable {t u : TS} {D : Ends} {σ : L2.St} {H : Hp} {Q : VK} {te ta tb : TE} {g : TG} {i j : Nat} {v x y : V} {r : R2} {c c' : TT} {tl : TA} {QL : List V → Hp → Prop} {QB : Bool → Hp → Prop} {QS : L2.St → Hp → Prop} {a b : Int} {C : Int → Int → Prop} {f : Int → Int → V}
theorem s_seq (h : t { D with nx := u D } σ H) : tSeq t u D σ H := h
theorem s_asg (h : te σ H fun x H1 => g x σ H1 D.nx) : tAsg te g D σ H := h
theorem s_drop (h : te σ H fun _ H1 => D.nx σ H1) : tDrop te D σ H := h
theorem s_ret (h : te σ H D.rt) : tRet te D σ H := h
theorem s_next (h : D.nx σ H) : tNext D σ H := h
theorem s_if (h : c σ H fun b H1 => if b = true then t D σ H1 else u D σ H1) : tIfS c t u D σ H := h
theorem s_gname (h : QS (σ.set i (some v)) H) : gName i v σ H QS := h
theorem s_var (e : σ[i]? = some (some v)) (h : Q v H) : tVar i σ H Q := ⟨v, e, h⟩
theorem s_c (h : Q v H) : tC v σ H Q := h
theorem s_op (h : ta σ H fun x H1 => tb σ H1 fun y H2 => r x y H2 Q) : tOp r ta tb σ H Q := h
theorem s_un {r : V → Hp → VK → Prop} (h : ta σ H fun x H1 => r x H1 Q) : tUn r ta σ H Q := h
theorem s_i0 (h : Q (f a b) H) : rI0 f (.int a) (.int b) H Q := ⟨a, b, rfl, rfl, h⟩
theorem s_i (hc : C a b) (h : Q (f a b) H) : rI C f (.int a) (.int b) H Q := ⟨a, b, rfl, rfl, hc, h⟩
theorem s_u {f : Int → V} (h : Q (f a) H) : rU f (.int a) H Q := ⟨a, rfl, h⟩
theorem s_cons (h : te σ H fun x H1 => tl σ H1 fun xs H2 => QL (x :: xs) H2) : tCons te tl σ H QL := h
theorem s_nil (h : QL [] H) : tNil σ H QL := h
theorem s_test (h : ta σ H fun x H' => ∃ k, x = .bl k ∧ QB k H') : tTest ta σ H QB := h
theorem s_tB (h : ta σ H fun x H' => ∃ k, x = .bl k ∧ QB k H') : tB ta σ H QB := h
theorem s_bl {k : Bool} {P : Bool → Prop} (h : P k) : ∃ k', V.bl k = .bl k' ∧ P k' := ⟨k, rfl, h⟩
theorem s_andc (h : c σ H fun b H1 => if b = true then c' σ H1 QB else QB false H1) : tAnd c c' σ H QB := h
theorem s_orc (h : c σ H fun b H1 => if b = true then QB true H1 else c' σ H1 QB) : tOr c c' σ H QB := h
theorem s_notc (h : c σ H fun b H1 => QB (!b) H1) : tNot c σ H QB := h
theorem s_andv (h : ta σ H fun x H1 => ∃ c, x = .bl c ∧ if c = true then tb σ H1 Q else Q (.bl false) H1) : tAndV ta tb σ H Q := h
theorem s_orv (h : ta σ H fun x H1 => ∃ c, x = .bl c ∧ if c = true then Q (.bl true) H1 else tb σ H1 Q) : tOrV ta tb σ H Q := h
theorem s_notv (h : ta σ H fun x H1 => ∃ c, x = .bl c ∧ Q (.bl (!c)) H1) : tNotV ta σ H Q := h
theorem s_ifx {t : TT} (h : t σ H fun c H1 => if c = true then ta σ H1 Q else tb σ H1 Q) : tIf t ta tb σ H Q := h
theorem s_eqI (h : Q (.bl (decide (a = b))) H) : rEq (.int a) (.int b) H Q := ⟨rfl, by
  have e : decide (V.int a = V.int b) = decide (a = b) := by simp
  rw [e]; exact h⟩
theorem s_neI (h : Q (.bl (!decide (a = b))) H) : rNe (.int a) (.int b) H Q := ⟨rfl, by
  have e : decide (V.int a = V.int b) = decide (a = b) := by simp
  rw [e]; exact h⟩
theorem s_eqS {a b : Str} (h : Q (.bl (decide (a = b))) H) : rEq (.str a) (.str b) H Q := ⟨rfl, by
  have e : decide (V.str a = V.str b) = decide (a = b) := by simp
  rw [e]; exact h⟩
theorem s_neS {a b : Str} (h : Q (.bl (!decide (a = b))) H) : rNe (.str a) (.str b) H Q := ⟨rfl, by
  have e : decide (V.str a = V.str b) = decide (a = b) := by simp
  rw [e]; exact h⟩
theorem s_eqB {a b : Bool} (h : Q (.bl (decide (a = b))) H) : rEq (.bl a) (.bl b) H Q := ⟨rfl, by
  have e : decide (V.bl a = V.bl b) = decide (a = b) := by simp
  rw [e]; exact h⟩
theorem s_neB {a b : Bool} (h : Q (.bl (!decide (a = b))) H) : rNe (.bl a) (.bl b) H Q := ⟨rfl, by
  have e : decide (V.bl a = V.bl b) = decide (a = b) := by simp
  rw [e]; exact h⟩
def MkT (Q : VK) (xs : List V) (H : Hp) : Prop := xs.length ≤ sizeLine ∧ ∀ p, H p = none → Q (.ref p) (upd H p (.tup xs))
def MkL (Q : VK) (xs : List V) (H : Hp) : Prop := xs.length ≤ sizeLine ∧ ∀ p, H p = none → Q (.ref p) (upd H p (.lst xs))
theorem s_tup (h : tl σ H fun xs H1 => MkT Q xs H1) : tTup tl σ H Q := h
theorem s_lst (h : tl σ H fun xs H1 => MkL Q xs H1) : tLst tl σ H Q := h
theorem len_le {α : Type} {xs : List α} (h : xs.length ≤ 1000) : xs.length ≤ sizeLine := Nat.le_of_lt (small1000 h)
theorem s_par (h : tl σ H fun vs H1 => ∃ v w, vs = [v, w] ∧ D.nx ((σ.set i (some v)).set j (some w)) H1) : tPar i j tl D σ H := h
theorem s_par_ {P : V → V → Prop} (h : P x y) : ∃ v w, [x, y] = [v, w] ∧ P v w := ⟨x, y, rfl, h⟩
theorem s_par3 {l : Nat} (h : tl σ H fun vs H1 => ∃ u v w, vs = [u, v, w] ∧ D.nx (((σ.set i (some u)).set j (some v)).set l (some w)) H1) : tPar3 i j l tl D σ H := h
theorem s_par3_ {z : V} {P : V → V → V → Prop} (h : P x y z) : ∃ u v w, [x, y, z] = [u, v, w] ∧ P u v w := ⟨x, y, z, rfl, h⟩
theorem s_cb {r : List V → Hp → VK → Prop} (h : tl σ H fun vs H1 => r vs H1 Q) : tCB r tl σ H Q := h
theorem s_call {sp : Sp} {dvs : List V} {E : XK} (h : tl σ H fun vs H1 => sp (vs ++ dvs) H1 Q E) : tCall sp dvs E tl σ H Q := h
theorem s_callS {sp : Sp} {E : L2.St → XK} (h : tl σ H fun vs H1 => sp vs H1 Q (E σ)) : tCallS sp E tl σ H Q := h
theorem s_chain {r' : R2} {tc : TE} (h : ta σ H fun x H1 => tb σ H1 fun y H2 => r x y H2 fun z H3 => ∃ k, z = .bl k ∧ (if k = true then tc σ H3 fun w' H4 => r' y w' H4 Q else Q (.bl false) H3)) : tChain r r' ta tb tc σ H Q := h
theorem s_iteT {A B : Prop} (h : A) : if true = true then A else B := by rw [if_pos rfl]; exact h
theorem s_iteF {A B : Prop} (h : B) : if false = true then A else B := by rw [if_neg Bool.false_ne_true]; exact h
theorem s_iteNT {A B : Prop} (h : B) : if (!true) = true then A else B := h
theorem s_iteNF {A B : Prop} (h : A) : if (!false) = true then A else B := h
theorem s_ite {A B p : Prop} [Decidable p] (h1 : p → A) (h2 : ¬p → B) : if decide p = true then A else B := by
  by_cases h : p
  · rw [decide_eq_true h, if_pos rfl]; exact h1 h
  · rw [decide_eq_false h, if_neg Bool.false_ne_true]; exact h2 h
theorem s_iten {A B p : Prop} [Decidable p] (h1 : ¬p → A) (h2 : p → B) : if (!decide p) = true then A else B := by
  by_cases h : p
  · rw [decide_eq_true h]; exact s_iteF (h2 h)
  · rw [decide_eq_false h]; exact s_iteT (h1 h)
theorem s_iteb {A B : Prop} {b : Bool} (h1 : b = true → A) (h2 : b = false → B) : if b = true then A else B := by
  cases b
  · exact s_iteF (h2 rfl)
  · exact s_iteT (h1 rfl)
theorem s_itP {A B p : Prop} [Decidable p] (hp : p) (h : A) : if decide p = true then A else B := s_ite (fun _ => h) fun n => absurd hp n
theorem s_itN {A B p : Prop} [Decidable p] (hp : ¬p) (h : B) : if decide p = true then A else B := s_ite (fun n => absurd n hp) fun _ => h
theorem s_itnP {A B p : Prop} [Decidable p] (hp : p) (h : B) : if (!decide p) = true then A else B := s_iten (fun n => absurd hp n) fun _ => h
theorem s_itnN {A B p : Prop} [Decidable p] (hp : ¬p) (h : A) : if (!decide p) = true then A else B := s_iten (fun _ => h) fun n => absurd n hp
theorem s_btT {p : Prop} [Decidable p] {P : Bool → Prop} (hp : p) (h : P true) : P (decide p) := by rw [decide_eq_true hp]; exact h
theorem s_btF {p : Prop} [Decidable p] {P : Bool → Prop} (hp : ¬p) (h : P false) : P (decide p) := by rw [decide_eq_false hp]; exact h
theorem s_ixL {K : PySem.W.Frag} {p : Addr} {xs : List V} {n : Int} (h1 : SqL K H p xs) (h2 : atI xs n = some v) (h : Q v H) : rIx K (.ref p) (.int n) H Q := .inl ⟨p, xs, n, v, rfl, rfl, h1, h2, h⟩
theorem s_ixT {K : PySem.W.Frag} {p : Addr} {xs : List V} {n : Int} (h1 : SqT K H p xs) (h2 : atI xs n = some v) (h : Q v H) : rIx K (.ref p) (.int n) H Q := .inr (.inl ⟨p, xs, n, v, rfl, rfl, h1, h2, h⟩)
theorem s_isi {K : PySem.W.Frag} {a b : String} {bb : Bool} (ht : TyOf K H x (.type a)) (hk : kitB a b = some bb) (h : Q (.bl bb) H) : rIsi K [x, .ty b] H Q := ⟨x, .ty b, .type a, .type b, bb, rfl, .ty b, .base ht, kit_ty hk, h⟩
theorem kb_ii : kitB "int" "int" = some true := by decide +kernel
theorem kb_ib : kitB "int" "bool" = some false := by decide +kernel
theorem kb_bi : kitB "bool" "int" = some true := by decide +kernel
theorem kb_bb : kitB "bool" "bool" = some true := by decide +kernel
theorem kb_tt : kitB "tuple" "tuple" = some true := by decide +kernel
theorem kb_ll : kitB "list" "list" = some true := by decide +kernel
theorem kb_ti : kitB "tuple" "int" = some false := by decide +kernel
theorem kb_tl : kitB "tuple" "list" = some false := by decide +kernel
theorem kb_lt : kitB "list" "tuple" = some false := by decide +kernel
theorem kb_li : kitB "list" "int" = some false := by decide +kernel
theorem kb_ni : kitB "NoneType" "int" = some false := by decide +kernel
theorem s_isi_ii {K : PySem.W.Frag} (h : Q (.bl true) H) : rIsi K [.int a, .ty "int"] H Q := s_isi (.int a) kb_ii h
theorem s_isi_ib {K : PySem.W.Frag} (h : Q (.bl false) H) : rIsi K [.int a, .ty "bool"] H Q := s_isi (.int a) kb_ib h
theorem s_p10 {n : Nat} (h : Q (.int (10 ^ n)) H) (hn : n ≤ 1000 := by decide) : rI CPow (fun i j => V.int (i ^ j.toNat)) (.int 10) (.int (n : Int)) H Q :=
  ⟨10, n, rfl, rfl, ⟨by omega, by omega, by decide⟩, h⟩
theorem s_pow {e : Int} {n : Nat} (he : e = n) (hn : n ≤ 1000) (ha : a.natAbs < 2 ^ 64) (h : Q (.int (a ^ n)) H) : rI CPow (fun i j => V.int (i ^ j.toNat)) (.int a) (.int e) H Q :=
  ⟨a, e, rfl, rfl, ⟨by omega, by omega, ha⟩, by subst he; exact h⟩
theorem s_p10_4 (h : Q (.int (10 ^ 4)) H) : rI CPow (fun i j => V.int (i ^ j.toNat)) (.int 10) (.int 4) H Q := s_p10 (n := 4) h
theorem s_p10_5 (h : Q (.int (10 ^ 5)) H) : rI CPow (fun i j => V.int (i ^ j.toNat)) (.int 10) (.int 5) H Q := s_p10 (n := 5) h
theorem s_p10_6 (h : Q (.int (10 ^ 6)) H) : rI CPow (fun i j => V.int (i ^ j.toNat)) (.int 10) (.int 6) H Q := s_p10 (n := 6) h
theorem s_p10_8 (h : Q (.int (10 ^ 8)) H) : rI CPow (fun i j => V.int (i ^ j.toNat)) (.int 10) (.int 8) H Q := s_p10 (n := 8) h
theorem s_p10_9 (h : Q (.int (10 ^ 9)) H) : rI CPow (fun i j => V.int (i ^ j.toNat)) (.int 10) (.int 9) H Q := s_p10 (n := 9) h
theorem s_p10_12 (h : Q (.int (10 ^ 12)) H) : rI CPow (fun i j => V.int (i ^ j.toNat)) (.int 10) (.int 12) H Q := s_p10 (n := 12) h
theorem s_p10_18 (h : Q (.int (10 ^ 18)) H) : rI CPow (fun i j => V.int (i ^ j.toNat)) (.int 10) (.int 18) H Q := s_p10 (n := 18) h
theorem s_p10_29 (h : Q (.int (10 ^ 29)) H) : rI CPow (fun i j => V.int (i ^ j.toNat)) (.int 10) (.int 29) H Q := s_p10 (n := 29) h
theorem s_p10_30 (h : Q (.int (10 ^ 30)) H) : rI CPow (fun i j => V.int (i ^ j.toNat)) (.int 10) (.int 30) H Q := s_p10 (n := 30) h
theorem s_p10_39 (h : Q (.int (10 ^ 39)) H) : rI CPow (fun i j => V.int (i ^ j.toNat)) (.int 10) (.int 39) H Q := s_p10 (n := 39) h
theorem s_p10_40 (h : Q (.int (10 ^ 40)) H) : rI CPow (fun i j => V.int (i ^ j.toNat)) (.int 10) (.int 40) H Q := s_p10 (n := 40) h
theorem s_p10_49 (h : Q (.int (10 ^ 49)) H) : rI CPow (fun i j => V.int (i ^ j.toNat)) (.int 10) (.int 49) H Q := s_p10 (n := 49) h
theorem s_p10_50 (h : Q (.int (10 ^ 50)) H) : rI CPow (fun i j => V.int (i ^ j.toNat)) (.int 10) (.int 50) H Q := s_p10 (n := 50) h
theorem s_p10_51 (h : Q (.int (10 ^ 51)) H) : rI CPow (fun i j => V.int (i ^ j.toNat)) (.int 10) (.int 51) H Q := s_p10 (n := 51) h
theorem s_p10_58 (h : Q (.int (10 ^ 58)) H) : rI CPow (fun i j => V.int (i ^ j.toNat)) (.int 10) (.int 58) H Q := s_p10 (n := 58) h
theorem s_p10_59 (h : Q (.int (10 ^ 59)) H) : rI CPow (fun i j => V.int (i ^ j.toNat)) (.int 10) (.int 59) H Q := s_p10 (n := 59) h
theorem s_p10_60 (h : Q (.int (10 ^ 60)) H) : rI CPow (fun i j => V.int (i ^ j.toNat)) (.int 10) (.int 60) H Q := s_p10 (n := 60) h
theorem s_pow7 (ha : a.natAbs < 2 ^ 64) (h : Q (.int (a ^ 7)) H) : rI CPow (fun i j => V.int (i ^ j.toNat)) (.int a) (.int 7) H Q := s_pow (n := 7) rfl (by decide) ha h
theorem s_pickN {K : PySem.W.Frag} {p : Addr} {n : Int} {P : Int → Prop} (ns : List Int) (hp : H p = some (.lst (ns.map V.int))) (hn : 0 ≤ n ∧ n < ns.length) (ha : ∀ z ∈ ns, P z) (h : ∀ z, P z → Q (.int z) H) : rIx K (.ref p) (.int n) H Q := by
  obtain ⟨k, rfl⟩ := Int.eq_ofNat_of_zero_le hn.1
  have hk : k < ns.length := by omega
  exact s_ixL (SqL.of hp) (atI_nat (j := k) (v := .int ns[k]) (by rw [List.getElem?_map, List.getElem?_eq_getElem hk]; rfl)) (h _ (ha _ (List.getElem_mem hk)))
theorem s_pick2 {K : PySem.W.Frag} {p : Addr} {n : Int} {P : Int → Prop} (hp : H p = some (.lst [.int a, .int b])) (hn : 0 ≤ n ∧ n < 2) (ha : P a) (hb : P b) (h : ∀ z, P z → Q (.int z) H) : rIx K (.ref p) (.int n) H Q := by
  have e : n = 0 ∨ n = 1 := by omega
  rcases e with rfl | rfl
  · exact s_ixL (SqL.of hp) (atI_nat (j := 0) rfl) (h a ha)
  · exact s_ixL (SqL.of hp) (atI_nat (j := 1) rfl) (h b hb)
theorem s_andJ {b c : Bool} (hc : ∀ Q' : VK, Q' (.bl c) H → tb σ H Q') (h : Q (.bl (b && c)) H) : if b = true then tb σ H Q else Q (.bl false) H := by
  cases b
  · exact s_iteF h
  · exact s_iteT (hc _ h)
theorem s_orJ {b c : Bool} (hc : ∀ Q' : VK, Q' (.bl c) H → tb σ H Q') (h : Q (.bl (b || c)) H) : if b = true then Q (.bl true) H else tb σ H Q := by
  cases b
  · exact s_iteF (hc _ h)
  · exact s_iteT h
theorem s_blT {p : Prop} [Decidable p] (hp : p) (h : Q (.bl true) H) : Q (.bl (decide p)) H := by rw [decide_eq_true hp]; exact h
theorem s_blF {p : Prop} [Decidable p] (hp : ¬p) (h : Q (.bl false) H) : Q (.bl (decide p)) H := by rw [decide_eq_false hp]; exact h
theorem s_sl {r : V → Option Int → Option Int → Hp → VK → Prop} {tlo thi : TO} (h : te σ H fun x H1 => tlo σ H1 fun l H2 => thi σ H2 fun u H3 => r x l u H3 Q) : L2.tSl r te tlo thi σ H Q := h
theorem s_nopart {QO : Option Int → Hp → Prop} (h : QO none H) : tNoPart σ H QO := h
theorem s_part {QO : Option Int → Hp → Prop} (h : te σ H fun x H1 => ∃ i, x = .int i ∧ QO (some i) H1) : tPart te σ H QO := h
theorem s_int_ {P : Int → Prop} (h : P a) : ∃ i, V.int a = .int i ∧ P i := ⟨a, rfl, h⟩
theorem s_slL {K : PySem.W.Frag} {p : Addr} {xs : List V} {lo hi : Option Int} (hs : SqL K H p xs) (h : ∀ l, H l = none → Q (.ref l) (upd H l (.lst (cutV xs lo hi)))) : rSlL K (.ref p) lo hi H Q := ⟨p, xs, rfl, hs, h⟩
theorem s_for {wi : TI} {tb : TS} (h : wi σ H fun J H1 => ∃ W : Nat → Nat → L2.St → Hp → Prop, (∃ m, W 0 m σ H1) ∧ ∀ i m σ H, W i m σ H →
  (J.stop i H ∧ D.nx σ H) ∨ (J.go i H ∧ ∃ N : L2.St → Hp → Prop, (∀ σ' H', N σ' H' → ∃ m', m' < m ∧ W (i + 1) m' σ' H') ∧ ∀ x H', J.yld i H x H' → g x σ H' fun σ2 H2 => tb { D with nx := N, ct := N, bk := D.nx } σ2 H2)) : tFor wi g tb D σ H := h
theorem s_ilist {K : PySem.W.Frag} {RI : It → Hp → Prop} (h : te σ H fun x H1 => ∃ a, x = .ref a ∧ (∃ xs, SqL K H1 a xs) ∧ RI (Itl K a) H1) : iList K te σ H RI := h
theorem s_itup {K : PySem.W.Frag} {RI : It → Hp → Prop} (h : te σ H fun x H1 => ∃ a, x = .ref a ∧ (∃ xs, SqT K H1 a xs) ∧ RI (Itt K a) H1) : iTup K te σ H RI := h
theorem s_ref_ {p : Addr} {P : Addr → Prop} (h : P p) : ∃ i, V.ref p = .ref i ∧ P i := ⟨p, rfl, h⟩
theorem s_join (P : L2.St → Hp → Prop) (h1 : ∀ σ' H', P σ' H' → D.nx σ' H') (h2 : ∀ N : L2.St → Hp → Prop, (∀ σ' H', P σ' H' → N σ' H') → tIfS c t u { D with nx := N } σ H) : tIfS c t u D σ H := h2 D.nx h1
theorem s_yes (h : QB true H) : tYes σ H QB := h
theorem s_gtup {K : PySem.W.Frag} {n : Nat} {t : TGs} {p : Addr} {xs : List V} (h1 : SqT K H p xs) (h2 : xs.length = n) (h : t xs σ H QS) : gTup K n t (.ref p) σ H QS := ⟨p, xs, rfl, h1, h2, h⟩
theorem s_gcons {t : TG} {u : TGs} {r : List V} (h : t v σ H fun σ' H' => u r σ' H' QS) : gCons t u (v :: r) σ H QS := ⟨v, r, rfl, h⟩
theorem s_gnil (h : QS σ H) : gNil [] σ H QS := ⟨rfl, h⟩
theorem s_append {p : Addr} {xs : List V} (hp : H p = some (.lst xs)) (hl : xs.length < sizeLine) (h : Q .non (upd H p (.lst (xs ++ [x])))) : rAppend (.ref p) [x] H Q := ⟨p, xs, x, rfl, rfl, hp, hl, h⟩
theorem s_tyL {K : PySem.W.Frag} {p : Addr} {xs : List V} (hp : H p = some (.lst xs)) : tyV K "list" (.ref p) H := Or.inl ⟨rfl, _, Or.inl (Or.inl hp)⟩
theorem s_bm {K : PySem.W.Frag} {T : String} {r : V → List V → Hp → VK → Prop} (h : ta σ H fun x H1 => tyV K T x H1 ∧ tl σ H1 fun xs H2 => r x xs H2 Q) : tBM K T r ta tl σ H Q := h
end
/-! rules by name -/
def rAbs : List V → Hp → VK → Prop := fun xs H Q => ∃ i, xs = [.int i] ∧ Q (.int (if i < 0 then -i else i)) H
def rMax2 : List V → Hp → VK → Prop := fun xs H Q => ∃ i j, xs = [.int i, .int j] ∧ Q (.int (if j > i then j else i)) H
def rMin2 : List V → Hp → VK → Prop := fun xs H Q => ∃ i j, xs = [.int i, .int j] ∧ Q (.int (if j < i then j else i)) H
def rLenS (K : PySem.W.Frag) : List V → Hp → VK → Prop := fun xs H Q => ∃ p ys, xs = [.ref p] ∧ (SqL K H p ys ∨ SqT K H p ys) ∧ Q (.int ys.length) H
def rTupOf (K : PySem.W.Frag) : List V → Hp → VK → Prop := fun xs H Q => ∃ p ys, xs = [.ref p] ∧ ((SqL K H p ys ∧ ∀ l, H l = none → Q (.ref l) (upd H l (.tup ys))) ∨ (SqT K H p ys ∧ Q (.ref p) H))
def rLstOf (K : PySem.W.Frag) : List V → Hp → VK → Prop := fun xs H Q => ∃ p ys, xs = [.ref p] ∧ (SqL K H p ys ∨ SqT K H p ys) ∧ ∀ l, H l = none → Q (.ref l) (upd H l (.lst ys))
def rInt1 : List V → Hp → VK → Prop := fun xs H Q => (∃ i, xs = [.int i] ∧ Q (.int i) H) ∨ ∃ k, xs = [.bl k] ∧ Q (.int (if k then 1 else 0)) H
def rIns : V → List V → Hp → VK → Prop := fun x vs H Q => ∃ (l : Addr) (xs : List V) (i : Int) (y : V), x = .ref l ∧ vs = [.int i, y] ∧ H l = some (.lst xs) ∧ xs.length < sizeLine ∧ 0 ≤ i ∧ i < 2 ^ 63 ∧ Q .non (upd H l (.lst (xs.take i.toNat ++ [y] ++ xs.drop i.toNat)))
section
variable {X : Cx}
theorem mtIns : MtR X "list.insert" rIns := mt_insert
theorem callInt1 : CallR X (.type "int") rInt1 := call_int1
theorem callAbs : CallR X (.builtin "abs") rAbs := call_abs
theorem callMax2 (hc : X.calm = true) : CallR X (.builtin "max") rMax2 := call_max2 hc
theorem callMin2 (hc : X.calm = true) : CallR X (.builtin "min") rMin2 := call_min2 hc
theorem callLen : CallR X (.builtin "len") (rLenS X.K) := call_len_seq
theorem callTup : CallR X (.type "tuple") (rTupOf X.K) := call_tuple_of
theorem callLst : CallR X (.type "list") (rLstOf X.K) := call_list_of
end
section
variable {H : Hp} {Q : VK} {a b : Int} {K : PySem.W.Frag} {p : Addr} {xs : List V}
theorem s_intB {k : Bool} (h : Q (.int (if k then 1 else 0)) H) : rInt1 [.bl k] H Q := .inr ⟨k, rfl, h⟩
theorem s_abs (h : Q (.int (if a < 0 then -a else a)) H) : rAbs [.int a] H Q := ⟨a, rfl, h⟩
theorem s_max (h : Q (.int (if b > a then b else a)) H) : rMax2 [.int a, .int b] H Q := ⟨a, b, rfl, h⟩
theorem s_min (h : Q (.int (if b < a then b else a)) H) : rMin2 [.int a, .int b] H Q := ⟨a, b, rfl, h⟩
theorem s_ins0 {y : V} (hp : H p = some (.lst xs)) (hl : xs.length < sizeLine) (h : Q .non (upd H p (.lst (y :: xs)))) : rIns (.ref p) [.int 0, y] H Q := ⟨p, xs, 0, y, rfl, rfl, hp, hl, by decide, by decide, h⟩
theorem s_lenL (hs : SqL K H p xs) (h : Q (.int xs.length) H) : rLenS K [.ref p] H Q := ⟨p, xs, rfl, .inl hs, h⟩
theorem s_lenT (hs : SqT K H p xs) (h : Q (.int xs.length) H) : rLenS K [.ref p] H Q := ⟨p, xs, rfl, .inr hs, h⟩
theorem s_tupL (hs : SqL K H p xs) (h : ∀ l, H l = none → Q (.ref l) (upd H l (.tup xs))) : rTupOf K [.ref p] H Q := ⟨p, xs, rfl, .inl ⟨hs, h⟩⟩
theorem s_lstL (hs : SqL K H p xs) (h : ∀ l, H l = none → Q (.ref l) (upd H l (.lst xs))) : rLstOf K [.ref p] H Q := ⟨p, xs, rfl, .inl hs, h⟩
theorem s_lstT (hs : SqT K H p xs) (h : ∀ l, H l = none → Q (.ref l) (upd H l (.lst xs))) : rLstOf K [.ref p] H Q := ⟨p, xs, rfl, .inr hs, h⟩
end
/-! heaps -/
theorem same_upd {H : Hp} {p : Addr} {o : HO} (h : H p = none) : Same H (upd H p o) := fun b u e => by rw [upd_ne (ne_of_none e h)]; exact e
theorem same_upd' {H H' : Hp} {p : Addr} {o : HO} (s : Same H H') (h : H p = none) : Same H (upd H' p o) := fun b u e => by rw [upd_ne (ne_of_none e h)]; exact s b u e
theorem same_new {H H' : Hp} {p : Addr} {o : HO} (s : Same H H') (h : H' p = none) : Same H (upd H' p o) := s.trans (same_upd h)
theorem Same.none {H H' : Hp} (s : Same H H') {p : Addr} (h : H' p = none) : H p = none := s.free h
theorem atI0 {α : Type} {xs : List α} {v : α} {n : Int} (k : Nat) (hn : n = k) (h : xs[k]? = some v) : atI xs n = some v := by subst hn; exact atI_nat h
theorem cutV_mem {xs : List V} {lo hi : Option Int} {x : V} (h : x ∈ cutV xs lo hi) : x ∈ xs := List.mem_of_mem_drop (List.mem_of_mem_take h)
theorem get_mem {xs : List V} {i : Nat} {x : V} (h : xs[i]? = some x) : x ∈ xs := List.mem_of_getElem? h
theorem of_mem_ints {ns : List Int} {x : V} (h : x ∈ ns.map V.int) : ∃ c, x = .int c ∧ c ∈ ns := by
  obtain ⟨c, h1, h2⟩ := List.mem_map.mp h
  exact ⟨c, h2.symm, h1⟩
section
variable {H : Hp} {Q : VK} {K : PySem.W.Frag} {p : Addr} {xs : List V}
theorem mkT (hl : xs.length ≤ 1000) (h : ∀ p H', H p = none → H' p = some (.tup xs) → Same H H' → Q (.ref p) H') : MkT Q xs H := ⟨len_le hl, fun p hp => h p _ hp upd_same (same_upd hp)⟩
theorem mkL (hl : xs.length ≤ 1000) (h : ∀ p H', H p = none → H' p = some (.lst xs) → Same H H' → Q (.ref p) H') : MkL Q xs H := ⟨len_le hl, fun p hp => h p _ hp upd_same (same_upd hp)⟩
theorem mkCat {q : Addr} {zs : List V} (h1 : H p = some (.lst xs)) (h2 : H q = some (.lst zs)) (hl : xs.length + zs.length ≤ 1000) (h : ∀ l H', H l = none → H' l = some (.lst (xs ++ zs)) → Same H H' → Q (.ref l) H') : rCat (.ref p) (.ref q) H Q := ⟨p, q, xs, zs, rfl, rfl, h1, h2, Nat.le_trans hl (Nat.le_of_lt (small1000 (Nat.le_refl _))), fun l hl => h l _ hl upd_same (same_upd hl)⟩
theorem mkSlT {lo hi : Option Int} (hs : SqT K H p xs) (hn : ¬ (HT.sIx xs.length 0 lo = 0 ∧ HT.sIx xs.length xs.length hi = xs.length)) (h : ∀ l H', H l = none → H' l = some (.tup (cutV xs lo hi)) → Same H H' → Q (.ref l) H') : rSlT K (.ref p) lo hi H Q := ⟨p, xs, rfl, hs, hn, fun l hl => h l _ hl upd_same (same_upd hl)⟩
theorem mkSl {lo hi : Option Int} (hs : SqL K H p xs) (h : ∀ l H', H l = none → H' l = some (.lst (cutV xs lo hi)) → Same H H' → Q (.ref l) H') : rSlL K (.ref p) lo hi H Q := s_slL hs fun l hl => h l _ hl upd_same (same_upd hl)
end
theorem s_eqD {K : PySem.W.Frag} {H : Hp} {Q : VK} {x y : V} (d e : PyData) (hd : Dp K H x d) (he : Dp K H y e) (h1 : SeqAt.shaped d = true) (h2 : SeqAt.shaped e = true) (h : Q (.bl (PyData.eqv d e)) H) : rEqD K x y H Q := ⟨d, e, hd, he, h1, h2, h⟩
theorem s_neD {K : PySem.W.Frag} {H : Hp} {Q : VK} {x y : V} (d e : PyData) (hd : Dp K H x d) (he : Dp K H y e) (h1 : SeqAt.shaped d = true) (h2 : SeqAt.shaped e = true) (h : Q (.bl (!PyData.eqv d e)) H) : rNeD K x y H Q := ⟨d, e, hd, he, h1, h2, h⟩
theorem dp_tup1 {K : PySem.W.Frag} {H : Hp} {p : Addr} {a : Int} (h : H p = some (.tup [.int a])) : Dp K H (.ref p) (.tuple [.int a]) := .tup (SqT.of h) (.cons (.int a) .nil)
theorem dp_tup2 {K : PySem.W.Frag} {H : Hp} {p : Addr} {a b : Int} (h : H p = some (.tup [.int a, .int b])) : Dp K H (.ref p) (.tuple [.int a, .int b]) := .tup (SqT.of h) (.cons (.int a) (.cons (.int b) .nil))
theorem atI_neg1 {α : Type} {xs : List α} {v : α} (h : xs.getLast? = some v) : atI xs (-1) = some v := by
  rcases List.eq_nil_or_concat xs with e | ⟨ys, y, e⟩
  · subst e; simp at h
  · rw [List.concat_eq_append] at e
    subst e
    rw [List.getLast?_concat] at h
    cases h
    exact atI_last ys v
/-! all stands but what lies at one place -/
def SameB (p : Addr) (H H' : Hp) : Prop := ∀ b o, b ≠ p → H b = some o → H' b = some o
theorem SameB.refl (p : Addr) (H : Hp) : SameB p H H := fun _ _ _ h => h
theorem SameB.trans {p : Addr} {H H1 H2 : Hp} (a : SameB p H H1) (b : SameB p H1 H2) : SameB p H H2 := fun c o n h => b c o n (a c o n h)
theorem SameB.of {p : Addr} {H H1 : Hp} (a : Same H H1) : SameB p H H1 := fun c o _ h => a c o h
theorem SameB.put {p : Addr} {H : Hp} {o : HO} : SameB p H (upd H p o) := fun c u n h => by rw [upd_ne n]; exact h
theorem SameB.same {p : Addr} {H H1 H2 : Hp} (n : H p = none) (a : SameB p H1 H2) (s : Same H H1) : Same H H2 := fun c o h => a c o (ne_of_none h n) (s c o h)
theorem SameB.updn {p l : Addr} {H H' : Hp} {o : HO} (h : SameB p H H') (n : H l = none) : SameB p H (upd H' l o) := fun b u hb e => by rw [upd_ne (ne_of_none e n)]; exact h b u hb e
theorem ixN_nat {n d : Nat} (h : d < n) : ixN n (d : Int) = some d := by
  unfold ixN
  rw [if_pos (by omega), if_pos (by omega)]; simp
/-! ranges -/
section
variable {H : Hp} {σ : L2.St} {ta : TA} {RI : It → Hp → Prop}
def RngQ1 (RI : It → Hp → Prop) (vs : List V) (H : Hp) : Prop := ∃ j : Int, vs = [.int j] ∧ -(2 ^ 62) ≤ j ∧ j < 2 ^ 62 ∧ RI (Itr 0 j.toNat) H
def RngQ2 (RI : It → Hp → Prop) (vs : List V) (H : Hp) : Prop := ∃ i j : Int, vs = [.int i, .int j] ∧ (-(2 ^ 62) ≤ i ∧ i < 2 ^ 62 ∧ -(2 ^ 62) ≤ j ∧ j < 2 ^ 62) ∧ RI (Itr i (j - i).toNat) H
theorem s_rng1 (h : ta σ H fun vs H1 => RngQ1 RI vs H1) : iRng1 ta σ H RI := h
theorem s_rng2 (h : ta σ H fun vs H1 => RngQ2 RI vs H1) : iRng2 ta σ H RI := h
theorem mkR1 {j : Int} (n : Nat) (e : j.toNat = n) (h1 : -(2 ^ 62) ≤ j) (h2 : j < 2 ^ 62) (h : RI (Itr 0 n) H) : RngQ1 RI [.int j] H := ⟨j, rfl, h1, h2, by rw [e]; exact h⟩
theorem mkR2 {i j : Int} (n : Nat) (e : (j - i).toNat = n) (h1 : -(2 ^ 62) ≤ i ∧ i < 2 ^ 62 ∧ -(2 ^ 62) ≤ j ∧ j < 2 ^ 62) (h : RI (Itr i n) H) : RngQ2 RI [.int i, .int j] H := ⟨i, j, rfl, h1, by rw [e]; exact h⟩
end
section
variable {to ti : TE} {t : TSet} {v : V} {σ : L2.St} {H : Hp} {QS : L2.St → Hp → Prop} {p : Addr} {xs : List V} {k : Int} {QH : Hp → Prop}
theorem s_gsub (h : to σ H fun o H1 => ti σ H1 fun i H2 => t o i v H2 fun H3 => QS σ H3) : gSub to ti t v σ H QS := h
theorem s_setL (j : Nat) (hp : H p = some (.lst xs)) (hj : ixN xs.length k = some j) (h : QH (upd H p (.lst (xs.set j v)))) : rSetL (.ref p) (.int k) v H QH := ⟨p, xs, k, j, rfl, rfl, hp, hj, h⟩
end
/-! dicts -/
section
variable {H : Hp} {Q : VK} {p : Addr} {kvs : List (Key × V)} {k : Key} {v : V} {td ty tv : TE} {σ : L2.St} {D : Ends}
def DGetQ (Q : VK) (x y : V) (H : Hp) : Prop := ∃ a v, x = .ref a ∧ DGet H a y (some v) ∧ Q v H
theorem s_dget (h : td σ H fun x H1 => ty σ H1 fun y H2 => DGetQ Q x y H2) : tDGet td ty σ H Q := h
theorem s_dgetS {x : Str} (hd : H p = some (.dK kvs)) (hv : valV kvs (.inr x) = some v) (h : Q v H) : DGetQ Q (.ref p) (.str x) H := ⟨p, v, rfl, by rw [← hv]; exact DGet.k (k := .inr x) hd, h⟩
theorem s_dgetI {i : Int} (hd : H p = some (.dK kvs)) (hv : valV kvs (.inl i) = some v) (h : Q v H) : DGetQ Q (.ref p) (.int i) H := ⟨p, v, rfl, by rw [← hv]; exact DGet.k (k := .inl i) hd, h⟩
def DispQ (Q : VK) (p : Addr) (ps : List (V × V)) (H2 : Hp) : Prop := H2 p = some (.dK []) ∧ ∃ kvs : List (Key × V), ps = kvs.map (fun kv => (kV kv.1, kv.2)) ∧ kvs.length ≤ 15 ∧ Q (.ref p) (upd H2 p (.dK (mergeK [] kvs)))
theorem s_disp {trs : List (TE × TE)} (h : ∀ p H1, H p = none → H1 p = some (.dK []) → Same H H1 → tPairs trs σ H1 fun ps H2 => DispQ Q p ps H2) : tDisp trs σ H Q := fun p hp => h p _ hp upd_same (same_upd hp)
theorem s_pn {QP : List (V × V) → Hp → Prop} (h : QP [] H) : tPairs [] σ H QP := h
theorem s_pc {tk : TE} {r : List (TE × TE)} {QP : List (V × V) → Hp → Prop} (h : tk σ H fun x H1 => tv σ H1 fun y H2 => tPairs r σ H2 fun ps H3 => QP ((x, y) :: ps) H3) : tPairs ((tk, tv) :: r) σ H QP := h
theorem mkDisp {ps : List (V × V)} (kvs : List (Key × V)) (hd : H p = some (.dK [])) (e : ps = kvs.map (fun kv => (kV kv.1, kv.2))) (hl : kvs.length ≤ 15) (h : ∀ H', H' p = some (.dK (mergeK [] kvs)) → (∀ H0, H0 p = none → Same H0 H → Same H0 H') → Q (.ref p) H') : DispQ Q p ps H :=
  ⟨hd, kvs, e, hl, h _ upd_same fun H0 n s => same_upd' s n⟩
def DPutQ (P : Hp → Prop) (x y v : V) (H3 : Hp) : Prop := ∃ a H4, x = .ref a ∧ DPut H3 a y v H4 ∧ P H4
theorem s_dput (h : tv σ H fun v H1 => td σ H1 fun x H2 => ty σ H2 fun y H3 => DPutQ (D.nx σ) x y v H3) : sDPut td ty tv D σ H := h
theorem s_dputS {P : Hp → Prop} {x : Str} (hd : H p = some (.dK kvs)) (hl : kvs.length < sizeLine) (h : P (upd H p (.dK (putK kvs (.inr x) v)))) : DPutQ P (.ref p) (.str x) v H := ⟨p, _, rfl, DPut.k (k := .inr x) hd hl, h⟩
theorem s_dputI {P : Hp → Prop} {i : Int} (hd : H p = some (.dK kvs)) (hl : kvs.length < sizeLine) (h : P (upd H p (.dK (putK kvs (.inl i) v)))) : DPutQ P (.ref p) (.int i) v H := ⟨p, _, rfl, DPut.k (k := .inl i) hd hl, h⟩
end
mutual
theorem eqv_refl : ∀ d : PyData, PyData.canLay0 d = true → PyData.eqv d d = true
  | .none, _ => by simp [PyData.eqv]
  | .bool b, _ => by simp [PyData.eqv]
  | .int i, _ => by simp [PyData.eqv]
  | .str x, _ => by simp [PyData.eqv]
  | .list xs, h => by simp only [PyData.eqv]; exact eqv_refls xs (by simpa [PyData.canLay0] using h)
  | .tuple xs, h => by simp only [PyData.eqv]; exact eqv_refls xs (by simpa [PyData.canLay0] using h)
  | .dict _, h => by simp [PyData.canLay0] at h
theorem eqv_refls : ∀ ds : List PyData, PyData.canLayAll0 ds = true → PyData.eqvAll ds ds = true
  | [], _ => by simp [PyData.eqvAll]
  | d :: ds, h => by
    simp only [PyData.canLayAll0, Bool.and_eq_true] at h
    simp only [PyData.eqvAll, Bool.and_eq_true]
    exact ⟨eqv_refl d h.1, eqv_refls ds h.2⟩
end
theorem layAll {ds : List PyData} (h : ∀ d ∈ ds, PyData.canLay0 d = true) : PyData.canLayAll0 ds = true := by
  induction ds with
  | nil => simp [PyData.canLayAll0]
  | cons d ds ih =>
    simp only [PyData.canLayAll0, Bool.and_eq_true]
    exact ⟨h d (by simp), ih fun e he => h e (by simp [he])⟩
theorem depAll {ds : List PyData} {n : Nat} (h : ∀ d ∈ ds, PyData.depth d ≤ n) : PyData.depthAll ds ≤ n := by
  induction ds with
  | nil => simp [PyData.depthAll]
  | cons d ds ih =>
    simp only [PyData.depthAll]
    exact Nat.max_le.mpr ⟨h d (by simp), ih fun e he => h e (by simp [he])⟩
theorem shapedL {ds : List PyData} (h : ∀ d ∈ ds, PyData.canLay0 d = true ∧ PyData.depth d ≤ 63) : SeqAt.shaped (.list ds) = true := by
  unfold SeqAt.shaped
  simp only [PyData.canLay0, PyData.depth, Bool.and_eq_true]
  exact ⟨layAll fun d hd => (h d hd).1, decide_eq_true (Nat.succ_le_succ (depAll fun d hd => (h d hd).2))⟩
theorem shapedT {ds : List PyData} (h : ∀ d ∈ ds, PyData.canLay0 d = true ∧ PyData.depth d ≤ 63) : SeqAt.shaped (.tuple ds) = true := by
  unfold SeqAt.shaped
  simp only [PyData.canLay0, PyData.depth, Bool.and_eq_true]
  exact ⟨layAll fun d hd => (h d hd).1, decide_eq_true (Nat.succ_le_succ (depAll fun d hd => (h d hd).2))⟩
theorem eqv_shaped {d : PyData} (h : SeqAt.shaped d = true) : PyData.eqv d d = true := eqv_refl d (SeqAt.canLay_of_shaped h)
theorem in_ints (a : Int) (ns : List Int) : inV (.int a) (ns.map V.int) = decide (a ∈ ns) := by
  unfold inV
  induction ns with
  | nil => simp
  | cons n ns ih =>
    rw [List.map_cons, List.any_cons, ih]
    simp only [eqV, List.mem_cons]
    by_cases h : a = n
    · subst h; simp
    · simp [h, Ne.symm h]
theorem flat_ints (ns : List Int) : (ns.map V.int).all flatV = true := by simp [flatV]
theorem s_inL {K : PySem.W.Frag} {H : Hp} {Q : VK} {p : Addr} {a : Int} {ns : List Int} (hp : H p = some (.lst (ns.map V.int))) (h : Q (.bl (decide (a ∈ ns))) H) : rIn K false (.int a) (.ref p) H Q :=
  ⟨p, ns.map V.int, rfl, .inl (SqL.of hp), rfl, flat_ints ns, by rw [if_neg Bool.false_ne_true, in_ints]; exact h⟩
theorem s_notInL {K : PySem.W.Frag} {H : Hp} {Q : VK} {p : Addr} {a : Int} {ns : List Int} (hp : H p = some (.lst (ns.map V.int))) (h : Q (.bl (!decide (a ∈ ns))) H) : rIn K true (.int a) (.ref p) H Q :=
  ⟨p, ns.map V.int, rfl, .inl (SqL.of hp), rfl, flat_ints ns, by rw [if_pos rfl, in_ints]; exact h⟩
theorem paired_mono {α β : Type} {F G : α → β → Prop} (h : ∀ a b, F a b → G a b) : ∀ {xs : List α} {ys : List β}, Paired F xs ys → Paired G xs ys
  | _, _, .nil => .nil
  | _, _, .cons f r => .cons (h _ _ f) (paired_mono h r)
theorem paired_take {α β : Type} {F : α → β → Prop} : ∀ {xs : List α} {ys : List β} (n : Nat), Paired F xs ys → Paired F (xs.take n) (ys.take n)
  | _, _, 0, _ => by simp; exact .nil
  | _, _, _ + 1, .nil => .nil
  | _, _, n + 1, .cons f r => .cons f (paired_take n r)
theorem s_isiT2 {K : PySem.W.Frag} {H : Hp} {Q : VK} {x : V} {tp : Addr} {a b1 b2 : String} {r1 r2 : Bool} (ht : H tp = some (.tup [.ty b1, .ty b2])) (tx : TyOf K H x (.type a)) (k1 : kitB a b1 = some r1) (k2 : kitB a b2 = some r2) (h : Q (.bl (r1 || r2)) H) : rIsiT K [x, .ref tp] H Q :=
  ⟨x, tp, [.ty b1, .ty b2], .type a, [.type b1, .type b2], r1 || r2, rfl, ht, .cons (.ty b1) (.cons (.ty b2) .nil), .base tx,
    kitAny_cons (kit_ty k1) (fun e => kitAny_cons (kit_ty k2) (fun e2 => by rw [e, e2]; exact kitAny_nil) (fun e2 => by rw [e2]; simp)) (fun e => by rw [e]; rfl), h⟩
theorem s_isiT2F {K : PySem.W.Frag} {H : Hp} {Q : VK} {x : V} {tp : Addr} {a b1 b2 : String} (ht : H tp = some (.tup [.ty b1, .ty b2])) (tx : TyOf K H x (.type a)) (k1 : kitB a b1 = some false) (k2 : kitB a b2 = some false) (h : Q (.bl false) H) : rIsiT K [x, .ref tp] H Q := s_isiT2 ht tx k1 k2 h
theorem kb_nl : kitB "NoneType" "list" = some false := by decide +kernel
theorem kb_nt : kitB "NoneType" "tuple" = some false := by decide +kernel
theorem kb_nb : kitB "NoneType" "bool" = some false := by decide +kernel
theorem kb_il : kitB "int" "list" = some false := by decide +kernel
theorem kb_it : kitB "int" "tuple" = some false := by decide +kernel
theorem kb_bl : kitB "bool" "list" = some false := by decide +kernel
theorem kb_bt : kitB "bool" "tuple" = some false := by decide +kernel
theorem lookup1 {f : Str} {v : V} : List.lookup f [(f, v)] = some v := by simp [List.lookup]
theorem s_xf {a C d : Addr} {f : Str} {v : V} {i : Nat} {σ : L2.St} {H : Hp} {Q : VK} (e : σ[i]? = some (some (.ref a))) (hx : H d = some (.xd [(f, v)])) (h : Q v H) : tXf a (.ref C) (some d) C f (tVar i) σ H Q := ⟨_, e, rfl, rfl, d, _, v, rfl, hx, lookup1, h⟩
/-- a list (or tuple) of tuples -/
abbrev TupsIn (H : Hp) : List V → List (List V) → Prop := Paired fun (x : V) (r : List V) => ∃ t, x = .ref t ∧ H t = some (.tup r)
theorem TupsIn.same {H H' : Hp} (s : Same H H') : ∀ {xs : List V} {rs : List (List V)}, TupsIn H xs rs → TupsIn H' xs rs
  | _, _, .nil => .nil
  | _, _, .cons ⟨t, e, h⟩ r => .cons ⟨t, e, s _ _ h⟩ (TupsIn.same s r)
theorem TupsIn.upd {H : Hp} {p : Addr} {o : HO} {zs : List V} (hp : H p = some (.lst zs)) : ∀ {xs : List V} {rs : List (List V)}, TupsIn H xs rs → TupsIn (L2.upd H p o) xs rs
  | _, _, .nil => .nil
  | _, _, .cons ⟨t, e, h⟩ r => .cons ⟨t, e, by rw [upd_ne (fun z => by rw [z, hp] at h; cases h)]; exact h⟩ (TupsIn.upd hp r)
theorem paired_snoc {α β : Type} {F : α → β → Prop} {x : α} {y : β} : ∀ {xs : List α} {ys : List β}, Paired F xs ys → F x y → Paired F (xs ++ [x]) (ys ++ [y])
  | _, _, .nil, f => .cons f .nil
  | _, _, .cons a r, f => .cons a (paired_snoc r f)
theorem paired_set {α β : Type} {F : α → β → Prop} {x : α} {y : β} : ∀ {xs : List α} {ys : List β} (j : Nat), Paired F xs ys → F x y → Paired F (xs.set j x) (ys.set j y)
  | _, _, _, .nil, _ => .nil
  | _, _, 0, .cons _ r, f => .cons f r
  | _, _, j + 1, .cons a r, f => .cons a (paired_set j r f)
theorem TupsIn.app {H H1 : Hp} {l t : Addr} {xs r : List V} {rs : List (List V)} (hl : H l = some (.lst xs)) (ht : TupsIn H xs rs) (s : Same H H1) (nt : H t = none) (et : H1 t = some (.tup r)) :
    TupsIn (L2.upd H1 l (.lst (xs ++ [.ref t]))) (xs ++ [.ref t]) (rs ++ [r]) :=
  paired_snoc (TupsIn.upd (s _ _ hl) (ht.same s)) ⟨t, rfl, by rw [upd_ne (ne_of_none hl nt).symm]; exact et⟩
theorem TupsIn.put {H H1 : Hp} {l t : Addr} {xs r : List V} {rs : List (List V)} (j : Nat) (hl : H l = some (.lst xs)) (ht : TupsIn H xs rs) (s : Same H H1) (nt : H t = none) (et : H1 t = some (.tup r)) :
    TupsIn (L2.upd H1 l (.lst (xs.set j (.ref t)))) (xs.set j (.ref t)) (rs.set j r) :=
  paired_set j (TupsIn.upd (s _ _ hl) (ht.same s)) ⟨t, rfl, by rw [upd_ne (ne_of_none hl nt).symm]; exact et⟩
theorem take_more {α : Type} {xs : List α} {i : Nat} {x : α} (h : xs[i]? = some x) : xs.take (i + 1) = xs.take i ++ [x] := by
  rw [List.take_succ, h]; rfl
theorem pget {α β : Type} {F : α → β → Prop} : ∀ {xs : List α} {ys : List β} {i : Nat} {x : α}, Paired F xs ys → xs[i]? = some x → ∃ y, ys[i]? = some y ∧ F x y
  | _, _, _, _, .nil, e => by simp at e
  | _, _, 0, _, .cons f _, e => by simp at e; subst e; exact ⟨_, rfl, f⟩
  | _, _, i + 1, x, .cons _ r, e => by
    obtain ⟨y, h1, h2⟩ := pget (i := i) r (by simpa using e)
    exact ⟨y, by simpa using h1, h2⟩
theorem pget' {α β : Type} {F : α → β → Prop} : ∀ {xs : List α} {ys : List β} {i : Nat} {y : β}, Paired F xs ys → ys[i]? = some y → ∃ x, xs[i]? = some x ∧ F x y
  | _, _, _, _, .nil, e => by simp at e
  | _, _, 0, _, .cons f _, e => by simp at e; subst e; exact ⟨_, rfl, f⟩
  | _, _, i + 1, x, .cons _ r, e => by
    obtain ⟨y, h1, h2⟩ := pget' (i := i) r (by simpa using e)
    exact ⟨y, by simpa using h1, h2⟩
theorem s_isN {H : Hp} {Q : VK} (h : Q (.bl true) H) : L2.rIsN .non .non H Q := ⟨rfl, by rw [decide_eq_true rfl]; exact h⟩
theorem s_isNi {H : Hp} {Q : VK} {i : Int} (h : Q (.bl false) H) : L2.rIsN (.int i) .non H Q := ⟨rfl, by rw [decide_eq_false (by intro z; cases z)]; exact h⟩
def RgQ (Q : VK) (x y : V) (H : Hp) : Prop := ∃ i j, x = .int i ∧ y = .int j ∧ RgOk i j ∧ ∀ q, H q = none → Q (.ref q) (upd H q (.lst (rgV i j)))
theorem s_bm0 {K : PySem.W.Frag} {T : String} {r : V → List V → Hp → VK → Prop} {ta : TE} {σ : L2.St} {H : Hp} {Q : VK} (h : ta σ H fun x H1 => tyV K T x H1 ∧ r x [] H1 Q) : tBM0 K T r ta σ H Q := h
theorem s_lrg2 {ta tb : TE} {σ : L2.St} {H : Hp} {Q : VK} (h : ta σ H fun x H1 => tb σ H1 fun y H2 => RgQ Q x y H2) : tLstRg (tRg2 ta tb) σ H Q := h
theorem s_lc {wi : TI} {g : TG} {tt : TT} {te : TE} {vs : List Nat} {σ : L2.St} {H : Hp} {Q : VK} (h : wi σ H fun J H1 => tLc (fun _ _ R => R J H1) g tt te vs σ H1 Q) : tLc wi g tt te vs σ H Q := h
theorem call_isiK (K : PySem.W.Frag) {X : Cx} (h : X.K = K) : CallR X (.builtin "isinstance") (rIsi K) := h ▸ call_isi
theorem ix_seqK (K : PySem.W.Frag) {X : Cx} (h : X.K = K) : IxR X (rIx K) := h ▸ ix_seq
theorem s_isNb {H : Hp} {Q : VK} {i : Bool} (h : Q (.bl false) H) : L2.rIsN (.bl i) .non H Q := ⟨rfl, by rw [decide_eq_false (by intro z; cases z)]; exact h⟩
theorem s_isNr {H : Hp} {Q : VK} {i : Addr} (h : Q (.bl false) H) : L2.rIsN (.ref i) .non H Q := ⟨rfl, by rw [decide_eq_false (by intro z; cases z)]; exact h⟩
theorem s_notN {H : Hp} {Q : VK} (h : Q (.bl false) H) : L2.rNotN .non .non H Q := ⟨rfl, by rw [decide_eq_true rfl]; exact h⟩
theorem s_notNi {H : Hp} {Q : VK} {i : Int} (h : Q (.bl true) H) : L2.rNotN (.int i) .non H Q := ⟨rfl, by rw [decide_eq_false (by intro z; cases z)]; exact h⟩
theorem s_notNr {H : Hp} {Q : VK} {i : Addr} (h : Q (.bl true) H) : L2.rNotN (.ref i) .non H Q := ⟨rfl, by rw [decide_eq_false (by intro z; cases z)]; exact h⟩
theorem fn_or {P : Program} {w : World} {K : PySem.W.Frag} {mg : Str → Option Value} {base : Heap} {CX : CXT} {k : Nat} {f : Addr} {fd : FuncData} {ps : List Str} {sp sp1 sp2 : Sp} (F1 : FnOk P w K mg base CX k f fd ps sp1) (F2 : FnOk P w K mg base CX k f fd ps sp2)
    (h : ∀ vs H Q E, sp vs H Q E → sp1 vs H Q E ∨ sp2 vs H Q E) : FnOk P w K mg base CX k f fd ps sp :=
  ⟨fun vs H Q E q => (h vs H Q E q).elim (F1.len vs H Q E) (F2.len vs H Q E), fun A outer s H args us vs Q E hr he hb hv hs => (h vs H Q E hs).elim (F1.run A outer s H args us vs Q E hr he hb hv) (F2.run A outer s H args us vs Q E hr he hb hv)⟩
/-! loops -/
section
variable {c : TT} {tb : TS} {D : Ends} {σ : L2.St} {H : Hp}
/-- the int in a slot -/
def iv (σ : L2.St) (i : Nat) : Int := match σ[i]? with
  | some (some (V.int r)) => r
  | _ => 0
def WW (Pv : L2.St → Hp → Prop) (μ : L2.St → Hp → Nat) : Nat → L2.St → Hp → Prop := fun m σ H => m = μ σ H ∧ Pv σ H
theorem s_while (Pv : L2.St → Hp → Prop) (μ : L2.St → Hp → Nat) (h0 : Pv σ H)
    (hs : ∀ σ H, Pv σ H → c σ H fun b H1 => if b = true then ∃ N : L2.St → Hp → Prop, (∀ σ' H', N σ' H' → ∃ m', m' < μ σ H ∧ WW Pv μ m' σ' H') ∧ tb { D with nx := N, ct := N, bk := D.nx } σ H1 else D.nx σ H1) : tWhile c tb D σ H :=
  ⟨WW Pv μ, ⟨_, rfl, h0⟩, fun m σ H ⟨e, p⟩ => by subst e; exact hs σ H p⟩
theorem s_turn {Pv : L2.St → Hp → Prop} {μ : L2.St → Hp → Nat} {m : Nat} (h : tb { D with nx := fun σ' H' => Pv σ' H' ∧ μ σ' H' < m, ct := fun σ' H' => Pv σ' H' ∧ μ σ' H' < m, bk := D.nx } σ H) :
    ∃ N : L2.St → Hp → Prop, (∀ σ' H', N σ' H' → ∃ m', m' < m ∧ WW Pv μ m' σ' H') ∧ tb { D with nx := N, ct := N, bk := D.nx } σ H := ⟨_, fun σ' H' p => ⟨_, p.2, rfl, p.1⟩, h⟩
end
/-! numbers -/
def CDivF (_ j : Int) : Prop := j ≠ 0 ∧ j.natAbs.log2 < 9000
section
variable {X : Cx}
theorem op_divF : OpR X (binaryOp .FloorDiv) (rI CDivF fun i j => .int (i.fdiv j)) := opI fun _ _ _ _ _ _ _ hc q => floordiv_int hc.1 q (.inl (PyProof.noPylong_of_log2 hc.2))
end
theorem divW {a j : Int} (h : 0 < j) (h2 : j.natAbs < 2 ^ 2000) : CDivW a j := wide_div h h2 (by decide) (by decide)
theorem divF {a j : Int} (h : j ≠ 0) (h2 : j.natAbs < 2 ^ 2000) : CDivF a j := ⟨h, Nat.lt_of_lt_of_le (PySem.Flt.log2_lt_of (by decide) h2) (by decide)⟩
theorem mulW {a b : Int} (h1 : a.natAbs < 2 ^ 2000) (h2 : b.natAbs < 2 ^ 2000) : CMulW a b := wide_mul h1 h2 (by decide) (by decide) (by decide)
/-- a law over a head by facts: its last step, the script's sizes told -/
theorem walk_ofEB {l : PySem.W.OpenLaw} {n k : Nat} {qv : Program} {ls : List Str} {XP : (Str → Option Value) → Heap → Prop} {YP : World → Heap → Prop} {dr : DefRec} {CX : World → CXT} {prm : Str}
    (hmost : l.most = some n) (hline : n ≤ sizeLine) (hnod : dr.params.defaults = []) (room : Room k callerA)
    (F : ∀ (w : World) (mg : Str → Option Value) (fa : Addr) (hp : Heap), YP w hp → hp.Ns mainGlobals mg → mg dr.name = some (.ref fa) →
      ∃ (Kf : PySem.W.Frag) (fdt : FuncData) (sp : Sp), Kf.In hp ∧ (∀ (s : Shared) (u : Value), BindsTo s fdt ⟨[u], []⟩ [(prm, u)]) ∧
        (∀ (H : Hp) (a : Addr) (ns : List Int), ns.length ≤ n → (∀ z ∈ ns, Builtin.Int.intBits z ≤ 1048576) → Only H → SqL Kf H a (ns.map V.int) → sp [.ref a] H (fun v _ => v = .bl true) fun _ _ _ => False) ∧
        ∀ base : Heap, Kf.In base → base.Ns mainGlobals mg → FnOk l.prog w Kf mg base (CX w) k fa fdt [prm] sp)
    (none_out : ∀ (w : World) (H : Hp) (s : Shared) (e : Value) (s' : Shared), CX w [] H s (fun _ _ _ => False) e s' → False) :
    PySem.W.WalkO qv ls XP YP l.row.toRowW dr [] (fun f vs => PySem.call f vs) := by
  refine Att.attach_callB hmost hnod fun w s₀ s₁ mg _ fa _ _ _ _ a _ ns G Y _ _ _ gN ob1 xis len bits run => ?_
  obtain ⟨Kf, fdt, sp, kin, bnd, last, fok⟩ := F w mg fa _ Y G.T.g gN
  exact law_call kin G.T.g G.T.b G.T.builtins G.T.nolimit run ob1 xis (Nat.le_trans len hline) room fok bnd (fun H only sq => last H a ns len bits only sq) fun H e s' => none_out w H s₁ e s'
theorem cx0_no {P : Program} (w : World) (H : Hp) (s : Shared) (e : Value) (s' : Shared) (h : CX0 [] H s (fun _ _ _ => False) e s') : False := h
/-! what the head tells: facts as tests of the written part, defs at any address -/
abbrev FB := PySem.W.Frag → Bool
def toldR (fb : List FB) (fn : List He5.DefA) (K : PySem.W.Frag) : He.AlD := ((fb.all fun t => t K) && (fn.all fun e => e.ok K), fn.map fun e => He5.fnA K (e.at_ K))
def dueR (fn : List He5.DefA) : He.AlD := (true, fn.map He5.DefA.val)
def Told (fb : List FB) (fn : List He5.DefA) (K : PySem.W.Frag) : Prop := toldR fb fn K = dueR fn
def toldG (n : Nat) (fb : List FB) (fn : List He5.DefA) (g : Addr → Option Obj) : He.AlD := toldR fb fn (He.frG g (He5.asA g n))
def hookR (n : Nat) (fb : List FB) (fn : List He5.DefA) : PySem.W.Hook where
  α := He.AlD
  obs := fun st => toldG n fb fn st.heap.get?
  val := fun _ => dueR fn
  says := fun _ hp => ∃ Kf : PySem.W.Frag, Kf.In hp ∧ Told fb fn Kf
  of := fun _ _ eq => ⟨_, He.frG_in, eq⟩
  keeps := fun _ _ _ ⟨Kf, hin, tl⟩ kp => ⟨Kf, PySem.W.Frag.In.keeps hin kp, tl⟩
theorem toldG_eq {n : Nat} {fb : List FB} {fn : List He5.DefA} {g : Addr → Option Obj} {st : Shared} (h : ∀ a, g a = st.heap.get? a) : toldG n fb fn g = (hookR n fb fn).obs st := by
  have eg : g = st.heap.get? := funext h
  rw [eg] <;> rfl
theorem Told.fact {fb : List FB} {fn : List He5.DefA} {K : PySem.W.Frag} (tl : Told fb fn K) (i : Nat) {t : FB} (h : fb[i]? = some t := by rfl) : t K = true := by
  have e0 : ((fb.all fun t => t K) && (fn.all fun e => e.ok K)) = true := congrArg Prod.fst tl
  exact List.all_eq_true.mp (Bool.and_eq_true_iff.mp e0).1 t (List.mem_of_getElem? h)
theorem Told.dfn {fb : List FB} {fn : List He5.DefA} {K : PySem.W.Frag} (tl : Told fb fn K) (i : Nat) {e : He5.DefA} (h : fn[i]? = some e := by rfl) : ∃ fd, FunD K e.name e.qual e.params e.body e.scope (e.dvs K) (e.kws K) (e.at_ K) fd := by
  have e0 : ((fb.all fun t => t K) && (fn.all fun e => e.ok K)) = true := congrArg Prod.fst tl
  have e1 : fn.map (fun e => He5.fnA K (e.at_ K)) = fn.map He5.DefA.val := congrArg Prod.snd tl
  have e2 := congrArg (fun l => l[i]?) e1
  simp only [List.getElem?_map, h, Option.map_some] at e2
  exact He5.DefA.funD (Option.some.inj e2) (List.all_eq_true.mp (Bool.and_eq_true_iff.mp e0).2 e (List.mem_of_getElem? h))
/-! own exception classes whose __init__ calls their base's and keeps one field -/
def oexB (C : Addr) : FB := fun K => (match K.lookup C with
  | some ⟨.type tn, _, .cls cd, sl⟩ => (match cd.mro, sl.toList with
    | .ref C' :: bm, [_, _, _, _, some (.builtin n), _] => decide (tn = "type") && (C' == C && (decide (n = "ValueError.__new__") && (!cd.hasDel && (cd.hasDict && PySem.HandSPX.refsVE bm))))
    | _, _ => false)
  | _ => false) && (decide (PySem.W.findIn K (.ref C) "__setattr__" = some (some (.builtin "object.__setattr__"))) && (decide (PySem.W.subIn K (.ref C) (.type "BaseException") = some true) && (decide (PySem.W.typeIn K (.ref C) = some (.type "type")) && PySem.W.keepIn K (.ref C))))
theorem oex_of {K : PySem.W.Frag} {C : Addr} (h : oexB C K = true) : OexC K C := by
  unfold oexB at h
  simp only [Bool.and_eq_true, decide_eq_true_eq] at h
  obtain ⟨h1, h2, h3, h4, h5⟩ := h
  refine ⟨?_, h2, h3, h4, h5⟩
  split at h1
  · rename_i tn dd cd sl ho
    split at h1
    · rename_i C' bm k0 k1 k2 k3 n k5 hm hs
      simp only [Bool.and_eq_true, beq_iff_eq, Bool.not_eq_true', decide_eq_true_eq] at h1
      obtain ⟨rfl, rfl, rfl, hdel, hdct, hr⟩ := h1
      obtain ⟨nm, bs, mro, ns, qn, hd, sn, sub, ab, col, del⟩ := cd
      dsimp only at hm hdel hdct
      subst hm hdel hdct
      have hsl : sl = #[k0, k1, k2, k3, some (.builtin "ValueError.__new__"), k5] := by
        obtain ⟨l⟩ := sl
        simp only at hs
        rw [hs]
      subst hsl
      exact ⟨nm, qn, ns, bs, bm, sn, sub, ab, col, dd, k0, k1, k2, k3, k5, ho, hr⟩
    · cases h1
  · cases h1
/-- the base P, whose __init__ is called through it -/
def baseB (C : Addr) : FB := fun K => PySem.W.readsIn K C (.type "type") && (decide (PySem.W.specialIn K (.ref C) "__getattribute__" = some (some (.builtin "type.__getattribute__"))) && (match PySem.W.findCls K (.ref C) (.type "type") "__init__" with
  | some (.val (.builtin n)) => decide (n = "ValueError.__init__")
  | _ => false))
structure BaseC (K : PySem.W.Frag) (C : Addr) : Prop where
  rd : PySem.W.readsIn K C (.type "type") = true
  ga : PySem.W.specialIn K (.ref C) "__getattribute__" = some (some (.builtin "type.__getattribute__"))
  at_ : PySem.W.findCls K (.ref C) (.type "type") "__init__" = some (.val (.builtin "ValueError.__init__"))
theorem base_of {K : PySem.W.Frag} {C : Addr} (h : baseB C K = true) : BaseC K C := by
  unfold baseB at h
  simp only [Bool.and_eq_true, decide_eq_true_eq] at h
  obtain ⟨h1, h2, h3⟩ := h
  refine ⟨h1, h2, ?_⟩
  split at h3
  · rename_i n e
    rw [e, of_decide_eq_true h3]
  · cases h3
section
variable {X : Cx} {e : Expr} {es : List Expr} {ta : TA} {p1 p2 pos : Pos}
/-- P.__init__(self, ..) -/
theorem pe_cinit {x : Str} {C : Addr} {pl : Sem Bool} (hg : Gl X x) (hm : X.mg x = some (.ref C)) (r : BaseC X.K C) (ha : PA X (e :: es) ta) (hdb : (x == ("__debug__" : Str)) = false := by decide)
    (hc : eval (.Call (.Attribute (.Name x p1) "__init__" p2) (e :: es) [] pos) X.env = (do
      let ov ← eval (.Name x p1) X.env
      standAt p2.atName
      let (f, fst) ← holding [ov] (getMethod ov "__init__" pl)
      callWith pos f fst (backTo pos (starEach (e :: es) X.env)) (backToKw pos (keywordEach [] X.env))) := by rfl)
    (he : starEach (e :: es) X.env = (false, eval e X.env) :: starEach es X.env := by rfl) (hpl : (backTo pos (starEach es X.env)).any (·.1) = false := by rfl) :
    PE X (.Call (.Attribute (.Name x p1) "__init__" p2) (e :: es) [] pos) (tVeI X.K ta) := by
  refine ⟨fun pins s σ H Q I h => ?_⟩
  refine PySem.W.methodCall_KW (ld_glob I hg hm ?_ hdb) hc
  refine PySem.W.method_cls I.kIn r.ga (PySem.W.cls_value I.kIn r.rd r.at_ (by decide +kernel) ?_)
  show wpAny _ _ (callWith pos (Value.builtin "ValueError.__init__") [] (backTo pos (starEach (e :: es) X.env)) []) _ _ _
  refine PyProof.Rows.callWith_method1 (thn (ha.run pos pins _ σ H _ (I.tok _) h) fun us s1 ⟨vs, H1, I1, r1, a, C, ws, ev, hl, T, ea, q⟩ => ?_) he hpl
  subst ev
  cases r1 with
  | @cons _ u0 _ ur ra rw' =>
    obtain rfl : u0 = Value.ref a := ra
    have hlen : ur.length ≤ sizeLine := by rw [← Paired.length rw']; exact len_le hl
    exact oinit_ok T I1 ea hlen fun s' J => ⟨.non, H1, J, rfl, q⟩
end
/-! isinstance of a caught own error, with or without a dict of its own -/
structure IsX (K : PySem.W.Frag) (D : Addr) : Prop where
  ga : PySem.W.findIn K (.ref D) "__getattribute__" = some (some (.builtin "BaseException.__getattribute__"))
  gg : PySem.W.findIn K (.ref D) "__getattr__" = some none
  sub : PySem.W.subIn K (.ref D) (.type "BaseException") = some true
  dct : PySem.W.hasDictIn K D = true
  cl : PySem.W.findIn K (.ref D) "__class__" = some (some (.builtin "object.__class__"))
  gt : PySem.W.specialIn K (.builtin "object.__class__") "__get__" = some (some (.builtin "getset_descriptor.__get__"))
  tk : PySem.W.takesIn K (.builtin "object.__class__") = some true
  mro : PySem.W.mroIn K D (.type "object") = some true
def isxB (x : Str) : FB := fun K => decide (PySem.W.findIn K (.ref (He.ga K x)) "__getattribute__" = some (some (.builtin "BaseException.__getattribute__"))) && (decide (PySem.W.findIn K (.ref (He.ga K x)) "__getattr__" = some none) &&
  (decide (PySem.W.subIn K (.ref (He.ga K x)) (.type "BaseException") = some true) && (PySem.W.hasDictIn K (He.ga K x) && (decide (PySem.W.findIn K (.ref (He.ga K x)) "__class__" = some (some (.builtin "object.__class__"))) &&
  (decide (PySem.W.specialIn K (.builtin "object.__class__") "__get__" = some (some (.builtin "getset_descriptor.__get__"))) && (decide (PySem.W.takesIn K (.builtin "object.__class__") = some true) && decide (PySem.W.mroIn K (He.ga K x) (.type "object") = some true)))))))
theorem isx_of {K : PySem.W.Frag} {x : Str} (h : isxB x K = true) : IsX K (He.ga K x) := by
  unfold isxB at h
  simp only [Bool.and_eq_true, decide_eq_true_eq] at h
  obtain ⟨h1, h2, h3, h4, h5, h6, h7, h8⟩ := h
  exact ⟨h1, h2, h3, h4, h5, h6, h7, h8⟩
end R
namespace PySem.W
open PySem PySem.Spec PySem.Calls PyProof.Rows
section
variable {prog : Program} {w : World} {A : Around} {E : Value → Shared → Prop} {s : Shared} {K : Frag} {x D : Addr} {ox : Obj} {od : Option Obj}
theorem r_findcls (T : R.IsX K D) : findObj K D od "__class__" = some (.bind (.builtin "getset_descriptor.__get__") (.builtin "object.__class__")) := by
  obtain ⟨cd, e1, _⟩ := any_some T.dct
  unfold findObj
  simp [e1, T.cl, T.gt, T.tk]
theorem r_readcls {Q : Option Value → Shared → Prop} (T : R.IsX K D) (X : K.In s.heap) (I : InstAt s.heap x ox D od) (h : Q (some (.ref D)) { s with toks := s.toks + 1 }) : wpAny (model prog w) A (getAttr? (.ref x) "__class__") Q E s := by
  obtain ⟨hp, gn, dr, tk, os⟩ := s
  have l0 := I.type (M := model prog w)
  have l1 := looks_findIn (M := model prog w) X T.ga
  have l2 := looks_findIn (M := model prog w) X T.gg
  have l3 := looks_find (M := model prog w) X I (r_findcls (od := od) T)
  have lsub : Looks (model prog w) hp (isInstance (.ref x) (.type "BaseException")) true := l0.andThen (looks_subIn X T.sub)
  have n1 : (Value.builtin "BaseException.__getattribute__" == Value.builtin "object.__getattribute__") = false := by decide +kernel
  have n2 : (onTheHeap (Value.ref D) && Value.builtin "BaseException.__getattribute__" == Value.builtin "object.__getattribute__") = false := by rw [n1]; rfl
  have n3 : (false && onTheHeap (Value.builtin "BaseException.__getattribute__")) = false := rfl
  unfold getAttr? getAttrBy? getAttrBy
  refine wpAny_bind (wpAny_mkText (wpAny_bind (wpAny_attempt (wpAny_holding (wpAny_bind (l0.at (wpAny_bind (l1.at ?_))))))))
  show wpAny _ _ (if (onTheHeap (Value.ref D) && Value.builtin "BaseException.__getattribute__" == Value.builtin "object.__getattribute__") = true then _ else _) _ _ _
  rw [n2, if_neg Bool.false_ne_true]
  unfold getAttrByItsOwn hookBefore
  refine wpAny_bind ?_
  rw [if_pos (show onTheHeap (Value.ref D) = true from rfl)]
  refine l2.at ?_
  refine wpAny_bind (wpAny_attempt (wpAny_holding ?_))
  unfold callGetattribute
  rw [n3, if_neg Bool.false_ne_true]
  unfold boundAndCalled
  rw [PySem.F.excAttr_ValueError.ga.bind (.ref x)]
  refine wpAny_bind (wpAny_pure ?_)
  show wpAny _ _ (call (.builtin "BaseException.__getattribute__") [.ref x, .str "__class__" tk]) _ _ _
  refine wpAny_call (codeAny_call_builtin PySem.F.excAttr_ValueError.ga.plain PySem.F.entry_bexc_ga ?_)
  refine @check_slot (model prog w) _ _ ⟨hp, gn, dr, tk + 1, os⟩ "BaseException.__getattribute__" "BaseException" "__getattribute__" (.ref x) [.str "__class__" tk] [] _ (by decide +kernel) (by decide +kernel) lsub (PySem.F.args_bexc_ga (.ref x) (.str "__class__" tk)) ?_
  unfold Builtin.«object.__getattribute__»
  refine wpAny_bind (wpAny_of_eq (a := ((Value.ref x : Value), [Value.str "__class__" tk])) (by first | rfl | (simp only [slotArgs]; rfl)) ?_)
  refine wpAny_bind (wpAny_pure (wpAny_bind (l0.at (wpAny_bind (l3.at ?_)))))
  show wpAny _ _ (holding [Value.builtin "object.__class__"] (call (.builtin "getset_descriptor.__get__") [.builtin "object.__class__", .ref x, .ref D]) >>= ret) _ _ _
  refine wpAny_bind (wpAny_holding (wpAny_call (class_get (s := ⟨hp, gn, dr, tk + 1, os⟩) (ox := ox) (od := od) X I T.mro ?_)))
  refine wpAny_pure ?_
  show wpAny _ _ (handedOut (.ref D)) _ _ _
  rw [handedOut_of (v := .ref D) rfl]
  first
    | exact wpAny_pure (wpAny_pure h)
    | exact wpAny_pure h
    | exact wpAny_pure (wpAny_bind (wpAny_pure (wpAny_pure h)))
theorem r_kit (T : R.IsX K D) : KitX K (.ref x) (.ref D) (fun hp => InstAt hp x ox D od) where
  ty := fun _ _ _ I => I.type
  it := fun _ _ X _ => by
    obtain ⟨cd, e1, _⟩ := any_some T.dct
    unfold clsIn at e1
    split at e1
    · rename_i _ _ _ _ at_
      intro A' Q' E' s' k q
      unfold isType loadHead
      exact wpAny_bind (wpAny_loadPart (k _ _ (X _ _ at_)) (wpAny_pure q))
    · cases e1
  ne := fun hp tp dd its n sl X at_tp => by
    obtain ⟨cd, e1, _⟩ := any_some T.dct
    refine Bool.eq_false_iff.mpr fun q => ?_
    obtain rfl : D = tp := Value.ref.inj (beq_iff_eq.mp q)
    unfold clsIn at e1
    split at e1
    · rename_i _ _ _ _ at_
      exact nomatch (X _ _ at_).symm.trans at_tp
    · cases e1
  ca := fun X I k => r_readcls T X I k
end
end PySem.W
namespace R
open PySem PySem.Spec PyProof.Rows L2
theorem callIsX {X : Cx} {a D : Addr} {oe : Obj} {d : Option Addr} {pn : List (Addr × Obj)} (T : IsX X.K D) (hz : Zc (.ref D) d oe) (hf : ∃ vs, oe.data = .fields vs) :
    CallR (X.suite a ((a, oe) :: pn)) (.builtin "isinstance") (fun xs H Q => ∃ fs, (∀ dd, d = some dd → H dd = some (.xd fs)) ∧ rIsE X.K D a xs H Q) := by
  intro pins s σ H xs us Q I r h
  obtain ⟨fs, hdd, c, cv, b, rfl, hcv, e, q⟩ := h
  cases r with
  | cons rx rr =>
    cases rr with
    | cons rt rr =>
      cases rr
      cases rx
      have ec := hcv _ rt
      subst ec
      obtain ⟨hget, _⟩ := I.pin (a, oe) (List.mem_append.mpr (.inl List.mem_cons_self))
      obtain ⟨vs, hv⟩ := hf
      have J : ∃ od, PySem.W.InstAt s.heap a oe D od := by
        obtain ⟨oc, dd, oda, osl⟩ := oe
        obtain ⟨h1, h2⟩ := hz
        dsimp only at h1 h2 hv
        subst h1 h2 hv
        cases dd with
        | none => exact ⟨none, hget, rfl, rfl, trivial⟩
        | some dx =>
          obtain ⟨mA, hns, _⟩ : ObjOk X.prog X.w H s.heap dx (.xd fs) := I.hok dx _ (hdd dx rfl)
          obtain ⟨o, _, _, ho, _⟩ := hns
          exact ⟨some o, hget, rfl, rfl, ho⟩
      obtain ⟨od, J⟩ := J
      exact PySem.W.kia_one (PySem.W.r_kit T) I.kIn J e (fun z => nomatch z) fun tk => ⟨.bl b, H, I.kept (t' := tk) fun _ _ z => z, rfl, q⟩
/-- isinstance(e, C), e the error that the suite holds: what is asked -/
def rIsXd (K : PySem.W.Frag) (D a : Addr) (d : Option Addr) : List V → Hp → VK → Prop := fun xs H Q => ∃ fs, (∀ dd, d = some dd → H dd = some (.xd fs)) ∧ rIsE K D a xs H Q
/-- what such a class is, its __init__ at fI, its field f -/
structure XIn (K : PySem.W.Frag) (C fI : Addr) (f : Str) : Prop where
  oex : OexC K C
  iC : PySem.W.findIn K (.ref C) "__init__" = some (some (.ref fI))
  tI : PySem.W.typeIn K (.ref fI) = some (.type "function")
  noF : PySem.W.findIn K (.ref C) f = some none
  xf : XfC K C
def xinB (x f : Str) : FB := fun K => oexB (He.ga K x) K && (decide (PySem.W.findIn K (.ref (He.ga K x)) "__init__" = some (some (.ref (He.ma K (He.ga K x) "__init__")))) && (decide (PySem.W.typeIn K (.ref (He.ma K (He.ga K x) "__init__")) = some (.type "function")) &&
  (decide (PySem.W.findIn K (.ref (He.ga K x)) f = some none) && xfB K (He.ga K x))))
theorem xin_of {K : PySem.W.Frag} {x f : Str} (h : xinB x f K = true) : XIn K (He.ga K x) (He.ma K (He.ga K x) "__init__") f := by
  unfold xinB at h
  simp only [Bool.and_eq_true, decide_eq_true_eq] at h
  obtain ⟨h1, h2, h3, h4, h5⟩ := h
  exact ⟨oex_of h1, h2, h3, h4, xfB_ok h5⟩
/-- __init__(self, v) of a class at C: the field is kept -/
def sp_init (K : PySem.W.Frag) (C : Addr) (f : Str) : Sp := fun vs H Q _ => ∃ (a : Addr) (v : V), vs = [.ref a, v] ∧ OexC K C ∧ PySem.W.findIn K (.ref C) f = some none ∧ H a = some (exo a C none) ∧
  ∀ dx, H dx = none → dx ≠ a → Q .non (upd (upd H dx (exd dx [(f, v)])) a (exo a C (some dx)))
theorem rd_init {K : PySem.W.Frag} {C : Addr} {f m : Str} {vs : List V} {H : Hp} {Q : VK} {E : XK} (h : sp_init K C f vs H Q E) :
    tSeq (tDrop (tVeI K (tCons (tVar 0) (tCons (tC (.str m)) tNil)))) (tOst K f (tVar 0) (tVar 1)) { nx := fun _ H' => Q .non H', rt := Q } (L2.start ["self", f] vs) H := by
  obtain ⟨a, v, rfl, T, hn, ha, k⟩ := h
  exact ⟨_, rfl, a, C, [.str m], rfl, by simp, T, ha, _, rfl, _, rfl, a, C, rfl, T, hn, .inl ⟨ha, fun dx h1 h2 => k dx h1 h2⟩⟩
section
variable {ta : TA} {σ : L2.St} {H : Hp} {QX : XK}
def RzP (C : Addr) (sp : Sp) (QX : XK) (vs : List V) (H1 : Hp) : Prop := vs.length ≤ 1000 ∧ ∀ a, H1 a = none → sp (.ref a :: (vs ++ [])) (upd H1 a (exo a C none))
  (fun v H2 => v = .non ∧ ∃ (d : Addr) (fs : List (Str × V)), H2 a = some (exo a C (some d)) ∧ H2 d = some (exd d fs) ∧ H1 d = none ∧ QX (.ref C) (some d) (upd (del H2 a) d (.xd fs))) (fun _ _ _ => False)
theorem s_mko {C : Addr} {sp : Sp} (h : ta σ H fun vs H1 => RzP C sp QX vs H1) : tMkO C sp [] ta σ H QX := h
theorem s_raise {K : PySem.W.Frag} {C : Addr} {f : Str} {v : V} (T : OexC K C) (hn : PySem.W.findIn K (.ref C) f = some none) (k : ∀ d H', H d = none → H' d = some (.xd [(f, v)]) → Same H H' → QX (.ref C) (some d) H') : RzP C (sp_init K C f) QX [v] H := by
  refine ⟨by simp, fun a ha => ⟨a, v, rfl, T, hn, upd_same, fun dx hdx hne => ⟨rfl, dx, [(f, v)], upd_same, ?_, ?_, ?_⟩⟩⟩
  · rw [upd_ne hne, upd_same]
  · rw [upd_ne hne] at hdx; exact hdx
  · rw [upd_ne hne] at hdx
    refine k dx _ hdx upd_same fun b o e => ?_
    have n1 : b ≠ dx := ne_of_none e hdx
    have n2 : b ≠ a := ne_of_none e ha
    rw [upd_ne n1, del_ne n2, upd_ne n2, upd_ne n1, upd_ne n2]
    exact e
end
/-! own exceptions without fields; isinstance of a caught error of any own class -/
section
variable {X : Cx} {C : Addr} {bmB : List Value} {B newId initId : String}
/-- X() -/
theorem pmk_own0 {x : Str} {p pos : Pos} (F : ExcBaseFacts B newId initId bmB) (q : PySem.W.excIn X.K C bmB newId = true) (gC : X.mg x = some (.ref C)) (kC : PySem.W.keepIn X.K (.ref C) = true) (r : Raises X (.ref C)) (hg : Gl X x)
    (hdb : (x == ("__debug__" : Str)) = false := by decide) : PMk X (.Call (.Name x p) [] [] pos) (fun _ H Q => Q (.ref C) none H) := by
  intro pins s σ H Q I h
  refine wpAny_Call_Name_kw (ld_glob I hg gC ?_ hdb)
  refine PySem.W.callWith_K0 I.kIn kC ?_
  obtain ⟨bm, N, nm, qn, bs, hdct, sn, sub, ab, col, dd, k0, k1, k2, k3, k5, mN, hC, hN, hni, T⟩ := exc_obj I.kIn q
  refine wpAny_call_exc_subT F T hC hN hni (fun h' e hm => ?_) (Nat.zero_le _)
  exact mk_of I hm r h (I.hok.gone hm.new)
end
def tRz (C : Addr) : L2.St → Hp → XK → Prop := fun _ H Q => Q (.ref C) none H
theorem s_rz {C : Addr} {σ : L2.St} {H : Hp} {Q : XK} (h : Q (.ref C) none H) : tRz C σ H Q := h
/-- a class without fields, raised -/
structure Exc0 (K : PySem.W.Frag) (C : Addr) : Prop where
  ex : PySem.W.excIn K C He.veBase "ValueError.__new__" = true
  kp : PySem.W.keepIn K (.ref C) = true
  sb : PySem.W.subIn K (.ref C) (.type "BaseException") = some true
  ty : PySem.W.typeIn K (.ref C) = some (.type "type")
theorem exc0_of {K : PySem.W.Frag} {x : Str} (c : (He.Fa.exc x).ok K = true) : Exc0 K (He.ga K x) := by
  obtain ⟨h1, h2, h3, h4⟩ := He.exc_ok c
  exact ⟨h1, h2, h3, h4⟩
theorem pmk_z {X : Cx} {C : Addr} {x : Str} {p pos : Pos} (F : Exc0 X.K C) (gC : X.mg x = some (.ref C)) (hg : Gl X x) (hdb : (x == ("__debug__" : Str)) = false := by decide) : PMk X (.Call (.Name x p) [] [] pos) (tRz C) :=
  pmk_own0 PySem.F.excBase_ValueError F.ex gC F.kp (raises_own F.sb F.ty) hg hdb
theorem pmk_zs {X : Cx} {C : Addr} {x m : Str} {j : Nat} {p p2 pos : Pos} (F : Exc0 X.K C) (gC : X.mg x = some (.ref C)) (hg : Gl X x) (hdb : (x == ("__debug__" : Str)) = false := by decide) : PMk X (.Call (.Name x p) [.Constant (.str m) j p2] [] pos) (tRz C) :=
  L2.pmk_own PySem.F.excBase_ValueError F.ex gC F.kp (raises_own F.sb F.ty) hg hdb
def kitcB (x y : Str) (b : Bool) : FB := fun K => decide (PySem.W.kitOne K (.ref (He.ga K x)) (.ref (He.ga K y)) = some b)
def kittB (x : Str) (y : String) (b : Bool) : FB := fun K => decide (PySem.W.kitOne K (.ref (He.ga K x)) (.type y) = some b)
theorem kitc_of {K : PySem.W.Frag} {x y : Str} {b : Bool} (h : kitcB x y b K = true) : PySem.W.kitOne K (.ref (He.ga K x)) (.ref (He.ga K y)) = some b := of_decide_eq_true h
theorem kitt_of {K : PySem.W.Frag} {x : Str} {y : String} {b : Bool} (h : kittB x y b K = true) : PySem.W.kitOne K (.ref (He.ga K x)) (.type y) = some b := of_decide_eq_true h
/-- isinstance(e, c) in an except suite, the class of e told in the reading -/
def rIsA (K : PySem.W.Frag) (cls : Value) (d : Option Addr) (a : Addr) : List V → Hp → VK → Prop := fun xs H Q => ∃ D, cls = .ref D ∧ IsX K D ∧ ∃ fs, (∀ dd, d = some dd → H dd = some (.xd fs)) ∧
  ∃ (c : V) (cv : Value) (b : Bool), xs = [.ref a, c] ∧ ClsV c cv ∧ PySem.W.kitOne K (.ref D) cv = some b ∧ Q (.bl b) H
def rIsAT (K : PySem.W.Frag) (cls : Value) (d : Option Addr) (a : Addr) : List V → Hp → VK → Prop := fun xs H Q => ∃ D, cls = .ref D ∧ IsX K D ∧ ∃ fs, (∀ dd, d = some dd → H dd = some (.xd fs)) ∧
  ∃ (tp : Addr) (cs : List V) (us : List Value) (b : Bool), xs = [.ref a, .ref tp] ∧ H tp = some (.tup cs) ∧ Paired ClsV cs us ∧ PySem.W.kitAny K (.ref D) us = some b ∧ Q (.bl b) H
section
variable {X : Cx} {a : Addr} {cls : Value} {oe : Obj} {d : Option Addr} {pn : List (Addr × Obj)}
theorem inst_of {D : Addr} {pins : List (Addr × Obj)} {σ : L2.St} {H : Hp} {s : Shared} {fs : List (Str × V)} (I : Inv (X.suite a ((a, oe) :: pn)) pins σ H s) (hz : Zc (.ref D) d oe) (hf : ∃ vs, oe.data = .fields vs) (hdd : ∀ dd, d = some dd → H dd = some (.xd fs)) : ∃ od, PySem.W.InstAt s.heap a oe D od := by
  obtain ⟨hget, _⟩ := I.pin (a, oe) (List.mem_append.mpr (.inl List.mem_cons_self))
  obtain ⟨vs, hv⟩ := hf
  obtain ⟨oc, dd, oda, osl⟩ := oe
  obtain ⟨h1, h2⟩ := hz
  dsimp only at h1 h2 hv
  subst h1 h2 hv
  cases dd with
  | none => exact ⟨none, hget, rfl, rfl, trivial⟩
  | some dx =>
    obtain ⟨mA, hns, _⟩ : ObjOk X.prog X.w H s.heap dx (.xd fs) := I.hok dx _ (hdd dx rfl)
    obtain ⟨o, _, _, ho, _⟩ := hns
    exact ⟨some o, hget, rfl, rfl, ho⟩
theorem callIsA (hz : Zc cls d oe) (hf : ∃ vs, oe.data = .fields vs) : CallR (X.suite a ((a, oe) :: pn)) (.builtin "isinstance") (rIsA X.K cls d a) := by
  intro pins s σ H xs us Q I r h
  obtain ⟨D, rfl, T, fs, hdd, c, cv, b, rfl, hcv, e, q⟩ := h
  obtain ⟨u1, u2, rfl, r1, r2⟩ := vals2 r
  cases (show u1 = Value.ref a from r1)
  have ec := hcv.eq r2
  subst ec
  obtain ⟨od, J⟩ := inst_of I hz hf hdd
  exact PySem.W.kia_one (PySem.W.r_kit T) I.kIn J e (fun z => nomatch z) fun tk => ⟨.bl b, H, I.kept (t' := tk) fun _ _ z => z, rfl, q⟩
theorem callIsAT (hz : Zc cls d oe) (hf : ∃ vs, oe.data = .fields vs) : CallR (X.suite a ((a, oe) :: pn)) (.builtin "isinstance") (rIsAT X.K cls d a) := by
  intro pins s σ H xs us Q I r h
  obtain ⟨D, rfl, T, fs, hdd, tp, cs, ws, b, rfl, hT, k, e, q⟩ := h
  obtain ⟨u1, u2, rfl, r1, r2⟩ := vals2 r
  cases (show u1 = Value.ref a from r1)
  cases (show u2 = Value.ref tp from r2)
  obtain ⟨od, J⟩ := inst_of I hz hf hdd
  obtain ⟨_, its, rv, o, h1, h2, n, h3⟩ := (show ObjOk X.prog X.w H s.heap tp (.tup cs) from I.hok tp _ hT)
  have e3 := ClsV.all k rv
  subst e3
  obtain ⟨oc, od', dt, sl⟩ := o
  simp only at h2 h3
  subst h2 h3
  exact PySem.W.kia_tup (PySem.W.r_kit T) I.kIn J h1 e (fun z => nomatch z) fun tk => ⟨.bl b, H, I.kept (t' := tk) fun _ _ z => z, rfl, q⟩
end
section
variable {K : PySem.W.Frag} {a D : Addr} {d : Option Addr} {H : Hp} {Q : VK} {fs : List (Str × V)} {b b1 b2 : Bool}
theorem s_isA {c : V} {cv : Value} (T : IsX K D) (hd : ∀ dd, d = some dd → H dd = some (.xd fs)) (hc : ClsV c cv) (e : PySem.W.kitOne K (.ref D) cv = some b) (h : Q (.bl b) H) : rIsA K (.ref D) d a [.ref a, c] H Q := ⟨D, rfl, T, fs, hd, c, cv, b, rfl, hc, e, h⟩
theorem s_isA0 {c : V} {cv : Value} (T : IsX K D) (hc : ClsV c cv) (e : PySem.W.kitOne K (.ref D) cv = some b) (h : Q (.bl b) H) : rIsA K (.ref D) none a [.ref a, c] H Q := s_isA (fs := []) T (fun _ z => nomatch z) hc e h
theorem s_isAT2 {tp : Addr} {c1 c2 : V} {v1 v2 : Value} (T : IsX K D) (hd : ∀ dd, d = some dd → H dd = some (.xd fs)) (ht : H tp = some (.tup [c1, c2])) (h1 : ClsV c1 v1) (h2 : ClsV c2 v2) (e1 : PySem.W.kitOne K (.ref D) v1 = some b1) (e2 : PySem.W.kitOne K (.ref D) v2 = some b2)
    (h : Q (.bl (b1 || b2)) H) : rIsAT K (.ref D) d a [.ref a, .ref tp] H Q :=
  ⟨D, rfl, T, fs, hd, tp, _, [v1, v2], b1 || b2, rfl, ht, .cons h1 (.cons h2 .nil), kitAny_cons e1 (fun q => kitAny_cons e2 (fun q2 => by rw [q, q2]; exact kitAny_nil) (fun q2 => by rw [q2]; simp)) (fun q => by rw [q]; rfl), h⟩
theorem s_isAT20 {tp : Addr} {c1 c2 : V} {v1 v2 : Value} (T : IsX K D) (ht : H tp = some (.tup [c1, c2])) (h1 : ClsV c1 v1) (h2 : ClsV c2 v2) (e1 : PySem.W.kitOne K (.ref D) v1 = some b1) (e2 : PySem.W.kitOne K (.ref D) v2 = some b2)
    (h : Q (.bl (b1 || b2)) H) : rIsAT K (.ref D) none a [.ref a, .ref tp] H Q := s_isAT2 (fs := []) T (fun _ z => nomatch z) ht h1 h2 e1 e2 h
end
/-! zip of two tuples, walked -/
theorem walk_zipT {K : PySem.W.Frag} {a b : Addr} {xs ys : List V} {n : Nat} (hn : n = min xs.length ys.length) : Walk (RZ.ItzT K a b) n (fun H => SqT K H a xs ∧ SqT K H b ys) (YPair (fun i => xs[i]?) (fun i => ys[i]?)) := by
  subst hn
  refine ⟨fun i _ hi q => ?_, fun _ q => ⟨xs, ys, q.1, q.2, by omega⟩, fun i H v H' _ q y => ?_⟩
  · have h1 : i < xs.length := by omega
    have h2 : i < ys.length := by omega
    exact ⟨xs, ys, xs[i], ys[i], q.1, q.2, by simp [h1], by simp [h2]⟩
  · obtain ⟨T, x, z, h1, h2, h3, h4, h5⟩ := y
    exact ⟨T, x, z, h1, h2, h3, h4 xs q.1, h5 ys q.2⟩
def ZipQ (K : PySem.W.Frag) (R : It → Hp → Prop) (vs : List V) (H1 : Hp) : Prop := ∃ a b xs ys, vs = [.ref a, .ref b] ∧ ((SqL K H1 a xs ∧ SqL K H1 b ys ∧ R (Itz K a b) H1) ∨ (SqT K H1 a xs ∧ SqT K H1 b ys ∧ R (RZ.ItzT K a b) H1))
theorem s_izip {K : PySem.W.Frag} {ta : TA} {σ : L2.St} {H : Hp} {R : It → Hp → Prop} (h : ta σ H fun vs H1 => ZipQ K R vs H1) : RZ.iZipA K ta σ H R := h
theorem s_gunl {K : PySem.W.Frag} {n : Nat} {t : TGs} {p : Addr} {xs : List V} {σ : L2.St} {H : Hp} {QS : L2.St → Hp → Prop} (h1 : SqL K H p xs) (h2 : xs.length = n) (h : t xs σ H QS) : L2.gUnl K n t (.ref p) σ H QS := ⟨p, xs, rfl, h1, h2, h⟩
end R
/-! the walk of a reading, as far as nothing is asked -/
local macro_rules | `(tactic| walk_at "g1") => `(tactic| first
  | with_reducible refine R.s_seq ?_
  | with_reducible refine R.s_asg ?_
  | ((with_reducible apply R.s_var); focus rfl)
  | with_reducible refine R.s_gname ?_
  | with_reducible refine R.s_op ?_
  | with_reducible refine R.s_c ?_
  | with_reducible refine R.s_cons ?_
  | with_reducible refine R.s_nil ?_
  | with_reducible refine R.s_i0 ?_
  | with_reducible refine R.s_p10_60 ?_
  | with_reducible refine R.s_p10_18 ?_
  | with_reducible refine R.s_p10_8 ?_
  | with_reducible refine R.s_p10_9 ?_
  | with_reducible refine R.s_p10_59 ?_
  | with_reducible refine R.s_p10_6 ?_
  | with_reducible refine R.s_p10_5 ?_
  | with_reducible refine R.s_p10_4 ?_
  | with_reducible refine R.s_p10_12 ?_
  | with_reducible refine R.s_p10_29 ?_
  | with_reducible refine R.s_p10_30 ?_
  | with_reducible refine R.s_p10_39 ?_
  | with_reducible refine R.s_p10_40 ?_
  | with_reducible refine R.s_p10_49 ?_
  | with_reducible refine R.s_p10_50 ?_
  | with_reducible refine R.s_p10_51 ?_
  | with_reducible refine R.s_p10_58 ?_
  | ((with_reducible refine R.s_pow7 ?_ ?_); focus omega)
  | ((with_reducible refine R.s_i ?_ ?_); focus (first | decide | exact R.mulW (by omega) (by omega) | exact R.divW (by decide) (by decide)))
  | with_reducible refine R.s_test ?_
  | with_reducible refine R.s_bl ?_
  | with_reducible refine R.s_ret ?_
  | with_reducible refine R.s_next ?_
  | with_reducible refine R.s_drop ?_
  | with_reducible refine R.s_un ?_
  | with_reducible refine R.s_u ?_
  | with_reducible refine R.s_tB ?_
  | with_reducible refine R.s_andc ?_
  | with_reducible refine R.s_orc ?_
  | with_reducible refine R.s_notc ?_
  | with_reducible refine R.s_andv ?_
  | with_reducible refine R.s_orv ?_
  | with_reducible refine R.s_notv ?_
  | with_reducible refine R.s_ifx ?_
  | with_reducible refine R.s_eqI ?_
  | with_reducible refine R.s_neI ?_
  | with_reducible refine R.s_eqB ?_
  | with_reducible refine R.s_eqS ?_
  | with_reducible refine R.s_neS ?_
  | with_reducible refine R.s_neB ?_
  | with_reducible refine R.s_tup ?_
  | with_reducible refine R.s_lst ?_
  | with_reducible refine R.s_par ?_
  | with_reducible refine R.s_par_ ?_
  | with_reducible refine R.s_par3 ?_
  | with_reducible refine R.s_par3_ ?_
  | with_reducible refine R.s_cb ?_
  | with_reducible refine R.s_call ?_
  | with_reducible refine R.s_turn ?_
  | with_reducible refine R.s_isi_ii ?_
  | with_reducible refine R.s_isi_ib ?_
  | with_reducible refine R.s_bm ?_
  | with_reducible refine R.s_intB ?_
  | with_reducible refine R.s_rng1 ?_
  | with_reducible refine R.s_rng2 ?_
  | with_reducible refine R.s_dget ?_
  | with_reducible refine R.s_gsub ?_
  | with_reducible refine R.s_pc ?_
  | with_reducible refine R.s_pn ?_
  | with_reducible refine R.s_dput ?_
  | with_reducible refine R.s_isN ?_
  | with_reducible refine R.s_isNi ?_
  | with_reducible refine R.s_isNr ?_
  | with_reducible refine R.s_isNb ?_
  | with_reducible refine R.s_bm0 ?_
  | with_reducible refine R.s_lrg2 ?_
  | with_reducible refine R.s_notN ?_
  | with_reducible refine R.s_notNi ?_
  | with_reducible refine R.s_notNr ?_
  | with_reducible refine R.s_chain ?_
  | with_reducible refine R.s_callS ?_
  | with_reducible refine R.s_mko ?_
  | with_reducible refine R.s_rz ?_
  | with_reducible refine R.s_izip ?_
  | with_reducible refine R.s_sl ?_
  | with_reducible refine R.s_nopart ?_
  | with_reducible refine R.s_part ?_
  | with_reducible refine R.s_int_ ?_
  | with_reducible refine R.s_ilist ?_
  | with_reducible refine R.s_itup ?_
  | with_reducible refine R.s_ref_ ?_
  | with_reducible refine R.s_for ?_
  | with_reducible refine R.s_yes ?_
  | with_reducible refine R.s_gcons ?_
  | with_reducible refine R.s_gnil ?_
  | with_reducible refine R.s_abs ?_
  | with_reducible refine R.s_max ?_
  | with_reducible refine R.s_min ?_
  | with_reducible refine R.s_iteT ?_
  | with_reducible refine R.s_iteF ?_
  | with_reducible refine R.s_iteNT ?_
  | with_reducible refine R.s_iteNF ?_
  | ((with_reducible refine R.s_itnP ?_ ?_); focus (with_reducible rfl))
  | ((with_reducible refine R.s_itP ?_ ?_); focus (with_reducible rfl)))
local macro_rules | `(tactic| walk_at "g") => `(tactic| repeat (first | walk_at "g1" | with_reducible refine R.s_if ?_))
local macro_rules | `(tactic| walk_at "h") => `(tactic| repeat (walk_at "g1"))

/-! the divisor of two numbers: what the loop keeps -/
namespace M
/-- what is told of a and b -/
structure DivOk (a b g u v : Int) : Prop where
  hg : g = (Int.gcd a b : Nat)
  eq : u * a + v * b = g
  hu : u.natAbs ≤ max 1 b.natAbs
  hv : v.natAbs ≤ max 1 a.natAbs
/-- behind the first turn: s the sign of g and rest, t that of u -/
structure DivIn (a b g u v r x y s t : Int) (G R U X q : Nat) : Prop where
  hs : s = 1 ∨ s = -1
  ht : t = 1 ∨ t = -1
  hg : g = s * G
  hr : r = s * R
  hu : u = t * U
  hx : x = -(t * X)
  lt : R < G
  px : 0 < X
  det : X * G + U * R = b.natAbs
  gcd : Nat.gcd G R = Int.gcd a b
  e1 : u * a + v * b = g
  e2 : x * a + y * b = r
  last : (U = 0 ∧ v = 1 ∧ g = b) ∨ (0 < U ∧ U * (q * G + R) ≤ b.natAbs ∧ G < q * G + R)
def DivSt (a b g u v r x y : Int) : Prop :=
  (g = a ∧ u = 1 ∧ v = 0 ∧ r = b ∧ x = 0 ∧ y = 1) ∨ (b ≠ 0 ∧ ∃ s t G R U X q, DivIn a b g u v r x y s t G R U X q)
theorem nabs_sign {s : Int} (hs : s = 1 ∨ s = -1) (n : Nat) : (s * (n : Int)).natAbs = n := by
  rcases hs with rfl | rfl <;> omega
theorem fdiv_sign {s : Int} (hs : s = 1 ∨ s = -1) (G R : Nat) : (s * (G : Int)).fdiv (s * R) = ((G / R : Nat) : Int) := by
  rcases hs with rfl | rfl
  · rw [Int.one_mul, Int.one_mul]; exact (Int.ofNat_fdiv G R).symm
  · rw [Int.neg_one_mul, Int.neg_one_mul, Int.neg_fdiv_neg]; exact (Int.ofNat_fdiv G R).symm
theorem fdiv_le (g r : Int) : (g.fdiv r).natAbs ≤ g.natAbs := by
  rcases Int.lt_trichotomy r 0 with h | h | h
  · have e : g.fdiv r = (-g).fdiv (-r) := (Int.neg_fdiv_neg g r).symm
    rw [e, Int.fdiv_eq_ediv_of_nonneg _ (by omega)]
    have := Int.natAbs_ediv_le_natAbs (-g) (-r)
    omega
  · subst h; simp
  · rw [Int.fdiv_eq_ediv_of_nonneg _ (by omega)]
    exact Int.natAbs_ediv_le_natAbs g r
theorem gcd_sub (a b q : Int) : Int.gcd b (a - q * b) = Int.gcd a b := by
  rw [Int.gcd_sub_mul_right_right]
  exact Int.gcd_comm _ _
theorem fmod_sign (a : Int) {b : Int} (hb : b ≠ 0) : ∃ s R, (s = 1 ∨ s = -1) ∧ b = s * (b.natAbs : Int) ∧ a - a.fdiv b * b = s * ((R : Nat) : Int) ∧ R < b.natAbs := by
  have e : a - a.fdiv b * b = a.fmod b := by rw [Int.fmod_def, Int.mul_comm]
  by_cases h : 0 < b
  · have h1 := Int.fmod_lt_of_pos a h
    have h2 := Int.fmod_nonneg_of_pos a h
    exact ⟨1, (a.fmod b).toNat, .inl rfl, by omega, by rw [e]; omega, by omega⟩
  · have h0 : 0 < -b := by omega
    have e2 : a.fmod b = -((-a).fmod (-b)) := by rw [Int.neg_fmod_neg]; omega
    have h1 := Int.fmod_lt_of_pos (-a) h0
    have h2 := Int.fmod_nonneg_of_pos (-a) h0
    exact ⟨-1, ((-a).fmod (-b)).toNat, .inr rfl, by omega, by rw [e, e2]; omega, by omega⟩
theorem gcd_signs {s : Int} (hs : s = 1 ∨ s = -1) (G R : Nat) : Int.gcd (s * (G : Int)) (s * R) = Nat.gcd G R := by
  unfold Int.gcd
  rw [nabs_sign hs, nabs_sign hs]
theorem div_step {a b g u v r x y : Int} (h : DivSt a b g u v r x y) (hr : r ≠ 0) :
    DivSt a b r x y (g - g.fdiv r * r) (u - g.fdiv r * x) (v - g.fdiv r * y) ∧ (g - g.fdiv r * r).natAbs < r.natAbs := by
  rcases h with ⟨rfl, rfl, rfl, rfl, rfl, rfl⟩ | ⟨hb, s, t, G, R, U, X, q, I⟩
  · obtain ⟨s, R, hs, e1, e2, lt⟩ := fmod_sign g hr
    refine ⟨.inr ⟨hr, s, -1, r.natAbs, R, 0, 1, 0, ⟨hs, .inr rfl, e1, e2, by omega, by omega, lt, by omega, by omega, ?_, by omega, ?_, .inl ⟨rfl, rfl, rfl⟩⟩⟩, ?_⟩
    · have h1 := gcd_sub g r (g.fdiv r)
      rw [e2] at h1
      conv at h1 => lhs; arg 1; rw [e1]
      rw [gcd_signs hs] at h1
      exact h1
    · grind
    · rw [e2, nabs_sign hs]; exact lt
  · obtain ⟨hs, ht, hg, hr', hu, hx, lt, px, det, gcd, e1, e2, last⟩ := I
    have hR : 0 < R := by
      rcases Nat.eq_zero_or_pos R with z | z
      · subst z; rw [hr'] at hr; exact absurd (by simp) hr
      · exact z
    have ed : g.fdiv r = ((G / R : Nat) : Int) := by rw [hg, hr']; exact fdiv_sign hs G R
    have dm := Nat.div_add_mod G R
    have ml := Nat.mod_lt G hR
    have hq : 0 < G / R := Nat.div_pos (Nat.le_of_lt lt) hR
    generalize hQ : G / R = Q at *
    generalize hS : G % R = S at *
    have er : g - (Q : Int) * r = s * (S : Int) := by
      have : (G : Int) = R * Q + S := by rw [← dm]; push_cast; rfl
      rw [hg, hr', this]; grind
    rw [ed]
    refine ⟨.inr ⟨hb, s, -t, R, S, X, U + Q * X, Q, ⟨hs, by omega, hr', er, by rw [hx]; grind, ?_, ml, Nat.add_pos_right _ (Nat.mul_pos hq px), ?_, ?_, e2, by grind, .inr ⟨px, ?_, ?_⟩⟩⟩, ?_⟩
    · rw [hu, hx]; push_cast; grind
    · rw [← det, ← dm]; grind
    · rw [← gcd, ← hS, Nat.gcd_comm G R, Nat.gcd_rec R G, Nat.gcd_comm]
    · rw [← det]
      have : Q * R + S = G := by rw [Nat.mul_comm]; exact dm
      rw [this]; omega
    · have : Q * R + S = G := by rw [Nat.mul_comm]; exact dm
      omega
    · rw [er, hr', nabs_sign hs, nabs_sign hs]; exact ml
/-- the sizes in the loop -/
theorem div_sizes {a b g u v r x y : Int} (h : DivSt a b g u v r x y) : x.natAbs ≤ max 1 b.natAbs ∧ u.natAbs ≤ max 1 b.natAbs ∧ y.natAbs ≤ 1 + a.natAbs ∧ v.natAbs ≤ 1 + a.natAbs ∧ g.natAbs ≤ max a.natAbs b.natAbs ∧ r.natAbs ≤ b.natAbs := by
  rcases h with ⟨rfl, rfl, rfl, rfl, rfl, rfl⟩ | ⟨hb, s, t, G, R, U, X, q, I⟩
  · omega
  · obtain ⟨hs, ht, hg, hr', hu, hx, lt, px, det, gcd, e1, e2, last⟩ := I
    have ex : x.natAbs = X := by rw [hx, Int.natAbs_neg]; exact nabs_sign ht X
    have eu : u.natAbs = U := by rw [hu]; exact nabs_sign ht U
    have eg : g.natAbs = G := by rw [hg]; exact nabs_sign hs G
    have er : r.natAbs = R := by rw [hr']; exact nabs_sign hs R
    have hG : 0 < G := by omega
    have hX : X ≤ X * G := Nat.le_mul_of_pos_right X hG
    have hB : 0 < b.natAbs := by omega
    -- v b = g - u a
    have k : ∀ (z w c : Int), z * a + w * b = c → z.natAbs ≤ b.natAbs → c.natAbs ≤ b.natAbs → w.natAbs ≤ 1 + a.natAbs := fun z w c e hz hc => by
      have e' : w * b = c - z * a := by omega
      have e3 : (w * b).natAbs ≤ c.natAbs + (z * a).natAbs := by rw [e']; omega
      rw [Int.natAbs_mul, Int.natAbs_mul] at e3
      have e4 : z.natAbs * a.natAbs ≤ b.natAbs * a.natAbs := Nat.mul_le_mul_right _ hz
      have e5 : w.natAbs * b.natAbs ≤ (1 + a.natAbs) * b.natAbs := by
        have : (1 + a.natAbs) * b.natAbs = b.natAbs + b.natAbs * a.natAbs := by grind
        omega
      exact Nat.le_of_mul_le_mul_right e5 hB
    have hXb : X ≤ b.natAbs := by omega
    have hGb : g.natAbs ≤ b.natAbs ∧ U ≤ b.natAbs := by
      rcases last with ⟨h1, h2, h3⟩ | ⟨hU, h1, h2⟩
      · rw [h3]; omega
      · have hX1 : G ≤ X * G := Nat.le_mul_of_pos_left G px
        have : U ≤ U * (q * G + R) := Nat.le_mul_of_pos_right U (by omega)
        omega
    have hRb : r.natAbs ≤ b.natAbs := by omega
    have k1 := k u v g e1 (by omega) hGb.1
    have k2 := k x y r e2 (by omega) hRb
    omega
theorem div_half {a b g u v : Int} (e1 : u * a + v * b = g) (hb : 0 < b.natAbs) (h1 : 2 * g.natAbs ≤ b.natAbs) (h2 : 2 * u.natAbs ≤ b.natAbs) : 2 * v.natAbs ≤ 1 + a.natAbs := by
  have e' : v * b = g - u * a := by omega
  have e3 : (v * b).natAbs ≤ g.natAbs + (u * a).natAbs := by rw [e']; omega
  rw [Int.natAbs_mul, Int.natAbs_mul] at e3
  have e4 : 2 * u.natAbs * a.natAbs ≤ b.natAbs * a.natAbs := Nat.mul_le_mul_right _ h2
  have x0 : 2 * u.natAbs * a.natAbs = 2 * (u.natAbs * a.natAbs) := Nat.mul_assoc _ _ _
  have x1 : (1 + a.natAbs) * b.natAbs = b.natAbs + b.natAbs * a.natAbs := by rw [Nat.add_mul, Nat.one_mul, Nat.mul_comm a.natAbs]
  have x2 : (2 * v.natAbs) * b.natAbs = 2 * (v.natAbs * b.natAbs) := Nat.mul_assoc _ _ _
  have e6 : (2 * v.natAbs) * b.natAbs ≤ (1 + a.natAbs) * b.natAbs := by omega
  exact Nat.le_of_mul_le_mul_right e6 hb
theorem div_end {a b g u v r x y : Int} (h : DivSt a b g u v r x y) (hr : r = 0) : Int.gcd a b = g.natAbs ∧ u * a + v * b = g ∧ u.natAbs ≤ max 1 b.natAbs ∧ v.natAbs ≤ max 1 a.natAbs := by
  rcases h with ⟨rfl, rfl, rfl, rfl, rfl, rfl⟩ | ⟨hb, s, t, G, R, U, X, q, I⟩
  · subst hr
    refine ⟨by simp, by omega, by omega, by omega⟩
  · have hsz := div_sizes (.inr ⟨hb, s, t, G, R, U, X, q, I⟩)
    obtain ⟨hs, ht, hg, hr', hu, hx, lt, px, det, gcd, e1, e2, last⟩ := I
    have er : r.natAbs = R := by rw [hr']; exact nabs_sign hs R
    have hR : R = 0 := by omega
    subst hR
    have eg : g.natAbs = G := by rw [hg]; exact nabs_sign hs G
    have eu : u.natAbs = U := by rw [hu]; exact nabs_sign ht U
    refine ⟨by rw [← gcd, eg]; simp, e1, hsz.2.1, ?_⟩
    rcases last with ⟨h1, h2, h3⟩ | ⟨hU, h1, h2⟩
    · rw [h2]; omega
    · have hq : 2 ≤ q := by
        rcases Nat.lt_or_ge q 2 with z | z
        · have : q = 0 ∨ q = 1 := by omega
          rcases this with rfl | rfl <;> omega
        · exact z
      have h3 : 2 * G ≤ q * G := Nat.mul_le_mul_right G hq
      have h4 : U * (2 * G) ≤ b.natAbs := Nat.le_trans (Nat.mul_le_mul_left U (by omega)) h1
      have z1 : 2 * G ≤ U * (2 * G) := Nat.le_mul_of_pos_left _ hU
      have z2 : U * (2 * G) = 2 * U * G := by grind
      have z3 : 2 * U ≤ 2 * U * G := Nat.le_mul_of_pos_right _ (by omega)
      have z4 := div_half e1 (by omega) (by omega) (by omega)
      have ha : a.natAbs = 0 → v.natAbs ≤ 1 := by omega
      omega
theorem div_told {a b g u v r x y : Int} (h : DivSt a b g u v r x y) (hr : r = 0) : (g < 0 → DivOk a b (-g) (-u) (-v)) ∧ (¬ g < 0 → DivOk a b g u v) := by
  obtain ⟨k1, k2, k3, k4⟩ := div_end h hr
  refine ⟨fun z => ⟨by omega, ?_, by omega, by omega⟩, fun z => ⟨by omega, k2, k3, k4⟩⟩
  rw [← k2, Int.neg_mul, Int.neg_mul]; omega
end M

/-! powers by n -/
namespace M
/-- the rest of a power -/
def pw (n a : Int) (e : Nat) : Int := a ^ e % n
theorem pw_range {n : Int} (hn : 0 < n) (a : Int) (e : Nat) : 0 ≤ pw n a e ∧ pw n a e < n := ⟨Int.emod_nonneg _ (by omega), Int.emod_lt_of_pos _ hn⟩
theorem pow_emod (a n : Int) (e : Nat) : (a % n) ^ e % n = a ^ e % n := by
  induction e with
  | zero => rw [Int.pow_zero, Int.pow_zero]
  | succ e ih => rw [Int.pow_succ, Int.pow_succ, Int.mul_emod, ih, Int.emod_emod_of_dvd _ (Int.dvd_refl n), ← Int.mul_emod]
theorem pw_mod (n a : Int) (e : Nat) : pw n (a % n) e = pw n a e := pow_emod a n e
/-- what the loop keeps: found * base ^ e -/
theorem pw_turn {n f b : Int} {e : Nat} {r : Int} (h : f * b ^ e % n = r) :
    (e % 2 = 1 → (f * b % n) * (b * b % n) ^ (e / 2) % n = r) ∧ (e % 2 ≠ 1 → f * (b * b % n) ^ (e / 2) % n = r) := by
  have sq : (b * b) ^ (e / 2) = b ^ (2 * (e / 2)) := by rw [Int.pow_mul, Int.pow_succ, Int.pow_succ, Int.pow_zero, Int.one_mul]
  constructor
  · intro ho
    have ee : e = 2 * (e / 2) + 1 := by omega
    rw [Int.mul_emod, Int.emod_emod_of_dvd _ (Int.dvd_refl n), pow_emod, ← Int.mul_emod, sq, ← h]
    conv => rhs; rw [ee, Int.pow_succ]
    congr 1
    grind
  · intro ho
    have ee : e = 2 * (e / 2) := by omega
    rw [Int.mul_emod, pow_emod, ← Int.mul_emod, sq, ← ee, h]
theorem pw_end {n f : Int} (h0 : 0 ≤ f) (h1 : f < n) {b r : Int} (h : f * b ^ 0 % n = r) : f = r := by
  rw [← h, Int.pow_zero, Int.mul_one, Int.emod_eq_of_lt h0 h1]
theorem pw_one {n a : Int} {e : Nat} : 1 % n * (a % n) ^ e % n = pw n a e := by
  rw [Int.mul_emod, Int.emod_emod_of_dvd _ (Int.dvd_refl n), pow_emod, ← Int.mul_emod, Int.one_mul]; rfl
theorem pw_mul (n a : Int) (e : Nat) : pw n a e * a % n = pw n a (e + 1) := by
  unfold pw
  rw [Int.mul_emod, Int.emod_emod_of_dvd _ (Int.dvd_refl n), ← Int.mul_emod, Int.pow_succ]
theorem pw_zero (n a : Int) : pw n a 0 = 1 % n := by unfold pw; rw [Int.pow_zero]
theorem gcd_mod (a n : Int) : Int.gcd (a % n) n = Int.gcd a n := by
  have e : a % n = a - n * (a / n) := by have := Int.emod_add_mul_ediv a n; omega
  rw [e, Int.gcd_comm, Int.gcd_sub_mul_left_right, Int.gcd_comm]
theorem inv_of {n a g u v : Int} (hn : 0 < n) (h : DivOk (a % n) n g u v) (hg : Int.gcd a n = 1) : (u % n * a - 1) % n = 0 := by
  have e := h.eq
  have hg' : g = 1 := by rw [h.hg, gcd_mod, hg]; rfl
  refine Int.emod_eq_zero_of_dvd ?_
  have e1 : a % n = a - n * (a / n) := by have := Int.emod_add_mul_ediv a n; omega
  have e2 : u % n = u - n * (u / n) := by have := Int.emod_add_mul_ediv u n; omega
  refine ⟨-(v) + u * (a / n) - (u / n) * a, ?_⟩
  rw [hg', e1] at e
  rw [e2]
  grind
theorem gcd_pos {a n : Int} (hn : 0 < n) : 0 < Int.gcd a n := Int.gcd_pos_of_ne_zero_right a (by omega)
/-- numbers with the same product by n -/
theorem inv_unit {n a b : Int} (h : (b * a - 1) % n = 0) : b * a % n = 1 % n := by
  have := Int.emod_emod_of_dvd (b * a) (Int.dvd_refl n)
  exact Int.emod_eq_emod_iff_emod_sub_eq_zero.mpr h
theorem inv_pow {n a b : Int} (h : (b * a - 1) % n = 0) (e : Nat) : (pw n b e * pw n a e - 1) % n = 0 := by
  have e1 : b * a % n = 1 % n := inv_unit h
  refine Int.emod_eq_emod_iff_emod_sub_eq_zero.mp ?_
  unfold pw
  rw [← Int.mul_emod, ← Int.mul_pow, ← pow_emod, e1, pow_emod, Int.one_pow]
theorem back_ok {n a b : Int} (hn : 0 < n) (h : (b * a - 1) % n = 0) (e : Nat) : (pw n b (e + 1) * pw n a e * a - 1) % n = 0 := by
  have k := inv_pow h (e + 1)
  rw [← pw_mul n a e] at k
  refine Int.emod_eq_emod_iff_emod_sub_eq_zero.mp ?_
  rw [← Int.emod_eq_emod_iff_emod_sub_eq_zero.mpr k, Int.mul_assoc, Int.mul_emod]
  conv => rhs; rw [Int.mul_emod, Int.emod_emod_of_dvd _ (Int.dvd_refl n)]
theorem gcd_abs (a : Int) {n : Int} (hn : 0 < n) : Nat.gcd n.natAbs (a.natAbs % n.natAbs) = Int.gcd a n := by
  rw [Nat.gcd_comm, ← Nat.gcd_rec, Nat.gcd_comm]; rfl
theorem pw_add (n a : Int) (e f : Nat) : pw n a (e + f) = pw n a e * pw n a f % n := by
  unfold pw
  rw [← Int.mul_emod, Int.pow_add]
theorem pw_pw (n a : Int) (e f : Nat) : pw n a (e * f) = pw n (pw n a e) f := by
  unfold pw
  rw [pow_emod, ← Int.pow_mul]
theorem pw_prod (n a b : Int) (e : Nat) : pw n (a * b) e = pw n a e * pw n b e % n := by
  unfold pw
  rw [← Int.mul_emod, Int.mul_pow]
theorem pw_congr {n a b : Int} (h : a % n = b % n) (e : Nat) : pw n a e = pw n b e := by rw [← pw_mod n a, ← pw_mod n b, h]
theorem inv_unique {n a b c : Int} (b0 : 0 ≤ b) (b1 : b < n) (c0 : 0 ≤ c) (c1 : c < n) (hb : (b * a - 1) % n = 0) (hc : (c * a - 1) % n = 0) : b = c := by
  have h1 : (b - c) % n = 0 := by
    obtain ⟨x, hx⟩ := Int.dvd_of_emod_eq_zero hb
    obtain ⟨y, hy⟩ := Int.dvd_of_emod_eq_zero hc
    refine Int.emod_eq_zero_of_dvd ⟨c * x - b * y, ?_⟩
    have e : b - c = c * (b * a - 1) - b * (c * a - 1) := by grind
    rw [e, hx, hy]; grind
  have h2 := Int.emod_eq_emod_iff_emod_sub_eq_zero.mpr h1
  rw [Int.emod_eq_of_lt b0 b1, Int.emod_eq_of_lt c0 c1] at h2
  exact h2
theorem emod_one_of {n x : Int} (h : (x - 1) % n = 0) : x % n = 1 % n := Int.emod_eq_emod_iff_emod_sub_eq_zero.mpr h
end M

/-! primes -/
namespace M
def Prime (p : Nat) : Prop := 2 ≤ p ∧ ∀ d, d ∣ p → d = 1 ∨ d = p
theorem Prime.pos {p : Nat} (h : Prime p) : 0 < p := by have := h.1; omega
theorem Prime.coprime {p a : Nat} (h : Prime p) (ha : ¬ p ∣ a) : Nat.gcd p a = 1 := by
  rcases h.2 _ (Nat.gcd_dvd_left p a) with e | e
  · exact e
  · exact absurd (e ▸ Nat.gcd_dvd_right p a) ha
theorem Prime.dvd_mul {p a b : Nat} (h : Prime p) (hd : p ∣ a * b) : p ∣ a ∨ p ∣ b := by
  by_cases ha : p ∣ a
  · exact .inl ha
  · exact .inr (Nat.Coprime.dvd_of_dvd_mul_left (h.coprime ha) hd)
theorem Prime.dvd_pow {p a : Nat} (h : Prime p) : ∀ {e : Nat}, p ∣ a ^ e → p ∣ a
  | 0, hd => by
    rw [Nat.pow_zero] at hd
    have := Nat.le_of_dvd (by decide) hd
    have := h.1; omega
  | e + 1, hd => by
    rw [Nat.pow_succ] at hd
    rcases h.dvd_mul hd with z | z
    · exact h.dvd_pow z
    · exact z
theorem Prime.eq_of_dvd {p q : Nat} (hp : Prime p) (hq : Prime q) (h : p ∣ q) : p = q := by
  rcases hq.2 p h with e | e
  · have := hp.1; omega
  · exact e
/-- each number from 2 on has a least divisor, a prime -/
theorem exists_prime : ∀ (n : Nat), 2 ≤ n → ∃ p, Prime p ∧ p ∣ n := by
  intro n
  induction n using Nat.strongRecOn with
  | _ n ih =>
    intro hn
    by_cases h : ∃ d, d ∣ n ∧ d ≠ 1 ∧ d ≠ n
    · obtain ⟨d, h1, h2, h3⟩ := h
      have hd : d ≤ n := Nat.le_of_dvd (by omega) h1
      have h0 : d ≠ 0 := fun z => by rw [z] at h1; have := Nat.eq_zero_of_zero_dvd h1; omega
      obtain ⟨p, hp, hpd⟩ := ih d (by omega) (by omega)
      exact ⟨p, hp, Nat.dvd_trans hpd h1⟩
    · refine ⟨n, ⟨hn, fun d hd => ?_⟩, Nat.dvd_refl n⟩
      by_cases h1 : d = 1
      · exact .inl h1
      · by_cases h2 : d = n
        · exact .inr h2
        · exact absurd ⟨d, hd, h1, h2⟩ h
/-- no lesser divisor from 2 to the root -/
theorem prime_of_no {n : Nat} (hn : 2 ≤ n) (h : ∀ d, 2 ≤ d → d * d ≤ n → ¬ d ∣ n) : Prime n := by
  obtain ⟨p, hp, hd⟩ := exists_prime n hn
  obtain ⟨c, hc⟩ := hd
  by_cases e : c = 1
  · subst e
    rw [Nat.mul_one] at hc
    rw [hc]; exact hp
  · exfalso
    have hc0 : 2 ≤ c := by
      rcases Nat.lt_or_ge c 2 with z | z
      · have : c = 0 ∨ c = 1 := by omega
        rcases this with rfl | rfl
        · omega
        · exact absurd rfl e
      · exact z
    have hp2 := hp.1
    rcases Nat.le_total p c with z | z
    · refine h p hp2 ?_ ⟨c, hc⟩
      rw [hc]; exact Nat.mul_le_mul_left p z
    · refine h c hc0 ?_ ⟨p, by rw [hc, Nat.mul_comm]⟩
      rw [hc]; exact Nat.mul_le_mul_right c z
/-- powers of a prime: what is left without it -/
theorem split_prime {q : Nat} (hq : Prime q) : ∀ (n : Nat), 0 < n → ∃ k m, n = q ^ k * m ∧ ¬ q ∣ m ∧ 0 < m := by
  intro n
  induction n using Nat.strongRecOn with
  | _ n ih =>
    intro hn
    by_cases h : q ∣ n
    · obtain ⟨c, hc⟩ := h
      have hc0 : 0 < c := by
        rcases Nat.eq_zero_or_pos c with z | z
        · rw [z] at hc; omega
        · exact z
      have hq2 := hq.1
      have hlt : c < n := by
        rw [hc]
        have : 2 * c ≤ q * c := Nat.mul_le_mul_right c hq2
        omega
      obtain ⟨k, m, h1, h2, h3⟩ := ih c hlt hc0
      exact ⟨k + 1, m, by rw [hc, h1, Nat.pow_succ]; grind, h2, h3⟩
    · exact ⟨0, n, by simp, h, hn⟩
theorem coprime_pow {q m : Nat} (hq : Prime q) (h : ¬ q ∣ m) (k : Nat) : Nat.gcd (q ^ k) m = 1 := Nat.Coprime.pow_left k (hq.coprime h)
/-- n divides m where each power of a prime that divides n does -/
theorem dvd_of_prime_powers : ∀ (n m : Nat), 0 < n → (∀ q k, Prime q → q ^ k ∣ n → q ^ k ∣ m) → n ∣ m := by
  intro n
  induction n using Nat.strongRecOn with
  | _ n ih =>
    intro m hn h
    by_cases h1 : n = 1
    · rw [h1]; exact Nat.one_dvd m
    · obtain ⟨q, hq, hd⟩ := exists_prime n (by omega)
      obtain ⟨k, c, e, hc, hc0⟩ := split_prime hq n hn
      have hk : 0 < k := by
        rcases Nat.eq_zero_or_pos k with z | z
        · rw [z, Nat.pow_zero, Nat.one_mul] at e; rw [e] at hd; exact absurd hd hc
        · exact z
      have hlt : c < n := by
        rw [e]
        have : q ^ 1 ≤ q ^ k := Nat.pow_le_pow_right hq.pos hk
        have h2 := hq.1
        rw [Nat.pow_one] at this
        have : 2 * c ≤ q ^ k * c := Nat.mul_le_mul_right c (by omega)
        omega
      have d1 : q ^ k ∣ m := h q k hq ⟨c, e⟩
      have d2 : c ∣ m := ih c hlt m hc0 fun r j hr hj => h r j hr (Nat.dvd_trans hj ⟨q ^ k, by rw [e, Nat.mul_comm]⟩)
      rw [e]
      exact Nat.Coprime.mul_dvd_of_dvd_of_dvd (coprime_pow hq hc k) d1 d2
end M

/-! numbers parted into primes -/
namespace M
def prodL : List (Nat × Nat) → Nat
  | [] => 1
  | x :: l => x.1 ^ x.2 * prodL l
theorem prodL_app (l m : List (Nat × Nat)) : prodL (l ++ m) = prodL l * prodL m := by
  induction l with
  | nil => simp [prodL]
  | cons x l ih => simp only [List.cons_append, prodL, ih]; grind
structure IsFac (n : Nat) (l : List (Nat × Nat)) : Prop where
  sorted : l.Pairwise (fun x y => x.1 < y.1)
  primes : ∀ x ∈ l, Prime x.1 ∧ 0 < x.2
  prod : prodL l = n
/-- so far: the primes below d are taken out -/
structure Fac (n0 : Nat) (l : List (Nat × Nat)) (n d : Nat) : Prop where
  sorted : l.Pairwise (fun x y => x.1 < y.1)
  below : ∀ x ∈ l, x.1 < d
  primes : ∀ x ∈ l, Prime x.1 ∧ 0 < x.2
  prod : prodL l * n = n0
  no : ∀ e, 2 ≤ e → e < d → ¬ e ∣ n
  npos : 0 < n
  dtwo : 2 ≤ d
theorem fac_start {n : Nat} (h : 0 < n) : Fac n [] n 2 := ⟨.nil, by simp, by simp, by simp [prodL], fun e h1 h2 => by omega, h, Nat.le_refl 2⟩
theorem fac_end {n0 n d : Nat} {l : List (Nat × Nat)} (h : Fac n0 l n d) (hn : n ≤ 1) : IsFac n0 l := by
  have : n = 1 := by have := h.npos; omega
  subst this
  exact ⟨h.sorted, h.primes, by rw [← h.prod, Nat.mul_one]⟩
section
variable {n0 n d : Nat} {l : List (Nat × Nat)}
theorem fac_le (h : Fac n0 l n d) (hn : 1 < n) : d ≤ n := by
  rcases Nat.lt_or_ge n d with z | z
  · exact absurd (Nat.dvd_refl n) (h.no n hn z)
  · exact z
/-- beyond the root what is left is a prime -/
theorem fac_jump (h : Fac n0 l n d) (hn : 1 < n) (hd : n < d * d) : Fac n0 l n n := by
  have hl := fac_le h hn
  refine ⟨h.sorted, fun x hx => Nat.lt_of_lt_of_le (h.below x hx) hl, h.primes, h.prod, fun e h1 h2 hd' => ?_, h.npos, hn⟩
  obtain ⟨c, hc⟩ := hd'
  have e1 : d ≤ e := by
    rcases Nat.lt_or_ge e d with z | z
    · exact absurd ⟨c, hc⟩ (h.no e h1 z)
    · exact z
  have c2 : 2 ≤ c := by
    rcases Nat.lt_or_ge c 2 with z | z
    · have : c = 0 ∨ c = 1 := by omega
      rcases this with rfl | rfl <;> omega
    · exact z
  have e2 : d ≤ c := by
    rcases Nat.lt_or_ge c d with z | z
    · exact absurd ⟨e, by rw [hc, Nat.mul_comm]⟩ (h.no c c2 z)
    · exact z
  have := Nat.mul_le_mul e1 e2
  omega
theorem fac_prime (h : Fac n0 l n d) (hd : d ∣ n) : Prime d := prime_of_no h.dtwo fun e h1 h2 h3 => by
  have : e < d := by
    rcases Nat.lt_or_ge e d with z | z
    · exact z
    · have := Nat.mul_le_mul z h1
      have h4 := h.dtwo
      have h5 : d * 2 ≤ e * e := Nat.le_trans this (Nat.le_refl _)
      omega
  exact h.no e h1 this (Nat.dvd_trans h3 hd)
theorem dvd_pow_self (d : Nat) {k : Nat} (hk : 0 < k) : d ∣ d ^ k := by
  obtain ⟨j, rfl⟩ : ∃ j, k = j + 1 := ⟨k - 1, by omega⟩
  rw [Nat.pow_succ]; exact Nat.dvd_mul_left d _
/-- d taken out k times, m left -/
theorem fac_step {k m : Nat} (h : Fac n0 l n d) (e : n = d ^ k * m) (hm : ¬ d ∣ m) : Fac n0 (if 0 < k then l ++ [(d, k)] else l) m (d + 1) := by
  have m0 : 0 < m := Nat.pos_of_ne_zero fun z => by rw [z, Nat.mul_zero] at e; have := h.npos; omega
  have hno : ∀ f, 2 ≤ f → f < d + 1 → ¬ f ∣ m := fun f h1 h2 h3 => by
    by_cases hf : f = d
    · exact hm (hf ▸ h3)
    · exact h.no f h1 (by omega) (by rw [e]; exact Nat.dvd_trans h3 (Nat.dvd_mul_left m _))
  have hd2 := h.dtwo
  by_cases hk : 0 < k
  · rw [if_pos hk]
    have hdn : d ∣ n := by
      rw [e]
      exact Nat.dvd_trans (dvd_pow_self d hk) (Nat.dvd_mul_right _ _)
    refine ⟨?_, fun x hx => ?_, fun x hx => ?_, ?_, hno, m0, by omega⟩
    · refine List.pairwise_append.mpr ⟨h.sorted, List.pairwise_singleton _ _, fun x hx y hy => ?_⟩
      rw [List.mem_singleton.mp hy]; exact h.below x hx
    · rcases List.mem_append.mp hx with z | z
      · have := h.below x z; omega
      · rw [List.mem_singleton.mp z]; exact Nat.lt_succ_self d
    · rcases List.mem_append.mp hx with z | z
      · exact h.primes x z
      · rw [List.mem_singleton.mp z]; exact ⟨fac_prime h hdn, hk⟩
    · rw [prodL_app, ← h.prod, e]; simp only [prodL]; grind
  · have k0 : k = 0 := by omega
    subst k0
    rw [if_neg (by omega)]
    have e' : n = m := by rw [e, Nat.pow_zero, Nat.one_mul]
    exact ⟨h.sorted, fun x hx => by have := h.below x hx; omega, h.primes, by rw [← e']; exact h.prod, hno, m0, by omega⟩
/-- an even number more may be left out -/
theorem fac_odd (h : Fac n0 l n d) (h2 : 2 < d) (he : d % 2 = 0) : Fac n0 l n (d + 1) := by
  refine ⟨h.sorted, fun x hx => by have := h.below x hx; omega, h.primes, h.prod, fun f h1 h3 h4 => ?_, h.npos, by omega⟩
  by_cases hf : f = d
  · have : 2 ∣ f := by rw [hf]; exact Nat.dvd_of_mod_eq_zero he
    exact h.no 2 (by decide) h2 (Nat.dvd_trans this h4)
  · exact h.no f h1 (by omega) h4
end
/-! what a parting tells -/
theorem prodL_dvd {l : List (Nat × Nat)} {x : Nat × Nat} (h : x ∈ l) : x.1 ^ x.2 ∣ prodL l := by
  induction l with
  | nil => simp at h
  | cons y l ih =>
    rcases List.mem_cons.mp h with z | z
    · rw [z]; exact Nat.dvd_mul_right _ _
    · exact Nat.dvd_trans (ih z) (Nat.dvd_mul_left _ _)
theorem fac_dvd {n : Nat} {l : List (Nat × Nat)} (h : IsFac n l) {x : Nat × Nat} (hx : x ∈ l) : x.1 ∣ n := by
  rw [← h.prod]
  refine Nat.dvd_trans ?_ (prodL_dvd hx)
  obtain ⟨j, e⟩ : ∃ j, x.2 = j + 1 := ⟨x.2 - 1, by have := (h.primes x hx).2; omega⟩
  rw [e, Nat.pow_succ]; exact Nat.dvd_mul_left _ _
theorem prime_in {l : List (Nat × Nat)} {q : Nat} (hq : Prime q) (hl : ∀ x ∈ l, Prime x.1 ∧ 0 < x.2) (h : q ∣ prodL l) : ∃ k, (q, k) ∈ l := by
  induction l with
  | nil =>
    simp only [prodL] at h
    have := Nat.le_of_dvd (by decide) h
    have := hq.1; omega
  | cons x l ih =>
    simp only [prodL] at h
    rcases hq.dvd_mul h with z | z
    · have := hq.eq_of_dvd (hl x (by simp)).1 (hq.dvd_pow z)
      exact ⟨x.2, by rw [this]; simp⟩
    · obtain ⟨k, hk⟩ := ih (fun y hy => hl y (by simp [hy])) z
      exact ⟨k, by simp [hk]⟩
theorem fac_prime_in {n q : Nat} {l : List (Nat × Nat)} (h : IsFac n l) (hq : Prime q) (hd : q ∣ n) : ∃ k, (q, k) ∈ l := prime_in hq h.primes (by rw [h.prod]; exact hd)
theorem Fac.of {n : Nat} {l : List (Nat × Nat)} (h : IsFac n l) (hn : 0 < n) : ∃ d, Fac n l 1 d := by
  have : ∃ d, ∀ x ∈ l, x.1 < d := by
    have key : ∀ l : List (Nat × Nat), ∃ d, ∀ x ∈ l, x.1 < d := fun l => by
      induction l with
      | nil => exact ⟨0, by simp⟩
      | cons y l ih =>
        obtain ⟨d, hd⟩ := ih
        exact ⟨d + y.1 + 1, fun x hx => by
          rcases List.mem_cons.mp hx with z | z
          · rw [z]; omega
          · have := hd x z; omega⟩
    exact key l
  obtain ⟨d, hd⟩ := this
  refine ⟨d + 2, h.sorted, fun x hx => by have := hd x hx; omega, h.primes, by rw [Nat.mul_one]; exact h.prod, fun e h1 h2 h3 => ?_, by decide, by omega⟩
  have := Nat.le_of_dvd (by decide) h3
  omega
end M

/-! orders by a prime, and a number of the order p - 1 -/
namespace M
/-! roots of a polynomial by a prime -/
def ev (l : List Int) (x : Int) : Int := l.foldr (fun c acc => c + x * acc) 0
theorem ev_cons (c : Int) (l : List Int) (x : Int) : ev (c :: l) x = c + x * ev l x := rfl
def sd (r : Int) : List Int → List Int
  | [] => []
  | [_] => []
  | _ :: d :: l => ev (d :: l) r :: sd r (d :: l)
def lead (l : List Int) : Int := l.getLast?.getD 0
theorem sd_len (r : Int) : ∀ (c : Int) (l : List Int), (sd r (c :: l)).length = l.length
  | _, [] => rfl
  | _, d :: l => by rw [sd, List.length_cons, List.length_cons, sd_len r d l]
theorem sd_ev (r x : Int) : ∀ (c : Int) (l : List Int), ev (c :: l) x - ev (c :: l) r = (x - r) * ev (sd r (c :: l)) x
  | c, [] => by simp [ev, sd]
  | c, d :: l => by
    have ih := sd_ev r x d l
    show (c + x * ev (d :: l) x) - (c + r * ev (d :: l) r) = (x - r) * (ev (d :: l) r + x * ev (sd r (d :: l)) x)
    generalize ev (d :: l) x = A at *
    generalize ev (d :: l) r = B at *
    generalize ev (sd r (d :: l)) x = C at *
    grind
theorem sd_lead (r : Int) : ∀ (c d : Int) (l : List Int), lead (sd r (c :: d :: l)) = lead (c :: d :: l)
  | c, d, [] => by simp [sd, lead, ev]
  | c, d, e :: l => by
    have ih := sd_lead r d e l
    rw [sd]
    unfold lead at *
    rw [List.getLast?_cons_cons] 
    have h : sd r (d :: e :: l) ≠ [] := by rw [sd]; simp
    rw [List.getLast?_cons_of_ne_nil h]
    exact ih
theorem dvd_mul_int {p : Nat} (hp : Prime p) {a b : Int} (h : (p : Int) ∣ a * b) : (p : Int) ∣ a ∨ (p : Int) ∣ b := by
  have h1 := Int.ofNat_dvd_left.mp h
  rw [Int.natAbs_mul] at h1
  rcases hp.dvd_mul h1 with z | z
  · exact .inl (Int.ofNat_dvd_left.mpr z)
  · exact .inr (Int.ofNat_dvd_left.mpr z)
/-- as many roots, apart by p, as coefficients: the leading one is divided -/
theorem roots_lead {p : Nat} (hp : Prime p) : ∀ (d : Nat) (c : List Int) (rs : List Int), c.length = d + 1 → rs.length = d + 1 → rs.Pairwise (fun x y => ¬ (p : Int) ∣ y - x) → (∀ r ∈ rs, (p : Int) ∣ ev c r) → (p : Int) ∣ lead c
  | 0, c, rs, hc, hr, _, h => by
    match c, rs, hc, hr with
    | [c], [r], _, _ =>
      have := h r (by simp)
      simpa [ev, lead] using this
  | d + 1, c, rs, hc, hr, hd, h => by
    match c, rs, hc, hr with
    | c0 :: c1 :: c, r :: rs, hc, hr =>
      rw [← sd_lead r c0 c1 c]
      rw [List.pairwise_cons] at hd
      refine roots_lead hp d (sd r (c0 :: c1 :: c)) rs (by rw [sd_len]; simpa using hc) (by simpa using hr) hd.2 fun s hs => ?_
      have e := sd_ev r s c0 (c1 :: c)
      have h1 := Int.dvd_sub (h s (by simp [hs])) (h r (by simp))
      rw [e] at h1
      rcases dvd_mul_int hp h1 with z | z
      · exact absurd z (hd.1 s hs)
      · exact z
theorem ev_xn (m : Nat) (x : Int) : ev (List.replicate m 0 ++ [1]) x = x ^ m := by
  induction m with
  | zero => simp [ev]
  | succ m ih =>
    rw [List.replicate_succ, List.cons_append, ev_cons, ih, Int.pow_succ]
    grind
/-- at most m numbers, apart by p, whose power to m is 1 -/
theorem roots_le {p m : Nat} (hp : Prime p) (hm : 0 < m) {rs : List Int} (hd : rs.Pairwise (fun x y => ¬ (p : Int) ∣ y - x)) (h : ∀ r ∈ rs, (p : Int) ∣ r ^ m - 1) : rs.length ≤ m := by
  rcases Nat.lt_or_ge m rs.length with z | z
  · exfalso
    obtain ⟨k, rfl⟩ : ∃ k, m = k + 1 := ⟨m - 1, by omega⟩
    have hl := roots_lead hp (k + 1) ((-1) :: (List.replicate k 0 ++ [1])) (rs.take (k + 2)) (by simp) (by rw [List.length_take]; omega)
      (hd.sublist (List.take_sublist _ _)) fun r hr => by
        have h1 := h r (List.mem_of_mem_take hr)
        rw [ev_cons, ev_xn]
        have e : -1 + r * r ^ k = r ^ (k + 1) - 1 := by rw [Int.pow_succ]; grind
        rw [e]; exact h1
    have e : lead ((-1) :: (List.replicate k 0 ++ [1])) = 1 := by
      unfold lead
      rw [← List.cons_append, List.getLast?_concat]; rfl
    rw [e] at hl
    have h2 := Int.le_of_dvd (by decide) hl
    have := hp.1
    omega
  · exact z
/-! pigeons -/
theorem pig : ∀ (n : Nat) (l : List Nat), l.Nodup → (∀ x ∈ l, x < n) → l.length ≤ n
  | 0, l, _, h => by
    match l with
    | [] => exact Nat.le_refl 0
    | x :: l => exact absurd (h x (by simp)) (by omega)
  | n + 1, l, hd, h => by
    by_cases hn : n ∈ l
    · obtain ⟨a, b, e⟩ := List.append_of_mem hn
      subst e
      have h1 := pig n (a ++ b) (by
        have := List.nodup_append.mp hd
        have h2 := List.nodup_cons.mp this.2.1
        refine List.nodup_append.mpr ⟨this.1, h2.2, fun x hx y hy => this.2.2 x hx y (by simp [hy])⟩) fun x hx => by
          have h2 : x < n + 1 := h x (by rcases List.mem_append.mp hx with z | z <;> simp [z])
          have h3 : x ≠ n := fun e => by
            subst e
            have := List.nodup_append.mp hd
            rcases List.mem_append.mp hx with z | z
            · exact this.2.2 x z x (by simp) rfl
            · exact (List.nodup_cons.mp this.2.1).1 z
          omega
      rw [List.length_append] at h1 ⊢
      rw [List.length_cons]; omega
    · exact Nat.le_succ_of_le (pig n l hd fun x hx => by
        have h2 := h x hx
        have h3 : x ≠ n := fun e => hn (e ▸ hx)
        omega)
end M

/-! orders -/
namespace M
def is1 (p : Nat) (a : Int) (e : Nat) : Prop := (p : Int) ∣ a ^ e - 1
def un (p : Nat) (a : Int) : Prop := ¬ (p : Int) ∣ a
structure Ord (p : Nat) (a : Int) (m : Nat) : Prop where
  pos : 0 < m
  one : is1 p a m
  least : ∀ f, 0 < f → is1 p a f → m ≤ f
theorem exists_min {P : Nat → Prop} : ∀ n, P n → ∃ m, P m ∧ ∀ k, P k → m ≤ k := by
  intro n
  induction n using Nat.strongRecOn with
  | _ n ih =>
    intro h
    by_cases c : ∃ k, P k ∧ k < n
    · obtain ⟨k, h1, h2⟩ := c
      exact ih k h2 h1
    · exact ⟨n, h, fun k hk => by
        rcases Nat.lt_or_ge k n with z | z
        · exact absurd ⟨k, hk, z⟩ c
        · exact z⟩
theorem exists_max {P : Nat → Prop} (B : Nat) (hB : ∀ n, P n → n ≤ B) {n : Nat} (h : P n) : ∃ m, P m ∧ ∀ k, P k → k ≤ m := by
  obtain ⟨d, ⟨m, hm, e⟩, hd⟩ := exists_min (P := fun d => ∃ m, P m ∧ d = B - m) (B - n) ⟨n, h, rfl⟩
  refine ⟨m, hm, fun k hk => ?_⟩
  have h1 := hd (B - k) ⟨k, hk, rfl⟩
  have := hB k hk
  have := hB m hm
  omega
section
variable {p : Nat} {a b : Int} {e f m n : Nat}
theorem one_zero : is1 p a 0 := by unfold is1; rw [Int.pow_zero]; simp
theorem one_add (h : is1 p a e) (h' : is1 p a f) : is1 p a (e + f) := by
  unfold is1 at *
  have : a ^ (e + f) - 1 = a ^ e * (a ^ f - 1) + (a ^ e - 1) := by rw [Int.pow_add]; grind
  rw [this]
  exact Int.dvd_add (Int.dvd_trans h' ⟨a ^ e, Int.mul_comm _ _⟩) h
theorem one_mul_ (h : is1 p a e) (k : Nat) : is1 p a (e * k) := by
  induction k with
  | zero => rw [Nat.mul_zero]; exact one_zero
  | succ k ih => rw [Nat.mul_succ]; exact one_add ih h
theorem one_of_dvd (h : is1 p a e) (d : e ∣ f) : is1 p a f := by
  obtain ⟨k, rfl⟩ := d
  exact one_mul_ h k
theorem not_dvd_of_one (hp : Prime p) (h : is1 p a e) : ¬ (p : Int) ∣ a ^ e := fun z => by
  have h1 := Int.dvd_sub z h
  rw [show a ^ e - (a ^ e - 1) = 1 by omega] at h1
  have h2 := Int.le_of_dvd (by decide) h1
  have := hp.1
  omega
theorem one_sub (hp : Prime p) (h : is1 p a (e + f)) (h' : is1 p a e) : is1 p a f := by
  have n1 := not_dvd_of_one hp h'
  unfold is1 at *
  have : a ^ (e + f) - 1 = a ^ e * (a ^ f - 1) + (a ^ e - 1) := by rw [Int.pow_add]; grind
  rw [this] at h
  have h2 := Int.dvd_sub h h'
  rw [show a ^ e * (a ^ f - 1) + (a ^ e - 1) - (a ^ e - 1) = a ^ e * (a ^ f - 1) by omega] at h2
  rcases dvd_mul_int hp h2 with z | z
  · exact absurd z n1
  · exact z
theorem Ord.dvd (hp : Prime p) (o : Ord p a m) (h : is1 p a f) : m ∣ f := by
  have h1 : is1 p a (m * (f / m)) := one_mul_ o.one _
  have h2 : is1 p a (f % m) := one_sub hp (e := m * (f / m)) (by rw [Nat.div_add_mod]; exact h) h1
  rcases Nat.eq_zero_or_pos (f % m) with z | z
  · exact Nat.dvd_of_mod_eq_zero z
  · have := o.least _ z h2
    have := Nat.mod_lt f o.pos
    omega
theorem Ord.iff (hp : Prime p) (o : Ord p a m) : is1 p a f ↔ m ∣ f := ⟨o.dvd hp, one_of_dvd o.one⟩
theorem Ord.of_iff (hm : 0 < m) (h : ∀ f, is1 p a f ↔ m ∣ f) : Ord p a m := ⟨hm, (h m).mpr (Nat.dvd_refl m), fun f hf h1 => Nat.le_of_dvd hf ((h f).mp h1)⟩
theorem Ord.unique (hp : Prime p) (o : Ord p a m) (o' : Ord p a n) : m = n := Nat.dvd_antisymm (o.dvd hp o'.one) (o'.dvd hp o.one)
theorem unit_pow (hp : Prime p) (h : un p a) : ∀ e, ¬ (p : Int) ∣ a ^ e
  | 0 => by
    rw [Int.pow_zero]
    intro z
    have := Int.le_of_dvd (by decide) z
    have := hp.1
    omega
  | e + 1 => by
    rw [Int.pow_succ]
    intro z
    rcases dvd_mul_int hp z with z | z
    · exact unit_pow hp h e z
    · exact h z
/-- two powers alike -/
theorem one_of_alike (hp : Prime p) (h : un p a) (hf : (p : Int) ∣ a ^ (e + f) - a ^ e) : is1 p a f := by
  have : a ^ (e + f) - a ^ e = a ^ e * (a ^ f - 1) := by rw [Int.pow_add]; grind
  rw [this] at hf
  rcases dvd_mul_int hp hf with z | z
  · exact absurd z (unit_pow hp h e)
  · exact z
theorem toNat_alike {x y : Int} (hp : 0 < p) (h : (x % (p : Int)).toNat = (y % (p : Int)).toNat) : (p : Int) ∣ y - x := by
  have h1 := Int.emod_nonneg x (show (p : Int) ≠ 0 by omega)
  have h2 := Int.emod_nonneg y (show (p : Int) ≠ 0 by omega)
  have h3 : y % (p : Int) = x % p := by omega
  exact Int.dvd_of_emod_eq_zero (Int.emod_eq_emod_iff_emod_sub_eq_zero.mp h3)
/-- the powers below a bound that has no 1 behind it are unlike, none of them nought -/
theorem powers_le (hp : Prime p) (h : un p a) (no : ∀ f, 0 < f → f < n → ¬ is1 p a f) : n ≤ p - 1 := by
  have hp0 := hp.pos
  have hpos : ∀ i, 0 < (a ^ i % (p : Int)).toNat := fun i => by
    have h1 := Int.emod_nonneg (a ^ i) (show (p : Int) ≠ 0 by omega)
    have h2 : a ^ i % (p : Int) ≠ 0 := fun z => unit_pow hp h i (Int.dvd_of_emod_eq_zero z)
    omega
  have hlt : ∀ i, (a ^ i % (p : Int)).toNat < p := fun i => by
    have h1 := Int.emod_nonneg (a ^ i) (show (p : Int) ≠ 0 by omega)
    have h2 := Int.emod_lt_of_pos (a ^ i) (show (0 : Int) < p by omega)
    omega
  have h1 := pig (p - 1) ((List.range n).map fun i => (a ^ i % (p : Int)).toNat - 1) (by
    unfold List.Nodup
    rw [List.pairwise_map]
    refine List.Pairwise.imp_of_mem ?_ (List.pairwise_lt_range (n := n))
    intro i j hi hj hij e
    have hj' := List.mem_range.mp hj
    have e2 : (a ^ i % (p : Int)).toNat = (a ^ j % (p : Int)).toNat := by have := hpos i; have := hpos j; omega
    have e3 := toNat_alike hp0 e2
    obtain ⟨d, rfl⟩ : ∃ d, j = i + d := ⟨j - i, by omega⟩
    exact no d (by omega) (by omega) (one_of_alike hp h e3)) fun x hx => by
      obtain ⟨i, _, rfl⟩ := List.mem_map.mp hx
      have := hpos i; have := hlt i
      omega
  rwa [List.length_map, List.length_range] at h1
theorem exists_ord (hp : Prime p) (h : un p a) : ∃ m, Ord p a m := by
  have ex : ∃ e, 0 < e ∧ is1 p a e := by
    refine Classical.byContradiction fun no => ?_
    have := powers_le (n := p) hp h fun f hf _ hf' => no ⟨f, hf, hf'⟩
    have := hp.1
    omega
  obtain ⟨e, he⟩ := ex
  obtain ⟨m, h1, h2⟩ := exists_min (P := fun e => 0 < e ∧ is1 p a e) e he
  exact ⟨m, h1.1, h1.2, fun f hf h => h2 f ⟨hf, h⟩⟩
theorem Ord.le (hp : Prime p) (h : un p a) (o : Ord p a m) : m ≤ p - 1 := powers_le hp h fun f h0 h1 h2 => by have := o.least f h0 h2; omega
theorem Ord.unit (hp : Prime p) (o : Ord p a m) : un p a := fun z => by
  have h1 := not_dvd_of_one hp o.one
  obtain ⟨k, rfl⟩ : ∃ k, m = k + 1 := ⟨m - 1, by have := o.pos; omega⟩
  rw [Int.pow_succ] at h1
  exact h1 (Int.dvd_mul_of_dvd_right z)
theorem one_pow_iff {d : Nat} : is1 p (a ^ d) f ↔ is1 p a (d * f) := by unfold is1; rw [Int.pow_mul]
theorem Ord.pow (hp : Prime p) {d c : Nat} (o : Ord p a (d * c)) : Ord p (a ^ d) c := by
  have h0 := o.pos
  have hd : 0 < d := Nat.pos_of_ne_zero fun z => by rw [z, Nat.zero_mul] at h0; omega
  have hc : 0 < c := Nat.pos_of_ne_zero fun z => by rw [z, Nat.mul_zero] at h0; omega
  refine Ord.of_iff hc fun f => ?_
  rw [one_pow_iff, o.iff hp]
  exact Nat.mul_dvd_mul_iff_left hd
theorem one_left (h1 : (p : Int) ∣ (a * b) ^ e - 1) (h2 : is1 p b e) : is1 p a e := by
  unfold is1 at *
  have : (a * b) ^ e - 1 = a ^ e * (b ^ e - 1) + (a ^ e - 1) := by rw [Int.mul_pow]; grind
  rw [this] at h1
  have h3 := Int.dvd_sub h1 (Int.dvd_trans h2 ⟨a ^ e, Int.mul_comm _ _⟩)
  rw [show a ^ e * (b ^ e - 1) + (a ^ e - 1) - a ^ e * (b ^ e - 1) = a ^ e - 1 by omega] at h3
  exact h3
theorem one_both (h1 : is1 p a e) (h2 : is1 p b e) : is1 p (a * b) e := by
  unfold is1 at *
  have : (a * b) ^ e - 1 = a ^ e * (b ^ e - 1) + (a ^ e - 1) := by rw [Int.mul_pow]; grind
  rw [this]
  exact Int.dvd_add (Int.dvd_trans h2 ⟨a ^ e, Int.mul_comm _ _⟩) h1
theorem Ord.mul_ (hp : Prime p) (o : Ord p a m) (o' : Ord p b n) (g : Nat.gcd m n = 1) : Ord p (a * b) (m * n) := by
  refine ⟨Nat.mul_pos o.pos o'.pos, one_both (one_of_dvd o.one (Nat.dvd_mul_right m n)) (one_of_dvd o'.one (Nat.dvd_mul_left n m)), fun f hf h => ?_⟩
  have h1 : is1 p a (f * n) := one_left (b := b) (one_mul_ h n) (one_of_dvd o'.one (Nat.dvd_mul_left n f))
  have h2 : is1 p b (f * m) := one_left (b := a) (by rw [Int.mul_comm]; exact one_mul_ h m) (one_of_dvd o.one (Nat.dvd_mul_left m f))
  have d1 : m ∣ f := Nat.Coprime.dvd_of_dvd_mul_right g (o.dvd hp h1)
  have d2 : n ∣ f := Nat.Coprime.dvd_of_dvd_mul_right (Nat.Coprime.symm g) (o'.dvd hp h2)
  exact Nat.le_of_dvd hf (Nat.Coprime.mul_dvd_of_dvd_of_dvd g d1 d2)
/-- there is a number of the order p - 1, and each number's power to it is 1 -/
theorem full_exists (hp : Prime p) : ∃ a, Ord p a (p - 1) := by
  have hp2 := hp.1
  have u1 : un p 1 := fun z => by have := Int.le_of_dvd (by decide) z; omega
  obtain ⟨n1, o1⟩ := exists_ord hp u1
  obtain ⟨mx, ⟨a, o⟩, hmax⟩ := exists_max (P := fun m => ∃ a, Ord p a m) (p - 1) (fun m ⟨a, o⟩ => o.le hp (o.unit hp)) ⟨1, o1⟩
  have all : ∀ b n, Ord p b n → n ∣ mx := fun b n ob => by
    refine dvd_of_prime_powers n mx ob.pos fun q k hq hd => Classical.byContradiction fun no => ?_
    obtain ⟨v, c, e, hc, hc0⟩ := split_prime hq mx o.pos
    obtain ⟨d, hd⟩ := hd
    have ov : Ord p (a ^ (q ^ v)) c := Ord.pow hp (by rw [← e]; exact o)
    have ow : Ord p (b ^ d) (q ^ k) := Ord.pow hp (by rw [Nat.mul_comm, ← hd]; exact ob)
    have om := Ord.mul_ hp ov ow (Nat.Coprime.symm (coprime_pow hq hc k))
    have h1 := hmax _ ⟨_, om⟩
    have hvk : v < k := by
      rcases Nat.lt_or_ge v k with z | z
      · exact z
      · exact absurd (Nat.dvd_trans (Nat.pow_dvd_pow q z) ⟨c, e⟩) no
    have h2 : q ^ v < q ^ k := Nat.pow_lt_pow_right (by have := hq.1; omega) hvk
    have h3 : c * q ^ v < c * q ^ k := Nat.mul_lt_mul_of_pos_left h2 hc0
    rw [e, Nat.mul_comm (q ^ v)] at h1
    omega
  have h1 : p - 1 ≤ mx := by
    have h := roots_le hp o.pos (rs := (List.range (p - 1)).map fun i => (((i + 1 : Nat)) : Int)) (by
      rw [List.pairwise_map]
      refine List.Pairwise.imp_of_mem ?_ (List.pairwise_lt_range (n := p - 1))
      intro i j hi hj hij z
      have := List.mem_range.mp hj
      have := Int.le_of_dvd (by omega) z
      omega) fun r hr => by
        obtain ⟨i, hi, rfl⟩ := List.mem_map.mp hr
        have hi' := List.mem_range.mp hi
        have ui : un p ((i + 1 : Nat) : Int) := fun z => by have := Int.le_of_dvd (by omega) z; omega
        obtain ⟨n, on⟩ := exists_ord hp ui
        exact one_of_dvd on.one (all _ _ on)
    rwa [List.length_map, List.length_range] at h
  have h2 := o.le hp (o.unit hp)
  exact ⟨a, by rw [show p - 1 = mx by omega]; exact o⟩
theorem fermat (hp : Prime p) (h : un p a) : is1 p a (p - 1) := by
  -- the number's order divides that of a full one
  have hp2 := hp.1
  obtain ⟨g, og⟩ := full_exists hp
  obtain ⟨n, on⟩ := exists_ord hp h
  refine one_of_dvd on.one (dvd_of_prime_powers n _ on.pos fun q k hq hd => Classical.byContradiction fun no => ?_)
  obtain ⟨v, c, e, hc, hc0⟩ := split_prime hq (p - 1) (by omega)
  obtain ⟨d, hd⟩ := hd
  have ov : Ord p (g ^ (q ^ v)) c := Ord.pow hp (by rw [← e]; exact og)
  have ow : Ord p (a ^ d) (q ^ k) := Ord.pow hp (by rw [Nat.mul_comm, ← hd]; exact on)
  have om := Ord.mul_ hp ov ow (Nat.Coprime.symm (coprime_pow hq hc k))
  have h1 := om.le hp (om.unit hp)
  have hvk : v < k := by
    rcases Nat.lt_or_ge v k with z | z
    · exact z
    · exact absurd (Nat.dvd_trans (Nat.pow_dvd_pow q z) ⟨c, e⟩) no
  have h2 : q ^ v < q ^ k := Nat.pow_lt_pow_right (by have := hq.1; omega) hvk
  have h3 : c * q ^ v < c * q ^ k := Nat.mul_lt_mul_of_pos_left h2 hc0
  rw [Nat.mul_comm (q ^ v)] at e
  omega
/-- full, by the primes of p - 1 -/
theorem ord_of_primes (hp : Prime p) (h1 : is1 p a n) (hn : 0 < n) (h : ∀ q, Prime q → q ∣ n → ¬ is1 p a (n / q)) : Ord p a n := by
  have hu : un p a := fun z => by
    obtain ⟨k, rfl⟩ : ∃ k, n = k + 1 := ⟨n - 1, by omega⟩
    exact not_dvd_of_one hp h1 (by rw [Int.pow_succ]; exact Int.dvd_mul_of_dvd_right z)
  obtain ⟨m, o⟩ := exists_ord hp hu
  obtain ⟨c, hc⟩ := o.dvd hp h1
  by_cases e : c = 1
  · rw [e, Nat.mul_one] at hc
    rw [hc]; exact o
  · exfalso
    have hc0 : c ≠ 0 := fun z => by rw [z, Nat.mul_zero] at hc; omega
    obtain ⟨q, hq, d, hd⟩ := exists_prime c (by omega)
    refine h q hq ⟨m * d, by rw [hc, hd]; grind⟩ (one_of_dvd o.one ⟨d, ?_⟩)
    rw [hc, hd, show m * (q * d) = q * (m * d) by grind]
    exact Nat.mul_div_cancel_left _ hq.pos
end
end M

/-! full numbers, by the primes of p - 1 -/
namespace M
theorem pw_one_iff {p : Nat} (hp : 2 ≤ p) {a : Int} {e : Nat} : pw p a e = 1 ↔ is1 p a e := by
  unfold pw is1
  have h1 : (1 : Int) % (p : Int) = 1 := Int.emod_eq_of_lt (by decide) (by omega)
  constructor
  · intro h
    have h2 : a ^ e % (p : Int) = 1 % p := by rw [h, h1]
    exact Int.dvd_of_emod_eq_zero (Int.emod_eq_emod_iff_emod_sub_eq_zero.mp h2)
  · intro h
    rw [← h1]
    exact Int.emod_eq_emod_iff_emod_sub_eq_zero.mpr (Int.emod_eq_zero_of_dvd h)
theorem un_small {p : Nat} {a : Int} (h0 : 0 < a) (h1 : a < p) : un p a := fun z => by have := Int.le_of_dvd h0 z; omega
theorem un_iff {p : Nat} {a : Int} : un p a ↔ a % (p : Int) ≠ 0 := ⟨fun h z => h (Int.dvd_of_emod_eq_zero z), fun h z => h (Int.emod_eq_zero_of_dvd z)⟩
theorem full_iff {p : Nat} (hp : Prime p) {a : Int} (ha : un p a) {l : List (Nat × Nat)} (hl : IsFac (p - 1) l) : Ord p a (p - 1) ↔ ∀ x ∈ l, pw p a ((p - 1) / x.1) ≠ 1 := by
  have hp2 := hp.1
  constructor
  · intro o x hx z
    have h1 := (pw_one_iff hp2).mp z
    have hq := (hl.primes x hx).1
    have hd := fac_dvd hl hx
    have hq2 := hq.1
    have h2 := o.least _ (Nat.div_pos (Nat.le_of_dvd (by omega) hd) hq.pos) h1
    have h3 : (p - 1) / x.1 < p - 1 := Nat.div_lt_self (by omega) (by omega)
    omega
  · intro h
    refine ord_of_primes hp (fermat hp ha) (by omega) fun q hq hd z => ?_
    obtain ⟨k, hk⟩ := fac_prime_in hl hq hd
    exact h _ hk ((pw_one_iff hp2).mpr z)
theorem is1_congr {p : Nat} {a b : Int} (h : (p : Int) ∣ a - b) (e : Nat) : is1 p a e ↔ is1 p b e := by
  have key : ∀ {a b : Int}, (p : Int) ∣ a - b → is1 p a e → is1 p b e := fun {a b} h h1 => by
    unfold is1 at *
    have h2 : a ^ e % (p : Int) = b ^ e % p := by
      have h3 : a % (p : Int) = b % p := Int.emod_eq_emod_iff_emod_sub_eq_zero.mpr (Int.emod_eq_zero_of_dvd h)
      rw [← pow_emod, h3, pow_emod]
    have h4 := Int.dvd_of_emod_eq_zero (Int.emod_eq_emod_iff_emod_sub_eq_zero.mp h2.symm)
    have h5 := Int.dvd_add h4 h1
    rw [show b ^ e - a ^ e + (a ^ e - 1) = b ^ e - 1 by omega] at h5
    exact h5
  refine ⟨key h, key ?_⟩
  rw [show b - a = -(a - b) by omega]
  exact Int.dvd_neg.mpr h
theorem Ord.congr {p : Nat} {a b : Int} {m : Nat} (h : (p : Int) ∣ a - b) (o : Ord p a m) : Ord p b m := ⟨o.pos, (is1_congr h _).mp o.one, fun f hf z => o.least f hf ((is1_congr h _).mpr z)⟩
theorem full_small {p : Nat} (hp : Prime p) : ∃ f : Nat, 0 < f ∧ f < p ∧ Ord p (f : Int) (p - 1) := by
  obtain ⟨a, o⟩ := full_exists hp
  have hp0 := hp.pos
  have h1 := Int.emod_nonneg a (show (p : Int) ≠ 0 by omega)
  have h2 := Int.emod_lt_of_pos a (show (0 : Int) < p by omega)
  have h3 := un_iff.mp (o.unit hp)
  refine ⟨(a % (p : Int)).toNat, by omega, by omega, ?_⟩
  rw [Int.toNat_of_nonneg h1]
  refine o.congr ?_
  have := Int.emod_add_mul_ediv a p
  exact ⟨a / p, by omega⟩
/-- the least one -/
structure LeastFull (p f : Nat) : Prop where
  f0 : 0 < f
  f1 : f < p
  full : Ord p (f : Int) (p - 1)
  least : ∀ g : Nat, 0 < g → g < f → ¬Ord p (g : Int) (p - 1)
theorem paper_prime {p q n : Nat} (hp : Prime p) (hq : Prime q) (hd : q ∣ p - 1) (hn : p ≤ 2 ^ (n + 1)) : q ≤ 2 ^ n := by
  obtain ⟨c, hc⟩ := hd
  have hp2 := hp.1
  have hq2 := hq.1
  rw [Nat.pow_succ] at hn
  by_cases h : 2 ≤ c
  · have : q * 2 ≤ q * c := Nat.mul_le_mul_left q h
    omega
  · have : c = 0 ∨ c = 1 := by omega
    rcases this with rfl | rfl
    · omega
    · rw [Nat.mul_one] at hc
      -- p and p - 1 are primes
      by_cases he : p % 2 = 0
      · rcases hp.2 2 (Nat.dvd_of_mod_eq_zero he) with z | z <;> omega
      · have : 2 ∣ q := Nat.dvd_of_mod_eq_zero (by omega)
        rcases hq.2 2 this with z | z
        · omega
        · omega
end M

/-! the greatest prime below 10 ** 9, and a prime from any number below it on -/
namespace M
/-- no odd number from d on, k of them, divides n -/
def noOdd (n : Nat) : Nat → Nat → Bool
  | 0, _ => true
  | k + 1, d => (n % d != 0) && noOdd n k (d + 2)
theorem noOdd_at {n : Nat} : ∀ {k d : Nat}, noOdd n k d = true → ∀ j, j < k → n % (d + 2 * j) ≠ 0
  | 0, _, _, j, h => by omega
  | k + 1, d, h, j, hj => by
    simp only [noOdd, Bool.and_eq_true, bne_iff_ne, ne_eq] at h
    rcases j with _ | j
    · exact h.1
    · have := noOdd_at h.2 j (by omega)
      rw [show d + 2 * (j + 1) = d + 2 + 2 * j by omega]; exact this
set_option maxRecDepth 100000 in
theorem big_ok : noOdd 999999937 15811 3 = true := by decide +kernel
theorem big_prime : Prime 999999937 := prime_of_no (by decide) fun d h1 h2 h3 => by
  have h4 : d < 31623 := by
    rcases Nat.lt_or_ge d 31623 with z | z
    · exact z
    · have := Nat.mul_le_mul z z; omega
  have h5 := Nat.mod_eq_zero_of_dvd h3
  by_cases e : d % 2 = 0
  · have : 2 ∣ 999999937 := Nat.dvd_trans (Nat.dvd_of_mod_eq_zero e) h3
    have := Nat.mod_eq_zero_of_dvd this
    omega
  · have h6 := noOdd_at big_ok ((d - 3) / 2) (by omega)
    rw [show 3 + 2 * ((d - 3) / 2) = d by omega] at h6
    exact h6 h5
end M

/-! orders by any number; what is taken out of a number whose power is 1 -/
namespace M
section
variable {n : Nat} {a b : Int} {e f m q o : Nat}
theorem one_subN (h : is1 n a (e + f)) (h' : is1 n a e) : is1 n a f := by
  unfold is1 at *
  have : a ^ (e + f) - 1 = a ^ f * (a ^ e - 1) + (a ^ f - 1) := by rw [Int.pow_add]; grind
  rw [this] at h
  have h3 := Int.dvd_sub h (Int.dvd_trans h' ⟨a ^ f, Int.mul_comm _ _⟩)
  rw [show a ^ f * (a ^ e - 1) + (a ^ f - 1) - a ^ f * (a ^ e - 1) = a ^ f - 1 by omega] at h3
  exact h3
theorem Ord.dvdN (o : Ord n a m) (h : is1 n a f) : m ∣ f := by
  have h1 : is1 n a (m * (f / m)) := one_mul_ o.one _
  have h2 : is1 n a (f % m) := one_subN (e := m * (f / m)) (by rw [Nat.div_add_mod]; exact h) h1
  rcases Nat.eq_zero_or_pos (f % m) with z | z
  · exact Nat.dvd_of_mod_eq_zero z
  · have := o.least _ z h2
    have := Nat.mod_lt f o.pos
    omega
theorem Ord.iffN (o : Ord n a m) : is1 n a f ↔ m ∣ f := ⟨o.dvdN, one_of_dvd o.one⟩
theorem Ord.uniqueN (o : Ord n a m) (o' : Ord n a f) : m = f := Nat.dvd_antisymm (o.dvdN o'.one) (o'.dvdN o.one)
theorem ex_ordN (h : is1 n a e) (he : 0 < e) : ∃ m, Ord n a m := by
  obtain ⟨m, h1, h2⟩ := exists_min (P := fun e => 0 < e ∧ is1 n a e) e ⟨he, h⟩
  exact ⟨m, h1.1, h1.2, fun f hf h => h2 f ⟨hf, h⟩⟩
end
/-- how often q stands in n -/
def vq (q n : Nat) : Nat := if _h : 2 ≤ q ∧ 0 < n ∧ n % q = 0 then vq q (n / q) + 1 else 0
termination_by n
decreasing_by exact Nat.div_lt_self _h.2.1 (by omega)
theorem vq_no {q n : Nat} (h : ¬ (2 ≤ q ∧ 0 < n ∧ n % q = 0)) : vq q n = 0 := by rw [vq, dif_neg h]
theorem vq_more {q m : Nat} (hq : 2 ≤ q) (hm : 0 < m) : vq q (q * m) = vq q m + 1 := by
  rw [vq, dif_pos ⟨hq, Nat.mul_pos (by omega) hm, Nat.mul_mod_right q m⟩, Nat.mul_div_cancel_left _ (by omega)]
theorem vq_eq {q m : Nat} (hq : 2 ≤ q) (hm : ¬ q ∣ m) (h0 : 0 < m) : ∀ k, vq q (q ^ k * m) = k
  | 0 => by rw [Nat.pow_zero, Nat.one_mul]; exact vq_no fun h => hm (Nat.dvd_of_mod_eq_zero h.2.2)
  | k + 1 => by
    rw [Nat.pow_succ, Nat.mul_comm (q ^ k) q, Nat.mul_assoc, vq_more hq (Nat.mul_pos (Nat.pow_pos (by omega)) h0), vq_eq hq hm h0 k]
theorem vq_split {q n : Nat} (hq : Prime q) (hn : 0 < n) : ∃ m, n = q ^ vq q n * m ∧ ¬ q ∣ m ∧ 0 < m := by
  obtain ⟨k, m, e, h1, h2⟩ := split_prime hq n hn
  have := vq_eq hq.1 h1 h2 k
  rw [← e] at this
  exact ⟨m, by rw [this]; exact e, h1, h2⟩
theorem vq_pos_iff {q n : Nat} (hq : 2 ≤ q) (hn : 0 < n) : 0 < vq q n ↔ n % q = 0 := by
  constructor
  · intro h
    rcases Nat.eq_zero_or_pos (n % q) with z | z
    · exact z
    · rw [vq_no (by omega)] at h; omega
  · intro h
    rw [vq, dif_pos ⟨hq, hn, h⟩]; omega
theorem pow_split {q v k m c : Nat} (hq : Prime q) (hm : ¬ q ∣ m) (hc : ¬ q ∣ c) : q ^ v * c ∣ q ^ k * m ↔ v ≤ k ∧ c ∣ m := by
  constructor
  · intro h
    constructor
    · have h1 : q ^ v ∣ q ^ k * m := Nat.dvd_trans (Nat.dvd_mul_right _ _) h
      have h2 : q ^ v ∣ q ^ k := Nat.Coprime.dvd_of_dvd_mul_right (coprime_pow hq hm v) h1
      exact (Nat.pow_dvd_pow_iff_le_right (by have := hq.1; omega)).mp h2
    · have h1 : c ∣ q ^ k * m := Nat.dvd_trans (Nat.dvd_mul_left _ _) h
      exact Nat.Coprime.dvd_of_dvd_mul_left (Nat.Coprime.symm (coprime_pow hq hc k)) h1
  · rintro ⟨h1, h2⟩
    exact Nat.mul_dvd_mul (Nat.pow_dvd_pow q h1) h2
theorem prodL_pos : ∀ {l : List (Nat × Nat)}, (∀ x ∈ l, Prime x.1) → 0 < prodL l
  | [], _ => by decide
  | x :: l, h => Nat.mul_pos (Nat.pow_pos (h x (by simp)).pos) (prodL_pos fun y hy => h y (by simp [hy]))
theorem prime_in' {l : List (Nat × Nat)} {q : Nat} (hq : Prime q) (hl : ∀ x ∈ l, Prime x.1) (h : q ∣ prodL l) : ∃ k, (q, k) ∈ l := by
  induction l with
  | nil =>
    simp only [prodL] at h
    have := Nat.le_of_dvd (by decide) h
    have := hq.1; omega
  | cons x l ih =>
    simp only [prodL] at h
    rcases hq.dvd_mul h with z | z
    · have := hq.eq_of_dvd (hl x (by simp)) (hq.dvd_pow z)
      exact ⟨x.2, by rw [this]; simp⟩
    · obtain ⟨k, hk⟩ := ih (fun y hy => hl y (by simp [hy])) z
      exact ⟨k, by simp [hk]⟩
/-- the parting with the manys of o -/
def vL (o : Nat) (l : List (Nat × Nat)) : List (Nat × Nat) := l.map fun x => (x.1, vq x.1 o)
theorem vL_prime {o : Nat} {l : List (Nat × Nat)} (h : ∀ x ∈ l, Prime x.1) : ∀ x ∈ vL o l, Prime x.1 := fun x hx => by
  obtain ⟨y, hy, rfl⟩ := List.mem_map.mp hx
  exact h y hy
theorem vL_dvd {o : Nat} (ho : 0 < o) : ∀ {l : List (Nat × Nat)}, l.Pairwise (fun x y => x.1 < y.1) → (∀ x ∈ l, Prime x.1) → prodL (vL o l) ∣ o
  | [], _, _ => by simp [vL, prodL]
  | x :: l, hs, hp => by
    have hs' := List.pairwise_cons.mp hs
    have hx := hp x (by simp)
    have ih := vL_dvd ho hs'.2 fun y hy => hp y (by simp [hy])
    obtain ⟨m, em, hm, _⟩ := vq_split hx ho
    have hn : ¬ x.1 ∣ prodL (vL o l) := fun z => by
      obtain ⟨k, hk⟩ := prime_in' hx (vL_prime fun y hy => hp y (by simp [hy])) z
      obtain ⟨y, hy, e⟩ := List.mem_map.mp hk
      have h1 := hs'.1 y hy
      have h2 : y.1 = x.1 := (Prod.mk.inj e).1
      omega
    show x.1 ^ vq x.1 o * prodL (vL o l) ∣ o
    exact Nat.Coprime.mul_dvd_of_dvd_of_dvd (coprime_pow hx hn _) ⟨m, em⟩ ih
/-- what is left of e at turn i, o the order -/
structure OF (o E : Nat) (l : List (Nat × Nat)) (i e : Nat) : Prop where
  val : e = prodL (vL o (l.take i)) * prodL (l.drop i)
  dvd : o ∣ e
theorem of_start {o E : Nat} {l : List (Nat × Nat)} (hl : IsFac E l) (h : o ∣ E) : OF o E l 0 E := ⟨by
  rw [List.take_zero, List.drop_zero, hl.prod]; simp [vL, prodL], h⟩
theorem of_step {o E : Nat} {l : List (Nat × Nat)} {i e q b : Nat} (hl : IsFac E l) (o0 : 0 < o) (h : OF o E l i e) (hx : l[i]? = some (q, b)) :
    ∃ m, e = q ^ b * m ∧ ¬ q ∣ m ∧ 0 < m ∧ vq q o ≤ b ∧ (∀ k, o ∣ q ^ k * m ↔ vq q o ≤ k) ∧ OF o E l (i + 1) (q ^ vq q o * m) := by
  have hil : i < l.length := (List.getElem?_eq_some_iff.mp hx).1
  have hxe : l[i] = (q, b) := (List.getElem?_eq_some_iff.mp hx).2
  have hd : l.drop i = (q, b) :: l.drop (i + 1) := by rw [List.drop_eq_getElem_cons hil, hxe]
  have ht : l.take (i + 1) = l.take i ++ [(q, b)] := by rw [List.take_succ, hx]; rfl
  have hsp : l = l.take i ++ (q, b) :: l.drop (i + 1) := by rw [← hd, List.take_append_drop]
  have hso := hl.sorted
  rw [hsp] at hso
  have hso' := List.pairwise_append.mp hso
  have hpr : ∀ x ∈ l, Prime x.1 := fun x hx => (hl.primes x hx).1
  have hq : Prime q := hpr (q, b) (List.mem_of_getElem? hx)
  have p1 : ∀ x ∈ l.take i, Prime x.1 := fun x hx => hpr x (List.mem_of_mem_take hx)
  have p2 : ∀ x ∈ l.drop (i + 1), Prime x.1 := fun x hx => hpr x (List.mem_of_mem_drop hx)
  have n1 : ¬ q ∣ prodL (vL o (l.take i)) := fun z => by
    obtain ⟨k, hk⟩ := prime_in' hq (vL_prime p1) z
    obtain ⟨y, hy, e⟩ := List.mem_map.mp hk
    have h1 := hso'.2.2 y hy (q, b) (by simp)
    have h2 : y.1 = q := (Prod.mk.inj e).1
    have h3 : y.1 < q := h1
    omega
  have n2 : ¬ q ∣ prodL (l.drop (i + 1)) := fun z => by
    obtain ⟨k, hk⟩ := prime_in' hq p2 z
    have h1 := (List.pairwise_cons.mp hso'.2.1).1 _ hk
    have h3 : q < q := h1
    omega
  refine ⟨prodL (vL o (l.take i)) * prodL (l.drop (i + 1)), ?_, fun z => ?_, Nat.mul_pos (prodL_pos (vL_prime p1)) (prodL_pos p2), ?_⟩
  · rw [h.val, hd]; simp only [prodL]; grind
  · rcases hq.dvd_mul z with z | z
    · exact n1 z
    · exact n2 z
  generalize hm : prodL (vL o (l.take i)) * prodL (l.drop (i + 1)) = m
  have em : e = q ^ b * m := by rw [← hm, h.val, hd]; simp only [prodL]; grind
  have hqm : ¬ q ∣ m := fun z => by
    rw [← hm] at z
    rcases hq.dvd_mul z with z | z
    · exact n1 z
    · exact n2 z
  obtain ⟨c, ec, hc, _⟩ := vq_split hq o0
  have hdv := h.dvd
  rw [em] at hdv
  have hb := (pow_split hq hqm hc).mp (by rw [← ec]; exact hdv)
  refine ⟨hb.1, fun k => ?_, ⟨?_, ?_⟩⟩
  · conv => lhs; rw [ec]
    rw [pow_split hq hqm hc]
    exact ⟨fun z => z.1, fun z => ⟨z, hb.2⟩⟩
  · rw [ht, ← hm]
    show _ = prodL (vL o (l.take i ++ [(q, b)])) * _
    unfold vL
    rw [List.map_append, prodL_app]
    simp only [List.map_cons, List.map_nil, prodL]
    grind
  · conv => lhs; rw [ec]
    exact (pow_split hq hqm hc).mpr ⟨Nat.le_refl _, hb.2⟩
theorem of_end {o E : Nat} {l : List (Nat × Nat)} {e : Nat} (hl : IsFac E l) (o0 : 0 < o) (h : OF o E l l.length e) : e = o := by
  have h1 := h.val
  rw [List.take_length, List.drop_length] at h1
  simp only [prodL, Nat.mul_one] at h1
  exact Nat.dvd_antisymm (by rw [h1]; exact vL_dvd o0 hl.sorted fun x hx => (hl.primes x hx).1) h.dvd
theorem of_le {o E : Nat} {l : List (Nat × Nat)} {i e : Nat} (hl : IsFac E l) (hE : 0 < E) (hoE : o ∣ E) (o0 : 0 < o) (h : OF o E l i e) : e ∣ E := by
  rw [h.val, ← hl.prod]
  conv => rhs; rw [← List.take_append_drop i l, prodL_app]
  refine Nat.mul_dvd_mul ?_ (Nat.dvd_refl _)
  have key : ∀ l : List (Nat × Nat), (∀ x ∈ l, vq x.1 o ≤ x.2) → prodL (vL o l) ∣ prodL l := fun l => by
    induction l with
    | nil => intro _; simp [vL, prodL]
    | cons x l ih => intro hx; exact Nat.mul_dvd_mul (Nat.pow_dvd_pow _ (hx x (by simp))) (ih fun y hy => hx y (by simp [hy]))
  refine key _ fun x hx => ?_
  have hx' := List.mem_of_mem_take hx
  obtain ⟨j, hj⟩ := List.getElem?_of_mem hx'
  -- x's many is that of E
  have hq := (hl.primes x hx').1
  have h2 : ∃ m, E = x.1 ^ x.2 * m ∧ ¬ x.1 ∣ m ∧ 0 < m := by
    have hil : j < l.length := (List.getElem?_eq_some_iff.mp hj).1
    have hxe : l[j] = x := (List.getElem?_eq_some_iff.mp hj).2
    have hd : l.drop j = x :: l.drop (j + 1) := by rw [List.drop_eq_getElem_cons hil, hxe]
    have hsp : l = l.take j ++ x :: l.drop (j + 1) := by rw [← hd, List.take_append_drop]
    have hso := hl.sorted
    rw [hsp] at hso
    have hso' := List.pairwise_append.mp hso
    have p1 : ∀ y ∈ l.take j, Prime y.1 := fun y hy => (hl.primes y (List.mem_of_mem_take hy)).1
    have p2 : ∀ y ∈ l.drop (j + 1), Prime y.1 := fun y hy => (hl.primes y (List.mem_of_mem_drop hy)).1
    refine ⟨prodL (l.take j) * prodL (l.drop (j + 1)), ?_, fun z => ?_, Nat.mul_pos (prodL_pos p1) (prodL_pos p2)⟩
    · rw [← hl.prod]
      conv => lhs; rw [hsp]
      rw [prodL_app]; simp only [prodL]; grind
    · rcases hq.dvd_mul z with z | z
      · obtain ⟨k, hk⟩ := prime_in' hq p1 z
        have h1 := hso'.2.2 _ hk x (by simp)
        have h2 : x.1 < x.1 := h1
        omega
      · obtain ⟨k, hk⟩ := prime_in' hq p2 z
        have h1 := (List.pairwise_cons.mp hso'.2.1).1 _ hk
        have h2 : x.1 < x.1 := h1
        omega
  obtain ⟨m, e1, e2, e3⟩ := h2
  obtain ⟨c, ec, hc, _⟩ := vq_split hq o0
  exact ((pow_split hq e2 hc).mp (by rw [← ec, ← e1]; exact hoE)).1
end M

/-! orders of powers, of inverses -/
namespace M
theorem dvd_mul_div {e k f : Nat} (he : 0 < e) : e ∣ k * f ↔ e / Nat.gcd k e ∣ f := by
  have g0 : 0 < Nat.gcd k e := Nat.gcd_pos_of_pos_right k he
  obtain ⟨c, hc⟩ := Nat.gcd_dvd_right k e
  obtain ⟨d, hd⟩ := Nat.gcd_dvd_left k e
  have cop : Nat.gcd d c = 1 := by
    have := Nat.gcd_div (Nat.gcd_dvd_left k e) (Nat.gcd_dvd_right k e)
    rw [Nat.div_self g0] at this
    rw [← this]
    congr 1
    · conv => rhs; rw [hd, Nat.gcd_comm]
      rw [Nat.gcd_comm] at g0
      generalize hg : Nat.gcd e k = g at *
      rw [Nat.gcd_comm] at hd hc
      rw [hg] at hd hc
      have : k / g = d := by rw [hd]; exact Nat.mul_div_cancel_left _ g0
      rw [Nat.gcd_comm, ← hd, hg, this]
    · generalize hg : Nat.gcd k e = g at *
      rw [hc]; exact (Nat.mul_div_cancel_left _ g0).symm
  generalize hg : Nat.gcd k e = g at *
  rw [hc, Nat.mul_div_cancel_left _ g0, hd, Nat.mul_assoc, Nat.mul_dvd_mul_iff_left g0]
  exact ⟨fun h => Nat.Coprime.dvd_of_dvd_mul_left (Nat.Coprime.symm cop) h, fun h => Nat.dvd_trans h (Nat.dvd_mul_left _ _)⟩
theorem Ord.pow_ {p e : Nat} {a : Int} (o : Ord p a e) (k : Nat) : Ord p (a ^ k) (e / Nat.gcd k e) := by
  have g0 : 0 < Nat.gcd k e := Nat.gcd_pos_of_pos_right k o.pos
  refine Ord.of_iff (Nat.div_pos (Nat.le_of_dvd o.pos (Nat.gcd_dvd_right k e)) g0) fun f => ?_
  rw [one_pow_iff, o.iffN]
  exact dvd_mul_div o.pos
theorem pw_alike (p : Nat) (a : Int) (k : Nat) : (p : Int) ∣ a ^ k - pw p a k := by
  unfold pw
  exact Int.dvd_of_emod_eq_zero (Int.emod_eq_emod_iff_emod_sub_eq_zero.mp (by rw [Int.emod_emod]))
theorem Ord.pw {p e : Nat} {a : Int} (o : Ord p a e) (k : Nat) : Ord p (pw p a k) (e / Nat.gcd k e) := (o.pow_ k).congr (pw_alike p a k)
theorem Ord.mod {p e : Nat} {a : Int} (o : Ord p a e) : Ord p (a % p) e := o.congr (Int.dvd_of_emod_eq_zero (Int.emod_eq_emod_iff_emod_sub_eq_zero.mp (by rw [Int.emod_emod])))
theorem is1_one (p e : Nat) : is1 p 1 e := by unfold is1; rw [Int.one_pow]; simp
theorem Ord.inv {p e : Nat} {a b : Int} (h : (b * a - 1) % (p : Int) = 0) (o : Ord p a e) : Ord p b e := by
  have h1 : ∀ f, is1 p (b * a) f := fun f => (is1_congr (Int.dvd_of_emod_eq_zero h) f).mpr (is1_one p f)
  refine Ord.of_iff o.pos fun f => ?_
  rw [← o.iffN]
  constructor
  · intro z
    exact one_left (b := b) (by rw [Int.mul_comm]; exact h1 f) z
  · intro z
    exact one_left (b := a) (h1 f) z
theorem ord_one {p : Nat} : Ord p 1 1 := ⟨by decide, is1_one p 1, fun f hf _ => hf⟩
theorem un_gcd {p : Nat} {a : Int} (hp : Prime p) (h : un p a) : Int.gcd a p = 1 := by
  have h1 : Nat.gcd p a.natAbs = 1 := hp.coprime fun z => h (Int.natAbs_dvd_natAbs.mp (by rw [Int.natAbs_natCast]; exact z))
  rw [Int.gcd_comm]
  exact h1
theorem un_succ {p : Nat} {a : Int} (hp : Prime p) (h : a % (p : Int) = 0) : un p (a + 1) := fun z => by
  have h1 := Int.dvd_sub z (Int.dvd_of_emod_eq_zero h)
  rw [show a + 1 - a = 1 by omega] at h1
  have := Int.le_of_dvd (by decide) h1
  have := hp.1
  omega
end M

/-! how deep the papers of primes to 10 ** 9 are -/
namespace M
/-- p has a chain of k primes, each one dividing the next less 1 -/
def Chain : Nat → Nat → Prop
  | 0, _ => True
  | k + 1, p => Prime p ∧ (k = 0 ∨ ∃ q, q ∣ p - 1 ∧ Chain k q)
def compF : Nat → Nat → Nat → Bool
  | 0, _, _ => false
  | n + 1, p, d => if p < d * d then false else if p % d == 0 then true else compF n p (d + 2)
theorem compF_no {p : Nat} (hp : Prime p) : ∀ {n d : Nat}, 2 ≤ d → compF n p d = false
  | 0, _, _ => rfl
  | n + 1, d, h => by
    unfold compF
    split
    · rfl
    · rename_i h1
      split
      · rename_i h2
        have h3 := Nat.dvd_of_mod_eq_zero (beq_iff_eq.mp h2)
        rcases hp.2 d h3 with z | z
        · omega
        · rw [z] at h1
          have : p * 2 ≤ p * p := Nat.mul_le_mul_left p hp.1
          have := hp.1
          omega
      · exact compF_no hp (by omega)
def okStep (S T : List Nat) (B : Nat) : Bool := S.all fun q => (List.range ((B - 1) / (2 * q))).all fun j => compF 600 (2 * (j + 1) * q + 1) 3 || T.contains (2 * (j + 1) * q + 1)
theorem chain_prime {k p : Nat} (h : Chain (k + 1) p) : Prime p := h.1
theorem prime_odd {p : Nat} (hp : Prime p) (h : p ≠ 2) : p % 2 = 1 := by
  rcases Nat.mod_two_eq_zero_or_one p with z | z
  · rcases hp.2 2 (Nat.dvd_of_mod_eq_zero z) with e | e
    · omega
    · exact absurd e.symm h
  · exact z
theorem chain_odd {k p : Nat} (h : Chain (k + 2) p) : p % 2 = 1 := by
  refine prime_odd h.1 fun e => ?_
  subst e
  rcases h.2 with z | ⟨q, hq, hc⟩
  · omega
  · have h1 : Prime q := hc.1
    have := Nat.le_of_dvd (by decide) hq
    have := h1.1
    omega
theorem chain_two {k p q : Nat} (h : Chain (k + 2) p) (hq : q ∣ p - 1) (hc : Chain (k + 1) q) (ho : q % 2 = 1) : ∃ j, p = 2 * (j + 1) * q + 1 := by
  have hp := h.1.1
  have po := chain_odd h
  have q0 : 0 < q := by omega
  obtain ⟨c, hc⟩ := hq
  have hc2 : c % 2 = 0 := by
    rcases Nat.mod_two_eq_zero_or_one c with z | z
    · exact z
    · have : (q * c) % 2 = 1 := by rw [Nat.mul_mod, ho, z]
      omega
  obtain ⟨d, rfl⟩ : ∃ d, c = 2 * d := ⟨c / 2, by omega⟩
  have d0 : 0 < d := Nat.pos_of_ne_zero fun z => by subst z; simp at hc; omega
  refine ⟨d - 1, ?_⟩
  have : 2 * (d - 1 + 1) * q = q * (2 * d) := by rw [Nat.sub_add_cancel d0]; grind
  omega
theorem step_in {S T : List Nat} {B k p : Nat} (ok : okStep S T B = true) (hS : ∀ q, Chain (k + 2) q → 2 * q + 1 ≤ B → q ∈ S) (h : Chain (k + 3) p) (hB : p ≤ B) : p ∈ T := by
  rcases h.2 with z | ⟨q, hq, hc⟩
  · omega
  · have qo := chain_odd hc
    obtain ⟨j, hj⟩ := chain_two (k := k + 1) h hq hc qo
    have q0 : 0 < q := by omega
    have h1 : 2 * q ≤ 2 * (j + 1) * q := Nat.mul_le_mul_right q (by omega)
    have hqS := hS q hc (by omega)
    have h2 := List.all_eq_true.mp ok q hqS
    have hjr : j < (B - 1) / (2 * q) := by
      have : (j + 1) * (2 * q) ≤ B - 1 := by
        have : (j + 1) * (2 * q) = 2 * (j + 1) * q := by grind
        omega
      exact (Nat.le_div_iff_mul_le (by omega)).mpr this
    have h3 := List.all_eq_true.mp h2 j (List.mem_range.mpr hjr)
    rw [← hj, compF_no h.1 (by decide), Bool.false_or] at h3
    exact List.contains_iff_mem.mp h3
def S2 : List Nat := [3, 5, 7, 11, 13, 17, 19, 23, 29, 31, 37, 41, 43, 47, 53, 59, 61, 67, 71, 73, 79, 83, 89, 97, 101, 103, 107, 109, 113, 127, 131, 137, 139, 149, 151, 157, 163, 167, 173, 179, 181, 191, 193, 197, 199, 211, 223, 227, 229, 233, 239, 241, 251, 257, 263, 269, 271, 277, 281, 283, 293, 307, 311, 313, 317, 331, 337, 347, 349, 353, 359, 367, 373, 379, 383, 389, 397, 401, 409, 419, 421, 431, 433, 439, 443, 449, 457, 461, 463, 467, 479, 487, 491, 499, 503, 509, 521, 523, 541, 547, 557, 563, 569, 571, 577, 587, 593, 599, 601, 607, 613, 617, 619, 631, 641, 643, 647, 653, 659, 661, 673, 677, 683, 691, 701, 709, 719, 727, 733, 739, 743, 751, 757, 761, 769, 773, 787, 797, 809, 811, 821, 823, 827, 829, 839, 853, 857, 859, 863, 877, 881, 883, 887, 907, 911, 919, 929, 937, 941, 947, 953]
def S3 : List Nat := [7, 11, 13, 19, 23, 29, 31, 37, 41, 43, 47, 53, 59, 61, 67, 71, 73, 79, 83, 89, 97, 101, 103, 107, 109, 113, 127, 131, 137, 139, 149, 151, 157, 163, 167, 173, 179, 181, 191, 193, 197, 199, 211, 223, 227, 229, 233, 239, 241, 251, 263, 269, 271, 277, 281, 283, 293, 307, 311, 313, 317, 331, 337, 347, 349, 353, 359, 367, 373, 379, 383, 389, 397, 401, 409, 419, 421, 431, 433, 439, 443, 449, 457, 461, 463, 467, 479, 487, 491, 499, 503, 509, 521, 523, 541, 547, 557, 563, 569, 571, 577, 587, 593, 599, 601, 607, 613, 617, 619, 631, 641, 643, 647, 653, 659, 661, 673, 677, 683, 691, 701, 709, 719, 727, 733, 739, 743, 751, 757, 761, 769, 773, 787, 797, 809, 811, 821, 823, 827, 829, 839, 853, 857, 859, 863, 877, 881, 883, 887, 907, 911, 919, 929, 937, 941, 947, 953, 967, 971, 977, 983, 991, 997, 1009, 1013, 1019, 1021, 1031, 1033, 1039, 1049, 1051, 1061, 1063, 1069, 1087, 1091, 1093, 1097, 1103, 1109, 1117, 1123, 1129, 1151, 1153, 1163, 1171, 1181, 1187, 1193, 1201, 1213, 1217, 1223, 1229, 1231, 1237, 1249, 1259, 1277, 1279, 1283, 1289, 1291, 1297, 1301, 1303, 1307, 1319, 1321, 1327, 1361, 1367, 1373, 1381, 1399, 1409, 1423, 1427, 1429, 1433, 1439, 1447, 1451, 1453, 1459, 1471, 1481, 1483, 1487, 1489, 1493, 1499, 1511, 1523, 1531, 1543, 1549, 1553, 1559, 1567, 1571, 1579, 1583, 1597, 1601, 1607, 1609, 1613, 1619, 1621, 1627, 1637, 1657, 1663, 1667, 1669, 1693, 1697, 1699, 1709, 1721, 1723, 1733, 1741, 1747, 1753, 1759, 1777, 1783, 1787, 1789, 1801, 1811, 1823, 1831, 1847, 1861, 1867, 1871, 1873, 1877, 1879, 1889, 1901, 1907]
def S4 : List Nat := [23, 29, 43, 47, 53, 59, 67, 71, 79, 83, 89, 107, 113, 127, 131, 139, 149, 157, 167, 173, 179, 191, 197, 199, 211, 223, 227, 229, 233, 239, 263, 269, 277, 281, 283, 293, 311, 313, 317, 331, 337, 347, 349, 353, 359, 367, 373, 379, 383, 389, 397, 419, 421, 431, 439, 443, 449, 457, 461, 463, 467, 479, 491, 499, 503, 509, 521, 523, 547, 557, 563, 569, 571, 587, 593, 599, 607, 617, 619, 631, 643, 647, 653, 659, 661, 673, 677, 683, 691, 701, 709, 719, 727, 733, 739, 743, 757, 761, 773, 787, 797, 809, 821, 823, 827, 829, 839, 853, 857, 859, 863, 877, 881, 883, 887, 907, 911, 929, 937, 941, 947, 953, 967, 971, 977, 983, 991, 997, 1009, 1013, 1019, 1031, 1033, 1039, 1049, 1051, 1061, 1063, 1069, 1087, 1091, 1093, 1097, 1103, 1109, 1117, 1123, 1129, 1151, 1163, 1171, 1181, 1187, 1193, 1213, 1217, 1223, 1229, 1231, 1237, 1249, 1259, 1277, 1279, 1283, 1289, 1291, 1301, 1303, 1307, 1319, 1321, 1327, 1367, 1373, 1381, 1399, 1409, 1423, 1427, 1429, 1433, 1439, 1447, 1451, 1453, 1471, 1481, 1483, 1487, 1489, 1493, 1499, 1511, 1523, 1549, 1553, 1559, 1567, 1571, 1579, 1583, 1597, 1607, 1609, 1613, 1619, 1627, 1637, 1657, 1663, 1667, 1669, 1693, 1697, 1699, 1709, 1721, 1723, 1733, 1741, 1747, 1753, 1759, 1777, 1783, 1787, 1789, 1811, 1823, 1831, 1847, 1861, 1867, 1871, 1873, 1877, 1879, 1889, 1901, 1907, 1913, 1931, 1933, 1949, 1951, 1973, 1979, 1987, 1993, 1997, 1999, 2003, 2011, 2017, 2027, 2029, 2039, 2053, 2063, 2069, 2081, 2083, 2087, 2089, 2099, 2111, 2113, 2129, 2131, 2137, 2141, 2143, 2153, 2179, 2203, 2207, 2213, 2221, 2237, 2239, 2243, 2267, 2269, 2273, 2281, 2287, 2293, 2297, 2309, 2311, 2333, 2339, 2341, 2347, 2351, 2357, 2371, 2377, 2381, 2383, 2389, 2393, 2399, 2411, 2417, 2423, 2437, 2441, 2447, 2459, 2467, 2473, 2477, 2503, 2521, 2531, 2539, 2543, 2549, 2557, 2579, 2591, 2609, 2617, 2621, 2633, 2647, 2657, 2659, 2663, 2671, 2677, 2683, 2687, 2689, 2693, 2699, 2707, 2711, 2713, 2719, 2729, 2731, 2741, 2749, 2753, 2767, 2777, 2789, 2791, 2797, 2801, 2803, 2819, 2833, 2837, 2843, 2851, 2857, 2861, 2879, 2887, 2897, 2903, 2909, 2927, 2939, 2953, 2957, 2963, 2969, 2971, 2999, 3011, 3019, 3023, 3037, 3041, 3049, 3067, 3079, 3083, 3089, 3109, 3119, 3121, 3137, 3163, 3167, 3169, 3181, 3187, 3191, 3203, 3209, 3217, 3221, 3229, 3251, 3253, 3257, 3259, 3271, 3299, 3301, 3307, 3313, 3319, 3323, 3329, 3331, 3343, 3347, 3359, 3361, 3371, 3373, 3389, 3391, 3407, 3413, 3433, 3449, 3461, 3463, 3467, 3491, 3499, 3511, 3517, 3527, 3529, 3533, 3539, 3541, 3547, 3557, 3559, 3571, 3581, 3583, 3593, 3607, 3613, 3617, 3623, 3631, 3637, 3643, 3659, 3671, 3677, 3691, 3697, 3701, 3709, 3719, 3727, 3733, 3739, 3761, 3767, 3769, 3779, 3793, 3797, 3803]
def S5 : List Nat := [47, 59, 107, 139, 167, 173, 179, 227, 233, 263, 269, 277, 283, 317, 347, 349, 359, 383, 431, 461, 467, 479, 499, 509, 523, 557, 563, 569, 587, 599, 643, 659, 691, 709, 719, 743, 787, 797, 827, 829, 839, 853, 857, 863, 887, 929, 941, 947, 967, 983, 997, 1013, 1019, 1033, 1039, 1049, 1061, 1063, 1069, 1103, 1109, 1129, 1151, 1163, 1181, 1187, 1193, 1223, 1277, 1279, 1289, 1291, 1307, 1319, 1367, 1381, 1399, 1423, 1427, 1433, 1439, 1451, 1487, 1493, 1499, 1523, 1549, 1567, 1571, 1579, 1583, 1609, 1619, 1657, 1663, 1669, 1693, 1697, 1699, 1721, 1741, 1759, 1787, 1789, 1823, 1847, 1867, 1877, 1879, 1889, 1907, 1913, 1933, 1973, 1979, 1987, 1993, 1997, 2011, 2027, 2039, 2063, 2069, 2083, 2087, 2089, 2099, 2111, 2131, 2137, 2141, 2153, 2203, 2207, 2213, 2237, 2239, 2243, 2273, 2287, 2293, 2333, 2339, 2347, 2351, 2371, 2383, 2389, 2393, 2423, 2437, 2447, 2459, 2477, 2503, 2531, 2539, 2557, 2579, 2621, 2633, 2657, 2659, 2671, 2677, 2683, 2687, 2693, 2699, 2713, 2749, 2753, 2767, 2777, 2797, 2803, 2819, 2833, 2837, 2843, 2879, 2903, 2909, 2939, 2957, 2963, 2969, 2999, 3011, 3019, 3023, 3037, 3049, 3083, 3119, 3167, 3181, 3187, 3191, 3217, 3221, 3229, 3307, 3313, 3319, 3343, 3347, 3359, 3371, 3373, 3391, 3407, 3413, 3449, 3461, 3467, 3491, 3499, 3517, 3527, 3533, 3539, 3541, 3547, 3557, 3559, 3581, 3583, 3593, 3613, 3617, 3623, 3643, 3659, 3671, 3727, 3733, 3739, 3761, 3767, 3769, 3779, 3793, 3803, 3821, 3833, 3853, 3863, 3911, 3917, 3919, 3923, 3929, 3931, 3947, 3967, 3989, 4003, 4007, 4013, 4021, 4049, 4073, 4079, 4099, 4127, 4129, 4133, 4139, 4153, 4157, 4177, 4211, 4231, 4241, 4253, 4259, 4261, 4273, 4283, 4289, 4297, 4349, 4363, 4373, 4391, 4397, 4409, 4423, 4451, 4457, 4463, 4483, 4493, 4513, 4517, 4547, 4549, 4567, 4583, 4597, 4603, 4639, 4643, 4649, 4679, 4691, 4703, 4721, 4723, 4729, 4783, 4787, 4793, 4799, 4817, 4831, 4877, 4889, 4903, 4919, 4931, 4937, 4943, 4957, 4967, 4969, 4973, 4987, 5009, 5011, 5039, 5059, 5077, 5081, 5087, 5099, 5107, 5113, 5119, 5147, 5153, 5171, 5179, 5227, 5231, 5261, 5273, 5279, 5297, 5309, 5323, 5333, 5351, 5381, 5387, 5393, 5399, 5407, 5417, 5419, 5443, 5449, 5471, 5479, 5483, 5503, 5507, 5519, 5521, 5531, 5557, 5569, 5573, 5591, 5623, 5639, 5641, 5647, 5651, 5653, 5659, 5683, 5689, 5693, 5711, 5717, 5737, 5743, 5749, 5779, 5783, 5801, 5807, 5813, 5827, 5839, 5843, 5849, 5861, 5867, 5879, 5897, 5903, 5923, 5927, 5939, 5981, 6037, 6043, 6047, 6053, 6067, 6073, 6079, 6089, 6091, 6113, 6143, 6163, 6197, 6199, 6203, 6211, 6221, 6229, 6247, 6257, 6269, 6277, 6287, 6299, 6311, 6317, 6323, 6329, 6353, 6361, 6367, 6373, 6379, 6389, 6421, 6451, 6473, 6491, 6547, 6551, 6569, 6581, 6599, 6607, 6619, 6637, 6653, 6659, 6673, 6679, 6691, 6701, 6703, 6709, 6719, 6737, 6763, 6779, 6781, 6793, 6803, 6823, 6827, 6829, 6857, 6863, 6871, 6899, 6907, 6911, 6947, 6959, 6961, 6967, 6983, 6991, 6997, 7013, 7019, 7027, 7039, 7043, 7079, 7103, 7109, 7121, 7127, 7159, 7177, 7187, 7193, 7229, 7237, 7243, 7247, 7283, 7307, 7309, 7331, 7333, 7349, 7433, 7451, 7457, 7459, 7477, 7487, 7499, 7507, 7517, 7523, 7529, 7537, 7541, 7559, 7573, 7577, 7583, 7591, 7607, 7621]
def S6 : List Nat := [283, 347, 359, 467, 557, 643, 659, 709, 719, 827, 857, 863, 941, 1019, 1039, 1063, 1109, 1129, 1181, 1223, 1319, 1399, 1433, 1439, 1487, 1499, 1579, 1663, 1669, 1693, 1699, 1787, 1889, 1997, 2027, 2039, 2069, 2083, 2099, 2141, 2153, 2207, 2243, 2339, 2351, 2423, 2447, 2503, 2539, 2579, 2633, 2767, 2777, 2797, 2803, 2833, 2837, 2879, 2903, 2999, 3167, 3187, 3229, 3343, 3413, 3449, 3461, 3491, 3541, 3581, 3659, 3761, 3767, 3779, 3833, 3853, 3947, 3989, 4013, 4073, 4079, 4127, 4133, 4139, 4153, 4157, 4231, 4253, 4283, 4297, 4457, 4513, 4517, 4547, 4597, 4603, 4679, 4703, 4721, 4723, 4783, 4787, 4793, 4889, 4919, 4957, 4987, 5011, 5077, 5119, 5171, 5179, 5231, 5261, 5273, 5323, 5351, 5381, 5387, 5399, 5449, 5507, 5639, 5641, 5647, 5683, 5693, 5749, 5779, 5783, 5807, 5839, 5879, 5903, 5923, 5927, 5939, 6047, 6079, 6197, 6199, 6229, 6247, 6269, 6277, 6299, 6317, 6367, 6373, 6379, 6421, 6491, 6581, 6619, 6653, 6673, 6719, 6793, 6803, 6827, 6829, 6857, 6863, 6899, 6907, 6911, 6983, 6991, 7079, 7127, 7159, 7187, 7229, 7247, 7333, 7349, 7433, 7457, 7507, 7517, 7523, 7529, 7559, 7577, 7607, 7643, 7717, 7727, 7757, 7759, 7789, 7823, 7877, 7883, 7907, 7919, 7949, 8017, 8147, 8179, 8219, 8243, 8273, 8287, 8291, 8293, 8311, 8329, 8369, 8377, 8387, 8389, 8423, 8461, 8539, 8563, 8599, 8609, 8623, 8627, 8629, 8699, 8707, 8747, 8783, 8819, 8837, 8923, 8951, 8969, 9173, 9203, 9209, 9221, 9227, 9323, 9341, 9343, 9403, 9419, 9497, 9511, 9533, 9587, 9623, 9631, 9677, 9689, 9749, 9787, 9839, 9871, 9887, 9949, 9973, 10009, 10067, 10069, 10079, 10159, 10163, 10181, 10223, 10243, 10247, 10253, 10267, 10273, 10289, 10313, 10331, 10343, 10357, 10391, 10457, 10463, 10487, 10529, 10559, 10567, 10631, 10667, 10691, 10709, 10723, 10733, 10739, 10771, 10799, 10853, 10937, 10939, 10979, 11047, 11057, 11069, 11083, 11093, 11149, 11159, 11213, 11261, 11279, 11299, 11321, 11329, 11351, 11399, 11423, 11443, 11447, 11489, 11491, 11497, 11579, 11657, 11677, 11699, 11801, 11807, 11839, 11863, 11867, 11887, 11897, 11923, 11939, 11959, 11981, 11987, 12037, 12107, 12143, 12149, 12157, 12163, 12197, 12227, 12379, 12391, 12409, 12413, 12457, 12503, 12511, 12539, 12553, 12569, 12583, 12589, 12647, 12659, 12713, 12743, 12757, 12763, 12791, 12823, 12829, 12841, 12889, 12911, 12917, 12919, 12953, 12973, 12983, 13007, 13049, 13099, 13103, 13151, 13163, 13187, 13217, 13219, 13229, 13259, 13297, 13309, 13451, 13513, 13537, 13577, 13649, 13697, 13723, 13759, 13763, 13789, 13799, 13807, 13831, 13841, 13901, 13913, 13963, 13967, 13997, 13999, 14011, 14029, 14083, 14087, 14107, 14159, 14173, 14207, 14243, 14321, 14347, 14387, 14447, 14533, 14633, 14639, 14683, 14699, 14717, 14753, 14759, 14767, 14867, 14869, 14879, 14887, 14923, 14947, 14957, 14983, 15013, 15017, 15031, 15077, 15083, 15173, 15187, 15217]
def S7 : List Nat := [719, 1319, 1439, 1699, 2039, 2083, 2447, 2777, 2803, 2837, 2879, 2999, 3343, 3779, 4079, 4139, 4157, 4253, 4283, 4457, 4517, 4679, 4703, 5179, 5273, 5647, 5807, 6247, 6317, 6379, 6653, 6793, 6827, 6857, 6899, 6983, 7523, 7529, 7559, 7717, 8147, 8329, 8599, 8629, 8923, 9227, 9341, 9587, 9623, 9839, 10067, 10159, 10289, 10343, 10357, 10391, 10463, 10631, 10723, 10771, 10799, 11069, 11213, 11279, 11321, 11489, 11579, 11807, 11863, 11887, 11897, 12143, 12163, 12539, 12757, 12763, 12917, 12919, 12983, 13163, 13187, 13309, 13799, 13967, 14011, 14107, 14159, 14173, 14683, 14699, 14717, 14867, 14887, 15269, 15287, 15413, 15427, 15527, 15647, 15767, 15791, 15797, 15817, 16217, 16487, 16547, 16553, 16603, 16631, 16657, 16691, 16931, 16981, 17123, 17189, 17257, 17351, 17419, 17657, 17747, 17903, 17939, 17989, 18413, 18443, 18679, 18713, 18839, 19379, 19387, 19433, 19577, 19853, 19949, 19963, 20029, 20063, 20147, 20323, 20327, 20389, 20477, 20479, 20507, 20549, 20627, 20663, 20717, 20947, 21059, 21089, 21247, 21383, 21419, 21467, 21487, 21503, 21599, 21863, 22259, 22283, 22567, 22643, 22669, 22697, 22859, 23117, 23159, 23357, 23399, 23603, 23743, 23773, 23879, 23993, 24107, 24317, 24413, 24439, 24469, 24509, 24763, 24799, 24917, 24919, 24943, 24989, 25031, 25183, 25189, 25219, 25391, 25469, 25471, 25583, 25679, 25693, 25849, 25903, 26099, 26153, 26459, 26693, 26737, 26903, 27067, 27103, 27283, 27299, 27527, 27583, 27617, 27689, 27803, 27827, 27851, 28031, 28069, 28219, 28319, 28547, 28643, 28649, 28661, 28723, 28759, 28867, 29077, 29333, 29387, 29399, 29741, 29759, 30029, 30089, 30113, 30137, 30347, 30469]
def S8 : List Nat := [1439, 2879, 4079, 7559, 8629, 10067, 11213, 13799, 13967, 14683, 17257, 19577, 20147, 20389, 20717, 21599, 22643, 22697, 23159, 23743, 23993, 24469, 24943, 24989, 25903, 27103, 28031, 28219, 28319, 28547, 29399, 30539, 30869, 31583, 31657, 32633, 33107, 33113, 33317, 33329, 33637, 33863, 34259, 34513, 34537, 34549, 34703, 34843, 35879, 35951, 36137, 36887, 37379, 37483, 38867, 39719, 40127, 40637, 40759, 41143, 42179, 42209, 42767, 42839, 44519, 44579, 45139, 45827, 46049, 46457, 47207, 48883, 49019, 49669, 49993, 50123, 50971, 51769, 52919, 54617, 55399, 55541, 56149, 56437, 57107, 57287, 57947, 58199, 58733, 59981, 60397]
def S9 : List Nat := [2879, 20147, 25903, 32633, 34537, 34549, 46049, 57107, 58733, 63317, 65267, 69029, 69073, 74759, 80537, 86291, 86341, 86371, 90709, 103549, 103613, 106487, 108413, 112877, 119963, 120877, 120919]
def S10 : List Nat := [34549, 65267, 86371, 103613, 120919, 138059, 138197, 149519, 172583, 172741, 207227, 224563]
def S11 : List Nat := [138197, 207227]
def S12 : List Nat := []
theorem in2 : ∀ q, Chain 2 q → q ≤ 953 → q ∈ S2 := fun q h hB => by
  have qo := chain_odd (k := 0) h
  have ok : ((List.range 476).all fun j => compF 600 (2 * (j + 1) + 1) 3 || S2.contains (2 * (j + 1) + 1)) = true := by decide +kernel
  have hp := h.1
  have h2 := hp.1
  have h3 := List.all_eq_true.mp ok ((q - 3) / 2) (List.mem_range.mpr (by omega))
  rw [show 2 * ((q - 3) / 2 + 1) + 1 = q by omega, compF_no hp (by decide), Bool.false_or] at h3
  exact List.contains_iff_mem.mp h3
theorem in3 : ∀ q, Chain 3 q → q ≤ 1907 → q ∈ S3 := fun q h hB => step_in (k := 0) (B := 1907) (S := S2) (by decide +kernel) (fun r hr hb => in2 r hr (by omega)) h hB
theorem in4 : ∀ q, Chain 4 q → q ≤ 3814 → q ∈ S4 := fun q h hB => step_in (k := 1) (B := 3814) (S := S3) (by decide +kernel) (fun r hr hb => in3 r hr (by omega)) h hB
theorem in5 : ∀ q, Chain 5 q → q ≤ 7629 → q ∈ S5 := fun q h hB => step_in (k := 2) (B := 7629) (S := S4) (by decide +kernel) (fun r hr hb => in4 r hr (by omega)) h hB
theorem in6 : ∀ q, Chain 6 q → q ≤ 15258 → q ∈ S6 := fun q h hB => step_in (k := 3) (B := 15258) (S := S5) (by decide +kernel) (fun r hr hb => in5 r hr (by omega)) h hB
theorem in7 : ∀ q, Chain 7 q → q ≤ 30517 → q ∈ S7 := fun q h hB => step_in (k := 4) (B := 30517) (S := S6) (by decide +kernel) (fun r hr hb => in6 r hr (by omega)) h hB
theorem in8 : ∀ q, Chain 8 q → q ≤ 61035 → q ∈ S8 := fun q h hB => step_in (k := 5) (B := 61035) (S := S7) (by decide +kernel) (fun r hr hb => in7 r hr (by omega)) h hB
theorem in9 : ∀ q, Chain 9 q → q ≤ 122070 → q ∈ S9 := fun q h hB => step_in (k := 6) (B := 122070) (S := S8) (by decide +kernel) (fun r hr hb => in8 r hr (by omega)) h hB
theorem in10 : ∀ q, Chain 10 q → q ≤ 244140 → q ∈ S10 := fun q h hB => step_in (k := 7) (B := 244140) (S := S9) (by decide +kernel) (fun r hr hb => in9 r hr (by omega)) h hB
theorem in11 : ∀ q, Chain 11 q → q ≤ 488281 → q ∈ S11 := fun q h hB => step_in (k := 8) (B := 488281) (S := S10) (by decide +kernel) (fun r hr hb => in10 r hr (by omega)) h hB
theorem in12 : ∀ q, Chain 12 q → q ≤ 976562 → q ∈ S12 := fun q h hB => step_in (k := 9) (B := 976562) (S := S11) (by decide +kernel) (fun r hr hb => in11 r hr (by omega)) h hB
theorem chain12 {p : Nat} (h : Chain 12 p) : 976563 ≤ p := by
  rcases Nat.lt_or_ge p 976563 with z | z
  · exact absurd (in12 p h (by omega)) (by simp [S12])
  · exact z
theorem chain_more {N : Nat} (h12 : ∀ p, Chain 12 p → N ≤ p) : ∀ (j : Nat) {p : Nat}, Chain (12 + j) p → 2 ^ j * N ≤ p
  | 0, p, h => by rw [Nat.pow_zero, Nat.one_mul]; exact h12 p h
  | j + 1, p, h => by
    rcases h.2 with z | ⟨q, hq, hc⟩
    · exact absurd z (by show ¬ (12 + j = 0); omega)
    · have ih : 2 ^ j * N ≤ q := chain_more h12 j hc
      obtain ⟨i, hi⟩ := chain_two (k := 11 + j) (by rw [show 11 + j + 2 = 12 + (j + 1) by omega]; exact h) hq (by rw [show 11 + j + 1 = 12 + j by omega]; exact hc) (chain_odd (k := 10 + j) (by rw [show 10 + j + 2 = 12 + j by omega]; exact hc))
      have h1 : 2 * q ≤ 2 * (i + 1) * q := Nat.mul_le_mul_right q (by omega)
      have h3 : 2 * q ≤ p := by rw [hi]; exact Nat.le_succ_of_le h1
      rw [Nat.pow_succ, Nat.mul_comm (2 ^ j) 2, Nat.mul_assoc]
      exact Nat.le_trans (Nat.mul_le_mul_left 2 ih) h3
theorem chain22 {p : Nat} (hp : p ≤ 1000000000) : ¬ Chain 22 p := fun h => by
  have h1 := chain_more (N := 976563) (fun p h => chain12 h) 10 (p := p) h
  have h2 : 2 ^ 10 * 976563 = 1000000512 := by decide +kernel
  rw [h2] at h1
  omega
/-- a parting is one alone -/
theorem fac_split {E : Nat} {l : List (Nat × Nat)} (hl : IsFac E l) {x : Nat × Nat} (hx : x ∈ l) : ∃ m, E = x.1 ^ x.2 * m ∧ ¬ x.1 ∣ m ∧ 0 < m := by
  obtain ⟨j, hj⟩ := List.getElem?_of_mem hx
  have hq := (hl.primes x hx).1
  have hil : j < l.length := (List.getElem?_eq_some_iff.mp hj).1
  have hxe : l[j] = x := (List.getElem?_eq_some_iff.mp hj).2
  have hd : l.drop j = x :: l.drop (j + 1) := by rw [List.drop_eq_getElem_cons hil, hxe]
  have hsp : l = l.take j ++ x :: l.drop (j + 1) := by rw [← hd, List.take_append_drop]
  have hso := hl.sorted
  rw [hsp] at hso
  have hso' := List.pairwise_append.mp hso
  have p1 : ∀ y ∈ l.take j, Prime y.1 := fun y hy => (hl.primes y (List.mem_of_mem_take hy)).1
  have p2 : ∀ y ∈ l.drop (j + 1), Prime y.1 := fun y hy => (hl.primes y (List.mem_of_mem_drop hy)).1
  refine ⟨prodL (l.take j) * prodL (l.drop (j + 1)), ?_, fun z => ?_, Nat.mul_pos (prodL_pos p1) (prodL_pos p2)⟩
  · rw [← hl.prod]
    conv => lhs; rw [hsp]
    rw [prodL_app]; simp only [prodL]; grind
  · rcases hq.dvd_mul z with z | z
    · obtain ⟨k, hk⟩ := prime_in' hq p1 z
      have h1 := hso'.2.2 _ hk x (by simp)
      have h2 : x.1 < x.1 := h1
      omega
    · obtain ⟨k, hk⟩ := prime_in' hq p2 z
      have h1 := (List.pairwise_cons.mp hso'.2.1).1 _ hk
      have h2 : x.1 < x.1 := h1
      omega
theorem fac_vq {E : Nat} {l : List (Nat × Nat)} (hl : IsFac E l) {x : Nat × Nat} (hx : x ∈ l) : x.2 = vq x.1 E := by
  obtain ⟨m, e, h1, h2⟩ := fac_split hl hx
  rw [e, vq_eq (hl.primes x hx).1.1 h1 h2]
theorem fac_mem_iff {E : Nat} {l : List (Nat × Nat)} (hl : IsFac E l) (x : Nat × Nat) : x ∈ l ↔ Prime x.1 ∧ x.1 ∣ E ∧ x.2 = vq x.1 E := by
  constructor
  · intro hx
    exact ⟨(hl.primes x hx).1, fac_dvd hl hx, fac_vq hl hx⟩
  · rintro ⟨h1, h2, h3⟩
    obtain ⟨k, hk⟩ := fac_prime_in hl h1 h2
    have := fac_vq hl hk
    have this' : k = vq x.1 E := this
    have e : x = (x.1, k) := by
      show (x.1, x.2) = (x.1, k)
      rw [h3, this']
    rw [e]; exact hk
theorem pairs_ext : ∀ {xs ys : List (Nat × Nat)}, xs.Pairwise (fun a b => a.1 < b.1) → ys.Pairwise (fun a b => a.1 < b.1) → (∀ y, y ∈ xs ↔ y ∈ ys) → xs = ys
  | [], [], _, _, _ => rfl
  | [], y :: ys, _, _, h => absurd ((h y).mpr (by simp)) (by simp)
  | x :: xs, [], _, _, h => absurd ((h x).mp (by simp)) (by simp)
  | x :: xs, y :: ys, hx, hy, h => by
    have hx' := List.pairwise_cons.mp hx
    have hy' := List.pairwise_cons.mp hy
    have e : x = y := by
      rcases List.mem_cons.mp ((h x).mp (by simp)) with z | z
      · exact z
      · rcases List.mem_cons.mp ((h y).mpr (by simp)) with w | w
        · exact w.symm
        · have := hx'.1 y w
          have := hy'.1 x z
          omega
    subst e
    congr 1
    refine pairs_ext hx'.2 hy'.2 fun y => ⟨fun m => ?_, fun m => ?_⟩
    · rcases List.mem_cons.mp ((h y).mp (by simp [m])) with z | z
      · have := hx'.1 y m
        rw [z] at this; omega
      · exact z
    · rcases List.mem_cons.mp ((h y).mpr (by simp [m])) with z | z
      · have := hy'.1 y m
        rw [z] at this; omega
      · exact z
theorem fac_unique {E : Nat} {l l' : List (Nat × Nat)} (h : IsFac E l) (h' : IsFac E l') : l = l' := pairs_ext h.sorted h'.sorted fun x => (fac_mem_iff h x).trans (fac_mem_iff h' x).symm
theorem full_unique {p f f' : Nat} (h : LeastFull p f) (h' : LeastFull p f') : f = f' := by
  rcases Nat.lt_trichotomy f f' with w | w | w
  · exact absurd h.full (h'.least f h.f0 w)
  · exact w
  · exact absurd h'.full (h.least f' h'.f0 w)
end M

/-! how many primes a number has -/
namespace M
def asc : Nat → Nat → Nat
  | _, 0 => 1
  | c, n + 1 => c * asc (c + 1) n
theorem asc_le : ∀ {l : List (Nat × Nat)} {c : Nat}, l.Pairwise (fun x y => x.1 < y.1) → (∀ x ∈ l, c ≤ x.1 ∧ 0 < x.1 ∧ 0 < x.2) → asc c l.length ≤ prodL l
  | [], _, _, _ => Nat.le_refl _
  | x :: l, c, srt, h => by
    have s := List.pairwise_cons.mp srt
    obtain ⟨h1, h0, h2⟩ := h x (by simp)
    have ih := asc_le (c := c + 1) s.2 fun y hy => ⟨by have := s.1 y hy; omega, (h y (by simp [hy])).2.1, (h y (by simp [hy])).2.2⟩
    show c * asc (c + 1) l.length ≤ x.1 ^ x.2 * prodL l
    refine Nat.mul_le_mul (Nat.le_trans h1 ?_) ih
    have := Nat.pow_le_pow_right h0 h2
    rwa [Nat.pow_one] at this
theorem nprimes {n : Nat} {l : List (Nat × Nat)} (hl : IsFac n l) (hn : n ≤ 1000000000) : l.length ≤ 11 := by
  have h := asc_le (c := 2) hl.sorted fun x hx => ⟨(hl.primes x hx).1.1, (hl.primes x hx).1.pos, (hl.primes x hx).2⟩
  rw [hl.prod] at h
  rcases Nat.lt_or_ge 11 l.length with z | z
  · exfalso
    have mono : ∀ k c m, k ≤ m → 1 ≤ c → asc c k ≤ asc c m := by
      intro k
      induction k with
      | zero => intro c m _ hc; exact (by
          have pos : ∀ m c, 1 ≤ c → 1 ≤ asc c m := by
            intro m
            induction m with
            | zero => intro c _; exact Nat.le_refl 1
            | succ m ih => intro c hc; exact Nat.mul_pos hc (ih (c + 1) (by omega))
          exact pos m c hc)
      | succ k ih =>
        intro c m hm hc
        obtain ⟨m', rfl⟩ : ∃ m', m = m' + 1 := ⟨m - 1, by omega⟩
        exact Nat.mul_le_mul_left c (ih (c + 1) m' (by omega) (by omega))
    have h2 := mono 12 2 l.length z (by decide)
    have h3 : asc 2 12 = 6227020800 := by decide +kernel
    omega
  · exact z
end M

/-! the order of b by b ^ e - 1 and by b ^ e + 1 -/
namespace M
theorem pow_sub_pos {b f : Nat} (hb : 2 ≤ b) (hf : 0 < f) : (1 : Int) < (b : Int) ^ f := by
  have h : 1 < b ^ f := Nat.one_lt_pow (by omega) (by omega)
  have e : ((b ^ f : Nat) : Int) = (b : Int) ^ f := by push_cast; rfl
  omega
theorem pow_le_i {b f g : Nat} (hb : 1 ≤ b) (h : f ≤ g) : (b : Int) ^ f ≤ (b : Int) ^ g := by
  have h : b ^ f ≤ b ^ g := Nat.pow_le_pow_right hb h
  have e1 : ((b ^ f : Nat) : Int) = (b : Int) ^ f := by push_cast; rfl
  have e2 : ((b ^ g : Nat) : Int) = (b : Int) ^ g := by push_cast; rfl
  omega
theorem pow_lt_i {b f g : Nat} (hb : 2 ≤ b) (h : f < g) : (b : Int) ^ f < (b : Int) ^ g := by
  have h : b ^ f < b ^ g := Nat.pow_lt_pow_right (by omega) h
  have e1 : ((b ^ f : Nat) : Int) = (b : Int) ^ f := by push_cast; rfl
  have e2 : ((b ^ g : Nat) : Int) = (b : Int) ^ g := by push_cast; rfl
  omega
theorem ord_minus {b e : Nat} (hb : 2 ≤ b) (he : 1 ≤ e) : Ord (b ^ e - 1) (b : Int) e := by
  have hp : 1 < b ^ e := Nat.one_lt_pow (by omega) (by omega)
  have en : ((b ^ e - 1 : Nat) : Int) = (b : Int) ^ e - 1 := by
    have e2 : ((b ^ e : Nat) : Int) = (b : Int) ^ e := by push_cast; rfl
    omega
  refine ⟨he, ?_, fun f hf h => ?_⟩
  · unfold is1
    rw [en]; exact Int.dvd_refl _
  · rcases Nat.lt_or_ge f e with z | z
    · exfalso
      unfold is1 at h
      rw [en] at h
      have h1 := pow_sub_pos hb hf
      have h2 := pow_lt_i hb z
      have := Int.le_of_dvd (by omega) h
      omega
    · exact z
theorem ord_plus {b e : Nat} (hb : 2 ≤ b) (he : 1 ≤ e) : Ord (b ^ e + 1) (b : Int) (2 * e) := by
  have en : ((b ^ e + 1 : Nat) : Int) = (b : Int) ^ e + 1 := by push_cast; rfl
  refine ⟨by omega, ?_, fun f hf h => ?_⟩
  · unfold is1
    rw [en]
    refine ⟨(b : Int) ^ e - 1, ?_⟩
    rw [Nat.two_mul, Int.pow_add]
    grind
  · rcases Nat.lt_or_ge f (2 * e) with z | z
    · exfalso
      unfold is1 at h
      rw [en] at h
      rcases Nat.lt_or_ge e f with y | y
      · have e2 : (b : Int) ^ f - 1 = (b : Int) ^ (f - e) * ((b : Int) ^ e + 1) - ((b : Int) ^ (f - e) + 1) := by
          have e3 : (b : Int) ^ f = (b : Int) ^ (f - e) * (b : Int) ^ e := by rw [← Int.pow_add]; congr 1; omega
          rw [e3]; grind
        have h3 : (b : Int) ^ e + 1 ∣ (b : Int) ^ (f - e) + 1 := by
          have h4 := Int.dvd_sub (Int.dvd_mul_left ((b : Int) ^ (f - e)) ((b : Int) ^ e + 1)) h
          rw [e2] at h4
          have e5 : (b : Int) ^ (f - e) * ((b : Int) ^ e + 1) - ((b : Int) ^ (f - e) * ((b : Int) ^ e + 1) - ((b : Int) ^ (f - e) + 1)) = (b : Int) ^ (f - e) + 1 := by omega
          rw [e5] at h4
          exact h4
        have h1 := pow_sub_pos hb (show 0 < f - e by omega)
        have h2 := pow_lt_i hb (show f - e < e by omega)
        have := Int.le_of_dvd (by omega) h3
        omega
      · have h1 := pow_sub_pos hb hf
        have h2 := pow_le_i (show 1 ≤ b by omega) y
        have := Int.le_of_dvd (by omega) h
        omega
    · exact z
theorem vL_mono {F : Nat} : ∀ {l : List (Nat × Nat)}, (∀ x ∈ l, x.2 ≤ vq x.1 F) → prodL l ∣ prodL (vL F l)
  | [], _ => Nat.dvd_refl _
  | x :: l, h => by
    show x.1 ^ x.2 * prodL l ∣ x.1 ^ vq x.1 F * prodL (vL F l)
    exact Nat.mul_dvd_mul (Nat.pow_dvd_pow _ (h x (by simp))) (vL_mono fun y hy => h y (by simp [hy]))
/-- a number divides one whose parting has all its primes as often -/
theorem fac_dvd_of {W F : Nat} {l k : List (Nat × Nat)} (hl : IsFac W l) (hk : IsFac F k) (F0 : 0 < F) (h : ∀ x ∈ l, ∃ b, (x.1, b) ∈ k ∧ x.2 ≤ b) : W ∣ F := by
  have h1 : prodL l ∣ prodL (vL F l) := vL_mono fun x hx => by
    obtain ⟨b, hb, hle⟩ := h x hx
    rw [← fac_vq hk hb]; exact hle
  have h2 := vL_dvd F0 hl.sorted fun x hx => (hl.primes x hx).1
  rw [hl.prod] at h1
  exact Nat.dvd_trans h1 h2
theorem prodL_perm {l l' : List (Nat × Nat)} (h : l.Perm l') : prodL l = prodL l' := by
  induction h with
  | nil => rfl
  | cons x _ ih => simp only [prodL]; rw [ih]
  | swap x y l => simp only [prodL]; exact Nat.mul_left_comm _ _ _
  | trans _ _ ih1 ih2 => exact ih1.trans ih2
end M

namespace C
open PySem PySem.Spec PyProof.Rows L2 R

def top (i : Nat) : Stmt := PySem.Challenge.pw_rootprime_k31_orders_by_what_lies_beside.main.body.getD i (.Pass ⟨0, 0, 0, 0⟩)
abbrev FnP (K : PySem.W.Frag) (x : Str) (st : Stmt) (f : Addr) (fd : FuncData) : Prop := FunD K x x (defArgs st) (defBody st) (defScope st) [] [] f fd
abbrev s_taken : Stmt := top 5
abbrev N_taken : List Str := ["q", "many", "found", "k"]
theorem sc_taken : FnScope N_taken ["q", "many"] (defScope s_taken) := ⟨rfl, rfl, rfl, by decide +kernel, rfl, by decide +kernel, by decide +kernel⟩
abbrev s_whole_of : Stmt := top 6
abbrev N_whole_of : List Str := ["parting", "found", "q", "many"]
theorem sc_whole_of : FnScope N_whole_of ["parting"] (defScope s_whole_of) := ⟨rfl, rfl, rfl, by decide +kernel, rfl, by decide +kernel, by decide +kernel⟩
abbrev s_divisor : Stmt := top 8
abbrev N_divisor : List Str := ["a", "b", "g", "u", "v", "rest", "x", "y", "times"]
theorem sc_divisor : FnScope N_divisor ["a", "b"] (defScope s_divisor) := ⟨rfl, rfl, rfl, by decide +kernel, rfl, by decide +kernel, by decide +kernel⟩
abbrev s_inverse : Stmt := top 9
abbrev N_inverse : List Str := ["n", "a", "g", "u", "v"]
theorem sc_inverse : FnScope N_inverse ["n", "a"] (defScope s_inverse) := ⟨rfl, rfl, rfl, by decide +kernel, rfl, by decide +kernel, by decide +kernel⟩
abbrev s_power : Stmt := top 11
abbrev N_power : List Str := ["n", "a", "e", "found", "base"]
theorem sc_power : FnScope N_power ["n", "a", "e"] (defScope s_power) := ⟨rfl, rfl, rfl, by decide +kernel, rfl, by decide +kernel, by decide +kernel⟩
abbrev s_plain_parting : Stmt := top 13
abbrev N_plain_parting : List Str := ["parts", "paper", "many"]
theorem sc_plain_parting : FnScope N_plain_parting ["parts"] (defScope s_plain_parting) := ⟨rfl, rfl, rfl, by decide +kernel, rfl, by decide +kernel, by decide +kernel⟩
abbrev s_taken_out : Stmt := top 14
abbrev N_taken_out : List Str := ["n", "a", "e", "prime", "many"]
theorem sc_taken_out : FnScope N_taken_out ["n", "a", "e", "prime", "many"] (defScope s_taken_out) := ⟨rfl, rfl, rfl, by decide +kernel, rfl, by decide +kernel, by decide +kernel⟩
abbrev s_order_from : Stmt := top 15
abbrev N_order_from : List Str := ["n", "a", "parts", "e", "kept", "paper", "many", "left"]
theorem sc_order_from : FnScope N_order_from ["n", "a", "parts"] (defScope s_order_from) := ⟨rfl, rfl, rfl, by decide +kernel, rfl, by decide +kernel, by decide +kernel⟩
abbrev s_is_whole : Stmt := top 17
abbrev N_is_whole : List Str := ["thing", "least"]
theorem sc_is_whole : FnScope N_is_whole ["thing", "least"] (defScope s_is_whole) := ⟨rfl, rfl, rfl, by decide +kernel, rfl, by decide +kernel, by decide +kernel⟩
abbrev s_is_row_of : Stmt := top 18
abbrev N_is_row_of : List Str := ["thing", "many"]
theorem sc_is_row_of : FnScope N_is_row_of ["thing", "many"] (defScope s_is_row_of) := ⟨rfl, rfl, rfl, by decide +kernel, rfl, by decide +kernel, by decide +kernel⟩
abbrev s_are_papers : Stmt := top 19
abbrev N_are_papers : List Str := ["things", "many", "last", "thing"]
theorem sc_are_papers : FnScope N_are_papers ["things", "many"] (defScope s_are_papers) := ⟨rfl, rfl, rfl, by decide +kernel, rfl, by decide +kernel, by decide +kernel⟩
abbrev s_comes_to : Stmt := top 20
abbrev N_comes_to : List Str := ["things", "n", "thing", "k"]
theorem sc_comes_to : FnScope N_comes_to ["things", "n"] (defScope s_comes_to) := ⟨rfl, rfl, rfl, by decide +kernel, rfl, by decide +kernel, by decide +kernel⟩
abbrev s_is_parting_paper : Stmt := top 21
abbrev N_is_parting_paper : List Str := ["n", "thing"]
theorem sc_is_parting_paper : FnScope N_is_parting_paper ["n", "thing"] (defScope s_is_parting_paper) := ⟨rfl, rfl, rfl, by decide +kernel, rfl, by decide +kernel, by decide +kernel⟩
abbrev s_is_prime_paper : Stmt := top 22
abbrev N_is_prime_paper : List Str := ["thing", "p", "full", "parts", "part"]
theorem sc_is_prime_paper : FnScope N_is_prime_paper ["thing"] (defScope s_is_prime_paper) := ⟨rfl, rfl, rfl, by decide +kernel, rfl, by decide +kernel, by decide +kernel⟩
abbrev s_is_order_paper : Stmt := top 23
abbrev N_is_order_paper : List Str := ["n", "a", "thing", "e", "parts", "part", "rest"]
theorem sc_is_order_paper : FnScope N_is_order_paper ["n", "a", "thing"] (defScope s_is_order_paper) := ⟨rfl, rfl, rfl, by decide +kernel, rfl, by decide +kernel, by decide +kernel⟩
abbrev s__law_state : Stmt := top 25
abbrev N__law_state : List Str := ["_law_cell"]
theorem sc__law_state : FnScope N__law_state ["_law_cell"] (defScope s__law_state) := ⟨rfl, rfl, rfl, by decide +kernel, rfl, by decide +kernel, by decide +kernel⟩
abbrev s__law_take : Stmt := top 26
abbrev N__law_take : List Str := ["_law_state_here", "_law_many", "_law_found"]
theorem sc__law_take : FnScope N__law_take ["_law_state_here", "_law_many"] (defScope s__law_take) := ⟨rfl, rfl, rfl, by decide +kernel, rfl, by decide +kernel, by decide +kernel⟩
abbrev s__law_power : Stmt := top 27
abbrev N__law_power : List Str := ["_law_n", "_law_a", "_law_e", "_law_found", "_law_base"]
theorem sc__law_power : FnScope N__law_power ["_law_n", "_law_a", "_law_e"] (defScope s__law_power) := ⟨rfl, rfl, rfl, by decide +kernel, rfl, by decide +kernel, by decide +kernel⟩
abbrev s__law_parted : Stmt := top 28
abbrev N__law_parted : List Str := ["_law_n", "_law_found", "_law_d", "_law_many"]
theorem sc__law_parted : FnScope N__law_parted ["_law_n"] (defScope s__law_parted) := ⟨rfl, rfl, rfl, by decide +kernel, rfl, by decide +kernel, by decide +kernel⟩
abbrev s__law_paper : Stmt := top 29
abbrev N__law_paper : List Str := ["_law_p", "_law_some", "_law_full", "_law_q", "_law_many"]
theorem sc__law_paper : FnScope N__law_paper ["_law_p"] (defScope s__law_paper) := ⟨rfl, rfl, rfl, by decide +kernel, rfl, by decide +kernel, by decide +kernel⟩
abbrev s__law_times : Stmt := top 30
abbrev N__law_times : List Str := ["_law_e", "_law_q", "_law_many"]
theorem sc__law_times : FnScope N__law_times ["_law_e", "_law_q"] (defScope s__law_times) := ⟨rfl, rfl, rfl, by decide +kernel, rfl, by decide +kernel, by decide +kernel⟩
abbrev s__law_same : Stmt := top 31
abbrev N__law_same : List Str := ["_law_found", "_law_due", "_law_one", "_law_other"]
theorem sc__law_same : FnScope N__law_same ["_law_found", "_law_due"] (defScope s__law_same) := ⟨rfl, rfl, rfl, by decide +kernel, rfl, by decide +kernel, by decide +kernel⟩
abbrev s__law_paper_due : Stmt := top 32
abbrev N__law_paper_due : List Str := ["_law_n", "_law_a", "_law_least", "_law_papers_here", "_law_rows", "_law_paper_here", "_law_many"]
theorem sc__law_paper_due : FnScope N__law_paper_due ["_law_n", "_law_a", "_law_least", "_law_papers_here"] (defScope s__law_paper_due) := ⟨rfl, rfl, rfl, by decide +kernel, rfl, by decide +kernel, by decide +kernel⟩
abbrev s__law_divisor : Stmt := top 33
abbrev N__law_divisor : List Str := ["_law_one", "_law_other"]
theorem sc__law_divisor : FnScope N__law_divisor ["_law_one", "_law_other"] (defScope s__law_divisor) := ⟨rfl, rfl, rfl, by decide +kernel, rfl, by decide +kernel, by decide +kernel⟩
abbrev s__law_raised : Stmt := top 34
abbrev N__law_raised : List Str := ["_law_b", "_law_e", "_law_found", "_law_k"]
theorem sc__law_raised : FnScope N__law_raised ["_law_b", "_law_e"] (defScope s__law_raised) := ⟨rfl, rfl, rfl, by decide +kernel, rfl, by decide +kernel, by decide +kernel⟩
abbrev s__law_exponent : Stmt := top 35
abbrev N__law_exponent : List Str := ["_law_state_here", "_law_b", "_law_most", "_law_high"]
theorem sc__law_exponent : FnScope N__law_exponent ["_law_state_here", "_law_b"] (defScope s__law_exponent) := ⟨rfl, rfl, rfl, by decide +kernel, rfl, by decide +kernel, by decide +kernel⟩
abbrev s__law_papers : Stmt := top 36
abbrev N__law_papers : List Str := ["_law_state_here", "_law_whole", "_law_found", "_law_k", "_law_q"]
theorem sc__law_papers : FnScope N__law_papers ["_law_state_here", "_law_whole"] (defScope s__law_papers) := ⟨rfl, rfl, rfl, by decide +kernel, rfl, by decide +kernel, by decide +kernel⟩
abbrev s__law_let_by : Stmt := top 37
abbrev N__law_let_by : List Str := ["_law_state_here", "_law_n", "_law_a", "_law_due", "_law_at", "_law_paper_here", "_law_many", "_law_rest", "_law_other"]
theorem sc__law_let_by : FnScope N__law_let_by ["_law_state_here", "_law_n", "_law_a", "_law_due"] (defScope s__law_let_by) := ⟨rfl, rfl, rfl, by decide +kernel, rfl, by decide +kernel, by decide +kernel⟩
abbrev s__law_right : Stmt := top 38
abbrev N__law_right : List Str := ["_law_state_here", "_law_b", "_law_e", "_law_n", "_law_whole", "_law_j", "_law_least", "_law_papers_here", "_law_a", "_law_due"]
theorem sc__law_right : FnScope N__law_right ["_law_state_here"] (defScope s__law_right) := ⟨rfl, rfl, rfl, by decide +kernel, rfl, by decide +kernel, by decide +kernel⟩
abbrev s_law : Stmt := top 39
abbrev N_law : List Str := ["_law_script", "_law_cell"]
theorem sc_law : FnScope N_law ["_law_script"] (defScope s_law) := ⟨rfl, rfl, rfl, by decide +kernel, rfl, by decide +kernel, by decide +kernel⟩
abbrev s_init_NoInverse : Stmt := inClass (top 2) 0
theorem sc_init_NoInverse : FnScope ["self", "divisor"] ["self", "divisor"] (defScope s_init_NoInverse) := ⟨rfl, rfl, rfl, by decide +kernel, rfl, by decide +kernel, by decide +kernel⟩
def fn : List He5.DefA := [⟨fun K => He.ga K "taken", "taken", "taken", defArgs s_taken, defBody s_taken, defScope s_taken, [], []⟩,
  ⟨fun K => He.ga K "whole_of", "whole_of", "whole_of", defArgs s_whole_of, defBody s_whole_of, defScope s_whole_of, [], []⟩,
  ⟨fun K => He.ga K "divisor", "divisor", "divisor", defArgs s_divisor, defBody s_divisor, defScope s_divisor, [], []⟩,
  ⟨fun K => He.ga K "inverse", "inverse", "inverse", defArgs s_inverse, defBody s_inverse, defScope s_inverse, [], []⟩,
  ⟨fun K => He.ga K "power", "power", "power", defArgs s_power, defBody s_power, defScope s_power, [], []⟩,
  ⟨fun K => He.ga K "plain_parting", "plain_parting", "plain_parting", defArgs s_plain_parting, defBody s_plain_parting, defScope s_plain_parting, [], []⟩,
  ⟨fun K => He.ga K "taken_out", "taken_out", "taken_out", defArgs s_taken_out, defBody s_taken_out, defScope s_taken_out, [], []⟩,
  ⟨fun K => He.ga K "order_from", "order_from", "order_from", defArgs s_order_from, defBody s_order_from, defScope s_order_from, [], []⟩,
  ⟨fun K => He.ga K "is_whole", "is_whole", "is_whole", defArgs s_is_whole, defBody s_is_whole, defScope s_is_whole, [], []⟩,
  ⟨fun K => He.ga K "is_row_of", "is_row_of", "is_row_of", defArgs s_is_row_of, defBody s_is_row_of, defScope s_is_row_of, [], []⟩,
  ⟨fun K => He.ga K "are_papers", "are_papers", "are_papers", defArgs s_are_papers, defBody s_are_papers, defScope s_are_papers, [], []⟩,
  ⟨fun K => He.ga K "comes_to", "comes_to", "comes_to", defArgs s_comes_to, defBody s_comes_to, defScope s_comes_to, [], []⟩,
  ⟨fun K => He.ga K "is_parting_paper", "is_parting_paper", "is_parting_paper", defArgs s_is_parting_paper, defBody s_is_parting_paper, defScope s_is_parting_paper, [], []⟩,
  ⟨fun K => He.ga K "is_prime_paper", "is_prime_paper", "is_prime_paper", defArgs s_is_prime_paper, defBody s_is_prime_paper, defScope s_is_prime_paper, [], []⟩,
  ⟨fun K => He.ga K "is_order_paper", "is_order_paper", "is_order_paper", defArgs s_is_order_paper, defBody s_is_order_paper, defScope s_is_order_paper, [], []⟩,
  ⟨fun K => He.ga K "_law_state", "_law_state", "_law_state", defArgs s__law_state, defBody s__law_state, defScope s__law_state, [], []⟩,
  ⟨fun K => He.ga K "_law_take", "_law_take", "_law_take", defArgs s__law_take, defBody s__law_take, defScope s__law_take, [], []⟩,
  ⟨fun K => He.ga K "_law_power", "_law_power", "_law_power", defArgs s__law_power, defBody s__law_power, defScope s__law_power, [], []⟩,
  ⟨fun K => He.ga K "_law_parted", "_law_parted", "_law_parted", defArgs s__law_parted, defBody s__law_parted, defScope s__law_parted, [], []⟩,
  ⟨fun K => He.ga K "_law_paper", "_law_paper", "_law_paper", defArgs s__law_paper, defBody s__law_paper, defScope s__law_paper, [], []⟩,
  ⟨fun K => He.ga K "_law_times", "_law_times", "_law_times", defArgs s__law_times, defBody s__law_times, defScope s__law_times, [], []⟩,
  ⟨fun K => He.ga K "_law_same", "_law_same", "_law_same", defArgs s__law_same, defBody s__law_same, defScope s__law_same, [], []⟩,
  ⟨fun K => He.ga K "_law_paper_due", "_law_paper_due", "_law_paper_due", defArgs s__law_paper_due, defBody s__law_paper_due, defScope s__law_paper_due, [], []⟩,
  ⟨fun K => He.ga K "_law_divisor", "_law_divisor", "_law_divisor", defArgs s__law_divisor, defBody s__law_divisor, defScope s__law_divisor, [], []⟩,
  ⟨fun K => He.ga K "_law_raised", "_law_raised", "_law_raised", defArgs s__law_raised, defBody s__law_raised, defScope s__law_raised, [], []⟩,
  ⟨fun K => He.ga K "_law_exponent", "_law_exponent", "_law_exponent", defArgs s__law_exponent, defBody s__law_exponent, defScope s__law_exponent, [], []⟩,
  ⟨fun K => He.ga K "_law_papers", "_law_papers", "_law_papers", defArgs s__law_papers, defBody s__law_papers, defScope s__law_papers, [], []⟩,
  ⟨fun K => He.ga K "_law_let_by", "_law_let_by", "_law_let_by", defArgs s__law_let_by, defBody s__law_let_by, defScope s__law_let_by, [], []⟩,
  ⟨fun K => He.ga K "_law_right", "_law_right", "_law_right", defArgs s__law_right, defBody s__law_right, defScope s__law_right, [], []⟩,
  ⟨fun K => He.ga K "law", "law", "law", defArgs s_law, defBody s_law, defScope s_law, [], []⟩,
  ⟨fun K => He.ma K (He.ga K "NoInverse") "__init__", "__init__", "NoInverse.__init__", defArgs s_init_NoInverse, defBody s_init_NoInverse, defScope s_init_NoInverse, [], []⟩]
def fa : List FB := [fun K => (He.Fa.glo "taken").ok K, fun K => (He.Fa.glo "whole_of").ok K, fun K => (He.Fa.glo "divisor").ok K, fun K => (He.Fa.glo "inverse").ok K, fun K => (He.Fa.glo "power").ok K, fun K => (He.Fa.glo "plain_parting").ok K, fun K => (He.Fa.glo "taken_out").ok K, fun K => (He.Fa.glo "order_from").ok K, fun K => (He.Fa.glo "is_whole").ok K, fun K => (He.Fa.glo "is_row_of").ok K, fun K => (He.Fa.glo "are_papers").ok K, fun K => (He.Fa.glo "comes_to").ok K, fun K => (He.Fa.glo "is_parting_paper").ok K, fun K => (He.Fa.glo "is_prime_paper").ok K, fun K => (He.Fa.glo "is_order_paper").ok K, fun K => (He.Fa.glo "_law_state").ok K, fun K => (He.Fa.glo "_law_take").ok K, fun K => (He.Fa.glo "_law_power").ok K, fun K => (He.Fa.glo "_law_parted").ok K, fun K => (He.Fa.glo "_law_paper").ok K, fun K => (He.Fa.glo "_law_times").ok K, fun K => (He.Fa.glo "_law_same").ok K, fun K => (He.Fa.glo "_law_paper_due").ok K, fun K => (He.Fa.glo "_law_divisor").ok K, fun K => (He.Fa.glo "_law_raised").ok K, fun K => (He.Fa.glo "_law_exponent").ok K, fun K => (He.Fa.glo "_law_papers").ok K, fun K => (He.Fa.glo "_law_let_by").ok K, fun K => (He.Fa.glo "_law_right").ok K, fun K => (He.Fa.glo "law").ok K, fun K => (He.Fa.glo "PrimeError").ok K, fun K => (He.Fa.glo "NoInverse").ok K, fun K => (He.Fa.glo "NoOrder").ok K, fun K => (He.Fa.free "range").ok K, fun K => (He.Fa.free "tuple").ok K, fun K => (He.Fa.free "isinstance").ok K, fun K => (He.Fa.free "int").ok K, fun K => (He.Fa.free "bool").ok K, fun K => (He.Fa.free "len").ok K, fun K => (He.Fa.free "any").ok K, fun K => (He.Fa.free "abs").ok K, fun K => (He.Fa.free "list").ok K, fun K => (He.Fa.free "all").ok K, fun K => (He.Fa.free "zip").ok K, fun K => (He.Fa.free "dict").ok K, fun K => (He.Fa.free "sorted").ok K, fun K => xinB "NoInverse" "divisor" K, fun K => baseB (He.ga K "PrimeError") K, fun K => (He.Fa.exc "PrimeError").ok K, fun K => (He.Fa.exc "NoOrder").ok K]
structure Txt (K : PySem.W.Frag) (mg : Str → Option Value) : Prop where
  c : Told fa fn K
  gl : ∀ {x : Str}, (He.Fa.glo x).ok K = true → mg x = some (.ref (He.ga K x))
  fr : ∀ {x : Str}, (He.Fa.free x).ok K = true → mg x = none
  int_ok : ∀ {x : Str} {i : Int}, (He.Fa.int x i).ok K = true → ∃ t, mg x = some (.int i t)
section
variable {P : Program} {w : World} {K : PySem.W.Frag} {mg : Str → Option Value} {base : Heap}
theorem F0_taken (T : Txt K mg) : ∃ fd, FnP K "taken" s_taken (He.ga K "taken") fd := T.c.dfn 0 rfl
noncomputable def fd_taken (T : Txt K mg) : FuncData := (F0_taken T).choose
theorem F_taken (T : Txt K mg) : FnP K "taken" s_taken (He.ga K "taken") (fd_taken T) := (F0_taken T).choose_spec
theorem g_taken (T : Txt K mg) : mg "taken" = some (.ref (He.ga K "taken")) := T.gl (T.c.fact 0 rfl)
theorem kp_taken (T : Txt K mg) : PySem.W.keepIn K (.ref (He.ga K "taken")) = true := (F_taken T).kp
theorem B_taken (T : Txt K mg) : Binds K (fd_taken T) ["q", "many"] [] := (F_taken T).bindsN fun _ _ _ _ _ _ us hl => match us, hl with | [_, _], _ => rfl
theorem F0_whole_of (T : Txt K mg) : ∃ fd, FnP K "whole_of" s_whole_of (He.ga K "whole_of") fd := T.c.dfn 1 rfl
noncomputable def fd_whole_of (T : Txt K mg) : FuncData := (F0_whole_of T).choose
theorem F_whole_of (T : Txt K mg) : FnP K "whole_of" s_whole_of (He.ga K "whole_of") (fd_whole_of T) := (F0_whole_of T).choose_spec
theorem g_whole_of (T : Txt K mg) : mg "whole_of" = some (.ref (He.ga K "whole_of")) := T.gl (T.c.fact 1 rfl)
theorem kp_whole_of (T : Txt K mg) : PySem.W.keepIn K (.ref (He.ga K "whole_of")) = true := (F_whole_of T).kp
theorem B_whole_of (T : Txt K mg) : Binds K (fd_whole_of T) ["parting"] [] := (F_whole_of T).bindsN fun _ _ _ _ _ _ us hl => match us, hl with | [_], _ => rfl
theorem F0_divisor (T : Txt K mg) : ∃ fd, FnP K "divisor" s_divisor (He.ga K "divisor") fd := T.c.dfn 2 rfl
noncomputable def fd_divisor (T : Txt K mg) : FuncData := (F0_divisor T).choose
theorem F_divisor (T : Txt K mg) : FnP K "divisor" s_divisor (He.ga K "divisor") (fd_divisor T) := (F0_divisor T).choose_spec
theorem g_divisor (T : Txt K mg) : mg "divisor" = some (.ref (He.ga K "divisor")) := T.gl (T.c.fact 2 rfl)
theorem kp_divisor (T : Txt K mg) : PySem.W.keepIn K (.ref (He.ga K "divisor")) = true := (F_divisor T).kp
theorem B_divisor (T : Txt K mg) : Binds K (fd_divisor T) ["a", "b"] [] := (F_divisor T).bindsN fun _ _ _ _ _ _ us hl => match us, hl with | [_, _], _ => rfl
theorem F0_inverse (T : Txt K mg) : ∃ fd, FnP K "inverse" s_inverse (He.ga K "inverse") fd := T.c.dfn 3 rfl
noncomputable def fd_inverse (T : Txt K mg) : FuncData := (F0_inverse T).choose
theorem F_inverse (T : Txt K mg) : FnP K "inverse" s_inverse (He.ga K "inverse") (fd_inverse T) := (F0_inverse T).choose_spec
theorem g_inverse (T : Txt K mg) : mg "inverse" = some (.ref (He.ga K "inverse")) := T.gl (T.c.fact 3 rfl)
theorem kp_inverse (T : Txt K mg) : PySem.W.keepIn K (.ref (He.ga K "inverse")) = true := (F_inverse T).kp
theorem B_inverse (T : Txt K mg) : Binds K (fd_inverse T) ["n", "a"] [] := (F_inverse T).bindsN fun _ _ _ _ _ _ us hl => match us, hl with | [_, _], _ => rfl
theorem F0_power (T : Txt K mg) : ∃ fd, FnP K "power" s_power (He.ga K "power") fd := T.c.dfn 4 rfl
noncomputable def fd_power (T : Txt K mg) : FuncData := (F0_power T).choose
theorem F_power (T : Txt K mg) : FnP K "power" s_power (He.ga K "power") (fd_power T) := (F0_power T).choose_spec
theorem g_power (T : Txt K mg) : mg "power" = some (.ref (He.ga K "power")) := T.gl (T.c.fact 4 rfl)
theorem kp_power (T : Txt K mg) : PySem.W.keepIn K (.ref (He.ga K "power")) = true := (F_power T).kp
theorem B_power (T : Txt K mg) : Binds K (fd_power T) ["n", "a", "e"] [] := (F_power T).bindsN fun _ _ _ _ _ _ us hl => match us, hl with | [_, _, _], _ => rfl
theorem F0_plain_parting (T : Txt K mg) : ∃ fd, FnP K "plain_parting" s_plain_parting (He.ga K "plain_parting") fd := T.c.dfn 5 rfl
noncomputable def fd_plain_parting (T : Txt K mg) : FuncData := (F0_plain_parting T).choose
theorem F_plain_parting (T : Txt K mg) : FnP K "plain_parting" s_plain_parting (He.ga K "plain_parting") (fd_plain_parting T) := (F0_plain_parting T).choose_spec
theorem g_plain_parting (T : Txt K mg) : mg "plain_parting" = some (.ref (He.ga K "plain_parting")) := T.gl (T.c.fact 5 rfl)
theorem kp_plain_parting (T : Txt K mg) : PySem.W.keepIn K (.ref (He.ga K "plain_parting")) = true := (F_plain_parting T).kp
theorem B_plain_parting (T : Txt K mg) : Binds K (fd_plain_parting T) ["parts"] [] := (F_plain_parting T).bindsN fun _ _ _ _ _ _ us hl => match us, hl with | [_], _ => rfl
theorem F0_taken_out (T : Txt K mg) : ∃ fd, FnP K "taken_out" s_taken_out (He.ga K "taken_out") fd := T.c.dfn 6 rfl
noncomputable def fd_taken_out (T : Txt K mg) : FuncData := (F0_taken_out T).choose
theorem F_taken_out (T : Txt K mg) : FnP K "taken_out" s_taken_out (He.ga K "taken_out") (fd_taken_out T) := (F0_taken_out T).choose_spec
theorem g_taken_out (T : Txt K mg) : mg "taken_out" = some (.ref (He.ga K "taken_out")) := T.gl (T.c.fact 6 rfl)
theorem kp_taken_out (T : Txt K mg) : PySem.W.keepIn K (.ref (He.ga K "taken_out")) = true := (F_taken_out T).kp
theorem B_taken_out (T : Txt K mg) : Binds K (fd_taken_out T) ["n", "a", "e", "prime", "many"] [] := (F_taken_out T).bindsN fun _ _ _ _ _ _ us hl => match us, hl with | [_, _, _, _, _], _ => rfl
theorem F0_order_from (T : Txt K mg) : ∃ fd, FnP K "order_from" s_order_from (He.ga K "order_from") fd := T.c.dfn 7 rfl
noncomputable def fd_order_from (T : Txt K mg) : FuncData := (F0_order_from T).choose
theorem F_order_from (T : Txt K mg) : FnP K "order_from" s_order_from (He.ga K "order_from") (fd_order_from T) := (F0_order_from T).choose_spec
theorem g_order_from (T : Txt K mg) : mg "order_from" = some (.ref (He.ga K "order_from")) := T.gl (T.c.fact 7 rfl)
theorem kp_order_from (T : Txt K mg) : PySem.W.keepIn K (.ref (He.ga K "order_from")) = true := (F_order_from T).kp
theorem B_order_from (T : Txt K mg) : Binds K (fd_order_from T) ["n", "a", "parts"] [] := (F_order_from T).bindsN fun _ _ _ _ _ _ us hl => match us, hl with | [_, _, _], _ => rfl
theorem F0_is_whole (T : Txt K mg) : ∃ fd, FnP K "is_whole" s_is_whole (He.ga K "is_whole") fd := T.c.dfn 8 rfl
noncomputable def fd_is_whole (T : Txt K mg) : FuncData := (F0_is_whole T).choose
theorem F_is_whole (T : Txt K mg) : FnP K "is_whole" s_is_whole (He.ga K "is_whole") (fd_is_whole T) := (F0_is_whole T).choose_spec
theorem g_is_whole (T : Txt K mg) : mg "is_whole" = some (.ref (He.ga K "is_whole")) := T.gl (T.c.fact 8 rfl)
theorem kp_is_whole (T : Txt K mg) : PySem.W.keepIn K (.ref (He.ga K "is_whole")) = true := (F_is_whole T).kp
theorem B_is_whole (T : Txt K mg) : Binds K (fd_is_whole T) ["thing", "least"] [] := (F_is_whole T).bindsN fun _ _ _ _ _ _ us hl => match us, hl with | [_, _], _ => rfl
theorem F0_is_row_of (T : Txt K mg) : ∃ fd, FnP K "is_row_of" s_is_row_of (He.ga K "is_row_of") fd := T.c.dfn 9 rfl
noncomputable def fd_is_row_of (T : Txt K mg) : FuncData := (F0_is_row_of T).choose
theorem F_is_row_of (T : Txt K mg) : FnP K "is_row_of" s_is_row_of (He.ga K "is_row_of") (fd_is_row_of T) := (F0_is_row_of T).choose_spec
theorem g_is_row_of (T : Txt K mg) : mg "is_row_of" = some (.ref (He.ga K "is_row_of")) := T.gl (T.c.fact 9 rfl)
theorem kp_is_row_of (T : Txt K mg) : PySem.W.keepIn K (.ref (He.ga K "is_row_of")) = true := (F_is_row_of T).kp
theorem B_is_row_of (T : Txt K mg) : Binds K (fd_is_row_of T) ["thing", "many"] [] := (F_is_row_of T).bindsN fun _ _ _ _ _ _ us hl => match us, hl with | [_, _], _ => rfl
theorem F0_are_papers (T : Txt K mg) : ∃ fd, FnP K "are_papers" s_are_papers (He.ga K "are_papers") fd := T.c.dfn 10 rfl
noncomputable def fd_are_papers (T : Txt K mg) : FuncData := (F0_are_papers T).choose
theorem F_are_papers (T : Txt K mg) : FnP K "are_papers" s_are_papers (He.ga K "are_papers") (fd_are_papers T) := (F0_are_papers T).choose_spec
theorem g_are_papers (T : Txt K mg) : mg "are_papers" = some (.ref (He.ga K "are_papers")) := T.gl (T.c.fact 10 rfl)
theorem kp_are_papers (T : Txt K mg) : PySem.W.keepIn K (.ref (He.ga K "are_papers")) = true := (F_are_papers T).kp
theorem B_are_papers (T : Txt K mg) : Binds K (fd_are_papers T) ["things", "many"] [] := (F_are_papers T).bindsN fun _ _ _ _ _ _ us hl => match us, hl with | [_, _], _ => rfl
theorem F0_comes_to (T : Txt K mg) : ∃ fd, FnP K "comes_to" s_comes_to (He.ga K "comes_to") fd := T.c.dfn 11 rfl
noncomputable def fd_comes_to (T : Txt K mg) : FuncData := (F0_comes_to T).choose
theorem F_comes_to (T : Txt K mg) : FnP K "comes_to" s_comes_to (He.ga K "comes_to") (fd_comes_to T) := (F0_comes_to T).choose_spec
theorem g_comes_to (T : Txt K mg) : mg "comes_to" = some (.ref (He.ga K "comes_to")) := T.gl (T.c.fact 11 rfl)
theorem kp_comes_to (T : Txt K mg) : PySem.W.keepIn K (.ref (He.ga K "comes_to")) = true := (F_comes_to T).kp
theorem B_comes_to (T : Txt K mg) : Binds K (fd_comes_to T) ["things", "n"] [] := (F_comes_to T).bindsN fun _ _ _ _ _ _ us hl => match us, hl with | [_, _], _ => rfl
theorem F0_is_parting_paper (T : Txt K mg) : ∃ fd, FnP K "is_parting_paper" s_is_parting_paper (He.ga K "is_parting_paper") fd := T.c.dfn 12 rfl
noncomputable def fd_is_parting_paper (T : Txt K mg) : FuncData := (F0_is_parting_paper T).choose
theorem F_is_parting_paper (T : Txt K mg) : FnP K "is_parting_paper" s_is_parting_paper (He.ga K "is_parting_paper") (fd_is_parting_paper T) := (F0_is_parting_paper T).choose_spec
theorem g_is_parting_paper (T : Txt K mg) : mg "is_parting_paper" = some (.ref (He.ga K "is_parting_paper")) := T.gl (T.c.fact 12 rfl)
theorem kp_is_parting_paper (T : Txt K mg) : PySem.W.keepIn K (.ref (He.ga K "is_parting_paper")) = true := (F_is_parting_paper T).kp
theorem B_is_parting_paper (T : Txt K mg) : Binds K (fd_is_parting_paper T) ["n", "thing"] [] := (F_is_parting_paper T).bindsN fun _ _ _ _ _ _ us hl => match us, hl with | [_, _], _ => rfl
theorem F0_is_prime_paper (T : Txt K mg) : ∃ fd, FnP K "is_prime_paper" s_is_prime_paper (He.ga K "is_prime_paper") fd := T.c.dfn 13 rfl
noncomputable def fd_is_prime_paper (T : Txt K mg) : FuncData := (F0_is_prime_paper T).choose
theorem F_is_prime_paper (T : Txt K mg) : FnP K "is_prime_paper" s_is_prime_paper (He.ga K "is_prime_paper") (fd_is_prime_paper T) := (F0_is_prime_paper T).choose_spec
theorem g_is_prime_paper (T : Txt K mg) : mg "is_prime_paper" = some (.ref (He.ga K "is_prime_paper")) := T.gl (T.c.fact 13 rfl)
theorem kp_is_prime_paper (T : Txt K mg) : PySem.W.keepIn K (.ref (He.ga K "is_prime_paper")) = true := (F_is_prime_paper T).kp
theorem B_is_prime_paper (T : Txt K mg) : Binds K (fd_is_prime_paper T) ["thing"] [] := (F_is_prime_paper T).bindsN fun _ _ _ _ _ _ us hl => match us, hl with | [_], _ => rfl
theorem F0_is_order_paper (T : Txt K mg) : ∃ fd, FnP K "is_order_paper" s_is_order_paper (He.ga K "is_order_paper") fd := T.c.dfn 14 rfl
noncomputable def fd_is_order_paper (T : Txt K mg) : FuncData := (F0_is_order_paper T).choose
theorem F_is_order_paper (T : Txt K mg) : FnP K "is_order_paper" s_is_order_paper (He.ga K "is_order_paper") (fd_is_order_paper T) := (F0_is_order_paper T).choose_spec
theorem g_is_order_paper (T : Txt K mg) : mg "is_order_paper" = some (.ref (He.ga K "is_order_paper")) := T.gl (T.c.fact 14 rfl)
theorem kp_is_order_paper (T : Txt K mg) : PySem.W.keepIn K (.ref (He.ga K "is_order_paper")) = true := (F_is_order_paper T).kp
theorem B_is_order_paper (T : Txt K mg) : Binds K (fd_is_order_paper T) ["n", "a", "thing"] [] := (F_is_order_paper T).bindsN fun _ _ _ _ _ _ us hl => match us, hl with | [_, _, _], _ => rfl
theorem F0__law_state (T : Txt K mg) : ∃ fd, FnP K "_law_state" s__law_state (He.ga K "_law_state") fd := T.c.dfn 15 rfl
noncomputable def fd__law_state (T : Txt K mg) : FuncData := (F0__law_state T).choose
theorem F__law_state (T : Txt K mg) : FnP K "_law_state" s__law_state (He.ga K "_law_state") (fd__law_state T) := (F0__law_state T).choose_spec
theorem g__law_state (T : Txt K mg) : mg "_law_state" = some (.ref (He.ga K "_law_state")) := T.gl (T.c.fact 15 rfl)
theorem kp__law_state (T : Txt K mg) : PySem.W.keepIn K (.ref (He.ga K "_law_state")) = true := (F__law_state T).kp
theorem B__law_state (T : Txt K mg) : Binds K (fd__law_state T) ["_law_cell"] [] := (F__law_state T).bindsN fun _ _ _ _ _ _ us hl => match us, hl with | [_], _ => rfl
theorem F0__law_take (T : Txt K mg) : ∃ fd, FnP K "_law_take" s__law_take (He.ga K "_law_take") fd := T.c.dfn 16 rfl
noncomputable def fd__law_take (T : Txt K mg) : FuncData := (F0__law_take T).choose
theorem F__law_take (T : Txt K mg) : FnP K "_law_take" s__law_take (He.ga K "_law_take") (fd__law_take T) := (F0__law_take T).choose_spec
theorem g__law_take (T : Txt K mg) : mg "_law_take" = some (.ref (He.ga K "_law_take")) := T.gl (T.c.fact 16 rfl)
theorem kp__law_take (T : Txt K mg) : PySem.W.keepIn K (.ref (He.ga K "_law_take")) = true := (F__law_take T).kp
theorem B__law_take (T : Txt K mg) : Binds K (fd__law_take T) ["_law_state_here", "_law_many"] [] := (F__law_take T).bindsN fun _ _ _ _ _ _ us hl => match us, hl with | [_, _], _ => rfl
theorem F0__law_power (T : Txt K mg) : ∃ fd, FnP K "_law_power" s__law_power (He.ga K "_law_power") fd := T.c.dfn 17 rfl
noncomputable def fd__law_power (T : Txt K mg) : FuncData := (F0__law_power T).choose
theorem F__law_power (T : Txt K mg) : FnP K "_law_power" s__law_power (He.ga K "_law_power") (fd__law_power T) := (F0__law_power T).choose_spec
theorem g__law_power (T : Txt K mg) : mg "_law_power" = some (.ref (He.ga K "_law_power")) := T.gl (T.c.fact 17 rfl)
theorem kp__law_power (T : Txt K mg) : PySem.W.keepIn K (.ref (He.ga K "_law_power")) = true := (F__law_power T).kp
theorem B__law_power (T : Txt K mg) : Binds K (fd__law_power T) ["_law_n", "_law_a", "_law_e"] [] := (F__law_power T).bindsN fun _ _ _ _ _ _ us hl => match us, hl with | [_, _, _], _ => rfl
theorem F0__law_parted (T : Txt K mg) : ∃ fd, FnP K "_law_parted" s__law_parted (He.ga K "_law_parted") fd := T.c.dfn 18 rfl
noncomputable def fd__law_parted (T : Txt K mg) : FuncData := (F0__law_parted T).choose
theorem F__law_parted (T : Txt K mg) : FnP K "_law_parted" s__law_parted (He.ga K "_law_parted") (fd__law_parted T) := (F0__law_parted T).choose_spec
theorem g__law_parted (T : Txt K mg) : mg "_law_parted" = some (.ref (He.ga K "_law_parted")) := T.gl (T.c.fact 18 rfl)
theorem kp__law_parted (T : Txt K mg) : PySem.W.keepIn K (.ref (He.ga K "_law_parted")) = true := (F__law_parted T).kp
theorem B__law_parted (T : Txt K mg) : Binds K (fd__law_parted T) ["_law_n"] [] := (F__law_parted T).bindsN fun _ _ _ _ _ _ us hl => match us, hl with | [_], _ => rfl
theorem F0__law_paper (T : Txt K mg) : ∃ fd, FnP K "_law_paper" s__law_paper (He.ga K "_law_paper") fd := T.c.dfn 19 rfl
noncomputable def fd__law_paper (T : Txt K mg) : FuncData := (F0__law_paper T).choose
theorem F__law_paper (T : Txt K mg) : FnP K "_law_paper" s__law_paper (He.ga K "_law_paper") (fd__law_paper T) := (F0__law_paper T).choose_spec
theorem g__law_paper (T : Txt K mg) : mg "_law_paper" = some (.ref (He.ga K "_law_paper")) := T.gl (T.c.fact 19 rfl)
theorem kp__law_paper (T : Txt K mg) : PySem.W.keepIn K (.ref (He.ga K "_law_paper")) = true := (F__law_paper T).kp
theorem B__law_paper (T : Txt K mg) : Binds K (fd__law_paper T) ["_law_p"] [] := (F__law_paper T).bindsN fun _ _ _ _ _ _ us hl => match us, hl with | [_], _ => rfl
theorem F0__law_times (T : Txt K mg) : ∃ fd, FnP K "_law_times" s__law_times (He.ga K "_law_times") fd := T.c.dfn 20 rfl
noncomputable def fd__law_times (T : Txt K mg) : FuncData := (F0__law_times T).choose
theorem F__law_times (T : Txt K mg) : FnP K "_law_times" s__law_times (He.ga K "_law_times") (fd__law_times T) := (F0__law_times T).choose_spec
theorem g__law_times (T : Txt K mg) : mg "_law_times" = some (.ref (He.ga K "_law_times")) := T.gl (T.c.fact 20 rfl)
theorem kp__law_times (T : Txt K mg) : PySem.W.keepIn K (.ref (He.ga K "_law_times")) = true := (F__law_times T).kp
theorem B__law_times (T : Txt K mg) : Binds K (fd__law_times T) ["_law_e", "_law_q"] [] := (F__law_times T).bindsN fun _ _ _ _ _ _ us hl => match us, hl with | [_, _], _ => rfl
theorem F0__law_same (T : Txt K mg) : ∃ fd, FnP K "_law_same" s__law_same (He.ga K "_law_same") fd := T.c.dfn 21 rfl
noncomputable def fd__law_same (T : Txt K mg) : FuncData := (F0__law_same T).choose
theorem F__law_same (T : Txt K mg) : FnP K "_law_same" s__law_same (He.ga K "_law_same") (fd__law_same T) := (F0__law_same T).choose_spec
theorem g__law_same (T : Txt K mg) : mg "_law_same" = some (.ref (He.ga K "_law_same")) := T.gl (T.c.fact 21 rfl)
theorem kp__law_same (T : Txt K mg) : PySem.W.keepIn K (.ref (He.ga K "_law_same")) = true := (F__law_same T).kp
theorem B__law_same (T : Txt K mg) : Binds K (fd__law_same T) ["_law_found", "_law_due"] [] := (F__law_same T).bindsN fun _ _ _ _ _ _ us hl => match us, hl with | [_, _], _ => rfl
theorem F0__law_paper_due (T : Txt K mg) : ∃ fd, FnP K "_law_paper_due" s__law_paper_due (He.ga K "_law_paper_due") fd := T.c.dfn 22 rfl
noncomputable def fd__law_paper_due (T : Txt K mg) : FuncData := (F0__law_paper_due T).choose
theorem F__law_paper_due (T : Txt K mg) : FnP K "_law_paper_due" s__law_paper_due (He.ga K "_law_paper_due") (fd__law_paper_due T) := (F0__law_paper_due T).choose_spec
theorem g__law_paper_due (T : Txt K mg) : mg "_law_paper_due" = some (.ref (He.ga K "_law_paper_due")) := T.gl (T.c.fact 22 rfl)
theorem kp__law_paper_due (T : Txt K mg) : PySem.W.keepIn K (.ref (He.ga K "_law_paper_due")) = true := (F__law_paper_due T).kp
theorem B__law_paper_due (T : Txt K mg) : Binds K (fd__law_paper_due T) ["_law_n", "_law_a", "_law_least", "_law_papers_here"] [] := (F__law_paper_due T).bindsN fun _ _ _ _ _ _ us hl => match us, hl with | [_, _, _, _], _ => rfl
theorem F0__law_divisor (T : Txt K mg) : ∃ fd, FnP K "_law_divisor" s__law_divisor (He.ga K "_law_divisor") fd := T.c.dfn 23 rfl
noncomputable def fd__law_divisor (T : Txt K mg) : FuncData := (F0__law_divisor T).choose
theorem F__law_divisor (T : Txt K mg) : FnP K "_law_divisor" s__law_divisor (He.ga K "_law_divisor") (fd__law_divisor T) := (F0__law_divisor T).choose_spec
theorem g__law_divisor (T : Txt K mg) : mg "_law_divisor" = some (.ref (He.ga K "_law_divisor")) := T.gl (T.c.fact 23 rfl)
theorem kp__law_divisor (T : Txt K mg) : PySem.W.keepIn K (.ref (He.ga K "_law_divisor")) = true := (F__law_divisor T).kp
theorem B__law_divisor (T : Txt K mg) : Binds K (fd__law_divisor T) ["_law_one", "_law_other"] [] := (F__law_divisor T).bindsN fun _ _ _ _ _ _ us hl => match us, hl with | [_, _], _ => rfl
theorem F0__law_raised (T : Txt K mg) : ∃ fd, FnP K "_law_raised" s__law_raised (He.ga K "_law_raised") fd := T.c.dfn 24 rfl
noncomputable def fd__law_raised (T : Txt K mg) : FuncData := (F0__law_raised T).choose
theorem F__law_raised (T : Txt K mg) : FnP K "_law_raised" s__law_raised (He.ga K "_law_raised") (fd__law_raised T) := (F0__law_raised T).choose_spec
theorem g__law_raised (T : Txt K mg) : mg "_law_raised" = some (.ref (He.ga K "_law_raised")) := T.gl (T.c.fact 24 rfl)
theorem kp__law_raised (T : Txt K mg) : PySem.W.keepIn K (.ref (He.ga K "_law_raised")) = true := (F__law_raised T).kp
theorem B__law_raised (T : Txt K mg) : Binds K (fd__law_raised T) ["_law_b", "_law_e"] [] := (F__law_raised T).bindsN fun _ _ _ _ _ _ us hl => match us, hl with | [_, _], _ => rfl
theorem F0__law_exponent (T : Txt K mg) : ∃ fd, FnP K "_law_exponent" s__law_exponent (He.ga K "_law_exponent") fd := T.c.dfn 25 rfl
noncomputable def fd__law_exponent (T : Txt K mg) : FuncData := (F0__law_exponent T).choose
theorem F__law_exponent (T : Txt K mg) : FnP K "_law_exponent" s__law_exponent (He.ga K "_law_exponent") (fd__law_exponent T) := (F0__law_exponent T).choose_spec
theorem g__law_exponent (T : Txt K mg) : mg "_law_exponent" = some (.ref (He.ga K "_law_exponent")) := T.gl (T.c.fact 25 rfl)
theorem kp__law_exponent (T : Txt K mg) : PySem.W.keepIn K (.ref (He.ga K "_law_exponent")) = true := (F__law_exponent T).kp
theorem B__law_exponent (T : Txt K mg) : Binds K (fd__law_exponent T) ["_law_state_here", "_law_b"] [] := (F__law_exponent T).bindsN fun _ _ _ _ _ _ us hl => match us, hl with | [_, _], _ => rfl
theorem F0__law_papers (T : Txt K mg) : ∃ fd, FnP K "_law_papers" s__law_papers (He.ga K "_law_papers") fd := T.c.dfn 26 rfl
noncomputable def fd__law_papers (T : Txt K mg) : FuncData := (F0__law_papers T).choose
theorem F__law_papers (T : Txt K mg) : FnP K "_law_papers" s__law_papers (He.ga K "_law_papers") (fd__law_papers T) := (F0__law_papers T).choose_spec
theorem g__law_papers (T : Txt K mg) : mg "_law_papers" = some (.ref (He.ga K "_law_papers")) := T.gl (T.c.fact 26 rfl)
theorem kp__law_papers (T : Txt K mg) : PySem.W.keepIn K (.ref (He.ga K "_law_papers")) = true := (F__law_papers T).kp
theorem B__law_papers (T : Txt K mg) : Binds K (fd__law_papers T) ["_law_state_here", "_law_whole"] [] := (F__law_papers T).bindsN fun _ _ _ _ _ _ us hl => match us, hl with | [_, _], _ => rfl
theorem F0__law_let_by (T : Txt K mg) : ∃ fd, FnP K "_law_let_by" s__law_let_by (He.ga K "_law_let_by") fd := T.c.dfn 27 rfl
noncomputable def fd__law_let_by (T : Txt K mg) : FuncData := (F0__law_let_by T).choose
theorem F__law_let_by (T : Txt K mg) : FnP K "_law_let_by" s__law_let_by (He.ga K "_law_let_by") (fd__law_let_by T) := (F0__law_let_by T).choose_spec
theorem g__law_let_by (T : Txt K mg) : mg "_law_let_by" = some (.ref (He.ga K "_law_let_by")) := T.gl (T.c.fact 27 rfl)
theorem kp__law_let_by (T : Txt K mg) : PySem.W.keepIn K (.ref (He.ga K "_law_let_by")) = true := (F__law_let_by T).kp
theorem B__law_let_by (T : Txt K mg) : Binds K (fd__law_let_by T) ["_law_state_here", "_law_n", "_law_a", "_law_due"] [] := (F__law_let_by T).bindsN fun _ _ _ _ _ _ us hl => match us, hl with | [_, _, _, _], _ => rfl
theorem F0__law_right (T : Txt K mg) : ∃ fd, FnP K "_law_right" s__law_right (He.ga K "_law_right") fd := T.c.dfn 28 rfl
noncomputable def fd__law_right (T : Txt K mg) : FuncData := (F0__law_right T).choose
theorem F__law_right (T : Txt K mg) : FnP K "_law_right" s__law_right (He.ga K "_law_right") (fd__law_right T) := (F0__law_right T).choose_spec
theorem g__law_right (T : Txt K mg) : mg "_law_right" = some (.ref (He.ga K "_law_right")) := T.gl (T.c.fact 28 rfl)
theorem kp__law_right (T : Txt K mg) : PySem.W.keepIn K (.ref (He.ga K "_law_right")) = true := (F__law_right T).kp
theorem B__law_right (T : Txt K mg) : Binds K (fd__law_right T) ["_law_state_here"] [] := (F__law_right T).bindsN fun _ _ _ _ _ _ us hl => match us, hl with | [_], _ => rfl
theorem F0_law (T : Txt K mg) : ∃ fd, FnP K "law" s_law (He.ga K "law") fd := T.c.dfn 29 rfl
noncomputable def fd_law (T : Txt K mg) : FuncData := (F0_law T).choose
theorem F_law (T : Txt K mg) : FnP K "law" s_law (He.ga K "law") (fd_law T) := (F0_law T).choose_spec
theorem g_law (T : Txt K mg) : mg "law" = some (.ref (He.ga K "law")) := T.gl (T.c.fact 29 rfl)
theorem kp_law (T : Txt K mg) : PySem.W.keepIn K (.ref (He.ga K "law")) = true := (F_law T).kp
theorem B_law (T : Txt K mg) : Binds K (fd_law T) ["_law_script"] [] := (F_law T).bindsN fun _ _ _ _ _ _ us hl => match us, hl with | [_], _ => rfl
theorem g_PrimeError (T : Txt K mg) : mg "PrimeError" = some (.ref (He.ga K "PrimeError")) := T.gl (T.c.fact 30 rfl)
theorem g_NoInverse (T : Txt K mg) : mg "NoInverse" = some (.ref (He.ga K "NoInverse")) := T.gl (T.c.fact 31 rfl)
theorem g_NoOrder (T : Txt K mg) : mg "NoOrder" = some (.ref (He.ga K "NoOrder")) := T.gl (T.c.fact 32 rfl)
theorem x_NoInverse (T : Txt K mg) : XIn K (He.ga K "NoInverse") (He.ma K (He.ga K "NoInverse") "__init__") "divisor" := xin_of (T.c.fact 46 rfl)
theorem F0_init_NoInverse (T : Txt K mg) : ∃ fd, FunD K "__init__" "NoInverse.__init__" (defArgs s_init_NoInverse) (defBody s_init_NoInverse) (defScope s_init_NoInverse) [] [] (He.ma K (He.ga K "NoInverse") "__init__") fd := T.c.dfn 30 rfl
noncomputable def fd_init_NoInverse (T : Txt K mg) : FuncData := (F0_init_NoInverse T).choose
theorem F_init_NoInverse (T : Txt K mg) : FunD K "__init__" "NoInverse.__init__" (defArgs s_init_NoInverse) (defBody s_init_NoInverse) (defScope s_init_NoInverse) [] [] (He.ma K (He.ga K "NoInverse") "__init__") (fd_init_NoInverse T) := (F0_init_NoInverse T).choose_spec
theorem B_init_NoInverse (T : Txt K mg) : Binds K (fd_init_NoInverse T) ["self", "divisor"] [] := (F_init_NoInverse T).bindsN fun _ _ _ _ _ _ us hl => match us, hl with | [_, _], _ => rfl
theorem ok_init_NoInverse (T : Txt K mg) : FnOk P w K mg base CX0 1 (He.ma K (He.ga K "NoInverse") "__init__") (fd_init_NoInverse T) ["self", "divisor"] (sp_init K (He.ga K "NoInverse") "divisor") := by
  refine (F_init_NoInverse T).ok sc_init_NoInverse (fun vs H Q E h => ?_) (fun cdv A outer s H vs Q E hr h => ⟨_, PSs.nox (pss_cons (ps_expr (pe_cinit rfl (g_PrimeError T) (base_of (T.c.fact (t := fun K => baseB (He.ga K "PrimeError") K) 47 rfl)) (pa_cons (pv 0) (pa_cons pe_str pa_nil)))) (pss_one (ps_ost (pv 0) (pv 1)))), ?_⟩)
  · obtain ⟨_, _, rfl, _⟩ := h; rfl
  · exact rd_init h
theorem z_PrimeError (T : Txt K mg) : Exc0 K (He.ga K "PrimeError") := exc0_of (T.c.fact 48 rfl)
theorem z_NoOrder (T : Txt K mg) : Exc0 K (He.ga K "NoOrder") := exc0_of (T.c.fact 49 rfl)
/-- divisor(a, b): a new tuple (g, u, v) -/
def sp_divisor : Sp := fun vs H Q _ => ∃ a b : Int, vs = [.int a, .int b] ∧ a.natAbs < 2 ^ 900 ∧ b.natAbs < 2 ^ 900 ∧
  ∀ g u v p, M.DivOk a b g u v → H p = none → Q (.ref p) (upd H p (.tup [.int g, .int u, .int v]))
theorem ok_divisor (T : Txt K mg) : FnOk P w K mg base CX0 1 (He.ga K "divisor") (fd_divisor T) ["a", "b"] sp_divisor := by
  refine (F_divisor T).ok sc_divisor (fun vs H Q E h => ?_) (fun cdv A outer s H vs Q E hr h => ⟨_, PSs.nox (pss_cons (ps_par3 (i := 2) (j := 3) (l := 4) rfl sc_divisor.nd rfl rfl rfl (by decide) (by decide) (by decide) rfl rfl rfl (pa_cons (pv 0) (pa_cons pe_int (pa_cons pe_int pa_nil))) rfl)
      (pss_cons (ps_par3 (i := 5) (j := 6) (l := 7) rfl sc_divisor.nd rfl rfl rfl (by decide) (by decide) (by decide) rfl rfl rfl (pa_cons (pv 1) (pa_cons pe_int (pa_cons pe_int pa_nil))) rfl)
      (pss_cons (ps_while PassesOwn.never (pt_cmpR op_ne (pv 5) pe_int (nomark _)) (pss_cons (ps_set (i := 8) sc_divisor.nd rfl (Or.inl rfl) (pe_op op_divF (pv 2) (pv 5)))
      (pss_cons (ps_par (i := 2) (j := 5) rfl sc_divisor.nd rfl rfl (by decide) rfl rfl (pa_cons (pv 5) (pa_cons (pe_op op_sub (pv 2) (pe_op op_mulW (pv 8) (pv 5))) pa_nil)) rfl)
      (pss_cons (ps_par (i := 3) (j := 6) rfl sc_divisor.nd rfl rfl (by decide) rfl rfl (pa_cons (pv 6) (pa_cons (pe_op op_sub (pv 3) (pe_op op_mulW (pv 8) (pv 6))) pa_nil)) rfl)
      (pss_one (ps_par (i := 4) (j := 7) rfl sc_divisor.nd rfl rfl (by decide) rfl rfl (pa_cons (pv 7) (pa_cons (pe_op op_sub (pv 4) (pe_op op_mulW (pv 8) (pv 7))) pa_nil)) rfl))))))
      (pss_cons (ps_if (pt_cmpR op_lt (pv 2) pe_int (nomark _)) (pss_one (ps_ret (pe_tup (pa_cons (pe_un un_neg (pv 2)) (pa_cons (pe_un un_neg (pv 3)) (pa_cons (pe_un un_neg (pv 4)) pa_nil)))))) pss_nil)
      (pss_one (ps_ret (pe_tup (pa_cons (pv 2) (pa_cons (pv 3) (pa_cons (pv 4) pa_nil)))))))))), ?_⟩)
  · obtain ⟨a, b, rfl, _⟩ := h; rfl
  · obtain ⟨a, b, rfl, ha, hb, k⟩ := h
    walk_at "g"
    refine s_while (fun σ H' => H' = H ∧ ∃ (g u v r x y : Int) (t : Option V), σ = [some (.int a), some (.int b), some (.int g), some (.int u), some (.int v), some (.int r), some (.int x), some (.int y), t] ∧ M.DivSt a b g u v r x y)
      (fun σ _ => (iv σ 5).natAbs) ⟨rfl, a, 1, 0, b, 0, 1, none, rfl, .inl ⟨rfl, rfl, rfl, rfl, rfl, rfl⟩⟩ ?_
    · rintro σ H' ⟨rfl, g, u, v, r, x, y, t, rfl, I⟩
      walk_at "g"
      refine s_iten (fun hr => ?_) (fun hr => ?_)
      · have Z := M.div_sizes I
        have hd : r ≠ 0 := hr
        have st := M.div_step I hd
        have hf : (g.fdiv r).natAbs ≤ g.natAbs := M.fdiv_le g r
        walk_at "g"
        refine s_i (divF hd (by omega)) ?_
        walk_at "g"
        exact ⟨⟨rfl, _, _, _, _, _, _, _, rfl, st.1⟩, st.2⟩
      · walk_at "g"
        have T := M.div_told I hr
        refine s_ite (fun hg => ?_) (fun hg => ?_)
        · walk_at "g"
          exact ⟨len_le (by simp), fun p hp => k _ _ _ p (T.1 hg) hp⟩
        · walk_at "g"
          exact ⟨len_le (by simp), fun p hp => k _ _ _ p (T.2 hg) hp⟩

/-- inverse(n, a): the number that, times a, is 1 by n; else NoInverse(the divisor) -/
def sp_inverse (K : PySem.W.Frag) : Sp := fun vs H Q E => ∃ n a : Int, vs = [.int n, .int a] ∧ 0 < n ∧ n.natAbs < 2 ^ 900 ∧
  (Int.gcd a n = 1 → ∀ (H' : Hp) (b : Int), Same H H' → 0 ≤ b → b < n → (b * a - 1) % n = 0 → Q (.int b) H') ∧
  (Int.gcd a n ≠ 1 → ∀ (d : Addr) (H' : Hp), H d = none → Same H H' → H' d = some (.xd [("divisor", .int (Int.gcd a n))]) → E (.ref (He.ga K "NoInverse")) (some d) H')
theorem ok_inverse (T : Txt K mg) : FnOk P w K mg base (L2.CX P w) 5 (He.ga K "inverse") (fd_inverse T) ["n", "a"] (sp_inverse K) := by
  refine (F_inverse T).ok sc_inverse (fun vs H Q E h => ?_) (fun cdv A outer s H vs Q E hr h => ⟨_, (pss_cons (ps_asg (pe_call (ok_divisor T) (hr.mono (by decide)) rfl (g_divisor T) (kp_divisor T) (B_divisor T) .nil pass0 (pa_cons (pe_op op_mod (pv 1) (pv 0)) (pa_cons (pv 0) pa_nil))) (pg_tup rfl (pgs_cons (pg_name (i := 2) sc_inverse.nd rfl (Or.inl rfl)) (pgs_cons (pg_name (i := 3) sc_inverse.nd rfl (Or.inl rfl)) (pgs_cons (pg_name (i := 4) sc_inverse.nd rfl (Or.inl rfl)) pgs_nil)))))
      (pss_cons (ps_if (pt_cmpR op_gt (pv 2) pe_int (nomark _)) (pss_one (ps_raise rfl (takes_of rfl rfl rfl rfl) (pmk_oex (x_NoInverse T).oex (x_NoInverse T).iC (x_NoInverse T).tI (ok_init_NoInverse T) (hr.mono (by decide)) (B_init_NoInverse T) .nil pass0 rfl (g_NoInverse T) (pa_cons (pv 2) pa_nil)))) pss_nil)
      (pss_one (ps_ret (pe_op op_mod (pv 3) (pv 0)))))), ?_⟩)
  · obtain ⟨n, a, rfl, _⟩ := h; rfl
  · obtain ⟨n, a, rfl, h0, hn, k1, k2⟩ := h
    have ha0 := Int.emod_nonneg a (show n ≠ 0 by omega)
    have ha1 := Int.emod_lt_of_pos a h0
    have gp := M.gcd_pos (a := a) h0
    walk_at "g"
    refine s_i (by omega) ?_
    walk_at "g"
    refine ⟨a % n, n, rfl, by omega, hn, fun g u v p I hp => ?_⟩
    have S1 : Same H (upd H p (.tup [.int g, .int u, .int v])) := same_upd hp
    have T1 : upd H p (.tup [.int g, .int u, .int v]) p = some (.tup [.int g, .int u, .int v]) := upd_same
    generalize upd H p (.tup [.int g, .int u, .int v]) = H1 at S1 T1 ⊢
    have hg := I.hg
    rw [M.gcd_mod] at hg
    walk_at "g"
    refine s_gtup (SqT.of T1) rfl ?_
    walk_at "g"
    refine s_ite (fun c => ?_) (fun c => ?_)
    · walk_at "g"
      refine s_raise (x_NoInverse T).oex (x_NoInverse T).noF fun d H' hd hx hs => ?_
      rw [hg] at hx
      exact k2 (by omega) d H' (S1.free hd) (S1.trans hs) hx
    · walk_at "g"
      refine s_i (by omega) ?_
      have g1 : Int.gcd a n = 1 := by omega
      exact k1 g1 H1 _ S1 (Int.emod_nonneg _ (by omega)) (Int.emod_lt_of_pos _ h0) (M.inv_of h0 I g1)

/-- a def of which nothing is asked -/
theorem ok_never1 {CX : CXT} {f : Addr} {fd : FuncData} {ps : List Str} : FnOk P w K mg base CX 1 f fd ps (fun _ _ _ _ => False) := ⟨fun _ _ _ _ h => h.elim, fun _ _ _ _ _ _ _ _ _ _ _ _ _ h => h.elim⟩
/-- power(n, a, e), e from 0 on -/
def sp_power0 : Sp := fun vs H Q _ => ∃ (n a : Int) (e : Nat), vs = [.int n, .int a, .int e] ∧ 0 < n ∧ n.natAbs < 2 ^ 900 ∧ Q (.int (M.pw n a e)) H
theorem ok_power0 (T : Txt K mg) : FnOk P w K mg base (L2.CX P w) 6 (He.ga K "power") (fd_power T) ["n", "a", "e"] sp_power0 := by
  refine (F_power T).ok sc_power (fun vs H Q E h => ?_) (fun cdv A outer s H vs Q E hr h => ⟨_, (pss_cons (ps_if (pt_cmpR op_lt (pv 2) pe_int (nomark _)) (pss_one (ps_ret (pe_call (ok_never1) (hr.mono (by decide)) rfl (g_power T) (kp_power T) (B_power T) .nil (passes_call (takes_of rfl rfl rfl rfl) (fun _ _ _ _ h => h)) (pa_cons (pv 0) (pa_cons (pe_call (ok_inverse T) (hr.mono (by decide)) rfl (g_inverse T) (kp_inverse T) (B_inverse T) .nil (passes_call (takes_of rfl rfl rfl rfl) (fun _ _ _ _ h => h)) (pa_cons (pv 0) (pa_cons (pv 1) pa_nil))) (pa_cons (pe_un un_neg (pv 2)) pa_nil)))))) pss_nil)
      (pss_cons (ps_set (i := 3) sc_power.nd rfl (Or.inl rfl) (pe_op op_mod pe_int (pv 0)))
      (pss_cons (ps_set (i := 4) sc_power.nd rfl (Or.inl rfl) (pe_op op_mod (pv 1) (pv 0)))
      (pss_cons (ps_while (passes_of rfl) (pt_cmpR op_gt (pv 2) pe_int (nomark _)) (pss_cons (ps_if (pt_cmpR op_eq (pe_op op_mod (pv 2) pe_int) pe_int (nomark _)) (pss_one (ps_set (i := 3) sc_power.nd rfl (Or.inl rfl) (pe_op op_mod (pe_op op_mulW (pv 3) (pv 4)) (pv 0)))) pss_nil)
      (pss_cons (ps_set (i := 4) sc_power.nd rfl (Or.inl rfl) (pe_op op_mod (pe_op op_mulW (pv 4) (pv 4)) (pv 0)))
      (pss_one (ps_set (i := 2) sc_power.nd rfl (Or.inl rfl) (pe_op op_fdivW (pv 2) pe_int))))))
      (pss_one (ps_ret (pv 3))))))), ?_⟩)
  · obtain ⟨n, a, e, rfl, _⟩ := h; rfl
  · obtain ⟨n, a, e, rfl, h0, hn, k⟩ := h
    walk_at "g"
    refine s_itN (by omega) ?_
    walk_at "g"
    refine s_i (by omega) ?_
    walk_at "g"
    refine s_i (by omega) ?_
    walk_at "g"
    refine s_while (fun σ H' => H' = H ∧ ∃ (e' : Nat) (f b : Int), σ = [some (.int n), some (.int a), some (.int e'), some (.int f), some (.int b)] ∧ 0 ≤ f ∧ f < n ∧ 0 ≤ b ∧ b < n ∧ f * b ^ e' % n = M.pw n a e)
      (fun σ _ => (iv σ 2).natAbs) ⟨rfl, e, _, _, rfl, Int.emod_nonneg _ (by omega), Int.emod_lt_of_pos _ h0, Int.emod_nonneg _ (by omega), Int.emod_lt_of_pos _ h0, M.pw_one⟩ ?_
    rintro σ H' ⟨rfl, e', f, b, rfl, f0, f1, b0, b1, inv⟩
    have st := M.pw_turn inv
    walk_at "g"
    refine s_ite (fun c => ?_) (fun c => ?_)
    · have e2 : (e' : Int) / 2 = ((e' / 2 : Nat) : Int) := by omega
      walk_at "h"
      refine s_join (fun σ' H1 => H1 = H' ∧ ∃ f' : Int, σ' = [some (.int n), some (.int a), some (.int e'), some (.int f'), some (.int b)] ∧ 0 ≤ f' ∧ f' < n ∧ f' * (b * b % n) ^ (e' / 2) % n = M.pw n a e) ?_ fun N J => ?_
      · rintro σ' H1 ⟨rfl, f', rfl, f0', f1', inv'⟩
        walk_at "g"
        refine s_i (by omega) ?_
        walk_at "g"
        refine ⟨⟨rfl, e' / 2, f', _, ?_, f0', f1', Int.emod_nonneg _ (by omega), Int.emod_lt_of_pos _ h0, inv'⟩, ?_⟩
        · rw [e2]; rfl
        · show ((e' : Int) / 2).natAbs < (e' : Int).natAbs
          omega
      · walk_at "g"
        refine s_ite (fun c2 => ?_) (fun c2 => ?_)
        · walk_at "g"
          refine s_i (by omega) ?_
          walk_at "g"
          exact J _ _ ⟨rfl, _, rfl, Int.emod_nonneg _ (by omega), Int.emod_lt_of_pos _ h0, st.1 (by omega)⟩
        · walk_at "g"
          exact J _ _ ⟨rfl, _, rfl, f0, f1, st.2 (by omega)⟩
    · have z : e' = 0 := by omega
      subst z
      walk_at "g"
      rw [M.pw_end f0 f1 inv]
      exact k
/-- power(n, a, e) -/
def sp_power (K : PySem.W.Frag) : Sp := fun vs H Q E => ∃ n a e : Int, vs = [.int n, .int a, .int e] ∧ 0 < n ∧ n.natAbs < 2 ^ 900 ∧
  (0 ≤ e → Q (.int (M.pw n a e.toNat)) H) ∧
  (e < 0 → Int.gcd a n = 1 → ∀ (H' : Hp) (b : Int), Same H H' → 0 ≤ b → b < n → (b * a - 1) % n = 0 → Q (.int (M.pw n b (-e).toNat)) H') ∧
  (e < 0 → Int.gcd a n ≠ 1 → ∀ (d : Addr) (H' : Hp), H d = none → Same H H' → H' d = some (.xd [("divisor", .int (Int.gcd a n))]) → E (.ref (He.ga K "NoInverse")) (some d) H')
/-- .. e below 0 -/
def sp_powerN (K : PySem.W.Frag) : Sp := fun vs H Q E => ∃ n a e : Int, vs = [.int n, .int a, .int e] ∧ 0 < n ∧ n.natAbs < 2 ^ 900 ∧ e < 0 ∧
  (Int.gcd a n = 1 → ∀ (H' : Hp) (b : Int), Same H H' → 0 ≤ b → b < n → (b * a - 1) % n = 0 → Q (.int (M.pw n b (-e).toNat)) H') ∧
  (Int.gcd a n ≠ 1 → ∀ (d : Addr) (H' : Hp), H d = none → Same H H' → H' d = some (.xd [("divisor", .int (Int.gcd a n))]) → E (.ref (He.ga K "NoInverse")) (some d) H')
theorem ok_powerN (T : Txt K mg) : FnOk P w K mg base (L2.CX P w) 7 (He.ga K "power") (fd_power T) ["n", "a", "e"] (sp_powerN K) := by
  refine (F_power T).ok sc_power (fun vs H Q E h => ?_) (fun cdv A outer s H vs Q E hr h => ⟨_, (pss_cons (ps_if (pt_cmpR op_lt (pv 2) pe_int (nomark _)) (pss_one (ps_ret (pe_call (ok_power0 T) (hr.mono (by decide)) rfl (g_power T) (kp_power T) (B_power T) .nil (passes_call (takes_of rfl rfl rfl rfl) (fun _ _ _ _ h => h)) (pa_cons (pv 0) (pa_cons (pe_call (ok_inverse T) (hr.mono (by decide)) rfl (g_inverse T) (kp_inverse T) (B_inverse T) .nil (passes_call (takes_of rfl rfl rfl rfl) (fun _ _ _ _ h => h)) (pa_cons (pv 0) (pa_cons (pv 1) pa_nil))) (pa_cons (pe_un un_neg (pv 2)) pa_nil)))))) pss_nil)
      (pss_cons (ps_set (i := 3) sc_power.nd rfl (Or.inl rfl) (pe_op op_mod pe_int (pv 0)))
      (pss_cons (ps_set (i := 4) sc_power.nd rfl (Or.inl rfl) (pe_op op_mod (pv 1) (pv 0)))
      (pss_cons (ps_while (passes_of rfl) (pt_cmpR op_gt (pv 2) pe_int (nomark _)) (pss_cons (ps_if (pt_cmpR op_eq (pe_op op_mod (pv 2) pe_int) pe_int (nomark _)) (pss_one (ps_set (i := 3) sc_power.nd rfl (Or.inl rfl) (pe_op op_mod (pe_op op_mulW (pv 3) (pv 4)) (pv 0)))) pss_nil)
      (pss_cons (ps_set (i := 4) sc_power.nd rfl (Or.inl rfl) (pe_op op_mod (pe_op op_mulW (pv 4) (pv 4)) (pv 0)))
      (pss_one (ps_set (i := 2) sc_power.nd rfl (Or.inl rfl) (pe_op op_fdivW (pv 2) pe_int))))))
      (pss_one (ps_ret (pv 3))))))), ?_⟩)
  · obtain ⟨n, a, e, rfl, _⟩ := h; rfl
  · obtain ⟨n, a, e, rfl, h0, hn, c, k1, k2⟩ := h
    walk_at "g"
    refine s_itP c ?_
    walk_at "g"
    refine ⟨n, a, rfl, h0, hn, fun g1 H' b hs b0 b1 hb => ?_, fun g1 d H' hd hs hx => k2 g1 d H' hd hs hx⟩
    walk_at "g"
    refine ⟨n, b, (-e).toNat, ?_, h0, hn, k1 g1 H' b hs b0 b1 hb⟩
    have : -e = ((-e).toNat : Int) := by omega
    rw [← this]; rfl
theorem ok_power (T : Txt K mg) : FnOk P w K mg base (L2.CX P w) 7 (He.ga K "power") (fd_power T) ["n", "a", "e"] (sp_power K) := by
  refine fn_or ((ok_power0 T).mono (by decide)) (ok_powerN T) fun vs H Q E ⟨n, a, e, ev, h0, hn, k0, k1, k2⟩ => ?_
  subst ev
  by_cases c : e < 0
  · exact .inr ⟨n, a, e, rfl, h0, hn, c, k1 c, k2 c⟩
  · refine .inl ⟨n, a, e.toNat, ?_, h0, hn, k0 (by omega)⟩
    have : e = (e.toNat : Int) := by omega
    rw [← this]
theorem pos_power {H : Hp} {Q : VK} {E : XK} {n a e : Int} {m : Nat} (he : e = m) (h0 : 0 < n) (hn : n.natAbs < 2 ^ 900) (k : Q (.int (M.pw n a m)) H) : sp_power K [.int n, .int a, .int e] H Q E :=
  ⟨n, a, e, rfl, h0, hn, fun _ => by rw [show e.toNat = m by omega]; exact k, fun c => by omega, fun c => by omega⟩

theorem prodL_pos0 : ∀ {l : List (Nat × Nat)}, (∀ x ∈ l, 0 < x.1) → 0 < M.prodL l
  | [], _ => by decide
  | x :: l, h => Nat.mul_pos (Nat.pow_pos (h x (by simp))) (prodL_pos0 fun y hy => h y (by simp [hy]))
theorem prodL_take_le {l : List (Nat × Nat)} (h : ∀ x ∈ l, 0 < x.1) (i : Nat) : M.prodL (l.take i) ≤ M.prodL l := by
  conv => rhs; rw [← List.take_append_drop i l, M.prodL_app]
  exact Nat.le_mul_of_pos_right _ (prodL_pos0 fun x hx => h x (List.mem_of_mem_drop hx))
theorem prodL_one (x : Nat × Nat) (l : List (Nat × Nat)) : M.prodL (l ++ [x]) = M.prodL l * x.1 ^ x.2 := by rw [M.prodL_app]; simp [M.prodL]
theorem fac_many {F : Nat} {l : List (Nat × Nat)} (h : M.IsFac F l) (h0 : 0 < F) {x : Nat × Nat} (hx : x ∈ l) (hF : F < 2 ^ 200) : x.2 < 2 ^ 60 := by
  have h1 := M.prodL_dvd hx
  rw [h.prod] at h1
  have h2 := Nat.le_of_dvd h0 h1
  have h3 : 2 ^ x.2 ≤ x.1 ^ x.2 := Nat.pow_le_pow_left (h.primes x hx).1.1 _
  have h4 : x.2 < 200 := (Nat.pow_lt_pow_iff_right (by decide : 1 < 2)).mp (by omega)
  omega
theorem filter_take {α : Type} (P : α → Bool) {xs : List α} {i : Nat} {x : α} (h : xs[i]? = some x) : (xs.take (i + 1)).filter P = (xs.take i).filter P ++ (if P x = true then [x] else []) := by
  rw [take_more h, List.filter_append]
  congr 1
  cases e : P x <;> simp [e]

/-- taken(q, many): the power -/
def sp_taken : Sp := fun vs H Q _ => ∃ q b : Nat, vs = [.int q, .int b] ∧ 0 < q ∧ b < 2 ^ 60 ∧ q ^ b < 2 ^ 900 ∧ Q (.int ((q ^ b : Nat) : Int)) H
theorem ok_taken (T : Txt K mg) : FnOk P w K mg base CX0 1 (He.ga K "taken") (fd_taken T) ["q", "many"] sp_taken := by
  refine (F_taken T).ok sc_taken (fun vs H Q E h => ?_) (fun cdv A outer s H vs Q E hr h => ⟨_, PSs.nox (pss_cons (ps_set (i := 2) sc_taken.nd rfl (Or.inl rfl) pe_int)
      (pss_cons (ps_for PassesOwn.never rfl (pi_range1 rfl (T.fr (T.c.fact 33 rfl)) (pa_cons (pv 1) pa_nil)) (pg_name (i := 3) sc_taken.nd rfl (Or.inl rfl)) (pss_one (ps_set (i := 2) sc_taken.nd rfl (Or.inl rfl) (pe_op op_mulW (pv 2) (pv 0)))))
      (pss_one (ps_ret (pv 2))))), ?_⟩)
  · obtain ⟨q, b, rfl, _⟩ := h; rfl
  · obtain ⟨q, b, rfl, q0, hb, hqb, k⟩ := h
    walk_at "g"
    refine mkR1 b (by omega) (by omega) (by omega) ?_
    refine for_range (n := b) (fun i σ H' => H' = H ∧ ∃ v : Option V, σ = [some (.int q), some (.int b), some (.int ((q ^ i : Nat) : Int)), v]) ⟨rfl, none, rfl⟩ ?_ ?_
    · rintro i σ H' hi ⟨rfl, v, rfl⟩
      have h1 : q ^ i ≤ q ^ b := Nat.pow_le_pow_right q0 (by omega)
      have h2 : q ^ 1 ≤ q ^ b := Nat.pow_le_pow_right q0 (by omega)
      rw [Nat.pow_one] at h2
      have e3 : ((q ^ i : Nat) : Int) * (q : Int) = ((q ^ (i + 1) : Nat) : Int) := by rw [Nat.pow_succ]; push_cast; rfl
      walk_at "g"
      try refine s_i (mulW (by omega) (by omega)) ?_
      walk_at "g"
      rw [e3]
      exact ⟨rfl, _, rfl⟩
    · rintro σ H' ⟨rfl, v, rfl⟩
      walk_at "g"
      exact k

/-- whole_of(parting): what it comes to -/
def sp_whole_of : Sp := fun vs H Q _ => ∃ (D : Addr) (ys : List V) (l : List (Nat × Nat)), vs = [.ref D] ∧ H D = some (.lst ys) ∧ TupsIn H ys (l.map fun x => [V.int (x.1 : Nat), V.int (x.2 : Nat)]) ∧ (∀ x ∈ l, 0 < x.1 ∧ x.2 < 2 ^ 60) ∧ M.prodL l < 2 ^ 900 ∧ Q (.int (M.prodL l : Nat)) H
theorem ok_whole_of (T : Txt K mg) : FnOk P w K mg base CX0 2 (He.ga K "whole_of") (fd_whole_of T) ["parting"] sp_whole_of := by
  refine (F_whole_of T).ok sc_whole_of (fun vs H Q E h => ?_) (fun cdv A outer s H vs Q E hr h => ⟨_, PSs.nox (pss_cons (ps_set (i := 1) sc_whole_of.nd rfl (Or.inl rfl) pe_int)
      (pss_cons (ps_for PassesOwn.never rfl (pi_list (pv 0)) (pg_tup rfl (pgs_cons (pg_name (i := 2) sc_whole_of.nd rfl (Or.inl rfl)) (pgs_cons (pg_name (i := 3) sc_whole_of.nd rfl (Or.inl rfl)) pgs_nil))) (pss_one (ps_set (i := 1) sc_whole_of.nd rfl (Or.inl rfl) (pe_op op_mulW (pv 1) (pe_call (ok_taken T) (hr.mono (by decide)) rfl (g_taken T) (kp_taken T) (B_taken T) .nil pass0 (pa_cons (pv 2) (pa_cons (pv 3) pa_nil)))))))
      (pss_one (ps_ret (pv 1))))), ?_⟩)
  · obtain ⟨D, ys, l, rfl, _⟩ := h; rfl
  · obtain ⟨D, ys, l, rfl, hD, ty, hx, hl, k⟩ := h
    have hx0 : ∀ x ∈ l, 0 < x.1 := fun x h => (hx x h).1
    walk_at "g"
    refine ⟨⟨_, SqL.of hD⟩, ?_⟩
    refine for_list (fun i σ H' => H' = H ∧ ∃ v1 v2 : Option V, σ = [some (.ref D), some (.int ((M.prodL (l.take i) : Nat) : Int)), v1, v2]) ⟨rfl, none, none, rfl⟩ (fun i σ H' _ I => by rw [I.1]; exact SqL.of hD) ?_ ?_
    · rintro i x σ H' hi ⟨rfl, v1, v2, rfl⟩
      obtain ⟨y, hy, t, rfl, et⟩ := pget ty hi
      rw [List.getElem?_map] at hy
      obtain ⟨⟨q, b⟩, hab, rfl⟩ := Option.map_eq_some_iff.mp hy
      have hq := hx _ (List.mem_of_getElem? hab)
      have hq1 : 0 < q := hq.1
      have hb1 : b < 2 ^ 60 := hq.2
      have h1 := prodL_take_le hx0 (i + 1)
      have h0 := prodL_take_le hx0 i
      have e3 : M.prodL (l.take (i + 1)) = M.prodL (l.take i) * q ^ b := by rw [take_more hab, prodL_one]
      have hp0 : 0 < M.prodL (l.take i) := prodL_pos0 fun x hx => hx0 x (List.mem_of_mem_take hx)
      have h2 : q ^ b ≤ M.prodL (l.take (i + 1)) := by rw [e3]; exact Nat.le_mul_of_pos_left _ hp0
      have e4 : ((M.prodL (l.take i) : Nat) : Int) * ((q ^ b : Nat) : Int) = ((M.prodL (l.take (i + 1)) : Nat) : Int) := by rw [e3]; push_cast; rfl
      refine s_gtup (SqT.of et) rfl ?_
      walk_at "g"
      refine ⟨q, b, rfl, hq1, hb1, by omega, ?_⟩
      walk_at "g"
      try refine s_i (mulW (by omega) (by omega)) ?_
      walk_at "g"
      rw [e4]
      exact ⟨rfl, _, _, rfl⟩
    · rintro σ H' ⟨rfl, v1, v2, rfl⟩
      have hyl : ys.length = l.length := by rw [ty.length, List.length_map]
      rw [hyl, List.take_length]
      walk_at "g"
      exact k

/-- the state of a law's draws: a dict of what is left and whether it is free -/
def StAt (H : Hp) (p : Addr) : Prop := ∃ (l : Int) (f : Bool), H p = some (.dK [(.inr "left", .int l), (.inr "free", .bl f)]) ∧ (f = false → 0 ≤ l ∧ l < 2147483647)
theorem StAt.same {H H' : Hp} {p : Addr} (h : StAt H p) (s : Same H H') : StAt H' p := by
  obtain ⟨l, f, e, k⟩ := h
  exact ⟨l, f, s _ _ e, k⟩
theorem tups_b {H H' : Hp} {p : Addr} (h : StAt H p) (s : ∀ b o, b ≠ p → H b = some o → H' b = some o) {xs : List V} {rs : List (List V)} (ht : TupsIn H xs rs) : TupsIn H' xs rs := by
  induction ht with
  | nil => exact .nil
  | cons f _ ih =>
    obtain ⟨t, e, ht⟩ := f
    refine .cons ⟨t, e, s _ _ (fun z => ?_) ht⟩ ih
    obtain ⟨_, _, e2, _⟩ := h
    rw [z, e2] at ht; cases ht
/-- _law_state(cell): a new state -/
def sp__law_state : Sp := fun vs H Q _ => ∃ (c : Int), vs = [.int c] ∧ ∀ p H', H p = none → Same H H' → StAt H' p → Q (.ref p) H'
theorem ok__law_state (T : Txt K mg) : FnOk P w K mg base CX0 1 (He.ga K "_law_state") (fd__law_state T) ["_law_cell"] sp__law_state := by
  refine (F__law_state T).ok sc__law_state (fun vs H Q E h => ?_) (fun cdv A outer s H vs Q E hr h => ⟨_, PSs.nox (pss_cons (ps_if (pt_cmpR op_ge (pe_callB callAbs rfl (T.fr (T.c.fact 40 rfl)) boot_abs (pa_cons (pv 0) pa_nil)) (pe_op op_pow pe_int pe_int) (nomark _)) (pss_one (ps_ret (pe_disp (pps_cons pe_str (pe_op op_sub (pe_callB callAbs rfl (T.fr (T.c.fact 40 rfl)) boot_abs (pa_cons (pv 0) pa_nil)) (pe_op op_pow pe_int pe_int)) (pps_cons pe_str pe_bl pps_nil)) rfl rfl (by simp) (by decide)))) pss_nil)
      (pss_one (ps_ret (pe_disp (pps_cons pe_str (pe_op op_add pe_int (pe_op op_mod (pv 0) pe_int)) (pps_cons pe_str pe_bl pps_nil)) rfl rfl (by simp) (by decide))))), ?_⟩)
  · obtain ⟨c, rfl, _⟩ := h; rfl
  · obtain ⟨c, rfl, k⟩ := h
    walk_at "g"
    refine s_ite (fun e => ?_) (fun e => ?_)
    · walk_at "g"
      refine s_disp fun p H1 np hd s1 => ?_
      walk_at "g"
      refine mkDisp [(.inr "left", .int ((if c < 0 then -c else c) - 10 ^ 18)), (.inr "free", .bl true)] hd rfl (by simp) fun H2 e2 s2 => ?_
      exact k p H2 np (s2 H np s1) ⟨_, true, e2, fun z => nomatch z⟩
    · walk_at "g"
      refine s_disp fun p H1 np hd s1 => ?_
      walk_at "g"
      refine mkDisp [(.inr "left", .int (1 + c % 2147483646)), (.inr "free", .bl false)] hd rfl (by simp) fun H2 e2 s2 => ?_
      exact k p H2 np (s2 H np s1) ⟨1 + c % 2147483646, false, e2, fun _ => by omega⟩

/-- _law_take(state, many): a number from 0 to below many -/
def sp__law_take : Sp := fun vs H Q _ => ∃ (p : Addr) (m : Int), vs = [.ref p, .int m] ∧ 0 < m ∧ m < 2 ^ 900 ∧ StAt H p ∧ ∀ (z : Int) H', 0 ≤ z → z < m → StAt H' p → SameB p H H' → Q (.int z) H'
theorem ok__law_take (T : Txt K mg) : FnOk P w K mg base CX0 1 (He.ga K "_law_take") (fd__law_take T) ["_law_state_here", "_law_many"] sp__law_take := by
  refine (F__law_take T).ok sc__law_take (fun vs H Q E h => ?_) (fun cdv A outer s H vs Q E hr h => ⟨_, PSs.nox (pss_cons (ps_if (pt_val (pe_dget (hu_of hr) (pv 0) pe_str (fun _ _ => rfl))) (pss_cons (ps_set (i := 2) sc__law_take.nd rfl (Or.inl rfl) (pe_op op_mod (pe_dget (hu_of hr) (pv 0) pe_str (fun _ _ => rfl)) (pv 1)))
      (pss_cons (ps_dput (hu_of hr) (pv 0) pe_str (pe_op op_fdivW (pe_dget (hu_of hr) (pv 0) pe_str (fun _ _ => rfl)) (pv 1)) rfl)
      (pss_one (ps_ret (pv 2))))) pss_nil)
      (pss_cons (ps_dput (hu_of hr) (pv 0) pe_str (pe_op op_mod (pe_op op_mulW (pe_dget (hu_of hr) (pv 0) pe_str (fun _ _ => rfl)) pe_int) pe_int) rfl)
      (pss_one (ps_ret (pe_op op_mod (pe_op op_fdivW (pe_op op_mod (pe_op op_mulW (pe_dget (hu_of hr) (pv 0) pe_str (fun _ _ => rfl)) pe_int) pe_int) pe_int) (pv 1)))))), ?_⟩)
  · obtain ⟨p, m, rfl, _⟩ := h; rfl
  · obtain ⟨p, m, rfl, m0, m1, ⟨l, f, hd, hf⟩, k⟩ := h
    have hl : ([(.inr "left", .int l), (.inr "free", .bl f)] : List (Key × V)).length < sizeLine := by exact small1000 (by simp)
    have v1 : valV ([(.inr "left", .int l), (.inr "free", .bl f)] : List (Key × V)) (.inr "left") = some (.int l) := by rfl
    have v2 : valV ([(.inr "left", .int l), (.inr "free", .bl f)] : List (Key × V)) (.inr "free") = some (.bl f) := by rfl
    have pk : ∀ x : Int, putK ([(.inr "left", .int l), (.inr "free", .bl f)] : List (Key × V)) (.inr "left") (.int x) = [(.inr "left", .int x), (.inr "free", .bl f)] := fun x => by rfl
    walk_at "g"
    refine s_dgetS hd v2 ?_
    walk_at "g"
    cases f with
    | true =>
      walk_at "g"
      refine s_dgetS hd v1 ?_
      walk_at "g"
      refine s_i (by omega) ?_
      walk_at "g"
      refine s_dgetS hd v1 ?_
      walk_at "g"
      refine s_i (divW m0 (by omega)) ?_
      walk_at "g"
      refine s_dputS hd hl ?_
      walk_at "g"
      rw [pk]
      exact k _ _ (Int.emod_nonneg _ (by omega)) (Int.emod_lt_of_pos _ m0) ⟨_, true, upd_same, fun z => nomatch z⟩ SameB.put
    | false =>
      have hb := hf rfl
      walk_at "g"
      refine s_dgetS hd v1 ?_
      walk_at "g"
      refine s_dputS hd hl ?_
      walk_at "g"
      rw [pk]
      have e : upd H p (.dK [(.inr "left", .int (l * 48271 % 2147483647)), (.inr "free", .bl false)]) p = some (.dK [(.inr "left", .int (l * 48271 % 2147483647)), (.inr "free", .bl false)]) := upd_same
      refine s_dgetS e (by rfl) ?_
      have b0 : 0 ≤ l * 48271 % 2147483647 := by omega
      have b1 : l * 48271 % 2147483647 < 2147483647 := by omega
      walk_at "g"
      refine s_i (by omega) ?_
      walk_at "g"
      exact k _ _ (Int.emod_nonneg _ (by omega)) (Int.emod_lt_of_pos _ m0) ⟨_, false, upd_same, fun _ => ⟨b0, b1⟩⟩ SameB.put

/-- _law_power(n, a, e), e from 0 on -/
def sp__law_power : Sp := fun vs H Q _ => ∃ (n a : Int) (e : Nat), vs = [.int n, .int a, .int e] ∧ 0 < n ∧ n.natAbs < 2 ^ 900 ∧ Q (.int (M.pw n a e)) H
theorem ok__law_power (T : Txt K mg) : FnOk P w K mg base CX0 1 (He.ga K "_law_power") (fd__law_power T) ["_law_n", "_law_a", "_law_e"] sp__law_power := by
  refine (F__law_power T).ok sc__law_power (fun vs H Q E h => ?_) (fun cdv A outer s H vs Q E hr h => ⟨_, PSs.nox (pss_cons (ps_set (i := 3) sc__law_power.nd rfl (Or.inl rfl) (pe_op op_mod pe_int (pv 0)))
      (pss_cons (ps_set (i := 4) sc__law_power.nd rfl (Or.inl rfl) (pe_op op_mod (pv 1) (pv 0)))
      (pss_cons (ps_while PassesOwn.never (pt_cmpR op_gt (pv 2) pe_int (nomark _)) (pss_cons (ps_if (pt_cmpR op_eq (pe_op op_mod (pv 2) pe_int) pe_int (nomark _)) (pss_one (ps_set (i := 3) sc__law_power.nd rfl (Or.inl rfl) (pe_op op_mod (pe_op op_mulW (pv 3) (pv 4)) (pv 0)))) pss_nil)
      (pss_cons (ps_set (i := 4) sc__law_power.nd rfl (Or.inl rfl) (pe_op op_mod (pe_op op_mulW (pv 4) (pv 4)) (pv 0)))
      (pss_one (ps_set (i := 2) sc__law_power.nd rfl (Or.inl rfl) (pe_op op_fdivW (pv 2) pe_int))))))
      (pss_one (ps_ret (pv 3)))))), ?_⟩)
  · obtain ⟨n, a, e, rfl, _⟩ := h; rfl
  · obtain ⟨n, a, e, rfl, h0, hn, k⟩ := h
    walk_at "g"
    refine s_i (by omega) ?_
    walk_at "g"
    refine s_i (by omega) ?_
    walk_at "g"
    refine s_while (fun σ H' => H' = H ∧ ∃ (e' : Nat) (f b : Int), σ = [some (.int n), some (.int a), some (.int e'), some (.int f), some (.int b)] ∧ 0 ≤ f ∧ f < n ∧ 0 ≤ b ∧ b < n ∧ f * b ^ e' % n = M.pw n a e)
      (fun σ _ => (iv σ 2).natAbs) ⟨rfl, e, _, _, rfl, Int.emod_nonneg _ (by omega), Int.emod_lt_of_pos _ h0, Int.emod_nonneg _ (by omega), Int.emod_lt_of_pos _ h0, M.pw_one⟩ ?_
    rintro σ H' ⟨rfl, e', f, b, rfl, f0, f1, b0, b1, inv⟩
    have st := M.pw_turn inv
    walk_at "g"
    refine s_ite (fun c => ?_) (fun c => ?_)
    · have e2 : (e' : Int) / 2 = ((e' / 2 : Nat) : Int) := by omega
      walk_at "h"
      refine s_join (fun σ' H1 => H1 = H' ∧ ∃ f' : Int, σ' = [some (.int n), some (.int a), some (.int e'), some (.int f'), some (.int b)] ∧ 0 ≤ f' ∧ f' < n ∧ f' * (b * b % n) ^ (e' / 2) % n = M.pw n a e) ?_ fun N J => ?_
      · rintro σ' H1 ⟨rfl, f', rfl, f0', f1', inv'⟩
        walk_at "g"
        refine s_i (by omega) ?_
        walk_at "g"
        refine ⟨⟨rfl, e' / 2, f', _, ?_, f0', f1', Int.emod_nonneg _ (by omega), Int.emod_lt_of_pos _ h0, inv'⟩, ?_⟩
        · rw [e2]; rfl
        · show ((e' : Int) / 2).natAbs < (e' : Int).natAbs
          omega
      · walk_at "g"
        refine s_ite (fun c2 => ?_) (fun c2 => ?_)
        · walk_at "g"
          refine s_i (by omega) ?_
          walk_at "g"
          exact J _ _ ⟨rfl, _, rfl, Int.emod_nonneg _ (by omega), Int.emod_lt_of_pos _ h0, st.1 (by omega)⟩
        · walk_at "g"
          exact J _ _ ⟨rfl, _, rfl, f0, f1, st.2 (by omega)⟩
    · have z : e' = 0 := by omega
      subst z
      walk_at "g"
      rw [M.pw_end f0 f1 inv]
      exact k

/-- _law_parted(n): a new list of the primes of n and how often -/
def sp__law_parted : Sp := fun vs H Q _ => ∃ n : Nat, vs = [.int n] ∧ 0 < n ∧ n < 2 ^ 200 ∧ ∀ p H' xs l, M.IsFac n l → H p = none → Same H H' → H' p = some (.lst xs) → TupsIn H' xs (l.map fun x => [V.int (x.1 : Nat), V.int (x.2 : Nat)]) → Q (.ref p) H'
theorem fac_len {n : Nat} {l : List (Nat × Nat)} {m d : Nat} (h : M.Fac n l m d) (hn : n < 2 ^ 200) : l.length ≤ 200 := by
  have h1 : ∀ l : List (Nat × Nat), (∀ x ∈ l, M.Prime x.1 ∧ 0 < x.2) → 2 ^ l.length ≤ M.prodL l := fun l => by
    induction l with
    | nil => intro _; exact Nat.le_refl 1
    | cons x l ih =>
      intro hl
      have h1 := ih fun y hy => hl y (by simp [hy])
      have h2 := hl x (by simp)
      have h3 : 2 ≤ x.1 ^ x.2 := Nat.le_trans h2.1.1 (Nat.le_of_dvd (Nat.pow_pos h2.1.pos) (M.dvd_pow_self x.1 h2.2))
      rw [List.length_cons, Nat.pow_succ, Nat.mul_comm]
      exact Nat.mul_le_mul h3 h1
  have h2 := h1 l h.primes
  have h3 : M.prodL l ≤ n := by rw [← h.prod]; exact Nat.le_mul_of_pos_right _ h.npos
  rcases Nat.lt_or_ge 200 l.length with z | z
  · have := Nat.pow_le_pow_right (show 0 < 2 by decide) (Nat.le_of_lt z)
    omega
  · exact z
theorem fac_rest {n : Nat} {l : List (Nat × Nat)} {m d : Nat} (h : M.Fac n l m d) : m ≤ n := by
  rw [← h.prod]
  have : 0 < M.prodL l := Nat.pos_of_ne_zero fun z => by
    have h1 := h.prod
    rw [z, Nat.zero_mul] at h1
    have h2 : ∀ l : List (Nat × Nat), (∀ x ∈ l, M.Prime x.1 ∧ 0 < x.2) → 0 < M.prodL l := fun l => by
      induction l with
      | nil => intro _; decide
      | cons x l ih => intro hl; exact Nat.mul_pos (Nat.pow_pos (hl x (by simp)).1.pos) (ih fun y hy => hl y (by simp [hy]))
    have := h2 l h.primes
    omega
  exact Nat.le_mul_of_pos_left _ this
theorem ok__law_parted (T : Txt K mg) : FnOk P w K mg base CX0 1 (He.ga K "_law_parted") (fd__law_parted T) ["_law_n"] sp__law_parted := by
  refine (F__law_parted T).ok sc__law_parted (fun vs H Q E h => ?_) (fun cdv A outer s H vs Q E hr h => ⟨_, PSs.nox (pss_cons (ps_set (i := 1) sc__law_parted.nd rfl (Or.inl rfl) (pe_lst pa_nil))
      (pss_cons (ps_set (i := 2) sc__law_parted.nd rfl (Or.inl rfl) pe_int)
      (pss_cons (ps_while PassesOwn.never (pt_cmpR op_gt (pv 0) pe_int (nomark _)) (pss_cons (ps_if (pt_cmpR op_gt (pe_op op_mulW (pv 2) (pv 2)) (pv 0) (nomark _)) (pss_one (ps_set (i := 2) sc__law_parted.nd rfl (Or.inl rfl) (pv 0))) pss_nil)
      (pss_cons (ps_set (i := 3) sc__law_parted.nd rfl (Or.inl rfl) pe_int)
      (pss_cons (ps_while PassesOwn.never (pt_cmpR op_eq (pe_op op_mod (pv 0) (pv 2)) pe_int (nomark _)) (pss_cons (ps_set (i := 0) sc__law_parted.nd rfl (Or.inl rfl) (pe_op op_fdivW (pv 0) (pv 2)))
      (pss_one (ps_set (i := 3) sc__law_parted.nd rfl (Or.inl rfl) (pe_op op_add (pv 3) pe_int)))))
      (pss_cons (ps_if (pt_cmpR op_gt (pv 3) pe_int (nomark _)) (pss_one (ps_expr (pe_bm PySem.F.plainAttrs_list PySem.F.slot_list_append PySem.F.type_list_append mt_append (pv 1) (pa_cons (pe_tup (pa_cons (pv 2) (pa_cons (pv 3) pa_nil))) pa_nil)))) pss_nil)
      (pss_one (ps_set (i := 2) sc__law_parted.nd rfl (Or.inl rfl) (pe_op op_add (pe_op op_add (pv 2) pe_int) (pe_op op_mod (pv 2) pe_int)))))))))
      (pss_one (ps_ret (pv 1)))))), ?_⟩)
  · obtain ⟨n, rfl, _⟩ := h; rfl
  · obtain ⟨n0, rfl, h0, hn, k⟩ := h
    walk_at "g"
    refine mkL (by simp) fun p H1 np e1 s1 => ?_
    walk_at "g"
    refine s_while (fun σ H' => Same H H' ∧ ∃ (n d : Nat) (v : Option V) (xs : List V) (l : List (Nat × Nat)), σ = [some (.int n), some (.ref p), some (.int d), v] ∧ H' p = some (.lst xs) ∧ TupsIn H' xs (l.map fun x => [V.int (x.1 : Nat), V.int (x.2 : Nat)]) ∧ M.Fac n0 l n d)
      (fun σ _ => if (iv σ 0).toNat ≤ 1 then 0 else (iv σ 0).toNat + ((iv σ 0).toNat - (iv σ 2).toNat)) ⟨s1, n0, 2, none, [], [], rfl, e1, .nil, M.fac_start h0⟩ ?_
    rintro σ H' ⟨hs, n, d, v, xs, l, rfl, hp, ht, fac⟩
    have hxl : xs.length = l.length := by rw [ht.length, List.length_map]
    have hll := fac_len fac hn
    have hnl := fac_rest fac
    walk_at "g"
    refine s_ite (fun c => ?_) (fun c => ?_)
    · have hn1 : 1 < n := by omega
      have hdn := M.fac_le fac hn1
      have hd2 := fac.dtwo
      walk_at "h"
      refine s_join (fun σ' H2 => H2 = H' ∧ ∃ d' : Nat, (d' = n ∨ d' = d ∧ d * d ≤ n) ∧ σ' = [some (.int n), some (.ref p), some (.int d'), v] ∧ M.Fac n0 l n d') ?_ fun N J => ?_
      · rintro σ' H2 ⟨rfl, d', hd', rfl, fac'⟩
        have hd2' := fac'.dtwo
        have hdn' := M.fac_le fac' hn1
        walk_at "g"
        refine s_while (fun σ' H3 => H3 = H2 ∧ ∃ m k : Nat, σ' = [some (.int m), some (.ref p), some (.int d'), some (.int k)] ∧ n = d' ^ k * m ∧ 0 < m) (fun σ _ => (iv σ 0).toNat) ⟨rfl, n, 0, rfl, by simp, by omega⟩ ?_
        rintro σ' H3 ⟨rfl, m, j, rfl, em, m0⟩
        have hml : m ≤ n := by rw [em]; exact Nat.le_mul_of_pos_left _ (Nat.pow_pos (by omega))
        walk_at "g"
        refine s_i (by omega) ?_
        walk_at "g"
        refine s_ite (fun c2 => ?_) (fun c2 => ?_)
        · have hdm : d' ∣ m := Int.natCast_dvd_natCast.mp (Int.dvd_of_emod_eq_zero c2)
          obtain ⟨m', rfl⟩ := hdm
          have e3 : ((d' * m' : Nat) : Int) / (d' : Int) = (m' : Int) := by
            push_cast
            exact Int.mul_ediv_cancel_left _ (by omega)
          walk_at "g"
          refine s_i (divW (by omega) (by omega)) ?_
          walk_at "g"
          rw [e3]
          have m0' : 0 < m' := Nat.pos_of_ne_zero fun z => by rw [z] at m0; omega
          have : 2 * m' ≤ d' * m' := Nat.mul_le_mul_right m' hd2'
          refine ⟨⟨rfl, m', j + 1, rfl, by rw [em, Nat.pow_succ]; grind, m0'⟩, ?_⟩
          show (m' : Int).toNat < ((d' * m' : Nat) : Int).toNat
          omega
        · have hdm : ¬ d' ∣ m := fun z => c2 (Int.emod_eq_zero_of_dvd (Int.natCast_dvd_natCast.mpr z))
          have stp := M.fac_step fac' em hdm
          -- what the turn's end asks
          have fin : ∀ (H4 : Hp) (xs' : List V) (l' : List (Nat × Nat)) (d2 : Int), Same H H4 → H4 p = some (.lst xs') → TupsIn H4 xs' (l'.map fun x => [V.int (x.1 : Nat), V.int (x.2 : Nat)]) → M.Fac n0 l' m (d' + 1) → d2 = (d' : Int) + 1 + (d' : Int) % 2 →
              ((Same H H4 ∧ ∃ (n d : Nat) (v : Option V) (xs : List V) (l : List (Nat × Nat)), [some (.int m), some (.ref p), some (.int d2), some (.int j)] = [some (.int (n : Int)), some (.ref p), some (.int (d : Int)), v] ∧ H4 p = some (.lst xs) ∧ TupsIn H4 xs (l.map fun x => [V.int (x.1 : Nat), V.int (x.2 : Nat)]) ∧ M.Fac n0 l n d) ∧
                (if (m : Int).toNat ≤ 1 then 0 else (m : Int).toNat + ((m : Int).toNat - d2.toNat)) < (if (n : Int).toNat ≤ 1 then 0 else (n : Int).toNat + ((n : Int).toNat - (d : Int).toNat))) := by
            intro H4 xs' l' d2 s4 h4 t4 f4 e4
            have facN : M.Fac n0 l' m (d' + 1 + d' % 2) := by
              rcases Nat.mod_two_eq_zero_or_one d' with z | z
              · rw [z]; exact f4
              · rw [z]; exact M.fac_odd f4 (by omega) (by omega)
            refine ⟨⟨s4, m, d' + 1 + d' % 2, _, xs', l', by rw [e4]; push_cast; rfl, h4, t4, facN⟩, ?_⟩
            have ht1 : (m : Int).toNat = m := by omega
            have ht2 : (n : Int).toNat = n := by omega
            have ht3 : (d : Int).toNat = d := by omega
            rw [ht1, ht2, ht3, if_neg (show ¬ n ≤ 1 by omega)]
            by_cases hm1 : m ≤ 1
            · rw [if_pos hm1]; omega
            · rw [if_neg hm1]
              rcases Nat.eq_zero_or_pos j with z | z
              · subst z
                rw [Nat.pow_zero, Nat.one_mul] at em
                subst em
                have hd3 : d' ≠ n := fun z => hdm (by rw [z]; exact Nat.dvd_refl _)
                rcases hd' with z | ⟨z, z2⟩
                · exact absurd z hd3
                · subst z; omega
              · have h5 : d' ^ 1 ≤ d' ^ j := Nat.pow_le_pow_right (by omega) z
                rw [Nat.pow_one] at h5
                have h6 : 2 * m ≤ n := by rw [em]; exact Nat.mul_le_mul_right m (by omega)
                rcases hd' with z2 | ⟨z2, z3⟩
                · exfalso
                  subst z2
                  have h7 : d' * 2 ≤ d' ^ j * m := Nat.mul_le_mul h5 (by omega)
                  omega
                · subst z2
                  have h8 : d' * 2 ≤ d' * d' := Nat.mul_le_mul_left _ hd2'
                  omega
          walk_at "h"
          refine s_join (fun σ' H4 => Same H H4 ∧ ∃ (xs' : List V) (l' : List (Nat × Nat)), σ' = [some (.int m), some (.ref p), some (.int d'), some (.int j)] ∧ H4 p = some (.lst xs') ∧ TupsIn H4 xs' (l'.map fun x => [V.int (x.1 : Nat), V.int (x.2 : Nat)]) ∧ M.Fac n0 l' m (d' + 1)) ?_ fun N J => ?_
          · rintro σ' H4 ⟨s4, xs', l', rfl, h4, t4, f4⟩
            walk_at "g"
            exact fin H4 xs' l' _ s4 h4 t4 f4 rfl
          · walk_at "g"
            refine s_ite (fun c3 => ?_) (fun c3 => ?_)
            · rw [if_pos (by omega)] at stp
              walk_at "g"
              refine ⟨s_tyL hp, ?_⟩
              walk_at "g"
              refine mkT (by simp) fun t H4 nt et s4 => ?_
              walk_at "g"
              refine s_append (s4 _ _ hp) (small1000 (by omega)) ?_
              walk_at "g"
              refine J _ _ ⟨same_upd' (hs.trans s4) np, xs ++ [.ref t], l ++ [(d', j)], rfl, upd_same, ?_, stp⟩
              rw [List.map_append]
              exact TupsIn.app hp ht s4 nt et
            · rw [if_neg (by omega)] at stp
              walk_at "g"
              exact J _ _ ⟨hs, xs, l, rfl, hp, ht, stp⟩
      · walk_at "g"
        refine s_ite (fun c2 => ?_) (fun c2 => ?_)
        · walk_at "g"
          refine J _ _ ⟨rfl, n, .inl rfl, rfl, M.fac_jump fac hn1 ?_⟩
          have : ((d * d : Nat) : Int) > (n : Int) := by push_cast; omega
          omega
        · walk_at "g"
          refine J _ _ ⟨rfl, d, .inr ⟨rfl, ?_⟩, rfl, fac⟩
          have : ¬ (((d * d : Nat) : Int) > (n : Int)) := by push_cast; omega
          omega
    · walk_at "g"
      exact k p H' xs l (M.fac_end fac (by omega)) np hs hp ht

/-- the paper of a prime p at t, n deep at most -/
def PaperAt : Nat → Hp → Addr → Nat → Prop
  | 0, _, _, _ => False
  | n + 1, H, t, p => ∃ (f : Nat) (u : Addr) (xs : List V) (l : List (Nat × Nat)), H t = some (.tup [.int (p : Nat), .int (f : Nat), .ref u]) ∧ H u = some (.tup xs) ∧ M.Prime p ∧ M.LeastFull p f ∧ M.IsFac (p - 1) l ∧
    Paired (fun x r => ∃ a s, x = V.ref a ∧ H a = some (.tup [.ref s, .int (r.2 : Nat)]) ∧ PaperAt n H s r.1) xs l
theorem PaperAt.same : ∀ {n : Nat} {H H' : Hp} {t : Addr} {p : Nat}, PaperAt n H t p → Same H H' → PaperAt n H' t p
  | 0, _, _, _, _, h, _ => h.elim
  | n + 1, H, H', t, p, ⟨f, u, xs, l, e1, e2, hp, hf, hl, pr⟩, s => ⟨f, u, xs, l, s _ _ e1, s _ _ e2, hp, hf, hl, paired_mono (fun _ _ ⟨a, b, e, h1, h2⟩ => ⟨a, b, e, s _ _ h1, h2.same s⟩) pr⟩
theorem PaperAt.upd : ∀ {n : Nat} {H : Hp} {t D : Addr} {p : Nat} {zs : List V} {o : HO}, H D = some (.lst zs) → PaperAt n H t p → PaperAt n (L2.upd H D o) t p
  | 0, _, _, _, _, _, _, _, h => h.elim
  | n + 1, H, t, D, p, zs, o, hD, ⟨f, u, xs, l, e1, e2, hp, hf, hl, pr⟩ => by
    have fr : ∀ {r : List V} {b : Addr}, H b = some (.tup r) → L2.upd H D o b = some (.tup r) := fun {r b} e => by
      rw [upd_ne (fun z => by rw [z, hD] at e; cases e)]; exact e
    exact ⟨f, u, xs, l, fr e1, fr e2, hp, hf, hl, paired_mono (fun _ _ ⟨a, b, e, h1, h2⟩ => ⟨a, b, e, fr h1, h2.upd hD⟩) pr⟩
/-- what a reader of a paper needs -/
theorem PaperAt.open_ {n : Nat} {H : Hp} {t : Addr} {p : Nat} (h : PaperAt n H t p) : ∃ (m : Nat) (f : Nat) (u : Addr) (xs : List V) (l : List (Nat × Nat)), n = m + 1 ∧ H t = some (.tup [.int (p : Nat), .int (f : Nat), .ref u]) ∧ H u = some (.tup xs) ∧ M.Prime p ∧ M.LeastFull p f ∧ M.IsFac (p - 1) l ∧
    Paired (fun x r => ∃ a s, x = V.ref a ∧ H a = some (.tup [.ref s, .int (r.2 : Nat)]) ∧ PaperAt m H s r.1) xs l := by
  cases n with
  | zero => exact h.elim
  | succ m =>
    obtain ⟨f, u, xs, l, h⟩ := h
    exact ⟨m, f, u, xs, l, rfl, h⟩
def sp__law_paper (n : Nat) : Sp := fun vs H Q _ => ∃ p : Nat, vs = [.int p] ∧ M.Prime p ∧ p ≤ 2 ^ n ∧ p < 2 ^ 100 ∧ ∀ t H', PaperAt (n + 1) H' t p → Same H H' → Q (.ref t) H'
theorem ok_paperS (T : Txt K mg) {n : Nat} (IH : FnOk P w K mg base CX0 (n + 2) (He.ga K "_law_paper") (fd__law_paper T) ["_law_p"] (sp__law_paper n)) : FnOk P w K mg base CX0 (n + 3) (He.ga K "_law_paper") (fd__law_paper T) ["_law_p"] (sp__law_paper (n + 1)) := by
  refine (F__law_paper T).ok sc__law_paper (fun vs H Q E h => ?_) (fun cdv A outer s H vs Q E hr h => ⟨_, PSs.nox (pss_cons (ps_set (i := 1) sc__law_paper.nd rfl (Or.inl rfl) (pe_call (ok__law_parted T) (hr.mono (by omega)) rfl (g__law_parted T) (kp__law_parted T) (B__law_parted T) .nil pass0 (pa_cons (pe_op op_sub (pv 0) pe_int) pa_nil)))
      (pss_cons (ps_set (i := 2) sc__law_paper.nd rfl (Or.inr rfl) pe_int)
      (pss_cons (ps_while PassesOwn.never (pt_cmpR op_in_seq pe_int (pe_lc (own := [("_law_q", 3), ("_law_many", 4)]) (tt := tYes) (g := gTup K 2 (gCons (gName 3) (gCons (gName 4) gNil))) rfl sc__law_paper.nd (pi_list (pv 1)) (blkOk_by (N := N__law_paper) (sc := defScope s__law_paper) (by decide +kernel)) (fun _ _ _ _ _ => (pg_tup rfl (pgs_cons (pg_name (i := 3) sc__law_paper.nd rfl (Or.inl rfl)) (pgs_cons (pg_name (i := 4) sc__law_paper.nd rfl (Or.inl rfl)) pgs_nil)))) (fun _ _ _ _ _ => pts_nil) (fun _ _ _ _ _ => (pe_call (ok__law_power T) (hr.mono (by omega)) rfl (g__law_power T) (kp__law_power T) (B__law_power T) .nil pass0 (pa_cons (pv 0) (pa_cons (pv 2) (pa_cons (pe_op op_fdivW (pe_op op_sub (pv 0) pe_int) (pv 3)) pa_nil)))))) rfl) (pss_one (ps_set (i := 2) sc__law_paper.nd rfl (Or.inr rfl) (pe_op op_add (pv 2) pe_int))))
      (pss_one (ps_ret (pe_tup (pa_cons (pv 0) (pa_cons (pv 2) (pa_cons (pe_callTy callTup rfl (T.fr (T.c.fact 34 rfl)) boot_tuple (pa_cons (pe_lc (own := [("_law_q", 3), ("_law_many", 4)]) (tt := tYes) (g := gTup K 2 (gCons (gName 3) (gCons (gName 4) gNil))) rfl sc__law_paper.nd (pi_list (pv 1)) (blkOk_by (N := N__law_paper) (sc := defScope s__law_paper) (by decide +kernel)) (fun _ _ _ _ _ => (pg_tup rfl (pgs_cons (pg_name (i := 3) sc__law_paper.nd rfl (Or.inl rfl)) (pgs_cons (pg_name (i := 4) sc__law_paper.nd rfl (Or.inl rfl)) pgs_nil)))) (fun _ _ _ _ _ => pts_nil) (fun _ _ _ _ _ => (pe_tup (pa_cons (pe_call (IH) (hr.mono (by omega)) rfl (g__law_paper T) (kp__law_paper T) (B__law_paper T) .nil pass0 (pa_cons (pv 3) pa_nil)) (pa_cons (pv 4) pa_nil))))) pa_nil)) pa_nil))))))))), ?_⟩)
  · obtain ⟨p, rfl, _⟩ := h; rfl
  · obtain ⟨p, rfl, hp, hpn, hpb, k⟩ := h
    have hp2 := hp.1
    have e1 : (p : Int) - 1 = ((p - 1 : Nat) : Int) := by omega
    walk_at "g"
    refine ⟨p - 1, by rw [e1]; rfl, by omega, by omega, fun q H1 xs l hl nq s1 hq ht => ?_⟩
    have hxl : xs.length = l.length := by rw [ht.length, List.length_map]
    have hll : l.length ≤ 200 := by
      obtain ⟨d, hd⟩ := M.Fac.of hl (by omega)
      exact fac_len hd (by omega)
    obtain ⟨g, g0, g1, gf⟩ := M.full_small hp
    walk_at "g"
    refine s_while (fun σ H' => Same H1 H' ∧ ∃ (f : Nat) (v1 v2 : Option V), σ = [some (.int p), some (.ref q), some (.int f), v1, v2] ∧ 0 < f ∧ f ≤ g ∧ ∀ i : Nat, 0 < i → i < f → ¬M.Ord p (i : Int) (p - 1))
      (fun σ _ => g - (iv σ 2).toNat) ⟨Same.refl _, 1, none, none, rfl, by decide, by omega, fun i h1 h2 => by omega⟩ ?_
    rintro σ H' ⟨hs, f, v1, v2, rfl, f0, fg, hno⟩
    have hun : M.un p (f : Int) := M.un_small (by omega) (by omega)
    walk_at "g"
    refine ⟨_, rfl, q, rfl, ⟨_, SqL.of (hs _ _ hq)⟩, fun D hD => ?_⟩
    refine lc_list (fun i H2 => Same H' H2 ∧ H2 D = some (.lst ((l.take i).map fun x => V.int (M.pw p f ((p - 1) / x.1))))) ⟨same_upd hD, upd_same⟩ (fun i H2 _ I => SqL.of (I.1 _ _ (hs _ _ hq))) ?_ ?_
    · rintro i x H2 hi ⟨s2, hD2⟩
      have hil : i < xs.length := (List.getElem?_eq_some_iff.mp hi).1
      obtain ⟨y, hy, t, rfl, et⟩ := pget ht hi
      rw [List.getElem?_map] at hy
      obtain ⟨⟨a, b⟩, hab, rfl⟩ := Option.map_eq_some_iff.mp hy
      have ha := (hl.primes _ (List.mem_of_getElem? hab)).1.pos
      have hab2 := (hl.primes _ (List.mem_of_getElem? hab)).1
      have had := Nat.le_of_dvd (by omega) (M.fac_dvd hl (List.mem_of_getElem? hab))
      refine s_gtup (SqT.of (s2 _ _ (hs _ _ et))) rfl ?_
      walk_at "g"
      refine ⟨rfl, ?_⟩
      walk_at "g"
      refine s_i (divW (by show (0 : Int) < (a : Int); omega) (by show (a : Int).natAbs < _; omega)) ?_
      walk_at "g"
      have e2 : ((p : Int) - 1) / ((a : Nat) : Int) = (((p - 1) / a : Nat) : Int) := by rw [e1]; exact (Int.natCast_ediv _ _).symm
      refine ⟨p, f, (p - 1) / a, by rw [← e2]; rfl, by omega, by omega, ?_⟩
      refine ⟨_, hD2, small1000 (by rw [List.length_map, List.length_take]; omega), same_upd' s2 hD, ?_⟩
      rw [upd_same, take_more hab, List.map_append]; rfl
    · rintro H2 ⟨s2, hD2⟩
      rw [hxl, List.take_length] at hD2
      have hD3 : H2 D = some (.lst ((l.map fun x => M.pw p f ((p - 1) / x.1)).map V.int)) := by rw [hD2, List.map_map]; rfl
      refine s_inL hD3 ?_
      have fi := M.full_iff hp hun hl
      walk_at "g"
      refine s_ite (fun c => ?_) (fun c => ?_)
      · have nf : ¬M.Ord p (f : Int) (p - 1) := fun o => by
          obtain ⟨x, hx, e⟩ := List.mem_map.mp c
          exact (fi.mp o) x hx e
        have fl : f ≠ g := fun z => nf (by rw [z]; exact gf)
        walk_at "g"
        refine ⟨⟨hs.trans s2, f + 1, _, _, by push_cast; rfl, by omega, by omega, fun i h1 h2 => ?_⟩, ?_⟩
        · by_cases z : i = f
          · rw [z]; exact nf
          · exact hno i h1 (by omega)
        · show g - ((f : Int) + 1).toNat < g - (f : Int).toNat
          omega
      · have of : M.Ord p (f : Int) (p - 1) := fi.mpr fun x hx z => c (List.mem_map.mpr ⟨x, hx, z⟩)
        walk_at "g"
        have hs2 := hs.trans s2
        refine ⟨_, rfl, q, rfl, ⟨_, SqL.of (hs2 _ _ hq)⟩, fun D2 hD2' => ?_⟩
        refine lc_list (fun i H3 => Same H2 H3 ∧ ∃ ys : List V, H3 D2 = some (.lst ys) ∧ Paired (fun x r => ∃ a s, x = V.ref a ∧ H3 a = some (.tup [.ref s, .int (r.2 : Nat)]) ∧ PaperAt (n + 1) H3 s r.1) ys (l.take i)) ⟨same_upd hD2', [], upd_same, by rw [List.take_zero]; exact .nil⟩ (fun i H3 _ I => SqL.of (I.1 _ _ (hs2 _ _ hq))) ?_ ?_
        · rintro i x H3 hi ⟨s3, ys, hD3', pr⟩
          have hil : i < xs.length := (List.getElem?_eq_some_iff.mp hi).1
          obtain ⟨y, hy, t, rfl, et⟩ := pget ht hi
          rw [List.getElem?_map] at hy
          obtain ⟨⟨a, b⟩, hab, rfl⟩ := Option.map_eq_some_iff.mp hy
          have hpa := (hl.primes _ (List.mem_of_getElem? hab)).1
          have hda := M.fac_dvd hl (List.mem_of_getElem? hab)
          have had := Nat.le_of_dvd (by omega) hda
          have hyl : ys.length = i := by rw [pr.length, List.length_take]; omega
          refine s_gtup (SqT.of (s3 _ _ (hs2 _ _ et))) rfl ?_
          walk_at "g"
          refine ⟨rfl, ?_⟩
          walk_at "g"
          refine ⟨a, rfl, hpa, M.paper_prime hp hpa hda hpn, Nat.lt_of_le_of_lt had (by omega), fun s H4 pa s4 => ?_⟩
          walk_at "g"
          refine mkT (by simp) fun t2 H5 nt2 et2 s5 => ?_
          have s35 := s4.trans s5
          refine ⟨ys, s35 _ _ hD3', small1000 (by omega), same_upd' (s3.trans s35) hD2', ys ++ [.ref t2], upd_same, ?_⟩
          rw [take_more hab]
          have fr : ∀ {r : List V} {b : Addr}, H5 b = some (.tup r) → upd H5 D2 (.lst (ys ++ [.ref t2])) b = some (.tup r) := fun {r b} e => by
            rw [upd_ne (fun z => by rw [z, s35 _ _ hD3'] at e; cases e)]; exact e
          refine paired_snoc (paired_mono (fun x r ⟨a', s', e', h1, h2⟩ => ⟨a', s', e', fr (s35 _ _ h1), PaperAt.upd (s35 _ _ hD3') (h2.same s35)⟩) pr) ⟨t2, s, rfl, fr et2, PaperAt.upd (s35 _ _ hD3') (pa.same s5)⟩
        · rintro H3 ⟨s3, ys, hD3', pr⟩
          rw [hxl, List.take_length] at pr
          have hyl : ys.length = l.length := pr.length
          walk_at "g"
          refine s_tupL (SqL.of hD3') fun u nu => ?_
          have S4 : Same H3 (upd H3 u (.tup ys)) := same_upd nu
          have e4 : upd H3 u (.tup ys) u = some (.tup ys) := upd_same
          generalize upd H3 u (.tup ys) = H4 at S4 e4 ⊢
          walk_at "g"
          refine mkT (by simp) fun t H5 nt et s5 => ?_
          refine k t H5 ⟨f, u, ys, l, et, s5 _ _ e4, hp, ⟨f0, by omega, of, hno⟩, hl, paired_mono (fun x r ⟨a', s', e', h1, h2⟩ => ⟨a', s', e', s5 _ _ (S4 _ _ h1), (h2.same S4).same s5⟩) pr⟩ (s1.trans (hs2.trans (s3.trans (S4.trans s5))))
theorem paperN (T : Txt K mg) : ∀ n : Nat, FnOk P w K mg base CX0 (n + 2) (He.ga K "_law_paper") (fd__law_paper T) ["_law_p"] (sp__law_paper n)
  | 0 => ⟨fun vs H Q E ⟨p, e, hp, h, _⟩ => by have := hp.1; rw [Nat.pow_zero] at h; omega, fun _ _ _ _ _ _ vs _ _ _ _ _ _ ⟨p, e, hp, h, _⟩ => by have := hp.1; rw [Nat.pow_zero] at h; omega⟩
  | n + 1 => ok_paperS T (paperN T n)
theorem ok__law_paper (T : Txt K mg) : FnOk P w K mg base CX0 40 (He.ga K "_law_paper") (fd__law_paper T) ["_law_p"] (sp__law_paper 38) := paperN T 38

/-- a parting paper at u: for each prime its paper's place, the prime, how often -/
def PartsAt (m : Nat) (H : Hp) (u : Addr) (pl : List (Addr × Nat × Nat)) : Prop := ∃ xs, H u = some (.tup xs) ∧ Paired (fun x r => ∃ t, x = V.ref t ∧ H t = some (.tup [.ref r.1, .int (r.2.2 : Nat)]) ∧ PaperAt m H r.1 r.2.1) xs pl
def facs (pl : List (Addr × Nat × Nat)) : List (Nat × Nat) := pl.map fun r => r.2
theorem facs_len (pl : List (Addr × Nat × Nat)) : (facs pl).length = pl.length := List.length_map ..
theorem facs_get {pl : List (Addr × Nat × Nat)} {i : Nat} {s : Addr} {q b : Nat} (h : pl[i]? = some (s, q, b)) : (facs pl)[i]? = some (q, b) := by
  unfold facs; rw [List.getElem?_map, h]; rfl
theorem PartsAt.same {m : Nat} {H H' : Hp} {u : Addr} {pl : List (Addr × Nat × Nat)} (h : PartsAt m H u pl) (s : Same H H') : PartsAt m H' u pl := by
  obtain ⟨xs, e, pr⟩ := h
  exact ⟨xs, s _ _ e, paired_mono (fun _ _ ⟨t, e, h1, h2⟩ => ⟨t, e, s _ _ h1, h2.same s⟩) pr⟩
theorem pap_choose {n : Nat} {H : Hp} : ∀ {xs : List V} {l : List (Nat × Nat)}, Paired (fun x r => ∃ a s, x = V.ref a ∧ H a = some (.tup [.ref s, .int (r.2 : Nat)]) ∧ PaperAt n H s r.1) xs l →
    ∃ pl : List (Addr × Nat × Nat), facs pl = l ∧ Paired (fun x r => ∃ t, x = V.ref t ∧ H t = some (.tup [.ref r.1, .int (r.2.2 : Nat)]) ∧ PaperAt n H r.1 r.2.1) xs pl
  | _, _, .nil => ⟨[], rfl, .nil⟩
  | _, y :: _, .cons ⟨a, s, e, h1, h2⟩ r => by
    obtain ⟨pl, e2, pr⟩ := pap_choose r
    exact ⟨(s, y) :: pl, by unfold facs at e2 ⊢; rw [List.map_cons, e2], .cons ⟨a, e, h1, h2⟩ pr⟩
/-- a paper, opened -/
structure Pap (n : Nat) (H : Hp) (t : Addr) (p f : Nat) (u : Addr) (pl : List (Addr × Nat × Nat)) : Prop where
  at_ : H t = some (.tup [.int (p : Nat), .int (f : Nat), .ref u])
  hp : M.Prime p
  hf : M.LeastFull p f
  hl : M.IsFac (p - 1) (facs pl)
  ps : PartsAt n H u pl
theorem Pap.same {n : Nat} {H H' : Hp} {t : Addr} {p f : Nat} {u : Addr} {pl : List (Addr × Nat × Nat)} (h : Pap n H t p f u pl) (s : Same H H') : Pap n H' t p f u pl := ⟨s _ _ h.at_, h.hp, h.hf, h.hl, h.ps.same s⟩
theorem PaperAt.pap {n : Nat} {H : Hp} {t : Addr} {p : Nat} (h : PaperAt (n + 1) H t p) : ∃ f u pl, Pap n H t p f u pl := by
  obtain ⟨f, u, xs, l, e1, e2, hp, hf, hl, pr⟩ := h
  obtain ⟨pl, e3, pr'⟩ := pap_choose pr
  exact ⟨f, u, pl, e1, hp, hf, by rw [e3]; exact hl, xs, e2, pr'⟩
theorem Pap.paper {n : Nat} {H : Hp} {t : Addr} {p f : Nat} {u : Addr} {pl : List (Addr × Nat × Nat)} (h : Pap n H t p f u pl) : PaperAt (n + 1) H t p := by
  obtain ⟨xs, e2, pr⟩ := h.ps
  refine ⟨f, u, xs, facs pl, h.at_, e2, h.hp, h.hf, h.hl, ?_⟩
  have key : ∀ {xs : List V} {pl : List (Addr × Nat × Nat)}, Paired (fun x r => ∃ t, x = V.ref t ∧ H t = some (.tup [.ref r.1, .int (r.2.2 : Nat)]) ∧ PaperAt n H r.1 r.2.1) xs pl → Paired (fun x r => ∃ a s, x = V.ref a ∧ H a = some (.tup [.ref s, .int (r.2 : Nat)]) ∧ PaperAt n H s r.1) xs (facs pl) := by
    intro xs pl pr
    induction pr with
    | nil => exact .nil
    | cons f _ ih =>
      obtain ⟨t, e, h1, h2⟩ := f
      exact .cons ⟨t, _, e, h1, h2⟩ ih
  exact key pr
theorem paired_mem {α β : Type} {F : α → β → Prop} {xs : List α} {ys : List β} {y : β} (h : Paired F xs ys) (hy : y ∈ ys) : ∃ x, x ∈ xs ∧ F x y := by
  induction h with
  | nil => simp at hy
  | cons f _ ih =>
    rcases List.mem_cons.mp hy with z | z
    · subst z; exact ⟨_, by simp, f⟩
    · obtain ⟨x, h1, h2⟩ := ih z
      exact ⟨x, by simp [h1], h2⟩
theorem PartsAt.mem {m : Nat} {H : Hp} {u : Addr} {pl : List (Addr × Nat × Nat)} (h : PartsAt m H u pl) {r : Addr × Nat × Nat} (hr : r ∈ pl) : PaperAt m H r.1 r.2.1 := by
  obtain ⟨xs, e, pr⟩ := h
  obtain ⟨x, _, t, _, _, h2⟩ := paired_mem pr hr
  exact h2
/-- the first part of a paper is its prime -/
theorem PaperAt.first {n : Nat} {H : Hp} {t : Addr} {p : Nat} (h : PaperAt n H t p) : ∃ f u, H t = some (.tup [.int (p : Nat), .int (f : Nat), .ref u]) := by
  obtain ⟨m, f, u, xs, l, _, e1, _⟩ := h.open_
  exact ⟨f, u, e1⟩
theorem facs_mem {pl : List (Addr × Nat × Nat)} {r : Addr × Nat × Nat} (h : r ∈ pl) : r.2 ∈ facs pl := List.mem_map.mpr ⟨r, h, rfl⟩
theorem pl_len {E : Nat} {pl : List (Addr × Nat × Nat)} (h : M.IsFac E (facs pl)) (h0 : 0 < E) (h1 : E < 2 ^ 200) : pl.length ≤ 200 := by
  obtain ⟨d, hd⟩ := M.Fac.of h h0
  have := fac_len hd h1
  rwa [facs_len] at this
/-- the rows of an order paper -/
def dv (o : Nat) (r : Addr × Nat × Nat) : Bool := o % r.2.1 == 0
def ordRows (n : Nat) (a : Int) (o : Nat) (pl : List (Addr × Nat × Nat)) : List (List V) := (pl.filter (dv o)).map fun r => [V.ref r.1, V.int (M.vq r.2.1 o : Nat), V.int (M.pw n a (o / r.2.1))]
/-- the order paper of a by n at t, by the primes pl -/
def OrdAt (H : Hp) (t : Addr) (n : Nat) (a : Int) (o : Nat) (pl : List (Addr × Nat × Nat)) : Prop := ∃ w ys, H t = some (.tup [.int (o : Nat), .ref w]) ∧ H w = some (.tup ys) ∧ TupsIn H ys (ordRows n a o pl)
theorem OrdAt.same {H H' : Hp} {t : Addr} {n : Nat} {a : Int} {o : Nat} {pl : List (Addr × Nat × Nat)} (h : OrdAt H t n a o pl) (s : Same H H') : OrdAt H' t n a o pl := by
  obtain ⟨w, ys, h1, h2, h3⟩ := h
  exact ⟨w, ys, s _ _ h1, s _ _ h2, h3.same s⟩
theorem PaperAt.pap' {n : Nat} {H : Hp} {t : Addr} {p : Nat} (h : PaperAt n H t p) : ∃ m f u pl, n = m + 1 ∧ Pap m H t p f u pl := by
  cases n with
  | zero => exact h.elim
  | succ m =>
    obtain ⟨f, u, pl, e⟩ := h.pap
    exact ⟨m, f, u, pl, rfl, e⟩
theorem ord_no_one {p : Nat} {a : Int} {o : Nat} {pl : List (Addr × Nat × Nat)} (hp2 : 2 ≤ p) (ho : M.Ord p a o) (hq : ∀ r ∈ pl, 2 ≤ r.2.1) : (1 : Int) ∉ ((pl.filter (dv o)).map fun r => M.pw p a (o / r.2.1)) := fun h => by
  obtain ⟨r, hr, e⟩ := List.mem_map.mp h
  obtain ⟨h1, h2⟩ := List.mem_filter.mp hr
  have hd : o % r.2.1 = 0 := by unfold dv at h2; exact beq_iff_eq.mp h2
  have hq2 := hq r h1
  have o0 := ho.pos
  have h3 : r.2.1 ≤ o := Nat.le_of_dvd o0 (Nat.dvd_of_mod_eq_zero hd)
  have h4 := ho.least _ (Nat.div_pos h3 (by omega)) ((M.pw_one_iff hp2).mp e)
  have h5 := Nat.div_lt_self o0 (show 1 < r.2.1 by omega)
  omega

theorem PaperAt.sameB : ∀ {n : Nat} {H H' : Hp} {t s : Addr} {p : Nat}, PaperAt n H t p → StAt H s → SameB s H H' → PaperAt n H' t p
  | 0, _, _, _, _, _, h, _, _ => h.elim
  | n + 1, H, H', t, s, p, ⟨f, u, xs, l, e1, e2, hp, hf, hl, pr⟩, st, sb => by
    have fr : ∀ {r : List V} {b : Addr}, H b = some (.tup r) → H' b = some (.tup r) := fun {r b} e => sb _ _ (fun z => by
      obtain ⟨_, _, e0, _⟩ := st
      rw [z, e0] at e; cases e) e
    exact ⟨f, u, xs, l, fr e1, fr e2, hp, hf, hl, paired_mono (fun _ _ ⟨a, b, e, h1, h2⟩ => ⟨a, b, e, fr h1, h2.sameB st sb⟩) pr⟩
theorem StAt.upd {H : Hp} {s l : Addr} {xs : List V} {o : HO} (h : StAt H s) (hl : H l = some (.lst xs)) : StAt (L2.upd H l o) s := by
  obtain ⟨a, b, e, k⟩ := h
  exact ⟨a, b, by rw [upd_ne (fun z => by rw [z, hl] at e; cases e)]; exact e, k⟩

/-- plain_parting(parts): a new list of (prime, many) -/
def sp_plain_parting : Sp := fun vs H Q _ => ∃ (u : Addr) (m : Nat) (pl : List (Addr × Nat × Nat)), vs = [.ref u] ∧ PartsAt m H u pl ∧ pl.length ≤ 900 ∧
  ∀ D H' ys, H D = none → Same H H' → H' D = some (.lst ys) → TupsIn H' ys ((facs pl).map fun x => [V.int (x.1 : Nat), V.int (x.2 : Nat)]) → Q (.ref D) H'
theorem ok_plain_parting (T : Txt K mg) : FnOk P w K mg base CX0 1 (He.ga K "plain_parting") (fd_plain_parting T) ["parts"] sp_plain_parting := by
  refine (F_plain_parting T).ok sc_plain_parting (fun vs H Q E h => ?_) (fun cdv A outer s H vs Q E hr h => ⟨_, PSs.nox (pss_one (ps_ret (pe_lc (own := [("paper", 1), ("many", 2)]) (tt := tYes) (g := gTup K 2 (gCons (gName 1) (gCons (gName 2) gNil))) rfl sc_plain_parting.nd (pi_tup (pv 0)) (blkOk_by (N := N_plain_parting) (sc := defScope s_plain_parting) (by decide +kernel)) (fun _ _ _ _ _ => (pg_tup rfl (pgs_cons (pg_name (i := 1) sc_plain_parting.nd rfl (Or.inl rfl)) (pgs_cons (pg_name (i := 2) sc_plain_parting.nd rfl (Or.inl rfl)) pgs_nil)))) (fun _ _ _ _ _ => pts_nil) (fun _ _ _ _ _ => (pe_tup (pa_cons (pe_ix (R.ix_seqK K rfl) (pv 1) pe_int (fun _ _ => rfl)) (pa_cons (pv 2) pa_nil))))))), ?_⟩)
  · obtain ⟨u, m, pl, rfl, _⟩ := h; rfl
  · obtain ⟨u, m, pl, rfl, ⟨xs, e2, pr⟩, hl, k⟩ := h
    walk_at "g"
    refine s_lc ?_
    walk_at "g"
    refine ⟨⟨_, SqT.of e2⟩, fun D hD => ?_⟩
    refine lc_tup (fun i H2 => Same H H2 ∧ ∃ ys, H2 D = some (.lst ys) ∧ TupsIn H2 ys ((facs (pl.take i)).map fun x => [V.int (x.1 : Nat), V.int (x.2 : Nat)])) ⟨same_upd hD, [], upd_same, .nil⟩ (fun i H2 _ I => SqT.of (I.1 _ _ e2)) ?_ ?_
    · rintro i x H2 hi ⟨s2, ys, hD2, ty⟩
      obtain ⟨⟨s, q, b⟩, hab, t, rfl, ex, hPs⟩ := pget pr hi
      obtain ⟨f', u', e1'⟩ := hPs.first
      have hyl : ys.length = (pl.take i).length := by rw [ty.length, List.length_map, facs_len]
      have htl : (pl.take i).length ≤ pl.length := by rw [List.length_take]; omega
      refine s_gtup (SqT.of (s2 _ _ ex)) rfl ?_
      walk_at "g"
      refine ⟨rfl, ?_⟩
      walk_at "g"
      refine s_ixT (SqT.of (s2 _ _ e1')) (atI0 0 rfl rfl) ?_
      walk_at "g"
      refine mkT (by simp) fun t2 H3 nt et s3 => ?_
      refine ⟨ys, s3 _ _ hD2, small1000 (by omega), same_upd' (s2.trans s3) hD, ys ++ [.ref t2], upd_same, ?_⟩
      rw [take_more hab]
      unfold facs at ty ⊢
      rw [List.map_append, List.map_append]
      exact TupsIn.app hD2 ty s3 nt et
    · rintro H2 ⟨s2, ys, hD2, ty⟩
      rw [pr.length, List.take_length] at ty
      exact k D H2 ys hD s2 hD2 ty

/-- taken_out(n, a, e, prime, many) -/
def sp_taken_out : Sp := fun vs H Q _ => ∃ (n q b v m : Nat) (a : Int), vs = [.int n, .int a, .int ((q ^ b * m : Nat) : Int), .int q, .int b] ∧ 2 ≤ n ∧ n < 2 ^ 800 ∧ 2 ≤ q ∧ 0 < m ∧ q < 2 ^ 900 ∧ v ≤ b ∧ (∀ k, M.is1 n a (q ^ k * m) ↔ v ≤ k) ∧
  ∀ t H', H t = none → Same H H' → H' t = some (.tup [.int ((q ^ v * m : Nat) : Int), .int v]) → Q (.ref t) H'
theorem ok_taken_out (T : Txt K mg) : FnOk P w K mg base CX0 8 (He.ga K "taken_out") (fd_taken_out T) ["n", "a", "e", "prime", "many"] sp_taken_out := by
  refine (F_taken_out T).ok sc_taken_out (fun vs H Q E h => ?_) (fun cdv A outer s H vs Q E hr h => ⟨_, PSs.nox (pss_cons (ps_while PassesOwn.never (PW.pt (pw_and (pt_cmpR op_gt (pv 4) pe_int (nomark _)) (pw_and1 (pt_cmpR op_eq (pe_call (ok_power T) (hr.mono (by decide)) rfl (g_power T) (kp_power T) (B_power T) .nil passL (pa_cons (pv 0) (pa_cons (pv 1) (pa_cons (pe_op op_fdivW (pv 2) (pv 3)) pa_nil)))) pe_int (nomark _))))) (pss_cons (ps_set (i := 2) sc_taken_out.nd rfl (Or.inl rfl) (pe_op op_fdivW (pv 2) (pv 3)))
      (pss_one (ps_set (i := 4) sc_taken_out.nd rfl (Or.inl rfl) (pe_op op_sub (pv 4) pe_int)))))
      (pss_one (ps_ret (pe_tup (pa_cons (pv 2) (pa_cons (pv 4) pa_nil)))))), ?_⟩)
  · obtain ⟨n, q, b, v, m, a, rfl, _⟩ := h; rfl
  · obtain ⟨n, q, b, v, m, a, rfl, n2, nb, q2, m0, qb, vb, hv, k⟩ := h
    walk_at "g"
    refine s_while (fun σ H' => H' = H ∧ ∃ j : Nat, σ = [some (.int n), some (.int a), some (.int ((q ^ j * m : Nat) : Int)), some (.int q), some (.int j)] ∧ v ≤ j) (fun σ _ => (iv σ 4).toNat) ⟨rfl, b, rfl, vb⟩ ?_
    rintro σ H' ⟨rfl, j, rfl, hj⟩
    walk_at "g"
    refine s_ite (fun c => ?_) (fun c => ?_)
    · obtain ⟨i, rfl⟩ : ∃ i, j = i + 1 := ⟨j - 1, by omega⟩
      have e1 : ((q ^ (i + 1) * m : Nat) : Int) / (q : Int) = ((q ^ i * m : Nat) : Int) := by
        rw [show q ^ (i + 1) * m = q * (q ^ i * m) by rw [Nat.pow_succ]; grind]
        push_cast
        exact Int.mul_ediv_cancel_left _ (by omega)
      have hw : M.pw n a (q ^ i * m) = 1 ↔ v ≤ i := (M.pw_one_iff n2).trans (hv i)
      walk_at "g"
      refine s_i (divW (by omega) (by omega)) ?_
      walk_at "g"
      refine pos_power (m := q ^ i * m) e1 (by omega) (by omega) ?_
      walk_at "g"
      refine s_ite (fun c2 => ?_) (fun c2 => ?_)
      · walk_at "g"
        refine s_i (divW (by omega) (by omega)) ?_
        walk_at "g"
        rw [e1]
        refine ⟨⟨rfl, i, by rw [show ((i + 1 : Nat) : Int) - 1 = (i : Int) by omega]; rfl, hw.mp c2⟩, ?_⟩
        show (((i + 1 : Nat) : Int) - 1).toNat < ((i + 1 : Nat) : Int).toNat
        omega
      · have e : i + 1 = v := by
          have := fun z => c2 (hw.mpr z)
          omega
        walk_at "g"
        refine mkT (by simp) fun t H2 nt et s2 => ?_
        walk_at "g"
        rw [e] at et
        exact k t H2 nt s2 et
    · have e : j = v := by omega
      walk_at "g"
      refine mkT (by simp) fun t H2 nt et s2 => ?_
      walk_at "g"
      rw [e] at et
      exact k t H2 nt s2 et

/-- order_from(n, a, parts): the order paper, or NoOrder -/
def sp_order_from (K : PySem.W.Frag) : Sp := fun vs H Q E => ∃ (n m F : Nat) (a : Int) (u : Addr) (pl : List (Addr × Nat × Nat)), vs = [.int n, .int a, .ref u] ∧ 2 ≤ n ∧ n < 2 ^ 800 ∧ PartsAt m H u pl ∧ M.IsFac F (facs pl) ∧ 0 < F ∧ F < 2 ^ 200 ∧
  (¬ M.is1 n a F → ∀ H', Same H H' → E (.ref (He.ga K "NoOrder")) none H') ∧
  (∀ o, M.Ord n a o → o ∣ F → ∀ t H', OrdAt H' t n a o pl → Same H H' → Q (.ref t) H')
theorem ok_order_from (T : Txt K mg) : FnOk P w K mg base (L2.CX P w) 9 (He.ga K "order_from") (fd_order_from T) ["n", "a", "parts"] (sp_order_from K) := by
  refine (F_order_from T).ok sc_order_from (fun vs H Q E h => ?_) (fun cdv A outer s H vs Q E hr h => ⟨_, (pss_cons (ps_set (i := 3) sc_order_from.nd rfl (Or.inr rfl) (pe_call (ok_whole_of T) (hr.mono (by decide)) rfl (g_whole_of T) (kp_whole_of T) (B_whole_of T) .nil pass0 (pa_cons (pe_call (ok_plain_parting T) (hr.mono (by decide)) rfl (g_plain_parting T) (kp_plain_parting T) (B_plain_parting T) .nil pass0 (pa_cons (pv 2) pa_nil)) pa_nil)))
      (pss_cons (ps_if (pt_cmpR op_ne (pe_call (ok_power T) (hr.mono (by decide)) rfl (g_power T) (kp_power T) (B_power T) .nil (passes_call (takes_of rfl rfl rfl rfl) (fun _ _ _ _ h => h)) (pa_cons (pv 0) (pa_cons (pv 1) (pa_cons (pv 3) pa_nil)))) pe_int (nomark _)) (pss_one (ps_raise rfl (takes_of rfl rfl rfl rfl) (pmk_z (z_NoOrder T) (g_NoOrder T) rfl))) pss_nil)
      (pss_cons (ps_set (i := 4) sc_order_from.nd rfl (Or.inl rfl) (pe_lst pa_nil))
      (pss_cons (ps_for (passes_of rfl) rfl (pi_tup (pv 2)) (pg_tup rfl (pgs_cons (pg_name (i := 5) sc_order_from.nd rfl (Or.inl rfl)) (pgs_cons (pg_name (i := 6) sc_order_from.nd rfl (Or.inl rfl)) pgs_nil))) (pss_cons (ps_asg (pe_call (ok_taken_out T) (hr.mono (by decide)) rfl (g_taken_out T) (kp_taken_out T) (B_taken_out T) .nil pass0 (pa_cons (pv 0) (pa_cons (pv 1) (pa_cons (pv 3) (pa_cons (pe_ix ix_seq (pv 5) pe_int (fun _ _ => rfl)) (pa_cons (pv 6) pa_nil)))))) (pg_tup rfl (pgs_cons (pg_name (i := 3) sc_order_from.nd rfl (Or.inr rfl)) (pgs_cons (pg_name (i := 7) sc_order_from.nd rfl (Or.inl rfl)) pgs_nil))))
      (pss_one (ps_if (pt_cmpR op_gt (pv 7) pe_int (nomark _)) (pss_one (ps_expr (pe_bm PySem.F.plainAttrs_list PySem.F.slot_list_append PySem.F.type_list_append mt_append (pv 4) (pa_cons (pe_tup (pa_cons (pv 5) (pa_cons (pv 7) pa_nil))) pa_nil)))) pss_nil))))
      (pss_one (ps_ret (pe_tup (pa_cons (pv 3) (pa_cons (pe_callTy callTup rfl (T.fr (T.c.fact 34 rfl)) boot_tuple (pa_cons (pe_lc (own := [("paper", 5), ("left", 7)]) (tt := tYes) (g := gTup K 2 (gCons (gName 5) (gCons (gName 7) gNil))) rfl sc_order_from.nd (pi_list (pv 4)) (blkOk_by (N := N_order_from) (sc := defScope s_order_from) (by decide +kernel)) (fun _ _ _ _ _ => (pg_tup rfl (pgs_cons (pg_name (i := 5) sc_order_from.nd rfl (Or.inl rfl)) (pgs_cons (pg_name (i := 7) sc_order_from.nd rfl (Or.inl rfl)) pgs_nil)))) (fun _ _ _ _ _ => pts_nil) (fun _ _ _ _ _ => (pe_tup (pa_cons (pv 5) (pa_cons (pv 7) (pa_cons (pe_call (ok_power T) (hr.mono (by decide)) rfl (g_power T) (kp_power T) (B_power T) .nil passL (pa_cons (pv 0) (pa_cons (pv 1) (pa_cons (pe_op op_fdivW (pv 3) (pe_ix (R.ix_seqK K rfl) (pv 5) pe_int (fun _ _ => rfl))) pa_nil)))) pa_nil)))))) pa_nil)) pa_nil))))))))), ?_⟩)
  · obtain ⟨n, m, F, a, u, pl, rfl, _⟩ := h; rfl
  · obtain ⟨n, m, F, a, u, pl, rfl, n2, nb, hP, hF, F0, Fb, k1, k2⟩ := h
    have hpl := pl_len hF F0 Fb
    have hpr : ∀ r ∈ pl, M.Prime r.2.1 := fun r hr => (hF.primes _ (facs_mem hr)).1
    walk_at "g"
    refine ⟨u, m, pl, rfl, hP, by omega, fun D H1 ys nD s1 hD tD => ?_⟩
    walk_at "g"
    refine ⟨D, ys, facs pl, rfl, hD, tD, fun x hx => ⟨(hF.primes x hx).1.pos, fac_many hF F0 hx Fb⟩, by rw [hF.prod]; omega, ?_⟩
    rw [hF.prod]
    walk_at "g"
    refine pos_power (m := F) rfl (by omega) (by omega) ?_
    walk_at "g"
    have hw := M.pw_one_iff n2 (a := a) (e := F)
    refine s_iten (fun c => ?_) (fun c => ?_)
    · walk_at "g"
      exact k1 (fun z => c (hw.mpr z)) H1 s1
    have h1 := hw.mp c
    obtain ⟨o, ho⟩ := M.ex_ordN h1 F0
    have hoF := ho.dvdN h1
    have o0 := ho.pos
    have hoF' := Nat.le_of_dvd F0 hoF
    walk_at "g"
    refine mkL (by simp) fun kl H2 nk ek s2 => ?_
    have S2 := s1.trans s2
    walk_at "g"
    obtain ⟨xs, e2, pr⟩ := hP.same s1
    refine ⟨⟨_, SqT.of (s2 _ _ e2)⟩, ?_⟩
    refine for_tup (fun i σ H' => Same H1 H' ∧ ∃ (e : Nat) (v1 v2 v3 : Option V) (ks : List V), σ = [some (.int n), some (.int a), some (.ref u), some (.int e), some (.ref kl), v1, v2, v3] ∧ H' kl = some (.lst ks) ∧
        TupsIn H' ks (((pl.take i).filter (dv o)).map fun r => [V.ref r.1, V.int (M.vq r.2.1 o : Nat)]) ∧ M.OF o F (facs pl) i e)
      ⟨s2, F, none, none, none, [], rfl, ek, .nil, M.of_start hF hoF⟩ (fun i σ H' _ I => SqT.of (I.1 _ _ e2)) ?_ ?_
    · rintro i x σ H' hi ⟨s3, e, v1, v2, v3, ks, rfl, hk, tk, of⟩
      obtain ⟨⟨s, q, b⟩, hab, t, rfl, ex, hPs⟩ := pget pr hi
      obtain ⟨f', u', e1'⟩ := hPs.first
      have hq : M.Prime q := hpr _ (List.mem_of_getElem? hab)
      have hq2 := hq.1
      have heF := Nat.le_of_dvd F0 (M.of_le hF F0 hoF o0 of)
      have hqF := Nat.le_of_dvd F0 (M.fac_dvd hF (facs_mem (List.mem_of_getElem? hab)))
      have hqF' : q ≤ F := hqF
      obtain ⟨mm, em, hqm, m0, vb, hv, of2⟩ := M.of_step hF o0 of (facs_get hab)
      have hkl : ks.length ≤ 200 := by
        rw [tk.length, List.length_map]
        refine Nat.le_trans (List.length_filter_le _ _) ?_
        rw [List.length_take]; omega
      subst em
      refine s_gtup (SqT.of (s3 _ _ ex)) rfl ?_
      walk_at "g"
      refine s_ixT (SqT.of (s3 _ _ e1')) (atI0 0 rfl rfl) ?_
      walk_at "g"
      refine ⟨n, q, b, M.vq q o, mm, a, rfl, n2, nb, hq2, m0, by omega, vb, fun k => ho.iffN.trans (hv k), fun t2 H3 nt s4 et => ?_⟩
      walk_at "g"
      refine s_gtup (SqT.of et) rfl ?_
      walk_at "g"
      have hd : dv o (s, q, b) = true ↔ 0 < M.vq q o := by
        rw [M.vq_pos_iff hq2 o0]
        unfold dv
        exact beq_iff_eq
      refine s_ite (fun c => ?_) (fun c => ?_)
      · walk_at "g"
        refine ⟨s_tyL (s4 _ _ hk), ?_⟩
        walk_at "g"
        refine mkT (by simp) fun t3 H4 nt3 et3 s5 => ?_
        walk_at "g"
        refine s_append (s5 _ _ (s4 _ _ hk)) (small1000 (by omega)) ?_
        walk_at "g"
        refine ⟨same_upd' (s3.trans (s4.trans s5)) nk, _, _, _, _, _, rfl, upd_same, ?_, of2⟩
        rw [filter_take (dv o) hab, if_pos (hd.mpr (by omega)), List.map_append]
        exact TupsIn.app (s4 _ _ hk) (tk.same s4) s5 nt3 et3
      · walk_at "g"
        refine ⟨s3.trans s4, _, _, _, _, _, rfl, s4 _ _ hk, ?_, of2⟩
        rw [filter_take (dv o) hab, if_neg (fun z => by have := hd.mp z; omega), List.append_nil]
        exact tk.same s4
    · rintro σ H' ⟨s3, e, v1, v2, v3, ks, rfl, hk, tk, of⟩
      rw [pr.length, List.take_length] at tk
      rw [pr.length, ← facs_len] at of
      have eo := M.of_end hF o0 of
      subst eo
      have hkl : ks.length ≤ 200 := by
        rw [tk.length, List.length_map]
        exact Nat.le_trans (List.length_filter_le _ _) hpl
      have hPs := (hP.same s1).same s3
      walk_at "g"
      refine s_lc ?_
      walk_at "g"
      refine ⟨⟨_, SqL.of hk⟩, fun D2 hD2 => ?_⟩
      refine lc_list (fun i H2 => Same H' H2 ∧ ∃ ys, H2 D2 = some (.lst ys) ∧ TupsIn H2 ys ((ordRows n a e pl).take i)) ⟨same_upd hD2, [], upd_same, .nil⟩ (fun i H2 _ I => SqL.of (I.1 _ _ hk)) ?_ ?_
      · rintro i x H2 hi ⟨s4, ys, hys, ty⟩
        obtain ⟨y, hy, t, rfl, et⟩ := pget tk hi
        rw [List.getElem?_map] at hy
        obtain ⟨⟨s, q, b⟩, hab, rfl⟩ := Option.map_eq_some_iff.mp hy
        have hmem := List.mem_of_getElem? hab
        have hmp := (List.mem_filter.mp hmem).1
        have hPa := hPs.mem hmp
        obtain ⟨f', u', e1'⟩ := hPa.first
        have hq2 := (hpr _ hmp).1
        have hq2' : 2 ≤ q := hq2
        have hqF := Nat.le_of_dvd F0 (M.fac_dvd hF (facs_mem hmp))
        have hqF' : q ≤ F := hqF
        have hyl : ys.length ≤ 200 := by
          rw [ty.length, List.length_take]
          unfold ordRows
          rw [List.length_map]
          have := List.length_filter_le (dv e) pl
          omega
        refine s_gtup (SqT.of (s4 _ _ et)) rfl ?_
        walk_at "g"
        refine ⟨rfl, ?_⟩
        walk_at "g"
        refine s_ixT (SqT.of (s4 _ _ e1')) (atI0 0 rfl rfl) ?_
        walk_at "g"
        refine s_i (divW (by omega) (by omega)) ?_
        walk_at "g"
        refine pos_power (m := e / q) (Int.natCast_ediv _ _).symm (by omega) (by omega) ?_
        walk_at "g"
        refine mkT (by simp) fun t3 H4 nt3 et3 s5 => ?_
        have hrow : (ordRows n a e pl)[i]? = some [V.ref s, V.int (M.vq q e : Nat), V.int (M.pw n a (e / q))] := by
          unfold ordRows
          rw [List.getElem?_map, hab]; rfl
        refine ⟨ys, s5 _ _ hys, small1000 (by omega), same_upd' (s4.trans s5) hD2, ys ++ [.ref t3], upd_same, ?_⟩
        rw [take_more hrow]
        exact TupsIn.app hys ty s5 nt3 et3
      · rintro H2 ⟨s4, ys, hys, ty⟩
        have hl2 : ks.length = (ordRows n a e pl).length := by rw [tk.length]; unfold ordRows; rw [List.length_map, List.length_map]
        rw [hl2, List.take_length] at ty
        have hyl : ys.length ≤ 200 := by rw [ty.length, ← hl2]; exact hkl
        walk_at "g"
        refine s_tupL (SqL.of hys) fun w nw => ?_
        have S4 : Same H2 (upd H2 w (.tup ys)) := same_upd nw
        have e4 : upd H2 w (.tup ys) w = some (.tup ys) := upd_same
        generalize upd H2 w (.tup ys) = H4 at S4 e4 ⊢
        walk_at "g"
        refine mkT (by simp) fun t3 H5 nt et s5 => ?_
        walk_at "g"
        exact k2 e ho hoF t3 H5 ⟨w, ys, et, s5 _ _ e4, (ty.same S4).same s5⟩ (s1.trans (s3.trans (s4.trans (S4.trans s5))))

/-- the same numbers, truths and None in the same tuples and lists, n deep at most -/
def Sm (H : Hp) : Nat → V → V → Prop
  | 0 => fun _ _ => False
  | n + 1 => fun x y => (∃ i : Int, x = .int i ∧ y = .int i) ∨ (∃ b : Bool, x = .bl b ∧ y = .bl b) ∨ (x = .non ∧ y = .non) ∨
      ∃ (p q : Addr) (xs ys : List V), x = .ref p ∧ y = .ref q ∧ (H p = some (.tup xs) ∧ H q = some (.tup ys) ∨ H p = some (.lst xs) ∧ H q = some (.lst ys)) ∧ xs.length ≤ 900 ∧ Paired (Sm H n) xs ys
theorem Sm.int {H : Hp} {n : Nat} (i : Int) : Sm H (n + 1) (.int i) (.int i) := .inl ⟨i, rfl, rfl⟩
theorem Sm.mono {H : Hp} : ∀ {n m : Nat} {x y : V}, Sm H n x y → n ≤ m → Sm H m x y
  | 0, _, _, _, h, _ => h.elim
  | n + 1, 0, _, _, _, l => by omega
  | n + 1, m + 1, x, y, h, l => by
    rcases h with h | h | h | ⟨p, q, xs, ys, e1, e2, e3, hl, pr⟩
    · exact .inl h
    · exact .inr (.inl h)
    · exact .inr (.inr (.inl h))
    · exact .inr (.inr (.inr ⟨p, q, xs, ys, e1, e2, e3, hl, paired_mono (fun _ _ s => s.mono (by omega)) pr⟩))
theorem Sm.same {H H' : Hp} (s : Same H H') : ∀ {n : Nat} {x y : V}, Sm H n x y → Sm H' n x y
  | 0, _, _, h => h.elim
  | n + 1, x, y, h => by
    rcases h with h | h | h | ⟨p, q, xs, ys, e1, e2, e3, hl, pr⟩
    · exact .inl h
    · exact .inr (.inl h)
    · exact .inr (.inr (.inl h))
    · exact .inr (.inr (.inr ⟨p, q, xs, ys, e1, e2, e3.elim (fun z => .inl ⟨s _ _ z.1, s _ _ z.2⟩) (fun z => .inr ⟨s _ _ z.1, s _ _ z.2⟩), hl, paired_mono (fun _ _ h => h.same s) pr⟩))
/-- _law_same of things that are the same -/
def sp__law_same (n : Nat) : Sp := fun vs H Q _ => ∃ x y, vs = [x, y] ∧ Sm H n x y ∧ ∀ H', Same H H' → Q (.bl true) H'
theorem s_isiT2b {K : PySem.W.Frag} {H : Hp} {Q : VK} {x : V} {tp : Addr} {a b1 b2 : String} {r1 r2 : Bool} (ht : H tp = some (.tup [.ty b1, .ty b2])) (tx : TyOf K H x (.type a)) (k1 : kitB a b1 = some r1) (k2 : kitB a b2 = some r2) (r : (r1 || r2) = true) (h : Q (.bl true) H) : rIsiT K [x, .ref tp] H Q :=
  s_isiT2 ht tx k1 k2 (by rw [r]; exact h)
theorem s_lenx_tup {K : PySem.W.Frag} {H : Hp} {Q : VK} {p : Addr} {xs : List V} (hs : H p = some (.tup xs)) (h : Q (.int xs.length) H) : rLenS K [.ref p] H Q := s_lenT (SqT.of hs) h
theorem s_lenx_lst {K : PySem.W.Frag} {H : Hp} {Q : VK} {p : Addr} {xs : List V} (hs : H p = some (.lst xs)) (h : Q (.int xs.length) H) : rLenS K [.ref p] H Q := s_lenL (SqL.of hs) h
theorem kb_ll2 : kitB "list" "list" = some true := by decide +kernel
theorem all_true {bs : List Bool} (h : ∀ b ∈ bs, b = true) : bs.all id = true := List.all_eq_true.mpr fun b hb => h b hb
theorem ok_sameS (T : Txt K mg) {n : Nat} (IH : FnOk P w K mg base CX0 (n + 2) (He.ga K "_law_same") (fd__law_same T) ["_law_found", "_law_due"] (sp__law_same n)) : FnOk P w K mg base CX0 (n + 3) (He.ga K "_law_same") (fd__law_same T) ["_law_found", "_law_due"] (sp__law_same (n + 1)) := by
  refine (F__law_same T).ok sc__law_same (fun vs H Q E h => ?_) (fun cdv A outer s H vs Q E hr h => ⟨_, PSs.nox (pss_cons (ps_if (pt_val (pe_callB call_isiT rfl (T.fr (T.c.fact 35 rfl)) boot_isinstance (pa_cons (pv 1) (pa_cons (pe_tup (pa_cons (pe_bltn (v := .ty "list") rfl (T.fr (T.c.fact 41 rfl)) boot_list rfl) (pa_cons (pe_bltn (v := .ty "tuple") rfl (T.fr (T.c.fact 34 rfl)) boot_tuple rfl) pa_nil))) pa_nil)))) (pss_cons (ps_if (PW.pt (pw_or (pt_not (pt_val (pe_callB call_isiT rfl (T.fr (T.c.fact 35 rfl)) boot_isinstance (pa_cons (pv 0) (pa_cons (pe_tup (pa_cons (pe_bltn (v := .ty "list") rfl (T.fr (T.c.fact 41 rfl)) boot_list rfl) (pa_cons (pe_bltn (v := .ty "tuple") rfl (T.fr (T.c.fact 34 rfl)) boot_tuple rfl) pa_nil))) pa_nil))))) (pw_or1 (pt_cmpR op_ne (pe_callB call_isi rfl (T.fr (T.c.fact 35 rfl)) boot_isinstance (pa_cons (pv 0) (pa_cons (pe_bltn (v := .ty "list") rfl (T.fr (T.c.fact 41 rfl)) boot_list rfl) pa_nil))) (pe_callB call_isi rfl (T.fr (T.c.fact 35 rfl)) boot_isinstance (pa_cons (pv 1) (pa_cons (pe_bltn (v := .ty "list") rfl (T.fr (T.c.fact 41 rfl)) boot_list rfl) pa_nil))) (nomark _))))) (pss_one (ps_ret pe_bl)) pss_nil)
      (pss_one (ps_ret (pe_and (pe_cmpR op_eq (pe_callB callLen rfl (T.fr (T.c.fact 38 rfl)) boot_len (pa_cons (pv 0) pa_nil)) (pe_callB callLen rfl (T.fr (T.c.fact 38 rfl)) boot_len (pa_cons (pv 1) pa_nil)) (nomark _)) (pe_one (pe_callB (cr_all rfl) rfl (T.fr (T.c.fact 42 rfl)) boot_all (pa_cons (pe_lc (own := [("_law_one", 2), ("_law_other", 3)]) (tt := tYes) (g := gTup K 2 (gCons (gName 2) (gCons (gName 3) gNil))) rfl sc__law_same.nd (RZ.pi_zipA rfl (T.fr (T.c.fact 43 rfl)) (pa_cons (pv 0) (pa_cons (pv 1) pa_nil))) (blkOk_by (N := N__law_same) (sc := defScope s__law_same) (by decide +kernel)) (fun _ _ _ _ _ => (pg_tup rfl (pgs_cons (pg_name (i := 2) sc__law_same.nd rfl (Or.inl rfl)) (pgs_cons (pg_name (i := 3) sc__law_same.nd rfl (Or.inl rfl)) pgs_nil)))) (fun _ _ _ _ _ => pts_nil) (fun _ _ _ _ _ => (pe_call (IH) (hr.mono (by omega)) rfl (g__law_same T) (kp__law_same T) (B__law_same T) .nil pass0 (pa_cons (pv 2) (pa_cons (pv 3) pa_nil))))) pa_nil))))))) pss_nil)
      (pss_cons (ps_if (pt_cmpR op_isN1 (pv 1) pe_non (nomark _)) (pss_one (ps_ret (pe_cmpR op_isN1 (pv 0) pe_non (nomark _)))) pss_nil)
      (pss_cons (ps_if (PW.pt (pw_or (pt_val (pe_callB call_isi rfl (T.fr (T.c.fact 35 rfl)) boot_isinstance (pa_cons (pv 1) (pa_cons (pe_bltn (v := .ty "bool") rfl (T.fr (T.c.fact 37 rfl)) boot_bool rfl) pa_nil)))) (pw_or1 (pt_val (pe_callB call_isi rfl (T.fr (T.c.fact 35 rfl)) boot_isinstance (pa_cons (pv 0) (pa_cons (pe_bltn (v := .ty "bool") rfl (T.fr (T.c.fact 37 rfl)) boot_bool rfl) pa_nil))))))) (pss_one (ps_ret (pe_and (pe_callB call_isi rfl (T.fr (T.c.fact 35 rfl)) boot_isinstance (pa_cons (pv 1) (pa_cons (pe_bltn (v := .ty "bool") rfl (T.fr (T.c.fact 37 rfl)) boot_bool rfl) pa_nil))) (pe_and (pe_callB call_isi rfl (T.fr (T.c.fact 35 rfl)) boot_isinstance (pa_cons (pv 0) (pa_cons (pe_bltn (v := .ty "bool") rfl (T.fr (T.c.fact 37 rfl)) boot_bool rfl) pa_nil))) (pe_one (pe_cmpR op_eq (pv 0) (pv 1) (nomark _))))))) pss_nil)
      (pss_one (ps_ret (pe_and (pe_callB call_isi rfl (T.fr (T.c.fact 35 rfl)) boot_isinstance (pa_cons (pv 0) (pa_cons (pe_bltn (v := .ty "int") rfl (T.fr (T.c.fact 36 rfl)) boot_int rfl) pa_nil))) (pe_one (pe_cmpR op_eq (pv 0) (pv 1) (nomark _))))))))), ?_⟩)
  · obtain ⟨x, y, rfl, _⟩ := h; rfl
  · obtain ⟨x, y, rfl, hs, k⟩ := h
    rcases hs with ⟨a, rfl, rfl⟩ | ⟨a, rfl, rfl⟩ | ⟨rfl, rfl⟩ | ⟨p, q, xs, ys, rfl, rfl, e3, hl, pr⟩
    · walk_at "g"
      refine mkT (by simp) fun t H1 nt et s1 => ?_
      walk_at "g"
      refine s_isiT2F et (.int _) kb_il kb_it ?_
      walk_at "g"
      exact s_blT (Q := Q) rfl (k _ s1)
    · walk_at "g"
      refine mkT (by simp) fun t H1 nt et s1 => ?_
      walk_at "g"
      refine s_isiT2F et (.bl _) kb_bl kb_bt ?_
      walk_at "g"
      refine s_isi (.bl _) kb_bb ?_
      walk_at "g"
      refine s_isi (.bl _) kb_bb ?_
      walk_at "g"
      refine s_isi (.bl _) kb_bb ?_
      walk_at "g"
      exact s_blT (Q := Q) rfl (k _ s1)
    · walk_at "g"
      refine mkT (by simp) fun t H1 nt et s1 => ?_
      walk_at "g"
      refine s_isiT2F et .non kb_nl kb_nt ?_
      walk_at "g"
      exact k _ s1
    · have hyl := pr.length
      rcases e3 with ⟨ep, eq⟩ | ⟨ep, eq⟩
      · walk_at "g"
        refine mkT (by simp) fun t H1 nt et s1 => ?_
        walk_at "g"
        refine s_isiT2b et (.tup (s1 _ _ eq)) kb_tl kb_tt rfl ?_
        walk_at "g"
        refine mkT (by simp) fun t2 H2 nt2 et2 s2 => ?_
        have fp := s2 _ _ (s1 _ _ ep)
        have fq := s2 _ _ (s1 _ _ eq)
        walk_at "g"
        refine s_isiT2b et2 (.tup fp) kb_tl kb_tt rfl ?_
        walk_at "g"
        refine s_isi (.tup fp) kb_tl ?_
        walk_at "g"
        refine s_isi (.tup fq) kb_tl ?_
        walk_at "g"
        refine s_lenx_tup fp ?_
        walk_at "g"
        refine s_lenx_tup fq ?_
        walk_at "g"
        rw [hyl]
        refine s_itP rfl ?_
        walk_at "g"
        refine s_lc ?_
        walk_at "g"
        refine ⟨p, q, xs, ys, rfl, .inr ⟨SqT.of fp, SqT.of fq, fun D hD => ?_⟩⟩
        have S2 := s1.trans s2
        refine lc_it (walk_zipT (xs := xs) (ys := ys) (n := xs.length) (by omega)) (fun i H3 => Same H2 H3 ∧ ∃ bs : List Bool, H3 D = some (.lst (bs.map V.bl)) ∧ bs.length = i ∧ ∀ b ∈ bs, b = true) ⟨same_upd hD, [], upd_same, rfl, by simp⟩ (fun i H3 _ I => ⟨SqT.of (I.1 _ _ fp), SqT.of (I.1 _ _ fq)⟩) ?_ ?_
        · rintro i x H3 H4 hi ⟨s3, bs, hb, hbl, hbt⟩ ⟨T2, x1, y1, rfl, nT, rfl, hx, hy⟩
          obtain ⟨y2, hy2, hsm⟩ := pget pr hx
          have e2 : y2 = y1 := Option.some.inj (hy2.symm.trans hy)
          subst e2
          have S4 : Same H3 (upd H3 T2 (.tup [x1, y2])) := same_upd nT
          have e4 : upd H3 T2 (.tup [x1, y2]) T2 = some (.tup [x1, y2]) := upd_same
          generalize upd H3 T2 (.tup [x1, y2]) = H4 at S4 e4 ⊢
          refine s_gtup (SqT.of e4) rfl ?_
          walk_at "g"
          refine ⟨rfl, ?_⟩
          walk_at "g"
          refine ⟨x1, y2, rfl, hsm.same (S2.trans (s3.trans S4)), fun H5 s5 => ?_⟩
          refine ⟨_, s5 _ _ (S4 _ _ hb), small1000 (by rw [List.length_map]; omega), same_upd' (s3.trans (S4.trans s5)) hD, bs ++ [true], by rw [upd_same, List.map_append]; rfl, by rw [List.length_append, hbl]; rfl, fun b hb => ?_⟩
          rcases List.mem_append.mp hb with z | z
          · exact hbt b z
          · exact List.mem_singleton.mp z
        · rintro H3 ⟨s3, bs, hb, hbl, hbt⟩
          refine ⟨D, bs, rfl, SqL.of hb, ?_⟩
          rw [all_true hbt]
          exact k _ (S2.trans s3)
      · walk_at "g"
        refine mkT (by simp) fun t H1 nt et s1 => ?_
        walk_at "g"
        refine s_isiT2b et (.lst (s1 _ _ eq)) kb_ll kb_lt rfl ?_
        walk_at "g"
        refine mkT (by simp) fun t2 H2 nt2 et2 s2 => ?_
        have fp := s2 _ _ (s1 _ _ ep)
        have fq := s2 _ _ (s1 _ _ eq)
        walk_at "g"
        refine s_isiT2b et2 (.lst fp) kb_ll kb_lt rfl ?_
        walk_at "g"
        refine s_isi (.lst fp) kb_ll ?_
        walk_at "g"
        refine s_isi (.lst fq) kb_ll ?_
        walk_at "g"
        refine s_lenx_lst fp ?_
        walk_at "g"
        refine s_lenx_lst fq ?_
        walk_at "g"
        rw [hyl]
        refine s_itP rfl ?_
        walk_at "g"
        refine s_lc ?_
        walk_at "g"
        refine ⟨p, q, xs, ys, rfl, .inl ⟨SqL.of fp, SqL.of fq, fun D hD => ?_⟩⟩
        have S2 := s1.trans s2
        refine lc_it (walk_zip (xs := xs) (ys := ys) (n := xs.length) (by omega)) (fun i H3 => Same H2 H3 ∧ ∃ bs : List Bool, H3 D = some (.lst (bs.map V.bl)) ∧ bs.length = i ∧ ∀ b ∈ bs, b = true) ⟨same_upd hD, [], upd_same, rfl, by simp⟩ (fun i H3 _ I => ⟨SqL.of (I.1 _ _ fp), SqL.of (I.1 _ _ fq)⟩) ?_ ?_
        · rintro i x H3 H4 hi ⟨s3, bs, hb, hbl, hbt⟩ ⟨T2, x1, y1, rfl, nT, rfl, hx, hy⟩
          obtain ⟨y2, hy2, hsm⟩ := pget pr hx
          have e2 : y2 = y1 := Option.some.inj (hy2.symm.trans hy)
          subst e2
          have S4 : Same H3 (upd H3 T2 (.tup [x1, y2])) := same_upd nT
          have e4 : upd H3 T2 (.tup [x1, y2]) T2 = some (.tup [x1, y2]) := upd_same
          generalize upd H3 T2 (.tup [x1, y2]) = H4 at S4 e4 ⊢
          refine s_gtup (SqT.of e4) rfl ?_
          walk_at "g"
          refine ⟨rfl, ?_⟩
          walk_at "g"
          refine ⟨x1, y2, rfl, hsm.same (S2.trans (s3.trans S4)), fun H5 s5 => ?_⟩
          refine ⟨_, s5 _ _ (S4 _ _ hb), small1000 (by rw [List.length_map]; omega), same_upd' (s3.trans (S4.trans s5)) hD, bs ++ [true], by rw [upd_same, List.map_append]; rfl, by rw [List.length_append, hbl]; rfl, fun b hb => ?_⟩
          rcases List.mem_append.mp hb with z | z
          · exact hbt b z
          · exact List.mem_singleton.mp z
        · rintro H3 ⟨s3, bs, hb, hbl, hbt⟩
          refine ⟨D, bs, rfl, SqL.of hb, ?_⟩
          rw [all_true hbt]
          exact k _ (S2.trans s3)
theorem sameN (T : Txt K mg) : ∀ n : Nat, FnOk P w K mg base CX0 (n + 2) (He.ga K "_law_same") (fd__law_same T) ["_law_found", "_law_due"] (sp__law_same n)
  | 0 => ⟨fun vs H Q E ⟨_, _, _, h, _⟩ => h.elim, fun _ _ _ _ _ _ _ _ _ _ _ _ _ ⟨_, _, _, h, _⟩ => h.elim⟩
  | n + 1 => ok_sameS T (sameN T n)
theorem ok__law_same (T : Txt K mg) : FnOk P w K mg base CX0 130 (He.ga K "_law_same") (fd__law_same T) ["_law_found", "_law_due"] (sp__law_same 128) := sameN T 128

/-- _law_times(e, q): how often q stands in e -/
def sp__law_times : Sp := fun vs H Q _ => ∃ e q : Nat, vs = [.int e, .int q] ∧ 0 < e ∧ e < 2 ^ 900 ∧ 2 ≤ q ∧ q < 2 ^ 900 ∧ Q (.int (M.vq q e : Nat)) H
theorem ok__law_times (T : Txt K mg) : FnOk P w K mg base CX0 1 (He.ga K "_law_times") (fd__law_times T) ["_law_e", "_law_q"] sp__law_times := by
  refine (F__law_times T).ok sc__law_times (fun vs H Q E h => ?_) (fun cdv A outer s H vs Q E hr h => ⟨_, PSs.nox (pss_cons (ps_set (i := 2) sc__law_times.nd rfl (Or.inl rfl) pe_int)
      (pss_cons (ps_while PassesOwn.never (pt_cmpR op_eq (pe_op op_mod (pv 0) (pv 1)) pe_int (nomark _)) (pss_cons (ps_set (i := 0) sc__law_times.nd rfl (Or.inl rfl) (pe_op op_fdivW (pv 0) (pv 1)))
      (pss_one (ps_set (i := 2) sc__law_times.nd rfl (Or.inl rfl) (pe_op op_add (pv 2) pe_int)))))
      (pss_one (ps_ret (pv 2))))), ?_⟩)
  · obtain ⟨e, q, rfl, _⟩ := h; rfl
  · obtain ⟨e, q, rfl, e0, eb, q2, qb, k⟩ := h
    walk_at "g"
    refine s_while (fun σ H' => H' = H ∧ ∃ c j : Nat, σ = [some (.int c), some (.int q), some (.int j)] ∧ 0 < c ∧ M.vq q e = j + M.vq q c) (fun σ _ => (iv σ 0).toNat) ⟨rfl, e, 0, rfl, e0, by omega⟩ ?_
    rintro σ H' ⟨rfl, c, j, rfl, c0, ev⟩
    walk_at "g"
    refine s_i (by omega) ?_
    walk_at "g"
    refine s_ite (fun hc => ?_) (fun hc => ?_)
    · obtain ⟨d, rfl⟩ : q ∣ c := Int.natCast_dvd_natCast.mp (Int.dvd_of_emod_eq_zero hc)
      have d0 : 0 < d := Nat.pos_of_ne_zero fun z => by rw [z, Nat.mul_zero] at c0; omega
      have e1 : ((q * d : Nat) : Int) / (q : Int) = (d : Int) := by push_cast; exact Int.mul_ediv_cancel_left _ (by omega)
      have h2 : 2 * d ≤ q * d := Nat.mul_le_mul_right d q2
      walk_at "g"
      refine s_i (divW (by omega) (by omega)) ?_
      walk_at "g"
      rw [e1]
      refine ⟨⟨rfl, d, j + 1, rfl, d0, by rw [ev, M.vq_more q2 d0]; omega⟩, ?_⟩
      show (d : Int).toNat < ((q * d : Nat) : Int).toNat
      omega
    · walk_at "g"
      have : M.vq q c = 0 := M.vq_no fun z => hc (by omega)
      rw [this, Nat.add_zero] at ev
      rw [← ev]
      exact k

theorem paired_refl {α : Type} {F : α → α → Prop} : ∀ {xs : List α}, (∀ x ∈ xs, F x x) → Paired F xs xs
  | [], _ => .nil
  | x :: xs, h => .cons (h x (by simp)) (paired_refl fun y hy => h y (by simp [hy]))
theorem paper_sm : ∀ {n : Nat} {H : Hp} {t : Addr} {p : Nat}, PaperAt n H t p → p < 2 ^ 100 → Sm H (3 * n) (.ref t) (.ref t)
  | 0, _, _, _, h, _ => h.elim
  | n + 1, H, t, p, ⟨f, u, xs, l, e1, e2, hp, hf, hl, pr⟩, hpb => by
    have hp2 := hp.1
    have hxl : xs.length ≤ 200 := by
      obtain ⟨d, hd⟩ := M.Fac.of hl (by omega)
      rw [pr.length]
      exact fac_len hd (by omega)
    have hu : Sm H (3 * n + 2) (.ref u) (.ref u) := by
      refine .inr (.inr (.inr ⟨u, u, xs, xs, rfl, rfl, .inl ⟨e2, e2⟩, by omega, paired_refl fun x hx => ?_⟩))
      obtain ⟨i, hi⟩ := List.getElem?_of_mem hx
      obtain ⟨⟨q, b⟩, hab, a, s, rfl, h1, h2⟩ := pget pr hi
      have hqd := Nat.le_of_dvd (by omega) (M.fac_dvd hl (List.mem_of_getElem? hab))
      have hqd' : q ≤ p - 1 := hqd
      have hs := paper_sm h2 (by omega)
      have n0 : 0 < n := by
        rcases Nat.eq_zero_or_pos n with z | z
        · subst z; exact h2.elim
        · exact z
      obtain ⟨m, hm⟩ : ∃ m, 3 * n = m + 1 := ⟨3 * n - 1, by omega⟩
      refine .inr (.inr (.inr ⟨a, a, _, _, rfl, rfl, .inl ⟨h1, h1⟩, by simp, .cons hs (.cons ?_ .nil)⟩))
      rw [hm]; exact Sm.int _
    exact .inr (.inr (.inr ⟨t, t, _, _, rfl, rfl, .inl ⟨e1, e1⟩, by simp, .cons (Sm.int (n := 3 * n + 1) _) (.cons (Sm.int (n := 3 * n + 1) _) (.cons hu .nil))⟩))
theorem sm_rows {H : Hp} {n : Nat} : ∀ {ys zs : List V} {rows : List (List V)}, TupsIn H ys rows → TupsIn H zs rows → (∀ r ∈ rows, r.length ≤ 900 ∧ ∀ v ∈ r, Sm H n v v) → Paired (Sm H (n + 1)) ys zs
  | _, _, _, .nil, .nil, _ => .nil
  | _, _, r :: rows, .cons ⟨t, e1, h1⟩ a, .cons ⟨s, e2, h2⟩ b, h => .cons (.inr (.inr (.inr ⟨t, s, r, r, e1, e2, .inl ⟨h1, h2⟩, (h r (by simp)).1, paired_refl (h r (by simp)).2⟩))) (sm_rows a b fun q hq => h q (by simp [hq]))
/-- two order papers told alike -/
theorem sm_ordRows {H : Hp} {m n : Nat} {a : Int} {o : Nat} {u : Addr} {pl : List (Addr × Nat × Nat)} {w v : Addr} {ys zs : List V} (hP : PartsAt m H u pl) (hpb : ∀ r ∈ pl, r.2.1 < 2 ^ 100) (hl : pl.length ≤ 200) (hw : H w = some (.tup ys)) (hv : H v = some (.tup zs))
    (h1 : TupsIn H ys (ordRows n a o pl)) (h2 : TupsIn H zs (ordRows n a o pl)) : Sm H (3 * m + 3) (.ref w) (.ref v) := by
  refine .inr (.inr (.inr ⟨w, v, ys, zs, rfl, rfl, .inl ⟨hw, hv⟩, ?_, sm_rows (n := 3 * m + 1) h1 h2 fun r hr => ?_⟩))
  · rw [h1.length]
    unfold ordRows
    rw [List.length_map]
    have := List.length_filter_le (dv o) pl
    omega
  · obtain ⟨x, hx, rfl⟩ := List.mem_map.mp hr
    have hx' := (List.mem_filter.mp hx).1
    refine ⟨by simp, fun y hy => ?_⟩
    simp only [List.mem_cons, List.not_mem_nil, or_false] at hy
    rcases hy with rfl | rfl | rfl
    · exact (paper_sm (hP.mem hx') (hpb x hx')).mono (by omega)
    · exact Sm.int _
    · exact Sm.int _

theorem sm_bools {H : Hp} {n : Nat} {D E : Addr} {bs : List V} (h1 : H D = some (.lst bs)) (h2 : H E = some (.lst bs)) (hl : bs.length ≤ 900) (hb : ∀ v ∈ bs, Sm H n v v) : Sm H (n + 1) (.ref D) (.ref E) :=
  .inr (.inr (.inr ⟨D, E, bs, bs, rfl, rfl, .inr ⟨h1, h2⟩, hl, paired_refl hb⟩))
theorem sm_tft {H : Hp} {D E : Addr} (h1 : H D = some (.lst [.bl true, .bl false, .bl true])) (h2 : H E = some (.lst [.bl true, .bl false, .bl true])) : Sm H 2 (.ref D) (.ref E) := sm_bools (n := 1) h1 h2 (by simp) fun v hv => by
  simp only [List.mem_cons, List.not_mem_nil, or_false] at hv
  rcases hv with rfl | rfl | rfl
  · exact .inr (.inl ⟨_, rfl, rfl⟩)
  · exact .inr (.inl ⟨_, rfl, rfl⟩)
  · exact .inr (.inl ⟨_, rfl, rfl⟩)
theorem sm_ord {H : Hp} {m n : Nat} {a : Int} {o : Nat} {u : Addr} {pl : List (Addr × Nat × Nat)} {t s : Addr} (hP : PartsAt m H u pl) (hpb : ∀ r ∈ pl, r.2.1 < 2 ^ 100) (hl : pl.length ≤ 200) (h1 : OrdAt H t n a o pl) (h2 : OrdAt H s n a o pl) : Sm H (3 * m + 4) (.ref t) (.ref s) := by
  obtain ⟨w, ys, e1, e2, e3⟩ := h1
  obtain ⟨v, zs, f1, f2, f3⟩ := h2
  exact .inr (.inr (.inr ⟨t, s, _, _, rfl, rfl, .inl ⟨e1, f1⟩, by simp, .cons (Sm.int (n := 3 * m + 2) _) (.cons (sm_ordRows hP hpb hl e2 f2 e3 f3) .nil)⟩))

theorem ordRows_snoc {n : Nat} {a : Int} {o i : Nat} {pl : List (Addr × Nat × Nat)} {r : Addr × Nat × Nat} (h : pl[i]? = some r) : ordRows n a o (pl.take (i + 1)) = ordRows n a o (pl.take i) ++ (if dv o r = true then [[V.ref r.1, V.int (M.vq r.2.1 o : Nat), V.int (M.pw n a (o / r.2.1))]] else []) := by
  unfold ordRows
  rw [filter_take (dv o) h, List.map_append]
  congr 1
  cases dv o r <;> rfl
/-- _law_paper_due(n, a, least, papers): the order paper, made here -/
def sp__law_paper_due : Sp := fun vs H Q _ => ∃ (m n : Nat) (a : Int) (u : Addr) (pl : List (Addr × Nat × Nat)) (o : Nat), vs = [.int n, .int a, .int o, .ref u] ∧ PartsAt m H u pl ∧ pl.length ≤ 200 ∧ (∀ r ∈ pl, 2 ≤ r.2.1 ∧ r.2.1 < 2 ^ 300) ∧ 2 ≤ n ∧ n < 2 ^ 800 ∧ 0 < o ∧ o < 2 ^ 800 ∧
  ∀ t H', Same H H' → OrdAt H' t n a o pl → Q (.ref t) H'
theorem ok__law_paper_due (T : Txt K mg) : FnOk P w K mg base CX0 2 (He.ga K "_law_paper_due") (fd__law_paper_due T) ["_law_n", "_law_a", "_law_least", "_law_papers_here"] sp__law_paper_due := by
  refine (F__law_paper_due T).ok sc__law_paper_due (fun vs H Q E h => ?_) (fun cdv A outer s H vs Q E hr h => ⟨_, PSs.nox (pss_cons ((ps_setLc (i := 4) (own := [("_law_paper_here", 5), ("_law_many", 6)]) (g := gTup K 2 (gCons (gName 5) (gCons (gName 6) gNil))) rfl sc__law_paper_due.nd rfl rfl (sw_true rfl rfl rfl rfl) (pi_tup (pv 3)) (blkOk_by (N := N__law_paper_due) (sc := defScope s__law_paper_due) (by decide +kernel)) (fun _ _ _ _ _ => (pg_tup rfl (pgs_cons (pg_name (i := 5) sc__law_paper_due.nd rfl (Or.inl rfl)) (pgs_cons (pg_name (i := 6) sc__law_paper_due.nd rfl (Or.inl rfl)) pgs_nil)))) (fun _ _ _ _ _ => (pts_one (pt_cmpR op_eq (pe_op op_mod (pv 2) (pe_ix (R.ix_seqK K rfl) (pv 5) pe_int (fun _ _ => rfl))) pe_int (nomark _)))) (fun _ _ _ _ _ => (pe_tup (pa_cons (pv 5) (pa_cons (pe_call (ok__law_times T) (hr.mono (by decide)) rfl (g__law_times T) (kp__law_times T) (B__law_times T) .nil pass0 (pa_cons (pv 2) (pa_cons (pe_ix (R.ix_seqK K rfl) (pv 5) pe_int (fun _ _ => rfl)) pa_nil))) (pa_cons (pe_call (ok__law_power T) (hr.mono (by decide)) rfl (g__law_power T) (kp__law_power T) (B__law_power T) .nil pass0 (pa_cons (pv 0) (pa_cons (pv 1) (pa_cons (pe_op op_fdivW (pv 2) (pe_ix (R.ix_seqK K rfl) (pv 5) pe_int (fun _ _ => rfl))) pa_nil)))) pa_nil)))))))
      (pss_one (ps_ret (pe_tup (pa_cons (pv 2) (pa_cons (pe_callTy callTup rfl (T.fr (T.c.fact 34 rfl)) boot_tuple (pa_cons (pv 4) pa_nil)) pa_nil)))))), ?_⟩)
  · obtain ⟨m, n, a, u, pl, o, rfl, _⟩ := h; rfl
  · obtain ⟨m, p, a, u, pl, o, rfl, hP, hpl, hqs, hp2, hpb, o0, ob, k⟩ := h
    walk_at "g"
    refine s_lc ?_
    walk_at "g"
    obtain ⟨xs, e2, pr⟩ := hP
    refine ⟨⟨_, SqT.of e2⟩, fun D hD => ?_⟩
    refine lc_tup (fun i H2 => Same H H2 ∧ ∃ ys, H2 D = some (.lst ys) ∧ TupsIn H2 ys (ordRows p a o (pl.take i))) ⟨same_upd hD, [], upd_same, .nil⟩ (fun i H2 _ I => SqT.of (I.1 _ _ e2)) ?_ ?_
    · rintro i x H2 hi ⟨s2, ys, hys, ty⟩
      obtain ⟨⟨r, q, b⟩, hab, tx, rfl, ex, hPs⟩ := pget pr hi
      obtain ⟨f', u', e1'⟩ := hPs.first
      have e1s : H2 r = some (.tup [.int (q : Nat), .int (f' : Nat), .ref u']) := s2 _ _ e1'
      have hmem := List.mem_of_getElem? hab
      have q2 := hqs _ hmem
      have q2' : 2 ≤ q := q2.1
      have qb' : q < 2 ^ 300 := q2.2
      have hyl : ys.length ≤ 200 := by
        rw [ty.length]
        unfold ordRows
        rw [List.length_map]
        have := List.length_filter_le (dv o) (pl.take i)
        rw [List.length_take] at this
        omega
      have hsn := ordRows_snoc (n := p) (a := a) (o := o) hab
      refine s_gtup (SqT.of (s2 _ _ ex)) rfl ?_
      walk_at "g"
      refine ⟨rfl, ?_⟩
      walk_at "g"
      refine s_ixT (SqT.of e1s) (atI0 0 rfl rfl) ?_
      walk_at "g"
      refine s_i (by omega) ?_
      walk_at "g"
      refine s_ite (fun c => ?_) (fun c => ?_)
      · have hdv : dv o (r, q, b) = true := beq_iff_eq.mpr (by show o % q = 0; omega)
        rw [if_pos hdv] at hsn
        walk_at "g"
        refine s_ixT (SqT.of e1s) (atI0 0 rfl rfl) ?_
        walk_at "g"
        refine ⟨o, q, rfl, o0, by omega, q2', by omega, ?_⟩
        walk_at "g"
        refine s_ixT (SqT.of e1s) (atI0 0 rfl rfl) ?_
        walk_at "g"
        refine s_i (divW (by omega) (by omega)) ?_
        walk_at "g"
        refine ⟨p, a, o / q, by rw [Int.natCast_ediv]; rfl, by omega, by omega, ?_⟩
        walk_at "g"
        refine mkT (by simp) fun t3 H4 nt3 et3 s5 => ?_
        refine ⟨ys, s5 _ _ hys, small1000 (by omega), same_upd' (s2.trans s5) hD, ys ++ [.ref t3], upd_same, ?_⟩
        rw [hsn]
        exact TupsIn.app hys ty s5 nt3 et3
      · have hdv : ¬ dv o (r, q, b) = true := fun z => by
          have h9 : o % q = 0 := beq_iff_eq.mp z
          omega
        rw [if_neg hdv, List.append_nil] at hsn
        walk_at "g"
        exact ⟨s2, ys, hys, by rw [hsn]; exact ty⟩
    · rintro H2 ⟨s2, ys, hys, ty⟩
      rw [pr.length, List.take_length] at ty
      walk_at "g"
      refine s_tupL (SqL.of hys) fun v nv => ?_
      have S4 : Same H2 (upd H2 v (.tup ys)) := same_upd nv
      have e4 : upd H2 v (.tup ys) v = some (.tup ys) := upd_same
      generalize upd H2 v (.tup ys) = H4 at S4 e4 ⊢
      walk_at "g"
      refine mkT (by simp) fun t H5 nt et s5 => ?_
      walk_at "g"
      exact k t H5 (s2.trans (S4.trans s5)) ⟨v, ys, et, s5 _ _ e4, (ty.same S4).same s5⟩

/-- _law_divisor of two numbers from 0 on: their greatest divisor -/
def sp__law_divisor : Sp := fun vs H Q _ => ∃ a b : Nat, vs = [.int a, .int b] ∧ Q (.int (Nat.gcd a b)) H
theorem ok__law_divisor (T : Txt K mg) : FnOk P w K mg base CX0 1 (He.ga K "_law_divisor") (fd__law_divisor T) ["_law_one", "_law_other"] sp__law_divisor := by
  refine (F__law_divisor T).ok sc__law_divisor (fun vs H Q E h => ?_) (fun cdv A outer s H vs Q E hr h => ⟨_, PSs.nox (pss_cons (ps_while PassesOwn.never (pt_cmpR op_gt (pv 1) pe_int (nomark _)) (pss_one (ps_par (i := 0) (j := 1) rfl sc__law_divisor.nd rfl rfl (by decide) rfl rfl (pa_cons (pv 1) (pa_cons (pe_op op_mod (pv 0) (pv 1)) pa_nil)) rfl)))
      (pss_one (ps_ret (pv 0)))), ?_⟩)
  · obtain ⟨a, b, rfl, _⟩ := h; rfl
  · obtain ⟨a, b, rfl, k⟩ := h
    walk_at "g"
    refine s_while (fun σ H' => H' = H ∧ ∃ c d : Nat, σ = [some (.int c), some (.int d)] ∧ Nat.gcd c d = Nat.gcd a b) (fun σ _ => (iv σ 1).natAbs) ⟨rfl, a, b, rfl, rfl⟩ ?_
    rintro σ H' ⟨rfl, c, d, rfl, e⟩
    walk_at "g"
    refine s_ite (fun hd => ?_) (fun hd => ?_)
    · walk_at "g"
      refine s_i (by omega) ?_
      walk_at "g"
      have dp : 0 < d := by omega
      have ml := Nat.mod_lt c dp
      refine ⟨⟨rfl, d, c % d, rfl, ?_⟩, ?_⟩
      · rw [Nat.gcd_comm, ← Nat.gcd_rec, Nat.gcd_comm]; exact e
      · show ((c : Int) % d).natAbs < (d : Int).natAbs
        omega
    · have z : d = 0 := by omega
      subst z
      walk_at "g"
      rw [Nat.gcd_zero_right] at e
      rw [e]
      exact k

/-- rows of papers: each a paper, a number, and more -/
def RowsAt (m : Nat) (H : Hp) (u : Addr) (rl : List ((Addr × Nat × Nat) × List V)) : Prop := ∃ xs, H u = some (.tup xs) ∧ Paired (fun x r => ∃ t, x = V.ref t ∧ H t = some (.tup ([.ref r.1.1, .int (r.1.2.2 : Nat)] ++ r.2)) ∧ PaperAt m H r.1.1 r.1.2.1) xs rl
theorem RowsAt.same {m : Nat} {H H' : Hp} {u : Addr} {rl : List ((Addr × Nat × Nat) × List V)} (h : RowsAt m H u rl) (s : Same H H') : RowsAt m H' u rl := by
  obtain ⟨xs, e, pr⟩ := h
  exact ⟨xs, s _ _ e, paired_mono (fun _ _ ⟨t, e, h1, h2⟩ => ⟨t, e, s _ _ h1, h2.same s⟩) pr⟩
theorem PartsAt.rows {m : Nat} {H : Hp} {u : Addr} {pl : List (Addr × Nat × Nat)} (h : PartsAt m H u pl) : RowsAt m H u (pl.map fun r => (r, [])) := by
  obtain ⟨xs, e, pr⟩ := h
  refine ⟨xs, e, ?_⟩
  have key : ∀ {xs : List V} {pl : List (Addr × Nat × Nat)}, Paired (fun x r => ∃ t, x = V.ref t ∧ H t = some (.tup [.ref r.1, .int (r.2.2 : Nat)]) ∧ PaperAt m H r.1 r.2.1) xs pl → Paired (fun x r => ∃ t, x = V.ref t ∧ H t = some (.tup ([.ref r.1.1, .int (r.1.2.2 : Nat)] ++ r.2)) ∧ PaperAt m H r.1.1 r.1.2.1) xs (pl.map fun r => (r, ([] : List V))) := by
    intro xs pl pr
    induction pr with
    | nil => exact .nil
    | cons f _ ih => exact .cons f ih
  exact key pr
/-- is_whole(thing, least) of a number -/
def sp_is_whole : Sp := fun vs H Q _ => ∃ i l : Int, vs = [.int i, .int l] ∧ Q (.bl (decide (l ≤ i))) H
theorem ok_is_whole (T : Txt K mg) : FnOk P w K mg base CX0 1 (He.ga K "is_whole") (fd_is_whole T) ["thing", "least"] sp_is_whole := by
  refine (F_is_whole T).ok sc_is_whole (fun vs H Q E h => ?_) (fun cdv A outer s H vs Q E hr h => ⟨_, PSs.nox (pss_one (ps_ret (pe_and (pe_callB call_isi rfl (T.fr (T.c.fact 35 rfl)) boot_isinstance (pa_cons (pv 0) (pa_cons (pe_bltn (v := .ty "int") rfl (T.fr (T.c.fact 36 rfl)) boot_int rfl) pa_nil))) (pe_and (pe_not (pe_callB call_isi rfl (T.fr (T.c.fact 35 rfl)) boot_isinstance (pa_cons (pv 0) (pa_cons (pe_bltn (v := .ty "bool") rfl (T.fr (T.c.fact 37 rfl)) boot_bool rfl) pa_nil)))) (pe_one (pe_cmpR op_ge (pv 0) (pv 1) (nomark _))))))), ?_⟩)
  · obtain ⟨i, l, rfl, _⟩ := h; rfl
  · obtain ⟨i, l, rfl, k⟩ := h
    walk_at "g"
    exact k
/-- is_row_of(thing, many) of a tuple or a list -/
def sp_is_row_of : Sp := fun vs H Q _ => ∃ (t : Addr) (k : Int) (xs : List V), vs = [.ref t, .int k] ∧ (H t = some (.tup xs) ∧ Q (.bl (decide ((xs.length : Int) = k))) H ∨ H t = some (.lst xs) ∧ Q (.bl false) H)
theorem ok_is_row_of (T : Txt K mg) : FnOk P w K mg base CX0 1 (He.ga K "is_row_of") (fd_is_row_of T) ["thing", "many"] sp_is_row_of := by
  refine (F_is_row_of T).ok sc_is_row_of (fun vs H Q E h => ?_) (fun cdv A outer s H vs Q E hr h => ⟨_, PSs.nox (pss_one (ps_ret (pe_and (pe_callB call_isi rfl (T.fr (T.c.fact 35 rfl)) boot_isinstance (pa_cons (pv 0) (pa_cons (pe_bltn (v := .ty "tuple") rfl (T.fr (T.c.fact 34 rfl)) boot_tuple rfl) pa_nil))) (pe_one (pe_cmpR op_eq (pe_callB callLen rfl (T.fr (T.c.fact 38 rfl)) boot_len (pa_cons (pv 0) pa_nil)) (pv 1) (nomark _)))))), ?_⟩)
  · obtain ⟨t, k, xs, rfl, _⟩ := h; rfl
  · obtain ⟨t, k, xs, rfl, ⟨ht, q⟩ | ⟨ht, q⟩⟩ := h
    · walk_at "g"
      refine s_isi (.tup ht) kb_tt ?_
      walk_at "g"
      refine s_lenT (SqT.of ht) ?_
      walk_at "g"
      exact q
    · walk_at "g"
      refine s_isi (.lst ht) kb_lt ?_
      walk_at "g"
      exact q
/-- comes_to(things, n) -/
def sp_comes_to : Sp := fun vs H Q _ => ∃ (m : Nat) (u : Addr) (rl : List ((Addr × Nat × Nat) × List V)) (n : Int), vs = [.ref u, .int n] ∧ RowsAt m H u rl ∧ n.natAbs < 2 ^ 900 ∧ (∀ r ∈ rl, 2 ≤ r.1.2.1 ∧ r.1.2.1 < 2 ^ 300 ∧ r.1.2.2 < 2 ^ 60) ∧ ∀ b : Bool, (b = true ↔ n = (M.prodL (rl.map fun r => r.1.2) : Nat)) → Q (.bl b) H
theorem ok_comes_to (T : Txt K mg) : FnOk P w K mg base CX0 1 (He.ga K "comes_to") (fd_comes_to T) ["things", "n"] sp_comes_to := by
  refine (F_comes_to T).ok sc_comes_to (fun vs H Q E h => ?_) (fun cdv A outer s H vs Q E hr h => ⟨_, PSs.nox (pss_cons (ps_for PassesOwn.never rfl (pi_tup (pv 0)) (pg_name (i := 2) sc_comes_to.nd rfl (Or.inl rfl)) (pss_one (ps_for PassesOwn.never rfl (pi_range1 rfl (T.fr (T.c.fact 33 rfl)) (pa_cons (pe_ix ix_seq (pv 2) pe_int (fun _ _ => rfl)) pa_nil)) (pg_name (i := 3) sc_comes_to.nd rfl (Or.inl rfl)) (pss_cons (ps_if (PW.pt (pw_or (pt_cmpR op_lt (pv 1) pe_int (nomark _)) (pw_or1 (pt_cmpR op_ne (pe_op op_mod (pv 1) (pe_ix ix_seq (pe_ix ix_seq (pv 2) pe_int (fun _ _ => rfl)) pe_int (fun _ _ => rfl))) pe_int (nomark _))))) (pss_one (ps_ret pe_bl)) pss_nil)
      (pss_one (ps_set (i := 1) sc_comes_to.nd rfl (Or.inl rfl) (pe_op op_fdivW (pv 1) (pe_ix ix_seq (pe_ix ix_seq (pv 2) pe_int (fun _ _ => rfl)) pe_int (fun _ _ => rfl)))))))))
      (pss_one (ps_ret (pe_cmpR op_eq (pv 1) pe_int (nomark _))))), ?_⟩)
  · obtain ⟨m, u, rl, n, rfl, _⟩ := h; rfl
  · obtain ⟨m, u, rl, n0, rfl, ⟨xs, eu, pr⟩, hnb, hr, k⟩ := h
    have pos : ∀ i, 0 < M.prodL ((rl.drop i).map fun r => r.1.2) := fun i => prodL_pos0 fun x hx => by
      obtain ⟨r, hr', rfl⟩ := List.mem_map.mp hx
      have := (hr r (List.mem_of_mem_drop hr')).1
      omega
    walk_at "g"
    refine ⟨⟨_, SqT.of eu⟩, ?_⟩
    refine for_tup (fun i σ H' => H' = H ∧ ∃ (n : Int) (v1 v2 : Option V), σ = [some (.ref u), some (.int n), v1, v2] ∧ n.natAbs < 2 ^ 900 ∧ (n0 = (M.prodL (rl.map fun r => r.1.2) : Nat) ↔ n = (M.prodL ((rl.drop i).map fun r => r.1.2) : Nat))) ⟨rfl, n0, none, none, rfl, hnb, by rw [List.drop_zero]⟩ (fun i σ H' _ I => by rw [I.1]; exact SqT.of eu) ?_ ?_
    · rintro i x σ H' hi ⟨rfl, n, v1, v2, rfl, nb, inv⟩
      obtain ⟨⟨⟨s, q, b⟩, rest⟩, hab, t, rfl, et, hPs⟩ := pget pr hi
      obtain ⟨f', u', e1'⟩ := hPs.first
      have e1s : H' s = some (.tup [.int (q : Nat), .int (f' : Nat), .ref u']) := e1'
      have hq := hr _ (List.mem_of_getElem? hab)
      have q2 : 2 ≤ q := hq.1
      have qb : q < 2 ^ 300 := hq.2.1
      have bb : b < 2 ^ 60 := hq.2.2
      have hil : i < rl.length := (List.getElem?_eq_some_iff.mp hab).1
      have hd : rl.drop i = ((s, q, b), rest) :: rl.drop (i + 1) := by
        rw [List.drop_eq_getElem_cons hil]
        have := (List.getElem?_eq_some_iff.mp hab).2
        rw [this]
      rw [hd] at inv
      have hR0 := pos (i + 1)
      have e0 : M.prodL ((((s, q, b), rest) :: rl.drop (i + 1)).map fun r => r.1.2) = q ^ b * M.prodL ((rl.drop (i + 1)).map fun r => r.1.2) := rfl
      rw [e0] at inv
      generalize M.prodL ((rl.drop (i + 1)).map fun r => r.1.2) = R at inv hR0 ⊢
      walk_at "g"
      refine s_ixT (SqT.of et) (atI0 1 rfl rfl) ?_
      walk_at "g"
      refine mkR1 b (by show (b : Int).toNat = b; omega) (by show -(2 ^ 62) ≤ (b : Int); omega) (by show (b : Int) < 2 ^ 62; omega) ?_
      refine for_range (n := b) (fun j σ H2 => H2 = H' ∧ ∃ (n : Int) (v2 : Option V), σ = [some (.ref u), some (.int n), some (.ref t), v2] ∧ n.natAbs < 2 ^ 900 ∧ (n0 = (M.prodL (rl.map fun r => r.1.2) : Nat) ↔ n = ((q ^ (b - j) * R : Nat) : Int))) ⟨rfl, n, _, rfl, nb, by rw [Nat.sub_zero]; exact inv⟩ ?_ ?_
      · rintro j σ H2 hj ⟨rfl, n, v2, rfl, nb, inv⟩
        obtain ⟨c, hc⟩ : ∃ c, b - j = c + 1 := ⟨b - j - 1, by omega⟩
        have hc2 : b - (j + 1) = c := by omega
        rw [hc] at inv
        have ep : q ^ (c + 1) * R = q * (q ^ c * R) := by rw [Nat.pow_succ]; grind
        rw [ep] at inv
        have hpos : 0 < q * (q ^ c * R) := Nat.mul_pos (by omega) (Nat.mul_pos (Nat.pow_pos (by omega)) hR0)
        walk_at "g"
        refine s_ite (fun c1 => ?_) (fun c1 => ?_)
        · walk_at "g"
          refine k false ⟨fun z => (nomatch z), fun z => ?_⟩
          have := inv.mp z
          omega
        · walk_at "g"
          refine s_ixT (SqT.of et) (atI0 0 rfl rfl) ?_
          walk_at "g"
          refine s_ixT (SqT.of e1s) (atI0 0 rfl rfl) ?_
          walk_at "g"
          refine s_i (by omega) ?_
          walk_at "g"
          refine s_iten (fun c2 => ?_) (fun c2 => ?_)
          · walk_at "g"
            refine k false ⟨fun z => (nomatch z), fun z => ?_⟩
            have := inv.mp z
            exact absurd (Int.emod_eq_zero_of_dvd (by rw [this]; exact Int.natCast_dvd_natCast.mpr (Nat.dvd_mul_right _ _))) c2
          · obtain ⟨n', rfl⟩ := Int.eq_ofNat_of_zero_le (show 0 ≤ n by omega)
            obtain ⟨d, rfl⟩ : q ∣ n' := Int.natCast_dvd_natCast.mp (Int.dvd_of_emod_eq_zero c2)
            have e3 : ((q * d : Nat) : Int) / (q : Int) = (d : Int) := by push_cast; exact Int.mul_ediv_cancel_left _ (by omega)
            have hdle : d ≤ q * d := Nat.le_mul_of_pos_left _ (by omega)
            walk_at "g"
            refine s_ixT (SqT.of et) (atI0 0 rfl rfl) ?_
            walk_at "g"
            refine s_ixT (SqT.of e1s) (atI0 0 rfl rfl) ?_
            walk_at "g"
            refine s_i (divW (by omega) (by omega)) ?_
            walk_at "g"
            rw [e3]
            refine ⟨rfl, (d : Int), _, rfl, by omega, ?_⟩
            rw [hc2, inv]
            constructor
            · intro z
              have z' : q * d = q * (q ^ c * R) := by omega
              have := Nat.eq_of_mul_eq_mul_left (show 0 < q by omega) z'
              omega
            · intro z
              have : d = q ^ c * R := by omega
              rw [this]
      · rintro σ H2 ⟨rfl, n, v2, rfl, nb, inv⟩
        rw [Nat.sub_self, Nat.pow_zero, Nat.one_mul] at inv
        walk_at "g"
        exact ⟨rfl, n, _, _, rfl, nb, inv⟩
    · rintro σ H' ⟨rfl, n, v1, v2, rfl, nb, inv⟩
      rw [pr.length, List.drop_length] at inv
      walk_at "g"
      refine k _ ?_
      rw [inv, decide_eq_true_iff]
      rfl
/-- a paper of p by any number a, its parts right -/
structure RawPap (n : Nat) (H : Hp) (t : Addr) (p : Nat) (a : Int) (u : Addr) (pl : List (Addr × Nat × Nat)) : Prop where
  at_ : H t = some (.tup [.int (p : Nat), .int a, .ref u])
  hp : M.Prime p
  hl : M.IsFac (p - 1) (facs pl)
  ps : PartsAt n H u pl
theorem Pap.raw {n : Nat} {H : Hp} {t : Addr} {p f : Nat} {u : Addr} {pl : List (Addr × Nat × Nat)} (h : Pap n H t p f u pl) : RawPap n H t p f u pl := ⟨h.at_, h.hp, h.hl, h.ps⟩
theorem RawPap.same {n : Nat} {H H' : Hp} {t : Addr} {p : Nat} {a : Int} {u : Addr} {pl : List (Addr × Nat × Nat)} (h : RawPap n H t p a u pl) (s : Same H H') : RawPap n H' t p a u pl := ⟨s _ _ h.at_, h.hp, h.hl, h.ps.same s⟩
/-- is_prime_paper(thing), of such a thing -/
def sp_is_prime_paper (n : Nat) : Sp := fun vs H Q _ => ∃ (m p : Nat) (a : Int) (t u : Addr) (pl : List (Addr × Nat × Nat)), n = m + 1 ∧ vs = [.ref t] ∧ RawPap m H t p a u pl ∧ p < 2 ^ 100 ∧ a.natAbs < 2 ^ 300 ∧
  ∀ (b : Bool) H', (b = true ↔ 1 ≤ a ∧ a < p ∧ M.Ord p a (p - 1)) → Same H H' → Q (.bl b) H'
/-- are_papers(things, many): true of right rows, false of a list -/
def sp_are_papers (n : Nat) : Sp := fun vs H Q _ => ∃ (u : Addr) (k : Int), vs = [.ref u, .int k] ∧ ((∃ rl, RowsAt n H u rl ∧ (∀ r ∈ rl, ((r.2.length : Int) + 2 = k) ∧ 1 ≤ r.1.2.2 ∧ 2 ≤ r.1.2.1 ∧ r.1.2.1 < 2 ^ 100) ∧ rl.Pairwise (fun a b => a.1.2.1 < b.1.2.1) ∧ ∀ H', Same H H' → Q (.bl true) H') ∨
  ∃ xs, H u = some (.lst xs) ∧ Q (.bl false) H)
/-- is_parting_paper(n, thing), of right parts -/
def sp_is_parting_paper (n : Nat) : Sp := fun vs H Q _ => ∃ (u : Addr) (k : Int) (pl : List (Addr × Nat × Nat)) (F : Nat), vs = [.int k, .ref u] ∧ PartsAt n H u pl ∧ M.IsFac F (facs pl) ∧ 0 < F ∧ F < 2 ^ 100 ∧ k.natAbs < 2 ^ 800 ∧ ∀ (b : Bool) H', (b = true ↔ k = F) → Same H H' → Q (.bl b) H'
theorem ok_arePapersS (T : Txt K mg) {n : Nat} (IH : FnOk P w K mg base CX0 (3 * n + 10) (He.ga K "is_prime_paper") (fd_is_prime_paper T) ["thing"] (sp_is_prime_paper n)) : FnOk P w K mg base CX0 (3 * n + 11) (He.ga K "are_papers") (fd_are_papers T) ["things", "many"] (sp_are_papers n) := by
  refine (F_are_papers T).ok sc_are_papers (fun vs H Q E h => ?_) (fun cdv A outer s H vs Q E hr h => ⟨_, PSs.nox (pss_cons (ps_if (pt_not (pt_val (pe_callB call_isi rfl (T.fr (T.c.fact 35 rfl)) boot_isinstance (pa_cons (pv 0) (pa_cons (pe_bltn (v := .ty "tuple") rfl (T.fr (T.c.fact 34 rfl)) boot_tuple rfl) pa_nil))))) (pss_one (ps_ret pe_bl)) pss_nil)
      (pss_cons (ps_set (i := 2) sc_are_papers.nd rfl (Or.inl rfl) pe_int)
      (pss_cons (ps_for PassesOwn.never rfl (pi_tup (pv 0)) (pg_name (i := 3) sc_are_papers.nd rfl (Or.inl rfl)) (pss_cons (ps_if (PW.pt (pw_or (pt_not (pt_val (pe_call (ok_is_row_of T) (hr.mono (by omega)) rfl (g_is_row_of T) (kp_is_row_of T) (B_is_row_of T) .nil pass0 (pa_cons (pv 3) (pa_cons (pv 1) pa_nil))))) (pw_or (pt_not (pt_val (pe_call (IH) (hr.mono (by omega)) rfl (g_is_prime_paper T) (kp_is_prime_paper T) (B_is_prime_paper T) .nil pass0 (pa_cons (pe_ix ix_seq (pv 3) pe_int (fun _ _ => rfl)) pa_nil)))) (pw_or1 (pt_not (pt_val (pe_call (ok_is_whole T) (hr.mono (by omega)) rfl (g_is_whole T) (kp_is_whole T) (B_is_whole T) .nil pass0 (pa_cons (pe_ix ix_seq (pv 3) pe_int (fun _ _ => rfl)) (pa_cons pe_int pa_nil))))))))) (pss_one (ps_ret pe_bl)) pss_nil)
      (pss_cons (ps_if (pt_cmpR op_le (pe_ix ix_seq (pe_ix ix_seq (pv 3) pe_int (fun _ _ => rfl)) pe_int (fun _ _ => rfl)) (pv 2) (nomark _)) (pss_one (ps_ret pe_bl)) pss_nil)
      (pss_one (ps_set (i := 2) sc_are_papers.nd rfl (Or.inl rfl) (pe_ix ix_seq (pe_ix ix_seq (pv 3) pe_int (fun _ _ => rfl)) pe_int (fun _ _ => rfl)))))))
      (pss_one (ps_ret pe_bl))))), ?_⟩)
  · obtain ⟨u, k, rfl, _⟩ := h; rfl
  · obtain ⟨u, k, rfl, ⟨rl, ⟨xs, eu, pr⟩, hr, srt, q⟩ | ⟨xs, eu, q⟩⟩ := h
    · walk_at "g"
      refine s_isi (.tup eu) kb_tt ?_
      walk_at "g"
      refine ⟨⟨_, SqT.of eu⟩, ?_⟩
      refine for_tup (fun i σ H' => Same H H' ∧ ∃ (l : Nat) (v : Option V), σ = [some (.ref u), some (.int k), some (.int l), v] ∧ ∀ r ∈ rl.drop i, l < r.1.2.1) ⟨Same.refl _, 1, none, rfl, fun r hr' => by have := (hr r (List.mem_of_mem_drop hr')).2.2.1; omega⟩ (fun i σ H' _ I => SqT.of (I.1 _ _ eu)) ?_ ?_
      · rintro i x σ H' hi ⟨hs, l, v, rfl, hl⟩
        obtain ⟨⟨⟨s, p, b⟩, rest⟩, hab, t, rfl, et, hPs⟩ := pget pr hi
        have hrr := hr _ (List.mem_of_getElem? hab)
        have h1 : (rest.length : Int) + 2 = k := hrr.1
        have h2 : 1 ≤ b := hrr.2.1
        have h3 : p < 2 ^ 100 := hrr.2.2.2
        have hPs' : PaperAt n H s p := hPs
        obtain ⟨m, f, u', pl', en, hPl⟩ := hPs'.pap'
        have hil : i < rl.length := (List.getElem?_eq_some_iff.mp hab).1
        have hd : rl.drop i = ((s, p, b), rest) :: rl.drop (i + 1) := by
          rw [List.drop_eq_getElem_cons hil]
          have := (List.getElem?_eq_some_iff.mp hab).2
          rw [this]
        have hlp : l < p := hl ((s, p, b), rest) (by rw [hd]; simp)
        have ets := hs _ _ et
        have hP2 := hPl.same hs
        have hf0 := hP2.hf.f0
        have hf1 := hP2.hf.f1
        walk_at "g"
        refine ⟨t, k, _, rfl, .inl ⟨ets, ?_⟩⟩
        rw [decide_eq_true (by rw [List.length_append]; simp; omega)]
        walk_at "g"
        refine s_ixT (SqT.of ets) (atI0 0 rfl rfl) ?_
        walk_at "g"
        refine ⟨m, p, f, s, u', pl', en, rfl, hP2.raw, h3, by omega, fun bb H2 hb s2 => ?_⟩
        have eb : bb = true := hb.mpr ⟨by omega, by omega, hP2.hf.full⟩
        subst eb
        have e2 := s2 _ _ ets
        have e3 := s2 _ _ hP2.at_
        walk_at "g"
        refine s_ixT (SqT.of e2) (atI0 1 rfl rfl) ?_
        walk_at "g"
        refine ⟨b, 1, rfl, ?_⟩
        rw [decide_eq_true (by omega)]
        walk_at "g"
        refine s_ixT (SqT.of e2) (atI0 0 rfl rfl) ?_
        walk_at "g"
        refine s_ixT (SqT.of e3) (atI0 0 rfl rfl) ?_
        walk_at "g"
        refine s_itN (by omega) ?_
        walk_at "g"
        refine s_ixT (SqT.of e2) (atI0 0 rfl rfl) ?_
        walk_at "g"
        refine s_ixT (SqT.of e3) (atI0 0 rfl rfl) ?_
        walk_at "g"
        refine ⟨hs.trans s2, p, _, rfl, fun r hr' => ?_⟩
        have hso := srt
        rw [← List.take_append_drop i rl, hd] at hso
        exact (List.pairwise_cons.mp (List.pairwise_append.mp hso).2.1).1 r hr'
      · rintro σ H' ⟨hs, l, v, rfl, hl⟩
        walk_at "g"
        exact q H' hs
    · walk_at "g"
      refine s_isi (.lst eu) kb_lt ?_
      walk_at "g"
      exact q
theorem ok_partingS (T : Txt K mg) {n : Nat} (IH : FnOk P w K mg base CX0 (3 * n + 11) (He.ga K "are_papers") (fd_are_papers T) ["things", "many"] (sp_are_papers n)) : FnOk P w K mg base CX0 (3 * n + 12) (He.ga K "is_parting_paper") (fd_is_parting_paper T) ["n", "thing"] (sp_is_parting_paper n) := by
  refine (F_is_parting_paper T).ok sc_is_parting_paper (fun vs H Q E h => ?_) (fun cdv A outer s H vs Q E hr h => ⟨_, PSs.nox (pss_one (ps_ret (pe_and (pe_cmpR op_ge (pv 0) pe_int (nomark _)) (pe_and (pe_call (IH) (hr.mono (by omega)) rfl (g_are_papers T) (kp_are_papers T) (B_are_papers T) .nil pass0 (pa_cons (pv 1) (pa_cons pe_int pa_nil))) (pe_one (pe_call (ok_comes_to T) (hr.mono (by omega)) rfl (g_comes_to T) (kp_comes_to T) (B_comes_to T) .nil pass0 (pa_cons (pv 1) (pa_cons (pv 0) pa_nil)))))))), ?_⟩)
  · obtain ⟨u, k, pl, F, rfl, _⟩ := h; rfl
  · obtain ⟨u, k, pl, F, rfl, hP, hF, F0, Fb, kb, q⟩ := h
    have hmem : ∀ r ∈ pl.map (fun r => (r, ([] : List V))), ∃ x ∈ pl, r = (x, []) := fun r hr => by
      obtain ⟨x, hx, rfl⟩ := List.mem_map.mp hr
      exact ⟨x, hx, rfl⟩
    walk_at "g"
    refine s_ite (fun c => ?_) (fun c => ?_)
    · walk_at "g"
      refine ⟨u, 2, rfl, .inl ⟨_, hP.rows, fun r hr => ?_, ?_, fun H1 s1 => ?_⟩⟩
      · obtain ⟨x, hx, rfl⟩ := hmem r hr
        have h1 := hF.primes _ (facs_mem hx)
        have h2 := Nat.le_of_dvd F0 (M.fac_dvd hF (facs_mem hx))
        exact ⟨by simp, h1.2, h1.1.1, by show x.2.1 < _; omega⟩
      · have hs := hF.sorted
        unfold facs at hs
        rw [List.pairwise_map] at hs ⊢
        exact hs
      · walk_at "g"
        refine ⟨n, u, _, k, rfl, (hP.same s1).rows, by omega, fun r hr => ?_, fun b hb => ?_⟩
        · obtain ⟨x, hx, rfl⟩ := hmem r hr
          have h1 := hF.primes _ (facs_mem hx)
          have h2 := Nat.le_of_dvd F0 (M.fac_dvd hF (facs_mem hx))
          exact ⟨h1.1.1, by show x.2.1 < _; omega, fac_many hF F0 (facs_mem hx) (by omega)⟩
        · refine q b H1 (hb.trans ?_) s1
          rw [List.map_map]
          have : (List.map ((fun r : (Addr × Nat × Nat) × List V => r.1.2) ∘ fun r => (r, [])) pl) = facs pl := rfl
          rw [this, hF.prod]
    · walk_at "g"
      exact q false H ⟨fun z => (nomatch z), fun z => by omega⟩ (Same.refl _)
theorem ok_primePaperS (T : Txt K mg) {n : Nat} (IH : FnOk P w K mg base CX0 (3 * n + 12) (He.ga K "is_parting_paper") (fd_is_parting_paper T) ["n", "thing"] (sp_is_parting_paper n)) : FnOk P w K mg base CX0 (3 * n + 13) (He.ga K "is_prime_paper") (fd_is_prime_paper T) ["thing"] (sp_is_prime_paper (n + 1)) := by
  refine (F_is_prime_paper T).ok sc_is_prime_paper (fun vs H Q E h => ?_) (fun cdv A outer s H vs Q E hr h => ⟨_, PSs.nox (pss_cons (ps_if (PW.pt (pw_or (pt_not (pt_val (pe_call (ok_is_row_of T) (hr.mono (by omega)) rfl (g_is_row_of T) (kp_is_row_of T) (B_is_row_of T) .nil pass0 (pa_cons (pv 0) (pa_cons pe_int pa_nil))))) (pw_or (pt_not (pt_val (pe_call (ok_is_whole T) (hr.mono (by omega)) rfl (g_is_whole T) (kp_is_whole T) (B_is_whole T) .nil pass0 (pa_cons (pe_ix ix_seq (pv 0) pe_int (fun _ _ => rfl)) (pa_cons pe_int pa_nil))))) (pw_or1 (pt_not (pt_val (pe_call (ok_is_whole T) (hr.mono (by omega)) rfl (g_is_whole T) (kp_is_whole T) (B_is_whole T) .nil pass0 (pa_cons (pe_ix ix_seq (pv 0) pe_int (fun _ _ => rfl)) (pa_cons pe_int pa_nil))))))))) (pss_one (ps_ret pe_bl)) pss_nil)
      (pss_cons (ps_asg (pv 0) (pg_tup rfl (pgs_cons (pg_name (i := 1) sc_is_prime_paper.nd rfl (Or.inr rfl)) (pgs_cons (pg_name (i := 2) sc_is_prime_paper.nd rfl (Or.inr rfl)) (pgs_cons (pg_name (i := 3) sc_is_prime_paper.nd rfl (Or.inl rfl)) pgs_nil)))))
      (pss_cons (ps_if (PW.pt (pw_or (pt_cmpR op_ge (pv 2) (pv 1) (nomark _)) (pw_or (pt_not (pt_val (pe_call (IH) (hr.mono (by omega)) rfl (g_is_parting_paper T) (kp_is_parting_paper T) (B_is_parting_paper T) .nil pass0 (pa_cons (pe_op op_sub (pv 1) pe_int) (pa_cons (pv 3) pa_nil))))) (pw_or1 (pt_cmpR op_ne (pe_call (ok_power T) (hr.mono (by omega)) rfl (g_power T) (kp_power T) (B_power T) .nil passL (pa_cons (pv 1) (pa_cons (pv 2) (pa_cons (pe_op op_sub (pv 1) pe_int) pa_nil)))) pe_int (nomark _)))))) (pss_one (ps_ret pe_bl)) pss_nil)
      (pss_one (ps_ret (pe_not (pe_callB (cr_any rfl) rfl (T.fr (T.c.fact 39 rfl)) boot_any (pa_cons (pe_lc (own := [("part", 4)]) (tt := tYes) rfl sc_is_prime_paper.nd (pi_tup (pv 3)) (blkOk_by (N := N_is_prime_paper) (sc := defScope s_is_prime_paper) (by decide +kernel)) (fun _ _ _ _ _ => (pg_name (i := 4) sc_is_prime_paper.nd rfl (Or.inl rfl))) (fun _ _ _ _ _ => pts_nil) (fun _ _ _ _ _ => (pe_cmpR op_eq (pe_call (ok_power T) (hr.mono (by omega)) rfl (g_power T) (kp_power T) (B_power T) .nil passL (pa_cons (pv 1) (pa_cons (pv 2) (pa_cons (pe_op op_fdivW (pe_op op_sub (pv 1) pe_int) (pe_ix (R.ix_seqK K rfl) (pe_ix (R.ix_seqK K rfl) (pv 4) pe_int (fun _ _ => rfl)) pe_int (fun _ _ => rfl))) pa_nil)))) pe_int (nomark _)))) pa_nil)))))))), ?_⟩)
  · obtain ⟨m, p, a, t, u, pl, _, rfl, _⟩ := h; rfl
  · obtain ⟨m, p, a, t, u, pl, en, rfl, hP, hpb, hab, q⟩ := h
    obtain rfl : n = m := by omega
    have hp := hP.hp
    have hp2 := hp.1
    have e1 : (p : Int) - 1 = ((p - 1 : Nat) : Int) := by omega
    have hpl := pl_len hP.hl (by omega) (by omega)
    have ht := hP.at_
    walk_at "g"
    refine ⟨t, 3, _, rfl, .inl ⟨ht, ?_⟩⟩
    rw [decide_eq_true (show (([V.int (p : Nat), V.int a, V.ref u].length : Nat) : Int) = 3 from rfl)]
    walk_at "g"
    refine s_ixT (SqT.of ht) (atI0 0 rfl rfl) ?_
    walk_at "g"
    refine ⟨p, 2, rfl, ?_⟩
    rw [decide_eq_true (by omega)]
    walk_at "g"
    refine s_ixT (SqT.of ht) (atI0 1 rfl rfl) ?_
    walk_at "g"
    refine ⟨a, 1, rfl, ?_⟩
    walk_at "g"
    refine s_iten (fun c => ?_) (fun c => ?_)
    · walk_at "g"
      exact q false H ⟨fun z => (nomatch z), fun z => absurd z.1 c⟩ (Same.refl _)
    walk_at "g"
    refine s_gtup (SqT.of ht) rfl ?_
    walk_at "g"
    refine s_ite (fun c2 => ?_) (fun c2 => ?_)
    · walk_at "g"
      exact q false H ⟨fun z => (nomatch z), fun z => by omega⟩ (Same.refl _)
    have hun : M.un p a := M.un_small (by omega) (by omega)
    have one : M.pw p a (p - 1) = 1 := (M.pw_one_iff hp2).mpr (M.fermat hp hun)
    have fi := M.full_iff hp hun hP.hl
    walk_at "g"
    refine ⟨u, (p : Int) - 1, pl, p - 1, rfl, hP.ps, hP.hl, by omega, by omega, by omega, fun b H1 hb s1 => ?_⟩
    have eb : b = true := hb.mpr (by omega)
    subst eb
    walk_at "g"
    refine pos_power (m := p - 1) e1 (by omega) (by omega) ?_
    walk_at "g"
    refine s_itnP one ?_
    walk_at "g"
    refine s_lc ?_
    walk_at "g"
    obtain ⟨xs, e2, pr⟩ := hP.ps.same s1
    refine ⟨⟨_, SqT.of e2⟩, fun D hD => ?_⟩
    refine lc_tup (fun i H3 => Same H1 H3 ∧ H3 D = some (.lst (((pl.take i).map fun r => decide (M.pw p a ((p - 1) / r.2.1) = 1)).map V.bl))) ⟨same_upd hD, upd_same⟩ (fun i H3 _ I => SqT.of (I.1 _ _ e2)) ?_ ?_
    · rintro i x H3 hi ⟨s3, hb3⟩
      obtain ⟨⟨r, c, b⟩, hab', tx, rfl, ex, hPs⟩ := pget pr hi
      obtain ⟨f', u', e1'⟩ := hPs.first
      have e1s : H3 r = some (.tup [.int (c : Nat), .int (f' : Nat), .ref u']) := s3 _ _ e1'
      have hmem := facs_mem (List.mem_of_getElem? hab')
      have c2' : 2 ≤ c := (hP.hl.primes _ hmem).1.1
      have cb' : c ≤ p - 1 := Nat.le_of_dvd (by omega) (M.fac_dvd hP.hl hmem)
      walk_at "g"
      refine ⟨rfl, ?_⟩
      walk_at "g"
      refine s_ixT (SqT.of (s3 _ _ ex)) (atI0 0 rfl rfl) ?_
      walk_at "g"
      refine s_ixT (SqT.of e1s) (atI0 0 rfl rfl) ?_
      walk_at "g"
      refine s_i (divW (by omega) (by omega)) ?_
      walk_at "g"
      refine pos_power (m := (p - 1) / c) (by rw [e1]; exact (Int.natCast_ediv _ _).symm) (by omega) (by omega) ?_
      walk_at "g"
      refine ⟨_, hb3, small1000 (by rw [List.length_map, List.length_map, List.length_take]; omega), same_upd' s3 hD, ?_⟩
      rw [upd_same, take_more hab', List.map_append, List.map_append]; rfl
    · rintro H3 ⟨s3, hb3⟩
      rw [pr.length, List.take_length] at hb3
      walk_at "g"
      refine ⟨D, _, rfl, SqL.of hb3, ?_⟩
      walk_at "g"
      refine q _ H3 ?_ (s1.trans s3)
      rw [Bool.not_eq_true', List.any_eq_false, fi]
      constructor
      · intro h
        refine ⟨by omega, by omega, fun x hx e => ?_⟩
        obtain ⟨r, hr, rfl⟩ := List.mem_map.mp hx
        exact h _ (List.mem_map.mpr ⟨r, hr, rfl⟩) (decide_eq_true e)
      · rintro ⟨_, _, h⟩ b hb4
        obtain ⟨r, hr, rfl⟩ := List.mem_map.mp hb4
        intro e
        exact h _ (facs_mem hr) (of_decide_eq_true e)
theorem primePaperN (T : Txt K mg) : ∀ n : Nat, FnOk P w K mg base CX0 (3 * n + 10) (He.ga K "is_prime_paper") (fd_is_prime_paper T) ["thing"] (sp_is_prime_paper n)
  | 0 => ⟨fun vs H Q E ⟨_, _, _, _, _, _, h, _⟩ => by omega, fun _ _ _ _ _ _ _ _ _ _ _ _ _ ⟨_, _, _, _, _, _, h, _⟩ => by omega⟩
  | n + 1 => ok_primePaperS T (ok_partingS T (ok_arePapersS T (primePaperN T n)))

theorem ok_is_prime_paper (T : Txt K mg) : FnOk P w K mg base CX0 127 (He.ga K "is_prime_paper") (fd_is_prime_paper T) ["thing"] (sp_is_prime_paper 39) := primePaperN T 39
theorem ok_are_papers (T : Txt K mg) : FnOk P w K mg base CX0 125 (He.ga K "are_papers") (fd_are_papers T) ["things", "many"] (sp_are_papers 38) := ok_arePapersS T (primePaperN T 38)
theorem ok_is_parting_paper (T : Txt K mg) : FnOk P w K mg base CX0 126 (He.ga K "is_parting_paper") (fd_is_parting_paper T) ["n", "thing"] (sp_is_parting_paper 38) := ok_partingS T (ok_arePapersS T (primePaperN T 38))

/-- a paper of a prime to 10 ** 9 is no deeper than 21 -/
theorem PaperAt.shrink : ∀ (m : Nat) {n : Nat} {H : Hp} {t : Addr} {p : Nat}, PaperAt n H t p → ¬ M.Chain (m + 1) p → PaperAt m H t p
  | _, 0, _, _, _, h, _ => h.elim
  | 0, n + 1, H, t, p, ⟨f, u, xs, l, e1, e2, hp, hf, hl, pr⟩, hc => absurd ⟨hp, .inl rfl⟩ hc
  | m + 1, n + 1, H, t, p, ⟨f, u, xs, l, e1, e2, hp, hf, hl, pr⟩, hc => by
    refine ⟨f, u, xs, l, e1, e2, hp, hf, hl, ?_⟩
    have key : ∀ (xs : List V) (l' : List (Nat × Nat)), (∀ x ∈ l', x ∈ l) → Paired (fun x r => ∃ a s, x = V.ref a ∧ H a = some (.tup [.ref s, .int (r.2 : Nat)]) ∧ PaperAt n H s r.1) xs l' → Paired (fun x r => ∃ a s, x = V.ref a ∧ H a = some (.tup [.ref s, .int (r.2 : Nat)]) ∧ PaperAt m H s r.1) xs l' := by
      intro xs l' hl' pr
      induction pr with
      | nil => exact .nil
      | cons f _ ih =>
        obtain ⟨a, s, e, h1, h2⟩ := f
        refine .cons ⟨a, s, e, h1, PaperAt.shrink m h2 fun c => hc ⟨hp, .inr ⟨_, M.fac_dvd hl (hl' _ (by simp)), c⟩⟩⟩ (ih fun x hx => hl' x (by simp [hx]))
    exact key xs l (fun _ h => h) pr
theorem PaperAt.to21 {n : Nat} {H : Hp} {t : Addr} {p : Nat} (h : PaperAt n H t p) (hp : p ≤ 1000000000) : PaperAt 21 H t p := h.shrink 21 (M.chain22 hp)
/-- two papers of one prime have the same data -/
theorem papers_data (K : PySem.W.Frag) : ∀ {n : Nat} {H H' : Hp} {s t : Addr} {p : Nat}, PaperAt n H s p → PaperAt n H' t p → ∃ d, Dp K H (.ref s) d ∧ Dp K H' (.ref t) d ∧ PyData.canLay0 d = true ∧ PyData.depth d + 1 ≤ 3 * n
  | 0, _, _, _, _, _, h, _ => h.elim
  | n + 1, H, H', s, t, p, ⟨f, u, xs, l, e1, e2, hp, hf, hl, pr⟩, ⟨f', u', xs', l', e1', e2', _, hf', hl', pr'⟩ => by
    obtain rfl := M.full_unique hf hf'
    obtain rfl := M.fac_unique hl hl'
    have key : ∀ (l : List (Nat × Nat)) (xs xs' : List V), Paired (fun x r => ∃ a s, x = V.ref a ∧ H a = some (.tup [.ref s, .int (r.2 : Nat)]) ∧ PaperAt n H s r.1) xs l → Paired (fun x r => ∃ a s, x = V.ref a ∧ H' a = some (.tup [.ref s, .int (r.2 : Nat)]) ∧ PaperAt n H' s r.1) xs' l →
        ∃ ds, DpAll K H xs ds ∧ DpAll K H' xs' ds ∧ ∀ d ∈ ds, PyData.canLay0 d = true ∧ PyData.depth d ≤ 3 * n := by
      intro l
      induction l with
      | nil =>
        intro xs xs' pr pr'
        cases pr; cases pr'
        exact ⟨[], .nil, .nil, by simp⟩
      | cons r l ih =>
        intro xs xs' pr pr'
        cases pr with
        | cons f pr =>
          cases pr' with
          | cons f' pr' =>
            obtain ⟨ds, h1, h2, h3⟩ := ih _ _ pr pr'
            obtain ⟨a, s, rfl, ha, hs⟩ := f
            obtain ⟨a', s', rfl, ha', hs'⟩ := f'
            obtain ⟨d, d1, d2, d3, d4⟩ := papers_data K hs hs'
            refine ⟨.tuple [d, .int (r.2 : Nat)] :: ds, .cons (.tup (SqT.of ha) (.cons d1 (.cons (.int _) .nil))) h1, .cons (.tup (SqT.of ha') (.cons d2 (.cons (.int _) .nil))) h2, fun x hx => ?_⟩
            rcases List.mem_cons.mp hx with z | z
            · subst z
              simp only [PyData.canLay0, PyData.canLayAll0, PyData.depth, PyData.depthAll, Bool.and_eq_true]
              refine ⟨⟨d3, by simp⟩, ?_⟩
              omega
            · exact h3 x z
    obtain ⟨ds, h1, h2, h3⟩ := key l xs xs' pr pr'
    refine ⟨.tuple [.int (p : Nat), .int (f : Nat), .tuple ds], .tup (SqT.of e1) (.cons (.int _) (.cons (.int _) (.cons (.tup (SqT.of e2) h1) .nil))), .tup (SqT.of e1') (.cons (.int _) (.cons (.int _) (.cons (.tup (SqT.of e2') h2) .nil))), ?_, ?_⟩
    · simp only [PyData.canLay0, PyData.canLayAll0, Bool.and_eq_true]
      exact ⟨trivial, trivial, layAll fun d hd => (h3 d hd).1, trivial⟩
    · have := depAll (n := 3 * n) fun d hd => (h3 d hd).2
      simp only [PyData.depth, PyData.depthAll]
      omega
theorem papers_eq (K : PySem.W.Frag) {n m : Nat} {H : Hp} {s t : Addr} {p : Nat} (h : PaperAt n H s p) (h' : PaperAt m H t p) (hp : p ≤ 1000000000) : ∃ d, Dp K H (.ref s) d ∧ Dp K H (.ref t) d ∧ SeqAt.shaped d = true := by
  obtain ⟨d, h1, h2, h3, h4⟩ := papers_data K (h.to21 hp) (h'.to21 hp)
  refine ⟨d, h1, h2, ?_⟩
  unfold SeqAt.shaped
  rw [h3, Bool.true_and]
  exact decide_eq_true (by omega)

theorem s_isBl {H : Hp} {Q : VK} {a b : Bool} (h : Q (.bl (decide (a = b))) H) : L2.rIsB (.bl a) (.bl b) H Q := ⟨a, b, rfl, rfl, h⟩

def restOf (r : (Addr × Nat × Nat) × List V) : Int := match r.2 with
  | [.int c] => c
  | _ => 0
/-- is_order_paper(n, a, thing), of right rows, of a list, of rows in a list -/
def sp_is_order_paper : Sp := fun vs H Q _ => ∃ (n : Nat) (a : Int) (t : Addr), vs = [.int n, .int a, .ref t] ∧ 2 ≤ n ∧ n < 2 ^ 800 ∧
  ((∃ xs, H t = some (.lst xs) ∧ Q (.bl false) H) ∨ (∃ (e : Int) (w : Addr) (xs : List V), H t = some (.tup [.int e, .ref w]) ∧ H w = some (.lst xs) ∧ Q (.bl false) H) ∨
  ∃ (e : Int) (w : Addr) (rl : List ((Addr × Nat × Nat) × List V)), H t = some (.tup [.int e, .ref w]) ∧ e.natAbs < 2 ^ 800 ∧ RowsAt 38 H w rl ∧ rl.length ≤ 400 ∧ (∀ r ∈ rl, (∃ c : Int, r.2 = [.int c]) ∧ 1 ≤ r.1.2.2 ∧ r.1.2.2 < 2 ^ 60 ∧ 2 ≤ r.1.2.1 ∧ r.1.2.1 < 2 ^ 100) ∧ rl.Pairwise (fun a b => a.1.2.1 < b.1.2.1) ∧
    ∀ (b : Bool) H', (b = true ↔ e = (M.prodL (rl.map fun r => r.1.2) : Nat) ∧ M.pw n a e.toNat = 1 ∧ ∀ r ∈ rl, restOf r = M.pw n a (e.toNat / r.1.2.1) ∧ restOf r ≠ 1) → Same H H' → Q (.bl b) H')
theorem ok_is_order_paper (T : Txt K mg) : FnOk P w K mg base CX0 126 (He.ga K "is_order_paper") (fd_is_order_paper T) ["n", "a", "thing"] sp_is_order_paper := by
  refine (F_is_order_paper T).ok sc_is_order_paper (fun vs H Q E h => ?_) (fun cdv A outer s H vs Q E hr h => ⟨_, PSs.nox (pss_cons (ps_if (PW.pt (pw_or (pt_not (pt_val (pe_call (ok_is_row_of T) (hr.mono (by decide)) rfl (g_is_row_of T) (kp_is_row_of T) (B_is_row_of T) .nil pass0 (pa_cons (pv 2) (pa_cons pe_int pa_nil))))) (pw_or (pt_not (pt_val (pe_call (ok_is_whole T) (hr.mono (by decide)) rfl (g_is_whole T) (kp_is_whole T) (B_is_whole T) .nil pass0 (pa_cons (pe_ix ix_seq (pv 2) pe_int (fun _ _ => rfl)) (pa_cons pe_int pa_nil))))) (pw_or1 (pt_not (pt_val (pe_call (ok_are_papers T) (hr.mono (by decide)) rfl (g_are_papers T) (kp_are_papers T) (B_are_papers T) .nil pass0 (pa_cons (pe_ix ix_seq (pv 2) pe_int (fun _ _ => rfl)) (pa_cons pe_int pa_nil))))))))) (pss_one (ps_ret pe_bl)) pss_nil)
      (pss_cons (ps_asg (pv 2) (pg_tup rfl (pgs_cons (pg_name (i := 3) sc_is_order_paper.nd rfl (Or.inl rfl)) (pgs_cons (pg_name (i := 4) sc_is_order_paper.nd rfl (Or.inl rfl)) pgs_nil))))
      (pss_cons (ps_if (PW.pt (pw_or (pt_not (pt_val (pe_call (ok_comes_to T) (hr.mono (by decide)) rfl (g_comes_to T) (kp_comes_to T) (B_comes_to T) .nil pass0 (pa_cons (pv 4) (pa_cons (pv 3) pa_nil))))) (pw_or1 (pt_cmpR op_ne (pe_call (ok_power T) (hr.mono (by decide)) rfl (g_power T) (kp_power T) (B_power T) .nil passL (pa_cons (pv 0) (pa_cons (pv 1) (pa_cons (pv 3) pa_nil)))) pe_int (nomark _))))) (pss_one (ps_ret pe_bl)) pss_nil)
      (pss_cons (ps_for PassesOwn.never rfl (pi_tup (pv 4)) (pg_name (i := 5) sc_is_order_paper.nd rfl (Or.inl rfl)) (pss_cons (ps_set (i := 6) sc_is_order_paper.nd rfl (Or.inl rfl) (pe_call (ok_power T) (hr.mono (by decide)) rfl (g_power T) (kp_power T) (B_power T) .nil passL (pa_cons (pv 0) (pa_cons (pv 1) (pa_cons (pe_op op_fdivW (pv 3) (pe_ix ix_seq (pe_ix ix_seq (pv 5) pe_int (fun _ _ => rfl)) pe_int (fun _ _ => rfl))) pa_nil)))))
      (pss_one (ps_if (PW.pt (pw_or (pt_not (pt_val (pe_call (ok_is_whole T) (hr.mono (by decide)) rfl (g_is_whole T) (kp_is_whole T) (B_is_whole T) .nil pass0 (pa_cons (pe_ix ix_seq (pv 5) pe_int (fun _ _ => rfl)) (pa_cons pe_int pa_nil))))) (pw_or (pt_cmpR op_ne (pe_ix ix_seq (pv 5) pe_int (fun _ _ => rfl)) (pv 6) (nomark _)) (pw_or1 (pt_cmpR op_eq (pv 6) pe_int (nomark _)))))) (pss_one (ps_ret pe_bl)) pss_nil))))
      (pss_one (ps_ret pe_bl)))))), ?_⟩)
  · obtain ⟨n, a, t, rfl, _⟩ := h; rfl
  · obtain ⟨n, a, t, rfl, n2, nb, ⟨xs, ht, q⟩ | ⟨e, w, xs, ht, hw, q⟩ | ⟨e, w, rl, ht, eb, hR, hrl, hr, srt, q⟩⟩ := h
    · walk_at "g"
      refine ⟨t, 2, xs, rfl, .inr ⟨ht, ?_⟩⟩
      walk_at "g"
      exact q
    · walk_at "g"
      refine ⟨t, 2, _, rfl, .inl ⟨ht, ?_⟩⟩
      rw [decide_eq_true (show (([V.int e, V.ref w].length : Nat) : Int) = 2 from rfl)]
      walk_at "g"
      refine s_ixT (SqT.of ht) (atI0 0 rfl rfl) ?_
      walk_at "g"
      refine ⟨e, 1, rfl, ?_⟩
      walk_at "g"
      refine s_iten (fun c => ?_) (fun c => ?_)
      · walk_at "g"
        exact q
      · walk_at "g"
        refine s_ixT (SqT.of ht) (atI0 1 rfl rfl) ?_
        walk_at "g"
        refine ⟨w, 3, rfl, .inr ⟨xs, hw, ?_⟩⟩
        walk_at "g"
        exact q
    · have pos : 0 < M.prodL (rl.map fun r => r.1.2) := prodL_pos0 fun x hx => by
        obtain ⟨r, hr', rfl⟩ := List.mem_map.mp hx
        have := (hr r hr').2.2.2.1
        omega
      walk_at "g"
      refine ⟨t, 2, _, rfl, .inl ⟨ht, ?_⟩⟩
      rw [decide_eq_true (show (([V.int e, V.ref w].length : Nat) : Int) = 2 from rfl)]
      walk_at "g"
      refine s_ixT (SqT.of ht) (atI0 0 rfl rfl) ?_
      walk_at "g"
      refine ⟨e, 1, rfl, ?_⟩
      walk_at "g"
      refine s_iten (fun c => ?_) (fun c => ?_)
      · walk_at "g"
        exact q false H ⟨fun z => (nomatch z), fun z => by have := z.1; omega⟩ (Same.refl _)
      obtain ⟨e, rfl⟩ := Int.eq_ofNat_of_zero_le (show 0 ≤ e by omega)
      have et : ((e : Nat) : Int).toNat = e := by omega
      rw [et] at q
      walk_at "g"
      refine s_ixT (SqT.of ht) (atI0 1 rfl rfl) ?_
      walk_at "g"
      refine ⟨w, 3, rfl, .inl ⟨rl, hR, fun r hr' => ?_, srt, fun H1 s1 => ?_⟩⟩
      · obtain ⟨⟨c, hc⟩, h1, h2, h3, h4⟩ := hr r hr'
        exact ⟨by rw [hc]; rfl, h1, h3, h4⟩
      walk_at "g"
      refine s_gtup (SqT.of (s1 _ _ ht)) rfl ?_
      walk_at "g"
      refine ⟨38, w, rl, e, rfl, hR.same s1, by omega, fun r hr' => ?_, fun b1 hb1 => ?_⟩
      · obtain ⟨_, h1, h2, h3, h4⟩ := hr r hr'
        exact ⟨h3, by omega, h2⟩
      cases b1 with
      | false =>
        walk_at "g"
        exact q false H1 ⟨fun z => (nomatch z), fun z => absurd (hb1.mpr z.1) (by decide)⟩ s1
      | true =>
        have he := hb1.mp rfl
        walk_at "g"
        refine pos_power (m := e) rfl (by omega) (by omega) ?_
        walk_at "g"
        refine s_iten (fun c2 => ?_) (fun c2 => ?_)
        · walk_at "g"
          exact q false H1 ⟨fun z => (nomatch z), fun z => absurd z.2.1 c2⟩ s1
        obtain ⟨xs, ew, pr⟩ := hR.same s1
        walk_at "g"
        refine ⟨⟨_, SqT.of ew⟩, ?_⟩
        refine for_tup (fun i σ H' => H' = H1 ∧ (∃ v1 v2 : Option V, σ = [some (.int n), some (.int a), some (.ref t), some (.int e), some (.ref w), v1, v2]) ∧ ∀ r ∈ rl.take i, restOf r = M.pw n a (e / r.1.2.1) ∧ restOf r ≠ 1) ⟨rfl, ⟨_, _, rfl⟩, by simp⟩ (fun i σ H' _ I => by rw [I.1]; exact SqT.of ew) ?_ ?_
        · rintro i x σ H' hi ⟨rfl, ⟨v1, v2, rfl⟩, yes⟩
          obtain ⟨⟨⟨s, p, b⟩, rest⟩, hab, tx, rfl, ex, hPs⟩ := pget pr hi
          have hmem := List.mem_of_getElem? hab
          obtain ⟨⟨c3, hc3⟩, h1, h2, h3, h4⟩ := hr _ hmem
          have hc3' : rest = [.int c3] := hc3
          subst hc3'
          have h3' : 2 ≤ p := h3
          have h4' : p < 2 ^ 100 := h4
          obtain ⟨f', u', e1'⟩ := hPs.first
          have e1s : H' s = some (.tup [.int (p : Nat), .int (f' : Nat), .ref u']) := e1'
          have ex' : H' tx = some (.tup [.ref s, .int (b : Nat), .int c3]) := ex
          have hro : restOf ((s, p, b), [V.int c3]) = c3 := rfl
          walk_at "g"
          refine s_ixT (SqT.of ex') (atI0 0 rfl rfl) ?_
          walk_at "g"
          refine s_ixT (SqT.of e1s) (atI0 0 rfl rfl) ?_
          walk_at "g"
          refine s_i (divW (by omega) (by omega)) ?_
          walk_at "g"
          refine pos_power (m := e / p) (Int.natCast_ediv _ _).symm (by omega) (by omega) ?_
          have hpr := M.pw_range (n := (n : Int)) (by omega) a (e / p)
          walk_at "g"
          refine s_ixT (SqT.of ex') (atI0 2 rfl rfl) ?_
          walk_at "g"
          refine ⟨c3, 0, rfl, ?_⟩
          walk_at "g"
          refine s_iten (fun k1 => ?_) (fun k1 => ?_)
          · walk_at "g"
            refine q false H' ⟨fun z => (nomatch z), fun z => ?_⟩ s1
            have h9 : c3 = M.pw n a (e / p) := (z.2.2 _ hmem).1
            omega
          walk_at "g"
          refine s_ixT (SqT.of ex') (atI0 2 rfl rfl) ?_
          walk_at "g"
          refine s_iten (fun k2 => ?_) (fun k2 => ?_)
          · walk_at "g"
            exact q false H' ⟨fun z => (nomatch z), fun z => absurd (z.2.2 _ hmem).1 k2⟩ s1
          walk_at "g"
          refine s_ite (fun k3 => ?_) (fun k3 => ?_)
          · walk_at "g"
            refine q false H' ⟨fun z => (nomatch z), fun z => ?_⟩ s1
            have h9 := (z.2.2 _ hmem).2
            rw [hro] at h9
            exact (h9 (k2.trans k3)).elim
          · walk_at "g"
            refine ⟨rfl, ⟨_, _, rfl⟩, fun r hr' => ?_⟩
            rw [take_more hab] at hr'
            rcases List.mem_append.mp hr' with z | z
            · exact yes r z
            · rw [List.mem_singleton.mp z]
              exact ⟨k2, by rw [hro, k2]; exact k3⟩
        · rintro σ H' ⟨rfl, ⟨v1, v2, rfl⟩, yes⟩
          rw [pr.length, List.take_length] at yes
          walk_at "g"
          exact q true H' ⟨fun _ => ⟨he, c2, yes⟩, fun _ => rfl⟩ s1
/-- the rows of an order paper, with the papers -/
def ordRl (n : Nat) (a : Int) (o : Nat) (pl : List (Addr × Nat × Nat)) : List ((Addr × Nat × Nat) × List V) := (pl.filter (dv o)).map fun r => ((r.1, r.2.1, M.vq r.2.1 o), [V.int (M.pw n a (o / r.2.1))])
theorem ord_rows {m : Nat} {H : Hp} {u t : Addr} {n : Nat} {a : Int} {o : Nat} {pl : List (Addr × Nat × Nat)} (hP : PartsAt m H u pl) (h : OrdAt H t n a o pl) : ∃ w, H t = some (.tup [.int (o : Nat), .ref w]) ∧ RowsAt m H w (ordRl n a o pl) := by
  obtain ⟨w, ys, h1, h2, h3⟩ := h
  refine ⟨w, h1, ys, h2, ?_⟩
  have key : ∀ (L : List (Addr × Nat × Nat)) (ys : List V), (∀ r ∈ L, r ∈ pl) → TupsIn H ys (L.map fun r => [V.ref r.1, V.int (M.vq r.2.1 o : Nat), V.int (M.pw n a (o / r.2.1))]) →
      Paired (fun x (r : (Addr × Nat × Nat) × List V) => ∃ t, x = V.ref t ∧ H t = some (.tup ([.ref r.1.1, .int (r.1.2.2 : Nat)] ++ r.2)) ∧ PaperAt m H r.1.1 r.1.2.1) ys (L.map fun r => ((r.1, r.2.1, M.vq r.2.1 o), [V.int (M.pw n a (o / r.2.1))])) := by
    intro L
    induction L with
    | nil => intro ys _ h; cases h; exact .nil
    | cons r L ih =>
      intro ys hL h
      cases h with
      | cons f h =>
        obtain ⟨t, e, ht⟩ := f
        exact .cons ⟨t, e, ht, (show PaperAt m H r.1 r.2.1 from hP.mem (hL r (by simp)))⟩ (ih _ (fun x hx => hL x (by simp [hx])) h)
  exact key _ _ (fun r hr => (List.mem_filter.mp hr).1) h3
theorem ordRl_prod {n : Nat} {a : Int} {o E : Nat} {pl : List (Addr × Nat × Nat)} (hl : M.IsFac E (facs pl)) (o0 : 0 < o) (hd : o ∣ E) : M.prodL ((ordRl n a o pl).map fun r => r.1.2) = o := by
  have h1 : ∃ e, M.OF o E (facs pl) (facs pl).length e := by
    have key : ∀ i, i ≤ (facs pl).length → ∃ e, M.OF o E (facs pl) i e := by
      intro i
      induction i with
      | zero => exact fun _ => ⟨E, M.of_start hl hd⟩
      | succ i ih =>
        intro hi
        obtain ⟨e, he⟩ := ih (by omega)
        have hx : (facs pl)[i]? = some ((facs pl)[i]'(by omega)) := List.getElem?_eq_getElem (by omega)
        obtain ⟨m, _, _, _, _, _, h⟩ := M.of_step hl o0 he (q := ((facs pl)[i]'(by omega)).1) (b := ((facs pl)[i]'(by omega)).2) hx
        exact ⟨_, h⟩
    exact key _ (Nat.le_refl _)
  obtain ⟨e, he⟩ := h1
  have h2 := M.of_end hl o0 he
  have h3 := he.val
  rw [List.take_length, List.drop_length] at h3
  simp only [M.prodL, Nat.mul_one] at h3
  rw [h2] at h3
  conv => rhs; rw [h3]
  unfold ordRl facs M.vL
  rw [List.map_map, List.map_map]
  have hpr : ∀ r ∈ pl, 2 ≤ r.2.1 := fun r hr => (hl.primes _ (facs_mem hr)).1.1
  have key : ∀ L : List (Addr × Nat × Nat), (∀ r ∈ L, 2 ≤ r.2.1) → M.prodL (List.map ((fun r : (Addr × Nat × Nat) × List V => r.1.2) ∘ fun r => ((r.1, r.2.1, M.vq r.2.1 o), [V.int (M.pw n a (o / r.2.1))])) (L.filter (dv o))) = M.prodL (List.map ((fun x : Nat × Nat => (x.1, M.vq x.1 o)) ∘ fun r => r.2) L) := by
    intro L
    induction L with
    | nil => intro _; rfl
    | cons r L ih =>
      intro hL
      have ih' := ih fun x hx => hL x (by simp [hx])
      by_cases c : dv o r = true
      · rw [List.filter_cons_of_pos c]
        simp only [List.map_cons, M.prodL]
        rw [ih']; rfl
      · rw [List.filter_cons_of_neg c, ih']
        simp only [List.map_cons, M.prodL]
        have hv : M.vq r.2.1 o = 0 := M.vq_no fun z => c (by unfold dv; exact beq_iff_eq.mpr z.2.2)
        show _ = r.2.1 ^ M.vq r.2.1 o * _
        rw [hv, Nat.pow_zero, Nat.one_mul]
  exact key pl hpr

/-- numbers as values -/
def nv (l : List Nat) : List V := (l.map fun d : Nat => (d : Int)).map V.int
theorem ints_back {L : List Nat} {ns : List Int} (pm : ns.Perm (L.map fun d : Nat => (d : Int))) (srt : ns.Pairwise (· ≤ ·)) (nd : L.Pairwise (· ≠ ·)) : ∃ ds : List Nat, ns = ds.map (fun d : Nat => (d : Int)) ∧ ds.Perm L ∧ ds.Pairwise (· < ·) := by
  have h1 : ns = (ns.map Int.toNat).map (fun d : Nat => (d : Int)) := by
    rw [List.map_map]
    refine ((List.map_congr_left fun z hz => ?_).trans (List.map_id _)).symm
    obtain ⟨d, _, rfl⟩ := List.mem_map.mp (pm.mem_iff.mp hz)
    rfl
  have h2 : (ns.map Int.toNat).Perm L := by
    have h := pm.map Int.toNat
    rw [List.map_map] at h
    have e : L.map (Int.toNat ∘ fun d : Nat => (d : Int)) = L := (List.map_congr_left fun z _ => rfl).trans (List.map_id _)
    rw [e] at h
    exact h
  refine ⟨_, h1, h2, ?_⟩
  have h3 : (ns.map Int.toNat).Nodup := h2.nodup_iff.mpr nd
  rw [h1, List.pairwise_map] at srt
  exact (srt.and h3).imp fun z => by have := z.1; have := z.2; omega
theorem nv_app (l m : List Nat) : nv (l ++ m) = nv l ++ nv m := by simp [nv]
theorem nv_len (l : List Nat) : (nv l).length = l.length := by simp [nv]
theorem nv_get {l : List Nat} {i : Nat} {x : V} (h : (nv l)[i]? = some x) : ∃ d, l[i]? = some d ∧ x = .int (d : Nat) := by
  unfold nv at h
  rw [List.getElem?_map, List.getElem?_map] at h
  obtain ⟨z, h1, rfl⟩ := Option.map_eq_some_iff.mp h
  obtain ⟨d, h2, rfl⟩ := Option.map_eq_some_iff.mp h1
  exact ⟨d, h2, rfl⟩
theorem line2 {n : Nat} (h : n ≤ 2000000) : n < sizeLine := by rw [sizeLine_eq]; omega

/-- numbers, each with how often, as the entries of a dict -/
def pKv (L : List (Nat × Nat)) : List (Key × V) := L.map fun x => ((.inl (x.1 : Int) : Key), V.int (x.2 : Nat))
def cur : List (Nat × Nat) → Nat → Nat
  | [], _ => 0
  | x :: L, q => if x.1 = q then x.2 else cur L q
theorem key_ne {a b : Nat} (h : a ≠ b) : ¬ ((Sum.inl (a : Int) : Key) = Sum.inl (b : Int)) := fun z => h (by
  have := Sum.inl.inj z
  omega)
theorem pk_get (q : Nat) : ∀ L : List (Nat × Nat), (valV (pKv L) (.inl (q : Int))).getD (.int 0) = V.int (cur L q : Nat)
  | [] => rfl
  | x :: L => by
    have ih := pk_get q L
    unfold pKv valV at ih ⊢
    rw [List.map_cons, List.find?_cons]
    unfold cur
    by_cases c : x.1 = q
    · rw [if_pos c]
      simp [c]
    · rw [if_neg c]
      have h1 : decide ((Sum.inl (x.1 : Int) : Key) = Sum.inl (q : Int)) = false := decide_eq_false (key_ne c)
      simp only [h1]
      exact ih
theorem pk_val {L : List (Nat × Nat)} {q b : Nat} (nd : (L.map (·.1)).Nodup) (h : (q, b) ∈ L) : valV (pKv L) (.inl (q : Int)) = some (.int (b : Nat)) ∧ cur L q = b := by
  induction L with
  | nil => cases h
  | cons x L ih =>
    have nd' := List.nodup_cons.mp (by rw [List.map_cons] at nd; exact nd)
    unfold pKv valV cur
    rw [List.map_cons, List.find?_cons]
    rcases List.mem_cons.mp h with e | e
    · subst e
      simp
    · have hne : x.1 ≠ q := fun z => nd'.1 (List.mem_map.mpr ⟨_, e, z.symm⟩)
      have h1 : decide ((Sum.inl (x.1 : Int) : Key) = Sum.inl (q : Int)) = false := decide_eq_false (key_ne hne)
      simp only [h1]
      rw [if_neg hne]
      exact ih nd'.2 e
theorem cur_none {L : List (Nat × Nat)} {q : Nat} (h : q ∉ L.map (·.1)) : cur L q = 0 := by
  induction L with
  | nil => rfl
  | cons x L ih =>
    rw [List.map_cons, List.mem_cons] at h
    unfold cur
    rw [if_neg fun z => h (.inl z.symm)]
    exact ih fun z => h (.inr z)
theorem pk_none {L : List (Nat × Nat)} {q : Nat} (h : q ∉ L.map (·.1)) : valV (pKv L) (.inl (q : Int)) = none := by
  unfold valV pKv
  rw [Option.map_eq_none_iff, List.find?_eq_none]
  intro kv hkv
  obtain ⟨x, hx, rfl⟩ := List.mem_map.mp hkv
  intro e
  have e1 : (Sum.inl (x.1 : Int) : Key) = Sum.inl (q : Int) := of_decide_eq_true e
  have e2 := Sum.inl.inj e1
  exact h (List.mem_map.mpr ⟨x, hx, by omega⟩)
/-- the list behind a put -/
def pkPut (L : List (Nat × Nat)) (q m : Nat) : List (Nat × Nat) := if q ∈ L.map (·.1) then L.map fun x => if x.1 = q then (q, m) else x else L ++ [(q, m)]
theorem pk_put {L : List (Nat × Nat)} (q m : Nat) : putK (pKv L) (.inl (q : Int)) (.int (m : Nat)) = pKv (pkPut L q m) := by
  unfold pkPut
  by_cases c : q ∈ L.map (·.1)
  · rw [if_pos c]
    obtain ⟨y, hy, rfl⟩ := List.mem_map.mp c
    unfold putK
    rw [if_pos (by
      rw [List.any_eq_true]
      exact ⟨_, List.mem_map.mpr ⟨y, hy, rfl⟩, by simp⟩)]
    unfold pKv
    rw [List.map_map, List.map_map]
    refine List.map_congr_left fun k hk => ?_
    by_cases d : k.1 = y.1
    · simp [d]
    · simp only [Function.comp, if_neg d, if_neg (key_ne d)]
  · rw [if_neg c, putK_new _ (pk_none c)]
    unfold pKv
    rw [List.map_append]; rfl
theorem pk_keys {L : List (Nat × Nat)} {q m : Nat} (c : q ∈ L.map (·.1)) : (L.map fun x => if x.1 = q then (q, m) else x).map (·.1) = L.map (·.1) := by
  rw [List.map_map]
  refine List.map_congr_left fun x _ => ?_
  show (if x.1 = q then (q, m) else x).1 = x.1
  split
  · rename_i h; exact h.symm
  · rfl
theorem pk_nd {L : List (Nat × Nat)} (q m : Nat) (nd : (L.map (·.1)).Nodup) : ((pkPut L q m).map (·.1)).Nodup := by
  unfold pkPut
  by_cases c : q ∈ L.map (·.1)
  · rw [if_pos c, pk_keys c]; exact nd
  · rw [if_neg c, List.map_append]
    exact List.nodup_append.mpr ⟨nd, List.pairwise_singleton _ _, fun a ha b hb => by rw [List.mem_singleton.mp hb]; exact fun z => c (by rw [← show a = q from z]; exact ha)⟩
theorem pk_mem {L : List (Nat × Nat)} {q m : Nat} {x : Nat × Nat} (h : x ∈ pkPut L q m) : x = (q, m) ∨ x ∈ L ∧ x.1 ≠ q := by
  unfold pkPut at h
  by_cases c : q ∈ L.map (·.1)
  · rw [if_pos c] at h
    obtain ⟨y, hy, rfl⟩ := List.mem_map.mp h
    by_cases d : y.1 = q
    · rw [if_pos d]; exact .inl rfl
    · rw [if_neg d]; exact .inr ⟨hy, d⟩
  · rw [if_neg c] at h
    rcases List.mem_append.mp h with z | z
    · exact .inr ⟨z, fun e => c (List.mem_map.mpr ⟨x, z, e⟩)⟩
    · exact .inl (List.mem_singleton.mp z)
theorem pk_has {L : List (Nat × Nat)} (q m : Nat) : (q, m) ∈ pkPut L q m := by
  unfold pkPut
  by_cases c : q ∈ L.map (·.1)
  · rw [if_pos c]
    obtain ⟨y, hy, e⟩ := List.mem_map.mp c
    exact List.mem_map.mpr ⟨y, hy, by rw [if_pos e]⟩
  · rw [if_neg c]; simp
theorem pk_old {L : List (Nat × Nat)} {q m : Nat} {x : Nat × Nat} (h : x ∈ L) (hx : x.1 ≠ q) : x ∈ pkPut L q m := by
  unfold pkPut
  by_cases c : q ∈ L.map (·.1)
  · rw [if_pos c]
    exact List.mem_map.mpr ⟨x, h, by rw [if_neg hx]⟩
  · rw [if_neg c]; simp [h]
theorem pk_len {L : List (Nat × Nat)} (q m : Nat) : (pkPut L q m).length ≤ L.length + 1 := by
  unfold pkPut
  split
  · rw [List.length_map]; omega
  · rw [List.length_append]; simp
theorem pk_prod {L : List (Nat × Nat)} {q t : Nat} (nd : (L.map (·.1)).Nodup) : M.prodL (pkPut L q (cur L q + t)) = M.prodL L * q ^ t := by
  unfold pkPut
  by_cases c : q ∈ L.map (·.1)
  · rw [if_pos c]
    induction L with
    | nil => cases c
    | cons x L ih =>
      have nd' := List.nodup_cons.mp (by rw [List.map_cons] at nd; exact nd)
      rw [List.map_cons]
      unfold cur
      by_cases d : x.1 = q
      · rw [if_pos d, if_pos d]
        have hno : q ∉ L.map (·.1) := by rw [← d]; exact nd'.1
        have e : (L.map fun y => if y.1 = q then (q, x.2 + t) else y) = L := (List.map_congr_left fun y hy => by rw [if_neg fun z => hno (List.mem_map.mpr ⟨y, hy, z⟩)]; rfl).trans (List.map_id _)
        rw [e]
        simp only [M.prodL]
        rw [d, Nat.pow_add]
        grind
      · rw [if_neg d, if_neg d]
        rw [List.map_cons, List.mem_cons] at c
        have ih' := ih nd'.2 (c.resolve_left fun z => d z.symm)
        simp only [M.prodL]
        rw [ih', Nat.mul_assoc]
  · rw [if_neg c, cur_none c, M.prodL_app]
    simp [M.prodL]
theorem pk_merge : ∀ (B A : List (Nat × Nat)), ((A ++ B).map (·.1)).Nodup → mergeK (pKv A) (pKv B) = pKv (A ++ B)
  | [], A, _ => by rw [List.append_nil]; rfl
  | x :: B, A, nd => by
    have hx : x.1 ∉ A.map (·.1) := fun z => by
      rw [List.map_append, List.map_cons] at nd
      exact (List.nodup_append.mp nd).2.2 x.1 z x.1 (by simp) rfl
    have e1 : mergeK (pKv A) (pKv (x :: B)) = mergeK (putK (pKv A) (.inl (x.1 : Int)) (.int (x.2 : Nat))) (pKv B) := rfl
    rw [e1, putK_new _ (pk_none hx)]
    have e2 : pKv A ++ [((.inl (x.1 : Int) : Key), V.int (x.2 : Nat))] = pKv (A ++ [x]) := by unfold pKv; rw [List.map_append]; rfl
    rw [e2, pk_merge B (A ++ [x]) (by rw [List.append_assoc]; exact nd), List.append_assoc]; rfl
theorem pk_sort {L : List (Nat × Nat)} {qs : List Nat} (nd : (L.map (·.1)).Nodup) (pm : qs.Perm (L.map (·.1))) : (qs.map fun q => (q, cur L q)).Perm L := by
  have h1 : L.map (fun x => (x.1, cur L x.1)) = L := (List.map_congr_left fun x hx => by rw [(pk_val nd (q := x.1) (b := x.2) hx).2]; rfl).trans (List.map_id _)
  have h2 := pm.map fun q => (q, cur L q)
  rw [List.map_map] at h2
  have h3 : L.map ((fun q => (q, cur L q)) ∘ fun x => x.1) = L.map (fun x => (x.1, cur L x.1)) := rfl
  rw [h3, h1] at h2
  exact h2

theorem rows_dp (K : PySem.W.Frag) {m : Nat} {H : Hp} {w : Addr} {rl : List ((Addr × Nat × Nat) × List V)} (h : RowsAt m H w rl) (hq : ∀ r ∈ rl, r.1.2.1 ≤ 1000000000 ∧ ∃ c : Int, r.2 = [.int c]) : ∃ ds, Dp K H (.ref w) (.tuple ds) ∧ ds.length = rl.length ∧ SeqAt.shaped (.tuple ds) = true := by
  obtain ⟨xs, e, pr⟩ := h
  have key : ∀ (rl : List ((Addr × Nat × Nat) × List V)) (xs : List V), (∀ r ∈ rl, r.1.2.1 ≤ 1000000000 ∧ ∃ c : Int, r.2 = [.int c]) → Paired (fun x r => ∃ t, x = V.ref t ∧ H t = some (.tup ([.ref r.1.1, .int (r.1.2.2 : Nat)] ++ r.2)) ∧ PaperAt m H r.1.1 r.1.2.1) xs rl →
      ∃ ds, DpAll K H xs ds ∧ ds.length = rl.length ∧ ∀ d ∈ ds, PyData.canLay0 d = true ∧ PyData.depth d ≤ 63 := by
    intro rl
    induction rl with
    | nil => intro xs _ pr; cases pr; exact ⟨[], .nil, rfl, by simp⟩
    | cons r rl ih =>
      intro xs hq pr
      cases pr with
      | cons f pr =>
        obtain ⟨ds, h1, h2, h3⟩ := ih _ (fun x hx => hq x (by simp [hx])) pr
        obtain ⟨t, rfl, ht, hp⟩ := f
        obtain ⟨hb, c, hc⟩ := hq r (by simp)
        rw [hc] at ht
        obtain ⟨d, d1, _, d3, d4⟩ := papers_data K (hp.to21 hb) (hp.to21 hb)
        refine ⟨.tuple [d, .int (r.1.2.2 : Nat), .int c] :: ds, .cons (.tup (SqT.of ht) (.cons d1 (.cons (.int _) (.cons (.int _) .nil)))) h1, by simp [h2], fun x hx => ?_⟩
        rcases List.mem_cons.mp hx with z | z
        · subst z
          simp only [PyData.canLay0, PyData.canLayAll0, PyData.depth, PyData.depthAll, Bool.and_eq_true]
          refine ⟨⟨d3, by simp⟩, ?_⟩
          omega
        · exact h3 x z
  obtain ⟨ds, h1, h2, h3⟩ := key rl xs hq pr
  exact ⟨ds, .tup (SqT.of e) h1, h2, shapedT h3⟩
theorem eqv_empty (ds : List PyData) : PyData.eqv (.tuple ds) (.tuple []) = ds.isEmpty := by cases ds <;> simp [PyData.eqv, PyData.eqvAll]
theorem RowsAt.more {m : Nat} {H : Hp} {w : Addr} {rl : List ((Addr × Nat × Nat) × List V)} (h : RowsAt m H w rl) : ∃ xs, H w = some (.tup xs) ∧ xs.length = rl.length := by
  obtain ⟨xs, e, pr⟩ := h
  exact ⟨xs, e, pr.length⟩
theorem paired_append {α β : Type} {F : α → β → Prop} : ∀ {xs : List α} {ys : List β} {xs' : List α} {ys' : List β}, Paired F xs ys → Paired F xs' ys' → Paired F (xs ++ xs') (ys ++ ys')
  | _, _, _, _, .nil, h => h
  | _, _, _, _, .cons f r, h => .cons f (paired_append r h)
theorem paired_drop {α β : Type} {F : α → β → Prop} : ∀ {xs : List α} {ys : List β} (n : Nat), Paired F xs ys → Paired F (xs.drop n) (ys.drop n)
  | _, _, 0, h => by simpa using h
  | _, _, n + 1, .nil => .nil
  | _, _, n + 1, .cons _ r => paired_drop n r
/-- a slice of a tuple, any -/
theorem mkSlA {K : PySem.W.Frag} {H : Hp} {Q : VK} {p : Addr} {xs : List V} {lo hi : Option Int} (hs : SqT K H p xs) (hp : H p = some (.tup xs)) (h : ∀ l H', H' l = some (.tup (cutV xs lo hi)) → Same H H' → Q (.ref l) H') : rSlA K (.ref p) lo hi H Q :=
  ⟨p, xs, rfl, hs, fun z => h p H (by
    have : cutV xs lo hi = xs := by
      unfold cutV
      rw [z.1, z.2, List.drop_zero, Nat.sub_zero, List.take_length]
    rw [this]; exact hp) (Same.refl _), fun _ l hl => h l _ upd_same (same_upd hl)⟩
theorem mkCatA {K : PySem.W.Frag} {H : Hp} {Q : VK} {p q : Addr} {xs ys : List V} (hp : H p = some (.tup xs)) (hq : H q = some (.tup ys)) (hl : xs.length + ys.length ≤ 1000) (h : ∀ l H', H' l = some (.tup (xs ++ ys)) → Same H H' → Q (.ref l) H') : rCatA K (.ref p) (.ref q) H Q :=
  ⟨p, q, xs, ys, rfl, rfl, SqT.of hp, SqT.of hq, Nat.le_trans hl (Nat.le_of_lt (small1000 (Nat.le_refl _))), fun z => h q H (by rw [z]; exact hq) (Same.refl _), fun _ z => h p H (by rw [z, List.append_nil]; exact hp) (Same.refl _), fun _ _ l hl => h l _ upd_same (same_upd hl)⟩
theorem cut_take (xs : List V) (k : Nat) (h : k ≤ xs.length) : cutV xs none (some (k : Int)) = xs.take k := by
  unfold cutV
  rw [HT.sIx_none, HT.sIx_nat, List.drop_zero, Nat.sub_zero, Nat.min_eq_left h]
theorem cut_drop (xs : List V) (k : Nat) (h : k ≤ xs.length) : cutV xs (some (k : Int)) none = xs.drop k := by
  unfold cutV
  rw [HT.sIx_none, HT.sIx_nat, Nat.min_eq_left h]
  exact List.take_of_length_le (by rw [List.length_drop]; exact Nat.le_refl _)
theorem prod_cut {rl : List ((Addr × Nat × Nat) × List V)} {i : Nat} {r : (Addr × Nat × Nat) × List V} (h : rl[i]? = some r) : M.prodL (rl.map fun r => r.1.2) = M.prodL ((rl.take i ++ rl.drop (i + 1)).map fun r => r.1.2) * r.1.2.1 ^ r.1.2.2 := by
  have hil : i < rl.length := (List.getElem?_eq_some_iff.mp h).1
  have hd : rl.drop i = r :: rl.drop (i + 1) := by
    rw [List.drop_eq_getElem_cons hil, (List.getElem?_eq_some_iff.mp h).2]
  conv => lhs; rw [← List.take_append_drop i rl, hd]
  rw [List.map_append, M.prodL_app, List.map_append, M.prodL_app, List.map_cons]
  simp only [M.prodL]
  grind
theorem s_notBl {H : Hp} {Q : VK} {a b : Bool} (h : Q (.bl (!decide (a = b))) H) : L2.rNotB (.bl a) (.bl b) H Q := ⟨a, b, rfl, rfl, h⟩
theorem chain_down : ∀ (k : Nat) {p : Nat}, M.Chain (k + 1) p → M.Chain k p
  | 0, _, _ => trivial
  | k + 1, p, ⟨hp, h⟩ => ⟨hp, by
    rcases h with z | ⟨q, h1, h2⟩
    · omega
    · exact .inr ⟨q, h1, chain_down k h2⟩⟩
theorem chain22_of : ∀ (j : Nat) {p : Nat}, M.Chain (22 + j) p → M.Chain 22 p
  | 0, _, h => h
  | j + 1, _, h => chain22_of j (chain_down (22 + j) h)
theorem PartsAt.to38 {n : Nat} {H : Hp} {u : Addr} {pl : List (Addr × Nat × Nat)} (h : PartsAt n H u pl) (hb : ∀ r ∈ pl, r.2.1 ≤ 1000000000) : PartsAt 38 H u pl := by
  obtain ⟨xs, e, pr⟩ := h
  refine ⟨xs, e, ?_⟩
  clear e
  revert hb
  induction pr with
  | nil => intro _; exact .nil
  | cons f _ ih =>
    intro hb
    obtain ⟨t, e, h1, h2⟩ := f
    exact .cons ⟨t, e, h1, h2.shrink 38 fun z => M.chain22 (hb _ (by simp)) (chain22_of 17 z)⟩ (ih fun r hr => hb r (by simp [hr]))
theorem ordRl_cond2 {p F o : Nat} {a : Int} {pl : List (Addr × Nat × Nat)} (hF : M.IsFac F (facs pl)) (F0 : 0 < F) (Fb : F < 2 ^ 200) (hq : ∀ r ∈ pl, r.2.1 ≤ 4608) (o0 : 0 < o) (ob : o ≤ 1000) : (∀ r ∈ ordRl p a o pl, (∃ c : Int, r.2 = [.int c]) ∧ 1 ≤ r.1.2.2 ∧ r.1.2.2 < 100 ∧ 2 ≤ r.1.2.1 ∧ r.1.2.1 ≤ 4608) ∧ (ordRl p a o pl).Pairwise (fun a b => a.1.2.1 < b.1.2.1) ∧ (ordRl p a o pl).length ≤ 200 := by
  refine ⟨fun r hr => ?_, ?_, ?_⟩
  · obtain ⟨x, hx, rfl⟩ := List.mem_map.mp hr
    obtain ⟨h1, h2⟩ := List.mem_filter.mp hx
    have h3 := (hF.primes _ (facs_mem h1)).1
    have h4 := hq _ h1
    have h5 : o % x.2.1 = 0 := beq_iff_eq.mp h2
    have h6 := (M.vq_pos_iff h3.1 o0).mpr h5
    obtain ⟨mm, e1, _, m0⟩ := M.vq_split h3 o0
    have h7 : 2 ^ M.vq x.2.1 o ≤ o := by
      have h8 : 2 ^ M.vq x.2.1 o ≤ x.2.1 ^ M.vq x.2.1 o := Nat.pow_le_pow_left h3.1 _
      have h9 : x.2.1 ^ M.vq x.2.1 o ≤ o := Nat.le_trans (Nat.le_mul_of_pos_right _ m0) (Nat.le_of_eq e1.symm)
      omega
    have h10 : M.vq x.2.1 o < 100 := (Nat.pow_lt_pow_iff_right (by decide : 1 < 2)).mp (by omega)
    exact ⟨⟨_, rfl⟩, h6, h10, h3.1, h4⟩
  · have hs := hF.sorted
    unfold facs at hs
    unfold ordRl
    rw [List.pairwise_map] at hs ⊢
    exact hs.filter _
  · unfold ordRl
    rw [List.length_map]
    exact Nat.le_trans (List.length_filter_le _ _) (pl_len hF F0 Fb)

/-- _law_raised(b, e): the power -/
def sp__law_raised : Sp := fun vs H Q _ => ∃ b e : Nat, vs = [.int b, .int e] ∧ 1 ≤ b ∧ b ^ e < 2 ^ 800 ∧ e < 2 ^ 60 ∧ b < 2 ^ 60 ∧ Q (.int ((b ^ e : Nat) : Int)) H
theorem ok__law_raised (T : Txt K mg) : FnOk P w K mg base CX0 1 (He.ga K "_law_raised") (fd__law_raised T) ["_law_b", "_law_e"] sp__law_raised := by
  refine (F__law_raised T).ok sc__law_raised (fun vs H Q E h => ?_) (fun cdv A outer s H vs Q E hr h => ⟨_, PSs.nox (pss_cons (ps_set (i := 2) sc__law_raised.nd rfl (Or.inl rfl) pe_int)
      (pss_cons (ps_for PassesOwn.never rfl (pi_range1 rfl (T.fr (T.c.fact 33 rfl)) (pa_cons (pv 1) pa_nil)) (pg_name (i := 3) sc__law_raised.nd rfl (Or.inl rfl)) (pss_one (ps_set (i := 2) sc__law_raised.nd rfl (Or.inl rfl) (pe_op op_mulW (pv 2) (pv 0)))))
      (pss_one (ps_ret (pv 2))))), ?_⟩)
  · obtain ⟨b, e, rfl, _⟩ := h; rfl
  · obtain ⟨b, e, rfl, b1, hbe, he, hb, k⟩ := h
    walk_at "g"
    refine mkR1 e (by omega) (by omega) (by omega) ?_
    refine for_range (n := e) (fun i σ H' => H' = H ∧ ∃ v3 : Option V, σ = [some (.int b), some (.int e), some (.int ((b ^ i : Nat) : Int)), v3]) ⟨rfl, none, by rw [Nat.pow_zero]; rfl⟩ ?_ ?_
    · rintro i σ H' hi ⟨rfl, v3, rfl⟩
      have h1 : b ^ i ≤ b ^ e := Nat.pow_le_pow_right b1 (by omega)
      have e1 : ((b ^ (i + 1) : Nat) : Int) = ((b ^ i : Nat) : Int) * (b : Int) := by rw [Nat.pow_succ]; push_cast; rfl
      generalize b ^ i = c at h1 e1 ⊢
      walk_at "g"
      try refine s_i (mulW (by omega) (by omega)) ?_
      walk_at "g"
      exact ⟨rfl, _, by rw [e1]; rfl⟩
    · rintro σ H' ⟨rfl, v3, rfl⟩
      walk_at "g"
      exact k

/-- _law_exponent(state, b): an e from 1 on so that b ** e is below 10 ** 58 -/
def sp__law_exponent : Sp := fun vs H Q _ => ∃ (s : Addr) (b : Nat), vs = [.ref s, .int b] ∧ 2 ≤ b ∧ b ≤ 2000000 ∧ StAt H s ∧ ∀ (e : Nat) H', 1 ≤ e → e ≤ 192 → b ^ e < 10 ^ 58 → StAt H' s → SameB s H H' → Q (.int e) H'
theorem exp192 {b m : Nat} (hb : 2 ≤ b) (h : b ^ m < 10 ^ 58) : m ≤ 192 := by
  rcases Nat.lt_or_ge 192 m with z | z
  · exfalso
    have h1 : 2 ^ 193 ≤ 2 ^ m := Nat.pow_le_pow_right (by decide) z
    have h2 : 2 ^ m ≤ b ^ m := Nat.pow_le_pow_left hb m
    have h3 : (10 : Nat) ^ 58 < 2 ^ 193 := by decide
    omega
  · exact z
theorem ok__law_exponent (T : Txt K mg) : FnOk P w K mg base CX0 2 (He.ga K "_law_exponent") (fd__law_exponent T) ["_law_state_here", "_law_b"] sp__law_exponent := by
  refine (F__law_exponent T).ok sc__law_exponent (fun vs H Q E h => ?_) (fun cdv A outer s H vs Q E hr h => ⟨_, PSs.nox (pss_cons (ps_set (i := 2) sc__law_exponent.nd rfl (Or.inl rfl) pe_int)
      (pss_cons (ps_set (i := 3) sc__law_exponent.nd rfl (Or.inl rfl) (pe_op op_mulW (pv 1) (pv 1)))
      (pss_cons (ps_while PassesOwn.never (pt_cmpR op_lt (pv 3) (pe_op op_pow pe_int pe_int) (nomark _)) (pss_cons (ps_set (i := 3) sc__law_exponent.nd rfl (Or.inl rfl) (pe_op op_mulW (pv 3) (pv 1)))
      (pss_one (ps_set (i := 2) sc__law_exponent.nd rfl (Or.inl rfl) (pe_op op_add (pv 2) pe_int)))))
      (pss_one (ps_ret (pe_op op_add pe_int (pe_call (ok__law_take T) (hr.mono (by decide)) rfl (g__law_take T) (kp__law_take T) (B__law_take T) .nil pass0 (pa_cons (pv 0) (pa_cons (pv 2) pa_nil))))))))), ?_⟩)
  · obtain ⟨s, b, rfl, _⟩ := h; rfl
  · obtain ⟨s, b, rfl, b2, b9, hst, k⟩ := h
    have e2 : (b : Int) * (b : Int) = ((b ^ (1 + 1) : Nat) : Int) := by rw [Nat.pow_succ, Nat.pow_one]; push_cast; rfl
    have hb58 : b < 10 ^ 58 := Nat.lt_of_le_of_lt b9 (by decide)
    walk_at "g"
    try refine s_i (mulW (by omega) (by omega)) ?_
    rw [e2]
    walk_at "g"
    refine s_while (fun σ H' => H' = H ∧ ∃ m : Nat, σ = [some (.ref s), some (.int b), some (.int m), some (.int ((b ^ (m + 1) : Nat) : Int))] ∧ 1 ≤ m ∧ b ^ m < 10 ^ 58) (fun σ _ => 200 - (iv σ 2).toNat) ⟨rfl, 1, rfl, by decide, by rw [Nat.pow_one]; exact hb58⟩ ?_
    rintro σ H' ⟨rfl, m, rfl, m1, hm⟩
    have hm9 := exp192 b2 hm
    have hbig : (10 : Nat) ^ 58 < 2 ^ 300 := by decide
    have e58 : ((10 ^ 58 : Nat) : Int) = (10 : Int) ^ 58 := by decide
    have e3 : ((b ^ (m + 1 + 1) : Nat) : Int) = ((b ^ (m + 1) : Nat) : Int) * (b : Int) := by rw [Nat.pow_succ b (m + 1)]; push_cast; rfl
    have hyes : ((b ^ (m + 1) : Nat) : Int) < (10 : Int) ^ 58 → b ^ (m + 1) < 10 ^ 58 ∧ b ^ (m + 1) < 2 ^ 300 ∧ m + 1 ≤ 192 := fun c => by
      have hc : b ^ (m + 1) < 10 ^ 58 := by omega
      exact ⟨hc, by omega, exp192 b2 hc⟩
    have hend : ∀ z : Nat, z < m → b ^ (1 + z) < 10 ^ 58 := fun z hz => Nat.lt_of_le_of_lt (Nat.pow_le_pow_right (by omega) (by omega)) hm
    have hnx : ∀ h : Nat, h = b ^ (m + 1) → ((h : Int) * (b : Int)) = ((b ^ (m + 1 + 1) : Nat) : Int) := fun h e => by rw [e, e3]
    generalize ehh : b ^ (m + 1) = hh at hyes
    have ehh2 : Unit → b ^ (m + 1) = hh := fun _ => ehh
    clear e3 hm hbig e58 hb58 ehh e2
    have hyes2 := fun _ : Unit => hyes
    clear hyes
    walk_at "g1"
    walk_at "g1"
    walk_at "g1"
    walk_at "g1"
    walk_at "g1"
    walk_at "g1"
    walk_at "g1"
    walk_at "g1"
    walk_at "g1"
    generalize (10 : Int) ^ 58 = C58 at hyes2 ⊢
    refine s_ite (fun c => ?_) (fun c => ?_)
    · obtain ⟨c1, c2, c3⟩ := hyes2 () c
      walk_at "g"
      try refine s_i (mulW (by omega) (by omega)) ?_
      walk_at "g"
      refine ⟨⟨rfl, m + 1, ?_, by omega, by rw [ehh2 ()]; exact c1⟩, ?_⟩
      · rw [hnx hh (ehh2 ()).symm]; push_cast; rfl
      · show 200 - ((m : Int) + 1).toNat < 200 - (m : Int).toNat
        omega
    · walk_at "g"
      refine ⟨s, m, rfl, by omega, by omega, hst, fun z H1 z0 z1 st1 s1 => ?_⟩
      obtain ⟨z, rfl⟩ := Int.eq_ofNat_of_zero_le z0
      walk_at "g"
      have := k (1 + z) H1 (by omega) (by omega) (hend z (by omega)) st1 s1
      rw [show (((1 + z : Nat) : Nat) : Int) = 1 + (z : Int) by push_cast; rfl] at this
      exact this

theorem s_dget2 {td ty tx : TE} {σ : L2.St} {H : Hp} {Q : VK} (h : td σ H fun x H1 => ∃ a, x = .ref a ∧ IsD H1 a ∧ ty σ H1 fun y H2 => tx σ H2 fun z H3 => ∃ o, DGet H3 a y o ∧ Q (o.getD z) H3) : tDGet2 td ty tx σ H Q := h
def L97 : List Nat := [2, 3, 5, 7, 11, 13, 17, 19, 23, 29, 31, 37, 41, 43, 47, 53, 59, 61, 67, 71, 73, 79, 83, 89, 97]
theorem primes97 {q : Nat} (hq : q ∈ L97) : M.Prime q ∧ q ≤ 97 := by
  have h : L97.all (fun q => decide (2 ≤ q) && (decide (q ≤ 97) && (List.range 10).all fun d => decide (d < 2) || (decide (q < d * d) || decide (q % d ≠ 0)))) = true := by decide
  have h1 := List.all_eq_true.mp h q hq
  simp only [Bool.and_eq_true, decide_eq_true_eq] at h1
  obtain ⟨h2, h3, h4⟩ := h1
  refine ⟨M.prime_of_no h2 fun d d2 dd hd => ?_, h3⟩
  have d9 : d < 10 := by
    rcases Nat.lt_or_ge d 10 with z | z
    · exact z
    · have := Nat.mul_le_mul z z; omega
  have h5 := List.all_eq_true.mp h4 d (List.mem_range.mpr d9)
  simp only [Bool.or_eq_true, decide_eq_true_eq] at h5
  rcases h5 with z | z | z
  · omega
  · omega
  · exact z (Nat.mod_eq_zero_of_dvd hd)
theorem tups_ps {K : PySem.W.Frag} {H : Hp} : ∀ {ys : List V} {l : List (Nat × Nat)}, TupsIn H ys (l.map fun x => [V.int (x.1 : Nat), V.int (x.2 : Nat)]) → ∃ ps : List Addr, ys = ps.map V.ref ∧ Paired (fun p (kv : Key × V) => SqT K H p [kV kv.1, kv.2]) ps (pKv l)
  | _, [], .nil => ⟨[], rfl, .nil⟩
  | _, x :: l, .cons ⟨t, e, h⟩ r => by
    subst e
    obtain ⟨ps, e1, e2⟩ := tups_ps (K := K) r
    exact ⟨t :: ps, by rw [e1]; rfl, .cons (SqT.of h) e2⟩
/-- _law_papers(state, whole): a parting paper of what it divides -/
def sp__law_papers : Sp := fun vs H Q _ => ∃ (s : Addr) (W : Nat), vs = [.ref s, .int W] ∧ 1 ≤ W ∧ W ≤ 4608 ∧ StAt H s ∧ ∀ u H' pl F, PartsAt 39 H' u pl → M.IsFac F (facs pl) → 0 < F → F < 2 ^ 200 → W ∣ F → (∀ r ∈ pl, r.2.1 ≤ 4608) → StAt H' s → SameB s H H' → Q (.ref u) H'
theorem ok__law_papers (T : Txt K mg) : FnOk P w K mg base CX0 41 (He.ga K "_law_papers") (fd__law_papers T) ["_law_state_here", "_law_whole"] sp__law_papers := by
  refine (F__law_papers T).ok sc__law_papers (fun vs H Q E h => ?_) (fun cdv A outer s H vs Q E hr h => ⟨_, PSs.nox (pss_cons (ps_set (i := 2) sc__law_papers.nd rfl (Or.inr rfl) (pe_callTy (call_dictP rfl) rfl (T.fr (T.c.fact 44 rfl)) boot_dict (pa_cons (pe_call (ok__law_parted T) (hr.mono (by decide)) rfl (g__law_parted T) (kp__law_parted T) (B__law_parted T) .nil pass0 (pa_cons (pv 1) pa_nil)) pa_nil)))
      (pss_cons (ps_for PassesOwn.never rfl (pi_range1 rfl (T.fr (T.c.fact 33 rfl)) (pa_cons (pe_op op_mulW pe_int (pe_callTy callInt1 rfl (T.fr (T.c.fact 36 rfl)) boot_int (pa_cons (pe_cmpR op_eq (pe_call (ok__law_take T) (hr.mono (by decide)) rfl (g__law_take T) (kp__law_take T) (B__law_take T) .nil pass0 (pa_cons (pv 0) (pa_cons pe_int pa_nil))) pe_int (nomark _)) pa_nil))) pa_nil)) (pg_name (i := 3) sc__law_papers.nd rfl (Or.inl rfl)) (pss_cons (ps_set (i := 4) sc__law_papers.nd rfl (Or.inl rfl) (pe_ix ix_seq (pe_lst (pa_cons pe_int (pa_cons pe_int (pa_cons pe_int (pa_cons pe_int (pa_cons pe_int (pa_cons pe_int (pa_cons pe_int (pa_cons pe_int (pa_cons pe_int (pa_cons pe_int (pa_cons pe_int (pa_cons pe_int (pa_cons pe_int (pa_cons pe_int (pa_cons pe_int (pa_cons pe_int (pa_cons pe_int (pa_cons pe_int (pa_cons pe_int (pa_cons pe_int (pa_cons pe_int (pa_cons pe_int (pa_cons pe_int (pa_cons pe_int (pa_cons pe_int pa_nil)))))))))))))))))))))))))) (pe_call (ok__law_take T) (hr.mono (by decide)) rfl (g__law_take T) (kp__law_take T) (B__law_take T) .nil pass0 (pa_cons (pv 0) (pa_cons pe_int pa_nil))) (fun _ _ => rfl)))
      (pss_one (ps_dput (hu_of hr) (pv 2) (pv 4) (pe_op op_add (pe_op op_add (pe_dget2 (hu_of hr) (pv 2) (pv 4) pe_int ⟨rfl, rfl, rfl, rfl⟩) pe_int) (pe_call (ok__law_take T) (hr.mono (by decide)) rfl (g__law_take T) (kp__law_take T) (B__law_take T) .nil pass0 (pa_cons (pv 0) (pa_cons pe_int pa_nil)))) rfl))))
      (pss_one (ps_ret (pe_callTy callTup rfl (T.fr (T.c.fact 34 rfl)) boot_tuple (pa_cons (pe_lc (own := [("_law_q", 4)]) (tt := tYes) rfl sc__law_papers.nd (pi_list (pe_callB (call_sortedDI rfl) rfl (T.fr (T.c.fact 45 rfl)) boot_sorted (pa_cons (pv 2) pa_nil))) (blkOk_by (N := N__law_papers) (sc := defScope s__law_papers) (by decide +kernel)) (fun _ _ _ _ _ => (pg_name (i := 4) sc__law_papers.nd rfl (Or.inl rfl))) (fun _ _ _ _ _ => pts_nil) (fun _ _ _ _ _ => (pe_tup (pa_cons (pe_call (ok__law_paper T) (hr.mono (by decide)) rfl (g__law_paper T) (kp__law_paper T) (B__law_paper T) .nil pass0 (pa_cons (pv 4) pa_nil)) (pa_cons (pe_dget (hu_of hr) (pv 2) (pv 4) (fun _ _ => rfl)) pa_nil))))) pa_nil)))))), ?_⟩)
  · obtain ⟨s, W, rfl, _⟩ := h; rfl
  · obtain ⟨s, W, rfl, W1, W9, hst, k⟩ := h
    walk_at "g"
    refine ⟨W, rfl, by omega, by omega, fun P1 H1 ys l hl nP s1 e1 ty => ?_⟩
    obtain ⟨ps, eps, hpr⟩ := tups_ps (K := K) ty
    have hll := M.nprimes hl (by omega)
    have ndl : (l.map (·.1)).Nodup := by
      show List.Pairwise _ _
      rw [List.pairwise_map]
      exact hl.sorted.imp fun h => by omega
    walk_at "g"
    refine ⟨P1, ps, pKv l, rfl, by rw [← eps]; exact SqL.of e1, hpr, fun D nD => ?_⟩
    rw [show mergeK [] (pKv l) = pKv l from pk_merge l [] ndl]
    have S2 : Same H1 (upd H1 D (.dK (pKv l))) := same_upd nD
    have eD : upd H1 D (.dK (pKv l)) D = some (.dK (pKv l)) := upd_same
    have nD0 : H D = none := Same.none s1 nD
    have hDs : D ≠ s := fun z => by
      obtain ⟨_, _, e, _⟩ := hst
      rw [z, e] at nD0; cases nD0
    have hst2 := (hst.same s1).same S2
    generalize upd H1 D (.dK (pKv l)) = H2 at S2 eD hst2 ⊢
    walk_at "g"
    refine ⟨s, 8, rfl, by decide, by decide, hst2, fun z H3 z0 z1 st3 s3 => ?_⟩
    walk_at "g"
    obtain ⟨c, hc, hc6⟩ : ∃ c : Nat, 6 * (if decide (z = 0) = true then (1 : Int) else 0) = (c : Int) ∧ c ≤ 6 := by
      split
      · exact ⟨6, rfl, by decide⟩
      · exact ⟨0, rfl, by decide⟩
    rw [hc]
    refine mkR1 c (by omega) (by omega) (by omega) ?_
    refine for_range (n := c) (fun i σ H' => StAt H' s ∧ SameB s H H' ∧ (∃ L : List (Nat × Nat), H' D = some (.dK (pKv L)) ∧ (L.map (·.1)).Nodup ∧ (∀ x ∈ L, M.Prime x.1 ∧ x.1 ≤ 4608 ∧ 1 ≤ x.2) ∧ (∀ x ∈ l, ∃ b, (x.1, b) ∈ L ∧ x.2 ≤ b) ∧ L.length ≤ 11 + i ∧ M.prodL L ≤ 4608 * (97 ^ 4) ^ i) ∧ ∃ v3 v4 : Option V, σ = [some (.ref s), some (.int W), some (.ref D), v3, v4])
      ⟨st3, (SameB.of (s1.trans S2)).trans s3, ⟨l, s3 _ _ hDs eD, ndl, fun x hx => ⟨(hl.primes x hx).1, by have := Nat.le_of_dvd (by omega) (M.fac_dvd hl hx); omega, (hl.primes x hx).2⟩, fun x hx => ⟨x.2, hx, Nat.le_refl _⟩, by omega, by rw [hl.prod]; omega⟩, _, _, rfl⟩ ?_ ?_
    · rintro i σ H4 hi ⟨st4, s4, ⟨L, hD4, nd, hL, hlL, hlen, hpr⟩, v3, v4, rfl⟩
      walk_at "g"
      refine mkL (by simp) fun l5 H5 nl5 el5 s5 => ?_
      have hls : l5 ≠ s := fun z => by
        obtain ⟨_, _, e, _⟩ := st4
        rw [z, e] at nl5; cases nl5
      walk_at "g"
      refine ⟨s, 25, rfl, by decide, by decide, st4.same s5, fun y H6 y0 y1 st6 s6 => ?_⟩
      walk_at "g"
      refine s_pickN (P := fun z => ∃ q : Nat, z = q ∧ M.Prime q ∧ q ≤ 97) (L97.map fun q : Nat => (q : Int)) (s6 _ _ hls el5) (by show 0 ≤ y ∧ y < 25; omega) (fun z hz => by
        obtain ⟨q, hq, rfl⟩ := List.mem_map.mp hz
        exact ⟨q, rfl, primes97 hq⟩) fun z hz => ?_
      obtain ⟨q, rfl, hq, hq97⟩ := hz
      have hD6 := s6 _ _ hDs (s5 _ _ hD4)
      walk_at "g"
      refine s_dget2 ?_
      walk_at "g"
      refine ⟨.inl ⟨_, .inl hD6⟩, ?_⟩
      walk_at "g"
      refine ⟨_, DGet.k (k := .inl (q : Int)) hD6, ?_⟩
      rw [pk_get]
      walk_at "g"
      refine ⟨s, 4, rfl, by decide, by decide, st6, fun w H7 w0 w1 st7 s7 => ?_⟩
      obtain ⟨w, rfl⟩ := Int.eq_ofNat_of_zero_le w0
      have hD7 := s7 _ _ hDs hD6
      walk_at "g"
      refine s_dputI hD7 (line2 (by unfold pKv; rw [List.length_map]; omega)) ?_
      rw [show ((cur L q : Nat) : Int) + 1 + (w : Int) = ((cur L q + (1 + w) : Nat) : Int) by push_cast; omega, pk_put]
      have S7 : SameB s H H7 := s4.trans ((SameB.of s5).trans (s6.trans s7))
      have st8 : StAt (upd H7 D (.dK (pKv (pkPut L q (cur L q + (1 + w)))))) s := by
        obtain ⟨x1, x2, x3, x4⟩ := st7
        exact ⟨x1, x2, by rw [upd_ne (Ne.symm hDs)]; exact x3, x4⟩
      walk_at "g"
      refine ⟨st8, S7.updn nD0, ⟨_, upd_same, pk_nd _ _ nd, fun x hx => ?_, fun x hx => ?_, ?_, ?_⟩, _, _, rfl⟩
      · rcases pk_mem hx with e | ⟨h1, _⟩
        · rw [e]; exact ⟨hq, by omega, by omega⟩
        · exact hL x h1
      · obtain ⟨b, hb, hle⟩ := hlL x hx
        by_cases e : x.1 = q
        · refine ⟨cur L q + (1 + w), by rw [e]; exact pk_has _ _, ?_⟩
          have := (pk_val nd (show (q, b) ∈ L by rw [← e]; exact hb)).2
          omega
        · exact ⟨b, pk_old hb e, hle⟩
      · have := pk_len (L := L) q (cur L q + (1 + w)); omega
      · rw [pk_prod nd, Nat.pow_succ, ← Nat.mul_assoc]
        refine Nat.mul_le_mul hpr ?_
        have h1 : q ^ (1 + w) ≤ 97 ^ (1 + w) := Nat.pow_le_pow_left hq97 _
        have h2 : (97 : Nat) ^ (1 + w) ≤ 97 ^ 4 := Nat.pow_le_pow_right (by decide) (by omega)
        omega
    · rintro σ H4 ⟨st4, s4, ⟨L, hD4, nd, hL, hlL, hlen, hpr⟩, v3, v4, rfl⟩
      have hpr6 : M.prodL L < 2 ^ 200 := by
        have h1 : ((97 : Nat) ^ 4) ^ c ≤ (97 ^ 4) ^ 6 := Nat.pow_le_pow_right (by decide) hc6
        have h2 : 4608 * ((97 : Nat) ^ 4) ^ c ≤ 4608 * (97 ^ 4) ^ 6 := Nat.mul_le_mul_left _ h1
        have h3 : 4608 * ((97 : Nat) ^ 4) ^ 6 < 2 ^ 200 := by decide
        omega
      walk_at "g"
      refine s_lc ?_
      walk_at "g"
      refine ⟨D, _, (L.map (·.1)).map fun d : Nat => (d : Int), rfl, .inl hD4, by unfold pKv; rw [List.map_map, List.map_map, List.map_map]; rfl, by rw [List.length_map, List.length_map]; omega, fun zs C ypm ysrt nC => ?_⟩
      obtain ⟨qs, rfl, pm, srt⟩ := ints_back ypm ysrt nd
      have SC : Same H4 (upd H4 C (.lst ((qs.map fun d : Nat => (d : Int)).map V.int))) := same_upd nC
      have eC : upd H4 C (.lst ((qs.map fun d : Nat => (d : Int)).map V.int)) C = some (.lst (nv qs)) := upd_same
      generalize upd H4 C (.lst ((qs.map fun d : Nat => (d : Int)).map V.int)) = H5 at SC eC ⊢
      have hD5 := SC _ _ hD4
      have st5 := st4.same SC
      have hps := pk_sort nd pm
      have hql : qs.length ≤ 17 := by rw [pm.length_eq, List.length_map]; omega
      walk_at "g"
      refine ⟨⟨_, SqL.of eC⟩, fun D2 hD2' => ?_⟩
      refine lc_list (fun i H3 => Same H5 H3 ∧ ∃ ys : List V, H3 D2 = some (.lst ys) ∧ Paired (fun x r => ∃ a s, x = V.ref a ∧ H3 a = some (.tup [.ref s, .int (r.2 : Nat)]) ∧ PaperAt 39 H3 s r.1) ys ((qs.take i).map fun q => (q, cur L q))) ⟨same_upd hD2', [], upd_same, by rw [List.take_zero]; exact .nil⟩ (fun i H3 _ I => SqL.of (I.1 _ _ eC)) ?_ ?_
      · rintro i x H6 hi ⟨s6, ys, hD6', pr⟩
        obtain ⟨q, hq, rfl⟩ := nv_get hi
        have hqm := List.mem_of_getElem? hq
        obtain ⟨y, hy, hyq⟩ := List.mem_map.mp (pm.mem_iff.mp hqm)
        have hyy := hL y hy
        rw [hyq] at hyy
        have hval := (pk_val nd (q := y.1) (b := y.2) hy)
        rw [hyq] at hval
        have hcur := hval.2
        have hil := (List.getElem?_eq_some_iff.mp hq).1
        have hyl : ys.length = i := by
          rw [pr.length, List.length_map, List.length_take]; omega
        walk_at "g"
        refine ⟨rfl, ?_⟩
        walk_at "g"
        refine ⟨q, rfl, hyy.1, by omega, by omega, fun s' H7 pa s7 => ?_⟩
        walk_at "g"
        refine s_dgetI (s7 _ _ (s6 _ _ hD5)) hval.1 ?_
        walk_at "g"
        refine mkT (by simp) fun t2 H8 nt2 et2 s8 => ?_
        have s78 := s7.trans s8
        refine ⟨ys, s78 _ _ hD6', line2 (by omega), same_upd' (s6.trans s78) hD2', ys ++ [.ref t2], upd_same, ?_⟩
        rw [take_more hq, List.map_append]
        have fr : ∀ {r : List V} {b : Addr}, H8 b = some (.tup r) → upd H8 D2 (.lst (ys ++ [.ref t2])) b = some (.tup r) := fun {r b} e => by
          rw [upd_ne (fun z => by rw [z, s78 _ _ hD6'] at e; cases e)]; exact e
        refine paired_snoc (paired_mono (fun x r ⟨a', s', e', h1, h2⟩ => ⟨a', s', e', fr (s78 _ _ h1), PaperAt.upd (s78 _ _ hD6') (h2.same s78)⟩) pr) ⟨t2, s', rfl, ?_, PaperAt.upd (s78 _ _ hD6') (pa.same s8)⟩
        show upd H8 D2 (.lst (ys ++ [.ref t2])) t2 = some (.tup [.ref s', .int ((cur L q : Nat) : Int)])
        rw [hcur]
        exact fr et2
      · rintro H6 ⟨s6, ys, hD6', pr⟩
        rw [nv_len, List.take_length] at pr
        walk_at "g"
        refine s_tupL (SqL.of hD6') fun u nu => ?_
        have S7 : Same H6 (upd H6 u (.tup ys)) := same_upd nu
        have e7 : upd H6 u (.tup ys) u = some (.tup ys) := upd_same
        generalize upd H6 u (.tup ys) = H7 at S7 e7 ⊢
        obtain ⟨pl, e5, pr'⟩ := pap_choose pr
        have hF : M.IsFac (M.prodL (facs pl)) (facs pl) := by
          refine ⟨?_, fun x hx => ?_, rfl⟩
          · rw [e5, List.pairwise_map]
            exact srt
          · rw [e5] at hx
            have := hL x (hps.mem_iff.mp hx)
            exact ⟨this.1, this.2.2⟩
        have hFp : M.prodL (facs pl) = M.prodL L := by rw [e5]; exact M.prodL_perm hps
        have F0 : 0 < M.prodL (facs pl) := prodL_pos0 fun x hx => (hF.primes x hx).1.pos
        walk_at "g"
        refine k u H7 pl _ ⟨ys, e7, paired_mono (fun _ _ ⟨t, e, h1, h2⟩ => ⟨t, e, S7 _ _ h1, h2.same S7⟩) pr'⟩ hF F0 (by rw [hFp]; exact hpr6) ?_ (fun r hr => ?_) ((st5.same s6).same S7) (s4.trans (SameB.of (SC.trans (s6.trans S7))))
        · refine M.fac_dvd_of hl hF F0 fun x hx => ?_
          obtain ⟨b, hb, hle⟩ := hlL x hx
          exact ⟨b, by rw [e5]; exact hps.mem_iff.mpr hb, hle⟩
        · have h1 : r.2 ∈ facs pl := facs_mem hr
          rw [e5] at h1
          exact (hL _ (hps.mem_iff.mp h1)).2.1

/-- a row in the place of one -/
structure Bent (n : Nat) (a : Int) (o q : Nat) (H : Hp) (rl : List ((Addr × Nat × Nat) × List V)) (i : Nat) (t : Addr) (X : List ((Addr × Nat × Nat) × List V)) : Prop where
  rows : RowsAt 38 H t X
  len : X.length ≤ 1
  cond : ∀ r ∈ X, (∃ c : Int, r.2 = [.int c]) ∧ 1 ≤ r.1.2.2 ∧ r.1.2.2 < 2 ^ 60 ∧ 2 ≤ r.1.2.1 ∧ r.1.2.1 < 2 ^ 100
  key : ∀ r ∈ X, r.1.2.1 = q
  bad : ¬ (o = M.prodL ((rl.take i ++ X ++ rl.drop (i + 1)).map fun r => r.1.2) ∧ ∀ r ∈ rl.take i ++ X ++ rl.drop (i + 1), restOf r = M.pw n a (o / r.1.2.1) ∧ restOf r ≠ 1)
theorem Bent.same {n : Nat} {a : Int} {o q : Nat} {H H' : Hp} {rl : List ((Addr × Nat × Nat) × List V)} {i : Nat} {t : Addr} {X : List ((Addr × Nat × Nat) × List V)} (h : Bent n a o q H rl i t X) (s : Same H H') : Bent n a o q H' rl i t X := ⟨h.rows.same s, h.len, h.cond, h.key, h.bad⟩
theorem bent_srt {rl X : List ((Addr × Nat × Nat) × List V)} {i : Nat} {r : (Addr × Nat × Nat) × List V} (hsrt : rl.Pairwise (fun a b => a.1.2.1 < b.1.2.1)) (hr : rl[i]? = some r) (hl : X.length ≤ 1) (hk : ∀ x ∈ X, x.1.2.1 = r.1.2.1) : (rl.take i ++ X ++ rl.drop (i + 1)).Pairwise (fun a b => a.1.2.1 < b.1.2.1) := by
  have hil := (List.getElem?_eq_some_iff.mp hr).1
  have hd : rl.drop i = r :: rl.drop (i + 1) := by
    rw [List.drop_eq_getElem_cons (by omega), (List.getElem?_eq_some_iff.mp hr).2]
  rw [← List.take_append_drop i rl, hd] at hsrt
  obtain ⟨h1, h2, h3⟩ := List.pairwise_append.mp hsrt
  have h4 := List.pairwise_cons.mp h2
  have hX : X.Pairwise (fun a b => a.1.2.1 < b.1.2.1) := by
    match X, hl with
    | [], _ => exact .nil
    | [x], _ => exact List.pairwise_singleton _ _
  refine List.pairwise_append.mpr ⟨List.pairwise_append.mpr ⟨h1, hX, fun x hx y hy => ?_⟩, h4.2, fun x hx y hy => ?_⟩
  · rw [hk y hy]
    exact h3 x hx r (by simp)
  · rcases List.mem_append.mp hx with w | w
    · exact h3 x w y (by simp [hy])
    · rw [hk x w]
      exact h4.1 y hy
/-- _law_let_by(state, n, a, due): the truth -/
def sp__law_let_by : Sp := fun vs H Q _ => ∃ (s : Addr) (n F : Nat) (a : Int) (t u : Addr) (pl : List (Addr × Nat × Nat)) (o : Nat), vs = [.ref s, .int n, .int a, .ref t] ∧ 2 ≤ n ∧ n < 2 ^ 700 ∧ M.Ord n a o ∧ o ≤ 1000 ∧ PartsAt 39 H u pl ∧ M.IsFac F (facs pl) ∧ 0 < F ∧ F < 2 ^ 200 ∧ o ∣ F ∧ (∀ r ∈ pl, r.2.1 ≤ 4608) ∧ OrdAt H t n a o pl ∧ StAt H s ∧ ∀ H', SameB s H H' → Q (.bl true) H'
theorem ok__law_let_by (T : Txt K mg) : FnOk P w K mg base CX0 127 (He.ga K "_law_let_by") (fd__law_let_by T) ["_law_state_here", "_law_n", "_law_a", "_law_due"] sp__law_let_by := by
  refine (F__law_let_by T).ok sc__law_let_by (fun vs H Q E h => ?_) (fun cdv A outer s H vs Q E hr h => ⟨_, PSs.nox (pss_cons (ps_if (pt_cmpR op_notBl (pe_call (ok_is_order_paper T) (hr.mono (by decide)) rfl (g_is_order_paper T) (kp_is_order_paper T) (B_is_order_paper T) .nil pass0 (pa_cons (pv 1) (pa_cons (pv 2) (pa_cons (pv 3) pa_nil)))) pe_bl (nomark _)) (pss_one (ps_ret pe_bl)) pss_nil)
      (pss_cons (ps_if (PW.pt (pw_and (pt_cmpR op_ne (pe_call (ok__law_power T) (hr.mono (by decide)) rfl (g__law_power T) (kp__law_power T) (B__law_power T) .nil pass0 (pa_cons (pe_op op_add (pv 1) pe_int) (pa_cons (pv 2) (pa_cons (pe_ix ix_seq (pv 3) pe_int (fun _ _ => rfl)) pa_nil)))) pe_int (nomark _)) (pw_and1 (pt_cmpR op_notBl (pe_call (ok_is_order_paper T) (hr.mono (by decide)) rfl (g_is_order_paper T) (kp_is_order_paper T) (B_is_order_paper T) .nil pass0 (pa_cons (pe_op op_add (pv 1) pe_int) (pa_cons (pv 2) (pa_cons (pv 3) pa_nil)))) pe_bl (nomark _))))) (pss_one (ps_ret pe_bl)) pss_nil)
      (pss_cons (ps_if (pt_cmpR (op_eqD hr.units) (pe_ix ix_seq (pv 3) pe_int (fun _ _ => rfl)) (pe_tup pa_nil) (nomark _)) (pss_one (ps_ret pe_bl)) pss_nil)
      (pss_cons (ps_set (i := 4) sc__law_let_by.nd rfl (Or.inl rfl) (pe_call (ok__law_take T) (hr.mono (by decide)) rfl (g__law_take T) (kp__law_take T) (B__law_take T) .nil pass0 (pa_cons (pv 0) (pa_cons (pe_callB callLen rfl (T.fr (T.c.fact 38 rfl)) boot_len (pa_cons (pe_ix ix_seq (pv 3) pe_int (fun _ _ => rfl)) pa_nil)) pa_nil))))
      (pss_cons (ps_asg (pe_ix ix_seq (pe_ix ix_seq (pv 3) pe_int (fun _ _ => rfl)) (pv 4) (fun _ _ => rfl)) (pg_tup rfl (pgs_cons (pg_name (i := 5) sc__law_let_by.nd rfl (Or.inl rfl)) (pgs_cons (pg_name (i := 6) sc__law_let_by.nd rfl (Or.inl rfl)) (pgs_cons (pg_name (i := 7) sc__law_let_by.nd rfl (Or.inl rfl)) pgs_nil)))))
      (pss_cons (ps_for PassesOwn.never rfl (pi_list (pe_lst (pa_cons (pe_tup (pa_cons (pe_tup (pa_cons (pv 5) (pa_cons (pv 6) (pa_cons (pe_op op_add (pv 7) pe_int) pa_nil)))) pa_nil)) (pa_cons (pe_tup (pa_cons (pe_tup (pa_cons (pv 5) (pa_cons (pe_op op_add (pv 6) pe_int) (pa_cons (pv 7) pa_nil)))) pa_nil)) (pa_cons (pe_tup pa_nil) pa_nil))))) (pg_name (i := 8) sc__law_let_by.nd rfl (Or.inl rfl)) (pss_one (ps_if (pt_cmpR op_notBl (pe_call (ok_is_order_paper T) (hr.mono (by decide)) rfl (g_is_order_paper T) (kp_is_order_paper T) (B_is_order_paper T) .nil pass0 (pa_cons (pv 1) (pa_cons (pv 2) (pa_cons (pe_tup (pa_cons (pe_ix ix_seq (pv 3) pe_int (fun _ _ => rfl)) (pa_cons (pe_op op_catA (pe_op op_catA (pe_slice sl_tupA (pe_ix ix_seq (pv 3) pe_int (fun _ _ => rfl)) po_none (po_some (pv 4))) (pv 8)) (pe_slice sl_tupA (pe_ix ix_seq (pv 3) pe_int (fun _ _ => rfl)) (po_some (pe_op op_add (pv 4) pe_int)) po_none)) pa_nil))) pa_nil)))) pe_bl (nomark _)) (pss_one (ps_ret pe_bl)) pss_nil)))
      (pss_one (ps_ret pe_bl)))))))), ?_⟩)
  · obtain ⟨s, n, F, a, t, u, pl, o, rfl, _⟩ := h; rfl
  · obtain ⟨s, n, F, a, t, u, pl, o, rfl, n2, nb, ho, ob, hP, hF, F0, Fb, hoF, hq, hO, hst, k⟩ := h
    have o0 := ho.pos
    have hq2 : ∀ r ∈ pl, 2 ≤ r.2.1 := fun r hr => (hF.primes _ (facs_mem hr)).1.1
    obtain ⟨w, ht, hR⟩ := ord_rows (hP.to38 fun r hr => by have := hq r hr; omega) hO
    obtain ⟨hc1, hc2, hc3⟩ := ordRl_cond2 (p := n) (a := a) hF F0 Fb hq o0 ob
    have hprod := ordRl_prod (n := n) (a := a) hF o0 hoF
    have one : M.pw n a o = 1 := (M.pw_one_iff n2).mpr ho.one
    have eo : ((o : Nat) : Int).toNat = o := by omega
    have hrest : ∀ r ∈ ordRl n a o pl, restOf r = M.pw n a (o / r.1.2.1) ∧ restOf r ≠ 1 := fun r hr => by
      obtain ⟨x, hx, rfl⟩ := List.mem_map.mp hr
      exact ⟨rfl, fun z => ord_no_one n2 ho hq2 (List.mem_map.mpr ⟨x, hx, z⟩)⟩
    generalize ordRl n a o pl = rl at hR hprod hc1 hc2 hc3 hrest
    have hcw : ∀ r ∈ rl, (∃ c : Int, r.2 = [.int c]) ∧ 1 ≤ r.1.2.2 ∧ r.1.2.2 < 2 ^ 60 ∧ 2 ≤ r.1.2.1 ∧ r.1.2.1 < 2 ^ 100 := fun r hr => by
      obtain ⟨h1, h2, h3, h4, h5⟩ := hc1 r hr
      exact ⟨h1, h2, by omega, h4, by omega⟩
    obtain ⟨xs, ew, pr⟩ := id hR
    have hxl := pr.length
    walk_at "g"
    refine ⟨n, a, t, rfl, n2, by omega, .inr (.inr ⟨(o : Int), w, rl, ht, by omega, hR, by omega, hcw, hc2, fun b H1 hb s1 => ?_⟩)⟩
    obtain rfl : b = true := hb.mpr ⟨by rw [hprod], by rw [eo]; exact one, fun r hr => by rw [eo]; exact hrest r hr⟩
    walk_at "g"
    refine s_notBl ?_
    walk_at "g"
    refine s_ixT (SqT.of (s1 _ _ ht)) (atI0 0 rfl rfl) ?_
    walk_at "g"
    refine ⟨((n : Int) + 1), a, o, rfl, by omega, by omega, ?_⟩
    walk_at "g"
    refine s_iten (fun c => ?y1) (fun c => ?n1)
    case' y1 =>
      walk_at "g"
      refine ⟨n + 1, a, t, by push_cast; rfl, by omega, by omega, .inr (.inr ⟨(o : Int), w, rl, s1 _ _ ht, by omega, hR.same s1, by omega, hcw, hc2, fun b H2 hb s2 => ?_⟩)⟩
      obtain rfl : b = false := by
        cases b with
        | false => rfl
        | true =>
          have h1 := (hb.mp rfl).2.1
          rw [eo] at h1
          exact absurd (by push_cast at h1; exact h1) c
      walk_at "g"
      refine s_notBl ?_
      obtain ⟨HZ, eH, S2⟩ : ∃ HZ, HZ = H2 ∧ Same H HZ := ⟨_, rfl, s1.trans s2⟩
      subst eH
    case' n1 =>
      obtain ⟨HZ, eH, S2⟩ : ∃ HZ, HZ = H1 ∧ Same H HZ := ⟨_, rfl, s1⟩
      subst eH
    all_goals (
      have ht2 := S2 _ _ ht
      have hR2 := hR.same S2
      have st2 := hst.same S2
      have ew2 := S2 _ _ ew
      walk_at "g"
      refine s_ixT (SqT.of ht2) (atI0 1 rfl rfl) ?_
      walk_at "g"
      refine mkT (by simp) fun t3 H3 nt3 et3 s3 => ?_
      obtain ⟨ds, d1, d2, d3⟩ := rows_dp K (hR2.same s3) fun r hr => ⟨by have := (hc1 r hr).2.2.2.2; omega, (hc1 r hr).1⟩
      walk_at "g"
      refine s_eqD (.tuple ds) (.tuple []) d1 (.tup (SqT.of et3) .nil) d3 (by rfl) ?_
      rw [eqv_empty]
      cases hds : ds.isEmpty with
      | true =>
        walk_at "g"
        exact k _ (SameB.of (S2.trans s3))
      | false =>
        have hne : 0 < rl.length := by
          rw [← d2]
          cases ds with
          | nil => simp at hds
          | cons _ _ => simp
        walk_at "g"
        refine s_ixT (SqT.of (s3 _ _ ht2)) (atI0 1 rfl rfl) ?_
        walk_at "g"
        refine s_lenT (SqT.of (s3 _ _ ew2)) ?_
        walk_at "g"
        refine ⟨s, (xs.length : Int), rfl, by omega, by omega, st2.same s3, fun z H4 z0 z1 st4 s4 => ?_⟩
        obtain ⟨i, rfl⟩ := Int.eq_ofNat_of_zero_le z0
        have S3 := S2.trans s3
        have st3 := st2.same s3
        have neS : ∀ {b : Addr} {r : List V}, H b = some (.tup r) → b ≠ s := fun {b r} e y => by
          obtain ⟨_, _, e0, _⟩ := hst
          rw [y, e0] at e; cases e
        have S4 : SameB s H H4 := (SameB.of S3).trans s4
        have ht4 := S4 _ _ (neS ht) ht
        have ew4 := S4 _ _ (neS ew) ew
        have hR4 : RowsAt 38 H4 w rl := by
          obtain ⟨xs', ew', pr'⟩ := hR
          exact ⟨xs', S4 _ _ (neS ew') ew', paired_mono (fun _ _ ⟨t, e, h1, h2⟩ => ⟨t, e, S4 _ _ (neS h1) h1, h2.sameB hst S4⟩) pr'⟩
        have pr4 : Paired (fun x r => ∃ t, x = V.ref t ∧ H4 t = some (.tup ([.ref r.1.1, .int (r.1.2.2 : Nat)] ++ r.2)) ∧ PaperAt 38 H4 r.1.1 r.1.2.1) xs rl := paired_mono (fun _ _ ⟨t, e, h1, h2⟩ => ⟨t, e, S4 _ _ (neS h1) h1, h2.sameB hst S4⟩) pr
        have hil : i < rl.length := by omega
        obtain ⟨⟨⟨r0, q, b⟩, rest⟩, hr⟩ : ∃ r, rl[i]? = some r := ⟨_, List.getElem?_eq_getElem hil⟩
        have hrm := hc1 _ (List.mem_of_getElem? hr)
        have hre := hrest _ (List.mem_of_getElem? hr)
        obtain ⟨⟨c0, hc0⟩, b1, b2, q2', qb'⟩ := hrm
        have hc0' : rest = [.int c0] := hc0
        subst hc0'
        have hre' : c0 = M.pw n a (o / q) := hre.1
        have q2'' : 2 ≤ q := q2'
        have qb'' : q ≤ 4608 := qb'
        have b1' : 1 ≤ b := b1
        have b2' : b < 100 := b2
        obtain ⟨x, hx, tx, rfl, etx, hPx⟩ := pget' pr4 hr
        have etx' : H4 tx = some (.tup [.ref r0, .int (b : Nat), .int c0]) := etx
        have hcut := prod_cut hr
        have hcut' : M.prodL (rl.map fun r => r.1.2) = M.prodL ((rl.take i ++ rl.drop (i + 1)).map fun r => r.1.2) * q ^ b := hcut
        rw [hprod] at hcut'
        walk_at "g"
        refine s_ixT (SqT.of ht4) (atI0 1 rfl rfl) ?_
        walk_at "g"
        refine s_ixT (SqT.of ew4) (atI0 i rfl hx) ?_
        walk_at "g"
        refine s_gtup (SqT.of etx') rfl ?_
        walk_at "g"
        refine mkT (by simp) fun t5 H5 nt5 et5 s5 => ?_
        walk_at "g"
        refine mkT (by simp) fun t6 H6 nt6 et6 s6 => ?_
        walk_at "g"
        refine mkT (by simp) fun t7 H7 nt7 et7 s7 => ?_
        walk_at "g"
        refine mkT (by simp) fun t8 H8 nt8 et8 s8 => ?_
        walk_at "g"
        refine mkT (by simp) fun t9 H9 nt9 et9 s9 => ?_
        walk_at "g"
        refine mkL (by simp) fun Z H10 nZ eZ s10 => ?_
        walk_at "g"
        have SZ : Same H4 H10 := s5.trans (s6.trans (s7.trans (s8.trans (s9.trans s10))))
        have hbase : ∀ X : List ((Addr × Nat × Nat) × List V), M.prodL ((rl.take i ++ X ++ rl.drop (i + 1)).map fun r => r.1.2) = M.prodL ((rl.take i ++ rl.drop (i + 1)).map fun r => r.1.2) * M.prodL (X.map fun r => r.1.2) := fun X => by
          rw [List.map_append, List.map_append, M.prodL_app, M.prodL_app, List.map_append, M.prodL_app]
          grind
        have hpc0 : 0 < M.prodL ((rl.take i ++ rl.drop (i + 1)).map fun r => r.1.2) := Nat.pos_of_ne_zero fun z => by rw [z, Nat.zero_mul] at hcut'; omega
        have hqb : 2 ≤ q ^ b := by
          have h1 : q ^ 1 ≤ q ^ b := Nat.pow_le_pow_right (by omega) b1'
          rw [Nat.pow_one] at h1
          omega
        have hB : ∀ (j : Nat) (v : V), [V.ref t6, V.ref t8, V.ref t9][j]? = some v → ∃ to X, v = .ref to ∧ Bent n a o q H10 rl i to X := by
          intro j v hv
          have hj : j < 3 := (List.getElem?_eq_some_iff.mp hv).1
          have hj3 : j = 0 ∨ j = 1 ∨ j = 2 := by omega
          rcases hj3 with rfl | rfl | rfl
          · cases hv
            refine ⟨t6, [((r0, q, b), [V.int (c0 + 1)])], rfl, ⟨⟨_, (s7.trans (s8.trans (s9.trans s10))) _ _ et6, .cons ⟨t5, rfl, (s6.trans (s7.trans (s8.trans (s9.trans s10)))) _ _ et5, PaperAt.same hPx SZ⟩ .nil⟩, by simp, fun r hr => ?_, fun r hr => by rw [List.mem_singleton.mp hr], fun z => ?_⟩⟩
            · rw [List.mem_singleton.mp hr]; exact ⟨⟨_, rfl⟩, b1', by show b < _; omega, q2'', by show q < _; omega⟩
            · have h9 := (z.2 ((r0, q, b), [V.int (c0 + 1)]) (by simp)).1
              have h10 : c0 + 1 = M.pw n a (o / q) := h9
              omega
          · cases hv
            refine ⟨t8, [((r0, q, b + 1), [V.int c0])], rfl, ⟨⟨_, (s9.trans s10) _ _ et8, .cons ⟨t7, rfl, ?_, PaperAt.same hPx SZ⟩ .nil⟩, by simp, fun r hr => ?_, fun r hr => by rw [List.mem_singleton.mp hr], fun z => ?_⟩⟩
            · have := (s8.trans (s9.trans s10)) _ _ et7
              rw [this]; push_cast; rfl
            · rw [List.mem_singleton.mp hr]; exact ⟨⟨_, rfl⟩, by show 1 ≤ b + 1; omega, by show b + 1 < _; omega, q2'', by show q < _; omega⟩
            · have h9 := z.1
              rw [hbase] at h9
              have h10 : M.prodL ([((r0, q, b + 1), [V.int c0])].map fun r : (Addr × Nat × Nat) × List V => r.1.2) = q ^ b * q := by simp [M.prodL, Nat.pow_succ]
              rw [h10, ← Nat.mul_assoc, ← hcut'] at h9
              have : o * 2 ≤ o * q := Nat.mul_le_mul_left o q2''
              omega
          · cases hv
            refine ⟨t9, [], rfl, ⟨⟨_, s10 _ _ et9, .nil⟩, by simp, by simp, by simp, fun z => ?_⟩⟩
            have h9 := z.1
            rw [hbase] at h9
            have h10 : M.prodL (([] : List ((Addr × Nat × Nat) × List V)).map fun r => r.1.2) = 1 := rfl
            rw [h10, Nat.mul_one] at h9
            rw [← h9] at hcut'
            have : o * 2 ≤ o * q ^ b := Nat.mul_le_mul_left o hqb
            omega
        refine ⟨⟨_, SqL.of eZ⟩, ?_⟩
        have ht10 := SZ _ _ ht4
        have ew10 := SZ _ _ ew4
        have hR10 := hR4.same SZ
        refine for_list (fun j σ H' => Same H10 H' ∧ ∃ v8 : Option V, σ = [some (.ref s), some (.int n), some (.int a), some (.ref t), some (.int (i : Nat)), some (.ref r0), some (.int (b : Nat)), some (.int c0), v8]) ⟨Same.refl _, _, rfl⟩ (fun j σ H' _ I => SqL.of (I.1 _ _ eZ)) ?_ ?_
        · rintro j v σ H11 hj ⟨s11, v8, rfl⟩
          obtain ⟨to, X, rfl, hBx⟩ := hB j v hj
          have hB11 := hBx.same s11
          have ht11 := s11 _ _ ht10
          have ew11 := s11 _ _ ew10
          have hXl := hB11.len
          obtain ⟨ys, eto, prX⟩ := hB11.rows
          have hyl := prX.length
          walk_at "g"
          refine s_ixT (SqT.of ht11) (atI0 0 rfl rfl) ?_
          walk_at "g"
          refine s_ixT (SqT.of ht11) (atI0 1 rfl rfl) ?_
          walk_at "g"
          refine mkSlA (SqT.of ew11) ew11 fun l12 H12 e12 s12 => ?_
          rw [cut_take xs i (by omega)] at e12
          walk_at "g"
          refine mkCatA e12 (s12 _ _ eto) (by rw [List.length_take]; omega) fun l13 H13 e13 s13 => ?_
          walk_at "g"
          have S13 := s12.trans s13
          refine s_ixT (SqT.of (S13 _ _ ht11)) (atI0 1 rfl rfl) ?_
          walk_at "g"
          rw [show ((i : Nat) : Int) + 1 = ((i + 1 : Nat) : Int) by omega]
          refine mkSlA (SqT.of (S13 _ _ ew11)) (S13 _ _ ew11) fun l14 H14 e14 s14 => ?_
          rw [cut_drop xs (i + 1) (by omega)] at e14
          walk_at "g"
          refine mkCatA (s14 _ _ e13) e14 (by rw [List.length_append, List.length_take, List.length_drop]; omega) fun l15 H15 e15 s15 => ?_
          walk_at "g"
          refine mkT (by simp) fun D H16 nD eD s16 => ?_
          have S15 := S13.trans (s14.trans s15)
          have hR' : RowsAt 38 H15 l15 (rl.take i ++ X ++ rl.drop (i + 1)) := by
            obtain ⟨xs', ew', pr'⟩ := (hR10.same s11).same S15
            have : xs' = xs := by
              have h1 := S15 _ _ ew11
              rw [ew'] at h1
              cases h1; rfl
            subst this
            obtain ⟨ys', et', prX'⟩ := hB11.rows.same S15
            have : ys' = ys := by
              have h1 := S15 _ _ eto
              rw [et'] at h1
              cases h1; rfl
            subst this
            exact ⟨_, e15, paired_append (paired_append (paired_take i pr') prX') (paired_drop (i + 1) pr')⟩
          walk_at "g"
          refine ⟨n, a, D, rfl, n2, by omega, .inr (.inr ⟨(o : Int), l15, _, eD, by omega, hR'.same s16, by rw [List.length_append, List.length_append, List.length_take, List.length_drop]; omega, fun r hr => ?_, bent_srt hc2 hr hXl hB11.key, fun b' H17 hb' s17 => ?_⟩)⟩
          · rcases List.mem_append.mp hr with y | y
            · rcases List.mem_append.mp y with w' | w'
              · exact hcw r (List.mem_of_mem_take w')
              · exact hB11.cond r w'
            · exact hcw r (List.mem_of_mem_drop y)
          · obtain rfl : b' = false := by
              cases b' with
              | false => rfl
              | true =>
                have h1 := hb'.mp rfl
                refine absurd ⟨by omega, fun r hr => ?_⟩ hB11.bad
                have := h1.2.2 r hr
                rw [eo] at this
                exact this
            walk_at "g"
            refine s_notBl ?_
            walk_at "g"
            exact ⟨s11.trans (S15.trans (s16.trans s17)), _, rfl⟩
        · rintro σ H11 ⟨s11, v8, rfl⟩
          walk_at "g"
          exact k _ (S4.trans (SameB.of (SZ.trans s11))))

/-- _law_right(state): the truth -/
def sp__law_right : Sp := fun vs H Q _ => ∃ (s : Addr), vs = [.ref s] ∧ StAt H s ∧ ∀ H', SameB s H H' → Q (.bl true) H'
theorem ok__law_right (T : Txt K mg) : FnOk P w K mg base CX0 131 (He.ga K "_law_right") (fd__law_right T) ["_law_state_here"] sp__law_right := by
  refine (F__law_right T).ok sc__law_right (fun vs H Q E h => ?_) (fun cdv A outer s H vs Q E hr h => ⟨_, PSs.nox (pss_cons (ps_set (i := 1) sc__law_right.nd rfl (Or.inl rfl) (pe_op op_add pe_int (pe_call (ok__law_take T) (hr.mono (by decide)) rfl (g__law_take T) (kp__law_take T) (B__law_take T) .nil pass0 (pa_cons (pv 0) (pa_cons (pe_ix ix_seq (pe_lst (pa_cons pe_int (pa_cons (pe_op op_sub (pe_op op_pow pe_int pe_int) pe_int) pa_nil))) (pe_call (ok__law_take T) (hr.mono (by decide)) rfl (g__law_take T) (kp__law_take T) (B__law_take T) .nil pass0 (pa_cons (pv 0) (pa_cons pe_int pa_nil))) (fun _ _ => rfl)) pa_nil)))))
      (pss_cons (ps_set (i := 2) sc__law_right.nd rfl (Or.inl rfl) (pe_call (ok__law_exponent T) (hr.mono (by decide)) rfl (g__law_exponent T) (kp__law_exponent T) (B__law_exponent T) .nil pass0 (pa_cons (pv 0) (pa_cons (pv 1) pa_nil))))
      (pss_cons (ps_set (i := 3) sc__law_right.nd rfl (Or.inl rfl) (pe_op op_sub (pe_call (ok__law_raised T) (hr.mono (by decide)) rfl (g__law_raised T) (kp__law_raised T) (B__law_raised T) .nil pass0 (pa_cons (pv 1) (pa_cons (pv 2) pa_nil))) pe_int))
      (pss_cons (ps_set (i := 4) sc__law_right.nd rfl (Or.inl rfl) (pv 2))
      (pss_cons (ps_if (PW.pt (pw_or (pt_cmpR op_lt (pv 3) pe_int (nomark _)) (pw_or1 (pt_cmpR op_eq (pe_call (ok__law_take T) (hr.mono (by decide)) rfl (g__law_take T) (kp__law_take T) (B__law_take T) .nil pass0 (pa_cons (pv 0) (pa_cons pe_int pa_nil))) pe_int (nomark _))))) (pss_cons (ps_set (i := 3) sc__law_right.nd rfl (Or.inl rfl) (pe_op op_add (pe_call (ok__law_raised T) (hr.mono (by decide)) rfl (g__law_raised T) (kp__law_raised T) (B__law_raised T) .nil pass0 (pa_cons (pv 1) (pa_cons (pv 2) pa_nil))) pe_int))
      (pss_one (ps_set (i := 4) sc__law_right.nd rfl (Or.inl rfl) (pe_op op_mulW pe_int (pv 2))))) pss_nil)
      (pss_cons (ps_set (i := 5) sc__law_right.nd rfl (Or.inl rfl) (pe_call (ok__law_take T) (hr.mono (by decide)) rfl (g__law_take T) (kp__law_take T) (B__law_take T) .nil pass0 (pa_cons (pv 0) (pa_cons pe_int pa_nil))))
      (pss_cons (ps_set (i := 6) sc__law_right.nd rfl (Or.inl rfl) (pe_op op_fdivW (pv 4) (pe_call (ok__law_divisor T) (hr.mono (by decide)) rfl (g__law_divisor T) (kp__law_divisor T) (B__law_divisor T) .nil pass0 (pa_cons (pv 4) (pa_cons (pv 5) pa_nil)))))
      (pss_cons (ps_set (i := 7) sc__law_right.nd rfl (Or.inl rfl) (pe_call (ok__law_papers T) (hr.mono (by decide)) rfl (g__law_papers T) (kp__law_papers T) (B__law_papers T) .nil pass0 (pa_cons (pv 0) (pa_cons (pe_op op_mulW (pv 4) (pe_op op_add pe_int (pe_call (ok__law_take T) (hr.mono (by decide)) rfl (g__law_take T) (kp__law_take T) (B__law_take T) .nil pass0 (pa_cons (pv 0) (pa_cons pe_int pa_nil))))) pa_nil))))
      (pss_cons (ps_set (i := 8) sc__law_right.nd rfl (Or.inl rfl) (pe_call (ok__law_power T) (hr.mono (by decide)) rfl (g__law_power T) (kp__law_power T) (B__law_power T) .nil pass0 (pa_cons (pv 3) (pa_cons (pv 1) (pa_cons (pv 5) pa_nil)))))
      (pss_cons (ps_set (i := 9) sc__law_right.nd rfl (Or.inl rfl) (pe_call (ok__law_paper_due T) (hr.mono (by decide)) rfl (g__law_paper_due T) (kp__law_paper_due T) (B__law_paper_due T) .nil pass0 (pa_cons (pv 3) (pa_cons (pv 8) (pa_cons (pv 6) (pa_cons (pv 7) pa_nil))))))
      (pss_cons (ps_if (PW.pt (pw_or (pt_not (pt_val (pe_call (ok__law_same T) (hr.mono (by decide)) rfl (g__law_same T) (kp__law_same T) (B__law_same T) .nil pass0 (pa_cons (pe_call (ok_order_from T) (hr.mono (by decide)) rfl (g_order_from T) (kp_order_from T) (B_order_from T) .nil passL (pa_cons (pv 3) (pa_cons (pv 8) (pa_cons (pv 7) pa_nil)))) (pa_cons (pv 9) pa_nil))))) (pw_or1 (pt_not (pt_val (pe_call (ok__law_same T) (hr.mono (by decide)) rfl (g__law_same T) (kp__law_same T) (B__law_same T) .nil pass0 (pa_cons (pe_call (ok_order_from T) (hr.mono (by decide)) rfl (g_order_from T) (kp_order_from T) (B_order_from T) .nil passL (pa_cons (pv 3) (pa_cons (pe_op op_sub (pv 8) (pv 3)) (pa_cons (pv 7) pa_nil)))) (pa_cons (pv 9) pa_nil)))))))) (pss_one (ps_ret pe_bl)) pss_nil)
      (pss_one (ps_ret (pe_call (ok__law_let_by T) (hr.mono (by decide)) rfl (g__law_let_by T) (kp__law_let_by T) (B__law_let_by T) .nil pass0 (pa_cons (pv 0) (pa_cons (pv 3) (pa_cons (pv 8) (pa_cons (pv 9) pa_nil)))))))))))))))))), ?_⟩)
  · obtain ⟨s, rfl, _⟩ := h; rfl
  · obtain ⟨s, rfl, hst, k⟩ := h
    walk_at "g"
    refine mkL (by simp) fun l1 H1 nl1 el1 s1 => ?_
    have hls : l1 ≠ s := fun z => by
      obtain ⟨_, _, e, _⟩ := hst
      rw [z, e] at nl1; cases nl1
    walk_at "g"
    refine ⟨s, 2, rfl, by decide, by decide, hst.same s1, fun y H2 y0 y1 st2 s2 => ?_⟩
    walk_at "g"
    refine s_pick2 (P := fun z => 0 < z ∧ z ≤ 1000000) (s2 _ _ hls el1) (by omega) (by decide) (by decide) fun m hm => ?_
    walk_at "g"
    refine ⟨s, m, rfl, hm.1, by omega, st2, fun b0 H3 b00 b01 st3 s3 => ?_⟩
    obtain ⟨b0, rfl⟩ := Int.eq_ofNat_of_zero_le b00
    obtain ⟨b, hb⟩ : ∃ b : Nat, b = 2 + b0 := ⟨_, rfl⟩
    have ebi : (2 : Int) + (b0 : Int) = (b : Int) := by omega
    have S3 : SameB s H H3 := (SameB.of s1).trans (s2.trans s3)
    walk_at "g"
    try rw [ebi]
    walk_at "g"
    refine ⟨s, b, rfl, by omega, by omega, st3, fun e H4 e1 e9 hbe st4 s4 => ?_⟩
    have S4 := S3.trans s4
    have hbe8 : b ^ e < 2 ^ 200 := Nat.lt_trans hbe (by decide)
    have hp1 : 1 < b ^ e := Nat.one_lt_pow (by omega) (by omega)
    walk_at "g"
    refine ⟨b, e, rfl, by omega, by omega, by omega, by omega, ?_⟩
    walk_at "h"
    refine s_join (fun σ' H' => StAt H' s ∧ SameB s H H' ∧ ∃ n W : Nat, σ' = [some (.ref s), some (.int b), some (.int e), some (.int n), some (.int W), none, none, none, none, none] ∧ 2 ≤ n ∧ n < 2 ^ 201 ∧ M.Ord n (b : Int) W ∧ 1 ≤ W ∧ W ≤ 384) ?_ fun N J => ?_
    case refine_2 =>
      have hplus := M.ord_plus (b := b) (e := e) (by omega) (by omega)
      have hminus := M.ord_minus (b := b) (e := e) (by omega) (by omega)
      have en : ((b ^ e : Nat) : Int) + 1 = ((b ^ e + 1 : Nat) : Int) := by push_cast; rfl
      have ew : (2 : Int) * (e : Int) = ((2 * e : Nat) : Int) := by push_cast; rfl
      walk_at "g"
      refine s_ite (fun c => ?_) (fun c => ?_)
      · walk_at "g"
        refine ⟨b, e, rfl, by omega, by omega, by omega, by omega, ?_⟩
        walk_at "g"
        refine J _ _ ⟨st4, S4, b ^ e + 1, 2 * e, by rw [← en, ← ew]; rfl, by omega, by omega, hplus, by omega, by omega⟩
      · walk_at "g"
        refine ⟨s, 2, rfl, by decide, by decide, st4, fun z H5 z0 z1 st5 s5 => ?_⟩
        have S5 := S4.trans s5
        walk_at "g"
        refine s_ite (fun c2 => ?_) (fun c2 => ?_)
        · walk_at "g"
          refine ⟨b, e, rfl, by omega, by omega, by omega, by omega, ?_⟩
          walk_at "g"
          refine J _ _ ⟨st5, S5, b ^ e + 1, 2 * e, by rw [← en, ← ew]; rfl, by omega, by omega, hplus, by omega, by omega⟩
        · walk_at "g"
          refine J _ _ ⟨st5, S5, b ^ e - 1, e, by rw [show ((b ^ e - 1 : Nat) : Int) = ((b ^ e : Nat) : Int) - 1 by omega]; rfl, by omega, by omega, hminus, by omega, by omega⟩
    rintro σ' H5 ⟨st5, S5, n, W, rfl, n2, nb, ho, W1, W9⟩
    walk_at "g"
    refine ⟨s, 41, rfl, by decide, by decide, st5, fun j H6 j0 j1 st6 s6 => ?_⟩
    obtain ⟨j, rfl⟩ := Int.eq_ofNat_of_zero_le j0
    walk_at "g"
    refine ⟨W, j, rfl, ?_⟩
    have hg0 : 0 < Nat.gcd W j := Nat.gcd_pos_of_pos_left _ (by omega)
    have hgl : Nat.gcd W j ≤ W := Nat.gcd_le_left _ (by omega)
    walk_at "g"
    refine s_i (divW (by omega) (by omega)) ?_
    rw [← Int.natCast_ediv]
    have hoa := ho.pw j
    rw [Nat.gcd_comm] at hoa
    have hol := Nat.div_le_self W (Nat.gcd W j)
    have hodv : W / Nat.gcd W j ∣ W := Nat.div_dvd_of_dvd (Nat.gcd_dvd_left W j)
    generalize W / Nat.gcd W j = o at hoa hol hodv ⊢
    walk_at "g"
    refine ⟨s, 12, rfl, by decide, by decide, st6, fun v H7 v0 v1 st7 s7 => ?_⟩
    obtain ⟨v, rfl⟩ := Int.eq_ofNat_of_zero_le v0
    have hWv : W * (1 + v) ≤ 384 * 12 := Nat.mul_le_mul W9 (by omega)
    have hWv1 : 1 ≤ W * (1 + v) := Nat.mul_pos W1 (by omega)
    walk_at "g"
    try refine s_i (mulW (by omega) (by omega)) ?_
    rw [show (W : Int) * (1 + (v : Int)) = ((W * (1 + v) : Nat) : Int) by push_cast; rfl]
    walk_at "g"
    refine ⟨s, W * (1 + v), rfl, hWv1, by omega, st7, fun u H8 pl F hP hF F0 Fb hWF hq st8 s8 => ?_⟩
    have S8 := S5.trans (s6.trans (s7.trans s8))
    have hoF : o ∣ F := Nat.dvd_trans (Nat.dvd_trans hodv (Nat.dvd_mul_right W (1 + v))) hWF
    have hpl := pl_len hF F0 Fb
    have hq2 : ∀ r ∈ pl, 2 ≤ r.2.1 := fun r hr => (hF.primes _ (facs_mem hr)).1.1
    have o0 := hoa.pos
    walk_at "g"
    refine ⟨(n : Int), (b : Int), j, rfl, by omega, by omega, ?_⟩
    have ha0 : 0 ≤ M.pw n b j := Int.emod_nonneg _ (by omega)
    have ha1 : M.pw n b j < n := Int.emod_lt_of_pos _ (by omega)
    generalize M.pw n b j = a at hoa ha0 ha1 ⊢
    walk_at "g"
    refine ⟨39, n, a, u, pl, o, rfl, hP, hpl, fun r hr => ⟨hq2 r hr, by have := hq r hr; omega⟩, n2, by omega, o0, by omega, fun t H9 s9 hO => ?_⟩
    have hP9 := hP.same s9
    walk_at "g"
    refine ⟨n, 39, F, a, u, pl, rfl, n2, by omega, hP9, hF, F0, Fb, fun z => absurd (hoa.iffN.mpr hoF) z, fun o2 ho2 _ t2 H10 hO2 s10 => ?_⟩
    obtain rfl := ho2.uniqueN hoa
    walk_at "g"
    refine ⟨.ref t2, .ref t, rfl, Sm.mono (sm_ord (hP9.same s10) (fun r hr => by have := hq r hr; omega) hpl hO2 (hO.same s10)) (by decide), fun H11 s11 => ?_⟩
    have S11 := s10.trans s11
    have hoa2 : M.Ord n (a - n) o2 := hoa.congr ⟨1, by omega⟩
    walk_at "g"
    refine ⟨n, 39, F, a - n, u, pl, rfl, n2, by omega, hP9.same S11, hF, F0, Fb, fun z => absurd (hoa2.iffN.mpr hoF) z, fun o3 ho3 _ t3 H12 hO3 s12 => ?_⟩
    obtain rfl := ho3.uniqueN hoa2
    have hO' : OrdAt H9 t n (a - n) o3 pl := by
      obtain ⟨w', ys', f1, f2, f3⟩ := hO
      refine ⟨w', ys', f1, f2, ?_⟩
      have e : ordRows n (a - n) o3 pl = ordRows n a o3 pl := by
        unfold ordRows
        refine List.map_congr_left fun r _ => ?_
        have : M.pw n (a - n) (o3 / r.2.1) = M.pw n a (o3 / r.2.1) := by
          rw [← M.pw_mod n (a - n), ← M.pw_mod n a, Int.sub_emod_right]
        rw [this]
      rw [e]
      exact f3
    walk_at "g"
    refine ⟨.ref t3, .ref t, rfl, Sm.mono (sm_ord ((hP9.same S11).same s12) (fun r hr => by have := hq r hr; omega) hpl hO3 ((hO'.same S11).same s12)) (by decide), fun H13 s13 => ?_⟩
    have S13 : Same H9 H13 := S11.trans (s12.trans s13)
    walk_at "g"
    refine ⟨s, n, F, a, t, u, pl, o3, rfl, n2, by omega, hoa, by omega, hP9.same S13, hF, F0, Fb, hoF, hq, hO.same S13, (st8.same s9).same S13, fun H14 s14 => ?_⟩
    exact k _ ((S8.trans (SameB.of (s9.trans S13))).trans s14)

/-- the law -/
def sp_law (K : PySem.W.Frag) : Sp := fun vs H Q _ => ∃ (a : Addr) (ns : List Int), vs = [.ref a] ∧ ns.length ≤ 63 ∧ SqL K H a (ns.map V.int) ∧ ∀ H', Q (.bl true) H'
theorem ok_law (T : Txt K mg) : FnOk P w K mg base CX0 132 (He.ga K "law") (fd_law T) ["_law_script"] (sp_law K) := by
  refine (F_law T).ok sc_law (fun vs H Q E h => ?_) (fun cdv A outer s H vs Q E hr h => ⟨_, PSs.nox (pss_cons (ps_for PassesOwn.never rfl (pi_list (pe_op op_cat (pe_slice sl_list (pv 0) po_none (po_some pe_int)) (pe_lst (pa_cons pe_int pa_nil)))) (pg_name (i := 1) sc_law.nd rfl (Or.inl rfl)) (pss_one (ps_if (pt_not (pt_val (pe_call (ok__law_right T) (hr.mono (by decide)) rfl (g__law_right T) (kp__law_right T) (B__law_right T) .nil pass0 (pa_cons (pe_call (ok__law_state T) (hr.mono (by decide)) rfl (g__law_state T) (kp__law_state T) (B__law_state T) .nil pass0 (pa_cons (pv 1) pa_nil)) pa_nil)))) (pss_one (ps_ret pe_bl)) pss_nil)))
      (pss_one (ps_ret pe_bl))), ?_⟩)
  · obtain ⟨a, ns, rfl, _⟩ := h; rfl
  · obtain ⟨a, ns, rfl, hlen, hS, k⟩ := h
    walk_at "g"
    refine mkSl hS fun l H0 hl hL s0 => ?_
    walk_at "g"
    refine mkL (by simp) fun l2 H1 hl2 hL2 s1 => ?_
    have zl := cutV_length (ns.map V.int) none (some 30)
    rw [List.length_map] at zl
    refine mkCat (s1 _ _ hL) hL2 (by simp; omega) fun l3 H2 n3 e3 s2 => ?_
    walk_at "g"
    refine ⟨⟨_, SqL.of e3⟩, ?_⟩
    refine for_list (fun i σ H' => Same H2 H' ∧ ∃ r1 : Option V, σ = [some (.ref a), r1]) ⟨Same.refl _, _, rfl⟩ (fun i σ H' _ I => SqL.of (I.1 _ _ e3)) ?_ ?_
    · rintro i x σ H' hi ⟨hs, r1, rfl⟩
      have hc : ∃ c, x = V.int c := by
        rcases List.mem_append.mp (get_mem hi) with z | z
        · obtain ⟨c, e, _⟩ := of_mem_ints (cutV_mem z)
          exact ⟨c, e⟩
        · exact ⟨0, by simpa using z⟩
      obtain ⟨c, rfl⟩ := hc
      walk_at "g"
      refine ⟨c, rfl, fun p3 H3 np s3 st3 => ?_⟩
      walk_at "g"
      refine ⟨p3, rfl, st3, fun H4 s4 => ?_⟩
      walk_at "g"
      exact ⟨hs.trans (s4.same np s3), _, rfl⟩
    · rintro σ H' ⟨hs, r1, rfl⟩
      walk_at "g"
      exact k H'
theorem law_end {K : PySem.W.Frag} {H : Hp} {a : Addr} {ns : List Int} (hl : ns.length ≤ 63) (hb : ∀ z ∈ ns, Builtin.Int.intBits z ≤ 1048576) (hS : SqL K H a (ns.map V.int)) : sp_law K [.ref a] H (fun v _ => v = .bl true) fun _ _ _ => False :=
  ⟨a, ns, rfl, hl, hS, fun _ => rfl⟩

theorem facts {h : Heap} {f : Addr} (X : K.In h) (G : h.Ns mainGlobals mg) (hfa : mg ("law" : Str) = some (.ref f)) (c : Told fa fn K) :
    ∃ fd : FuncData, (∀ (s : Shared) (v : Value), BindsTo s fd ⟨[v], []⟩ [("_law_script", v)]) ∧ ∀ base : Heap, K.In base → base.Ns mainGlobals mg → FnOk P w K mg base CX0 132 f fd ["_law_script"] (sp_law K) := by
  have T : Txt K mg := ⟨c, fun z => He.glo_ok X G z, fun z => He.free_ok X G z, fun z => He.int_ok X G z⟩
  have e := hfa.symm.trans (g_law T)
  cases e
  have b := FunD.bindsA (ps := ["_law_script"]) (F_law T) fun _ _ _ _ _ _ us hl => match us, hl with | [_], _ => rfl
  exact ⟨fd_law T, fun s v => b s [v] rfl, fun base _ _ => ok_law T⟩
end
abbrev RR : PySem.W.OpenRow := PySem.W.OpenLaw.row PySem.Challenge.rw_rootprime_k31_orders_by_what_lies_beside
abbrev hk : PySem.W.Hook := hookR 5 fa fn
def ob (s : PySem.W.SharedT) : He.AlD := toldG 5 fa fn (HandSHeadRun.getT s)
theorem ob_eq (s : PySem.W.SharedT) : ob s = hk.obs s.abs := toldG_eq (HandSHeadRun.getT_eq s)
theorem run (w : World) : HandSHeadRun.RunEq RR (PySem.W.view RR.prog [39]) hk ob 3570 ["taken", "whole_of", "divisor", "inverse", "power", "plain_parting", "taken_out", "order_from", "is_whole", "is_row_of", "are_papers", "comes_to", "is_parting_paper", "is_prime_paper", "is_order_paper", "_law_state", "_law_take", "_law_power", "_law_parted", "_law_paper", "_law_times", "_law_same", "_law_paper_due", "_law_divisor", "_law_raised", "_law_exponent", "_law_papers", "_law_let_by", "_law_right", "PrimeError", "NoInverse", "NoOrder"] w := by
  intro os
  kernel_rfl
end C
open PySem PySem.W PySem.Calls PyProof.Rows
set_option maxRecDepth 100000 in
set_option maxHeartbeats 0 in
theorem PySem.Challenge.cw_rootprime_k31_orders_by_what_lies_beside_holds : PySem.Challenge.rw_rootprime_k31_orders_by_what_lies_beside.Holds := by
  w_on; o_law
  refine HandSHeadRun.head_any (r := OpenLaw.row PySem.Challenge.rw_rootprime_k31_orders_by_what_lies_beside) (q := view (OpenLaw.row PySem.Challenge.rw_rootprime_k31_orders_by_what_lies_beside).prog [39]) (H := C.hk) (ob := C.ob) (M := 3570) (loose := ["taken", "whole_of", "divisor", "inverse", "power", "plain_parting", "taken_out", "order_from", "is_whole", "is_row_of", "are_papers", "comes_to", "is_parting_paper", "is_prime_paper", "is_order_paper", "_law_state", "_law_take", "_law_power", "_law_parted", "_law_paper", "_law_times", "_law_same", "_law_paper_due", "_law_divisor", "_law_raised", "_law_exponent", "_law_papers", "_law_let_by", "_law_right", "PrimeError", "NoInverse", "NoOrder"]) (d := HandSHeadRun.topDef (OpenLaw.row PySem.Challenge.rw_rootprime_k31_orders_by_what_lies_beside).prog 39) (kwd := []) C.ob_eq
    (by kernel_rfl) (fun s => by kernel_rfl) C.run (by kernel_rfl) (by kernel_rfl) (by kernel_rfl) (by rfl) (by first | assumption | decide +kernel) (by decide +kernel) ⟨rfl, rfl, rfl, rfl, rfl, by decide +kernel⟩ ?hw ?hc
  case hw => w_witness2
  case hc =>
    refine R.walk_ofEB (l := PySem.Challenge.rw_rootprime_k31_orders_by_what_lies_beside) (n := 63) (k := 132) (prm := "_law_script") (CX := fun w => L2.CX0) rfl (by decide) (by kernel_rfl) ⟨rfl, by decide, by decide⟩ ?F (fun _ _ _ _ _ z => z)
    intro w mg fa h Y G hmg0
    obtain ⟨K, KX, c⟩ := Y
    have hmg : mg ("law" : PySem.Str) = some (.ref fa) := by
      have e : (HandSHeadRun.topDef (OpenLaw.row PySem.Challenge.rw_rootprime_k31_orders_by_what_lies_beside).prog 39).name = ("law" : PySem.Str) := by kernel_rfl
      rw [← e]
      exact hmg0
    obtain ⟨fd, hb, hF⟩ := C.facts (P := (PySem.Challenge.rw_rootprime_k31_orders_by_what_lies_beside).prog) (w := w) KX G hmg c
    exact ⟨K, fd, (C.sp_law K), KX, hb, fun H a ns hl hbits hO hS => C.law_end hl hbits hS, hF⟩

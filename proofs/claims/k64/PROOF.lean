import PyProof.Rows.All
import Wide.All
import OpenK.AllK
import Wide.FinOn
import HandS.ForMost
import HandS.ForExc
import HandS.Wide
import HandS.IsInst
import HandS.Style
import HandS.Flow
import HandS.Defaults
import HandS.Head0
import HandS.Head1
import HandS.Head2
import HandS.HeadEnd
import HandS.HeadHook1
import HandS.HeadHook2
import HandS.EndBits
import HandS.ExcInit
import HandS.ExcField
import HandS.ExcOwn
import HandS.ExcIs
import HandS.TryOnly
import HandS.WordsExc
import HandS.ClsMeth
import HandS.HeadNt
import HandS.Steps
import PySem.Challenge.RW_rootprime_k64_first_two_apart

set_option Elab.async false
set_option linter.all false
set_option maxRecDepth 100000
set_option maxHeartbeats 4000000
set_option exponentiation.threshold 5000

namespace R
open PySem PySem.Spec PyProof.Rows L2
/-! steps of a reading -/
section
variable {t u : TS} {D : Ends} {σ : L2.St} {H : Hp} {Q : VK} {te ta tb : TE} {g : TG} {i j : Nat} {v x y : V} {r : R2} {c c' : TT} {tl : TA} {QL : List V → Hp → Prop} {QB : Bool → Hp → Prop} {QS : L2.St → Hp → Prop} {a b : Int} {C : Int → Int → Prop} {f : Int → Int → V}
theorem s_seq (h : t { D with nx := u D } σ H) : tSeq t u D σ H := h
theorem s_asg (h : te σ H fun x H1 => g x σ H1 D.nx) : tAsg te g D σ H := h
theorem s_drop (h : te σ H fun _ H1 => D.nx σ H1) : tDrop te D σ H := h
theorem s_ret (h : te σ H D.rt) : tRet te D σ H := h
theorem s_next (h : D.nx σ H) : tNext D σ H := h
theorem s_if (h : c σ H fun b H1 => if b = true then t D σ H1 else u D σ H1) : tIfS c t u D σ H := h
theorem s_gname (h : QS (σ.set i (some v)) H) : gName i v σ H QS := h
theorem s_var (e : σ[i]? = some (some v)) (h : Q v H) : tVar i σ H Q := ⟨v, e, h⟩
theorem s_c (h : Q v H) : tC v σ H Q := h
theorem s_op (h : ta σ H fun x H1 => tb σ H1 fun y H2 => r x y H2 Q) : tOp r ta tb σ H Q := h
theorem s_un {r : V → Hp → VK → Prop} (h : ta σ H fun x H1 => r x H1 Q) : tUn r ta σ H Q := h
theorem s_i0 (h : Q (f a b) H) : rI0 f (.int a) (.int b) H Q := ⟨a, b, rfl, rfl, h⟩
theorem s_i (hc : C a b) (h : Q (f a b) H) : rI C f (.int a) (.int b) H Q := ⟨a, b, rfl, rfl, hc, h⟩
theorem s_u {f : Int → V} (h : Q (f a) H) : rU f (.int a) H Q := ⟨a, rfl, h⟩
theorem s_cons (h : te σ H fun x H1 => tl σ H1 fun xs H2 => QL (x :: xs) H2) : tCons te tl σ H QL := h
theorem s_nil (h : QL [] H) : tNil σ H QL := h
theorem s_test (h : ta σ H fun x H' => ∃ k, x = .bl k ∧ QB k H') : tTest ta σ H QB := h
theorem s_tB (h : ta σ H fun x H' => ∃ k, x = .bl k ∧ QB k H') : tB ta σ H QB := h
theorem s_bl {k : Bool} {P : Bool → Prop} (h : P k) : ∃ k', V.bl k = .bl k' ∧ P k' := ⟨k, rfl, h⟩
theorem s_andc (h : c σ H fun b H1 => if b = true then c' σ H1 QB else QB false H1) : tAnd c c' σ H QB := h
theorem s_orc (h : c σ H fun b H1 => if b = true then QB true H1 else c' σ H1 QB) : tOr c c' σ H QB := h
theorem s_notc (h : c σ H fun b H1 => QB (!b) H1) : tNot c σ H QB := h
theorem s_andv (h : ta σ H fun x H1 => ∃ c, x = .bl c ∧ if c = true then tb σ H1 Q else Q (.bl false) H1) : tAndV ta tb σ H Q := h
theorem s_orv (h : ta σ H fun x H1 => ∃ c, x = .bl c ∧ if c = true then Q (.bl true) H1 else tb σ H1 Q) : tOrV ta tb σ H Q := h
theorem s_notv (h : ta σ H fun x H1 => ∃ c, x = .bl c ∧ Q (.bl (!c)) H1) : tNotV ta σ H Q := h
theorem s_ifx {t : TT} (h : t σ H fun c H1 => if c = true then ta σ H1 Q else tb σ H1 Q) : tIf t ta tb σ H Q := h
theorem s_eqI (h : Q (.bl (decide (a = b))) H) : rEq (.int a) (.int b) H Q := ⟨rfl, by
  have e : decide (V.int a = V.int b) = decide (a = b) := by simp
  rw [e]; exact h⟩
theorem s_neI (h : Q (.bl (!decide (a = b))) H) : rNe (.int a) (.int b) H Q := ⟨rfl, by
  have e : decide (V.int a = V.int b) = decide (a = b) := by simp
  rw [e]; exact h⟩
theorem s_eqS {a b : Str} (h : Q (.bl (decide (a = b))) H) : rEq (.str a) (.str b) H Q := ⟨rfl, by
  have e : decide (V.str a = V.str b) = decide (a = b) := by simp
  rw [e]; exact h⟩
theorem s_neS {a b : Str} (h : Q (.bl (!decide (a = b))) H) : rNe (.str a) (.str b) H Q := ⟨rfl, by
  have e : decide (V.str a = V.str b) = decide (a = b) := by simp
  rw [e]; exact h⟩
theorem s_eqB {a b : Bool} (h : Q (.bl (decide (a = b))) H) : rEq (.bl a) (.bl b) H Q := ⟨rfl, by
  have e : decide (V.bl a = V.bl b) = decide (a = b) := by simp
  rw [e]; exact h⟩
theorem s_neB {a b : Bool} (h : Q (.bl (!decide (a = b))) H) : rNe (.bl a) (.bl b) H Q := ⟨rfl, by
  have e : decide (V.bl a = V.bl b) = decide (a = b) := by simp
  rw [e]; exact h⟩
def MkT (Q : VK) (xs : List V) (H : Hp) : Prop := xs.length ≤ sizeLine ∧ ∀ p, H p = none → Q (.ref p) (upd H p (.tup xs))
def MkL (Q : VK) (xs : List V) (H : Hp) : Prop := xs.length ≤ sizeLine ∧ ∀ p, H p = none → Q (.ref p) (upd H p (.lst xs))
theorem s_tup (h : tl σ H fun xs H1 => MkT Q xs H1) : tTup tl σ H Q := h
theorem s_lst (h : tl σ H fun xs H1 => MkL Q xs H1) : tLst tl σ H Q := h
theorem len_le {α : Type} {xs : List α} (h : xs.length ≤ 1000) : xs.length ≤ sizeLine := Nat.le_of_lt (small1000 h)
theorem s_par (h : tl σ H fun vs H1 => ∃ v w, vs = [v, w] ∧ D.nx ((σ.set i (some v)).set j (some w)) H1) : tPar i j tl D σ H := h
theorem s_par_ {P : V → V → Prop} (h : P x y) : ∃ v w, [x, y] = [v, w] ∧ P v w := ⟨x, y, rfl, h⟩
theorem s_par3 {l : Nat} (h : tl σ H fun vs H1 => ∃ u v w, vs = [u, v, w] ∧ D.nx (((σ.set i (some u)).set j (some v)).set l (some w)) H1) : tPar3 i j l tl D σ H := h
theorem s_par3_ {z : V} {P : V → V → V → Prop} (h : P x y z) : ∃ u v w, [x, y, z] = [u, v, w] ∧ P u v w := ⟨x, y, z, rfl, h⟩
theorem s_cb {r : List V → Hp → VK → Prop} (h : tl σ H fun vs H1 => r vs H1 Q) : tCB r tl σ H Q := h
theorem s_call {sp : Sp} {dvs : List V} {E : XK} (h : tl σ H fun vs H1 => sp (vs ++ dvs) H1 Q E) : tCall sp dvs E tl σ H Q := h
theorem s_callS {sp : Sp} {E : L2.St → XK} (h : tl σ H fun vs H1 => sp vs H1 Q (E σ)) : tCallS sp E tl σ H Q := h
theorem s_chain {r' : R2} {tc : TE} (h : ta σ H fun x H1 => tb σ H1 fun y H2 => r x y H2 fun z H3 => ∃ k, z = .bl k ∧ (if k = true then tc σ H3 fun w' H4 => r' y w' H4 Q else Q (.bl false) H3)) : tChain r r' ta tb tc σ H Q := h
theorem s_iteT {A B : Prop} (h : A) : if true = true then A else B := by rw [if_pos rfl]; exact h
theorem s_iteF {A B : Prop} (h : B) : if false = true then A else B := by rw [if_neg Bool.false_ne_true]; exact h
theorem s_iteNT {A B : Prop} (h : B) : if (!true) = true then A else B := h
theorem s_iteNF {A B : Prop} (h : A) : if (!false) = true then A else B := h
theorem s_ite {A B p : Prop} [Decidable p] (h1 : p → A) (h2 : ¬p → B) : if decide p = true then A else B := by
  by_cases h : p
  · rw [decide_eq_true h, if_pos rfl]; exact h1 h
  · rw [decide_eq_false h, if_neg Bool.false_ne_true]; exact h2 h
theorem s_iten {A B p : Prop} [Decidable p] (h1 : ¬p → A) (h2 : p → B) : if (!decide p) = true then A else B := by
  by_cases h : p
  · rw [decide_eq_true h]; exact s_iteF (h2 h)
  · rw [decide_eq_false h]; exact s_iteT (h1 h)
theorem s_iteb {A B : Prop} {b : Bool} (h1 : b = true → A) (h2 : b = false → B) : if b = true then A else B := by
  cases b
  · exact s_iteF (h2 rfl)
  · exact s_iteT (h1 rfl)
theorem s_itP {A B p : Prop} [Decidable p] (hp : p) (h : A) : if decide p = true then A else B := s_ite (fun _ => h) fun n => absurd hp n
theorem s_itN {A B p : Prop} [Decidable p] (hp : ¬p) (h : B) : if decide p = true then A else B := s_ite (fun n => absurd n hp) fun _ => h
theorem s_itnP {A B p : Prop} [Decidable p] (hp : p) (h : B) : if (!decide p) = true then A else B := s_iten (fun n => absurd hp n) fun _ => h
theorem s_itnN {A B p : Prop} [Decidable p] (hp : ¬p) (h : A) : if (!decide p) = true then A else B := s_iten (fun _ => h) fun n => absurd n hp
theorem s_btT {p : Prop} [Decidable p] {P : Bool → Prop} (hp : p) (h : P true) : P (decide p) := by rw [decide_eq_true hp]; exact h
theorem s_btF {p : Prop} [Decidable p] {P : Bool → Prop} (hp : ¬p) (h : P false) : P (decide p) := by rw [decide_eq_false hp]; exact h
theorem s_ixL {K : PySem.W.Frag} {p : Addr} {xs : List V} {n : Int} (h1 : SqL K H p xs) (h2 : atI xs n = some v) (h : Q v H) : rIx K (.ref p) (.int n) H Q := .inl ⟨p, xs, n, v, rfl, rfl, h1, h2, h⟩
theorem s_ixT {K : PySem.W.Frag} {p : Addr} {xs : List V} {n : Int} (h1 : SqT K H p xs) (h2 : atI xs n = some v) (h : Q v H) : rIx K (.ref p) (.int n) H Q := .inr (.inl ⟨p, xs, n, v, rfl, rfl, h1, h2, h⟩)
theorem s_isi {K : PySem.W.Frag} {a b : String} {bb : Bool} (ht : TyOf K H x (.type a)) (hk : kitB a b = some bb) (h : Q (.bl bb) H) : rIsi K [x, .ty b] H Q := ⟨x, .ty b, .type a, .type b, bb, rfl, .ty b, .base ht, kit_ty hk, h⟩
theorem kb_ii : kitB "int" "int" = some true := by decide +kernel
theorem kb_ib : kitB "int" "bool" = some false := by decide +kernel
theorem kb_bi : kitB "bool" "int" = some true := by decide +kernel
theorem kb_bb : kitB "bool" "bool" = some true := by decide +kernel
theorem kb_tt : kitB "tuple" "tuple" = some true := by decide +kernel
theorem kb_ll : kitB "list" "list" = some true := by decide +kernel
theorem kb_ti : kitB "tuple" "int" = some false := by decide +kernel
theorem kb_tl : kitB "tuple" "list" = some false := by decide +kernel
theorem kb_lt : kitB "list" "tuple" = some false := by decide +kernel
theorem kb_li : kitB "list" "int" = some false := by decide +kernel
theorem kb_ni : kitB "NoneType" "int" = some false := by decide +kernel
theorem s_isi_ii {K : PySem.W.Frag} (h : Q (.bl true) H) : rIsi K [.int a, .ty "int"] H Q := s_isi (.int a) kb_ii h
theorem s_isi_ib {K : PySem.W.Frag} (h : Q (.bl false) H) : rIsi K [.int a, .ty "bool"] H Q := s_isi (.int a) kb_ib h
theorem s_p10 {n : Nat} (h : Q (.int (10 ^ n)) H) (hn : n ≤ 1000 := by decide) : rI CPow (fun i j => V.int (i ^ j.toNat)) (.int 10) (.int (n : Int)) H Q :=
  ⟨10, n, rfl, rfl, ⟨by omega, by omega, by decide⟩, h⟩
theorem s_pow {e : Int} {n : Nat} (he : e = n) (hn : n ≤ 1000) (ha : a.natAbs < 2 ^ 64) (h : Q (.int (a ^ n)) H) : rI CPow (fun i j => V.int (i ^ j.toNat)) (.int a) (.int e) H Q :=
  ⟨a, e, rfl, rfl, ⟨by omega, by omega, ha⟩, by subst he; exact h⟩
theorem s_p10_4 (h : Q (.int (10 ^ 4)) H) : rI CPow (fun i j => V.int (i ^ j.toNat)) (.int 10) (.int 4) H Q := s_p10 (n := 4) h
theorem s_p10_5 (h : Q (.int (10 ^ 5)) H) : rI CPow (fun i j => V.int (i ^ j.toNat)) (.int 10) (.int 5) H Q := s_p10 (n := 5) h
theorem s_p10_6 (h : Q (.int (10 ^ 6)) H) : rI CPow (fun i j => V.int (i ^ j.toNat)) (.int 10) (.int 6) H Q := s_p10 (n := 6) h
theorem s_p10_8 (h : Q (.int (10 ^ 8)) H) : rI CPow (fun i j => V.int (i ^ j.toNat)) (.int 10) (.int 8) H Q := s_p10 (n := 8) h
theorem s_p10_9 (h : Q (.int (10 ^ 9)) H) : rI CPow (fun i j => V.int (i ^ j.toNat)) (.int 10) (.int 9) H Q := s_p10 (n := 9) h
theorem s_p10_12 (h : Q (.int (10 ^ 12)) H) : rI CPow (fun i j => V.int (i ^ j.toNat)) (.int 10) (.int 12) H Q := s_p10 (n := 12) h
theorem s_p10_18 (h : Q (.int (10 ^ 18)) H) : rI CPow (fun i j => V.int (i ^ j.toNat)) (.int 10) (.int 18) H Q := s_p10 (n := 18) h
theorem s_p10_29 (h : Q (.int (10 ^ 29)) H) : rI CPow (fun i j => V.int (i ^ j.toNat)) (.int 10) (.int 29) H Q := s_p10 (n := 29) h
theorem s_p10_30 (h : Q (.int (10 ^ 30)) H) : rI CPow (fun i j => V.int (i ^ j.toNat)) (.int 10) (.int 30) H Q := s_p10 (n := 30) h
theorem s_p10_39 (h : Q (.int (10 ^ 39)) H) : rI CPow (fun i j => V.int (i ^ j.toNat)) (.int 10) (.int 39) H Q := s_p10 (n := 39) h
theorem s_p10_40 (h : Q (.int (10 ^ 40)) H) : rI CPow (fun i j => V.int (i ^ j.toNat)) (.int 10) (.int 40) H Q := s_p10 (n := 40) h
theorem s_p10_49 (h : Q (.int (10 ^ 49)) H) : rI CPow (fun i j => V.int (i ^ j.toNat)) (.int 10) (.int 49) H Q := s_p10 (n := 49) h
theorem s_p10_50 (h : Q (.int (10 ^ 50)) H) : rI CPow (fun i j => V.int (i ^ j.toNat)) (.int 10) (.int 50) H Q := s_p10 (n := 50) h
theorem s_p10_51 (h : Q (.int (10 ^ 51)) H) : rI CPow (fun i j => V.int (i ^ j.toNat)) (.int 10) (.int 51) H Q := s_p10 (n := 51) h
theorem s_p10_58 (h : Q (.int (10 ^ 58)) H) : rI CPow (fun i j => V.int (i ^ j.toNat)) (.int 10) (.int 58) H Q := s_p10 (n := 58) h
theorem s_p10_59 (h : Q (.int (10 ^ 59)) H) : rI CPow (fun i j => V.int (i ^ j.toNat)) (.int 10) (.int 59) H Q := s_p10 (n := 59) h
theorem s_p10_60 (h : Q (.int (10 ^ 60)) H) : rI CPow (fun i j => V.int (i ^ j.toNat)) (.int 10) (.int 60) H Q := s_p10 (n := 60) h
theorem s_pow7 (ha : a.natAbs < 2 ^ 64) (h : Q (.int (a ^ 7)) H) : rI CPow (fun i j => V.int (i ^ j.toNat)) (.int a) (.int 7) H Q := s_pow (n := 7) rfl (by decide) ha h
theorem s_pickN {K : PySem.W.Frag} {p : Addr} {n : Int} {P : Int → Prop} (ns : List Int) (hp : H p = some (.lst (ns.map V.int))) (hn : 0 ≤ n ∧ n < ns.length) (ha : ∀ z ∈ ns, P z) (h : ∀ z, P z → Q (.int z) H) : rIx K (.ref p) (.int n) H Q := by
  obtain ⟨k, rfl⟩ := Int.eq_ofNat_of_zero_le hn.1
  have hk : k < ns.length := by omega
  exact s_ixL (SqL.of hp) (atI_nat (j := k) (v := .int ns[k]) (by rw [List.getElem?_map, List.getElem?_eq_getElem hk]; rfl)) (h _ (ha _ (List.getElem_mem hk)))
theorem s_pick2 {K : PySem.W.Frag} {p : Addr} {n : Int} {P : Int → Prop} (hp : H p = some (.lst [.int a, .int b])) (hn : 0 ≤ n ∧ n < 2) (ha : P a) (hb : P b) (h : ∀ z, P z → Q (.int z) H) : rIx K (.ref p) (.int n) H Q := by
  have e : n = 0 ∨ n = 1 := by omega
  rcases e with rfl | rfl
  · exact s_ixL (SqL.of hp) (atI_nat (j := 0) rfl) (h a ha)
  · exact s_ixL (SqL.of hp) (atI_nat (j := 1) rfl) (h b hb)
theorem s_andJ {b c : Bool} (hc : ∀ Q' : VK, Q' (.bl c) H → tb σ H Q') (h : Q (.bl (b && c)) H) : if b = true then tb σ H Q else Q (.bl false) H := by
  cases b
  · exact s_iteF h
  · exact s_iteT (hc _ h)
theorem s_orJ {b c : Bool} (hc : ∀ Q' : VK, Q' (.bl c) H → tb σ H Q') (h : Q (.bl (b || c)) H) : if b = true then Q (.bl true) H else tb σ H Q := by
  cases b
  · exact s_iteF (hc _ h)
  · exact s_iteT h
theorem s_blT {p : Prop} [Decidable p] (hp : p) (h : Q (.bl true) H) : Q (.bl (decide p)) H := by rw [decide_eq_true hp]; exact h
theorem s_blF {p : Prop} [Decidable p] (hp : ¬p) (h : Q (.bl false) H) : Q (.bl (decide p)) H := by rw [decide_eq_false hp]; exact h
theorem s_sl {r : V → Option Int → Option Int → Hp → VK → Prop} {tlo thi : TO} (h : te σ H fun x H1 => tlo σ H1 fun l H2 => thi σ H2 fun u H3 => r x l u H3 Q) : L2.tSl r te tlo thi σ H Q := h
theorem s_nopart {QO : Option Int → Hp → Prop} (h : QO none H) : tNoPart σ H QO := h
theorem s_part {QO : Option Int → Hp → Prop} (h : te σ H fun x H1 => ∃ i, x = .int i ∧ QO (some i) H1) : tPart te σ H QO := h
theorem s_int_ {P : Int → Prop} (h : P a) : ∃ i, V.int a = .int i ∧ P i := ⟨a, rfl, h⟩
theorem s_slL {K : PySem.W.Frag} {p : Addr} {xs : List V} {lo hi : Option Int} (hs : SqL K H p xs) (h : ∀ l, H l = none → Q (.ref l) (upd H l (.lst (cutV xs lo hi)))) : rSlL K (.ref p) lo hi H Q := ⟨p, xs, rfl, hs, h⟩
theorem s_for {wi : TI} {tb : TS} (h : wi σ H fun J H1 => ∃ W : Nat → Nat → L2.St → Hp → Prop, (∃ m, W 0 m σ H1) ∧ ∀ i m σ H, W i m σ H →
  (J.stop i H ∧ D.nx σ H) ∨ (J.go i H ∧ ∃ N : L2.St → Hp → Prop, (∀ σ' H', N σ' H' → ∃ m', m' < m ∧ W (i + 1) m' σ' H') ∧ ∀ x H', J.yld i H x H' → g x σ H' fun σ2 H2 => tb { D with nx := N, ct := N, bk := D.nx } σ2 H2)) : tFor wi g tb D σ H := h
theorem s_ilist {K : PySem.W.Frag} {RI : It → Hp → Prop} (h : te σ H fun x H1 => ∃ a, x = .ref a ∧ (∃ xs, SqL K H1 a xs) ∧ RI (Itl K a) H1) : iList K te σ H RI := h
theorem s_itup {K : PySem.W.Frag} {RI : It → Hp → Prop} (h : te σ H fun x H1 => ∃ a, x = .ref a ∧ (∃ xs, SqT K H1 a xs) ∧ RI (Itt K a) H1) : iTup K te σ H RI := h
theorem s_ref_ {p : Addr} {P : Addr → Prop} (h : P p) : ∃ i, V.ref p = .ref i ∧ P i := ⟨p, rfl, h⟩
theorem s_join (P : L2.St → Hp → Prop) (h1 : ∀ σ' H', P σ' H' → D.nx σ' H') (h2 : ∀ N : L2.St → Hp → Prop, (∀ σ' H', P σ' H' → N σ' H') → tIfS c t u { D with nx := N } σ H) : tIfS c t u D σ H := h2 D.nx h1
theorem s_yes (h : QB true H) : tYes σ H QB := h
theorem s_gtup {K : PySem.W.Frag} {n : Nat} {t : TGs} {p : Addr} {xs : List V} (h1 : SqT K H p xs) (h2 : xs.length = n) (h : t xs σ H QS) : gTup K n t (.ref p) σ H QS := ⟨p, xs, rfl, h1, h2, h⟩
theorem s_gcons {t : TG} {u : TGs} {r : List V} (h : t v σ H fun σ' H' => u r σ' H' QS) : gCons t u (v :: r) σ H QS := ⟨v, r, rfl, h⟩
theorem s_gnil (h : QS σ H) : gNil [] σ H QS := ⟨rfl, h⟩
theorem s_append {p : Addr} {xs : List V} (hp : H p = some (.lst xs)) (hl : xs.length < sizeLine) (h : Q .non (upd H p (.lst (xs ++ [x])))) : rAppend (.ref p) [x] H Q := ⟨p, xs, x, rfl, rfl, hp, hl, h⟩
theorem s_tyL {K : PySem.W.Frag} {p : Addr} {xs : List V} (hp : H p = some (.lst xs)) : tyV K "list" (.ref p) H := Or.inl ⟨rfl, _, Or.inl (Or.inl hp)⟩
theorem s_bm {K : PySem.W.Frag} {T : String} {r : V → List V → Hp → VK → Prop} (h : ta σ H fun x H1 => tyV K T x H1 ∧ tl σ H1 fun xs H2 => r x xs H2 Q) : tBM K T r ta tl σ H Q := h
end
/-! rules by name -/
def rAbs : List V → Hp → VK → Prop := fun xs H Q => ∃ i, xs = [.int i] ∧ Q (.int (if i < 0 then -i else i)) H
def rMax2 : List V → Hp → VK → Prop := fun xs H Q => ∃ i j, xs = [.int i, .int j] ∧ Q (.int (if j > i then j else i)) H
def rMin2 : List V → Hp → VK → Prop := fun xs H Q => ∃ i j, xs = [.int i, .int j] ∧ Q (.int (if j < i then j else i)) H
def rLenS (K : PySem.W.Frag) : List V → Hp → VK → Prop := fun xs H Q => ∃ p ys, xs = [.ref p] ∧ (SqL K H p ys ∨ SqT K H p ys) ∧ Q (.int ys.length) H
def rTupOf (K : PySem.W.Frag) : List V → Hp → VK → Prop := fun xs H Q => ∃ p ys, xs = [.ref p] ∧ ((SqL K H p ys ∧ ∀ l, H l = none → Q (.ref l) (upd H l (.tup ys))) ∨ (SqT K H p ys ∧ Q (.ref p) H))
def rLstOf (K : PySem.W.Frag) : List V → Hp → VK → Prop := fun xs H Q => ∃ p ys, xs = [.ref p] ∧ (SqL K H p ys ∨ SqT K H p ys) ∧ ∀ l, H l = none → Q (.ref l) (upd H l (.lst ys))
def rIns : V → List V → Hp → VK → Prop := fun x vs H Q => ∃ (l : Addr) (xs : List V) (i : Int) (y : V), x = .ref l ∧ vs = [.int i, y] ∧ H l = some (.lst xs) ∧ xs.length < sizeLine ∧ 0 ≤ i ∧ i < 2 ^ 63 ∧ Q .non (upd H l (.lst (xs.take i.toNat ++ [y] ++ xs.drop i.toNat)))
section
variable {X : Cx}
theorem mtIns : MtR X "list.insert" rIns := mt_insert
theorem callAbs : CallR X (.builtin "abs") rAbs := call_abs
theorem callMax2 (hc : X.calm = true) : CallR X (.builtin "max") rMax2 := call_max2 hc
theorem callMin2 (hc : X.calm = true) : CallR X (.builtin "min") rMin2 := call_min2 hc
theorem callLen : CallR X (.builtin "len") (rLenS X.K) := call_len_seq
theorem callTup : CallR X (.type "tuple") (rTupOf X.K) := call_tuple_of
theorem callLst : CallR X (.type "list") (rLstOf X.K) := call_list_of
end
section
variable {H : Hp} {Q : VK} {a b : Int} {K : PySem.W.Frag} {p : Addr} {xs : List V}
theorem s_abs (h : Q (.int (if a < 0 then -a else a)) H) : rAbs [.int a] H Q := ⟨a, rfl, h⟩
theorem s_max (h : Q (.int (if b > a then b else a)) H) : rMax2 [.int a, .int b] H Q := ⟨a, b, rfl, h⟩
theorem s_min (h : Q (.int (if b < a then b else a)) H) : rMin2 [.int a, .int b] H Q := ⟨a, b, rfl, h⟩
theorem s_ins0 {y : V} (hp : H p = some (.lst xs)) (hl : xs.length < sizeLine) (h : Q .non (upd H p (.lst (y :: xs)))) : rIns (.ref p) [.int 0, y] H Q := ⟨p, xs, 0, y, rfl, rfl, hp, hl, by decide, by decide, h⟩
theorem s_lenL (hs : SqL K H p xs) (h : Q (.int xs.length) H) : rLenS K [.ref p] H Q := ⟨p, xs, rfl, .inl hs, h⟩
theorem s_lenT (hs : SqT K H p xs) (h : Q (.int xs.length) H) : rLenS K [.ref p] H Q := ⟨p, xs, rfl, .inr hs, h⟩
theorem s_tupL (hs : SqL K H p xs) (h : ∀ l, H l = none → Q (.ref l) (upd H l (.tup xs))) : rTupOf K [.ref p] H Q := ⟨p, xs, rfl, .inl ⟨hs, h⟩⟩
theorem s_lstL (hs : SqL K H p xs) (h : ∀ l, H l = none → Q (.ref l) (upd H l (.lst xs))) : rLstOf K [.ref p] H Q := ⟨p, xs, rfl, .inl hs, h⟩
theorem s_lstT (hs : SqT K H p xs) (h : ∀ l, H l = none → Q (.ref l) (upd H l (.lst xs))) : rLstOf K [.ref p] H Q := ⟨p, xs, rfl, .inr hs, h⟩
end
/-! heaps -/
theorem same_upd {H : Hp} {p : Addr} {o : HO} (h : H p = none) : Same H (upd H p o) := fun b u e => by rw [upd_ne (ne_of_none e h)]; exact e
theorem same_upd' {H H' : Hp} {p : Addr} {o : HO} (s : Same H H') (h : H p = none) : Same H (upd H' p o) := fun b u e => by rw [upd_ne (ne_of_none e h)]; exact s b u e
theorem same_new {H H' : Hp} {p : Addr} {o : HO} (s : Same H H') (h : H' p = none) : Same H (upd H' p o) := s.trans (same_upd h)
theorem Same.none {H H' : Hp} (s : Same H H') {p : Addr} (h : H' p = none) : H p = none := s.free h
theorem atI0 {α : Type} {xs : List α} {v : α} {n : Int} (k : Nat) (hn : n = k) (h : xs[k]? = some v) : atI xs n = some v := by subst hn; exact atI_nat h
theorem cutV_mem {xs : List V} {lo hi : Option Int} {x : V} (h : x ∈ cutV xs lo hi) : x ∈ xs := List.mem_of_mem_drop (List.mem_of_mem_take h)
theorem get_mem {xs : List V} {i : Nat} {x : V} (h : xs[i]? = some x) : x ∈ xs := List.mem_of_getElem? h
theorem of_mem_ints {ns : List Int} {x : V} (h : x ∈ ns.map V.int) : ∃ c, x = .int c ∧ c ∈ ns := by
  obtain ⟨c, h1, h2⟩ := List.mem_map.mp h
  exact ⟨c, h2.symm, h1⟩
section
variable {H : Hp} {Q : VK} {K : PySem.W.Frag} {p : Addr} {xs : List V}
theorem mkT (hl : xs.length ≤ 1000) (h : ∀ p H', H p = none → H' p = some (.tup xs) → Same H H' → Q (.ref p) H') : MkT Q xs H := ⟨len_le hl, fun p hp => h p _ hp upd_same (same_upd hp)⟩
theorem mkL (hl : xs.length ≤ 1000) (h : ∀ p H', H p = none → H' p = some (.lst xs) → Same H H' → Q (.ref p) H') : MkL Q xs H := ⟨len_le hl, fun p hp => h p _ hp upd_same (same_upd hp)⟩
theorem mkCat {q : Addr} {zs : List V} (h1 : H p = some (.lst xs)) (h2 : H q = some (.lst zs)) (hl : xs.length + zs.length ≤ 1000) (h : ∀ l H', H l = none → H' l = some (.lst (xs ++ zs)) → Same H H' → Q (.ref l) H') : rCat (.ref p) (.ref q) H Q := ⟨p, q, xs, zs, rfl, rfl, h1, h2, Nat.le_trans hl (Nat.le_of_lt (small1000 (Nat.le_refl _))), fun l hl => h l _ hl upd_same (same_upd hl)⟩
theorem mkSlT {lo hi : Option Int} (hs : SqT K H p xs) (hn : ¬ (HT.sIx xs.length 0 lo = 0 ∧ HT.sIx xs.length xs.length hi = xs.length)) (h : ∀ l H', H l = none → H' l = some (.tup (cutV xs lo hi)) → Same H H' → Q (.ref l) H') : rSlT K (.ref p) lo hi H Q := ⟨p, xs, rfl, hs, hn, fun l hl => h l _ hl upd_same (same_upd hl)⟩
theorem mkSl {lo hi : Option Int} (hs : SqL K H p xs) (h : ∀ l H', H l = none → H' l = some (.lst (cutV xs lo hi)) → Same H H' → Q (.ref l) H') : rSlL K (.ref p) lo hi H Q := s_slL hs fun l hl => h l _ hl upd_same (same_upd hl)
end
theorem s_eqD {K : PySem.W.Frag} {H : Hp} {Q : VK} {x y : V} (d e : PyData) (hd : Dp K H x d) (he : Dp K H y e) (h1 : SeqAt.shaped d = true) (h2 : SeqAt.shaped e = true) (h : Q (.bl (PyData.eqv d e)) H) : rEqD K x y H Q := ⟨d, e, hd, he, h1, h2, h⟩
theorem s_neD {K : PySem.W.Frag} {H : Hp} {Q : VK} {x y : V} (d e : PyData) (hd : Dp K H x d) (he : Dp K H y e) (h1 : SeqAt.shaped d = true) (h2 : SeqAt.shaped e = true) (h : Q (.bl (!PyData.eqv d e)) H) : rNeD K x y H Q := ⟨d, e, hd, he, h1, h2, h⟩
theorem dp_tup1 {K : PySem.W.Frag} {H : Hp} {p : Addr} {a : Int} (h : H p = some (.tup [.int a])) : Dp K H (.ref p) (.tuple [.int a]) := .tup (SqT.of h) (.cons (.int a) .nil)
theorem dp_tup2 {K : PySem.W.Frag} {H : Hp} {p : Addr} {a b : Int} (h : H p = some (.tup [.int a, .int b])) : Dp K H (.ref p) (.tuple [.int a, .int b]) := .tup (SqT.of h) (.cons (.int a) (.cons (.int b) .nil))
theorem atI_neg1 {α : Type} {xs : List α} {v : α} (h : xs.getLast? = some v) : atI xs (-1) = some v := by
  rcases List.eq_nil_or_concat xs with e | ⟨ys, y, e⟩
  · subst e; simp at h
  · rw [List.concat_eq_append] at e
    subst e
    rw [List.getLast?_concat] at h
    cases h
    exact atI_last ys v
/-! all stands but what lies at one place -/
def SameB (p : Addr) (H H' : Hp) : Prop := ∀ b o, b ≠ p → H b = some o → H' b = some o
theorem SameB.refl (p : Addr) (H : Hp) : SameB p H H := fun _ _ _ h => h
theorem SameB.trans {p : Addr} {H H1 H2 : Hp} (a : SameB p H H1) (b : SameB p H1 H2) : SameB p H H2 := fun c o n h => b c o n (a c o n h)
theorem SameB.of {p : Addr} {H H1 : Hp} (a : Same H H1) : SameB p H H1 := fun c o _ h => a c o h
theorem SameB.put {p : Addr} {H : Hp} {o : HO} : SameB p H (upd H p o) := fun c u n h => by rw [upd_ne n]; exact h
theorem SameB.same {p : Addr} {H H1 H2 : Hp} (n : H p = none) (a : SameB p H1 H2) (s : Same H H1) : Same H H2 := fun c o h => a c o (ne_of_none h n) (s c o h)
theorem ixN_nat {n d : Nat} (h : d < n) : ixN n (d : Int) = some d := by
  unfold ixN
  rw [if_pos (by omega), if_pos (by omega)]; simp
/-! ranges -/
section
variable {H : Hp} {σ : L2.St} {ta : TA} {RI : It → Hp → Prop}
def RngQ1 (RI : It → Hp → Prop) (vs : List V) (H : Hp) : Prop := ∃ j : Int, vs = [.int j] ∧ -(2 ^ 62) ≤ j ∧ j < 2 ^ 62 ∧ RI (Itr 0 j.toNat) H
def RngQ2 (RI : It → Hp → Prop) (vs : List V) (H : Hp) : Prop := ∃ i j : Int, vs = [.int i, .int j] ∧ (-(2 ^ 62) ≤ i ∧ i < 2 ^ 62 ∧ -(2 ^ 62) ≤ j ∧ j < 2 ^ 62) ∧ RI (Itr i (j - i).toNat) H
theorem s_rng1 (h : ta σ H fun vs H1 => RngQ1 RI vs H1) : iRng1 ta σ H RI := h
theorem s_rng2 (h : ta σ H fun vs H1 => RngQ2 RI vs H1) : iRng2 ta σ H RI := h
theorem mkR1 {j : Int} (n : Nat) (e : j.toNat = n) (h1 : -(2 ^ 62) ≤ j) (h2 : j < 2 ^ 62) (h : RI (Itr 0 n) H) : RngQ1 RI [.int j] H := ⟨j, rfl, h1, h2, by rw [e]; exact h⟩
theorem mkR2 {i j : Int} (n : Nat) (e : (j - i).toNat = n) (h1 : -(2 ^ 62) ≤ i ∧ i < 2 ^ 62 ∧ -(2 ^ 62) ≤ j ∧ j < 2 ^ 62) (h : RI (Itr i n) H) : RngQ2 RI [.int i, .int j] H := ⟨i, j, rfl, h1, by rw [e]; exact h⟩
end
section
variable {to ti : TE} {t : TSet} {v : V} {σ : L2.St} {H : Hp} {QS : L2.St → Hp → Prop} {p : Addr} {xs : List V} {k : Int} {QH : Hp → Prop}
theorem s_gsub (h : to σ H fun o H1 => ti σ H1 fun i H2 => t o i v H2 fun H3 => QS σ H3) : gSub to ti t v σ H QS := h
theorem s_setL (j : Nat) (hp : H p = some (.lst xs)) (hj : ixN xs.length k = some j) (h : QH (upd H p (.lst (xs.set j v)))) : rSetL (.ref p) (.int k) v H QH := ⟨p, xs, k, j, rfl, rfl, hp, hj, h⟩
end
/-! dicts -/
section
variable {H : Hp} {Q : VK} {p : Addr} {kvs : List (Key × V)} {k : Key} {v : V} {td ty tv : TE} {σ : L2.St} {D : Ends}
def DGetQ (Q : VK) (x y : V) (H : Hp) : Prop := ∃ a v, x = .ref a ∧ DGet H a y (some v) ∧ Q v H
theorem s_dget (h : td σ H fun x H1 => ty σ H1 fun y H2 => DGetQ Q x y H2) : tDGet td ty σ H Q := h
theorem s_dgetS {x : Str} (hd : H p = some (.dK kvs)) (hv : valV kvs (.inr x) = some v) (h : Q v H) : DGetQ Q (.ref p) (.str x) H := ⟨p, v, rfl, by rw [← hv]; exact DGet.k (k := .inr x) hd, h⟩
theorem s_dgetI {i : Int} (hd : H p = some (.dK kvs)) (hv : valV kvs (.inl i) = some v) (h : Q v H) : DGetQ Q (.ref p) (.int i) H := ⟨p, v, rfl, by rw [← hv]; exact DGet.k (k := .inl i) hd, h⟩
def DispQ (Q : VK) (p : Addr) (ps : List (V × V)) (H2 : Hp) : Prop := H2 p = some (.dK []) ∧ ∃ kvs : List (Key × V), ps = kvs.map (fun kv => (kV kv.1, kv.2)) ∧ kvs.length ≤ 15 ∧ Q (.ref p) (upd H2 p (.dK (mergeK [] kvs)))
theorem s_disp {trs : List (TE × TE)} (h : ∀ p H1, H p = none → H1 p = some (.dK []) → Same H H1 → tPairs trs σ H1 fun ps H2 => DispQ Q p ps H2) : tDisp trs σ H Q := fun p hp => h p _ hp upd_same (same_upd hp)
theorem s_pn {QP : List (V × V) → Hp → Prop} (h : QP [] H) : tPairs [] σ H QP := h
theorem s_pc {tk : TE} {r : List (TE × TE)} {QP : List (V × V) → Hp → Prop} (h : tk σ H fun x H1 => tv σ H1 fun y H2 => tPairs r σ H2 fun ps H3 => QP ((x, y) :: ps) H3) : tPairs ((tk, tv) :: r) σ H QP := h
theorem mkDisp {ps : List (V × V)} (kvs : List (Key × V)) (hd : H p = some (.dK [])) (e : ps = kvs.map (fun kv => (kV kv.1, kv.2))) (hl : kvs.length ≤ 15) (h : ∀ H', H' p = some (.dK (mergeK [] kvs)) → (∀ H0, H0 p = none → Same H0 H → Same H0 H') → Q (.ref p) H') : DispQ Q p ps H :=
  ⟨hd, kvs, e, hl, h _ upd_same fun H0 n s => same_upd' s n⟩
def DPutQ (P : Hp → Prop) (x y v : V) (H3 : Hp) : Prop := ∃ a H4, x = .ref a ∧ DPut H3 a y v H4 ∧ P H4
theorem s_dput (h : tv σ H fun v H1 => td σ H1 fun x H2 => ty σ H2 fun y H3 => DPutQ (D.nx σ) x y v H3) : sDPut td ty tv D σ H := h
theorem s_dputS {P : Hp → Prop} {x : Str} (hd : H p = some (.dK kvs)) (hl : kvs.length < sizeLine) (h : P (upd H p (.dK (putK kvs (.inr x) v)))) : DPutQ P (.ref p) (.str x) v H := ⟨p, _, rfl, DPut.k (k := .inr x) hd hl, h⟩
theorem s_dputI {P : Hp → Prop} {i : Int} (hd : H p = some (.dK kvs)) (hl : kvs.length < sizeLine) (h : P (upd H p (.dK (putK kvs (.inl i) v)))) : DPutQ P (.ref p) (.int i) v H := ⟨p, _, rfl, DPut.k (k := .inl i) hd hl, h⟩
end
mutual
theorem eqv_refl : ∀ d : PyData, PyData.canLay0 d = true → PyData.eqv d d = true
  | .none, _ => by simp [PyData.eqv]
  | .bool b, _ => by simp [PyData.eqv]
  | .int i, _ => by simp [PyData.eqv]
  | .str x, _ => by simp [PyData.eqv]
  | .list xs, h => by simp only [PyData.eqv]; exact eqv_refls xs (by simpa [PyData.canLay0] using h)
  | .tuple xs, h => by simp only [PyData.eqv]; exact eqv_refls xs (by simpa [PyData.canLay0] using h)
  | .dict _, h => by simp [PyData.canLay0] at h
theorem eqv_refls : ∀ ds : List PyData, PyData.canLayAll0 ds = true → PyData.eqvAll ds ds = true
  | [], _ => by simp [PyData.eqvAll]
  | d :: ds, h => by
    simp only [PyData.canLayAll0, Bool.and_eq_true] at h
    simp only [PyData.eqvAll, Bool.and_eq_true]
    exact ⟨eqv_refl d h.1, eqv_refls ds h.2⟩
end
theorem layAll {ds : List PyData} (h : ∀ d ∈ ds, PyData.canLay0 d = true) : PyData.canLayAll0 ds = true := by
  induction ds with
  | nil => simp [PyData.canLayAll0]
  | cons d ds ih =>
    simp only [PyData.canLayAll0, Bool.and_eq_true]
    exact ⟨h d (by simp), ih fun e he => h e (by simp [he])⟩
theorem depAll {ds : List PyData} {n : Nat} (h : ∀ d ∈ ds, PyData.depth d ≤ n) : PyData.depthAll ds ≤ n := by
  induction ds with
  | nil => simp [PyData.depthAll]
  | cons d ds ih =>
    simp only [PyData.depthAll]
    exact Nat.max_le.mpr ⟨h d (by simp), ih fun e he => h e (by simp [he])⟩
theorem shapedL {ds : List PyData} (h : ∀ d ∈ ds, PyData.canLay0 d = true ∧ PyData.depth d ≤ 63) : SeqAt.shaped (.list ds) = true := by
  unfold SeqAt.shaped
  simp only [PyData.canLay0, PyData.depth, Bool.and_eq_true]
  exact ⟨layAll fun d hd => (h d hd).1, decide_eq_true (Nat.succ_le_succ (depAll fun d hd => (h d hd).2))⟩
theorem shapedT {ds : List PyData} (h : ∀ d ∈ ds, PyData.canLay0 d = true ∧ PyData.depth d ≤ 63) : SeqAt.shaped (.tuple ds) = true := by
  unfold SeqAt.shaped
  simp only [PyData.canLay0, PyData.depth, Bool.and_eq_true]
  exact ⟨layAll fun d hd => (h d hd).1, decide_eq_true (Nat.succ_le_succ (depAll fun d hd => (h d hd).2))⟩
theorem eqv_shaped {d : PyData} (h : SeqAt.shaped d = true) : PyData.eqv d d = true := eqv_refl d (SeqAt.canLay_of_shaped h)
theorem lookup1 {f : Str} {v : V} : List.lookup f [(f, v)] = some v := by simp [List.lookup]
theorem s_xf {a C d : Addr} {f : Str} {v : V} {i : Nat} {σ : L2.St} {H : Hp} {Q : VK} (e : σ[i]? = some (some (.ref a))) (hx : H d = some (.xd [(f, v)])) (h : Q v H) : tXf a (.ref C) (some d) C f (tVar i) σ H Q := ⟨_, e, rfl, rfl, d, _, v, rfl, hx, lookup1, h⟩
/-- a list (or tuple) of tuples -/
abbrev TupsIn (H : Hp) : List V → List (List V) → Prop := Paired fun (x : V) (r : List V) => ∃ t, x = .ref t ∧ H t = some (.tup r)
theorem TupsIn.same {H H' : Hp} (s : Same H H') : ∀ {xs : List V} {rs : List (List V)}, TupsIn H xs rs → TupsIn H' xs rs
  | _, _, .nil => .nil
  | _, _, .cons ⟨t, e, h⟩ r => .cons ⟨t, e, s _ _ h⟩ (TupsIn.same s r)
theorem TupsIn.upd {H : Hp} {p : Addr} {o : HO} {zs : List V} (hp : H p = some (.lst zs)) : ∀ {xs : List V} {rs : List (List V)}, TupsIn H xs rs → TupsIn (L2.upd H p o) xs rs
  | _, _, .nil => .nil
  | _, _, .cons ⟨t, e, h⟩ r => .cons ⟨t, e, by rw [upd_ne (fun z => by rw [z, hp] at h; cases h)]; exact h⟩ (TupsIn.upd hp r)
theorem paired_snoc {α β : Type} {F : α → β → Prop} {x : α} {y : β} : ∀ {xs : List α} {ys : List β}, Paired F xs ys → F x y → Paired F (xs ++ [x]) (ys ++ [y])
  | _, _, .nil, f => .cons f .nil
  | _, _, .cons a r, f => .cons a (paired_snoc r f)
theorem paired_set {α β : Type} {F : α → β → Prop} {x : α} {y : β} : ∀ {xs : List α} {ys : List β} (j : Nat), Paired F xs ys → F x y → Paired F (xs.set j x) (ys.set j y)
  | _, _, _, .nil, _ => .nil
  | _, _, 0, .cons _ r, f => .cons f r
  | _, _, j + 1, .cons a r, f => .cons a (paired_set j r f)
theorem TupsIn.app {H H1 : Hp} {l t : Addr} {xs r : List V} {rs : List (List V)} (hl : H l = some (.lst xs)) (ht : TupsIn H xs rs) (s : Same H H1) (nt : H t = none) (et : H1 t = some (.tup r)) :
    TupsIn (L2.upd H1 l (.lst (xs ++ [.ref t]))) (xs ++ [.ref t]) (rs ++ [r]) :=
  paired_snoc (TupsIn.upd (s _ _ hl) (ht.same s)) ⟨t, rfl, by rw [upd_ne (ne_of_none hl nt).symm]; exact et⟩
theorem TupsIn.put {H H1 : Hp} {l t : Addr} {xs r : List V} {rs : List (List V)} (j : Nat) (hl : H l = some (.lst xs)) (ht : TupsIn H xs rs) (s : Same H H1) (nt : H t = none) (et : H1 t = some (.tup r)) :
    TupsIn (L2.upd H1 l (.lst (xs.set j (.ref t)))) (xs.set j (.ref t)) (rs.set j r) :=
  paired_set j (TupsIn.upd (s _ _ hl) (ht.same s)) ⟨t, rfl, by rw [upd_ne (ne_of_none hl nt).symm]; exact et⟩
theorem take_more {α : Type} {xs : List α} {i : Nat} {x : α} (h : xs[i]? = some x) : xs.take (i + 1) = xs.take i ++ [x] := by
  rw [List.take_succ, h]; rfl
theorem paired_get {α β : Type} {F : α → β → Prop} : ∀ {xs : List α} {ys : List β} {i : Nat} {x : α}, Paired F xs ys → xs[i]? = some x → ∃ y, ys[i]? = some y ∧ F x y
  | _, _, _, _, .nil, e => by simp at e
  | _, _, 0, _, .cons f _, e => by simp at e; subst e; exact ⟨_, rfl, f⟩
  | _, _, i + 1, x, .cons _ r, e => by
    obtain ⟨y, h1, h2⟩ := paired_get (i := i) r (by simpa using e)
    exact ⟨y, by simpa using h1, h2⟩
theorem paired_get' {α β : Type} {F : α → β → Prop} : ∀ {xs : List α} {ys : List β} {i : Nat} {y : β}, Paired F xs ys → ys[i]? = some y → ∃ x, xs[i]? = some x ∧ F x y
  | _, _, _, _, .nil, e => by simp at e
  | _, _, 0, _, .cons f _, e => by simp at e; subst e; exact ⟨_, rfl, f⟩
  | _, _, i + 1, x, .cons _ r, e => by
    obtain ⟨y, h1, h2⟩ := paired_get' (i := i) r (by simpa using e)
    exact ⟨y, by simpa using h1, h2⟩
theorem s_isN {H : Hp} {Q : VK} (h : Q (.bl true) H) : L2.rIsN .non .non H Q := ⟨rfl, by rw [decide_eq_true rfl]; exact h⟩
theorem s_isNi {H : Hp} {Q : VK} {i : Int} (h : Q (.bl false) H) : L2.rIsN (.int i) .non H Q := ⟨rfl, by rw [decide_eq_false (by intro z; cases z)]; exact h⟩
theorem s_isNr {H : Hp} {Q : VK} {i : Addr} (h : Q (.bl false) H) : L2.rIsN (.ref i) .non H Q := ⟨rfl, by rw [decide_eq_false (by intro z; cases z)]; exact h⟩
theorem s_notN {H : Hp} {Q : VK} (h : Q (.bl false) H) : L2.rNotN .non .non H Q := ⟨rfl, by rw [decide_eq_true rfl]; exact h⟩
theorem s_notNi {H : Hp} {Q : VK} {i : Int} (h : Q (.bl true) H) : L2.rNotN (.int i) .non H Q := ⟨rfl, by rw [decide_eq_false (by intro z; cases z)]; exact h⟩
theorem s_notNr {H : Hp} {Q : VK} {i : Addr} (h : Q (.bl true) H) : L2.rNotN (.ref i) .non H Q := ⟨rfl, by rw [decide_eq_false (by intro z; cases z)]; exact h⟩
theorem fn_or {P : Program} {w : World} {K : PySem.W.Frag} {mg : Str → Option Value} {base : Heap} {CX : CXT} {k : Nat} {f : Addr} {fd : FuncData} {ps : List Str} {sp sp1 sp2 : Sp} (F1 : FnOk P w K mg base CX k f fd ps sp1) (F2 : FnOk P w K mg base CX k f fd ps sp2)
    (h : ∀ vs H Q E, sp vs H Q E → sp1 vs H Q E ∨ sp2 vs H Q E) : FnOk P w K mg base CX k f fd ps sp :=
  ⟨fun vs H Q E q => (h vs H Q E q).elim (F1.len vs H Q E) (F2.len vs H Q E), fun A outer s H args us vs Q E hr he hb hv hs => (h vs H Q E hs).elim (F1.run A outer s H args us vs Q E hr he hb hv) (F2.run A outer s H args us vs Q E hr he hb hv)⟩
/-! loops -/
section
variable {c : TT} {tb : TS} {D : Ends} {σ : L2.St} {H : Hp}
/-- the int in a slot -/
def iv (σ : L2.St) (i : Nat) : Int := match σ[i]? with
  | some (some (V.int r)) => r
  | _ => 0
def WW (Pv : L2.St → Hp → Prop) (μ : L2.St → Hp → Nat) : Nat → L2.St → Hp → Prop := fun m σ H => m = μ σ H ∧ Pv σ H
theorem s_while (Pv : L2.St → Hp → Prop) (μ : L2.St → Hp → Nat) (h0 : Pv σ H)
    (hs : ∀ σ H, Pv σ H → c σ H fun b H1 => if b = true then ∃ N : L2.St → Hp → Prop, (∀ σ' H', N σ' H' → ∃ m', m' < μ σ H ∧ WW Pv μ m' σ' H') ∧ tb { D with nx := N, ct := N, bk := D.nx } σ H1 else D.nx σ H1) : tWhile c tb D σ H :=
  ⟨WW Pv μ, ⟨_, rfl, h0⟩, fun m σ H ⟨e, p⟩ => by subst e; exact hs σ H p⟩
theorem s_turn {Pv : L2.St → Hp → Prop} {μ : L2.St → Hp → Nat} {m : Nat} (h : tb { D with nx := fun σ' H' => Pv σ' H' ∧ μ σ' H' < m, ct := fun σ' H' => Pv σ' H' ∧ μ σ' H' < m, bk := D.nx } σ H) :
    ∃ N : L2.St → Hp → Prop, (∀ σ' H', N σ' H' → ∃ m', m' < m ∧ WW Pv μ m' σ' H') ∧ tb { D with nx := N, ct := N, bk := D.nx } σ H := ⟨_, fun σ' H' p => ⟨_, p.2, rfl, p.1⟩, h⟩
end
/-! numbers -/
def CDivF (_ j : Int) : Prop := j ≠ 0 ∧ j.natAbs.log2 < 9000
section
variable {X : Cx}
theorem op_divF : OpR X (binaryOp .FloorDiv) (rI CDivF fun i j => .int (i.fdiv j)) := opI fun _ _ _ _ _ _ _ hc q => floordiv_int hc.1 q (.inl (PyProof.noPylong_of_log2 hc.2))
end
theorem divW {a j : Int} (h : 0 < j) (h2 : j.natAbs < 2 ^ 2000) : CDivW a j := wide_div h h2 (by decide) (by decide)
theorem divF {a j : Int} (h : j ≠ 0) (h2 : j.natAbs < 2 ^ 2000) : CDivF a j := ⟨h, Nat.lt_of_lt_of_le (PySem.Flt.log2_lt_of (by decide) h2) (by decide)⟩
theorem mulW {a b : Int} (h1 : a.natAbs < 2 ^ 2000) (h2 : b.natAbs < 2 ^ 2000) : CMulW a b := wide_mul h1 h2 (by decide) (by decide) (by decide)
/-- a law over a head by facts: its last step, the script's sizes told -/
theorem walk_ofEB {l : PySem.W.OpenLaw} {n k : Nat} {qv : Program} {ls : List Str} {XP : (Str → Option Value) → Heap → Prop} {YP : World → Heap → Prop} {dr : DefRec} {CX : World → CXT} {prm : Str}
    (hmost : l.most = some n) (hline : n ≤ sizeLine) (hnod : dr.params.defaults = []) (room : Room k callerA)
    (F : ∀ (w : World) (mg : Str → Option Value) (fa : Addr) (hp : Heap), YP w hp → hp.Ns mainGlobals mg → mg dr.name = some (.ref fa) →
      ∃ (Kf : PySem.W.Frag) (fdt : FuncData) (sp : Sp), Kf.In hp ∧ (∀ (s : Shared) (u : Value), BindsTo s fdt ⟨[u], []⟩ [(prm, u)]) ∧
        (∀ (H : Hp) (a : Addr) (ns : List Int), ns.length ≤ n → (∀ z ∈ ns, Builtin.Int.intBits z ≤ 1048576) → Only H → SqL Kf H a (ns.map V.int) → sp [.ref a] H (fun v _ => v = .bl true) fun _ _ _ => False) ∧
        ∀ base : Heap, Kf.In base → base.Ns mainGlobals mg → FnOk l.prog w Kf mg base (CX w) k fa fdt [prm] sp)
    (none_out : ∀ (w : World) (H : Hp) (s : Shared) (e : Value) (s' : Shared), CX w [] H s (fun _ _ _ => False) e s' → False) :
    PySem.W.WalkO qv ls XP YP l.row.toRowW dr [] (fun f vs => PySem.call f vs) := by
  refine Att.attach_callB hmost hnod fun w s₀ s₁ mg _ fa _ _ _ _ a _ ns G Y _ _ _ gN ob1 xis len bits run => ?_
  obtain ⟨Kf, fdt, sp, kin, bnd, last, fok⟩ := F w mg fa _ Y G.T.g gN
  exact law_call kin G.T.g G.T.b G.T.builtins G.T.nolimit run ob1 xis (Nat.le_trans len hline) room fok bnd (fun H only sq => last H a ns len bits only sq) fun H e s' => none_out w H s₁ e s'
theorem cx0_no {P : Program} (w : World) (H : Hp) (s : Shared) (e : Value) (s' : Shared) (h : CX0 [] H s (fun _ _ _ => False) e s') : False := h
/-! what the head tells: facts as tests of the written part, defs at any address -/
abbrev FB := PySem.W.Frag → Bool
def toldR (fb : List FB) (fn : List He5.DefA) (K : PySem.W.Frag) : He.AlD := ((fb.all fun t => t K) && (fn.all fun e => e.ok K), fn.map fun e => He5.fnA K (e.at_ K))
def dueR (fn : List He5.DefA) : He.AlD := (true, fn.map He5.DefA.val)
def Told (fb : List FB) (fn : List He5.DefA) (K : PySem.W.Frag) : Prop := toldR fb fn K = dueR fn
def toldG (n : Nat) (fb : List FB) (fn : List He5.DefA) (g : Addr → Option Obj) : He.AlD := toldR fb fn (He.frG g (He5.asA g n))
def hookR (n : Nat) (fb : List FB) (fn : List He5.DefA) : PySem.W.Hook where
  α := He.AlD
  obs := fun st => toldG n fb fn st.heap.get?
  val := fun _ => dueR fn
  says := fun _ hp => ∃ Kf : PySem.W.Frag, Kf.In hp ∧ Told fb fn Kf
  of := fun _ _ eq => ⟨_, He.frG_in, eq⟩
  keeps := fun _ _ _ ⟨Kf, hin, tl⟩ kp => ⟨Kf, PySem.W.Frag.In.keeps hin kp, tl⟩
theorem toldG_eq {n : Nat} {fb : List FB} {fn : List He5.DefA} {g : Addr → Option Obj} {st : Shared} (h : ∀ a, g a = st.heap.get? a) : toldG n fb fn g = (hookR n fb fn).obs st := by
  have eg : g = st.heap.get? := funext h
  rw [eg] <;> rfl
theorem Told.fact {fb : List FB} {fn : List He5.DefA} {K : PySem.W.Frag} (tl : Told fb fn K) (i : Nat) {t : FB} (h : fb[i]? = some t := by rfl) : t K = true := by
  have e0 : ((fb.all fun t => t K) && (fn.all fun e => e.ok K)) = true := congrArg Prod.fst tl
  exact List.all_eq_true.mp (Bool.and_eq_true_iff.mp e0).1 t (List.mem_of_getElem? h)
theorem Told.dfn {fb : List FB} {fn : List He5.DefA} {K : PySem.W.Frag} (tl : Told fb fn K) (i : Nat) {e : He5.DefA} (h : fn[i]? = some e := by rfl) : ∃ fd, FunD K e.name e.qual e.params e.body e.scope (e.dvs K) (e.kws K) (e.at_ K) fd := by
  have e0 : ((fb.all fun t => t K) && (fn.all fun e => e.ok K)) = true := congrArg Prod.fst tl
  have e1 : fn.map (fun e => He5.fnA K (e.at_ K)) = fn.map He5.DefA.val := congrArg Prod.snd tl
  have e2 := congrArg (fun l => l[i]?) e1
  simp only [List.getElem?_map, h, Option.map_some] at e2
  exact He5.DefA.funD (Option.some.inj e2) (List.all_eq_true.mp (Bool.and_eq_true_iff.mp e0).2 e (List.mem_of_getElem? h))
/-! own exception classes whose __init__ calls their base's and keeps one field -/
def oexB (C : Addr) : FB := fun K => (match K.lookup C with
  | some ⟨.type tn, _, .cls cd, sl⟩ => (match cd.mro, sl.toList with
    | .ref C' :: bm, [_, _, _, _, some (.builtin n), _] => decide (tn = "type") && (C' == C && (decide (n = "ValueError.__new__") && (!cd.hasDel && (cd.hasDict && PySem.HandSPX.refsVE bm))))
    | _, _ => false)
  | _ => false) && (decide (PySem.W.findIn K (.ref C) "__setattr__" = some (some (.builtin "object.__setattr__"))) && (decide (PySem.W.subIn K (.ref C) (.type "BaseException") = some true) && (decide (PySem.W.typeIn K (.ref C) = some (.type "type")) && PySem.W.keepIn K (.ref C))))
theorem oex_of {K : PySem.W.Frag} {C : Addr} (h : oexB C K = true) : OexC K C := by
  unfold oexB at h
  simp only [Bool.and_eq_true, decide_eq_true_eq] at h
  obtain ⟨h1, h2, h3, h4, h5⟩ := h
  refine ⟨?_, h2, h3, h4, h5⟩
  split at h1
  · rename_i tn dd cd sl ho
    split at h1
    · rename_i C' bm k0 k1 k2 k3 n k5 hm hs
      simp only [Bool.and_eq_true, beq_iff_eq, Bool.not_eq_true', decide_eq_true_eq] at h1
      obtain ⟨rfl, rfl, rfl, hdel, hdct, hr⟩ := h1
      obtain ⟨nm, bs, mro, ns, qn, hd, sn, sub, ab, col, del⟩ := cd
      dsimp only at hm hdel hdct
      subst hm hdel hdct
      have hsl : sl = #[k0, k1, k2, k3, some (.builtin "ValueError.__new__"), k5] := by
        obtain ⟨l⟩ := sl
        simp only at hs
        rw [hs]
      subst hsl
      exact ⟨nm, qn, ns, bs, bm, sn, sub, ab, col, dd, k0, k1, k2, k3, k5, ho, hr⟩
    · cases h1
  · cases h1
/-- the base P, whose __init__ is called through it -/
def baseB (C : Addr) : FB := fun K => PySem.W.readsIn K C (.type "type") && (decide (PySem.W.specialIn K (.ref C) "__getattribute__" = some (some (.builtin "type.__getattribute__"))) && (match PySem.W.findCls K (.ref C) (.type "type") "__init__" with
  | some (.val (.builtin n)) => decide (n = "ValueError.__init__")
  | _ => false))
structure BaseC (K : PySem.W.Frag) (C : Addr) : Prop where
  rd : PySem.W.readsIn K C (.type "type") = true
  ga : PySem.W.specialIn K (.ref C) "__getattribute__" = some (some (.builtin "type.__getattribute__"))
  at_ : PySem.W.findCls K (.ref C) (.type "type") "__init__" = some (.val (.builtin "ValueError.__init__"))
theorem base_of {K : PySem.W.Frag} {C : Addr} (h : baseB C K = true) : BaseC K C := by
  unfold baseB at h
  simp only [Bool.and_eq_true, decide_eq_true_eq] at h
  obtain ⟨h1, h2, h3⟩ := h
  refine ⟨h1, h2, ?_⟩
  split at h3
  · rename_i n e
    rw [e, of_decide_eq_true h3]
  · cases h3
section
variable {X : Cx} {e : Expr} {es : List Expr} {ta : TA} {p1 p2 pos : Pos}
/-- P.__init__(self, ..) -/
theorem pe_cinit {x : Str} {C : Addr} {pl : Sem Bool} (hg : Gl X x) (hm : X.mg x = some (.ref C)) (r : BaseC X.K C) (ha : PA X (e :: es) ta) (hdb : (x == ("__debug__" : Str)) = false := by decide)
    (hc : eval (.Call (.Attribute (.Name x p1) "__init__" p2) (e :: es) [] pos) X.env = (do
      let ov ← eval (.Name x p1) X.env
      standAt p2.atName
      let (f, fst) ← holding [ov] (getMethod ov "__init__" pl)
      callWith pos f fst (backTo pos (starEach (e :: es) X.env)) (backToKw pos (keywordEach [] X.env))) := by rfl)
    (he : starEach (e :: es) X.env = (false, eval e X.env) :: starEach es X.env := by rfl) (hpl : (backTo pos (starEach es X.env)).any (·.1) = false := by rfl) :
    PE X (.Call (.Attribute (.Name x p1) "__init__" p2) (e :: es) [] pos) (tVeI X.K ta) := by
  refine ⟨fun pins s σ H Q I h => ?_⟩
  refine PySem.W.methodCall_KW (ld_glob I hg hm ?_ hdb) hc
  refine PySem.W.method_cls I.kIn r.ga (PySem.W.cls_value I.kIn r.rd r.at_ (by decide +kernel) ?_)
  show wpAny _ _ (callWith pos (Value.builtin "ValueError.__init__") [] (backTo pos (starEach (e :: es) X.env)) []) _ _ _
  refine PyProof.Rows.callWith_method1 (thn (ha.run pos pins _ σ H _ (I.tok _) h) fun us s1 ⟨vs, H1, I1, r1, a, C, ws, ev, hl, T, ea, q⟩ => ?_) he hpl
  subst ev
  cases r1 with
  | @cons _ u0 _ ur ra rw' =>
    obtain rfl : u0 = Value.ref a := ra
    have hlen : ur.length ≤ sizeLine := by rw [← Paired.length rw']; exact len_le hl
    exact oinit_ok T I1 ea hlen fun s' J => ⟨.non, H1, J, rfl, q⟩
end
/-! isinstance of a caught own error, with or without a dict of its own -/
structure IsX (K : PySem.W.Frag) (D : Addr) : Prop where
  ga : PySem.W.findIn K (.ref D) "__getattribute__" = some (some (.builtin "BaseException.__getattribute__"))
  gg : PySem.W.findIn K (.ref D) "__getattr__" = some none
  sub : PySem.W.subIn K (.ref D) (.type "BaseException") = some true
  dct : PySem.W.hasDictIn K D = true
  cl : PySem.W.findIn K (.ref D) "__class__" = some (some (.builtin "object.__class__"))
  gt : PySem.W.specialIn K (.builtin "object.__class__") "__get__" = some (some (.builtin "getset_descriptor.__get__"))
  tk : PySem.W.takesIn K (.builtin "object.__class__") = some true
  mro : PySem.W.mroIn K D (.type "object") = some true
def isxB (x : Str) : FB := fun K => decide (PySem.W.findIn K (.ref (He.ga K x)) "__getattribute__" = some (some (.builtin "BaseException.__getattribute__"))) && (decide (PySem.W.findIn K (.ref (He.ga K x)) "__getattr__" = some none) &&
  (decide (PySem.W.subIn K (.ref (He.ga K x)) (.type "BaseException") = some true) && (PySem.W.hasDictIn K (He.ga K x) && (decide (PySem.W.findIn K (.ref (He.ga K x)) "__class__" = some (some (.builtin "object.__class__"))) &&
  (decide (PySem.W.specialIn K (.builtin "object.__class__") "__get__" = some (some (.builtin "getset_descriptor.__get__"))) && (decide (PySem.W.takesIn K (.builtin "object.__class__") = some true) && decide (PySem.W.mroIn K (He.ga K x) (.type "object") = some true)))))))
theorem isx_of {K : PySem.W.Frag} {x : Str} (h : isxB x K = true) : IsX K (He.ga K x) := by
  unfold isxB at h
  simp only [Bool.and_eq_true, decide_eq_true_eq] at h
  obtain ⟨h1, h2, h3, h4, h5, h6, h7, h8⟩ := h
  exact ⟨h1, h2, h3, h4, h5, h6, h7, h8⟩
end R
namespace PySem.W
open PySem PySem.Spec PySem.Calls PyProof.Rows
section
variable {prog : Program} {w : World} {A : Around} {E : Value → Shared → Prop} {s : Shared} {K : Frag} {x D : Addr} {ox : Obj} {od : Option Obj}
theorem r_findcls (T : R.IsX K D) : findObj K D od "__class__" = some (.bind (.builtin "getset_descriptor.__get__") (.builtin "object.__class__")) := by
  obtain ⟨cd, e1, _⟩ := any_some T.dct
  unfold findObj
  simp [e1, T.cl, T.gt, T.tk]
theorem r_readcls {Q : Option Value → Shared → Prop} (T : R.IsX K D) (X : K.In s.heap) (I : InstAt s.heap x ox D od) (h : Q (some (.ref D)) { s with toks := s.toks + 1 }) : wpAny (model prog w) A (getAttr? (.ref x) "__class__") Q E s := by
  obtain ⟨hp, gn, dr, tk, os⟩ := s
  have l0 := I.type (M := model prog w)
  have l1 := looks_findIn (M := model prog w) X T.ga
  have l2 := looks_findIn (M := model prog w) X T.gg
  have l3 := looks_find (M := model prog w) X I (r_findcls (od := od) T)
  have lsub : Looks (model prog w) hp (isInstance (.ref x) (.type "BaseException")) true := l0.andThen (looks_subIn X T.sub)
  have n1 : (Value.builtin "BaseException.__getattribute__" == Value.builtin "object.__getattribute__") = false := by decide +kernel
  have n2 : (onTheHeap (Value.ref D) && Value.builtin "BaseException.__getattribute__" == Value.builtin "object.__getattribute__") = false := by rw [n1]; rfl
  have n3 : (false && onTheHeap (Value.builtin "BaseException.__getattribute__")) = false := rfl
  unfold getAttr? getAttrBy? getAttrBy
  refine wpAny_bind (wpAny_mkText (wpAny_bind (wpAny_attempt (wpAny_holding (wpAny_bind (l0.at (wpAny_bind (l1.at ?_))))))))
  show wpAny _ _ (if (onTheHeap (Value.ref D) && Value.builtin "BaseException.__getattribute__" == Value.builtin "object.__getattribute__") = true then _ else _) _ _ _
  rw [n2, if_neg Bool.false_ne_true]
  unfold getAttrByItsOwn hookBefore
  refine wpAny_bind ?_
  rw [if_pos (show onTheHeap (Value.ref D) = true from rfl)]
  refine l2.at ?_
  refine wpAny_bind (wpAny_attempt (wpAny_holding ?_))
  unfold callGetattribute
  rw [n3, if_neg Bool.false_ne_true]
  unfold boundAndCalled
  rw [PySem.F.excAttr_ValueError.ga.bind (.ref x)]
  refine wpAny_bind (wpAny_pure ?_)
  show wpAny _ _ (call (.builtin "BaseException.__getattribute__") [.ref x, .str "__class__" tk]) _ _ _
  refine wpAny_call (codeAny_call_builtin PySem.F.excAttr_ValueError.ga.plain PySem.F.entry_bexc_ga ?_)
  refine @check_slot (model prog w) _ _ ⟨hp, gn, dr, tk + 1, os⟩ "BaseException.__getattribute__" "BaseException" "__getattribute__" (.ref x) [.str "__class__" tk] [] _ (by decide +kernel) (by decide +kernel) lsub (PySem.F.args_bexc_ga (.ref x) (.str "__class__" tk)) ?_
  unfold Builtin.«object.__getattribute__»
  refine wpAny_bind (wpAny_of_eq (a := ((Value.ref x : Value), [Value.str "__class__" tk])) (by first | rfl | (simp only [slotArgs]; rfl)) ?_)
  refine wpAny_bind (wpAny_pure (wpAny_bind (l0.at (wpAny_bind (l3.at ?_)))))
  show wpAny _ _ (holding [Value.builtin "object.__class__"] (call (.builtin "getset_descriptor.__get__") [.builtin "object.__class__", .ref x, .ref D]) >>= ret) _ _ _
  refine wpAny_bind (wpAny_holding (wpAny_call (class_get (s := ⟨hp, gn, dr, tk + 1, os⟩) (ox := ox) (od := od) X I T.mro ?_)))
  refine wpAny_pure ?_
  show wpAny _ _ (handedOut (.ref D)) _ _ _
  rw [handedOut_of (v := .ref D) rfl]
  first
    | exact wpAny_pure (wpAny_pure h)
    | exact wpAny_pure h
    | exact wpAny_pure (wpAny_bind (wpAny_pure (wpAny_pure h)))
theorem r_kit (T : R.IsX K D) : KitX K (.ref x) (.ref D) (fun hp => InstAt hp x ox D od) where
  ty := fun _ _ _ I => I.type
  it := fun _ _ X _ => by
    obtain ⟨cd, e1, _⟩ := any_some T.dct
    unfold clsIn at e1
    split at e1
    · rename_i _ _ _ _ at_
      intro A' Q' E' s' k q
      unfold isType loadHead
      exact wpAny_bind (wpAny_loadPart (k _ _ (X _ _ at_)) (wpAny_pure q))
    · cases e1
  ne := fun hp tp dd its n sl X at_tp => by
    obtain ⟨cd, e1, _⟩ := any_some T.dct
    refine Bool.eq_false_iff.mpr fun q => ?_
    obtain rfl : D = tp := Value.ref.inj (beq_iff_eq.mp q)
    unfold clsIn at e1
    split at e1
    · rename_i _ _ _ _ at_
      exact nomatch (X _ _ at_).symm.trans at_tp
    · cases e1
  ca := fun X I k => r_readcls T X I k
end
end PySem.W
namespace R
open PySem PySem.Spec PyProof.Rows L2
theorem callIsX {X : Cx} {a D : Addr} {oe : Obj} {d : Option Addr} {pn : List (Addr × Obj)} (T : IsX X.K D) (hz : Zc (.ref D) d oe) (hf : ∃ vs, oe.data = .fields vs) :
    CallR (X.suite a ((a, oe) :: pn)) (.builtin "isinstance") (fun xs H Q => ∃ fs, (∀ dd, d = some dd → H dd = some (.xd fs)) ∧ rIsE X.K D a xs H Q) := by
  intro pins s σ H xs us Q I r h
  obtain ⟨fs, hdd, c, cv, b, rfl, hcv, e, q⟩ := h
  cases r with
  | cons rx rr =>
    cases rr with
    | cons rt rr =>
      cases rr
      cases rx
      have ec := hcv _ rt
      subst ec
      obtain ⟨hget, _⟩ := I.pin (a, oe) (List.mem_append.mpr (.inl List.mem_cons_self))
      obtain ⟨vs, hv⟩ := hf
      have J : ∃ od, PySem.W.InstAt s.heap a oe D od := by
        obtain ⟨oc, dd, oda, osl⟩ := oe
        obtain ⟨h1, h2⟩ := hz
        dsimp only at h1 h2 hv
        subst h1 h2 hv
        cases dd with
        | none => exact ⟨none, hget, rfl, rfl, trivial⟩
        | some dx =>
          obtain ⟨mA, hns, _⟩ : ObjOk X.prog X.w H s.heap dx (.xd fs) := I.hok dx _ (hdd dx rfl)
          obtain ⟨o, _, _, ho, _⟩ := hns
          exact ⟨some o, hget, rfl, rfl, ho⟩
      obtain ⟨od, J⟩ := J
      exact PySem.W.kia_one (PySem.W.r_kit T) I.kIn J e (fun z => nomatch z) fun tk => ⟨.bl b, H, I.kept (t' := tk) fun _ _ z => z, rfl, q⟩
/-- isinstance(e, C), e the error that the suite holds: what is asked -/
def rIsXd (K : PySem.W.Frag) (D a : Addr) (d : Option Addr) : List V → Hp → VK → Prop := fun xs H Q => ∃ fs, (∀ dd, d = some dd → H dd = some (.xd fs)) ∧ rIsE K D a xs H Q
/-- what such a class is, its __init__ at fI, its field f -/
structure XIn (K : PySem.W.Frag) (C fI : Addr) (f : Str) : Prop where
  oex : OexC K C
  iC : PySem.W.findIn K (.ref C) "__init__" = some (some (.ref fI))
  tI : PySem.W.typeIn K (.ref fI) = some (.type "function")
  noF : PySem.W.findIn K (.ref C) f = some none
  xf : XfC K C
def xinB (x f : Str) : FB := fun K => oexB (He.ga K x) K && (decide (PySem.W.findIn K (.ref (He.ga K x)) "__init__" = some (some (.ref (He.ma K (He.ga K x) "__init__")))) && (decide (PySem.W.typeIn K (.ref (He.ma K (He.ga K x) "__init__")) = some (.type "function")) &&
  (decide (PySem.W.findIn K (.ref (He.ga K x)) f = some none) && xfB K (He.ga K x))))
theorem xin_of {K : PySem.W.Frag} {x f : Str} (h : xinB x f K = true) : XIn K (He.ga K x) (He.ma K (He.ga K x) "__init__") f := by
  unfold xinB at h
  simp only [Bool.and_eq_true, decide_eq_true_eq] at h
  obtain ⟨h1, h2, h3, h4, h5⟩ := h
  exact ⟨oex_of h1, h2, h3, h4, xfB_ok h5⟩
/-- __init__(self, v) of a class at C: the field is kept -/
def sp_init (K : PySem.W.Frag) (C : Addr) (f : Str) : Sp := fun vs H Q _ => ∃ (a : Addr) (v : V), vs = [.ref a, v] ∧ OexC K C ∧ PySem.W.findIn K (.ref C) f = some none ∧ H a = some (exo a C none) ∧
  ∀ dx, H dx = none → dx ≠ a → Q .non (upd (upd H dx (exd dx [(f, v)])) a (exo a C (some dx)))
theorem rd_init {K : PySem.W.Frag} {C : Addr} {f m : Str} {vs : List V} {H : Hp} {Q : VK} {E : XK} (h : sp_init K C f vs H Q E) :
    tSeq (tDrop (tVeI K (tCons (tVar 0) (tCons (tC (.str m)) tNil)))) (tOst K f (tVar 0) (tVar 1)) { nx := fun _ H' => Q .non H', rt := Q } (L2.start ["self", f] vs) H := by
  obtain ⟨a, v, rfl, T, hn, ha, k⟩ := h
  exact ⟨_, rfl, a, C, [.str m], rfl, by simp, T, ha, _, rfl, _, rfl, a, C, rfl, T, hn, .inl ⟨ha, fun dx h1 h2 => k dx h1 h2⟩⟩
section
variable {ta : TA} {σ : L2.St} {H : Hp} {QX : XK}
def RzP (C : Addr) (sp : Sp) (QX : XK) (vs : List V) (H1 : Hp) : Prop := vs.length ≤ 1000 ∧ ∀ a, H1 a = none → sp (.ref a :: (vs ++ [])) (upd H1 a (exo a C none))
  (fun v H2 => v = .non ∧ ∃ (d : Addr) (fs : List (Str × V)), H2 a = some (exo a C (some d)) ∧ H2 d = some (exd d fs) ∧ H1 d = none ∧ QX (.ref C) (some d) (upd (del H2 a) d (.xd fs))) (fun _ _ _ => False)
theorem s_mko {C : Addr} {sp : Sp} (h : ta σ H fun vs H1 => RzP C sp QX vs H1) : tMkO C sp [] ta σ H QX := h
theorem s_raise {K : PySem.W.Frag} {C : Addr} {f : Str} {v : V} (T : OexC K C) (hn : PySem.W.findIn K (.ref C) f = some none) (k : ∀ d H', H d = none → H' d = some (.xd [(f, v)]) → Same H H' → QX (.ref C) (some d) H') : RzP C (sp_init K C f) QX [v] H := by
  refine ⟨by simp, fun a ha => ⟨a, v, rfl, T, hn, upd_same, fun dx hdx hne => ⟨rfl, dx, [(f, v)], upd_same, ?_, ?_, ?_⟩⟩⟩
  · rw [upd_ne hne, upd_same]
  · rw [upd_ne hne] at hdx; exact hdx
  · rw [upd_ne hne] at hdx
    refine k dx _ hdx upd_same fun b o e => ?_
    have n1 : b ≠ dx := ne_of_none e hdx
    have n2 : b ≠ a := ne_of_none e ha
    rw [upd_ne n1, del_ne n2, upd_ne n2, upd_ne n1, upd_ne n2]
    exact e
end
end R
/-! the walk of a reading, as far as nothing is asked -/
local macro_rules | `(tactic| walk_at "g1") => `(tactic| first
  | with_reducible refine R.s_seq ?_
  | with_reducible refine R.s_asg ?_
  | ((with_reducible apply R.s_var); focus rfl)
  | with_reducible refine R.s_gname ?_
  | with_reducible refine R.s_op ?_
  | with_reducible refine R.s_c ?_
  | with_reducible refine R.s_cons ?_
  | with_reducible refine R.s_nil ?_
  | with_reducible refine R.s_i0 ?_
  | with_reducible refine R.s_p10_60 ?_
  | with_reducible refine R.s_p10_18 ?_
  | with_reducible refine R.s_p10_8 ?_
  | with_reducible refine R.s_p10_9 ?_
  | with_reducible refine R.s_p10_59 ?_
  | with_reducible refine R.s_p10_6 ?_
  | with_reducible refine R.s_p10_5 ?_
  | with_reducible refine R.s_p10_4 ?_
  | with_reducible refine R.s_p10_12 ?_
  | with_reducible refine R.s_p10_29 ?_
  | with_reducible refine R.s_p10_30 ?_
  | with_reducible refine R.s_p10_39 ?_
  | with_reducible refine R.s_p10_40 ?_
  | with_reducible refine R.s_p10_49 ?_
  | with_reducible refine R.s_p10_50 ?_
  | with_reducible refine R.s_p10_51 ?_
  | with_reducible refine R.s_p10_58 ?_
  | ((with_reducible refine R.s_pow7 ?_ ?_); focus omega)
  | ((with_reducible refine R.s_i ?_ ?_); focus (first | decide | exact R.mulW (by omega) (by omega) | exact R.divW (by decide) (by decide)))
  | with_reducible refine R.s_test ?_
  | with_reducible refine R.s_bl ?_
  | with_reducible refine R.s_ret ?_
  | with_reducible refine R.s_next ?_
  | with_reducible refine R.s_drop ?_
  | with_reducible refine R.s_un ?_
  | with_reducible refine R.s_u ?_
  | with_reducible refine R.s_tB ?_
  | with_reducible refine R.s_andc ?_
  | with_reducible refine R.s_orc ?_
  | with_reducible refine R.s_notc ?_
  | with_reducible refine R.s_andv ?_
  | with_reducible refine R.s_orv ?_
  | with_reducible refine R.s_notv ?_
  | with_reducible refine R.s_ifx ?_
  | with_reducible refine R.s_eqI ?_
  | with_reducible refine R.s_neI ?_
  | with_reducible refine R.s_eqB ?_
  | with_reducible refine R.s_eqS ?_
  | with_reducible refine R.s_neS ?_
  | with_reducible refine R.s_neB ?_
  | with_reducible refine R.s_tup ?_
  | with_reducible refine R.s_lst ?_
  | with_reducible refine R.s_par ?_
  | with_reducible refine R.s_par_ ?_
  | with_reducible refine R.s_par3 ?_
  | with_reducible refine R.s_par3_ ?_
  | with_reducible refine R.s_cb ?_
  | with_reducible refine R.s_call ?_
  | with_reducible refine R.s_turn ?_
  | with_reducible refine R.s_isi_ii ?_
  | with_reducible refine R.s_isi_ib ?_
  | with_reducible refine R.s_bm ?_
  | with_reducible refine R.s_rng1 ?_
  | with_reducible refine R.s_rng2 ?_
  | with_reducible refine R.s_dget ?_
  | with_reducible refine R.s_gsub ?_
  | with_reducible refine R.s_pc ?_
  | with_reducible refine R.s_pn ?_
  | with_reducible refine R.s_dput ?_
  | with_reducible refine R.s_isN ?_
  | with_reducible refine R.s_isNi ?_
  | with_reducible refine R.s_isNr ?_
  | with_reducible refine R.s_notN ?_
  | with_reducible refine R.s_notNi ?_
  | with_reducible refine R.s_notNr ?_
  | with_reducible refine R.s_chain ?_
  | with_reducible refine R.s_callS ?_
  | with_reducible refine R.s_mko ?_
  | with_reducible refine R.s_sl ?_
  | with_reducible refine R.s_nopart ?_
  | with_reducible refine R.s_part ?_
  | with_reducible refine R.s_int_ ?_
  | with_reducible refine R.s_ilist ?_
  | with_reducible refine R.s_itup ?_
  | with_reducible refine R.s_ref_ ?_
  | with_reducible refine R.s_for ?_
  | with_reducible refine R.s_yes ?_
  | with_reducible refine R.s_gcons ?_
  | with_reducible refine R.s_gnil ?_
  | with_reducible refine R.s_abs ?_
  | with_reducible refine R.s_max ?_
  | with_reducible refine R.s_min ?_
  | with_reducible refine R.s_iteT ?_
  | with_reducible refine R.s_iteF ?_
  | with_reducible refine R.s_iteNT ?_
  | with_reducible refine R.s_iteNF ?_)
local macro_rules | `(tactic| walk_at "g") => `(tactic| repeat (first | walk_at "g1" | with_reducible refine R.s_if ?_))
local macro_rules | `(tactic| walk_at "h") => `(tactic| repeat (walk_at "g1"))

/-! the divisor of two numbers: what the loop keeps -/
namespace M
/-- what is told of a and b -/
structure DivOk (a b g u v : Int) : Prop where
  hg : g = (Int.gcd a b : Nat)
  eq : u * a + v * b = g
  hu : u.natAbs ≤ max 1 b.natAbs
  hv : v.natAbs ≤ max 1 a.natAbs
/-- behind the first turn: s the sign of g and rest, t that of u -/
structure DivIn (a b g u v r x y s t : Int) (G R U X q : Nat) : Prop where
  hs : s = 1 ∨ s = -1
  ht : t = 1 ∨ t = -1
  hg : g = s * G
  hr : r = s * R
  hu : u = t * U
  hx : x = -(t * X)
  lt : R < G
  px : 0 < X
  det : X * G + U * R = b.natAbs
  gcd : Nat.gcd G R = Int.gcd a b
  e1 : u * a + v * b = g
  e2 : x * a + y * b = r
  last : (U = 0 ∧ v = 1 ∧ g = b) ∨ (0 < U ∧ U * (q * G + R) ≤ b.natAbs ∧ G < q * G + R)
def DivSt (a b g u v r x y : Int) : Prop :=
  (g = a ∧ u = 1 ∧ v = 0 ∧ r = b ∧ x = 0 ∧ y = 1) ∨ (b ≠ 0 ∧ ∃ s t G R U X q, DivIn a b g u v r x y s t G R U X q)
theorem nabs_sign {s : Int} (hs : s = 1 ∨ s = -1) (n : Nat) : (s * (n : Int)).natAbs = n := by
  rcases hs with rfl | rfl <;> omega
theorem fdiv_sign {s : Int} (hs : s = 1 ∨ s = -1) (G R : Nat) : (s * (G : Int)).fdiv (s * R) = ((G / R : Nat) : Int) := by
  rcases hs with rfl | rfl
  · rw [Int.one_mul, Int.one_mul]; exact (Int.ofNat_fdiv G R).symm
  · rw [Int.neg_one_mul, Int.neg_one_mul, Int.neg_fdiv_neg]; exact (Int.ofNat_fdiv G R).symm
theorem fdiv_le (g r : Int) : (g.fdiv r).natAbs ≤ g.natAbs := by
  rcases Int.lt_trichotomy r 0 with h | h | h
  · have e : g.fdiv r = (-g).fdiv (-r) := (Int.neg_fdiv_neg g r).symm
    rw [e, Int.fdiv_eq_ediv_of_nonneg _ (by omega)]
    have := Int.natAbs_ediv_le_natAbs (-g) (-r)
    omega
  · subst h; simp
  · rw [Int.fdiv_eq_ediv_of_nonneg _ (by omega)]
    exact Int.natAbs_ediv_le_natAbs g r
theorem gcd_sub (a b q : Int) : Int.gcd b (a - q * b) = Int.gcd a b := by
  rw [Int.gcd_sub_mul_right_right]
  exact Int.gcd_comm _ _
theorem fmod_sign (a : Int) {b : Int} (hb : b ≠ 0) : ∃ s R, (s = 1 ∨ s = -1) ∧ b = s * (b.natAbs : Int) ∧ a - a.fdiv b * b = s * ((R : Nat) : Int) ∧ R < b.natAbs := by
  have e : a - a.fdiv b * b = a.fmod b := by rw [Int.fmod_def, Int.mul_comm]
  by_cases h : 0 < b
  · have h1 := Int.fmod_lt_of_pos a h
    have h2 := Int.fmod_nonneg_of_pos a h
    exact ⟨1, (a.fmod b).toNat, .inl rfl, by omega, by rw [e]; omega, by omega⟩
  · have h0 : 0 < -b := by omega
    have e2 : a.fmod b = -((-a).fmod (-b)) := by rw [Int.neg_fmod_neg]; omega
    have h1 := Int.fmod_lt_of_pos (-a) h0
    have h2 := Int.fmod_nonneg_of_pos (-a) h0
    exact ⟨-1, ((-a).fmod (-b)).toNat, .inr rfl, by omega, by rw [e, e2]; omega, by omega⟩
theorem gcd_signs {s : Int} (hs : s = 1 ∨ s = -1) (G R : Nat) : Int.gcd (s * (G : Int)) (s * R) = Nat.gcd G R := by
  unfold Int.gcd
  rw [nabs_sign hs, nabs_sign hs]
theorem div_step {a b g u v r x y : Int} (h : DivSt a b g u v r x y) (hr : r ≠ 0) :
    DivSt a b r x y (g - g.fdiv r * r) (u - g.fdiv r * x) (v - g.fdiv r * y) ∧ (g - g.fdiv r * r).natAbs < r.natAbs := by
  rcases h with ⟨rfl, rfl, rfl, rfl, rfl, rfl⟩ | ⟨hb, s, t, G, R, U, X, q, I⟩
  · obtain ⟨s, R, hs, e1, e2, lt⟩ := fmod_sign g hr
    refine ⟨.inr ⟨hr, s, -1, r.natAbs, R, 0, 1, 0, ⟨hs, .inr rfl, e1, e2, by omega, by omega, lt, by omega, by omega, ?_, by omega, ?_, .inl ⟨rfl, rfl, rfl⟩⟩⟩, ?_⟩
    · have h1 := gcd_sub g r (g.fdiv r)
      rw [e2] at h1
      conv at h1 => lhs; arg 1; rw [e1]
      rw [gcd_signs hs] at h1
      exact h1
    · grind
    · rw [e2, nabs_sign hs]; exact lt
  · obtain ⟨hs, ht, hg, hr', hu, hx, lt, px, det, gcd, e1, e2, last⟩ := I
    have hR : 0 < R := by
      rcases Nat.eq_zero_or_pos R with z | z
      · subst z; rw [hr'] at hr; exact absurd (by simp) hr
      · exact z
    have ed : g.fdiv r = ((G / R : Nat) : Int) := by rw [hg, hr']; exact fdiv_sign hs G R
    have dm := Nat.div_add_mod G R
    have ml := Nat.mod_lt G hR
    have hq : 0 < G / R := Nat.div_pos (Nat.le_of_lt lt) hR
    generalize hQ : G / R = Q at *
    generalize hS : G % R = S at *
    have er : g - (Q : Int) * r = s * (S : Int) := by
      have : (G : Int) = R * Q + S := by rw [← dm]; push_cast; rfl
      rw [hg, hr', this]; grind
    rw [ed]
    refine ⟨.inr ⟨hb, s, -t, R, S, X, U + Q * X, Q, ⟨hs, by omega, hr', er, by rw [hx]; grind, ?_, ml, Nat.add_pos_right _ (Nat.mul_pos hq px), ?_, ?_, e2, by grind, .inr ⟨px, ?_, ?_⟩⟩⟩, ?_⟩
    · rw [hu, hx]; push_cast; grind
    · rw [← det, ← dm]; grind
    · rw [← gcd, ← hS, Nat.gcd_comm G R, Nat.gcd_rec R G, Nat.gcd_comm]
    · rw [← det]
      have : Q * R + S = G := by rw [Nat.mul_comm]; exact dm
      rw [this]; omega
    · have : Q * R + S = G := by rw [Nat.mul_comm]; exact dm
      omega
    · rw [er, hr', nabs_sign hs, nabs_sign hs]; exact ml
/-- the sizes in the loop -/
theorem div_sizes {a b g u v r x y : Int} (h : DivSt a b g u v r x y) : x.natAbs ≤ max 1 b.natAbs ∧ u.natAbs ≤ max 1 b.natAbs ∧ y.natAbs ≤ 1 + a.natAbs ∧ v.natAbs ≤ 1 + a.natAbs ∧ g.natAbs ≤ max a.natAbs b.natAbs ∧ r.natAbs ≤ b.natAbs := by
  rcases h with ⟨rfl, rfl, rfl, rfl, rfl, rfl⟩ | ⟨hb, s, t, G, R, U, X, q, I⟩
  · omega
  · obtain ⟨hs, ht, hg, hr', hu, hx, lt, px, det, gcd, e1, e2, last⟩ := I
    have ex : x.natAbs = X := by rw [hx, Int.natAbs_neg]; exact nabs_sign ht X
    have eu : u.natAbs = U := by rw [hu]; exact nabs_sign ht U
    have eg : g.natAbs = G := by rw [hg]; exact nabs_sign hs G
    have er : r.natAbs = R := by rw [hr']; exact nabs_sign hs R
    have hG : 0 < G := by omega
    have hX : X ≤ X * G := Nat.le_mul_of_pos_right X hG
    have hB : 0 < b.natAbs := by omega
    -- v b = g - u a
    have k : ∀ (z w c : Int), z * a + w * b = c → z.natAbs ≤ b.natAbs → c.natAbs ≤ b.natAbs → w.natAbs ≤ 1 + a.natAbs := fun z w c e hz hc => by
      have e' : w * b = c - z * a := by omega
      have e3 : (w * b).natAbs ≤ c.natAbs + (z * a).natAbs := by rw [e']; omega
      rw [Int.natAbs_mul, Int.natAbs_mul] at e3
      have e4 : z.natAbs * a.natAbs ≤ b.natAbs * a.natAbs := Nat.mul_le_mul_right _ hz
      have e5 : w.natAbs * b.natAbs ≤ (1 + a.natAbs) * b.natAbs := by
        have : (1 + a.natAbs) * b.natAbs = b.natAbs + b.natAbs * a.natAbs := by grind
        omega
      exact Nat.le_of_mul_le_mul_right e5 hB
    have hXb : X ≤ b.natAbs := by omega
    have hGb : g.natAbs ≤ b.natAbs ∧ U ≤ b.natAbs := by
      rcases last with ⟨h1, h2, h3⟩ | ⟨hU, h1, h2⟩
      · rw [h3]; omega
      · have hX1 : G ≤ X * G := Nat.le_mul_of_pos_left G px
        have : U ≤ U * (q * G + R) := Nat.le_mul_of_pos_right U (by omega)
        omega
    have hRb : r.natAbs ≤ b.natAbs := by omega
    have k1 := k u v g e1 (by omega) hGb.1
    have k2 := k x y r e2 (by omega) hRb
    omega
theorem div_half {a b g u v : Int} (e1 : u * a + v * b = g) (hb : 0 < b.natAbs) (h1 : 2 * g.natAbs ≤ b.natAbs) (h2 : 2 * u.natAbs ≤ b.natAbs) : 2 * v.natAbs ≤ 1 + a.natAbs := by
  have e' : v * b = g - u * a := by omega
  have e3 : (v * b).natAbs ≤ g.natAbs + (u * a).natAbs := by rw [e']; omega
  rw [Int.natAbs_mul, Int.natAbs_mul] at e3
  have e4 : 2 * u.natAbs * a.natAbs ≤ b.natAbs * a.natAbs := Nat.mul_le_mul_right _ h2
  have x0 : 2 * u.natAbs * a.natAbs = 2 * (u.natAbs * a.natAbs) := Nat.mul_assoc _ _ _
  have x1 : (1 + a.natAbs) * b.natAbs = b.natAbs + b.natAbs * a.natAbs := by rw [Nat.add_mul, Nat.one_mul, Nat.mul_comm a.natAbs]
  have x2 : (2 * v.natAbs) * b.natAbs = 2 * (v.natAbs * b.natAbs) := Nat.mul_assoc _ _ _
  have e6 : (2 * v.natAbs) * b.natAbs ≤ (1 + a.natAbs) * b.natAbs := by omega
  exact Nat.le_of_mul_le_mul_right e6 hb
theorem div_end {a b g u v r x y : Int} (h : DivSt a b g u v r x y) (hr : r = 0) : Int.gcd a b = g.natAbs ∧ u * a + v * b = g ∧ u.natAbs ≤ max 1 b.natAbs ∧ v.natAbs ≤ max 1 a.natAbs := by
  rcases h with ⟨rfl, rfl, rfl, rfl, rfl, rfl⟩ | ⟨hb, s, t, G, R, U, X, q, I⟩
  · subst hr
    refine ⟨by simp, by omega, by omega, by omega⟩
  · have hsz := div_sizes (.inr ⟨hb, s, t, G, R, U, X, q, I⟩)
    obtain ⟨hs, ht, hg, hr', hu, hx, lt, px, det, gcd, e1, e2, last⟩ := I
    have er : r.natAbs = R := by rw [hr']; exact nabs_sign hs R
    have hR : R = 0 := by omega
    subst hR
    have eg : g.natAbs = G := by rw [hg]; exact nabs_sign hs G
    have eu : u.natAbs = U := by rw [hu]; exact nabs_sign ht U
    refine ⟨by rw [← gcd, eg]; simp, e1, hsz.2.1, ?_⟩
    rcases last with ⟨h1, h2, h3⟩ | ⟨hU, h1, h2⟩
    · rw [h2]; omega
    · have hq : 2 ≤ q := by
        rcases Nat.lt_or_ge q 2 with z | z
        · have : q = 0 ∨ q = 1 := by omega
          rcases this with rfl | rfl <;> omega
        · exact z
      have h3 : 2 * G ≤ q * G := Nat.mul_le_mul_right G hq
      have h4 : U * (2 * G) ≤ b.natAbs := Nat.le_trans (Nat.mul_le_mul_left U (by omega)) h1
      have z1 : 2 * G ≤ U * (2 * G) := Nat.le_mul_of_pos_left _ hU
      have z2 : U * (2 * G) = 2 * U * G := by grind
      have z3 : 2 * U ≤ 2 * U * G := Nat.le_mul_of_pos_right _ (by omega)
      have z4 := div_half e1 (by omega) (by omega) (by omega)
      have ha : a.natAbs = 0 → v.natAbs ≤ 1 := by omega
      omega
theorem div_told {a b g u v r x y : Int} (h : DivSt a b g u v r x y) (hr : r = 0) : (g < 0 → DivOk a b (-g) (-u) (-v)) ∧ (¬ g < 0 → DivOk a b g u v) := by
  obtain ⟨k1, k2, k3, k4⟩ := div_end h hr
  refine ⟨fun z => ⟨by omega, ?_, by omega, by omega⟩, fun z => ⟨by omega, k2, k3, k4⟩⟩
  rw [← k2, Int.neg_mul, Int.neg_mul]; omega
end M

/-! powers by n -/
namespace M
/-- the rest of a power -/
def pw (n a : Int) (e : Nat) : Int := a ^ e % n
theorem pw_range {n : Int} (hn : 0 < n) (a : Int) (e : Nat) : 0 ≤ pw n a e ∧ pw n a e < n := ⟨Int.emod_nonneg _ (by omega), Int.emod_lt_of_pos _ hn⟩
theorem pow_emod (a n : Int) (e : Nat) : (a % n) ^ e % n = a ^ e % n := by
  induction e with
  | zero => rw [Int.pow_zero, Int.pow_zero]
  | succ e ih => rw [Int.pow_succ, Int.pow_succ, Int.mul_emod, ih, Int.emod_emod_of_dvd _ (Int.dvd_refl n), ← Int.mul_emod]
theorem pw_mod (n a : Int) (e : Nat) : pw n (a % n) e = pw n a e := pow_emod a n e
/-- what the loop keeps: found * base ^ e -/
theorem pw_turn {n f b : Int} {e : Nat} {r : Int} (h : f * b ^ e % n = r) :
    (e % 2 = 1 → (f * b % n) * (b * b % n) ^ (e / 2) % n = r) ∧ (e % 2 ≠ 1 → f * (b * b % n) ^ (e / 2) % n = r) := by
  have sq : (b * b) ^ (e / 2) = b ^ (2 * (e / 2)) := by rw [Int.pow_mul, Int.pow_succ, Int.pow_succ, Int.pow_zero, Int.one_mul]
  constructor
  · intro ho
    have ee : e = 2 * (e / 2) + 1 := by omega
    rw [Int.mul_emod, Int.emod_emod_of_dvd _ (Int.dvd_refl n), pow_emod, ← Int.mul_emod, sq, ← h]
    conv => rhs; rw [ee, Int.pow_succ]
    congr 1
    grind
  · intro ho
    have ee : e = 2 * (e / 2) := by omega
    rw [Int.mul_emod, pow_emod, ← Int.mul_emod, sq, ← ee, h]
theorem pw_end {n f : Int} (h0 : 0 ≤ f) (h1 : f < n) {b r : Int} (h : f * b ^ 0 % n = r) : f = r := by
  rw [← h, Int.pow_zero, Int.mul_one, Int.emod_eq_of_lt h0 h1]
theorem pw_one {n a : Int} {e : Nat} : 1 % n * (a % n) ^ e % n = pw n a e := by
  rw [Int.mul_emod, Int.emod_emod_of_dvd _ (Int.dvd_refl n), pow_emod, ← Int.mul_emod, Int.one_mul]; rfl
theorem pw_mul (n a : Int) (e : Nat) : pw n a e * a % n = pw n a (e + 1) := by
  unfold pw
  rw [Int.mul_emod, Int.emod_emod_of_dvd _ (Int.dvd_refl n), ← Int.mul_emod, Int.pow_succ]
theorem pw_zero (n a : Int) : pw n a 0 = 1 % n := by unfold pw; rw [Int.pow_zero]
theorem gcd_mod (a n : Int) : Int.gcd (a % n) n = Int.gcd a n := by
  have e : a % n = a - n * (a / n) := by have := Int.emod_add_mul_ediv a n; omega
  rw [e, Int.gcd_comm, Int.gcd_sub_mul_left_right, Int.gcd_comm]
theorem inv_of {n a g u v : Int} (hn : 0 < n) (h : DivOk (a % n) n g u v) (hg : Int.gcd a n = 1) : (u % n * a - 1) % n = 0 := by
  have e := h.eq
  have hg' : g = 1 := by rw [h.hg, gcd_mod, hg]; rfl
  refine Int.emod_eq_zero_of_dvd ?_
  have e1 : a % n = a - n * (a / n) := by have := Int.emod_add_mul_ediv a n; omega
  have e2 : u % n = u - n * (u / n) := by have := Int.emod_add_mul_ediv u n; omega
  refine ⟨-(v) + u * (a / n) - (u / n) * a, ?_⟩
  rw [hg', e1] at e
  rw [e2]
  grind
theorem gcd_pos {a n : Int} (hn : 0 < n) : 0 < Int.gcd a n := Int.gcd_pos_of_ne_zero_right a (by omega)
/-- numbers with the same product by n -/
theorem inv_unit {n a b : Int} (h : (b * a - 1) % n = 0) : b * a % n = 1 % n := by
  have := Int.emod_emod_of_dvd (b * a) (Int.dvd_refl n)
  exact Int.emod_eq_emod_iff_emod_sub_eq_zero.mpr h
theorem inv_pow {n a b : Int} (h : (b * a - 1) % n = 0) (e : Nat) : (pw n b e * pw n a e - 1) % n = 0 := by
  have e1 : b * a % n = 1 % n := inv_unit h
  refine Int.emod_eq_emod_iff_emod_sub_eq_zero.mp ?_
  unfold pw
  rw [← Int.mul_emod, ← Int.mul_pow, ← pow_emod, e1, pow_emod, Int.one_pow]
theorem back_ok {n a b : Int} (hn : 0 < n) (h : (b * a - 1) % n = 0) (e : Nat) : (pw n b (e + 1) * pw n a e * a - 1) % n = 0 := by
  have k := inv_pow h (e + 1)
  rw [← pw_mul n a e] at k
  refine Int.emod_eq_emod_iff_emod_sub_eq_zero.mp ?_
  rw [← Int.emod_eq_emod_iff_emod_sub_eq_zero.mpr k, Int.mul_assoc, Int.mul_emod]
  conv => rhs; rw [Int.mul_emod, Int.emod_emod_of_dvd _ (Int.dvd_refl n)]
theorem gcd_abs (a : Int) {n : Int} (hn : 0 < n) : Nat.gcd n.natAbs (a.natAbs % n.natAbs) = Int.gcd a n := by
  rw [Nat.gcd_comm, ← Nat.gcd_rec, Nat.gcd_comm]; rfl
theorem pw_add (n a : Int) (e f : Nat) : pw n a (e + f) = pw n a e * pw n a f % n := by
  unfold pw
  rw [← Int.mul_emod, Int.pow_add]
theorem pw_pw (n a : Int) (e f : Nat) : pw n a (e * f) = pw n (pw n a e) f := by
  unfold pw
  rw [pow_emod, ← Int.pow_mul]
theorem pw_prod (n a b : Int) (e : Nat) : pw n (a * b) e = pw n a e * pw n b e % n := by
  unfold pw
  rw [← Int.mul_emod, Int.mul_pow]
theorem pw_congr {n a b : Int} (h : a % n = b % n) (e : Nat) : pw n a e = pw n b e := by rw [← pw_mod n a, ← pw_mod n b, h]
theorem inv_unique {n a b c : Int} (b0 : 0 ≤ b) (b1 : b < n) (c0 : 0 ≤ c) (c1 : c < n) (hb : (b * a - 1) % n = 0) (hc : (c * a - 1) % n = 0) : b = c := by
  have h1 : (b - c) % n = 0 := by
    obtain ⟨x, hx⟩ := Int.dvd_of_emod_eq_zero hb
    obtain ⟨y, hy⟩ := Int.dvd_of_emod_eq_zero hc
    refine Int.emod_eq_zero_of_dvd ⟨c * x - b * y, ?_⟩
    have e : b - c = c * (b * a - 1) - b * (c * a - 1) := by grind
    rw [e, hx, hy]; grind
  have h2 := Int.emod_eq_emod_iff_emod_sub_eq_zero.mpr h1
  rw [Int.emod_eq_of_lt b0 b1, Int.emod_eq_of_lt c0 c1] at h2
  exact h2
theorem emod_one_of {n x : Int} (h : (x - 1) % n = 0) : x % n = 1 % n := Int.emod_eq_emod_iff_emod_sub_eq_zero.mpr h
end M

/-! places put together -/
namespace M
theorem snoc_ind {α : Type} {motive : List α → Prop} (l : List α) (nil : motive []) (append_singleton : ∀ (l : List α) (a : α), motive l → motive (l ++ [a])) : motive l := by
  have h : ∀ r : List α, motive r.reverse := fun r => by
    induction r with
    | nil => exact nil
    | cons a r ih => rw [List.reverse_cons]; exact append_singleton _ _ ih
  have := h l.reverse
  rwa [List.reverse_reverse] at this
/-- alike by the greatest number that divides both moduli -/
def alike (m r n s : Int) : Prop := (r - s) % (Int.gcd m n : Nat) = 0
instance (m r n s : Int) : Decidable (alike m r n s) := by unfold alike; exact inferInstance
/-- G divides lcm a b: then it divides what gcd G a and gcd G b both divide -/
theorem dvd_of_parts {G a b y : Nat} (h : G ∣ Nat.lcm a b) (h1 : Nat.gcd G a ∣ y) (h2 : Nat.gcd G b ∣ y) : G ∣ y := by
  rcases Nat.eq_zero_or_pos G with z | hG
  · subst z
    have hl : Nat.lcm a b = 0 := Nat.eq_zero_of_zero_dvd h
    have : a = 0 ∨ b = 0 := by
      rcases Nat.eq_zero_or_pos a with q | q
      · exact .inl q
      · rcases Nat.eq_zero_or_pos b with q2 | q2
        · exact .inr q2
        · exact absurd hl (Nat.ne_of_gt (Nat.lcm_pos q q2))
    rcases this with rfl | rfl
    · simpa using h1
    · simpa using h2
  · have key : G ∣ Nat.lcm (Nat.gcd G a) (Nat.gcd G b) := by
      -- gcd G a * gcd G b = G * gcd G (gcd a b)
      have e1 : Nat.gcd (Nat.gcd G a) (Nat.gcd G b) = Nat.gcd G (Nat.gcd a b) := by
        apply Nat.dvd_antisymm
        · refine Nat.dvd_gcd (Nat.dvd_trans (Nat.gcd_dvd_left _ _) (Nat.gcd_dvd_left _ _)) (Nat.dvd_gcd ?_ ?_)
          · exact Nat.dvd_trans (Nat.gcd_dvd_left _ _) (Nat.gcd_dvd_right _ _)
          · exact Nat.dvd_trans (Nat.gcd_dvd_right _ _) (Nat.gcd_dvd_right _ _)
        · refine Nat.dvd_gcd (Nat.dvd_gcd (Nat.gcd_dvd_left _ _) ?_) (Nat.dvd_gcd (Nat.gcd_dvd_left _ _) ?_)
          · exact Nat.dvd_trans (Nat.gcd_dvd_right _ _) (Nat.gcd_dvd_left _ _)
          · exact Nat.dvd_trans (Nat.gcd_dvd_right _ _) (Nat.gcd_dvd_right _ _)
      have e2 : G * Nat.gcd G (Nat.gcd a b) ∣ Nat.gcd G a * Nat.gcd G b := by
        have l1 : G * Nat.gcd G (Nat.gcd a b) = Nat.gcd (G * G) (Nat.gcd (G * a) (G * b)) := by rw [Nat.gcd_mul_left, Nat.gcd_mul_left]
        have l2 : Nat.gcd G a * Nat.gcd G b = Nat.gcd (Nat.gcd (G * G) (G * b)) (Nat.gcd (a * G) (a * b)) := by rw [Nat.gcd_mul_left, Nat.gcd_mul_left, Nat.gcd_mul_right]
        rw [l1, l2]
        refine Nat.dvd_gcd (Nat.dvd_gcd ?_ ?_) (Nat.dvd_gcd ?_ ?_)
        · exact Nat.gcd_dvd_left _ _
        · exact Nat.dvd_trans (Nat.gcd_dvd_right _ _) (Nat.gcd_dvd_right _ _)
        · exact Nat.dvd_trans (Nat.gcd_dvd_right _ _) (by rw [Nat.mul_comm a G]; exact Nat.gcd_dvd_left _ _)
        · have e3 : a * b = Nat.gcd a b * Nat.lcm a b := (Nat.gcd_mul_lcm a b).symm
          rw [e3, Nat.mul_comm (Nat.gcd a b)]
          have e5 : Nat.gcd (G * G) (Nat.gcd (G * a) (G * b)) ∣ G * Nat.gcd a b := by
            refine Nat.dvd_trans (Nat.gcd_dvd_right _ _) ?_
            rw [Nat.gcd_mul_left]
            exact Nat.dvd_refl _
          exact Nat.dvd_trans e5 (Nat.mul_dvd_mul_right h _)
      have gp : 0 < Nat.gcd G (Nat.gcd a b) := Nat.gcd_pos_of_pos_left _ hG
      have e4 : Nat.gcd (Nat.gcd G a) (Nat.gcd G b) * Nat.lcm (Nat.gcd G a) (Nat.gcd G b) = Nat.gcd G a * Nat.gcd G b := Nat.gcd_mul_lcm _ _
      rw [e1] at e4
      rw [← e4, Nat.mul_comm G] at e2
      exact Nat.dvd_of_mul_dvd_mul_left gp e2
    exact Nat.dvd_trans key (Nat.lcm_dvd h1 h2)
/-- the join of two places -/
structure Joined (m r n s w x : Int) : Prop where
  hw : w = (Nat.lcm m.natAbs n.natAbs : Nat)
  x0 : 0 ≤ x
  x1 : x < w
  e1 : (x - r) % m = 0
  e2 : (x - s) % n = 0
theorem lcm_step {m n : Int} (hm : 0 < m) (hn : 0 < n) : m * (n / (Int.gcd m n : Nat)) = (Nat.lcm m.natAbs n.natAbs : Nat) := by
  obtain ⟨a, rfl⟩ := Int.eq_ofNat_of_zero_le (Int.le_of_lt hm)
  obtain ⟨b, rfl⟩ := Int.eq_ofNat_of_zero_le (Int.le_of_lt hn)
  show (a : Int) * ((b : Int) / ((Nat.gcd a b : Nat) : Int)) = ((Nat.lcm a b : Nat) : Int)
  rw [← Int.natCast_ediv, ← Int.natCast_mul]
  congr 1
  unfold Nat.lcm
  exact (Nat.mul_div_assoc a (Nat.gcd_dvd_right a b)).symm
theorem join_ok {m r n s i : Int} (hm : 0 < m) (hn : 0 < n) (ha : alike m r n s) (hi : (i * (m / (Int.gcd m n : Nat)) - 1) % (n / (Int.gcd m n : Nat)) = 0) :
    Joined m r n s (m * (n / (Int.gcd m n : Nat))) ((r + m * ((s - r) / (Int.gcd m n : Nat) * i % (n / (Int.gcd m n : Nat)))) % (m * (n / (Int.gcd m n : Nat)))) := by
  have gp : 0 < (Int.gcd m n : Nat) := Int.gcd_pos_of_ne_zero_left n (by omega)
  have gd1 : ((Int.gcd m n : Nat) : Int) ∣ m := Int.gcd_dvd_left ..
  have gd2 : ((Int.gcd m n : Nat) : Int) ∣ n := Int.gcd_dvd_right ..
  have ha' : ((Int.gcd m n : Nat) : Int) ∣ s - r := by
    have : ((Int.gcd m n : Nat) : Int) ∣ r - s := Int.dvd_of_emod_eq_zero ha
    have e : s - r = -(r - s) := by omega
    rw [e]; exact (Int.dvd_neg).mpr this
  have hl := lcm_step hm hn
  generalize ((Int.gcd m n : Nat) : Int) = g at *
  obtain ⟨a, rfl⟩ := gd1
  obtain ⟨b, rfl⟩ := gd2
  obtain ⟨c, hc⟩ := ha'
  have g0 : g ≠ 0 := by
    intro z; subst z; simp at hm
  rw [Int.mul_ediv_cancel_left _ g0] at hi hl ⊢
  rw [Int.mul_ediv_cancel_left _ g0] at hi
  rw [hc, Int.mul_ediv_cancel_left _ g0]
  have hw : 0 < g * a * b := by
    have hb : 0 < b * g := by rw [Int.mul_comm]; exact hn
    rw [hl]
    exact Int.natCast_pos.mpr (Nat.lcm_pos (by omega) (by omega))
  have hwne : g * a * b ≠ 0 := by omega
  refine ⟨hl, Int.emod_nonneg _ hwne, Int.emod_lt_of_pos _ hw, ?_, ?_⟩
  · -- by m
    refine Int.emod_eq_zero_of_dvd ?_
    have e := Int.emod_add_mul_ediv (r + g * a * (c * i % b)) (g * a * b)
    refine ⟨(c * i % b) - b * ((r + g * a * (c * i % b)) / (g * a * b)), ?_⟩
    grind
  · refine Int.emod_eq_zero_of_dvd ?_
    have e := Int.emod_add_mul_ediv (r + g * a * (c * i % b)) (g * a * b)
    have e2 := Int.emod_add_mul_ediv (c * i) b
    obtain ⟨k, hk⟩ := Int.dvd_of_emod_eq_zero hi
    -- a (c i - b q) = c + b (c k - a q)
    refine ⟨c * k - a * (c * i / b) - a * ((r + g * a * (c * i % b)) / (g * a * b)), ?_⟩
    generalize (r + g * a * (c * i % b)) / (g * a * b) = Q at *
    generalize (r + g * a * (c * i % b)) % (g * a * b) = X at *
    generalize c * i % b = T at *
    generalize c * i / b = Q2 at *
    have e3 : g * b * (c * k - a * Q2 - a * Q) = g * (c * (b * k)) - g * a * (b * Q2) - g * a * b * Q := by grind
    rw [e3, ← hk]
    grind
/-- the least number that all moduli divide -/
def lcmL (pl : List (Int × Int)) : Nat := pl.foldl (fun w q => Nat.lcm w q.1.natAbs) 1
theorem lcmL_snoc (pl : List (Int × Int)) (q : Int × Int) : lcmL (pl ++ [q]) = Nat.lcm (lcmL pl) q.1.natAbs := by unfold lcmL; rw [List.foldl_append]; rfl
theorem dvd_of_all (y : Nat) : ∀ (pl : List (Int × Int)) (G : Nat), G ∣ lcmL pl → (∀ q ∈ pl, Nat.gcd G q.1.natAbs ∣ y) → G ∣ y := by
  intro pl
  induction pl using snoc_ind with
  | nil => intro G h _; exact Nat.dvd_trans h (Nat.one_dvd y)
  | append_singleton pl q ih =>
    intro G h hq
    rw [lcmL_snoc] at h
    refine dvd_of_parts h (ih _ (Nat.gcd_dvd_right _ _) fun p hp => ?_) (hq q (by simp))
    refine Nat.dvd_trans (Nat.dvd_gcd ?_ (Nat.gcd_dvd_right _ _)) (hq p (by simp [hp]))
    exact Nat.dvd_trans (Nat.gcd_dvd_left _ _) (Nat.gcd_dvd_left _ _)
/-- places put together so far -/
structure Put (pl : List (Int × Int)) (w x : Int) : Prop where
  hw : w = (lcmL pl : Nat)
  x0 : 0 ≤ x
  x1 : x < w
  at_ : ∀ q ∈ pl, (x - q.2) % q.1 = 0
theorem put_nil : Put [] 1 0 := ⟨rfl, by decide, by decide, by simp⟩
theorem put_pos {pl : List (Int × Int)} {w x : Int} (h : Put pl w x) : 0 < w := by have := h.x0; have := h.x1; omega
theorem put_alike {pl : List (Int × Int)} {w x n s : Int} (h : Put pl w x) (ha : ∀ q ∈ pl, alike q.1 q.2 n s) : alike w x n s := by
  have key : Int.gcd w n ∣ (x - s).natAbs := by
    refine dvd_of_all _ pl _ ?_ fun q hq => ?_
    · have e : w.natAbs = lcmL pl := by have := h.hw; omega
      rw [← e]; exact Nat.gcd_dvd_left _ _
    · have d1 : Nat.gcd (Int.gcd w n) q.1.natAbs ∣ q.1.natAbs := Nat.gcd_dvd_right _ _
      have d2 : Nat.gcd (Int.gcd w n) q.1.natAbs ∣ Int.gcd q.1 n := Nat.dvd_gcd d1 (Nat.dvd_trans (Nat.gcd_dvd_left _ _) (Nat.gcd_dvd_right _ _))
      have z1 : ((Nat.gcd (Int.gcd w n) q.1.natAbs : Nat) : Int) ∣ x - q.2 := Int.dvd_trans (Int.ofNat_dvd_left.mpr d1) (Int.dvd_of_emod_eq_zero (h.at_ q hq))
      have z2 : ((Nat.gcd (Int.gcd w n) q.1.natAbs : Nat) : Int) ∣ q.2 - s := Int.dvd_trans (Int.natCast_dvd_natCast.mpr d2) (Int.dvd_of_emod_eq_zero (ha q hq))
      have z3 := Int.dvd_add z1 z2
      rw [show x - q.2 + (q.2 - s) = x - s by omega] at z3
      exact Int.ofNat_dvd_left.mp z3
  exact Int.emod_eq_zero_of_dvd (Int.ofNat_dvd_left.mpr key)
theorem put_more {pl : List (Int × Int)} {w x n s w' x' : Int} (h : Put pl w x) (j : Joined w x n s w' x') : Put (pl ++ [(n, s)]) w' x' := by
  refine ⟨?_, j.x0, j.x1, fun q hq => ?_⟩
  · rw [j.hw, lcmL_snoc]
    have e : w.natAbs = lcmL pl := by have := h.hw; omega
    rw [e]
  · rcases List.mem_append.mp hq with z | z
    · have hd : q.1 ∣ w := by
        -- each modulus divides the whole
        have hh := h.hw
        have : ∀ (l : List (Int × Int)) (p : Int × Int), p ∈ l → p.1.natAbs ∣ lcmL l := by
          intro l
          induction l using snoc_ind with
          | nil => intro p hp; simp at hp
          | append_singleton l r ih =>
            intro p hp
            rw [lcmL_snoc]
            rcases List.mem_append.mp hp with u | u
            · exact Nat.dvd_trans (ih p u) (Nat.dvd_lcm_left _ _)
            · rw [List.mem_singleton.mp u]; exact Nat.dvd_lcm_right _ _
        rw [hh]
        exact Int.ofNat_dvd_right.mpr (this pl q z)
      have e1 : w ∣ x' - x := Int.dvd_of_emod_eq_zero j.e1
      have e2 : q.1 ∣ x - q.2 := Int.dvd_of_emod_eq_zero (h.at_ q z)
      have e3 := Int.dvd_add (Int.dvd_trans hd e1) e2
      rw [show x' - x + (x - q.2) = x' - q.2 by omega] at e3
      exact Int.emod_eq_zero_of_dvd e3
    · rw [List.mem_singleton.mp z]; exact j.e2
/-- no two of them are apart -/
def allAlike (pl : List (Int × Int)) : Prop := ∀ (i j : Nat) (p q : Int × Int), i < j → pl[i]? = some p → pl[j]? = some q → alike p.1 p.2 q.1 q.2
def alikeBefore (pl : List (Int × Int)) (i j : Nat) : Prop := ∀ (i' j' : Nat) (p q : Int × Int), i' < j' → (i' < i ∨ i' = i ∧ j' < j) → pl[i']? = some p → pl[j']? = some q → alike p.1 p.2 q.1 q.2
def firstApart (pl : List (Int × Int)) (i j : Nat) : Prop := i < j ∧ (∃ p q, pl[i]? = some p ∧ pl[j]? = some q ∧ ¬alike p.1 p.2 q.1 q.2) ∧ alikeBefore pl i j
theorem before_row {pl : List (Int × Int)} {i : Nat} (h : alikeBefore pl i pl.length) : alikeBefore pl (i + 1) (i + 2) := fun i' j' p q l o hp hq => by
  have hj : j' < pl.length := (List.getElem?_eq_some_iff.mp hq).1
  refine h i' j' p q l ?_ hp hq
  omega
theorem before_one {pl : List (Int × Int)} {i j : Nat} {p q : Int × Int} (h : alikeBefore pl i j) (hp : pl[i]? = some p) (hq : pl[j]? = some q) (ha : alike p.1 p.2 q.1 q.2) : alikeBefore pl i (j + 1) := fun i' j' p' q' l o hp' hq' => by
  by_cases e : i' = i ∧ j' = j
  · obtain ⟨rfl, rfl⟩ := e
    rw [hp] at hp'; rw [hq] at hq'
    cases hp'; cases hq'; exact ha
  · exact h i' j' p' q' l (by omega) hp' hq'
theorem before_zero (pl : List (Int × Int)) : alikeBefore pl 0 1 := fun i' j' p q l o hp hq => by omega
theorem before_all {pl : List (Int × Int)} {j : Nat} (h : alikeBefore pl pl.length j) : allAlike pl := fun i' j' p q l hp hq => by
  have hj : i' < pl.length := (List.getElem?_eq_some_iff.mp hp).1
  exact h i' j' p q l (.inl hj) hp hq
theorem put_le {pl : List (Int × Int)} {w x : Int} (h : Put pl w x) (hm : ∀ q ∈ pl, 0 < q.1 ∧ q.1 < 2 ^ 60) (hl : pl.length ≤ 12) : w < 2 ^ 721 := by
  have key : ∀ l : List (Int × Int), (∀ q ∈ l, 0 < q.1 ∧ q.1 < 2 ^ 60) → lcmL l ≤ 2 ^ (60 * l.length) := fun l => by
    refine snoc_ind (motive := fun l => (∀ q ∈ l, 0 < q.1 ∧ q.1 < 2 ^ 60) → lcmL l ≤ 2 ^ (60 * l.length)) l (fun _ => by decide) (fun l q ih hq => ?_)
    rw [lcmL_snoc, List.length_append]
    have h1 := ih fun p hp => hq p (by simp [hp])
    have h2 := hq q (by simp)
    have h3 : Nat.lcm (lcmL l) q.1.natAbs ≤ lcmL l * q.1.natAbs := Nat.div_le_self _ _
    have h4 : lcmL l * q.1.natAbs ≤ 2 ^ (60 * l.length) * 2 ^ 60 := Nat.mul_le_mul h1 (by omega)
    rw [← Nat.pow_add] at h4
    exact Nat.le_trans h3 h4
  have h1 := key pl hm
  have h2 : 2 ^ (60 * pl.length) ≤ 2 ^ 720 := Nat.pow_le_pow_right (by decide) (by omega)
  have h3 := h.hw
  have h4 : lcmL pl ≤ 2 ^ 720 := Nat.le_trans h1 h2
  have h5 : (2 : Nat) ^ 720 < 2 ^ 721 := Nat.pow_lt_pow_right (by decide) (by decide)
  have h6 : ((lcmL pl : Nat) : Int) < ((2 ^ 721 : Nat) : Int) := Int.ofNat_lt.mpr (Nat.lt_of_le_of_lt h4 h5)
  rw [h3]
  exact_mod_cast h6
theorem put_two {c d : Nat} {r s w x : Int} (h : Put [((c : Int), r), ((d : Int), s)] w x) : w = (c : Int) / ((Nat.gcd c d : Nat) : Int) * d := by
  rw [h.hw, ← Int.natCast_ediv, ← Int.natCast_mul]
  congr 1
  show Nat.lcm (Nat.lcm 1 c) d = _
  rw [Nat.lcm_one_left]
  unfold Nat.lcm
  rw [Nat.mul_comm c d, Nat.mul_div_assoc d (Nat.gcd_dvd_left c d), Nat.mul_comm]
theorem put_unique {pl : List (Int × Int)} {w x w' x' : Int} (h : Put pl w x) (h' : Put pl w' x') : w = w' ∧ x = x' := by
  have ew : w = w' := by rw [h.hw, h'.hw]
  refine ⟨ew, ?_⟩
  have key : ∀ (y : Int) (l : List (Int × Int)), (∀ q ∈ l, q.1 ∣ y) → ((lcmL l : Nat) : Int) ∣ y := fun y l => by
    refine snoc_ind (motive := fun l => (∀ q ∈ l, q.1 ∣ y) → ((lcmL l : Nat) : Int) ∣ y) l (fun _ => Int.one_dvd _) (fun l q ih hq => ?_)
    rw [lcmL_snoc]
    have h1 := ih fun p hp => hq p (by simp [hp])
    have h2 := hq q (by simp)
    exact Int.ofNat_dvd_left.mpr (Nat.lcm_dvd (Int.ofNat_dvd_left.mp h1) (Int.natAbs_dvd_natAbs.mpr h2))
  have d := key (x - x') pl fun q hq => by
    have d1 := Int.dvd_of_emod_eq_zero (h.at_ q hq)
    have d2 := Int.dvd_of_emod_eq_zero (h'.at_ q hq)
    have d3 := Int.dvd_sub d1 d2
    rw [show x - q.2 - (x' - q.2) = x - x' by omega] at d3
    exact d3
  rw [← h.hw] at d
  have z := Int.emod_eq_emod_iff_emod_sub_eq_zero.mpr (Int.emod_eq_zero_of_dvd d)
  have a0 := h.x0
  have a1 := h.x1
  have b0 := h'.x0
  have b1 := h'.x1
  rw [Int.emod_eq_of_lt a0 a1, Int.emod_eq_of_lt b0 (by omega)] at z
  exact z
theorem lcm_lt (pl : List (Int × Int)) (hm : ∀ q ∈ pl, 0 < q.1 ∧ q.1 < 2 ^ 60) (hl : pl.length ≤ 12) : lcmL pl < 2 ^ 721 := by
  have key : ∀ l : List (Int × Int), (∀ q ∈ l, 0 < q.1 ∧ q.1 < 2 ^ 60) → lcmL l ≤ 2 ^ (60 * l.length) := fun l => by
    refine snoc_ind (motive := fun l => (∀ q ∈ l, 0 < q.1 ∧ q.1 < 2 ^ 60) → lcmL l ≤ 2 ^ (60 * l.length)) l (fun _ => by decide) (fun l q ih hq => ?_)
    rw [lcmL_snoc, List.length_append]
    have h1 := ih fun p hp => hq p (by simp [hp])
    have h2 := hq q (by simp)
    have h3 : Nat.lcm (lcmL l) q.1.natAbs ≤ lcmL l * q.1.natAbs := Nat.div_le_self _ _
    have h4 : lcmL l * q.1.natAbs ≤ 2 ^ (60 * l.length) * 2 ^ 60 := Nat.mul_le_mul h1 (by omega)
    rw [← Nat.pow_add] at h4
    exact Nat.le_trans h3 h4
  have h1 := key pl hm
  have h2 : 2 ^ (60 * pl.length) ≤ 2 ^ 720 := Nat.pow_le_pow_right (by decide) (by omega)
  have h5 : (2 : Nat) ^ 720 < 2 ^ 721 := Nat.pow_lt_pow_right (by decide) (by decide)
  exact Nat.lt_of_le_of_lt (Nat.le_trans h1 h2) h5
theorem lcm_pos (pl : List (Int × Int)) (hm : ∀ q ∈ pl, 0 < q.1) : 0 < lcmL pl := by
  refine snoc_ind (motive := fun l => (∀ q ∈ l, 0 < q.1) → 0 < lcmL l) pl (fun _ => by decide) (fun l q ih hq => ?_) hm
  rw [lcmL_snoc]
  have := hq q (by simp)
  exact Nat.lcm_pos (ih fun p hp => hq p (by simp [hp])) (by omega)
theorem first_unique {pl : List (Int × Int)} {i j i' j' : Nat} (h : firstApart pl i j) (h' : firstApart pl i' j') : i = i' ∧ j = j' := by
  obtain ⟨l, ⟨p, q, hp, hq, z⟩, b⟩ := h
  obtain ⟨l', ⟨p', q', hp', hq', z'⟩, b'⟩ := h'
  by_cases c : i < i' ∨ i = i' ∧ j < j'
  · exact absurd (b' i j p q l c hp hq) z
  · by_cases c' : i' < i ∨ i' = i ∧ j' < j
    · exact absurd (b i' j' p' q' l' c' hp' hq') z'
    · omega
end M

namespace C
open PySem PySem.Spec PyProof.Rows L2 R

def top (i : Nat) : Stmt := PySem.Challenge.pw_rootprime_k64_first_two_apart.main.body.getD i (.Pass ⟨0, 0, 0, 0⟩)
abbrev FnP (K : PySem.W.Frag) (x : Str) (st : Stmt) (f : Addr) (fd : FuncData) : Prop := FunD K x x (defArgs st) (defBody st) (defScope st) [] [] f fd
abbrev s_divisor : Stmt := top 4
abbrev N_divisor : List Str := ["a", "b", "g", "u", "v", "rest", "x", "y", "times"]
theorem sc_divisor : FnScope N_divisor ["a", "b"] (defScope s_divisor) := ⟨rfl, rfl, rfl, by decide +kernel, rfl, by decide +kernel, by decide +kernel⟩
abbrev s_inverse : Stmt := top 5
abbrev N_inverse : List Str := ["n", "a", "g", "u", "v"]
theorem sc_inverse : FnScope N_inverse ["n", "a"] (defScope s_inverse) := ⟨rfl, rfl, rfl, by decide +kernel, rfl, by decide +kernel, by decide +kernel⟩
abbrev s_can_join : Stmt := top 7
abbrev N_can_join : List Str := ["one", "other", "g"]
theorem sc_can_join : FnScope N_can_join ["one", "other"] (defScope s_can_join) := ⟨rfl, rfl, rfl, by decide +kernel, rfl, by decide +kernel, by decide +kernel⟩
abbrev s_first_apart : Stmt := top 8
abbrev N_first_apart : List Str := ["places", "i", "j"]
theorem sc_first_apart : FnScope N_first_apart ["places"] (defScope s_first_apart) := ⟨rfl, rfl, rfl, by decide +kernel, rfl, by decide +kernel, by decide +kernel⟩
abbrev s_joined : Stmt := top 9
abbrev N_joined : List Str := ["one", "other", "g", "step", "times", "whole"]
theorem sc_joined : FnScope N_joined ["one", "other"] (defScope s_joined) := ⟨rfl, rfl, rfl, by decide +kernel, rfl, by decide +kernel, by decide +kernel⟩
abbrev s_put_together : Stmt := top 10
abbrev N_put_together : List Str := ["places", "two", "found", "place"]
theorem sc_put_together : FnScope N_put_together ["places"] (defScope s_put_together) := ⟨rfl, rfl, rfl, by decide +kernel, rfl, by decide +kernel, by decide +kernel⟩
abbrev s__law_cell_at : Stmt := top 12
abbrev N__law_cell_at : List Str := ["_law_script", "_law_k"]
theorem sc__law_cell_at : FnScope N__law_cell_at ["_law_script", "_law_k"] (defScope s__law_cell_at) := ⟨rfl, rfl, rfl, by decide +kernel, rfl, by decide +kernel, by decide +kernel⟩
abbrev s__law_state : Stmt := top 13
abbrev N__law_state : List Str := ["_law_cell", "_law_free"]
theorem sc__law_state : FnScope N__law_state ["_law_cell", "_law_free"] (defScope s__law_state) := ⟨rfl, rfl, rfl, by decide +kernel, rfl, by decide +kernel, by decide +kernel⟩
abbrev s__law_take : Stmt := top 14
abbrev N__law_take : List Str := ["_law_state_here", "_law_many", "_law_found"]
theorem sc__law_take : FnScope N__law_take ["_law_state_here", "_law_many"] (defScope s__law_take) := ⟨rfl, rfl, rfl, by decide +kernel, rfl, by decide +kernel, by decide +kernel⟩
abbrev s__law_number : Stmt := top 15
abbrev N__law_number : List Str := ["_law_state_here", "_law_way", "_law_found", "_law_k"]
theorem sc__law_number : FnScope N__law_number ["_law_state_here"] (defScope s__law_number) := ⟨rfl, rfl, rfl, by decide +kernel, rfl, by decide +kernel, by decide +kernel⟩
abbrev s__law_modulus : Stmt := top 16
abbrev N__law_modulus : List Str := ["_law_state_here", "_law_way"]
theorem sc__law_modulus : FnScope N__law_modulus ["_law_state_here"] (defScope s__law_modulus) := ⟨rfl, rfl, rfl, by decide +kernel, rfl, by decide +kernel, by decide +kernel⟩
abbrev s__law_common : Stmt := top 17
abbrev N__law_common : List Str := ["_law_one", "_law_other"]
theorem sc__law_common : FnScope N__law_common ["_law_one", "_law_other"] (defScope s__law_common) := ⟨rfl, rfl, rfl, by decide +kernel, rfl, by decide +kernel, by decide +kernel⟩
abbrev s__law_is_whole : Stmt := top 18
abbrev N__law_is_whole : List Str := ["_law_thing"]
theorem sc__law_is_whole : FnScope N__law_is_whole ["_law_thing"] (defScope s__law_is_whole) := ⟨rfl, rfl, rfl, by decide +kernel, rfl, by decide +kernel, by decide +kernel⟩
abbrev s__law_places : Stmt := top 19
abbrev N__law_places : List Str := ["_law_state_here", "_law_many", "_law_number_here", "_law_more", "_law_places_here", "_law_k", "_law_modulus_here", "_law_at"]
theorem sc__law_places : FnScope N__law_places ["_law_state_here"] (defScope s__law_places) := ⟨rfl, rfl, rfl, by decide +kernel, rfl, by decide +kernel, by decide +kernel⟩
abbrev s__law_apart : Stmt := top 20
abbrev N__law_apart : List Str := ["_law_places_here", "_law_i", "_law_j"]
theorem sc__law_apart : FnScope N__law_apart ["_law_places_here"] (defScope s__law_apart) := ⟨rfl, rfl, rfl, by decide +kernel, rfl, by decide +kernel, by decide +kernel⟩
abbrev s__law_right : Stmt := top 21
abbrev N__law_right : List Str := ["_law_places_here", "_law_found", "_law_two", "_law_whole", "_law_modulus_here", "_law_number_here"]
theorem sc__law_right : FnScope N__law_right ["_law_places_here", "_law_found"] (defScope s__law_right) := ⟨rfl, rfl, rfl, by decide +kernel, rfl, by decide +kernel, by decide +kernel⟩
abbrev s_law : Stmt := top 22
abbrev N_law : List Str := ["_law_script", "_law_cell", "_law_places_here", "_law_handed"]
theorem sc_law : FnScope N_law ["_law_script"] (defScope s_law) := ⟨rfl, rfl, rfl, by decide +kernel, rfl, by decide +kernel, by decide +kernel⟩
abbrev s_init_NoInverse : Stmt := inClass (top 2) 0
theorem sc_init_NoInverse : FnScope ["self", "divisor"] ["self", "divisor"] (defScope s_init_NoInverse) := ⟨rfl, rfl, rfl, by decide +kernel, rfl, by decide +kernel, by decide +kernel⟩
def fn : List He5.DefA := [⟨fun K => He.ga K "divisor", "divisor", "divisor", defArgs s_divisor, defBody s_divisor, defScope s_divisor, [], []⟩,
  ⟨fun K => He.ga K "inverse", "inverse", "inverse", defArgs s_inverse, defBody s_inverse, defScope s_inverse, [], []⟩,
  ⟨fun K => He.ga K "can_join", "can_join", "can_join", defArgs s_can_join, defBody s_can_join, defScope s_can_join, [], []⟩,
  ⟨fun K => He.ga K "first_apart", "first_apart", "first_apart", defArgs s_first_apart, defBody s_first_apart, defScope s_first_apart, [], []⟩,
  ⟨fun K => He.ga K "joined", "joined", "joined", defArgs s_joined, defBody s_joined, defScope s_joined, [], []⟩,
  ⟨fun K => He.ga K "put_together", "put_together", "put_together", defArgs s_put_together, defBody s_put_together, defScope s_put_together, [], []⟩,
  ⟨fun K => He.ga K "_law_cell_at", "_law_cell_at", "_law_cell_at", defArgs s__law_cell_at, defBody s__law_cell_at, defScope s__law_cell_at, [], []⟩,
  ⟨fun K => He.ga K "_law_state", "_law_state", "_law_state", defArgs s__law_state, defBody s__law_state, defScope s__law_state, [], []⟩,
  ⟨fun K => He.ga K "_law_take", "_law_take", "_law_take", defArgs s__law_take, defBody s__law_take, defScope s__law_take, [], []⟩,
  ⟨fun K => He.ga K "_law_number", "_law_number", "_law_number", defArgs s__law_number, defBody s__law_number, defScope s__law_number, [], []⟩,
  ⟨fun K => He.ga K "_law_modulus", "_law_modulus", "_law_modulus", defArgs s__law_modulus, defBody s__law_modulus, defScope s__law_modulus, [], []⟩,
  ⟨fun K => He.ga K "_law_common", "_law_common", "_law_common", defArgs s__law_common, defBody s__law_common, defScope s__law_common, [], []⟩,
  ⟨fun K => He.ga K "_law_is_whole", "_law_is_whole", "_law_is_whole", defArgs s__law_is_whole, defBody s__law_is_whole, defScope s__law_is_whole, [], []⟩,
  ⟨fun K => He.ga K "_law_places", "_law_places", "_law_places", defArgs s__law_places, defBody s__law_places, defScope s__law_places, [], []⟩,
  ⟨fun K => He.ga K "_law_apart", "_law_apart", "_law_apart", defArgs s__law_apart, defBody s__law_apart, defScope s__law_apart, [], []⟩,
  ⟨fun K => He.ga K "_law_right", "_law_right", "_law_right", defArgs s__law_right, defBody s__law_right, defScope s__law_right, [], []⟩,
  ⟨fun K => He.ga K "law", "law", "law", defArgs s_law, defBody s_law, defScope s_law, [], []⟩,
  ⟨fun K => He.ma K (He.ga K "NoInverse") "__init__", "__init__", "NoInverse.__init__", defArgs s_init_NoInverse, defBody s_init_NoInverse, defScope s_init_NoInverse, [], []⟩]
def fa : List FB := [fun K => (He.Fa.glo "divisor").ok K, fun K => (He.Fa.glo "inverse").ok K, fun K => (He.Fa.glo "can_join").ok K, fun K => (He.Fa.glo "first_apart").ok K, fun K => (He.Fa.glo "joined").ok K, fun K => (He.Fa.glo "put_together").ok K, fun K => (He.Fa.glo "_law_cell_at").ok K, fun K => (He.Fa.glo "_law_state").ok K, fun K => (He.Fa.glo "_law_take").ok K, fun K => (He.Fa.glo "_law_number").ok K, fun K => (He.Fa.glo "_law_modulus").ok K, fun K => (He.Fa.glo "_law_common").ok K, fun K => (He.Fa.glo "_law_is_whole").ok K, fun K => (He.Fa.glo "_law_places").ok K, fun K => (He.Fa.glo "_law_apart").ok K, fun K => (He.Fa.glo "_law_right").ok K, fun K => (He.Fa.glo "law").ok K, fun K => (He.Fa.glo "PrimeError").ok K, fun K => (He.Fa.glo "NoInverse").ok K, fun K => (He.Fa.free "range").ok K, fun K => (He.Fa.free "len").ok K, fun K => (He.Fa.free "isinstance").ok K, fun K => (He.Fa.free "int").ok K, fun K => (He.Fa.free "bool").ok K, fun K => (He.Fa.free "tuple").ok K, fun K => (He.Fa.free "list").ok K, fun K => xinB "NoInverse" "divisor" K, fun K => baseB (He.ga K "PrimeError") K, fun K => (He.Fa.exc "PrimeError").ok K]
structure Txt (K : PySem.W.Frag) (mg : Str → Option Value) : Prop where
  c : Told fa fn K
  gl : ∀ {x : Str}, (He.Fa.glo x).ok K = true → mg x = some (.ref (He.ga K x))
  fr : ∀ {x : Str}, (He.Fa.free x).ok K = true → mg x = none
  int_ok : ∀ {x : Str} {i : Int}, (He.Fa.int x i).ok K = true → ∃ t, mg x = some (.int i t)
section
variable {P : Program} {w : World} {K : PySem.W.Frag} {mg : Str → Option Value} {base : Heap}
theorem F0_divisor (T : Txt K mg) : ∃ fd, FnP K "divisor" s_divisor (He.ga K "divisor") fd := T.c.dfn 0 rfl
noncomputable def fd_divisor (T : Txt K mg) : FuncData := (F0_divisor T).choose
theorem F_divisor (T : Txt K mg) : FnP K "divisor" s_divisor (He.ga K "divisor") (fd_divisor T) := (F0_divisor T).choose_spec
theorem g_divisor (T : Txt K mg) : mg "divisor" = some (.ref (He.ga K "divisor")) := T.gl (T.c.fact 0 rfl)
theorem kp_divisor (T : Txt K mg) : PySem.W.keepIn K (.ref (He.ga K "divisor")) = true := (F_divisor T).kp
theorem B_divisor (T : Txt K mg) : Binds K (fd_divisor T) ["a", "b"] [] := (F_divisor T).bindsN fun _ _ _ _ _ _ us hl => match us, hl with | [_, _], _ => rfl
theorem F0_inverse (T : Txt K mg) : ∃ fd, FnP K "inverse" s_inverse (He.ga K "inverse") fd := T.c.dfn 1 rfl
noncomputable def fd_inverse (T : Txt K mg) : FuncData := (F0_inverse T).choose
theorem F_inverse (T : Txt K mg) : FnP K "inverse" s_inverse (He.ga K "inverse") (fd_inverse T) := (F0_inverse T).choose_spec
theorem g_inverse (T : Txt K mg) : mg "inverse" = some (.ref (He.ga K "inverse")) := T.gl (T.c.fact 1 rfl)
theorem kp_inverse (T : Txt K mg) : PySem.W.keepIn K (.ref (He.ga K "inverse")) = true := (F_inverse T).kp
theorem B_inverse (T : Txt K mg) : Binds K (fd_inverse T) ["n", "a"] [] := (F_inverse T).bindsN fun _ _ _ _ _ _ us hl => match us, hl with | [_, _], _ => rfl
theorem F0_can_join (T : Txt K mg) : ∃ fd, FnP K "can_join" s_can_join (He.ga K "can_join") fd := T.c.dfn 2 rfl
noncomputable def fd_can_join (T : Txt K mg) : FuncData := (F0_can_join T).choose
theorem F_can_join (T : Txt K mg) : FnP K "can_join" s_can_join (He.ga K "can_join") (fd_can_join T) := (F0_can_join T).choose_spec
theorem g_can_join (T : Txt K mg) : mg "can_join" = some (.ref (He.ga K "can_join")) := T.gl (T.c.fact 2 rfl)
theorem kp_can_join (T : Txt K mg) : PySem.W.keepIn K (.ref (He.ga K "can_join")) = true := (F_can_join T).kp
theorem B_can_join (T : Txt K mg) : Binds K (fd_can_join T) ["one", "other"] [] := (F_can_join T).bindsN fun _ _ _ _ _ _ us hl => match us, hl with | [_, _], _ => rfl
theorem F0_first_apart (T : Txt K mg) : ∃ fd, FnP K "first_apart" s_first_apart (He.ga K "first_apart") fd := T.c.dfn 3 rfl
noncomputable def fd_first_apart (T : Txt K mg) : FuncData := (F0_first_apart T).choose
theorem F_first_apart (T : Txt K mg) : FnP K "first_apart" s_first_apart (He.ga K "first_apart") (fd_first_apart T) := (F0_first_apart T).choose_spec
theorem g_first_apart (T : Txt K mg) : mg "first_apart" = some (.ref (He.ga K "first_apart")) := T.gl (T.c.fact 3 rfl)
theorem kp_first_apart (T : Txt K mg) : PySem.W.keepIn K (.ref (He.ga K "first_apart")) = true := (F_first_apart T).kp
theorem B_first_apart (T : Txt K mg) : Binds K (fd_first_apart T) ["places"] [] := (F_first_apart T).bindsN fun _ _ _ _ _ _ us hl => match us, hl with | [_], _ => rfl
theorem F0_joined (T : Txt K mg) : ∃ fd, FnP K "joined" s_joined (He.ga K "joined") fd := T.c.dfn 4 rfl
noncomputable def fd_joined (T : Txt K mg) : FuncData := (F0_joined T).choose
theorem F_joined (T : Txt K mg) : FnP K "joined" s_joined (He.ga K "joined") (fd_joined T) := (F0_joined T).choose_spec
theorem g_joined (T : Txt K mg) : mg "joined" = some (.ref (He.ga K "joined")) := T.gl (T.c.fact 4 rfl)
theorem kp_joined (T : Txt K mg) : PySem.W.keepIn K (.ref (He.ga K "joined")) = true := (F_joined T).kp
theorem B_joined (T : Txt K mg) : Binds K (fd_joined T) ["one", "other"] [] := (F_joined T).bindsN fun _ _ _ _ _ _ us hl => match us, hl with | [_, _], _ => rfl
theorem F0_put_together (T : Txt K mg) : ∃ fd, FnP K "put_together" s_put_together (He.ga K "put_together") fd := T.c.dfn 5 rfl
noncomputable def fd_put_together (T : Txt K mg) : FuncData := (F0_put_together T).choose
theorem F_put_together (T : Txt K mg) : FnP K "put_together" s_put_together (He.ga K "put_together") (fd_put_together T) := (F0_put_together T).choose_spec
theorem g_put_together (T : Txt K mg) : mg "put_together" = some (.ref (He.ga K "put_together")) := T.gl (T.c.fact 5 rfl)
theorem kp_put_together (T : Txt K mg) : PySem.W.keepIn K (.ref (He.ga K "put_together")) = true := (F_put_together T).kp
theorem B_put_together (T : Txt K mg) : Binds K (fd_put_together T) ["places"] [] := (F_put_together T).bindsN fun _ _ _ _ _ _ us hl => match us, hl with | [_], _ => rfl
theorem F0__law_cell_at (T : Txt K mg) : ∃ fd, FnP K "_law_cell_at" s__law_cell_at (He.ga K "_law_cell_at") fd := T.c.dfn 6 rfl
noncomputable def fd__law_cell_at (T : Txt K mg) : FuncData := (F0__law_cell_at T).choose
theorem F__law_cell_at (T : Txt K mg) : FnP K "_law_cell_at" s__law_cell_at (He.ga K "_law_cell_at") (fd__law_cell_at T) := (F0__law_cell_at T).choose_spec
theorem g__law_cell_at (T : Txt K mg) : mg "_law_cell_at" = some (.ref (He.ga K "_law_cell_at")) := T.gl (T.c.fact 6 rfl)
theorem kp__law_cell_at (T : Txt K mg) : PySem.W.keepIn K (.ref (He.ga K "_law_cell_at")) = true := (F__law_cell_at T).kp
theorem B__law_cell_at (T : Txt K mg) : Binds K (fd__law_cell_at T) ["_law_script", "_law_k"] [] := (F__law_cell_at T).bindsN fun _ _ _ _ _ _ us hl => match us, hl with | [_, _], _ => rfl
theorem F0__law_state (T : Txt K mg) : ∃ fd, FnP K "_law_state" s__law_state (He.ga K "_law_state") fd := T.c.dfn 7 rfl
noncomputable def fd__law_state (T : Txt K mg) : FuncData := (F0__law_state T).choose
theorem F__law_state (T : Txt K mg) : FnP K "_law_state" s__law_state (He.ga K "_law_state") (fd__law_state T) := (F0__law_state T).choose_spec
theorem g__law_state (T : Txt K mg) : mg "_law_state" = some (.ref (He.ga K "_law_state")) := T.gl (T.c.fact 7 rfl)
theorem kp__law_state (T : Txt K mg) : PySem.W.keepIn K (.ref (He.ga K "_law_state")) = true := (F__law_state T).kp
theorem B__law_state (T : Txt K mg) : Binds K (fd__law_state T) ["_law_cell", "_law_free"] [] := (F__law_state T).bindsN fun _ _ _ _ _ _ us hl => match us, hl with | [_, _], _ => rfl
theorem F0__law_take (T : Txt K mg) : ∃ fd, FnP K "_law_take" s__law_take (He.ga K "_law_take") fd := T.c.dfn 8 rfl
noncomputable def fd__law_take (T : Txt K mg) : FuncData := (F0__law_take T).choose
theorem F__law_take (T : Txt K mg) : FnP K "_law_take" s__law_take (He.ga K "_law_take") (fd__law_take T) := (F0__law_take T).choose_spec
theorem g__law_take (T : Txt K mg) : mg "_law_take" = some (.ref (He.ga K "_law_take")) := T.gl (T.c.fact 8 rfl)
theorem kp__law_take (T : Txt K mg) : PySem.W.keepIn K (.ref (He.ga K "_law_take")) = true := (F__law_take T).kp
theorem B__law_take (T : Txt K mg) : Binds K (fd__law_take T) ["_law_state_here", "_law_many"] [] := (F__law_take T).bindsN fun _ _ _ _ _ _ us hl => match us, hl with | [_, _], _ => rfl
theorem F0__law_number (T : Txt K mg) : ∃ fd, FnP K "_law_number" s__law_number (He.ga K "_law_number") fd := T.c.dfn 9 rfl
noncomputable def fd__law_number (T : Txt K mg) : FuncData := (F0__law_number T).choose
theorem F__law_number (T : Txt K mg) : FnP K "_law_number" s__law_number (He.ga K "_law_number") (fd__law_number T) := (F0__law_number T).choose_spec
theorem g__law_number (T : Txt K mg) : mg "_law_number" = some (.ref (He.ga K "_law_number")) := T.gl (T.c.fact 9 rfl)
theorem kp__law_number (T : Txt K mg) : PySem.W.keepIn K (.ref (He.ga K "_law_number")) = true := (F__law_number T).kp
theorem B__law_number (T : Txt K mg) : Binds K (fd__law_number T) ["_law_state_here"] [] := (F__law_number T).bindsN fun _ _ _ _ _ _ us hl => match us, hl with | [_], _ => rfl
theorem F0__law_modulus (T : Txt K mg) : ∃ fd, FnP K "_law_modulus" s__law_modulus (He.ga K "_law_modulus") fd := T.c.dfn 10 rfl
noncomputable def fd__law_modulus (T : Txt K mg) : FuncData := (F0__law_modulus T).choose
theorem F__law_modulus (T : Txt K mg) : FnP K "_law_modulus" s__law_modulus (He.ga K "_law_modulus") (fd__law_modulus T) := (F0__law_modulus T).choose_spec
theorem g__law_modulus (T : Txt K mg) : mg "_law_modulus" = some (.ref (He.ga K "_law_modulus")) := T.gl (T.c.fact 10 rfl)
theorem kp__law_modulus (T : Txt K mg) : PySem.W.keepIn K (.ref (He.ga K "_law_modulus")) = true := (F__law_modulus T).kp
theorem B__law_modulus (T : Txt K mg) : Binds K (fd__law_modulus T) ["_law_state_here"] [] := (F__law_modulus T).bindsN fun _ _ _ _ _ _ us hl => match us, hl with | [_], _ => rfl
theorem F0__law_common (T : Txt K mg) : ∃ fd, FnP K "_law_common" s__law_common (He.ga K "_law_common") fd := T.c.dfn 11 rfl
noncomputable def fd__law_common (T : Txt K mg) : FuncData := (F0__law_common T).choose
theorem F__law_common (T : Txt K mg) : FnP K "_law_common" s__law_common (He.ga K "_law_common") (fd__law_common T) := (F0__law_common T).choose_spec
theorem g__law_common (T : Txt K mg) : mg "_law_common" = some (.ref (He.ga K "_law_common")) := T.gl (T.c.fact 11 rfl)
theorem kp__law_common (T : Txt K mg) : PySem.W.keepIn K (.ref (He.ga K "_law_common")) = true := (F__law_common T).kp
theorem B__law_common (T : Txt K mg) : Binds K (fd__law_common T) ["_law_one", "_law_other"] [] := (F__law_common T).bindsN fun _ _ _ _ _ _ us hl => match us, hl with | [_, _], _ => rfl
theorem F0__law_is_whole (T : Txt K mg) : ∃ fd, FnP K "_law_is_whole" s__law_is_whole (He.ga K "_law_is_whole") fd := T.c.dfn 12 rfl
noncomputable def fd__law_is_whole (T : Txt K mg) : FuncData := (F0__law_is_whole T).choose
theorem F__law_is_whole (T : Txt K mg) : FnP K "_law_is_whole" s__law_is_whole (He.ga K "_law_is_whole") (fd__law_is_whole T) := (F0__law_is_whole T).choose_spec
theorem g__law_is_whole (T : Txt K mg) : mg "_law_is_whole" = some (.ref (He.ga K "_law_is_whole")) := T.gl (T.c.fact 12 rfl)
theorem kp__law_is_whole (T : Txt K mg) : PySem.W.keepIn K (.ref (He.ga K "_law_is_whole")) = true := (F__law_is_whole T).kp
theorem B__law_is_whole (T : Txt K mg) : Binds K (fd__law_is_whole T) ["_law_thing"] [] := (F__law_is_whole T).bindsN fun _ _ _ _ _ _ us hl => match us, hl with | [_], _ => rfl
theorem F0__law_places (T : Txt K mg) : ∃ fd, FnP K "_law_places" s__law_places (He.ga K "_law_places") fd := T.c.dfn 13 rfl
noncomputable def fd__law_places (T : Txt K mg) : FuncData := (F0__law_places T).choose
theorem F__law_places (T : Txt K mg) : FnP K "_law_places" s__law_places (He.ga K "_law_places") (fd__law_places T) := (F0__law_places T).choose_spec
theorem g__law_places (T : Txt K mg) : mg "_law_places" = some (.ref (He.ga K "_law_places")) := T.gl (T.c.fact 13 rfl)
theorem kp__law_places (T : Txt K mg) : PySem.W.keepIn K (.ref (He.ga K "_law_places")) = true := (F__law_places T).kp
theorem B__law_places (T : Txt K mg) : Binds K (fd__law_places T) ["_law_state_here"] [] := (F__law_places T).bindsN fun _ _ _ _ _ _ us hl => match us, hl with | [_], _ => rfl
theorem F0__law_apart (T : Txt K mg) : ∃ fd, FnP K "_law_apart" s__law_apart (He.ga K "_law_apart") fd := T.c.dfn 14 rfl
noncomputable def fd__law_apart (T : Txt K mg) : FuncData := (F0__law_apart T).choose
theorem F__law_apart (T : Txt K mg) : FnP K "_law_apart" s__law_apart (He.ga K "_law_apart") (fd__law_apart T) := (F0__law_apart T).choose_spec
theorem g__law_apart (T : Txt K mg) : mg "_law_apart" = some (.ref (He.ga K "_law_apart")) := T.gl (T.c.fact 14 rfl)
theorem kp__law_apart (T : Txt K mg) : PySem.W.keepIn K (.ref (He.ga K "_law_apart")) = true := (F__law_apart T).kp
theorem B__law_apart (T : Txt K mg) : Binds K (fd__law_apart T) ["_law_places_here"] [] := (F__law_apart T).bindsN fun _ _ _ _ _ _ us hl => match us, hl with | [_], _ => rfl
theorem F0__law_right (T : Txt K mg) : ∃ fd, FnP K "_law_right" s__law_right (He.ga K "_law_right") fd := T.c.dfn 15 rfl
noncomputable def fd__law_right (T : Txt K mg) : FuncData := (F0__law_right T).choose
theorem F__law_right (T : Txt K mg) : FnP K "_law_right" s__law_right (He.ga K "_law_right") (fd__law_right T) := (F0__law_right T).choose_spec
theorem g__law_right (T : Txt K mg) : mg "_law_right" = some (.ref (He.ga K "_law_right")) := T.gl (T.c.fact 15 rfl)
theorem kp__law_right (T : Txt K mg) : PySem.W.keepIn K (.ref (He.ga K "_law_right")) = true := (F__law_right T).kp
theorem B__law_right (T : Txt K mg) : Binds K (fd__law_right T) ["_law_places_here", "_law_found"] [] := (F__law_right T).bindsN fun _ _ _ _ _ _ us hl => match us, hl with | [_, _], _ => rfl
theorem F0_law (T : Txt K mg) : ∃ fd, FnP K "law" s_law (He.ga K "law") fd := T.c.dfn 16 rfl
noncomputable def fd_law (T : Txt K mg) : FuncData := (F0_law T).choose
theorem F_law (T : Txt K mg) : FnP K "law" s_law (He.ga K "law") (fd_law T) := (F0_law T).choose_spec
theorem g_law (T : Txt K mg) : mg "law" = some (.ref (He.ga K "law")) := T.gl (T.c.fact 16 rfl)
theorem kp_law (T : Txt K mg) : PySem.W.keepIn K (.ref (He.ga K "law")) = true := (F_law T).kp
theorem B_law (T : Txt K mg) : Binds K (fd_law T) ["_law_script"] [] := (F_law T).bindsN fun _ _ _ _ _ _ us hl => match us, hl with | [_], _ => rfl
theorem g_PrimeError (T : Txt K mg) : mg "PrimeError" = some (.ref (He.ga K "PrimeError")) := T.gl (T.c.fact 17 rfl)
theorem g_NoInverse (T : Txt K mg) : mg "NoInverse" = some (.ref (He.ga K "NoInverse")) := T.gl (T.c.fact 18 rfl)
theorem x_NoInverse (T : Txt K mg) : XIn K (He.ga K "NoInverse") (He.ma K (He.ga K "NoInverse") "__init__") "divisor" := xin_of (T.c.fact 26 rfl)
theorem F0_init_NoInverse (T : Txt K mg) : ∃ fd, FunD K "__init__" "NoInverse.__init__" (defArgs s_init_NoInverse) (defBody s_init_NoInverse) (defScope s_init_NoInverse) [] [] (He.ma K (He.ga K "NoInverse") "__init__") fd := T.c.dfn 17 rfl
noncomputable def fd_init_NoInverse (T : Txt K mg) : FuncData := (F0_init_NoInverse T).choose
theorem F_init_NoInverse (T : Txt K mg) : FunD K "__init__" "NoInverse.__init__" (defArgs s_init_NoInverse) (defBody s_init_NoInverse) (defScope s_init_NoInverse) [] [] (He.ma K (He.ga K "NoInverse") "__init__") (fd_init_NoInverse T) := (F0_init_NoInverse T).choose_spec
theorem B_init_NoInverse (T : Txt K mg) : Binds K (fd_init_NoInverse T) ["self", "divisor"] [] := (F_init_NoInverse T).bindsN fun _ _ _ _ _ _ us hl => match us, hl with | [_, _], _ => rfl
theorem ok_init_NoInverse (T : Txt K mg) : FnOk P w K mg base CX0 1 (He.ma K (He.ga K "NoInverse") "__init__") (fd_init_NoInverse T) ["self", "divisor"] (sp_init K (He.ga K "NoInverse") "divisor") := by
  refine (F_init_NoInverse T).ok sc_init_NoInverse (fun vs H Q E h => ?_) (fun cdv A outer s H vs Q E hr h => ⟨_, PSs.nox (pss_cons (ps_expr (pe_cinit rfl (g_PrimeError T) (base_of (T.c.fact (t := fun K => baseB (He.ga K "PrimeError") K) 27 rfl)) (pa_cons (pv 0) (pa_cons pe_str pa_nil)))) (pss_one (ps_ost (pv 0) (pv 1)))), ?_⟩)
  · obtain ⟨_, _, rfl, _⟩ := h; rfl
  · exact rd_init h
/-- divisor(a, b): a new tuple (g, u, v) -/
def sp_divisor : Sp := fun vs H Q _ => ∃ a b : Int, vs = [.int a, .int b] ∧ a.natAbs < 2 ^ 900 ∧ b.natAbs < 2 ^ 900 ∧
  ∀ g u v p, M.DivOk a b g u v → H p = none → Q (.ref p) (upd H p (.tup [.int g, .int u, .int v]))
theorem ok_divisor (T : Txt K mg) : FnOk P w K mg base CX0 1 (He.ga K "divisor") (fd_divisor T) ["a", "b"] sp_divisor := by
  refine (F_divisor T).ok sc_divisor (fun vs H Q E h => ?_) (fun cdv A outer s H vs Q E hr h => ⟨_, PSs.nox (pss_cons (ps_par3 (i := 2) (j := 3) (l := 4) rfl sc_divisor.nd rfl rfl rfl (by decide) (by decide) (by decide) rfl rfl rfl (pa_cons (pv 0) (pa_cons pe_int (pa_cons pe_int pa_nil))) rfl)
      (pss_cons (ps_par3 (i := 5) (j := 6) (l := 7) rfl sc_divisor.nd rfl rfl rfl (by decide) (by decide) (by decide) rfl rfl rfl (pa_cons (pv 1) (pa_cons pe_int (pa_cons pe_int pa_nil))) rfl)
      (pss_cons (ps_while PassesOwn.never (pt_cmpR op_ne (pv 5) pe_int (nomark _)) (pss_cons (ps_set (i := 8) sc_divisor.nd rfl (Or.inl rfl) (pe_op op_divF (pv 2) (pv 5)))
      (pss_cons (ps_par (i := 2) (j := 5) rfl sc_divisor.nd rfl rfl (by decide) rfl rfl (pa_cons (pv 5) (pa_cons (pe_op op_sub (pv 2) (pe_op op_mulW (pv 8) (pv 5))) pa_nil)) rfl)
      (pss_cons (ps_par (i := 3) (j := 6) rfl sc_divisor.nd rfl rfl (by decide) rfl rfl (pa_cons (pv 6) (pa_cons (pe_op op_sub (pv 3) (pe_op op_mulW (pv 8) (pv 6))) pa_nil)) rfl)
      (pss_one (ps_par (i := 4) (j := 7) rfl sc_divisor.nd rfl rfl (by decide) rfl rfl (pa_cons (pv 7) (pa_cons (pe_op op_sub (pv 4) (pe_op op_mulW (pv 8) (pv 7))) pa_nil)) rfl))))))
      (pss_cons (ps_if (pt_cmpR op_lt (pv 2) pe_int (nomark _)) (pss_one (ps_ret (pe_tup (pa_cons (pe_un un_neg (pv 2)) (pa_cons (pe_un un_neg (pv 3)) (pa_cons (pe_un un_neg (pv 4)) pa_nil)))))) pss_nil)
      (pss_one (ps_ret (pe_tup (pa_cons (pv 2) (pa_cons (pv 3) (pa_cons (pv 4) pa_nil)))))))))), ?_⟩)
  · obtain ⟨a, b, rfl, _⟩ := h; rfl
  · obtain ⟨a, b, rfl, ha, hb, k⟩ := h
    walk_at "g"
    refine s_while (fun σ H' => H' = H ∧ ∃ (g u v r x y : Int) (t : Option V), σ = [some (.int a), some (.int b), some (.int g), some (.int u), some (.int v), some (.int r), some (.int x), some (.int y), t] ∧ M.DivSt a b g u v r x y)
      (fun σ _ => (iv σ 5).natAbs) ⟨rfl, a, 1, 0, b, 0, 1, none, rfl, .inl ⟨rfl, rfl, rfl, rfl, rfl, rfl⟩⟩ ?_
    · rintro σ H' ⟨rfl, g, u, v, r, x, y, t, rfl, I⟩
      walk_at "g"
      refine s_iten (fun hr => ?_) (fun hr => ?_)
      · have Z := M.div_sizes I
        have hd : r ≠ 0 := hr
        have st := M.div_step I hd
        have hf : (g.fdiv r).natAbs ≤ g.natAbs := M.fdiv_le g r
        walk_at "g"
        refine s_i (divF hd (by omega)) ?_
        walk_at "g"
        exact ⟨⟨rfl, _, _, _, _, _, _, _, rfl, st.1⟩, st.2⟩
      · walk_at "g"
        have T := M.div_told I hr
        refine s_ite (fun hg => ?_) (fun hg => ?_)
        · walk_at "g"
          exact ⟨len_le (by simp), fun p hp => k _ _ _ p (T.1 hg) hp⟩
        · walk_at "g"
          exact ⟨len_le (by simp), fun p hp => k _ _ _ p (T.2 hg) hp⟩

/-- inverse(n, a): the number that, times a, is 1 by n; else NoInverse(the divisor) -/
def sp_inverse (K : PySem.W.Frag) : Sp := fun vs H Q E => ∃ n a : Int, vs = [.int n, .int a] ∧ 0 < n ∧ n.natAbs < 2 ^ 900 ∧
  (Int.gcd a n = 1 → ∀ (H' : Hp) (b : Int), Same H H' → 0 ≤ b → b < n → (b * a - 1) % n = 0 → Q (.int b) H') ∧
  (Int.gcd a n ≠ 1 → ∀ (d : Addr) (H' : Hp), H d = none → Same H H' → H' d = some (.xd [("divisor", .int (Int.gcd a n))]) → E (.ref (He.ga K "NoInverse")) (some d) H')
theorem ok_inverse (T : Txt K mg) : FnOk P w K mg base (L2.CX P w) 5 (He.ga K "inverse") (fd_inverse T) ["n", "a"] (sp_inverse K) := by
  refine (F_inverse T).ok sc_inverse (fun vs H Q E h => ?_) (fun cdv A outer s H vs Q E hr h => ⟨_, (pss_cons (ps_asg (pe_call (ok_divisor T) (hr.mono (by decide)) rfl (g_divisor T) (kp_divisor T) (B_divisor T) .nil pass0 (pa_cons (pe_op op_mod (pv 1) (pv 0)) (pa_cons (pv 0) pa_nil))) (pg_tup rfl (pgs_cons (pg_name (i := 2) sc_inverse.nd rfl (Or.inl rfl)) (pgs_cons (pg_name (i := 3) sc_inverse.nd rfl (Or.inl rfl)) (pgs_cons (pg_name (i := 4) sc_inverse.nd rfl (Or.inl rfl)) pgs_nil)))))
      (pss_cons (ps_if (pt_cmpR op_gt (pv 2) pe_int (nomark _)) (pss_one (ps_raise rfl (takes_of rfl rfl rfl rfl) (pmk_oex (x_NoInverse T).oex (x_NoInverse T).iC (x_NoInverse T).tI (ok_init_NoInverse T) (hr.mono (by decide)) (B_init_NoInverse T) .nil pass0 rfl (g_NoInverse T) (pa_cons (pv 2) pa_nil)))) pss_nil)
      (pss_one (ps_ret (pe_op op_mod (pv 3) (pv 0)))))), ?_⟩)
  · obtain ⟨n, a, rfl, _⟩ := h; rfl
  · obtain ⟨n, a, rfl, h0, hn, k1, k2⟩ := h
    have ha0 := Int.emod_nonneg a (show n ≠ 0 by omega)
    have ha1 := Int.emod_lt_of_pos a h0
    have gp := M.gcd_pos (a := a) h0
    walk_at "g"
    refine s_i (by omega) ?_
    walk_at "g"
    refine ⟨a % n, n, rfl, by omega, hn, fun g u v p I hp => ?_⟩
    have S1 : Same H (upd H p (.tup [.int g, .int u, .int v])) := same_upd hp
    have T1 : upd H p (.tup [.int g, .int u, .int v]) p = some (.tup [.int g, .int u, .int v]) := upd_same
    generalize upd H p (.tup [.int g, .int u, .int v]) = H1 at S1 T1 ⊢
    have hg := I.hg
    rw [M.gcd_mod] at hg
    walk_at "g"
    refine s_gtup (SqT.of T1) rfl ?_
    walk_at "g"
    refine s_ite (fun c => ?_) (fun c => ?_)
    · walk_at "g"
      refine s_raise (x_NoInverse T).oex (x_NoInverse T).noF fun d H' hd hx hs => ?_
      rw [hg] at hx
      exact k2 (by omega) d H' (S1.free hd) (S1.trans hs) hx
    · walk_at "g"
      refine s_i (by omega) ?_
      have g1 : Int.gcd a n = 1 := by omega
      exact k1 g1 H1 _ S1 (Int.emod_nonneg _ (by omega)) (Int.emod_lt_of_pos _ h0) (M.inv_of h0 I g1)

/-- can_join(one, other): whether two places are alike by what divides both moduli -/
def sp_can_join : Sp := fun vs H Q _ => ∃ (p q : Addr) (m r n s : Int), vs = [.ref p, .ref q] ∧ H p = some (.tup [.int m, .int r]) ∧ H q = some (.tup [.int n, .int s]) ∧ 0 < m ∧ 0 < n ∧ m < 2 ^ 900 ∧ n < 2 ^ 900 ∧
  ∀ H', Same H H' → Q (.bl (decide (M.alike m r n s))) H'
theorem ok_can_join (T : Txt K mg) : FnOk P w K mg base CX0 2 (He.ga K "can_join") (fd_can_join T) ["one", "other"] sp_can_join := by
  refine (F_can_join T).ok sc_can_join (fun vs H Q E h => ?_) (fun cdv A outer s H vs Q E hr h => ⟨_, PSs.nox (pss_cons (ps_set (i := 2) sc_can_join.nd rfl (Or.inl rfl) (pe_ix ix_seq (pe_call (ok_divisor T) (hr.mono (by decide)) rfl (g_divisor T) (kp_divisor T) (B_divisor T) .nil pass0 (pa_cons (pe_ix ix_seq (pv 0) pe_int (fun _ _ => rfl)) (pa_cons (pe_ix ix_seq (pv 1) pe_int (fun _ _ => rfl)) pa_nil))) pe_int (fun _ _ => rfl)))
      (pss_one (ps_ret (pe_cmpR op_eq (pe_op op_mod (pe_op op_sub (pe_ix ix_seq (pv 0) pe_int (fun _ _ => rfl)) (pe_ix ix_seq (pv 1) pe_int (fun _ _ => rfl))) (pv 2)) pe_int (nomark _))))), ?_⟩)
  · obtain ⟨p, q, m, r, n, s, rfl, _⟩ := h; rfl
  · obtain ⟨p, q, m, r, n, s, rfl, hp, hq, m0, n0, m1, n1, k⟩ := h
    walk_at "g"
    refine s_ixT (SqT.of hp) (atI0 0 rfl rfl) ?_
    walk_at "g"
    refine s_ixT (SqT.of hq) (atI0 0 rfl rfl) ?_
    walk_at "g"
    refine ⟨m, n, rfl, by omega, by omega, fun g u v t I ht => ?_⟩
    have S1 : Same H (upd H t (.tup [.int g, .int u, .int v])) := same_upd ht
    have T1 : upd H t (.tup [.int g, .int u, .int v]) t = some (.tup [.int g, .int u, .int v]) := upd_same
    generalize upd H t (.tup [.int g, .int u, .int v]) = H1 at S1 T1 ⊢
    walk_at "g"
    refine s_ixT (SqT.of T1) (atI0 0 rfl rfl) ?_
    walk_at "g"
    refine s_ixT (SqT.of (S1 _ _ hp)) (atI0 1 rfl rfl) ?_
    walk_at "g"
    refine s_ixT (SqT.of (S1 _ _ hq)) (atI0 1 rfl rfl) ?_
    have gp : 0 < (Int.gcd m n : Nat) := Int.gcd_pos_of_ne_zero_left n (by omega)
    rw [I.hg]
    walk_at "g"
    refine s_i (by omega) ?_
    walk_at "g"
    exact k _ S1
/-- places: a list of tuples, moduli from 1 on -/
def PlacesAt (K : PySem.W.Frag) (H : Hp) (a : Addr) (pl : List (Int × Int)) : Prop := ∃ xs : List V, H a = some (.lst xs) ∧ TupsIn H xs (pl.map fun q => [V.int q.1, V.int q.2])
theorem PlacesAt.same {K : PySem.W.Frag} {H H' : Hp} {a : Addr} {pl : List (Int × Int)} (h : PlacesAt K H a pl) (s : Same H H') : PlacesAt K H' a pl := by
  obtain ⟨xs, h1, h2⟩ := h
  exact ⟨xs, s _ _ h1, h2.same s⟩
theorem PlacesAt.get {K : PySem.W.Frag} {H : Hp} {xs : List V} {pl : List (Int × Int)} (h : TupsIn H xs (pl.map fun q => [V.int q.1, V.int q.2])) {i : Nat} {q : Int × Int} (hq : pl[i]? = some q) : ∃ t, xs[i]? = some (.ref t) ∧ H t = some (.tup [.int q.1, .int q.2]) := by
  have z : (pl.map fun q => [V.int q.1, V.int q.2])[i]? = some [V.int q.1, V.int q.2] := by rw [List.getElem?_map, hq]; rfl
  obtain ⟨x, h1, t, h2, h3⟩ := paired_get' h z
  exact ⟨t, by rw [h1, h2], h3⟩
theorem dp_places {K : PySem.W.Frag} {H : Hp} {a : Addr} {pl : List (Int × Int)} (h : PlacesAt K H a pl) : Dp K H (.ref a) (.list (pl.map fun q => .tuple [.int q.1, .int q.2])) := by
  obtain ⟨xs, hx, ht⟩ := h
  refine .lst (SqL.of hx) ?_
  clear hx
  induction pl generalizing xs with
  | nil => cases ht; exact .nil
  | cons q pl ih =>
    cases ht with
    | cons f r =>
      obtain ⟨t, rfl, e⟩ := f
      exact .cons (dp_tup2 e) (ih _ r)
theorem sh_places (pl : List (Int × Int)) : SeqAt.shaped (.list (pl.map fun q => PyData.tuple [.int q.1, .int q.2])) = true := shapedL fun d hd => by
  obtain ⟨q, _, rfl⟩ := List.mem_map.mp hd
  exact ⟨rfl, by show 1 ≤ 63; decide⟩
/-- first_apart(places): None, or the first two that are apart -/
def sp_first_apart (K : PySem.W.Frag) : Sp := fun vs H Q _ => ∃ (a : Addr) (pl : List (Int × Int)), vs = [.ref a] ∧ PlacesAt K H a pl ∧ pl.length ≤ 1000 ∧ (∀ q ∈ pl, 0 < q.1 ∧ q.1 < 2 ^ 900) ∧
  (M.allAlike pl → ∀ H', Same H H' → Q .non H') ∧
  (∀ i j : Nat, M.firstApart pl i j → ∀ p H', Same H H' → H' p = some (.tup [.int i, .int j]) → Q (.ref p) H')
theorem ok_first_apart (T : Txt K mg) : FnOk P w K mg base CX0 3 (He.ga K "first_apart") (fd_first_apart T) ["places"] (sp_first_apart K) := by
  refine (F_first_apart T).ok sc_first_apart (fun vs H Q E h => ?_) (fun cdv A outer s H vs Q E hr h => ⟨_, PSs.nox (pss_cons (ps_for PassesOwn.never rfl (pi_range1 rfl (T.fr (T.c.fact 19 rfl)) (pa_cons (pe_callB callLen rfl (T.fr (T.c.fact 20 rfl)) boot_len (pa_cons (pv 0) pa_nil)) pa_nil)) (pg_name (i := 1) sc_first_apart.nd rfl (Or.inl rfl)) (pss_one (ps_for PassesOwn.never rfl (pi_range2 rfl (T.fr (T.c.fact 19 rfl)) (pa_cons (pe_op op_add (pv 1) pe_int) (pa_cons (pe_callB callLen rfl (T.fr (T.c.fact 20 rfl)) boot_len (pa_cons (pv 0) pa_nil)) pa_nil))) (pg_name (i := 2) sc_first_apart.nd rfl (Or.inl rfl)) (pss_one (ps_if (pt_not (pt_val (pe_call (ok_can_join T) (hr.mono (by decide)) rfl (g_can_join T) (kp_can_join T) (B_can_join T) .nil pass0 (pa_cons (pe_ix ix_seq (pv 0) (pv 1) (fun _ _ => rfl)) (pa_cons (pe_ix ix_seq (pv 0) (pv 2) (fun _ _ => rfl)) pa_nil))))) (pss_one (ps_ret (pe_tup (pa_cons (pv 1) (pa_cons (pv 2) pa_nil))))) pss_nil)))))
      (pss_one (ps_ret pe_non))), ?_⟩)
  · obtain ⟨a, pl, rfl, _⟩ := h; rfl
  · obtain ⟨a, pl, rfl, hP, hl, hm, k1, k2⟩ := h
    obtain ⟨xs, hx, ht⟩ := hP
    have hxl : xs.length = pl.length := by rw [ht.length, List.length_map]
    walk_at "g"
    refine s_lenL (SqL.of hx) ?_
    walk_at "g"
    refine mkR1 pl.length (by omega) (by omega) (by omega) ?_
    refine for_range (n := pl.length) (fun i σ H' => Same H H' ∧ (∃ u v : Option V, σ = [some (.ref a), u, v]) ∧ M.alikeBefore pl i (i + 1)) ⟨Same.refl _, ⟨none, none, rfl⟩, M.before_zero pl⟩ ?_ ?_
    · rintro i σ H' hi ⟨hs, ⟨u, v, rfl⟩, al⟩
      have hx' := hs _ _ hx
      walk_at "g"
      refine s_lenL (SqL.of hx') ?_
      walk_at "g"
      refine mkR2 (pl.length - (i + 1)) (by omega) (by omega) ?_
      refine for_range (n := pl.length - (i + 1)) (fun d σ H' => Same H H' ∧ (∃ v : Option V, σ = [some (.ref a), some (.int (0 + (i : Int))), v]) ∧ M.alikeBefore pl i (i + 1 + d)) ⟨hs, ⟨_, rfl⟩, al⟩ ?_ ?_
      · rintro d σ H' hd ⟨hs, ⟨v, rfl⟩, al⟩
        have hx' := hs _ _ hx
        have ht' := ht.same hs
        obtain ⟨q1, hq1⟩ : ∃ q, pl[i]? = some q := ⟨_, List.getElem?_eq_getElem hi⟩
        obtain ⟨q2, hq2⟩ : ∃ q, pl[i + 1 + d]? = some q := ⟨_, List.getElem?_eq_getElem (by omega)⟩
        obtain ⟨t1, x1, e1⟩ := PlacesAt.get (K := K) ht' hq1
        obtain ⟨t2, x2, e2⟩ := PlacesAt.get (K := K) ht' hq2
        have m1 := hm q1 (List.mem_of_getElem? hq1)
        have m2 := hm q2 (List.mem_of_getElem? hq2)
        walk_at "g"
        refine s_ixL (SqL.of hx') (atI0 i (by omega) x1) ?_
        walk_at "g"
        refine s_ixL (SqL.of hx') (atI0 (i + 1 + d) (by omega) x2) ?_
        walk_at "g"
        refine ⟨t1, t2, _, _, _, _, rfl, e1, e2, m1.1, m2.1, m1.2, m2.2, fun H1 s1 => ?_⟩
        walk_at "g"
        refine s_iten (fun c => ?_) (fun c => ?_)
        · walk_at "g"
          refine mkT (by simp) fun p H2 np ep s2 => ?_
          refine k2 i (i + 1 + d) ⟨by omega, ⟨q1, q2, hq1, hq2, c⟩, al⟩ p H2 (hs.trans (s1.trans s2)) ?_
          rw [ep]
          have z1 : 0 + (i : Int) = (i : Int) := by omega
          have z2 : 0 + (i : Int) + 1 + (d : Int) = ((i + 1 + d : Nat) : Int) := by omega
          rw [z2, z1]
        · walk_at "g"
          exact ⟨hs.trans s1, ⟨_, rfl⟩, M.before_one al hq1 hq2 c⟩
      · rintro σ H' ⟨hs, ⟨v, rfl⟩, al⟩
        have e : i + 1 + (pl.length - (i + 1)) = pl.length := by omega
        rw [e] at al
        exact ⟨hs, ⟨_, _, rfl⟩, M.before_row al⟩
    · rintro σ H' ⟨hs, ⟨u, v, rfl⟩, al⟩
      walk_at "g"
      exact k1 (M.before_all al) H' hs
/-- joined(one, other) of two places that are alike -/
def sp_joined : Sp := fun vs H Q _ => ∃ (p q : Addr) (m r n s : Int), vs = [.ref p, .ref q] ∧ H p = some (.tup [.int m, .int r]) ∧ H q = some (.tup [.int n, .int s]) ∧ 0 < m ∧ 0 < n ∧ m < 2 ^ 800 ∧ n < 2 ^ 100 ∧
  0 ≤ r ∧ r < 2 ^ 800 ∧ s.natAbs < 2 ^ 800 ∧ M.alike m r n s ∧ ∀ t H' w x, M.Joined m r n s w x → Same H H' → H' t = some (.tup [.int w, .int x]) → Q (.ref t) H'
theorem ok_joined (T : Txt K mg) : FnOk P w K mg base CX0 6 (He.ga K "joined") (fd_joined T) ["one", "other"] sp_joined := by
  refine (F_joined T).ok sc_joined (fun vs H Q E h => ?_) (fun cdv A outer s H vs Q E hr h => ⟨_, PSs.nox (pss_cons (ps_set (i := 2) sc_joined.nd rfl (Or.inl rfl) (pe_ix ix_seq (pe_call (ok_divisor T) (hr.mono (by decide)) rfl (g_divisor T) (kp_divisor T) (B_divisor T) .nil pass0 (pa_cons (pe_ix ix_seq (pv 0) pe_int (fun _ _ => rfl)) (pa_cons (pe_ix ix_seq (pv 1) pe_int (fun _ _ => rfl)) pa_nil))) pe_int (fun _ _ => rfl)))
      (pss_cons (ps_set (i := 3) sc_joined.nd rfl (Or.inl rfl) (pe_op op_fdivW (pe_ix ix_seq (pv 1) pe_int (fun _ _ => rfl)) (pv 2)))
      (pss_cons (ps_set (i := 4) sc_joined.nd rfl (Or.inl rfl) (pe_op op_mod (pe_op op_mulW (pe_op op_fdivW (pe_op op_sub (pe_ix ix_seq (pv 1) pe_int (fun _ _ => rfl)) (pe_ix ix_seq (pv 0) pe_int (fun _ _ => rfl))) (pv 2)) (pe_call (ok_inverse T) (hr.mono (by decide)) rfl (g_inverse T) (kp_inverse T) (B_inverse T) .nil passL (pa_cons (pv 3) (pa_cons (pe_op op_fdivW (pe_ix ix_seq (pv 0) pe_int (fun _ _ => rfl)) (pv 2)) pa_nil)))) (pv 3)))
      (pss_cons (ps_set (i := 5) sc_joined.nd rfl (Or.inl rfl) (pe_op op_mulW (pe_ix ix_seq (pv 0) pe_int (fun _ _ => rfl)) (pv 3)))
      (pss_one (ps_ret (pe_tup (pa_cons (pv 5) (pa_cons (pe_op op_mod (pe_op op_add (pe_ix ix_seq (pv 0) pe_int (fun _ _ => rfl)) (pe_op op_mulW (pe_ix ix_seq (pv 0) pe_int (fun _ _ => rfl)) (pv 4))) (pv 5)) pa_nil))))))))), ?_⟩)
  · obtain ⟨p, q, m, r, n, s, rfl, _⟩ := h; rfl
  · obtain ⟨p, q, m, r, n, s, rfl, hp, hq, m0, n0, m1, n1, r0, r1, s1, al, k⟩ := h
    have gp : 0 < (Int.gcd m n : Nat) := Int.gcd_pos_of_ne_zero_left n (by omega)
    walk_at "g"
    refine s_ixT (SqT.of hp) (atI0 0 rfl rfl) ?_
    walk_at "g"
    refine s_ixT (SqT.of hq) (atI0 0 rfl rfl) ?_
    walk_at "g"
    refine ⟨m, n, rfl, by omega, by omega, fun g u v t I ht => ?_⟩
    have S1 : Same H (upd H t (.tup [.int g, .int u, .int v])) := same_upd ht
    have T1 : upd H t (.tup [.int g, .int u, .int v]) t = some (.tup [.int g, .int u, .int v]) := upd_same
    generalize upd H t (.tup [.int g, .int u, .int v]) = H1 at S1 T1 ⊢
    have hg := I.hg
    walk_at "g"
    refine s_ixT (SqT.of T1) (atI0 0 rfl rfl) ?_
    walk_at "g"
    refine s_ixT (SqT.of (S1 _ _ hq)) (atI0 0 rfl rfl) ?_
    have gl : g ≤ n := by rw [hg]; exact Int.le_of_dvd n0 (Int.gcd_dvd_right ..)
    have gl2 : g ≤ m := by rw [hg]; exact Int.le_of_dvd m0 (Int.gcd_dvd_left ..)
    have g0 : 0 < g := by omega
    walk_at "g"
    refine s_i (divW g0 (by omega)) ?_
    walk_at "g"
    refine s_ixT (SqT.of (S1 _ _ hq)) (atI0 1 rfl rfl) ?_
    walk_at "g"
    refine s_ixT (SqT.of (S1 _ _ hp)) (atI0 1 rfl rfl) ?_
    walk_at "g"
    refine s_i (divW g0 (by omega)) ?_
    walk_at "g"
    refine s_ixT (SqT.of (S1 _ _ hp)) (atI0 0 rfl rfl) ?_
    walk_at "g"
    refine s_i (divW g0 (by omega)) ?_
    have st0 : 0 < n / g := Int.ediv_pos_of_pos_of_dvd n0 (by omega) (by rw [hg]; exact Int.gcd_dvd_right ..)
    have st1 : n / g ≤ n := Int.ediv_le_self _ (by omega)
    have c1 : Int.gcd (m / g) (n / g) = 1 := by rw [hg]; exact Int.gcd_ediv_gcd_ediv_gcd gp
    walk_at "g"
    refine ⟨n / g, m / g, rfl, st0, by omega, fun _ H2 b s2 b0 b1 hb => ?_, fun z => absurd c1 z⟩
    have d1 : ((s - r) / g).natAbs ≤ (s - r).natAbs := Int.natAbs_ediv_le_natAbs _ _
    walk_at "g"
    refine s_i (by omega) ?_
    have S2 := S1.trans s2
    rw [hg] at hb
    have J := M.join_ok m0 n0 al hb
    rw [← hg] at J
    have t0 := Int.emod_nonneg ((s - r) / g * b) (show n / g ≠ 0 by omega)
    have t1 := Int.emod_lt_of_pos ((s - r) / g * b) st0
    have w0 : 0 < m * (n / g) := Int.mul_pos m0 st0
    generalize (s - r) / g * b % (n / g) = T0 at J t0 t1 ⊢
    walk_at "g"
    refine s_ixT (SqT.of (S2 _ _ hp)) (atI0 0 rfl rfl) ?_
    walk_at "g"
    refine s_ixT (SqT.of (S2 _ _ hp)) (atI0 1 rfl rfl) ?_
    walk_at "g"
    refine s_ixT (SqT.of (S2 _ _ hp)) (atI0 0 rfl rfl) ?_
    walk_at "g"
    refine s_i (by omega) ?_
    walk_at "g"
    refine mkT (by simp) fun t2 H3 n3 e3 s3 => ?_
    exact k t2 H3 _ _ J (S2.trans s3) e3
/-- put_together(places) -/
def sp_put_together (K : PySem.W.Frag) : Sp := fun vs H Q _ => ∃ (a : Addr) (pl : List (Int × Int)), vs = [.ref a] ∧ PlacesAt K H a pl ∧ pl.length ≤ 12 ∧ (∀ q ∈ pl, 0 < q.1 ∧ q.1 < 2 ^ 60 ∧ q.2.natAbs < 2 ^ 800) ∧
  (M.allAlike pl → ∀ p H' w x, M.Put pl w x → Same H H' → H' p = some (.tup [.int w, .int x]) → Q (.ref p) H') ∧
  (∀ i j : Nat, M.firstApart pl i j → ∀ p H', Same H H' → H' p = some (.tup [.str "apart", .int i, .int j]) → Q (.ref p) H')
theorem ok_put_together (T : Txt K mg) : FnOk P w K mg base CX0 7 (He.ga K "put_together") (fd_put_together T) ["places"] (sp_put_together K) := by
  refine (F_put_together T).ok sc_put_together (fun vs H Q E h => ?_) (fun cdv A outer s H vs Q E hr h => ⟨_, PSs.nox (pss_cons (ps_set (i := 1) sc_put_together.nd rfl (Or.inl rfl) (pe_call (ok_first_apart T) (hr.mono (by decide)) rfl (g_first_apart T) (kp_first_apart T) (B_first_apart T) .nil pass0 (pa_cons (pv 0) pa_nil)))
      (pss_cons (ps_if (pt_cmpR op_notN1 (pv 1) pe_non (nomark _)) (pss_one (ps_ret (pe_tup (pa_cons pe_str (pa_cons (pe_ix ix_seq (pv 1) pe_int (fun _ _ => rfl)) (pa_cons (pe_ix ix_seq (pv 1) pe_int (fun _ _ => rfl)) pa_nil)))))) pss_nil)
      (pss_cons (ps_set (i := 2) sc_put_together.nd rfl (Or.inl rfl) (pe_tup (pa_cons pe_int (pa_cons pe_int pa_nil))))
      (pss_cons (ps_for PassesOwn.never rfl (pi_list (pv 0)) (pg_name (i := 3) sc_put_together.nd rfl (Or.inl rfl)) (pss_one (ps_set (i := 2) sc_put_together.nd rfl (Or.inl rfl) (pe_call (ok_joined T) (hr.mono (by decide)) rfl (g_joined T) (kp_joined T) (B_joined T) .nil pass0 (pa_cons (pv 2) (pa_cons (pv 3) pa_nil))))))
      (pss_one (ps_ret (pv 2))))))), ?_⟩)
  · obtain ⟨a, pl, rfl, _⟩ := h; rfl
  · obtain ⟨a, pl, rfl, hP, hl, hm, k1, k2⟩ := h
    walk_at "g"
    refine ⟨a, pl, rfl, hP, by omega, fun q hq => ⟨(hm q hq).1, by have := (hm q hq).2.1; omega⟩, fun al H1 s1 => ?_, fun i j fa p H1 s1 e1 => ?_⟩
    · walk_at "g"
      refine mkT (by simp) fun p0 H2 n0 e0 s2 => ?_
      walk_at "g"
      obtain ⟨xs, hx, ht⟩ := hP
      have hxl : xs.length = pl.length := by rw [ht.length, List.length_map]
      have S2 := s1.trans s2
      refine ⟨⟨_, SqL.of (S2 _ _ hx)⟩, ?_⟩
      refine for_list (fun i σ H' => Same H H' ∧ ∃ (v : Option V) (t : Addr) (w x : Int), σ = [some (.ref a), some .non, some (.ref t), v] ∧ H' t = some (.tup [.int w, .int x]) ∧ M.Put (pl.take i) w x)
        ⟨S2, none, p0, 1, 0, rfl, e0, M.put_nil⟩ (fun i σ H' _ I => SqL.of (I.1 _ _ hx)) ?_ ?_
      · rintro i x0 σ H' hi ⟨hs, v, t, w, x, rfl, ht0, put⟩
        have hil : i < xs.length := (List.getElem?_eq_some_iff.mp hi).1
        obtain ⟨q, hq⟩ : ∃ q, pl[i]? = some q := ⟨_, List.getElem?_eq_getElem (by omega)⟩
        obtain ⟨t1, x1, e1⟩ := PlacesAt.get (K := K) (ht.same hs) hq
        rw [hi] at x1
        cases x1
        have mq := hm q (List.mem_of_getElem? hq)
        have wp := M.put_pos put
        have wl := M.put_le put (fun p hp => ⟨(hm p (List.mem_of_mem_take hp)).1, (hm p (List.mem_of_mem_take hp)).2.1⟩) (by rw [List.length_take]; omega)
        have x0' := put.x0
        have x1' := put.x1
        have al' : M.alike w x q.1 q.2 := M.put_alike put fun p hp => by
          obtain ⟨j, hj⟩ := List.getElem?_of_mem hp
          have hji : j < i := by have := (List.getElem?_eq_some_iff.mp hj).1; rw [List.length_take] at this; omega
          rw [List.getElem?_take_of_lt hji] at hj
          exact al j i p q hji hj hq
        walk_at "g"
        refine ⟨t, t1, w, x, q.1, q.2, rfl, ht0, e1, wp, mq.1, by omega, by omega, x0', by omega, mq.2.2, al', fun t2 H3 w' x' jn s3 e3 => ?_⟩
        walk_at "g"
        refine ⟨hs.trans s3, _, t2, w', x', rfl, e3, ?_⟩
        rw [take_more hq]
        exact M.put_more put jn
      · rintro σ H' ⟨hs, v, t, w, x, rfl, ht0, put⟩
        rw [hxl, List.take_length] at put
        walk_at "g"
        exact k1 al t H' w x put hs ht0
    · walk_at "g"
      refine s_ixT (SqT.of e1) (atI0 0 rfl rfl) ?_
      walk_at "g"
      refine s_ixT (SqT.of e1) (atI0 1 rfl rfl) ?_
      walk_at "g"
      refine mkT (by simp) fun p2 H2 n2 e2 s2 => ?_
      exact k2 i j fa p2 H2 (s1.trans s2) e2

/-- _law_cell_at(script, k): a cell, or 0 -/
def sp__law_cell_at (K : PySem.W.Frag) : Sp := fun vs H Q _ => ∃ (a : Addr) (ns : List Int) (k : Nat), vs = [.ref a, .int k] ∧ SqL K H a (ns.map V.int) ∧ ∀ z : Int, Q (.int z) H
theorem ok__law_cell_at (T : Txt K mg) : FnOk P w K mg base CX0 1 (He.ga K "_law_cell_at") (fd__law_cell_at T) ["_law_script", "_law_k"] (sp__law_cell_at K) := by
  refine (F__law_cell_at T).ok sc__law_cell_at (fun vs H Q E h => ?_) (fun cdv A outer s H vs Q E hr h => ⟨_, PSs.nox (pss_cons (ps_if (pt_cmpR op_lt (pv 1) (pe_callB callLen rfl (T.fr (T.c.fact 20 rfl)) boot_len (pa_cons (pv 0) pa_nil)) (nomark _)) (pss_one (ps_ret (pe_ix ix_seq (pv 0) (pv 1) (fun _ _ => rfl)))) pss_nil)
      (pss_one (ps_ret pe_int))), ?_⟩)
  · obtain ⟨a, ns, k, rfl, _⟩ := h; rfl
  · obtain ⟨a, ns, k, rfl, hS, q⟩ := h
    walk_at "g"
    refine s_lenL hS ?_
    walk_at "g"
    refine s_ite (fun c => ?_) (fun c => ?_)
    · rw [List.length_map] at c
      obtain ⟨z, hz⟩ : ∃ z, ns[k]? = some z := ⟨_, List.getElem?_eq_getElem (show k < ns.length by omega)⟩
      walk_at "g"
      refine s_ixL hS (atI0 k rfl (v := .int z) (by rw [List.getElem?_map, hz]; rfl)) ?_
      exact q _
    · walk_at "g"
      exact q 0

/-- the state of a law's draws: a dict of what is left and whether it is free -/
def StAt (H : Hp) (p : Addr) : Prop := ∃ (l : Int) (f : Bool), H p = some (.dK [(.inr "left", .int l), (.inr "free", .bl f)]) ∧ (f = false → 0 ≤ l ∧ l < 2147483647)
theorem StAt.same {H H' : Hp} {p : Addr} (h : StAt H p) (s : Same H H') : StAt H' p := by
  obtain ⟨l, f, e, k⟩ := h
  exact ⟨l, f, s _ _ e, k⟩
theorem tups_b {H H' : Hp} {p : Addr} (h : StAt H p) (s : ∀ b o, b ≠ p → H b = some o → H' b = some o) {xs : List V} {rs : List (List V)} (ht : TupsIn H xs rs) : TupsIn H' xs rs := by
  induction ht with
  | nil => exact .nil
  | cons f _ ih =>
    obtain ⟨t, e, ht⟩ := f
    refine .cons ⟨t, e, s _ _ (fun z => ?_) ht⟩ ih
    obtain ⟨_, _, e2, _⟩ := h
    rw [z, e2] at ht; cases ht
/-- _law_state(cell, free): a new state -/
def sp__law_state : Sp := fun vs H Q _ => ∃ (c : Int) (f : Bool), vs = [.int c, .bl f] ∧ ∀ p H', H p = none → Same H H' → StAt H' p → Q (.ref p) H'
theorem ok__law_state (T : Txt K mg) : FnOk P w K mg base CX0 1 (He.ga K "_law_state") (fd__law_state T) ["_law_cell", "_law_free"] sp__law_state := by
  refine (F__law_state T).ok sc__law_state (fun vs H Q E h => ?_) (fun cdv A outer s H vs Q E hr h => ⟨_, PSs.nox (pss_cons (ps_if (pt_val (pv 1)) (pss_one (ps_ret (pe_disp (pps_cons pe_str (pv 0) (pps_cons pe_str pe_bl pps_nil)) rfl rfl (by simp) (by decide)))) pss_nil)
      (pss_one (ps_ret (pe_disp (pps_cons pe_str (pe_op op_add pe_int (pe_op op_mod (pv 0) pe_int)) (pps_cons pe_str pe_bl pps_nil)) rfl rfl (by simp) (by decide))))), ?_⟩)
  · obtain ⟨c, f, rfl, _⟩ := h; rfl
  · obtain ⟨c, f, rfl, k⟩ := h
    walk_at "g"
    refine s_iteb (fun e => ?_) (fun e => ?_)
    · walk_at "g"
      refine s_disp fun p H1 np hd s1 => ?_
      walk_at "g"
      refine mkDisp [(.inr "left", .int c), (.inr "free", .bl true)] hd rfl (by simp) fun H2 e2 s2 => ?_
      exact k p H2 np (s2 H np s1) ⟨c, true, e2, fun z => nomatch z⟩
    · walk_at "g"
      refine s_disp fun p H1 np hd s1 => ?_
      walk_at "g"
      refine mkDisp [(.inr "left", .int (1 + c % 2147483646)), (.inr "free", .bl false)] hd rfl (by simp) fun H2 e2 s2 => ?_
      exact k p H2 np (s2 H np s1) ⟨1 + c % 2147483646, false, e2, fun _ => by omega⟩

/-- _law_take(state, many): a number from 0 to below many -/
def sp__law_take : Sp := fun vs H Q _ => ∃ (p : Addr) (m : Int), vs = [.ref p, .int m] ∧ 0 < m ∧ m < 2 ^ 900 ∧ StAt H p ∧ ∀ (z : Int) H', 0 ≤ z → z < m → StAt H' p → SameB p H H' → Q (.int z) H'
theorem ok__law_take (T : Txt K mg) : FnOk P w K mg base CX0 1 (He.ga K "_law_take") (fd__law_take T) ["_law_state_here", "_law_many"] sp__law_take := by
  refine (F__law_take T).ok sc__law_take (fun vs H Q E h => ?_) (fun cdv A outer s H vs Q E hr h => ⟨_, PSs.nox (pss_cons (ps_if (pt_val (pe_dget (hu_of hr) (pv 0) pe_str (fun _ _ => rfl))) (pss_cons (ps_set (i := 2) sc__law_take.nd rfl (Or.inl rfl) (pe_op op_mod (pe_dget (hu_of hr) (pv 0) pe_str (fun _ _ => rfl)) (pv 1)))
      (pss_cons (ps_dput (hu_of hr) (pv 0) pe_str (pe_op op_fdivW (pe_dget (hu_of hr) (pv 0) pe_str (fun _ _ => rfl)) (pv 1)) rfl)
      (pss_one (ps_ret (pv 2))))) pss_nil)
      (pss_cons (ps_dput (hu_of hr) (pv 0) pe_str (pe_op op_mod (pe_op op_mulW (pe_dget (hu_of hr) (pv 0) pe_str (fun _ _ => rfl)) pe_int) pe_int) rfl)
      (pss_one (ps_ret (pe_op op_mod (pe_op op_fdivW (pe_op op_mod (pe_op op_mulW (pe_dget (hu_of hr) (pv 0) pe_str (fun _ _ => rfl)) pe_int) pe_int) pe_int) (pv 1)))))), ?_⟩)
  · obtain ⟨p, m, rfl, _⟩ := h; rfl
  · obtain ⟨p, m, rfl, m0, m1, ⟨l, f, hd, hf⟩, k⟩ := h
    have hl : ([(.inr "left", .int l), (.inr "free", .bl f)] : List (Key × V)).length < sizeLine := by exact small1000 (by simp)
    have v1 : valV ([(.inr "left", .int l), (.inr "free", .bl f)] : List (Key × V)) (.inr "left") = some (.int l) := by rfl
    have v2 : valV ([(.inr "left", .int l), (.inr "free", .bl f)] : List (Key × V)) (.inr "free") = some (.bl f) := by rfl
    have pk : ∀ x : Int, putK ([(.inr "left", .int l), (.inr "free", .bl f)] : List (Key × V)) (.inr "left") (.int x) = [(.inr "left", .int x), (.inr "free", .bl f)] := fun x => by rfl
    walk_at "g"
    refine s_dgetS hd v2 ?_
    walk_at "g"
    cases f with
    | true =>
      walk_at "g"
      refine s_dgetS hd v1 ?_
      walk_at "g"
      refine s_i (by omega) ?_
      walk_at "g"
      refine s_dgetS hd v1 ?_
      walk_at "g"
      refine s_i (divW m0 (by omega)) ?_
      walk_at "g"
      refine s_dputS hd hl ?_
      walk_at "g"
      rw [pk]
      exact k _ _ (Int.emod_nonneg _ (by omega)) (Int.emod_lt_of_pos _ m0) ⟨_, true, upd_same, fun z => nomatch z⟩ SameB.put
    | false =>
      have hb := hf rfl
      walk_at "g"
      refine s_dgetS hd v1 ?_
      walk_at "g"
      refine s_dputS hd hl ?_
      walk_at "g"
      rw [pk]
      have e : upd H p (.dK [(.inr "left", .int (l * 48271 % 2147483647)), (.inr "free", .bl false)]) p = some (.dK [(.inr "left", .int (l * 48271 % 2147483647)), (.inr "free", .bl false)]) := upd_same
      refine s_dgetS e (by rfl) ?_
      have b0 : 0 ≤ l * 48271 % 2147483647 := by omega
      have b1 : l * 48271 % 2147483647 < 2147483647 := by omega
      walk_at "g"
      refine s_i (by omega) ?_
      walk_at "g"
      exact k _ _ (Int.emod_nonneg _ (by omega)) (Int.emod_lt_of_pos _ m0) ⟨_, false, upd_same, fun _ => ⟨b0, b1⟩⟩ SameB.put

/-- _law_number(state): a number of at most fifty-six figures, of either sign -/
def sp__law_number : Sp := fun vs H Q _ => ∃ (p : Addr), vs = [.ref p] ∧ StAt H p ∧ ∀ (z : Int) H', z.natAbs < 10 ^ 57 → StAt H' p → SameB p H H' → Q (.int z) H'
theorem ok__law_number (T : Txt K mg) : FnOk P w K mg base CX0 2 (He.ga K "_law_number") (fd__law_number T) ["_law_state_here"] sp__law_number := by
  refine (F__law_number T).ok sc__law_number (fun vs H Q E h => ?_) (fun cdv A outer s H vs Q E hr h => ⟨_, PSs.nox (pss_cons (ps_set (i := 1) sc__law_number.nd rfl (Or.inl rfl) (pe_call (ok__law_take T) (hr.mono (by decide)) rfl (g__law_take T) (kp__law_take T) (B__law_take T) .nil pass0 (pa_cons (pv 0) (pa_cons pe_int pa_nil))))
      (pss_cons (ps_if (pt_cmpR op_eq (pv 1) pe_int (nomark _)) (pss_one (ps_ret (pe_op op_sub (pe_call (ok__law_take T) (hr.mono (by decide)) rfl (g__law_take T) (kp__law_take T) (B__law_take T) .nil pass0 (pa_cons (pv 0) (pa_cons pe_int pa_nil))) pe_int))) pss_nil)
      (pss_cons (ps_if (pt_cmpR op_eq (pv 1) pe_int (nomark _)) (pss_one (ps_ret (pe_op op_sub (pe_call (ok__law_take T) (hr.mono (by decide)) rfl (g__law_take T) (kp__law_take T) (B__law_take T) .nil pass0 (pa_cons (pv 0) (pa_cons (pe_op op_mulW pe_int (pe_op op_pow pe_int pe_int)) pa_nil))) (pe_op op_pow pe_int pe_int)))) pss_nil)
      (pss_cons (ps_set (i := 2) sc__law_number.nd rfl (Or.inl rfl) pe_int)
      (pss_cons (ps_for PassesOwn.never rfl (pi_range1 rfl (T.fr (T.c.fact 19 rfl)) (pa_cons pe_int pa_nil)) (pg_name (i := 3) sc__law_number.nd rfl (Or.inl rfl)) (pss_one (ps_set (i := 2) sc__law_number.nd rfl (Or.inl rfl) (pe_op op_add (pe_op op_mulW (pv 2) (pe_op op_pow pe_int pe_int)) (pe_call (ok__law_take T) (hr.mono (by decide)) rfl (g__law_take T) (kp__law_take T) (B__law_take T) .nil pass0 (pa_cons (pv 0) (pa_cons (pe_op op_pow pe_int pe_int) pa_nil)))))))
      (pss_one (ps_ret (pe_op op_mulW (pv 2) (pe_op op_sub (pe_op op_mulW pe_int (pe_call (ok__law_take T) (hr.mono (by decide)) rfl (g__law_take T) (kp__law_take T) (B__law_take T) .nil pass0 (pa_cons (pv 0) (pa_cons pe_int pa_nil)))) pe_int))))))))), ?_⟩)
  · obtain ⟨p, rfl, _⟩ := h; rfl
  · obtain ⟨p, rfl, hst, k⟩ := h
    walk_at "g"
    refine ⟨p, 4, rfl, by decide, by decide, hst, fun w H1 w0 w1 st1 s1 => ?_⟩
    walk_at "g"
    refine s_ite (fun _ => ?_) (fun _ => ?_)
    · walk_at "g"
      refine ⟨p, 21, rfl, by decide, by decide, st1, fun z H2 z0 z1 st2 s2 => ?_⟩
      walk_at "g"
      exact k _ H2 (by omega) st2 (s1.trans s2)
    walk_at "g"
    refine s_ite (fun _ => ?_) (fun _ => ?_)
    · walk_at "g"
      refine ⟨p, _, rfl, by decide, by decide, st1, fun z H2 z0 z1 st2 s2 => ?_⟩
      walk_at "g"
      exact k _ H2 (by omega) st2 (s1.trans s2)
    walk_at "g"
    refine mkR1 7 rfl (by decide) (by decide) ?_
    refine for_range (n := 7) (fun i σ H' => SameB p H H' ∧ StAt H' p ∧ ∃ (f : Int) (v : Option V), σ = [some (.ref p), some (.int w), some (.int f), v] ∧ 0 ≤ f ∧ f < 10 ^ (8 * i)) ⟨s1, st1, 0, none, rfl, by decide, by decide⟩ ?_ ?_
    · rintro i σ H' hi ⟨hs, st, f, v, rfl, f0, f1⟩
      have f2 : f < 10 ^ 56 := Int.lt_of_lt_of_le f1 (by
        have : i = 0 ∨ i = 1 ∨ i = 2 ∨ i = 3 ∨ i = 4 ∨ i = 5 ∨ i = 6 := by omega
        rcases this with rfl | rfl | rfl | rfl | rfl | rfl | rfl <;> decide)
      walk_at "g"
      refine ⟨p, _, rfl, by decide, by decide, st, fun z H2 z0 z1 st2 s2 => ?_⟩
      walk_at "g"
      refine ⟨hs.trans s2, st2, _, _, rfl, by omega, ?_⟩
      have e : (10 : Int) ^ (8 * (i + 1)) = 10 ^ (8 * i) * 10 ^ 8 := by rw [← Int.pow_add]; congr 1
      rw [e]
      generalize (10 : Int) ^ (8 * i) = M at f1 ⊢
      omega
    · rintro σ H' ⟨hs, st, f, v, rfl, f0, f1⟩
      have f2 : f < 10 ^ 56 := f1
      walk_at "g"
      refine ⟨p, 2, rfl, by decide, by decide, st, fun z H2 z0 z1 st2 s2 => ?_⟩
      walk_at "g"
      have e : z = 0 ∨ z = 1 := by omega
      refine k _ H2 ?_ st2 (hs.trans s2)
      rcases e with rfl | rfl <;> omega

/-- _law_modulus(state): a number from 1 to 10 ** 16 -/
def sp__law_modulus : Sp := fun vs H Q _ => ∃ (p : Addr), vs = [.ref p] ∧ StAt H p ∧ ∀ (z : Int) H', 0 < z → z ≤ 10 ^ 16 → StAt H' p → SameB p H H' → Q (.int z) H'
theorem ok__law_modulus (T : Txt K mg) : FnOk P w K mg base CX0 2 (He.ga K "_law_modulus") (fd__law_modulus T) ["_law_state_here"] sp__law_modulus := by
  refine (F__law_modulus T).ok sc__law_modulus (fun vs H Q E h => ?_) (fun cdv A outer s H vs Q E hr h => ⟨_, PSs.nox (pss_cons (ps_set (i := 1) sc__law_modulus.nd rfl (Or.inl rfl) (pe_call (ok__law_take T) (hr.mono (by decide)) rfl (g__law_take T) (kp__law_take T) (B__law_take T) .nil pass0 (pa_cons (pv 0) (pa_cons pe_int pa_nil))))
      (pss_cons (ps_if (pt_cmpR op_lt (pv 1) pe_int (nomark _)) (pss_one (ps_ret (pe_op op_add pe_int (pe_call (ok__law_take T) (hr.mono (by decide)) rfl (g__law_take T) (kp__law_take T) (B__law_take T) .nil pass0 (pa_cons (pv 0) (pa_cons (pe_ix ix_seq (pe_lst (pa_cons pe_int (pa_cons pe_int (pa_cons pe_int pa_nil)))) (pv 1) (fun _ _ => rfl)) pa_nil)))))) pss_nil)
      (pss_one (ps_ret (pe_op op_add (pe_op op_add pe_int (pe_op op_mulW (pe_call (ok__law_take T) (hr.mono (by decide)) rfl (g__law_take T) (kp__law_take T) (B__law_take T) .nil pass0 (pa_cons (pv 0) (pa_cons (pe_op op_pow pe_int pe_int) pa_nil))) (pe_op op_pow pe_int pe_int))) (pe_call (ok__law_take T) (hr.mono (by decide)) rfl (g__law_take T) (kp__law_take T) (B__law_take T) .nil pass0 (pa_cons (pv 0) (pa_cons (pe_op op_pow pe_int pe_int) pa_nil)))))))), ?_⟩)
  · obtain ⟨p, rfl, _⟩ := h; rfl
  · obtain ⟨p, rfl, hst, k⟩ := h
    walk_at "g"
    refine ⟨p, 4, rfl, by decide, by decide, hst, fun w H1 w0 w1 st1 s1 => ?_⟩
    walk_at "g"
    refine s_ite (fun c => ?_) (fun _ => ?_)
    · walk_at "g"
      refine mkL (by simp) fun q H2 nq eq s2 => ?_
      walk_at "g"
      refine s_pickN (P := fun z => 0 < z ∧ z ≤ 1000) [12, 12, 1000] eq (by simp; omega) (by decide) fun m hm => ?_
      walk_at "g"
      refine ⟨p, m, rfl, by omega, by omega, st1.same s2, fun z H3 z0 z1 st3 s3 => ?_⟩
      walk_at "g"
      exact k _ H3 (by omega) (by omega) st3 (s1.trans ((SameB.of s2).trans s3))
    · walk_at "g"
      refine ⟨p, _, rfl, by decide, by decide, st1, fun z H3 z0 z1 st3 s3 => ?_⟩
      walk_at "g"
      refine ⟨p, _, rfl, by decide, by decide, st3, fun y H4 y0 y1 st4 s4 => ?_⟩
      walk_at "g"
      exact k _ H4 (by omega) (by omega) st4 (s1.trans (s3.trans s4))

/-- _law_common of two numbers from 0 on: their greatest divisor -/
def sp__law_common : Sp := fun vs H Q _ => ∃ a b : Nat, vs = [.int a, .int b] ∧ Q (.int (Nat.gcd a b)) H
theorem ok__law_common (T : Txt K mg) : FnOk P w K mg base CX0 1 (He.ga K "_law_common") (fd__law_common T) ["_law_one", "_law_other"] sp__law_common := by
  refine (F__law_common T).ok sc__law_common (fun vs H Q E h => ?_) (fun cdv A outer s H vs Q E hr h => ⟨_, PSs.nox (pss_cons (ps_while PassesOwn.never (pt_cmpR op_ne (pv 1) pe_int (nomark _)) (pss_one (ps_par (i := 0) (j := 1) rfl sc__law_common.nd rfl rfl (by decide) rfl rfl (pa_cons (pv 1) (pa_cons (pe_op op_mod (pv 0) (pv 1)) pa_nil)) rfl)))
      (pss_one (ps_ret (pv 0)))), ?_⟩)
  · obtain ⟨a, b, rfl, _⟩ := h; rfl
  · obtain ⟨a, b, rfl, k⟩ := h
    walk_at "g"
    refine s_while (fun σ H' => H' = H ∧ ∃ c d : Nat, σ = [some (.int c), some (.int d)] ∧ Nat.gcd c d = Nat.gcd a b) (fun σ _ => (iv σ 1).natAbs) ⟨rfl, a, b, rfl, rfl⟩ ?_
    rintro σ H' ⟨rfl, c, d, rfl, e⟩
    walk_at "g"
    refine s_iten (fun hd => ?_) (fun hd => ?_)
    · walk_at "g"
      refine s_i (by omega) ?_
      walk_at "g"
      have dp : 0 < d := by omega
      have ml := Nat.mod_lt c dp
      refine ⟨⟨rfl, d, c % d, rfl, ?_⟩, ?_⟩
      · rw [Nat.gcd_comm, ← Nat.gcd_rec, Nat.gcd_comm]; exact e
      · show ((c : Int) % d).natAbs < (d : Int).natAbs
        omega
    · have z : d = 0 := by omega
      subst z
      walk_at "g"
      rw [Nat.gcd_zero_right] at e
      rw [e]
      exact k

/-- _law_is_whole of an int, a truth -/
def sp__law_is_whole : Sp := fun vs H Q _ => (∃ n : Int, vs = [.int n] ∧ Q (.bl true) H) ∨ (∃ b, vs = [.bl b] ∧ Q (.bl false) H) ∨ (vs = [.non] ∧ Q (.bl false) H)
theorem ok__law_is_whole (T : Txt K mg) : FnOk P w K mg base CX0 1 (He.ga K "_law_is_whole") (fd__law_is_whole T) ["_law_thing"] sp__law_is_whole := by
  refine (F__law_is_whole T).ok sc__law_is_whole (fun vs H Q E h => ?_) (fun cdv A outer s H vs Q E hr h => ⟨_, PSs.nox (pss_one (ps_ret (pe_and (pe_callB call_isi rfl (T.fr (T.c.fact 21 rfl)) boot_isinstance (pa_cons (pv 0) (pa_cons (pe_bltn (v := .ty "int") rfl (T.fr (T.c.fact 22 rfl)) boot_int rfl) pa_nil))) (pe_one (pe_not (pe_callB call_isi rfl (T.fr (T.c.fact 21 rfl)) boot_isinstance (pa_cons (pv 0) (pa_cons (pe_bltn (v := .ty "bool") rfl (T.fr (T.c.fact 23 rfl)) boot_bool rfl) pa_nil)))))))), ?_⟩)
  · rcases h with ⟨_, rfl, _⟩ | ⟨_, rfl, _⟩ | ⟨rfl, _⟩ <;> rfl
  · rcases h with ⟨n, rfl, k⟩ | ⟨b, rfl, k⟩ | ⟨rfl, k⟩
    · walk_at "g"
      exact k
    · walk_at "g"
      refine s_isi (.bl b) kb_bi ?_
      walk_at "g"
      refine s_isi (.bl b) kb_bb ?_
      walk_at "g"
      exact k
    · walk_at "g"
      refine s_isi .non kb_ni ?_
      walk_at "g"
      exact k

/-- _law_places(state): a new list of one to twelve places -/
def sp__law_places (K : PySem.W.Frag) : Sp := fun vs H Q _ => ∃ (p : Addr), vs = [.ref p] ∧ StAt H p ∧ ∀ (a : Addr) (pl : List (Int × Int)) H', pl.length ≤ 12 → (∀ q ∈ pl, 0 < q.1 ∧ q.1 < 2 ^ 60 ∧ q.2.natAbs < 2 ^ 800) → PlacesAt K H' a pl → StAt H' p → SameB p H H' → Q (.ref a) H'
theorem ok__law_places (T : Txt K mg) : FnOk P w K mg base CX0 3 (He.ga K "_law_places") (fd__law_places T) ["_law_state_here"] (sp__law_places K) := by
  refine (F__law_places T).ok sc__law_places (fun vs H Q E h => ?_) (fun cdv A outer s H vs Q E hr h => ⟨_, PSs.nox (pss_cons (ps_set (i := 1) sc__law_places.nd rfl (Or.inl rfl) (pe_op op_add pe_int (pe_call (ok__law_take T) (hr.mono (by decide)) rfl (g__law_take T) (kp__law_take T) (B__law_take T) .nil pass0 (pa_cons (pv 0) (pa_cons pe_int pa_nil)))))
      (pss_cons (ps_set (i := 2) sc__law_places.nd rfl (Or.inl rfl) (pe_call (ok__law_number T) (hr.mono (by decide)) rfl (g__law_number T) (kp__law_number T) (B__law_number T) .nil pass0 (pa_cons (pv 0) pa_nil)))
      (pss_cons (ps_set (i := 3) sc__law_places.nd rfl (Or.inl rfl) pe_int)
      (pss_cons (ps_if (pt_cmpR op_eq (pe_call (ok__law_take T) (hr.mono (by decide)) rfl (g__law_take T) (kp__law_take T) (B__law_take T) .nil pass0 (pa_cons (pv 0) (pa_cons pe_int pa_nil))) pe_int (nomark _)) (pss_one (ps_set (i := 3) sc__law_places.nd rfl (Or.inl rfl) (pe_op op_add pe_int (pe_call (ok__law_take T) (hr.mono (by decide)) rfl (g__law_take T) (kp__law_take T) (B__law_take T) .nil pass0 (pa_cons (pv 0) (pa_cons pe_int pa_nil)))))) pss_nil)
      (pss_cons (ps_set (i := 4) sc__law_places.nd rfl (Or.inl rfl) (pe_lst pa_nil))
      (pss_cons (ps_for PassesOwn.never rfl (pi_range1 rfl (T.fr (T.c.fact 19 rfl)) (pa_cons (pv 1) pa_nil)) (pg_name (i := 5) sc__law_places.nd rfl (Or.inl rfl)) (pss_cons (ps_set (i := 6) sc__law_places.nd rfl (Or.inl rfl) (pe_op op_mulW (pe_call (ok__law_modulus T) (hr.mono (by decide)) rfl (g__law_modulus T) (kp__law_modulus T) (B__law_modulus T) .nil pass0 (pa_cons (pv 0) pa_nil)) (pv 3)))
      (pss_one (ps_expr (pe_bm PySem.F.plainAttrs_list PySem.F.slot_list_append PySem.F.type_list_append mt_append (pv 4) (pa_cons (pe_tup (pa_cons (pv 6) (pa_cons (pe_op op_add (pe_op op_mod (pv 2) (pv 6)) (pe_op op_mulW (pv 6) (pe_op op_sub (pe_call (ok__law_take T) (hr.mono (by decide)) rfl (g__law_take T) (kp__law_take T) (B__law_take T) .nil pass0 (pa_cons (pv 0) (pa_cons pe_int pa_nil))) pe_int))) pa_nil))) pa_nil))))))
      (pss_cons (ps_for PassesOwn.never rfl (pi_range1 rfl (T.fr (T.c.fact 19 rfl)) (pa_cons (pe_call (ok__law_take T) (hr.mono (by decide)) rfl (g__law_take T) (kp__law_take T) (B__law_take T) .nil pass0 (pa_cons (pv 0) (pa_cons pe_int pa_nil))) pa_nil)) (pg_name (i := 5) sc__law_places.nd rfl (Or.inl rfl)) (pss_cons (ps_set (i := 7) sc__law_places.nd rfl (Or.inl rfl) (pe_call (ok__law_take T) (hr.mono (by decide)) rfl (g__law_take T) (kp__law_take T) (B__law_take T) .nil pass0 (pa_cons (pv 0) (pa_cons (pv 1) pa_nil))))
      (pss_one (ps_asg (pe_tup (pa_cons (pe_ix ix_seq (pe_ix ix_seq (pv 4) (pv 7) (fun _ _ => rfl)) pe_int (fun _ _ => rfl)) (pa_cons (pe_op op_add (pe_op op_add (pe_ix ix_seq (pe_ix ix_seq (pv 4) (pv 7) (fun _ _ => rfl)) pe_int (fun _ _ => rfl)) pe_int) (pe_call (ok__law_take T) (hr.mono (by decide)) rfl (g__law_take T) (kp__law_take T) (B__law_take T) .nil pass0 (pa_cons (pv 0) (pa_cons pe_int pa_nil)))) pa_nil))) (pg_sub (pv 4) (pv 7) set_list)))))
      (pss_one (ps_ret (pv 4)))))))))), ?_⟩)
  · obtain ⟨p, rfl, _⟩ := h; rfl
  · obtain ⟨p, rfl, hst, k⟩ := h
    walk_at "g"
    refine ⟨p, 12, rfl, by decide, by decide, hst, fun y H1 y0 y1 st1 s1 => ?_⟩
    walk_at "g"
    refine ⟨p, rfl, st1, fun z H2 hz st2 s2 => ?_⟩
    obtain ⟨n, hn⟩ : ∃ n : Nat, 1 + y = (n : Int) := ⟨(1 + y).toNat, by omega⟩
    rw [hn]
    have n1 : 1 ≤ n ∧ n ≤ 12 := by omega
    walk_at "h"
    refine s_join (fun σ' H' => ∃ (m : Int) (r1 r2 r3 r4 : Option V), 0 < m ∧ m ≤ 100 ∧ StAt H' p ∧ SameB p H H' ∧ σ' = [some (.ref p), some (.int n), some (.int z), some (.int m), r1, r2, r3, r4]) ?_ fun N J => ?_
    · rintro σ' H3 ⟨m, r1, r2, r3, r4, m0, m1, st3, s3, rfl⟩
      walk_at "g"
      refine mkL (by simp) fun l H4 nl el s4 => ?_
      have st4 := st3.same s4
      have nlp : l ≠ p := fun e => by obtain ⟨_, _, e2, _⟩ := st3; rw [e, e2] at nl; cases nl
      have nlH : ∀ b o, b ≠ p → H b = some o → b ≠ l := fun b o hb ho e => by have := s3 b o hb ho; rw [e, nl] at this; cases this
      walk_at "g"
      refine mkR1 n (by omega) (by omega) (by omega) ?_
      refine for_range (n := n) (fun i σ H' => StAt H' p ∧ SameB p H H' ∧ (∃ v1 v2 v3 : Option V, σ = [some (.ref p), some (.int n), some (.int z), some (.int m), some (.ref l), v1, v2, v3]) ∧
          ∃ (xs : List V) (pl : List (Int × Int)), H' l = some (.lst xs) ∧ TupsIn H' xs (pl.map fun q => [V.int q.1, V.int q.2]) ∧ pl.length = i ∧ ∀ q ∈ pl, 0 < q.1 ∧ q.1 < 2 ^ 60 ∧ q.2.natAbs < 2 ^ 400)
        ⟨st4, s3.trans (SameB.of s4), ⟨_, _, _, rfl⟩, [], [], el, .nil, rfl, by simp⟩ ?_ ?_
      · rintro i σ H5 hi ⟨st5, s5, ⟨v1, v2, v3, rfl⟩, xs, pl, hx, ht, hpl, hb⟩
        have hxl : xs.length = i := by rw [ht.length, List.length_map, hpl]
        walk_at "g"
        refine ⟨p, rfl, st5, fun u H6 u0 u1 st6 s6 => ?_⟩
        have e1 : 0 < u * m := Int.mul_pos u0 m0
        have e2 : u * m ≤ 10 ^ 16 * 100 := Int.mul_le_mul u1 m1 (by omega) (by decide)
        walk_at "g"
        generalize u * m = M1 at e1 e2 ⊢
        have hx6 := s6 _ _ nlp hx
        refine ⟨s_tyL hx6, ?_⟩
        walk_at "g"
        refine s_i e1 ?_
        walk_at "g"
        refine ⟨p, 9, rfl, by decide, by decide, st6, fun t H7 t0 t1 st7 s7 => ?_⟩
        walk_at "g"
        refine mkT (by simp) fun q H8 nq eq s8 => ?_
        have hx7 := s7 _ _ nlp hx6
        have r0 := Int.emod_nonneg z (show M1 ≠ 0 by omega)
        have r1 := Int.emod_lt_of_pos z e1
        have mb : (M1 * (t - 4)).natAbs ≤ 10 ^ 18 * 10 := by rw [Int.natAbs_mul]; exact Nat.mul_le_mul (by omega) (by omega)
        have fin : (z % M1 + M1 * (t - 4)).natAbs < 2 ^ 400 := by omega
        generalize z % M1 + M1 * (t - 4) = N1 at fin eq ⊢
        walk_at "g"
        have tups7 : TupsIn H7 xs (pl.map fun q => [V.int q.1, V.int q.2]) := by
          have h57 : ∀ b o, b ≠ p → H5 b = some o → H7 b = some o := fun b o hb ho => s7 b o hb (s6 b o hb ho)
          exact tups_b st5 h57 ht
        refine s_append (s8 _ _ hx7) (small1000 (by omega)) ?_
        walk_at "g"
        refine ⟨?_, ?_, ⟨_, _, _, rfl⟩, xs ++ [.ref q], pl ++ [(M1, N1)], upd_same, ?_, by simp [hpl], ?_⟩
        · obtain ⟨a1, a2, a3, a4⟩ := st7.same s8
          exact ⟨a1, a2, by rw [upd_ne nlp.symm]; exact a3, a4⟩
        · intro b o hb ho
          rw [upd_ne (nlH b o hb ho)]
          exact s8 _ _ (s7 b o hb (s6 b o hb (s5 b o hb ho)))
        · rw [List.map_append]
          exact TupsIn.app hx7 tups7 s8 nq eq
        · intro q hq
          rcases List.mem_append.mp hq with w | w
          · exact hb q w
          · rw [List.mem_singleton.mp w]; exact ⟨e1, by show M1 < 2 ^ 60; omega, fin⟩
      · rintro σ H5 ⟨st5, s5, ⟨v1, v2, v3, rfl⟩, xs, pl, hx, ht, hpl, hb⟩
        walk_at "g"
        refine ⟨p, 4, rfl, by decide, by decide, st5, fun w H6 w0 w1 st6 s6 => ?_⟩
        walk_at "g"
        obtain ⟨c, hc⟩ : ∃ c : Nat, w = (c : Int) := ⟨w.toNat, by omega⟩
        subst hc
        refine mkR1 c (by omega) (by omega) (by omega) ?_
        refine for_range (n := c) (fun i σ H' => StAt H' p ∧ SameB p H H' ∧ (∃ v1 v2 v3 : Option V, σ = [some (.ref p), some (.int n), some (.int z), some (.int m), some (.ref l), v1, v2, v3]) ∧
            ∃ (xs : List V) (pl : List (Int × Int)), H' l = some (.lst xs) ∧ TupsIn H' xs (pl.map fun q => [V.int q.1, V.int q.2]) ∧ pl.length = n ∧ ∀ q ∈ pl, 0 < q.1 ∧ q.1 < 2 ^ 60 ∧ q.2.natAbs < 2 ^ 400 + 100 * i)
          ⟨st6, s5.trans s6, ⟨_, _, _, rfl⟩, xs, pl, s6 _ _ nlp hx, tups_b st5 s6 ht, hpl, fun q hq => by have := hb q hq; omega⟩ ?_ ?_
        · rintro i σ H7 hi ⟨st7, s7, ⟨v1, v2, v3, rfl⟩, xs, pl, hx, ht, hpl, hb⟩
          have hxl : xs.length = n := by rw [ht.length, List.length_map, hpl]
          walk_at "g"
          refine ⟨p, n, rfl, by omega, by omega, st7, fun j H8 j0 j1 st8 s8 => ?_⟩
          obtain ⟨d, hd⟩ : ∃ d : Nat, j = (d : Int) := ⟨j.toNat, by omega⟩
          subst hd
          have hdl : d < pl.length := by omega
          have ht8 := tups_b st7 s8 ht
          have hx8 := s8 _ _ nlp hx
          obtain ⟨t1, x1, e1⟩ := PlacesAt.get (K := K) ht8 (i := d) (List.getElem?_eq_getElem hdl)
          have bq := hb pl[d] (List.getElem_mem hdl)
          walk_at "g"
          refine s_ixL (SqL.of hx8) (atI0 d rfl x1) ?_
          walk_at "g"
          refine s_ixT (SqT.of e1) (atI0 0 rfl rfl) ?_
          walk_at "g"
          refine s_ixL (SqL.of hx8) (atI0 d rfl x1) ?_
          walk_at "g"
          refine s_ixT (SqT.of e1) (atI0 1 rfl rfl) ?_
          walk_at "g"
          refine ⟨p, 12, rfl, by decide, by decide, st8, fun t H9 t0 t1 st9 s9 => ?_⟩
          walk_at "g"
          refine mkT (by simp) fun q H10 nq eq s10 => ?_
          have hx9 := s9 _ _ nlp hx8
          have fin : (pl[d].2 + 1 + t).natAbs < 2 ^ 400 + 100 * (i + 1) := by omega
          generalize pl[d].2 + 1 + t = N1 at fin eq ⊢
          generalize hM : pl[d].1 = M1 at eq bq ⊢
          walk_at "g"
          refine s_setL d (s10 _ _ hx9) (ixN_nat (by omega)) ?_
          refine ⟨?_, ?_, ⟨_, _, _, rfl⟩, xs.set d (.ref q), pl.set d (M1, N1), upd_same, ?_, by simp [hpl], ?_⟩
          · obtain ⟨a1, a2, a3, a4⟩ := st9.same s10
            exact ⟨a1, a2, by rw [upd_ne nlp.symm]; exact a3, a4⟩
          · intro b o hb ho
            rw [upd_ne (nlH b o hb ho)]
            exact s10 _ _ (s9 b o hb (s8 b o hb (s7 b o hb ho)))
          · rw [List.map_set]
            exact TupsIn.put d hx9 (tups_b st8 s9 ht8) s10 nq eq
          · intro q hq
            rcases List.mem_or_eq_of_mem_set hq with w | w
            · have := hb q w; omega
            · rw [w]; exact ⟨bq.1, bq.2.1, fin⟩
        · rintro σ H7 ⟨st7, s7, ⟨v1, v2, v3, rfl⟩, xs, pl, hx, ht, hpl, hb⟩
          walk_at "g"
          refine k l pl H7 (by omega) (fun q hq => ?_) ⟨xs, hx, ht⟩ st7 s7
          have := hb q hq
          omega
    · walk_at "g"
      refine ⟨p, 2, rfl, by decide, by decide, st2, fun w H3 w0 w1 st3 s3 => ?_⟩
      walk_at "g"
      refine s_ite (fun _ => ?_) (fun _ => ?_)
      · walk_at "g"
        refine ⟨p, 100, rfl, by decide, by decide, st3, fun x H4 x0 x1 st4 s4 => ?_⟩
        walk_at "g"
        exact J _ _ ⟨1 + x, _, _, _, _, by omega, by omega, st4, s1.trans (s2.trans (s3.trans s4)), rfl⟩
      · walk_at "g"
        exact J _ _ ⟨1, _, _, _, _, by omega, by omega, st3, s1.trans (s2.trans s3), rfl⟩

/-- _law_apart(places): a new list of the first two that are apart, or of nothing -/
def sp__law_apart (K : PySem.W.Frag) : Sp := fun vs H Q _ => ∃ (a : Addr) (pl : List (Int × Int)), vs = [.ref a] ∧ PlacesAt K H a pl ∧ pl.length ≤ 1000 ∧ (∀ q ∈ pl, 0 < q.1) ∧
  (M.allAlike pl → ∀ p H', Same H H' → H' p = some (.lst []) → Q (.ref p) H') ∧
  (∀ i j : Nat, M.firstApart pl i j → ∀ p H', Same H H' → H' p = some (.lst [.int i, .int j]) → Q (.ref p) H')
theorem ok__law_apart (T : Txt K mg) : FnOk P w K mg base CX0 2 (He.ga K "_law_apart") (fd__law_apart T) ["_law_places_here"] (sp__law_apart K) := by
  refine (F__law_apart T).ok sc__law_apart (fun vs H Q E h => ?_) (fun cdv A outer s H vs Q E hr h => ⟨_, PSs.nox (pss_cons (ps_for PassesOwn.never rfl (pi_range1 rfl (T.fr (T.c.fact 19 rfl)) (pa_cons (pe_callB callLen rfl (T.fr (T.c.fact 20 rfl)) boot_len (pa_cons (pv 0) pa_nil)) pa_nil)) (pg_name (i := 1) sc__law_apart.nd rfl (Or.inl rfl)) (pss_one (ps_for PassesOwn.never rfl (pi_range2 rfl (T.fr (T.c.fact 19 rfl)) (pa_cons (pe_op op_add (pv 1) pe_int) (pa_cons (pe_callB callLen rfl (T.fr (T.c.fact 20 rfl)) boot_len (pa_cons (pv 0) pa_nil)) pa_nil))) (pg_name (i := 2) sc__law_apart.nd rfl (Or.inl rfl)) (pss_one (ps_if (pt_cmpR op_ne (pe_op op_mod (pe_op op_sub (pe_ix ix_seq (pe_ix ix_seq (pv 0) (pv 1) (fun _ _ => rfl)) pe_int (fun _ _ => rfl)) (pe_ix ix_seq (pe_ix ix_seq (pv 0) (pv 2) (fun _ _ => rfl)) pe_int (fun _ _ => rfl))) (pe_call (ok__law_common T) (hr.mono (by decide)) rfl (g__law_common T) (kp__law_common T) (B__law_common T) .nil pass0 (pa_cons (pe_ix ix_seq (pe_ix ix_seq (pv 0) (pv 1) (fun _ _ => rfl)) pe_int (fun _ _ => rfl)) (pa_cons (pe_ix ix_seq (pe_ix ix_seq (pv 0) (pv 2) (fun _ _ => rfl)) pe_int (fun _ _ => rfl)) pa_nil)))) pe_int (nomark _)) (pss_one (ps_ret (pe_lst (pa_cons (pv 1) (pa_cons (pv 2) pa_nil))))) pss_nil)))))
      (pss_one (ps_ret (pe_lst pa_nil)))), ?_⟩)
  · obtain ⟨a, pl, rfl, _⟩ := h; rfl
  · obtain ⟨a, pl, rfl, hP, hl, hm, k1, k2⟩ := h
    obtain ⟨xs, hx, ht⟩ := hP
    have hxl : xs.length = pl.length := by rw [ht.length, List.length_map]
    walk_at "g"
    refine s_lenL (SqL.of hx) ?_
    walk_at "g"
    refine mkR1 pl.length (by omega) (by omega) (by omega) ?_
    refine for_range (n := pl.length) (fun i σ H' => H' = H ∧ (∃ u v : Option V, σ = [some (.ref a), u, v]) ∧ M.alikeBefore pl i (i + 1)) ⟨rfl, ⟨none, none, rfl⟩, M.before_zero pl⟩ ?_ ?_
    · rintro i σ H' hi ⟨rfl, ⟨u, v, rfl⟩, al⟩
      walk_at "g"
      refine s_lenL (SqL.of hx) ?_
      walk_at "g"
      refine mkR2 (pl.length - (i + 1)) (by omega) (by omega) ?_
      refine for_range (n := pl.length - (i + 1)) (fun d σ H1 => H1 = H' ∧ (∃ v : Option V, σ = [some (.ref a), some (.int (0 + (i : Int))), v]) ∧ M.alikeBefore pl i (i + 1 + d)) ⟨rfl, ⟨_, rfl⟩, al⟩ ?_ ?_
      · rintro d σ H1 hd ⟨rfl, ⟨v, rfl⟩, al⟩
        obtain ⟨q1, hq1⟩ : ∃ q, pl[i]? = some q := ⟨_, List.getElem?_eq_getElem hi⟩
        obtain ⟨q2, hq2⟩ : ∃ q, pl[i + 1 + d]? = some q := ⟨_, List.getElem?_eq_getElem (by omega)⟩
        obtain ⟨t1, x1, e1⟩ := PlacesAt.get (K := K) ht hq1
        obtain ⟨t2, x2, e2⟩ := PlacesAt.get (K := K) ht hq2
        obtain ⟨m1, r1⟩ := q1
        obtain ⟨m2, r2⟩ := q2
        have b1 : 0 < m1 := hm _ (List.mem_of_getElem? hq1)
        have b2 : 0 < m2 := hm _ (List.mem_of_getElem? hq2)
        obtain ⟨c1, rfl⟩ := Int.eq_ofNat_of_zero_le (Int.le_of_lt b1)
        obtain ⟨c2, rfl⟩ := Int.eq_ofNat_of_zero_le (Int.le_of_lt b2)
        have e1 : H1 t1 = some (.tup [.int (c1 : Int), .int r1]) := e1
        have e2 : H1 t2 = some (.tup [.int (c2 : Int), .int r2]) := e2
        have gp : 0 < Nat.gcd c1 c2 := Nat.gcd_pos_of_pos_left _ (by omega)
        walk_at "g"
        refine s_ixL (SqL.of hx) (atI0 i (by omega) x1) ?_
        walk_at "g"
        refine s_ixT (SqT.of e1) (atI0 1 rfl rfl) ?_
        walk_at "g"
        refine s_ixL (SqL.of hx) (atI0 (i + 1 + d) (by omega) x2) ?_
        walk_at "g"
        refine s_ixT (SqT.of e2) (atI0 1 rfl rfl) ?_
        walk_at "g"
        refine s_ixL (SqL.of hx) (atI0 i (by omega) x1) ?_
        walk_at "g"
        refine s_ixT (SqT.of e1) (atI0 0 rfl rfl) ?_
        walk_at "g"
        refine s_ixL (SqL.of hx) (atI0 (i + 1 + d) (by omega) x2) ?_
        walk_at "g"
        refine s_ixT (SqT.of e2) (atI0 0 rfl rfl) ?_
        walk_at "g"
        refine ⟨c1, c2, rfl, ?_⟩
        walk_at "g"
        refine s_i (by omega) ?_
        walk_at "g"
        have hal : M.alike c1 r1 c2 r2 ↔ (r1 - r2) % ((Nat.gcd c1 c2 : Nat) : Int) = 0 := Iff.rfl
        refine s_iten (fun c => ?_) (fun c => ?_)
        · walk_at "g"
          refine mkL (by simp) fun p H2 np ep s2 => ?_
          refine k2 i (i + 1 + d) ⟨by omega, ⟨_, _, hq1, hq2, fun z => c (hal.mp z)⟩, al⟩ p H2 s2 ?_
          rw [ep]
          have z1 : 0 + (i : Int) = (i : Int) := by omega
          have z2 : 0 + (i : Int) + 1 + (d : Int) = ((i + 1 + d : Nat) : Int) := by omega
          rw [z2, z1]
        · walk_at "g"
          exact ⟨rfl, ⟨_, rfl⟩, M.before_one al hq1 hq2 (hal.mpr c)⟩
      · rintro σ H1 ⟨rfl, ⟨v, rfl⟩, al⟩
        have e : i + 1 + (pl.length - (i + 1)) = pl.length := by omega
        rw [e] at al
        exact ⟨rfl, ⟨_, _, rfl⟩, M.before_row al⟩
    · rintro σ H' ⟨rfl, ⟨u, v, rfl⟩, al⟩
      walk_at "g"
      refine mkL (by simp) fun p H2 np ep s2 => ?_
      exact k1 (M.before_all al) p H2 s2 ep

/-- _law_right(places, found): the truth, of what is due -/
def sp__law_right (K : PySem.W.Frag) : Sp := fun vs H Q _ => ∃ (a b : Addr) (pl : List (Int × Int)), vs = [.ref a, .ref b] ∧ pl.length ≤ 12 ∧ (∀ q ∈ pl, 0 < q.1 ∧ q.1 < 2 ^ 60 ∧ q.2.natAbs < 2 ^ 800) ∧ PlacesAt K H a pl ∧
  ((M.allAlike pl ∧ ∃ w x, H b = some (.tup [.int w, .int x]) ∧ M.Put pl w x) ∨ (∃ i j : Nat, M.firstApart pl i j ∧ H b = some (.tup [.str "apart", .int i, .int j]))) ∧ ∀ H', Same H H' → Q (.bl true) H'
theorem ok__law_right (T : Txt K mg) : FnOk P w K mg base CX0 3 (He.ga K "_law_right") (fd__law_right T) ["_law_places_here", "_law_found"] (sp__law_right K) := by
  refine (F__law_right T).ok sc__law_right (fun vs H Q E h => ?_) (fun cdv A outer s H vs Q E hr h => ⟨_, PSs.nox (pss_cons (ps_set (i := 2) sc__law_right.nd rfl (Or.inl rfl) (pe_call (ok__law_apart T) (hr.mono (by decide)) rfl (g__law_apart T) (kp__law_apart T) (B__law_apart T) .nil pass0 (pa_cons (pv 0) pa_nil)))
      (pss_cons (ps_if (pt_cmpR (op_neD hr.units) (pv 2) (pe_lst pa_nil) (nomark _)) (pss_cons (ps_if (PW.pt (pw_or (pt_not (pt_val (pe_callB call_isi rfl (T.fr (T.c.fact 21 rfl)) boot_isinstance (pa_cons (pv 1) (pa_cons (pe_bltn (v := .ty "tuple") rfl (T.fr (T.c.fact 24 rfl)) boot_tuple rfl) pa_nil))))) (pw_or (pt_cmpR op_ne (pe_callB callLen rfl (T.fr (T.c.fact 20 rfl)) boot_len (pa_cons (pv 1) pa_nil)) pe_int (nomark _)) (pw_or1 (pt_cmpR op_ne (pe_ix ix_seq (pv 1) pe_int (fun _ _ => rfl)) pe_str (nomark _)))))) (pss_one (ps_ret pe_bl)) pss_nil)
      (pss_one (ps_ret (pe_and (pe_call (ok__law_is_whole T) (hr.mono (by decide)) rfl (g__law_is_whole T) (kp__law_is_whole T) (B__law_is_whole T) .nil pass0 (pa_cons (pe_ix ix_seq (pv 1) pe_int (fun _ _ => rfl)) pa_nil)) (pe_and (pe_call (ok__law_is_whole T) (hr.mono (by decide)) rfl (g__law_is_whole T) (kp__law_is_whole T) (B__law_is_whole T) .nil pass0 (pa_cons (pe_ix ix_seq (pv 1) pe_int (fun _ _ => rfl)) pa_nil)) (pe_one (pe_cmpR (op_eqD hr.units) (pe_callTy callLst rfl (T.fr (T.c.fact 25 rfl)) boot_list (pa_cons (pe_slice sl_tup (pv 1) (po_some pe_int) po_none) pa_nil)) (pv 2) (nomark _)))))))) pss_nil)
      (pss_cons (ps_if (PW.pt (pw_or (pt_not (pt_val (pe_callB call_isi rfl (T.fr (T.c.fact 21 rfl)) boot_isinstance (pa_cons (pv 1) (pa_cons (pe_bltn (v := .ty "tuple") rfl (T.fr (T.c.fact 24 rfl)) boot_tuple rfl) pa_nil))))) (pw_or (pt_cmpR op_ne (pe_callB callLen rfl (T.fr (T.c.fact 20 rfl)) boot_len (pa_cons (pv 1) pa_nil)) pe_int (nomark _)) (pw_or (pt_not (pt_val (pe_call (ok__law_is_whole T) (hr.mono (by decide)) rfl (g__law_is_whole T) (kp__law_is_whole T) (B__law_is_whole T) .nil pass0 (pa_cons (pe_ix ix_seq (pv 1) pe_int (fun _ _ => rfl)) pa_nil)))) (pw_or1 (pt_not (pt_val (pe_call (ok__law_is_whole T) (hr.mono (by decide)) rfl (g__law_is_whole T) (kp__law_is_whole T) (B__law_is_whole T) .nil pass0 (pa_cons (pe_ix ix_seq (pv 1) pe_int (fun _ _ => rfl)) pa_nil))))))))) (pss_one (ps_ret pe_bl)) pss_nil)
      (pss_cons (ps_set (i := 3) sc__law_right.nd rfl (Or.inl rfl) pe_int)
      (pss_cons (ps_for PassesOwn.never rfl (pi_list (pv 0)) (pg_tup rfl (pgs_cons (pg_name (i := 4) sc__law_right.nd rfl (Or.inl rfl)) (pgs_cons (pg_name (i := 5) sc__law_right.nd rfl (Or.inl rfl)) pgs_nil))) (pss_cons (ps_set (i := 3) sc__law_right.nd rfl (Or.inl rfl) (pe_op op_mulW (pe_op op_fdivW (pv 3) (pe_call (ok__law_common T) (hr.mono (by decide)) rfl (g__law_common T) (kp__law_common T) (B__law_common T) .nil pass0 (pa_cons (pv 3) (pa_cons (pv 4) pa_nil)))) (pv 4)))
      (pss_one (ps_if (pt_cmpR op_ne (pe_op op_mod (pe_op op_sub (pe_ix ix_seq (pv 1) pe_int (fun _ _ => rfl)) (pv 5)) (pv 4)) pe_int (nomark _)) (pss_one (ps_ret pe_bl)) pss_nil))))
      (pss_one (ps_ret (pe_and (pe_cmpR op_eq (pe_ix ix_seq (pv 1) pe_int (fun _ _ => rfl)) (pv 3) (nomark _)) (pe_and (pe_cmpR op_le pe_int (pe_ix ix_seq (pv 1) pe_int (fun _ _ => rfl)) (nomark _)) (pe_one (pe_cmpR op_lt (pe_ix ix_seq (pv 1) pe_int (fun _ _ => rfl)) (pv 3) (nomark _)))))))))))), ?_⟩)
  · obtain ⟨a, b, pl, rfl, _⟩ := h; rfl
  · obtain ⟨a, b, pl, rfl, hl, hm, hP, alt, k⟩ := h
    walk_at "g"
    refine ⟨a, pl, rfl, hP, by omega, fun q hq => (hm q hq).1, fun al c H1 s1 hc => ?_, fun i j fa c H1 s1 hc => ?_⟩
    · rcases alt with ⟨_, w, x, hb, put⟩ | ⟨i, j, fa, _⟩
      · have hb1 := s1 _ _ hb
        have P1 := hP.same s1
        walk_at "g"
        refine mkL (by simp) fun e H2 ne ee s2 => ?_
        walk_at "g"
        refine s_neD (.list []) (.list []) (.lst (SqL.of (s2 _ _ hc)) .nil) (.lst (SqL.of ee) .nil) (by rfl) (by rfl) ?_
        walk_at "g"
        have hb2 := s2 _ _ hb1
        obtain ⟨xs, hx, ht⟩ := P1.same s2
        refine s_iteb (fun z => by simp [PyData.eqv, PyData.eqvAll] at z) (fun _ => ?_)
        walk_at "g"
        refine s_isi (.tup hb2) kb_tt ?_
        walk_at "g"
        refine s_lenT (SqT.of hb2) ?_
        walk_at "g"
        refine s_itnP rfl ?_
        walk_at "g"
        refine s_ixT (SqT.of hb2) (atI0 0 rfl rfl) ?_
        walk_at "g"
        refine .inl ⟨_, rfl, ?_⟩
        walk_at "g"
        refine s_ixT (SqT.of hb2) (atI0 1 rfl rfl) ?_
        walk_at "g"
        refine .inl ⟨_, rfl, ?_⟩
        walk_at "g"
        refine ⟨⟨_, SqL.of hx⟩, ?_⟩
        have hxl : xs.length = pl.length := by rw [ht.length, List.length_map]
        refine for_list (fun i σ H' => H' = H2 ∧ ∃ (g1 g2 : Option V), σ = [some (.ref a), some (.ref b), some (.ref c), some (.int (M.lcmL (pl.take i) : Nat)), g1, g2]) ⟨rfl, _, _, rfl⟩ (fun i σ H' _ I => by rw [I.1]; exact SqL.of hx) ?_ ?_
        · rintro i v σ H' hi ⟨rfl, g1, g2, rfl⟩
          have hil : i < xs.length := (List.getElem?_eq_some_iff.mp hi).1
          obtain ⟨⟨m, r⟩, hq⟩ : ∃ q, pl[i]? = some q := ⟨_, List.getElem?_eq_getElem (by omega)⟩
          obtain ⟨t, x1, e1⟩ := PlacesAt.get (K := K) ht hq
          rw [hi] at x1; cases x1
          have hq' := List.mem_of_getElem? hq
          obtain ⟨m0, m1, m2⟩ := hm _ hq'
          obtain ⟨d, rfl⟩ := Int.eq_ofNat_of_zero_le (Int.le_of_lt m0)
          have e1 : H' t = some (.tup [.int (d : Int), .int r]) := e1
          have lb : M.lcmL (pl.take i) < 2 ^ 721 := M.lcm_lt (pl.take i) (fun p hp => ⟨(hm p (List.mem_of_mem_take hp)).1, (hm p (List.mem_of_mem_take hp)).2.1⟩) (by rw [List.length_take]; omega)
          have lp : 0 < M.lcmL (pl.take i) := M.lcm_pos _ fun p hp => (hm p (List.mem_of_mem_take hp)).1
          have gp : 0 < Nat.gcd (M.lcmL (pl.take i)) d := Nat.gcd_pos_of_pos_left _ lp
          have gl : Nat.gcd (M.lcmL (pl.take i)) d ≤ M.lcmL (pl.take i) := Nat.le_of_dvd lp (Nat.gcd_dvd_left _ _)
          refine s_gtup (SqT.of e1) rfl ?_
          walk_at "g"
          refine ⟨M.lcmL (pl.take i), d, rfl, ?_⟩
          have step : ((M.lcmL (pl.take i) : Nat) : Int) / ((Nat.gcd (M.lcmL (pl.take i)) d : Nat) : Int) * (d : Int) = ((M.lcmL (pl.take (i + 1)) : Nat) : Int) := by
            rw [take_more hq, M.lcmL_snoc, ← Int.natCast_ediv, ← Int.natCast_mul]
            congr 1
            show M.lcmL (pl.take i) / Nat.gcd (M.lcmL (pl.take i)) d * d = M.lcmL (pl.take i) * d / Nat.gcd (M.lcmL (pl.take i)) d
            rw [Nat.mul_comm (M.lcmL (pl.take i)) d, Nat.mul_div_assoc d (Nat.gcd_dvd_left _ d), Nat.mul_comm d]
          have q1 : ((M.lcmL (pl.take i) : Nat) : Int) / ((Nat.gcd (M.lcmL (pl.take i)) d : Nat) : Int) ≤ (M.lcmL (pl.take i) : Nat) := Int.ediv_le_self _ (by omega)
          have q0 : 0 ≤ ((M.lcmL (pl.take i) : Nat) : Int) / ((Nat.gcd (M.lcmL (pl.take i)) d : Nat) : Int) := Int.ediv_nonneg (by omega) (by omega)
          walk_at "g"
          refine s_i (divW (by omega) (by omega)) ?_
          walk_at "g"
          rw [step]
          refine s_ixT (SqT.of (by assumption)) (atI0 1 rfl rfl) ?_
          walk_at "g"
          refine s_i m0 ?_
          walk_at "g"
          refine s_itnP (put.at_ _ hq') ?_
          walk_at "g"
          exact ⟨rfl, _, _, rfl⟩
        · rintro σ H' ⟨rfl, g1, g2, rfl⟩
          rw [hxl, List.take_length]
          have p0 := put.x0
          have p1 := put.x1
          have pw := put.hw
          walk_at "g"
          refine s_ixT (SqT.of (by assumption)) (atI0 0 rfl rfl) ?_
          walk_at "g"
          refine s_itP pw ?_
          walk_at "g"
          refine s_ixT (SqT.of (by assumption)) (atI0 1 rfl rfl) ?_
          walk_at "g"
          refine s_itP p0 ?_
          walk_at "g"
          refine s_ixT (SqT.of (by assumption)) (atI0 1 rfl rfl) ?_
          walk_at "g"
          exact s_blT (Q := Q) (by omega) (k _ (s1.trans s2))
      · obtain ⟨l, ⟨p, q, hp, hq, z⟩, _⟩ := fa
        exact absurd (al _ _ _ _ l hp hq) z
    · rcases alt with ⟨al, _⟩ | ⟨i', j', fa', hb⟩
      · obtain ⟨l, ⟨p, q, hp, hq, z⟩, _⟩ := fa
        exact absurd (al _ _ _ _ l hp hq) z
      · obtain ⟨rfl, rfl⟩ := M.first_unique fa fa'
        have hb1 := s1 _ _ hb
        walk_at "g"
        refine mkL (by simp) fun e H2 ne ee s2 => ?_
        walk_at "g"
        refine s_neD (.list [.int i, .int j]) (.list []) (.lst (SqL.of (s2 _ _ hc)) (.cons (.int _) (.cons (.int _) .nil))) (.lst (SqL.of ee) .nil) (by rfl) (by rfl) ?_
        walk_at "g"
        have hb2 := s2 _ _ hb1
        refine s_iteb (fun _ => ?_) (fun z => by simp [PyData.eqv, PyData.eqvAll] at z)
        walk_at "g"
        refine s_isi (.tup hb2) kb_tt ?_
        walk_at "g"
        refine s_lenT (SqT.of hb2) ?_
        walk_at "g"
        refine s_itnP rfl ?_
        walk_at "g"
        refine s_ixT (SqT.of hb2) (atI0 0 rfl rfl) ?_
        walk_at "g"
        refine s_itnP rfl ?_
        walk_at "g"
        refine s_ixT (SqT.of hb2) (atI0 1 rfl rfl) ?_
        walk_at "g"
        refine .inl ⟨_, rfl, ?_⟩
        walk_at "g"
        refine s_ixT (SqT.of hb2) (atI0 2 rfl rfl) ?_
        walk_at "g"
        refine .inl ⟨_, rfl, ?_⟩
        walk_at "g"
        refine mkSlT (SqT.of hb2) (fun z => absurd z.1 (by show ¬ (HT.sIx 3 0 (some 1) = 0); decide)) fun l H3 nl el s3 => ?_
        walk_at "g"
        refine s_lstT (SqT.of el) fun l2 nl2 => ?_
        have S4 : Same H3 (upd H3 l2 (.lst (cutV [.str "apart", .int i, .int j] (some 1) none))) := same_upd nl2
        have e4 : upd H3 l2 (.lst (cutV [.str "apart", .int i, .int j] (some 1) none)) l2 = some (.lst [.int i, .int j]) := upd_same
        generalize upd H3 l2 (.lst (cutV [.str "apart", .int i, .int j] (some 1) none)) = H4 at S4 e4 ⊢
        walk_at "g"
        refine s_eqD (.list [.int i, .int j]) (.list [.int i, .int j]) (.lst (SqL.of e4) (.cons (.int _) (.cons (.int _) .nil))) (.lst (SqL.of (S4 _ _ (s3 _ _ (s2 _ _ hc)))) (.cons (.int _) (.cons (.int _) .nil))) (by rfl) (by rfl) ?_
        have ee' : PyData.eqv (.list [.int i, .int j]) (.list [.int i, .int j]) = true := by simp [PyData.eqv, PyData.eqvAll]
        rw [ee']
        exact k _ (s1.trans (s2.trans (s3.trans S4)))

/-- the law -/
def sp_law (K : PySem.W.Frag) : Sp := fun vs H Q _ => ∃ (a : Addr) (ns : List Int), vs = [.ref a] ∧ ns.length ≤ 63 ∧ SqL K H a (ns.map V.int) ∧ ∀ H', Q (.bl true) H'
theorem ok_law (T : Txt K mg) : FnOk P w K mg base CX0 8 (He.ga K "law") (fd_law T) ["_law_script"] (sp_law K) := by
  refine (F_law T).ok sc_law (fun vs H Q E h => ?_) (fun cdv A outer s H vs Q E hr h => ⟨_, PSs.nox (pss_cons (ps_for PassesOwn.never rfl (pi_list (pe_op op_cat (pe_slice sl_list (pv 0) (po_some pe_int) (po_some pe_int)) (pe_lst (pa_cons pe_int pa_nil)))) (pg_name (i := 1) sc_law.nd rfl (Or.inl rfl)) (pss_cons (ps_set (i := 2) sc_law.nd rfl (Or.inl rfl) (pe_call (ok__law_places T) (hr.mono (by decide)) rfl (g__law_places T) (kp__law_places T) (B__law_places T) .nil pass0 (pa_cons (pe_call (ok__law_state T) (hr.mono (by decide)) rfl (g__law_state T) (kp__law_state T) (B__law_state T) .nil pass0 (pa_cons (pv 1) (pa_cons (pe_cmpR op_eq (pe_op op_mod (pe_call (ok__law_cell_at T) (hr.mono (by decide)) rfl (g__law_cell_at T) (kp__law_cell_at T) (B__law_cell_at T) .nil pass0 (pa_cons (pv 0) (pa_cons pe_int pa_nil))) pe_int) pe_int (nomark _)) pa_nil))) pa_nil)))
      (pss_cons (ps_set (i := 3) sc_law.nd rfl (Or.inl rfl) (pe_callTy callLst rfl (T.fr (T.c.fact 25 rfl)) boot_list (pa_cons (pv 2) pa_nil)))
      (pss_one (ps_if (PW.pt (pw_or (pt_not (pt_val (pe_call (ok__law_right T) (hr.mono (by decide)) rfl (g__law_right T) (kp__law_right T) (B__law_right T) .nil pass0 (pa_cons (pv 2) (pa_cons (pe_call (ok_put_together T) (hr.mono (by decide)) rfl (g_put_together T) (kp_put_together T) (B_put_together T) .nil pass0 (pa_cons (pv 3) pa_nil)) pa_nil))))) (pw_or1 (pt_cmpR (op_neD hr.units) (pv 3) (pv 2) (nomark _))))) (pss_one (ps_ret pe_bl)) pss_nil)))))
      (pss_one (ps_ret pe_bl))), ?_⟩)
  · obtain ⟨a, ns, rfl, _⟩ := h; rfl
  · obtain ⟨a, ns, rfl, hlen, hS, k⟩ := h
    walk_at "g"
    refine mkSl hS fun l H0 hl hL s0 => ?_
    walk_at "g"
    refine mkL (by simp) fun l2 H1 hl2 hL2 s1 => ?_
    have zl := cutV_length (ns.map V.int) (some 1) (some 63)
    rw [List.length_map] at zl
    refine mkCat (s1 _ _ hL) hL2 (by simp; omega) fun l3 H2 n3 e3 s2 => ?_
    walk_at "g"
    refine ⟨⟨_, SqL.of e3⟩, ?_⟩
    have S2 : Same H H2 := s0.trans (s1.trans s2)
    refine for_list (fun i σ H' => Same H2 H' ∧ ∃ r : List (Option V), σ = some (.ref a) :: r ∧ r.length = 3) ⟨Same.refl _, _, rfl, rfl⟩ (fun i σ H' _ I => SqL.of (I.1 _ _ e3)) ?_ ?_
    · rintro i x σ H' hi ⟨hs, r, rfl, hr⟩
      have hc : ∃ c, x = V.int c := by
        rcases List.mem_append.mp (get_mem hi) with z | z
        · obtain ⟨c, e, _⟩ := of_mem_ints (cutV_mem z)
          exact ⟨c, e⟩
        · exact ⟨0, by simpa using z⟩
      obtain ⟨c, rfl⟩ := hc
      match r, hr with
      | [r1, r2, r3], _ =>
      walk_at "g"
      refine ⟨a, ns, 0, rfl, (S2.trans hs).seq hS, fun z => ?_⟩
      walk_at "g"
      refine ⟨c, decide (z % 2 = 0), rfl, fun p H3 np s3 st3 => ?_⟩
      walk_at "g"
      refine ⟨p, rfl, st3, fun b pl H4 hl12 hm pl4 st4 s4 => ?_⟩
      walk_at "g"
      obtain ⟨xs, hx, ht⟩ := pl4
      refine s_lstL (SqL.of hx) fun q nq => ?_
      have S5 : Same H4 (upd H4 q (.lst xs)) := same_upd nq
      have e5 : upd H4 q (.lst xs) q = some (.lst xs) := upd_same
      generalize upd H4 q (.lst xs) = H5 at S5 e5 ⊢
      have plq : PlacesAt K H5 q pl := ⟨xs, e5, ht.same S5⟩
      have plb : PlacesAt K H5 b pl := ⟨xs, S5 _ _ hx, ht.same S5⟩
      have S45 : Same H' H5 := (s4.same np s3).trans S5
      have S25 : Same H2 H5 := hs.trans S45
      have same2 := eqv_shaped (sh_places pl)
      walk_at "g"
      refine ⟨q, pl, rfl, plq, hl12, hm, fun al f H6 w x put s6 e6 => ?_, fun i j fa f H6 s6 e6 => ?_⟩
      all_goals walk_at "g"
      · refine ⟨b, f, pl, rfl, hl12, hm, plb.same s6, .inl ⟨al, w, x, e6, put⟩, fun H7 s7 => ?_⟩
        walk_at "g"
        have s57 := s6.trans s7
        refine s_neD _ _ (dp_places (plq.same s57)) (dp_places (plb.same s57)) (sh_places pl) (sh_places pl) ?_
        rw [same2]
        walk_at "g"
        exact ⟨S25.trans s57, _, rfl, rfl⟩
      · refine ⟨b, f, pl, rfl, hl12, hm, plb.same s6, .inr ⟨i, j, fa, e6⟩, fun H7 s7 => ?_⟩
        walk_at "g"
        have s57 := s6.trans s7
        refine s_neD _ _ (dp_places (plq.same s57)) (dp_places (plb.same s57)) (sh_places pl) (sh_places pl) ?_
        rw [same2]
        walk_at "g"
        exact ⟨S25.trans s57, _, rfl, rfl⟩
    · rintro σ H' ⟨hs, r, rfl, hr⟩
      walk_at "g"
      exact k H'
theorem law_end {K : PySem.W.Frag} {H : Hp} {a : Addr} {ns : List Int} (hl : ns.length ≤ 63) (hb : ∀ z ∈ ns, Builtin.Int.intBits z ≤ 1048576) (hS : SqL K H a (ns.map V.int)) : sp_law K [.ref a] H (fun v _ => v = .bl true) fun _ _ _ => False :=
  ⟨a, ns, rfl, hl, hS, fun _ => rfl⟩

theorem facts {h : Heap} {f : Addr} (X : K.In h) (G : h.Ns mainGlobals mg) (hfa : mg ("law" : Str) = some (.ref f)) (c : Told fa fn K) :
    ∃ fd : FuncData, (∀ (s : Shared) (v : Value), BindsTo s fd ⟨[v], []⟩ [("_law_script", v)]) ∧ ∀ base : Heap, K.In base → base.Ns mainGlobals mg → FnOk P w K mg base CX0 8 f fd ["_law_script"] (sp_law K) := by
  have T : Txt K mg := ⟨c, fun z => He.glo_ok X G z, fun z => He.free_ok X G z, fun z => He.int_ok X G z⟩
  have e := hfa.symm.trans (g_law T)
  cases e
  have b := FunD.bindsA (ps := ["_law_script"]) (F_law T) fun _ _ _ _ _ _ us hl => match us, hl with | [_], _ => rfl
  exact ⟨fd_law T, fun s v => b s [v] rfl, fun base _ _ => ok_law T⟩
end
abbrev RR : PySem.W.OpenRow := PySem.W.OpenLaw.row PySem.Challenge.rw_rootprime_k64_first_two_apart
abbrev hk : PySem.W.Hook := hookR 5 fa fn
def ob (s : PySem.W.SharedT) : He.AlD := toldG 5 fa fn (HandSHeadRun.getT s)
theorem ob_eq (s : PySem.W.SharedT) : ob s = hk.obs s.abs := toldG_eq (HandSHeadRun.getT_eq s)
theorem run (w : World) : HandSHeadRun.RunEq RR (PySem.W.view RR.prog [22]) hk ob 2270 ["divisor", "inverse", "can_join", "first_apart", "joined", "put_together", "_law_cell_at", "_law_state", "_law_take", "_law_number", "_law_modulus", "_law_common", "_law_is_whole", "_law_places", "_law_apart", "_law_right", "PrimeError", "NoInverse"] w := by
  intro os
  kernel_rfl
end C
open PySem PySem.W PySem.Calls PyProof.Rows
set_option maxRecDepth 100000 in
set_option maxHeartbeats 0 in
theorem PySem.Challenge.cw_rootprime_k64_first_two_apart_holds : PySem.Challenge.rw_rootprime_k64_first_two_apart.Holds := by
  w_on; o_law
  refine HandSHeadRun.head_any (r := OpenLaw.row PySem.Challenge.rw_rootprime_k64_first_two_apart) (q := view (OpenLaw.row PySem.Challenge.rw_rootprime_k64_first_two_apart).prog [22]) (H := C.hk) (ob := C.ob) (M := 2270) (loose := ["divisor", "inverse", "can_join", "first_apart", "joined", "put_together", "_law_cell_at", "_law_state", "_law_take", "_law_number", "_law_modulus", "_law_common", "_law_is_whole", "_law_places", "_law_apart", "_law_right", "PrimeError", "NoInverse"]) (d := HandSHeadRun.topDef (OpenLaw.row PySem.Challenge.rw_rootprime_k64_first_two_apart).prog 22) (kwd := []) C.ob_eq
    (by kernel_rfl) (fun s => by kernel_rfl) C.run (by kernel_rfl) (by kernel_rfl) (by kernel_rfl) (by rfl) (by first | assumption | decide +kernel) (by decide +kernel) ⟨rfl, rfl, rfl, rfl, rfl, by decide +kernel⟩ ?hw ?hc
  case hw => w_witness2
  case hc =>
    refine R.walk_ofEB (l := PySem.Challenge.rw_rootprime_k64_first_two_apart) (n := 63) (k := 8) (prm := "_law_script") (CX := fun w => L2.CX0) rfl (by decide) (by kernel_rfl) ⟨rfl, by decide, by decide⟩ ?F (fun _ _ _ _ _ z => z)
    intro w mg fa h Y G hmg0
    obtain ⟨K, KX, c⟩ := Y
    have hmg : mg ("law" : PySem.Str) = some (.ref fa) := by
      have e : (HandSHeadRun.topDef (OpenLaw.row PySem.Challenge.rw_rootprime_k64_first_two_apart).prog 22).name = ("law" : PySem.Str) := by kernel_rfl
      rw [← e]
      exact hmg0
    obtain ⟨fd, hb, hF⟩ := C.facts (P := (PySem.Challenge.rw_rootprime_k64_first_two_apart).prog) (w := w) KX G hmg c
    exact ⟨K, fd, (C.sp_law K), KX, hb, fun H a ns hl hbits hO hS => C.law_end hl hbits hS, hF⟩

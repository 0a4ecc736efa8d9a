import PyProof.Rows.All
import Wide.All
import OpenK.AllK
import Wide.FinOn
import HandS.ForMost
import HandS.ForExc
import HandS.Wide
import HandS.IsInst
import HandS.Style
import HandS.Flow
import HandS.Conv
import HandS.Defaults
import HandS.Head0
import HandS.Head1
import HandS.Head2
import HandS.HeadEnd
import HandS.HeadHook1
import HandS.HeadHook2
import HandS.EndBits
import HandS.ExcInit
import HandS.ExcField
import HandS.ExcOwn
import HandS.ExcIs
import HandS.TryOnly
import HandS.WordsExc
import HandS.ClsMeth
import HandS.HeadNt
import HandS.Steps
import HandS.Zip
import HandS.Walk
import HandS.Small
import HandS.NoneIn
import HandS.TryMany
import HandS.TupAny
import HandS.SortInts
import HandS.SetKeys
import HandS.Iter
import KE.GoesMore
import PySem.Challenge.RW_rootprime_k13_whole_divisors_and_coprime

set_option Elab.async false
set_option linter.all false
set_option maxRecDepth 100000
set_option maxHeartbeats 4000000
set_option exponentiation.threshold 5000

namespace R
open PySem PySem.Spec PyProof.Rows L2
/-! steps of a reading -/
section
variable {t u : TS} {D : Ends} {σ : L2.St} {H : Hp} {Q : VK} {te ta tb : TE} {g : TG} {i j : Nat} {v x y : V} {r : R2} {c c' : TT} {tl : TA} {QL : List V → Hp → Prop} {QB : Bool → Hp → Prop} {QS : L2.St → Hp → Prop} {a b : Int} {C : Int → Int → Prop} {f : Int → Int → V}
theorem s_seq (h : t { D with nx := u D } σ H) : tSeq t u D σ H := h
theorem s_asg (h : te σ H fun x H1 => g x σ H1 D.nx) : tAsg te g D σ H := h
theorem s_drop (h : te σ H fun _ H1 => D.nx σ H1) : tDrop te D σ H := h
theorem s_ret (h : te σ H D.rt) : tRet te D σ H := h
theorem s_next (h : D.nx σ H) : tNext D σ H := h
theorem s_if (h : c σ H fun b H1 => if b = true then t D σ H1 else u D σ H1) : tIfS c t u D σ H := h
theorem s_gname (h : QS (σ.set i (some v)) H) : gName i v σ H QS := h
theorem s_var (e : σ[i]? = some (some v)) (h : Q v H) : tVar i σ H Q := ⟨v, e, h⟩
theorem s_c (h : Q v H) : tC v σ H Q := h
theorem s_op (h : ta σ H fun x H1 => tb σ H1 fun y H2 => r x y H2 Q) : tOp r ta tb σ H Q := h
theorem s_un {r : V → Hp → VK → Prop} (h : ta σ H fun x H1 => r x H1 Q) : tUn r ta σ H Q := h
theorem s_i0 (h : Q (f a b) H) : rI0 f (.int a) (.int b) H Q := ⟨a, b, rfl, rfl, h⟩
theorem s_i (hc : C a b) (h : Q (f a b) H) : rI C f (.int a) (.int b) H Q := ⟨a, b, rfl, rfl, hc, h⟩
theorem s_u {f : Int → V} (h : Q (f a) H) : rU f (.int a) H Q := ⟨a, rfl, h⟩
theorem s_cons (h : te σ H fun x H1 => tl σ H1 fun xs H2 => QL (x :: xs) H2) : tCons te tl σ H QL := h
theorem s_nil (h : QL [] H) : tNil σ H QL := h
theorem s_test (h : ta σ H fun x H' => ∃ k, x = .bl k ∧ QB k H') : tTest ta σ H QB := h
theorem s_tB (h : ta σ H fun x H' => ∃ k, x = .bl k ∧ QB k H') : tB ta σ H QB := h
theorem s_bl {k : Bool} {P : Bool → Prop} (h : P k) : ∃ k', V.bl k = .bl k' ∧ P k' := ⟨k, rfl, h⟩
theorem s_andc (h : c σ H fun b H1 => if b = true then c' σ H1 QB else QB false H1) : tAnd c c' σ H QB := h
theorem s_orc (h : c σ H fun b H1 => if b = true then QB true H1 else c' σ H1 QB) : tOr c c' σ H QB := h
theorem s_notc (h : c σ H fun b H1 => QB (!b) H1) : tNot c σ H QB := h
theorem s_andv (h : ta σ H fun x H1 => ∃ c, x = .bl c ∧ if c = true then tb σ H1 Q else Q (.bl false) H1) : tAndV ta tb σ H Q := h
theorem s_orv (h : ta σ H fun x H1 => ∃ c, x = .bl c ∧ if c = true then Q (.bl true) H1 else tb σ H1 Q) : tOrV ta tb σ H Q := h
theorem s_notv (h : ta σ H fun x H1 => ∃ c, x = .bl c ∧ Q (.bl (!c)) H1) : tNotV ta σ H Q := h
theorem s_ifx {t : TT} (h : t σ H fun c H1 => if c = true then ta σ H1 Q else tb σ H1 Q) : tIf t ta tb σ H Q := h
theorem s_eqI (h : Q (.bl (decide (a = b))) H) : rEq (.int a) (.int b) H Q := ⟨rfl, by
  have e : decide (V.int a = V.int b) = decide (a = b) := by simp
  rw [e]; exact h⟩
theorem s_neI (h : Q (.bl (!decide (a = b))) H) : rNe (.int a) (.int b) H Q := ⟨rfl, by
  have e : decide (V.int a = V.int b) = decide (a = b) := by simp
  rw [e]; exact h⟩
theorem s_eqS {a b : Str} (h : Q (.bl (decide (a = b))) H) : rEq (.str a) (.str b) H Q := ⟨rfl, by
  have e : decide (V.str a = V.str b) = decide (a = b) := by simp
  rw [e]; exact h⟩
theorem s_neS {a b : Str} (h : Q (.bl (!decide (a = b))) H) : rNe (.str a) (.str b) H Q := ⟨rfl, by
  have e : decide (V.str a = V.str b) = decide (a = b) := by simp
  rw [e]; exact h⟩
theorem s_eqB {a b : Bool} (h : Q (.bl (decide (a = b))) H) : rEq (.bl a) (.bl b) H Q := ⟨rfl, by
  have e : decide (V.bl a = V.bl b) = decide (a = b) := by simp
  rw [e]; exact h⟩
theorem s_neB {a b : Bool} (h : Q (.bl (!decide (a = b))) H) : rNe (.bl a) (.bl b) H Q := ⟨rfl, by
  have e : decide (V.bl a = V.bl b) = decide (a = b) := by simp
  rw [e]; exact h⟩
def MkT (Q : VK) (xs : List V) (H : Hp) : Prop := xs.length ≤ sizeLine ∧ ∀ p, H p = none → Q (.ref p) (upd H p (.tup xs))
def MkL (Q : VK) (xs : List V) (H : Hp) : Prop := xs.length ≤ sizeLine ∧ ∀ p, H p = none → Q (.ref p) (upd H p (.lst xs))
theorem s_tup (h : tl σ H fun xs H1 => MkT Q xs H1) : tTup tl σ H Q := h
theorem s_lst (h : tl σ H fun xs H1 => MkL Q xs H1) : tLst tl σ H Q := h
theorem len_le {α : Type} {xs : List α} (h : xs.length ≤ 1000) : xs.length ≤ sizeLine := Nat.le_of_lt (small1000 h)
theorem s_par (h : tl σ H fun vs H1 => ∃ v w, vs = [v, w] ∧ D.nx ((σ.set i (some v)).set j (some w)) H1) : tPar i j tl D σ H := h
theorem s_par_ {P : V → V → Prop} (h : P x y) : ∃ v w, [x, y] = [v, w] ∧ P v w := ⟨x, y, rfl, h⟩
theorem s_par3 {l : Nat} (h : tl σ H fun vs H1 => ∃ u v w, vs = [u, v, w] ∧ D.nx (((σ.set i (some u)).set j (some v)).set l (some w)) H1) : tPar3 i j l tl D σ H := h
theorem s_par3_ {z : V} {P : V → V → V → Prop} (h : P x y z) : ∃ u v w, [x, y, z] = [u, v, w] ∧ P u v w := ⟨x, y, z, rfl, h⟩
theorem s_cb {r : List V → Hp → VK → Prop} (h : tl σ H fun vs H1 => r vs H1 Q) : tCB r tl σ H Q := h
theorem s_call {sp : Sp} {dvs : List V} {E : XK} (h : tl σ H fun vs H1 => sp (vs ++ dvs) H1 Q E) : tCall sp dvs E tl σ H Q := h
theorem s_callS {sp : Sp} {E : L2.St → XK} (h : tl σ H fun vs H1 => sp vs H1 Q (E σ)) : tCallS sp E tl σ H Q := h
theorem s_chain {r' : R2} {tc : TE} (h : ta σ H fun x H1 => tb σ H1 fun y H2 => r x y H2 fun z H3 => ∃ k, z = .bl k ∧ (if k = true then tc σ H3 fun w' H4 => r' y w' H4 Q else Q (.bl false) H3)) : tChain r r' ta tb tc σ H Q := h
theorem s_iteT {A B : Prop} (h : A) : if true = true then A else B := by rw [if_pos rfl]; exact h
theorem s_iteF {A B : Prop} (h : B) : if false = true then A else B := by rw [if_neg Bool.false_ne_true]; exact h
theorem s_iteNT {A B : Prop} (h : B) : if (!true) = true then A else B := h
theorem s_iteNF {A B : Prop} (h : A) : if (!false) = true then A else B := h
theorem s_ite {A B p : Prop} [Decidable p] (h1 : p → A) (h2 : ¬p → B) : if decide p = true then A else B := by
  by_cases h : p
  · rw [decide_eq_true h, if_pos rfl]; exact h1 h
  · rw [decide_eq_false h, if_neg Bool.false_ne_true]; exact h2 h
theorem s_iten {A B p : Prop} [Decidable p] (h1 : ¬p → A) (h2 : p → B) : if (!decide p) = true then A else B := by
  by_cases h : p
  · rw [decide_eq_true h]; exact s_iteF (h2 h)
  · rw [decide_eq_false h]; exact s_iteT (h1 h)
theorem s_iteb {A B : Prop} {b : Bool} (h1 : b = true → A) (h2 : b = false → B) : if b = true then A else B := by
  cases b
  · exact s_iteF (h2 rfl)
  · exact s_iteT (h1 rfl)
theorem s_itP {A B p : Prop} [Decidable p] (hp : p) (h : A) : if decide p = true then A else B := s_ite (fun _ => h) fun n => absurd hp n
theorem s_itN {A B p : Prop} [Decidable p] (hp : ¬p) (h : B) : if decide p = true then A else B := s_ite (fun n => absurd n hp) fun _ => h
theorem s_itnP {A B p : Prop} [Decidable p] (hp : p) (h : B) : if (!decide p) = true then A else B := s_iten (fun n => absurd hp n) fun _ => h
theorem s_itnN {A B p : Prop} [Decidable p] (hp : ¬p) (h : A) : if (!decide p) = true then A else B := s_iten (fun _ => h) fun n => absurd n hp
theorem s_btT {p : Prop} [Decidable p] {P : Bool → Prop} (hp : p) (h : P true) : P (decide p) := by rw [decide_eq_true hp]; exact h
theorem s_btF {p : Prop} [Decidable p] {P : Bool → Prop} (hp : ¬p) (h : P false) : P (decide p) := by rw [decide_eq_false hp]; exact h
theorem s_ixL {K : PySem.W.Frag} {p : Addr} {xs : List V} {n : Int} (h1 : SqL K H p xs) (h2 : atI xs n = some v) (h : Q v H) : rIx K (.ref p) (.int n) H Q := .inl ⟨p, xs, n, v, rfl, rfl, h1, h2, h⟩
theorem s_ixT {K : PySem.W.Frag} {p : Addr} {xs : List V} {n : Int} (h1 : SqT K H p xs) (h2 : atI xs n = some v) (h : Q v H) : rIx K (.ref p) (.int n) H Q := .inr (.inl ⟨p, xs, n, v, rfl, rfl, h1, h2, h⟩)
theorem s_isi {K : PySem.W.Frag} {a b : String} {bb : Bool} (ht : TyOf K H x (.type a)) (hk : kitB a b = some bb) (h : Q (.bl bb) H) : rIsi K [x, .ty b] H Q := ⟨x, .ty b, .type a, .type b, bb, rfl, .ty b, .base ht, kit_ty hk, h⟩
theorem kb_ii : kitB "int" "int" = some true := by decide +kernel
theorem kb_ib : kitB "int" "bool" = some false := by decide +kernel
theorem kb_bi : kitB "bool" "int" = some true := by decide +kernel
theorem kb_bb : kitB "bool" "bool" = some true := by decide +kernel
theorem kb_tt : kitB "tuple" "tuple" = some true := by decide +kernel
theorem kb_ll : kitB "list" "list" = some true := by decide +kernel
theorem kb_ti : kitB "tuple" "int" = some false := by decide +kernel
theorem kb_tl : kitB "tuple" "list" = some false := by decide +kernel
theorem kb_lt : kitB "list" "tuple" = some false := by decide +kernel
theorem kb_li : kitB "list" "int" = some false := by decide +kernel
theorem kb_ni : kitB "NoneType" "int" = some false := by decide +kernel
theorem s_isi_ii {K : PySem.W.Frag} (h : Q (.bl true) H) : rIsi K [.int a, .ty "int"] H Q := s_isi (.int a) kb_ii h
theorem s_isi_ib {K : PySem.W.Frag} (h : Q (.bl false) H) : rIsi K [.int a, .ty "bool"] H Q := s_isi (.int a) kb_ib h
theorem s_p10 {n : Nat} (h : Q (.int (10 ^ n)) H) (hn : n ≤ 1000 := by decide) : rI CPow (fun i j => V.int (i ^ j.toNat)) (.int 10) (.int (n : Int)) H Q :=
  ⟨10, n, rfl, rfl, ⟨by omega, by omega, by decide⟩, h⟩
theorem s_pow {e : Int} {n : Nat} (he : e = n) (hn : n ≤ 1000) (ha : a.natAbs < 2 ^ 64) (h : Q (.int (a ^ n)) H) : rI CPow (fun i j => V.int (i ^ j.toNat)) (.int a) (.int e) H Q :=
  ⟨a, e, rfl, rfl, ⟨by omega, by omega, ha⟩, by subst he; exact h⟩
theorem s_p10_4 (h : Q (.int (10 ^ 4)) H) : rI CPow (fun i j => V.int (i ^ j.toNat)) (.int 10) (.int 4) H Q := s_p10 (n := 4) h
theorem s_p10_5 (h : Q (.int (10 ^ 5)) H) : rI CPow (fun i j => V.int (i ^ j.toNat)) (.int 10) (.int 5) H Q := s_p10 (n := 5) h
theorem s_p10_6 (h : Q (.int (10 ^ 6)) H) : rI CPow (fun i j => V.int (i ^ j.toNat)) (.int 10) (.int 6) H Q := s_p10 (n := 6) h
theorem s_p10_8 (h : Q (.int (10 ^ 8)) H) : rI CPow (fun i j => V.int (i ^ j.toNat)) (.int 10) (.int 8) H Q := s_p10 (n := 8) h
theorem s_p10_9 (h : Q (.int (10 ^ 9)) H) : rI CPow (fun i j => V.int (i ^ j.toNat)) (.int 10) (.int 9) H Q := s_p10 (n := 9) h
theorem s_p10_12 (h : Q (.int (10 ^ 12)) H) : rI CPow (fun i j => V.int (i ^ j.toNat)) (.int 10) (.int 12) H Q := s_p10 (n := 12) h
theorem s_p10_18 (h : Q (.int (10 ^ 18)) H) : rI CPow (fun i j => V.int (i ^ j.toNat)) (.int 10) (.int 18) H Q := s_p10 (n := 18) h
theorem s_p10_29 (h : Q (.int (10 ^ 29)) H) : rI CPow (fun i j => V.int (i ^ j.toNat)) (.int 10) (.int 29) H Q := s_p10 (n := 29) h
theorem s_p10_30 (h : Q (.int (10 ^ 30)) H) : rI CPow (fun i j => V.int (i ^ j.toNat)) (.int 10) (.int 30) H Q := s_p10 (n := 30) h
theorem s_p10_39 (h : Q (.int (10 ^ 39)) H) : rI CPow (fun i j => V.int (i ^ j.toNat)) (.int 10) (.int 39) H Q := s_p10 (n := 39) h
theorem s_p10_40 (h : Q (.int (10 ^ 40)) H) : rI CPow (fun i j => V.int (i ^ j.toNat)) (.int 10) (.int 40) H Q := s_p10 (n := 40) h
theorem s_p10_49 (h : Q (.int (10 ^ 49)) H) : rI CPow (fun i j => V.int (i ^ j.toNat)) (.int 10) (.int 49) H Q := s_p10 (n := 49) h
theorem s_p10_50 (h : Q (.int (10 ^ 50)) H) : rI CPow (fun i j => V.int (i ^ j.toNat)) (.int 10) (.int 50) H Q := s_p10 (n := 50) h
theorem s_p10_51 (h : Q (.int (10 ^ 51)) H) : rI CPow (fun i j => V.int (i ^ j.toNat)) (.int 10) (.int 51) H Q := s_p10 (n := 51) h
theorem s_p10_58 (h : Q (.int (10 ^ 58)) H) : rI CPow (fun i j => V.int (i ^ j.toNat)) (.int 10) (.int 58) H Q := s_p10 (n := 58) h
theorem s_p10_59 (h : Q (.int (10 ^ 59)) H) : rI CPow (fun i j => V.int (i ^ j.toNat)) (.int 10) (.int 59) H Q := s_p10 (n := 59) h
theorem s_p10_60 (h : Q (.int (10 ^ 60)) H) : rI CPow (fun i j => V.int (i ^ j.toNat)) (.int 10) (.int 60) H Q := s_p10 (n := 60) h
theorem s_pow7 (ha : a.natAbs < 2 ^ 64) (h : Q (.int (a ^ 7)) H) : rI CPow (fun i j => V.int (i ^ j.toNat)) (.int a) (.int 7) H Q := s_pow (n := 7) rfl (by decide) ha h
theorem s_pickN {K : PySem.W.Frag} {p : Addr} {n : Int} {P : Int → Prop} (ns : List Int) (hp : H p = some (.lst (ns.map V.int))) (hn : 0 ≤ n ∧ n < ns.length) (ha : ∀ z ∈ ns, P z) (h : ∀ z, P z → Q (.int z) H) : rIx K (.ref p) (.int n) H Q := by
  obtain ⟨k, rfl⟩ := Int.eq_ofNat_of_zero_le hn.1
  have hk : k < ns.length := by omega
  exact s_ixL (SqL.of hp) (atI_nat (j := k) (v := .int ns[k]) (by rw [List.getElem?_map, List.getElem?_eq_getElem hk]; rfl)) (h _ (ha _ (List.getElem_mem hk)))
theorem s_pick2 {K : PySem.W.Frag} {p : Addr} {n : Int} {P : Int → Prop} (hp : H p = some (.lst [.int a, .int b])) (hn : 0 ≤ n ∧ n < 2) (ha : P a) (hb : P b) (h : ∀ z, P z → Q (.int z) H) : rIx K (.ref p) (.int n) H Q := by
  have e : n = 0 ∨ n = 1 := by omega
  rcases e with rfl | rfl
  · exact s_ixL (SqL.of hp) (atI_nat (j := 0) rfl) (h a ha)
  · exact s_ixL (SqL.of hp) (atI_nat (j := 1) rfl) (h b hb)
theorem s_andJ {b c : Bool} (hc : ∀ Q' : VK, Q' (.bl c) H → tb σ H Q') (h : Q (.bl (b && c)) H) : if b = true then tb σ H Q else Q (.bl false) H := by
  cases b
  · exact s_iteF h
  · exact s_iteT (hc _ h)
theorem s_orJ {b c : Bool} (hc : ∀ Q' : VK, Q' (.bl c) H → tb σ H Q') (h : Q (.bl (b || c)) H) : if b = true then Q (.bl true) H else tb σ H Q := by
  cases b
  · exact s_iteF (hc _ h)
  · exact s_iteT h
theorem s_blT {p : Prop} [Decidable p] (hp : p) (h : Q (.bl true) H) : Q (.bl (decide p)) H := by rw [decide_eq_true hp]; exact h
theorem s_blF {p : Prop} [Decidable p] (hp : ¬p) (h : Q (.bl false) H) : Q (.bl (decide p)) H := by rw [decide_eq_false hp]; exact h
theorem s_sl {r : V → Option Int → Option Int → Hp → VK → Prop} {tlo thi : TO} (h : te σ H fun x H1 => tlo σ H1 fun l H2 => thi σ H2 fun u H3 => r x l u H3 Q) : L2.tSl r te tlo thi σ H Q := h
theorem s_nopart {QO : Option Int → Hp → Prop} (h : QO none H) : tNoPart σ H QO := h
theorem s_part {QO : Option Int → Hp → Prop} (h : te σ H fun x H1 => ∃ i, x = .int i ∧ QO (some i) H1) : tPart te σ H QO := h
theorem s_int_ {P : Int → Prop} (h : P a) : ∃ i, V.int a = .int i ∧ P i := ⟨a, rfl, h⟩
theorem s_slL {K : PySem.W.Frag} {p : Addr} {xs : List V} {lo hi : Option Int} (hs : SqL K H p xs) (h : ∀ l, H l = none → Q (.ref l) (upd H l (.lst (cutV xs lo hi)))) : rSlL K (.ref p) lo hi H Q := ⟨p, xs, rfl, hs, h⟩
theorem s_for {wi : TI} {tb : TS} (h : wi σ H fun J H1 => ∃ W : Nat → Nat → L2.St → Hp → Prop, (∃ m, W 0 m σ H1) ∧ ∀ i m σ H, W i m σ H →
  (J.stop i H ∧ D.nx σ H) ∨ (J.go i H ∧ ∃ N : L2.St → Hp → Prop, (∀ σ' H', N σ' H' → ∃ m', m' < m ∧ W (i + 1) m' σ' H') ∧ ∀ x H', J.yld i H x H' → g x σ H' fun σ2 H2 => tb { D with nx := N, ct := N, bk := D.nx } σ2 H2)) : tFor wi g tb D σ H := h
theorem s_ilist {K : PySem.W.Frag} {RI : It → Hp → Prop} (h : te σ H fun x H1 => ∃ a, x = .ref a ∧ (∃ xs, SqL K H1 a xs) ∧ RI (Itl K a) H1) : iList K te σ H RI := h
theorem s_itup {K : PySem.W.Frag} {RI : It → Hp → Prop} (h : te σ H fun x H1 => ∃ a, x = .ref a ∧ (∃ xs, SqT K H1 a xs) ∧ RI (Itt K a) H1) : iTup K te σ H RI := h
theorem s_ref_ {p : Addr} {P : Addr → Prop} (h : P p) : ∃ i, V.ref p = .ref i ∧ P i := ⟨p, rfl, h⟩
theorem s_join (P : L2.St → Hp → Prop) (h1 : ∀ σ' H', P σ' H' → D.nx σ' H') (h2 : ∀ N : L2.St → Hp → Prop, (∀ σ' H', P σ' H' → N σ' H') → tIfS c t u { D with nx := N } σ H) : tIfS c t u D σ H := h2 D.nx h1
theorem s_yes (h : QB true H) : tYes σ H QB := h
theorem s_gtup {K : PySem.W.Frag} {n : Nat} {t : TGs} {p : Addr} {xs : List V} (h1 : SqT K H p xs) (h2 : xs.length = n) (h : t xs σ H QS) : gTup K n t (.ref p) σ H QS := ⟨p, xs, rfl, h1, h2, h⟩
theorem s_gcons {t : TG} {u : TGs} {r : List V} (h : t v σ H fun σ' H' => u r σ' H' QS) : gCons t u (v :: r) σ H QS := ⟨v, r, rfl, h⟩
theorem s_gnil (h : QS σ H) : gNil [] σ H QS := ⟨rfl, h⟩
theorem s_append {p : Addr} {xs : List V} (hp : H p = some (.lst xs)) (hl : xs.length < sizeLine) (h : Q .non (upd H p (.lst (xs ++ [x])))) : rAppend (.ref p) [x] H Q := ⟨p, xs, x, rfl, rfl, hp, hl, h⟩
theorem s_tyL {K : PySem.W.Frag} {p : Addr} {xs : List V} (hp : H p = some (.lst xs)) : tyV K "list" (.ref p) H := Or.inl ⟨rfl, _, Or.inl (Or.inl hp)⟩
theorem s_bm {K : PySem.W.Frag} {T : String} {r : V → List V → Hp → VK → Prop} (h : ta σ H fun x H1 => tyV K T x H1 ∧ tl σ H1 fun xs H2 => r x xs H2 Q) : tBM K T r ta tl σ H Q := h
end
/-! rules by name -/
def rAbs : List V → Hp → VK → Prop := fun xs H Q => ∃ i, xs = [.int i] ∧ Q (.int (if i < 0 then -i else i)) H
def rMax2 : List V → Hp → VK → Prop := fun xs H Q => ∃ i j, xs = [.int i, .int j] ∧ Q (.int (if j > i then j else i)) H
def rMin2 : List V → Hp → VK → Prop := fun xs H Q => ∃ i j, xs = [.int i, .int j] ∧ Q (.int (if j < i then j else i)) H
def rLenS (K : PySem.W.Frag) : List V → Hp → VK → Prop := fun xs H Q => ∃ p ys, xs = [.ref p] ∧ (SqL K H p ys ∨ SqT K H p ys) ∧ Q (.int ys.length) H
def rTupOf (K : PySem.W.Frag) : List V → Hp → VK → Prop := fun xs H Q => ∃ p ys, xs = [.ref p] ∧ ((SqL K H p ys ∧ ∀ l, H l = none → Q (.ref l) (upd H l (.tup ys))) ∨ (SqT K H p ys ∧ Q (.ref p) H))
def rLstOf (K : PySem.W.Frag) : List V → Hp → VK → Prop := fun xs H Q => ∃ p ys, xs = [.ref p] ∧ (SqL K H p ys ∨ SqT K H p ys) ∧ ∀ l, H l = none → Q (.ref l) (upd H l (.lst ys))
def rInt1 : List V → Hp → VK → Prop := fun xs H Q => (∃ i, xs = [.int i] ∧ Q (.int i) H) ∨ ∃ k, xs = [.bl k] ∧ Q (.int (if k then 1 else 0)) H
def rIns : V → List V → Hp → VK → Prop := fun x vs H Q => ∃ (l : Addr) (xs : List V) (i : Int) (y : V), x = .ref l ∧ vs = [.int i, y] ∧ H l = some (.lst xs) ∧ xs.length < sizeLine ∧ 0 ≤ i ∧ i < 2 ^ 63 ∧ Q .non (upd H l (.lst (xs.take i.toNat ++ [y] ++ xs.drop i.toNat)))
section
variable {X : Cx}
theorem mtIns : MtR X "list.insert" rIns := mt_insert
theorem callInt1 : CallR X (.type "int") rInt1 := call_int1
theorem callAbs : CallR X (.builtin "abs") rAbs := call_abs
theorem callMax2 (hc : X.calm = true) : CallR X (.builtin "max") rMax2 := call_max2 hc
theorem callMin2 (hc : X.calm = true) : CallR X (.builtin "min") rMin2 := call_min2 hc
theorem callLen : CallR X (.builtin "len") (rLenS X.K) := call_len_seq
theorem callTup : CallR X (.type "tuple") (rTupOf X.K) := call_tuple_of
theorem callLst : CallR X (.type "list") (rLstOf X.K) := call_list_of
end
section
variable {H : Hp} {Q : VK} {a b : Int} {K : PySem.W.Frag} {p : Addr} {xs : List V}
theorem s_intB {k : Bool} (h : Q (.int (if k then 1 else 0)) H) : rInt1 [.bl k] H Q := .inr ⟨k, rfl, h⟩
theorem s_abs (h : Q (.int (if a < 0 then -a else a)) H) : rAbs [.int a] H Q := ⟨a, rfl, h⟩
theorem s_max (h : Q (.int (if b > a then b else a)) H) : rMax2 [.int a, .int b] H Q := ⟨a, b, rfl, h⟩
theorem s_min (h : Q (.int (if b < a then b else a)) H) : rMin2 [.int a, .int b] H Q := ⟨a, b, rfl, h⟩
theorem s_ins0 {y : V} (hp : H p = some (.lst xs)) (hl : xs.length < sizeLine) (h : Q .non (upd H p (.lst (y :: xs)))) : rIns (.ref p) [.int 0, y] H Q := ⟨p, xs, 0, y, rfl, rfl, hp, hl, by decide, by decide, h⟩
theorem s_lenL (hs : SqL K H p xs) (h : Q (.int xs.length) H) : rLenS K [.ref p] H Q := ⟨p, xs, rfl, .inl hs, h⟩
theorem s_lenT (hs : SqT K H p xs) (h : Q (.int xs.length) H) : rLenS K [.ref p] H Q := ⟨p, xs, rfl, .inr hs, h⟩
theorem s_tupL (hs : SqL K H p xs) (h : ∀ l, H l = none → Q (.ref l) (upd H l (.tup xs))) : rTupOf K [.ref p] H Q := ⟨p, xs, rfl, .inl ⟨hs, h⟩⟩
theorem s_lstL (hs : SqL K H p xs) (h : ∀ l, H l = none → Q (.ref l) (upd H l (.lst xs))) : rLstOf K [.ref p] H Q := ⟨p, xs, rfl, .inl hs, h⟩
theorem s_lstT (hs : SqT K H p xs) (h : ∀ l, H l = none → Q (.ref l) (upd H l (.lst xs))) : rLstOf K [.ref p] H Q := ⟨p, xs, rfl, .inr hs, h⟩
end
/-! heaps -/
theorem same_upd {H : Hp} {p : Addr} {o : HO} (h : H p = none) : Same H (upd H p o) := fun b u e => by rw [upd_ne (ne_of_none e h)]; exact e
theorem same_upd' {H H' : Hp} {p : Addr} {o : HO} (s : Same H H') (h : H p = none) : Same H (upd H' p o) := fun b u e => by rw [upd_ne (ne_of_none e h)]; exact s b u e
theorem same_new {H H' : Hp} {p : Addr} {o : HO} (s : Same H H') (h : H' p = none) : Same H (upd H' p o) := s.trans (same_upd h)
theorem Same.none {H H' : Hp} (s : Same H H') {p : Addr} (h : H' p = none) : H p = none := s.free h
theorem atI0 {α : Type} {xs : List α} {v : α} {n : Int} (k : Nat) (hn : n = k) (h : xs[k]? = some v) : atI xs n = some v := by subst hn; exact atI_nat h
theorem cutV_mem {xs : List V} {lo hi : Option Int} {x : V} (h : x ∈ cutV xs lo hi) : x ∈ xs := List.mem_of_mem_drop (List.mem_of_mem_take h)
theorem get_mem {xs : List V} {i : Nat} {x : V} (h : xs[i]? = some x) : x ∈ xs := List.mem_of_getElem? h
theorem of_mem_ints {ns : List Int} {x : V} (h : x ∈ ns.map V.int) : ∃ c, x = .int c ∧ c ∈ ns := by
  obtain ⟨c, h1, h2⟩ := List.mem_map.mp h
  exact ⟨c, h2.symm, h1⟩
section
variable {H : Hp} {Q : VK} {K : PySem.W.Frag} {p : Addr} {xs : List V}
theorem mkT (hl : xs.length ≤ 1000) (h : ∀ p H', H p = none → H' p = some (.tup xs) → Same H H' → Q (.ref p) H') : MkT Q xs H := ⟨len_le hl, fun p hp => h p _ hp upd_same (same_upd hp)⟩
theorem mkL (hl : xs.length ≤ 1000) (h : ∀ p H', H p = none → H' p = some (.lst xs) → Same H H' → Q (.ref p) H') : MkL Q xs H := ⟨len_le hl, fun p hp => h p _ hp upd_same (same_upd hp)⟩
theorem mkCat {q : Addr} {zs : List V} (h1 : H p = some (.lst xs)) (h2 : H q = some (.lst zs)) (hl : xs.length + zs.length ≤ 1000) (h : ∀ l H', H l = none → H' l = some (.lst (xs ++ zs)) → Same H H' → Q (.ref l) H') : rCat (.ref p) (.ref q) H Q := ⟨p, q, xs, zs, rfl, rfl, h1, h2, Nat.le_trans hl (Nat.le_of_lt (small1000 (Nat.le_refl _))), fun l hl => h l _ hl upd_same (same_upd hl)⟩
theorem mkSlT {lo hi : Option Int} (hs : SqT K H p xs) (hn : ¬ (HT.sIx xs.length 0 lo = 0 ∧ HT.sIx xs.length xs.length hi = xs.length)) (h : ∀ l H', H l = none → H' l = some (.tup (cutV xs lo hi)) → Same H H' → Q (.ref l) H') : rSlT K (.ref p) lo hi H Q := ⟨p, xs, rfl, hs, hn, fun l hl => h l _ hl upd_same (same_upd hl)⟩
theorem mkSl {lo hi : Option Int} (hs : SqL K H p xs) (h : ∀ l H', H l = none → H' l = some (.lst (cutV xs lo hi)) → Same H H' → Q (.ref l) H') : rSlL K (.ref p) lo hi H Q := s_slL hs fun l hl => h l _ hl upd_same (same_upd hl)
end
theorem s_eqD {K : PySem.W.Frag} {H : Hp} {Q : VK} {x y : V} (d e : PyData) (hd : Dp K H x d) (he : Dp K H y e) (h1 : SeqAt.shaped d = true) (h2 : SeqAt.shaped e = true) (h : Q (.bl (PyData.eqv d e)) H) : rEqD K x y H Q := ⟨d, e, hd, he, h1, h2, h⟩
theorem s_neD {K : PySem.W.Frag} {H : Hp} {Q : VK} {x y : V} (d e : PyData) (hd : Dp K H x d) (he : Dp K H y e) (h1 : SeqAt.shaped d = true) (h2 : SeqAt.shaped e = true) (h : Q (.bl (!PyData.eqv d e)) H) : rNeD K x y H Q := ⟨d, e, hd, he, h1, h2, h⟩
theorem dp_tup1 {K : PySem.W.Frag} {H : Hp} {p : Addr} {a : Int} (h : H p = some (.tup [.int a])) : Dp K H (.ref p) (.tuple [.int a]) := .tup (SqT.of h) (.cons (.int a) .nil)
theorem dp_tup2 {K : PySem.W.Frag} {H : Hp} {p : Addr} {a b : Int} (h : H p = some (.tup [.int a, .int b])) : Dp K H (.ref p) (.tuple [.int a, .int b]) := .tup (SqT.of h) (.cons (.int a) (.cons (.int b) .nil))
theorem atI_neg1 {α : Type} {xs : List α} {v : α} (h : xs.getLast? = some v) : atI xs (-1) = some v := by
  rcases List.eq_nil_or_concat xs with e | ⟨ys, y, e⟩
  · subst e; simp at h
  · rw [List.concat_eq_append] at e
    subst e
    rw [List.getLast?_concat] at h
    cases h
    exact atI_last ys v
/-! all stands but what lies at one place -/
def SameB (p : Addr) (H H' : Hp) : Prop := ∀ b o, b ≠ p → H b = some o → H' b = some o
theorem SameB.refl (p : Addr) (H : Hp) : SameB p H H := fun _ _ _ h => h
theorem SameB.trans {p : Addr} {H H1 H2 : Hp} (a : SameB p H H1) (b : SameB p H1 H2) : SameB p H H2 := fun c o n h => b c o n (a c o n h)
theorem SameB.of {p : Addr} {H H1 : Hp} (a : Same H H1) : SameB p H H1 := fun c o _ h => a c o h
theorem SameB.put {p : Addr} {H : Hp} {o : HO} : SameB p H (upd H p o) := fun c u n h => by rw [upd_ne n]; exact h
theorem SameB.same {p : Addr} {H H1 H2 : Hp} (n : H p = none) (a : SameB p H1 H2) (s : Same H H1) : Same H H2 := fun c o h => a c o (ne_of_none h n) (s c o h)
theorem SameB.updn {p l : Addr} {H H' : Hp} {o : HO} (h : SameB p H H') (n : H l = none) : SameB p H (upd H' l o) := fun b u hb e => by rw [upd_ne (ne_of_none e n)]; exact h b u hb e
theorem ixN_nat {n d : Nat} (h : d < n) : ixN n (d : Int) = some d := by
  unfold ixN
  rw [if_pos (by omega), if_pos (by omega)]; simp
/-! ranges -/
section
variable {H : Hp} {σ : L2.St} {ta : TA} {RI : It → Hp → Prop}
def RngQ1 (RI : It → Hp → Prop) (vs : List V) (H : Hp) : Prop := ∃ j : Int, vs = [.int j] ∧ -(2 ^ 62) ≤ j ∧ j < 2 ^ 62 ∧ RI (Itr 0 j.toNat) H
def RngQ2 (RI : It → Hp → Prop) (vs : List V) (H : Hp) : Prop := ∃ i j : Int, vs = [.int i, .int j] ∧ (-(2 ^ 62) ≤ i ∧ i < 2 ^ 62 ∧ -(2 ^ 62) ≤ j ∧ j < 2 ^ 62) ∧ RI (Itr i (j - i).toNat) H
theorem s_rng1 (h : ta σ H fun vs H1 => RngQ1 RI vs H1) : iRng1 ta σ H RI := h
theorem s_rng2 (h : ta σ H fun vs H1 => RngQ2 RI vs H1) : iRng2 ta σ H RI := h
theorem mkR1 {j : Int} (n : Nat) (e : j.toNat = n) (h1 : -(2 ^ 62) ≤ j) (h2 : j < 2 ^ 62) (h : RI (Itr 0 n) H) : RngQ1 RI [.int j] H := ⟨j, rfl, h1, h2, by rw [e]; exact h⟩
theorem mkR2 {i j : Int} (n : Nat) (e : (j - i).toNat = n) (h1 : -(2 ^ 62) ≤ i ∧ i < 2 ^ 62 ∧ -(2 ^ 62) ≤ j ∧ j < 2 ^ 62) (h : RI (Itr i n) H) : RngQ2 RI [.int i, .int j] H := ⟨i, j, rfl, h1, by rw [e]; exact h⟩
end
section
variable {to ti : TE} {t : TSet} {v : V} {σ : L2.St} {H : Hp} {QS : L2.St → Hp → Prop} {p : Addr} {xs : List V} {k : Int} {QH : Hp → Prop}
theorem s_gsub (h : to σ H fun o H1 => ti σ H1 fun i H2 => t o i v H2 fun H3 => QS σ H3) : gSub to ti t v σ H QS := h
theorem s_setL (j : Nat) (hp : H p = some (.lst xs)) (hj : ixN xs.length k = some j) (h : QH (upd H p (.lst (xs.set j v)))) : rSetL (.ref p) (.int k) v H QH := ⟨p, xs, k, j, rfl, rfl, hp, hj, h⟩
end
/-! dicts -/
section
variable {H : Hp} {Q : VK} {p : Addr} {kvs : List (Key × V)} {k : Key} {v : V} {td ty tv : TE} {σ : L2.St} {D : Ends}
def DGetQ (Q : VK) (x y : V) (H : Hp) : Prop := ∃ a v, x = .ref a ∧ DGet H a y (some v) ∧ Q v H
theorem s_dget (h : td σ H fun x H1 => ty σ H1 fun y H2 => DGetQ Q x y H2) : tDGet td ty σ H Q := h
theorem s_dgetS {x : Str} (hd : H p = some (.dK kvs)) (hv : valV kvs (.inr x) = some v) (h : Q v H) : DGetQ Q (.ref p) (.str x) H := ⟨p, v, rfl, by rw [← hv]; exact DGet.k (k := .inr x) hd, h⟩
theorem s_dgetI {i : Int} (hd : H p = some (.dK kvs)) (hv : valV kvs (.inl i) = some v) (h : Q v H) : DGetQ Q (.ref p) (.int i) H := ⟨p, v, rfl, by rw [← hv]; exact DGet.k (k := .inl i) hd, h⟩
def DispQ (Q : VK) (p : Addr) (ps : List (V × V)) (H2 : Hp) : Prop := H2 p = some (.dK []) ∧ ∃ kvs : List (Key × V), ps = kvs.map (fun kv => (kV kv.1, kv.2)) ∧ kvs.length ≤ 15 ∧ Q (.ref p) (upd H2 p (.dK (mergeK [] kvs)))
theorem s_disp {trs : List (TE × TE)} (h : ∀ p H1, H p = none → H1 p = some (.dK []) → Same H H1 → tPairs trs σ H1 fun ps H2 => DispQ Q p ps H2) : tDisp trs σ H Q := fun p hp => h p _ hp upd_same (same_upd hp)
theorem s_pn {QP : List (V × V) → Hp → Prop} (h : QP [] H) : tPairs [] σ H QP := h
theorem s_pc {tk : TE} {r : List (TE × TE)} {QP : List (V × V) → Hp → Prop} (h : tk σ H fun x H1 => tv σ H1 fun y H2 => tPairs r σ H2 fun ps H3 => QP ((x, y) :: ps) H3) : tPairs ((tk, tv) :: r) σ H QP := h
theorem mkDisp {ps : List (V × V)} (kvs : List (Key × V)) (hd : H p = some (.dK [])) (e : ps = kvs.map (fun kv => (kV kv.1, kv.2))) (hl : kvs.length ≤ 15) (h : ∀ H', H' p = some (.dK (mergeK [] kvs)) → (∀ H0, H0 p = none → Same H0 H → Same H0 H') → Q (.ref p) H') : DispQ Q p ps H :=
  ⟨hd, kvs, e, hl, h _ upd_same fun H0 n s => same_upd' s n⟩
def DPutQ (P : Hp → Prop) (x y v : V) (H3 : Hp) : Prop := ∃ a H4, x = .ref a ∧ DPut H3 a y v H4 ∧ P H4
theorem s_dput (h : tv σ H fun v H1 => td σ H1 fun x H2 => ty σ H2 fun y H3 => DPutQ (D.nx σ) x y v H3) : sDPut td ty tv D σ H := h
theorem s_dputS {P : Hp → Prop} {x : Str} (hd : H p = some (.dK kvs)) (hl : kvs.length < sizeLine) (h : P (upd H p (.dK (putK kvs (.inr x) v)))) : DPutQ P (.ref p) (.str x) v H := ⟨p, _, rfl, DPut.k (k := .inr x) hd hl, h⟩
theorem s_dputI {P : Hp → Prop} {i : Int} (hd : H p = some (.dK kvs)) (hl : kvs.length < sizeLine) (h : P (upd H p (.dK (putK kvs (.inl i) v)))) : DPutQ P (.ref p) (.int i) v H := ⟨p, _, rfl, DPut.k (k := .inl i) hd hl, h⟩
end
mutual
theorem eqv_refl : ∀ d : PyData, PyData.canLay0 d = true → PyData.eqv d d = true
  | .none, _ => by simp [PyData.eqv]
  | .bool b, _ => by simp [PyData.eqv]
  | .int i, _ => by simp [PyData.eqv]
  | .str x, _ => by simp [PyData.eqv]
  | .list xs, h => by simp only [PyData.eqv]; exact eqv_refls xs (by simpa [PyData.canLay0] using h)
  | .tuple xs, h => by simp only [PyData.eqv]; exact eqv_refls xs (by simpa [PyData.canLay0] using h)
  | .dict _, h => by simp [PyData.canLay0] at h
theorem eqv_refls : ∀ ds : List PyData, PyData.canLayAll0 ds = true → PyData.eqvAll ds ds = true
  | [], _ => by simp [PyData.eqvAll]
  | d :: ds, h => by
    simp only [PyData.canLayAll0, Bool.and_eq_true] at h
    simp only [PyData.eqvAll, Bool.and_eq_true]
    exact ⟨eqv_refl d h.1, eqv_refls ds h.2⟩
end
theorem layAll {ds : List PyData} (h : ∀ d ∈ ds, PyData.canLay0 d = true) : PyData.canLayAll0 ds = true := by
  induction ds with
  | nil => simp [PyData.canLayAll0]
  | cons d ds ih =>
    simp only [PyData.canLayAll0, Bool.and_eq_true]
    exact ⟨h d (by simp), ih fun e he => h e (by simp [he])⟩
theorem depAll {ds : List PyData} {n : Nat} (h : ∀ d ∈ ds, PyData.depth d ≤ n) : PyData.depthAll ds ≤ n := by
  induction ds with
  | nil => simp [PyData.depthAll]
  | cons d ds ih =>
    simp only [PyData.depthAll]
    exact Nat.max_le.mpr ⟨h d (by simp), ih fun e he => h e (by simp [he])⟩
theorem shapedL {ds : List PyData} (h : ∀ d ∈ ds, PyData.canLay0 d = true ∧ PyData.depth d ≤ 63) : SeqAt.shaped (.list ds) = true := by
  unfold SeqAt.shaped
  simp only [PyData.canLay0, PyData.depth, Bool.and_eq_true]
  exact ⟨layAll fun d hd => (h d hd).1, decide_eq_true (Nat.succ_le_succ (depAll fun d hd => (h d hd).2))⟩
theorem shapedT {ds : List PyData} (h : ∀ d ∈ ds, PyData.canLay0 d = true ∧ PyData.depth d ≤ 63) : SeqAt.shaped (.tuple ds) = true := by
  unfold SeqAt.shaped
  simp only [PyData.canLay0, PyData.depth, Bool.and_eq_true]
  exact ⟨layAll fun d hd => (h d hd).1, decide_eq_true (Nat.succ_le_succ (depAll fun d hd => (h d hd).2))⟩
theorem eqv_shaped {d : PyData} (h : SeqAt.shaped d = true) : PyData.eqv d d = true := eqv_refl d (SeqAt.canLay_of_shaped h)
theorem in_ints (a : Int) (ns : List Int) : inV (.int a) (ns.map V.int) = decide (a ∈ ns) := by
  unfold inV
  induction ns with
  | nil => simp
  | cons n ns ih =>
    rw [List.map_cons, List.any_cons, ih]
    simp only [eqV, List.mem_cons]
    by_cases h : a = n
    · subst h; simp
    · simp [h, Ne.symm h]
theorem flat_ints (ns : List Int) : (ns.map V.int).all flatV = true := by simp [flatV]
theorem s_inL {K : PySem.W.Frag} {H : Hp} {Q : VK} {p : Addr} {a : Int} {ns : List Int} (hp : H p = some (.lst (ns.map V.int))) (h : Q (.bl (decide (a ∈ ns))) H) : rIn K false (.int a) (.ref p) H Q :=
  ⟨p, ns.map V.int, rfl, .inl (SqL.of hp), rfl, flat_ints ns, by rw [if_neg Bool.false_ne_true, in_ints]; exact h⟩
theorem s_notInL {K : PySem.W.Frag} {H : Hp} {Q : VK} {p : Addr} {a : Int} {ns : List Int} (hp : H p = some (.lst (ns.map V.int))) (h : Q (.bl (!decide (a ∈ ns))) H) : rIn K true (.int a) (.ref p) H Q :=
  ⟨p, ns.map V.int, rfl, .inl (SqL.of hp), rfl, flat_ints ns, by rw [if_pos rfl, in_ints]; exact h⟩
theorem paired_mono {α β : Type} {F G : α → β → Prop} (h : ∀ a b, F a b → G a b) : ∀ {xs : List α} {ys : List β}, Paired F xs ys → Paired G xs ys
  | _, _, .nil => .nil
  | _, _, .cons f r => .cons (h _ _ f) (paired_mono h r)
theorem paired_take {α β : Type} {F : α → β → Prop} : ∀ {xs : List α} {ys : List β} (n : Nat), Paired F xs ys → Paired F (xs.take n) (ys.take n)
  | _, _, 0, _ => by simp; exact .nil
  | _, _, _ + 1, .nil => .nil
  | _, _, n + 1, .cons f r => .cons f (paired_take n r)
theorem s_isiT2 {K : PySem.W.Frag} {H : Hp} {Q : VK} {x : V} {tp : Addr} {a b1 b2 : String} {r1 r2 : Bool} (ht : H tp = some (.tup [.ty b1, .ty b2])) (tx : TyOf K H x (.type a)) (k1 : kitB a b1 = some r1) (k2 : kitB a b2 = some r2) (h : Q (.bl (r1 || r2)) H) : rIsiT K [x, .ref tp] H Q :=
  ⟨x, tp, [.ty b1, .ty b2], .type a, [.type b1, .type b2], r1 || r2, rfl, ht, .cons (.ty b1) (.cons (.ty b2) .nil), .base tx,
    kitAny_cons (kit_ty k1) (fun e => kitAny_cons (kit_ty k2) (fun e2 => by rw [e, e2]; exact kitAny_nil) (fun e2 => by rw [e2]; simp)) (fun e => by rw [e]; rfl), h⟩
theorem s_isiT2F {K : PySem.W.Frag} {H : Hp} {Q : VK} {x : V} {tp : Addr} {a b1 b2 : String} (ht : H tp = some (.tup [.ty b1, .ty b2])) (tx : TyOf K H x (.type a)) (k1 : kitB a b1 = some false) (k2 : kitB a b2 = some false) (h : Q (.bl false) H) : rIsiT K [x, .ref tp] H Q := s_isiT2 ht tx k1 k2 h
theorem kb_nl : kitB "NoneType" "list" = some false := by decide +kernel
theorem kb_nt : kitB "NoneType" "tuple" = some false := by decide +kernel
theorem kb_nb : kitB "NoneType" "bool" = some false := by decide +kernel
theorem kb_il : kitB "int" "list" = some false := by decide +kernel
theorem kb_it : kitB "int" "tuple" = some false := by decide +kernel
theorem kb_bl : kitB "bool" "list" = some false := by decide +kernel
theorem kb_bt : kitB "bool" "tuple" = some false := by decide +kernel
theorem lookup1 {f : Str} {v : V} : List.lookup f [(f, v)] = some v := by simp [List.lookup]
theorem s_xf {a C d : Addr} {f : Str} {v : V} {i : Nat} {σ : L2.St} {H : Hp} {Q : VK} (e : σ[i]? = some (some (.ref a))) (hx : H d = some (.xd [(f, v)])) (h : Q v H) : tXf a (.ref C) (some d) C f (tVar i) σ H Q := ⟨_, e, rfl, rfl, d, _, v, rfl, hx, lookup1, h⟩
/-- a list (or tuple) of tuples -/
abbrev TupsIn (H : Hp) : List V → List (List V) → Prop := Paired fun (x : V) (r : List V) => ∃ t, x = .ref t ∧ H t = some (.tup r)
theorem TupsIn.same {H H' : Hp} (s : Same H H') : ∀ {xs : List V} {rs : List (List V)}, TupsIn H xs rs → TupsIn H' xs rs
  | _, _, .nil => .nil
  | _, _, .cons ⟨t, e, h⟩ r => .cons ⟨t, e, s _ _ h⟩ (TupsIn.same s r)
theorem TupsIn.upd {H : Hp} {p : Addr} {o : HO} {zs : List V} (hp : H p = some (.lst zs)) : ∀ {xs : List V} {rs : List (List V)}, TupsIn H xs rs → TupsIn (L2.upd H p o) xs rs
  | _, _, .nil => .nil
  | _, _, .cons ⟨t, e, h⟩ r => .cons ⟨t, e, by rw [upd_ne (fun z => by rw [z, hp] at h; cases h)]; exact h⟩ (TupsIn.upd hp r)
theorem paired_snoc {α β : Type} {F : α → β → Prop} {x : α} {y : β} : ∀ {xs : List α} {ys : List β}, Paired F xs ys → F x y → Paired F (xs ++ [x]) (ys ++ [y])
  | _, _, .nil, f => .cons f .nil
  | _, _, .cons a r, f => .cons a (paired_snoc r f)
theorem paired_set {α β : Type} {F : α → β → Prop} {x : α} {y : β} : ∀ {xs : List α} {ys : List β} (j : Nat), Paired F xs ys → F x y → Paired F (xs.set j x) (ys.set j y)
  | _, _, _, .nil, _ => .nil
  | _, _, 0, .cons _ r, f => .cons f r
  | _, _, j + 1, .cons a r, f => .cons a (paired_set j r f)
theorem TupsIn.app {H H1 : Hp} {l t : Addr} {xs r : List V} {rs : List (List V)} (hl : H l = some (.lst xs)) (ht : TupsIn H xs rs) (s : Same H H1) (nt : H t = none) (et : H1 t = some (.tup r)) :
    TupsIn (L2.upd H1 l (.lst (xs ++ [.ref t]))) (xs ++ [.ref t]) (rs ++ [r]) :=
  paired_snoc (TupsIn.upd (s _ _ hl) (ht.same s)) ⟨t, rfl, by rw [upd_ne (ne_of_none hl nt).symm]; exact et⟩
theorem TupsIn.put {H H1 : Hp} {l t : Addr} {xs r : List V} {rs : List (List V)} (j : Nat) (hl : H l = some (.lst xs)) (ht : TupsIn H xs rs) (s : Same H H1) (nt : H t = none) (et : H1 t = some (.tup r)) :
    TupsIn (L2.upd H1 l (.lst (xs.set j (.ref t)))) (xs.set j (.ref t)) (rs.set j r) :=
  paired_set j (TupsIn.upd (s _ _ hl) (ht.same s)) ⟨t, rfl, by rw [upd_ne (ne_of_none hl nt).symm]; exact et⟩
theorem take_more {α : Type} {xs : List α} {i : Nat} {x : α} (h : xs[i]? = some x) : xs.take (i + 1) = xs.take i ++ [x] := by
  rw [List.take_succ, h]; rfl
theorem pget {α β : Type} {F : α → β → Prop} : ∀ {xs : List α} {ys : List β} {i : Nat} {x : α}, Paired F xs ys → xs[i]? = some x → ∃ y, ys[i]? = some y ∧ F x y
  | _, _, _, _, .nil, e => by simp at e
  | _, _, 0, _, .cons f _, e => by simp at e; subst e; exact ⟨_, rfl, f⟩
  | _, _, i + 1, x, .cons _ r, e => by
    obtain ⟨y, h1, h2⟩ := pget (i := i) r (by simpa using e)
    exact ⟨y, by simpa using h1, h2⟩
theorem pget' {α β : Type} {F : α → β → Prop} : ∀ {xs : List α} {ys : List β} {i : Nat} {y : β}, Paired F xs ys → ys[i]? = some y → ∃ x, xs[i]? = some x ∧ F x y
  | _, _, _, _, .nil, e => by simp at e
  | _, _, 0, _, .cons f _, e => by simp at e; subst e; exact ⟨_, rfl, f⟩
  | _, _, i + 1, x, .cons _ r, e => by
    obtain ⟨y, h1, h2⟩ := pget' (i := i) r (by simpa using e)
    exact ⟨y, by simpa using h1, h2⟩
theorem s_isN {H : Hp} {Q : VK} (h : Q (.bl true) H) : L2.rIsN .non .non H Q := ⟨rfl, by rw [decide_eq_true rfl]; exact h⟩
theorem s_isNi {H : Hp} {Q : VK} {i : Int} (h : Q (.bl false) H) : L2.rIsN (.int i) .non H Q := ⟨rfl, by rw [decide_eq_false (by intro z; cases z)]; exact h⟩
def RgQ (Q : VK) (x y : V) (H : Hp) : Prop := ∃ i j, x = .int i ∧ y = .int j ∧ RgOk i j ∧ ∀ q, H q = none → Q (.ref q) (upd H q (.lst (rgV i j)))
theorem s_bm0 {K : PySem.W.Frag} {T : String} {r : V → List V → Hp → VK → Prop} {ta : TE} {σ : L2.St} {H : Hp} {Q : VK} (h : ta σ H fun x H1 => tyV K T x H1 ∧ r x [] H1 Q) : tBM0 K T r ta σ H Q := h
theorem s_lrg2 {ta tb : TE} {σ : L2.St} {H : Hp} {Q : VK} (h : ta σ H fun x H1 => tb σ H1 fun y H2 => RgQ Q x y H2) : tLstRg (tRg2 ta tb) σ H Q := h
theorem s_lc {wi : TI} {g : TG} {tt : TT} {te : TE} {vs : List Nat} {σ : L2.St} {H : Hp} {Q : VK} (h : wi σ H fun J H1 => tLc (fun _ _ R => R J H1) g tt te vs σ H1 Q) : tLc wi g tt te vs σ H Q := h
theorem call_isiK (K : PySem.W.Frag) {X : Cx} (h : X.K = K) : CallR X (.builtin "isinstance") (rIsi K) := h ▸ call_isi
theorem ix_seqK (K : PySem.W.Frag) {X : Cx} (h : X.K = K) : IxR X (rIx K) := h ▸ ix_seq
theorem s_isNb {H : Hp} {Q : VK} {i : Bool} (h : Q (.bl false) H) : L2.rIsN (.bl i) .non H Q := ⟨rfl, by rw [decide_eq_false (by intro z; cases z)]; exact h⟩
theorem s_isNr {H : Hp} {Q : VK} {i : Addr} (h : Q (.bl false) H) : L2.rIsN (.ref i) .non H Q := ⟨rfl, by rw [decide_eq_false (by intro z; cases z)]; exact h⟩
theorem s_notN {H : Hp} {Q : VK} (h : Q (.bl false) H) : L2.rNotN .non .non H Q := ⟨rfl, by rw [decide_eq_true rfl]; exact h⟩
theorem s_notNi {H : Hp} {Q : VK} {i : Int} (h : Q (.bl true) H) : L2.rNotN (.int i) .non H Q := ⟨rfl, by rw [decide_eq_false (by intro z; cases z)]; exact h⟩
theorem s_notNr {H : Hp} {Q : VK} {i : Addr} (h : Q (.bl true) H) : L2.rNotN (.ref i) .non H Q := ⟨rfl, by rw [decide_eq_false (by intro z; cases z)]; exact h⟩
theorem fn_or {P : Program} {w : World} {K : PySem.W.Frag} {mg : Str → Option Value} {base : Heap} {CX : CXT} {k : Nat} {f : Addr} {fd : FuncData} {ps : List Str} {sp sp1 sp2 : Sp} (F1 : FnOk P w K mg base CX k f fd ps sp1) (F2 : FnOk P w K mg base CX k f fd ps sp2)
    (h : ∀ vs H Q E, sp vs H Q E → sp1 vs H Q E ∨ sp2 vs H Q E) : FnOk P w K mg base CX k f fd ps sp :=
  ⟨fun vs H Q E q => (h vs H Q E q).elim (F1.len vs H Q E) (F2.len vs H Q E), fun A outer s H args us vs Q E hr he hb hv hs => (h vs H Q E hs).elim (F1.run A outer s H args us vs Q E hr he hb hv) (F2.run A outer s H args us vs Q E hr he hb hv)⟩
/-! loops -/
section
variable {c : TT} {tb : TS} {D : Ends} {σ : L2.St} {H : Hp}
/-- the int in a slot -/
def iv (σ : L2.St) (i : Nat) : Int := match σ[i]? with
  | some (some (V.int r)) => r
  | _ => 0
def WW (Pv : L2.St → Hp → Prop) (μ : L2.St → Hp → Nat) : Nat → L2.St → Hp → Prop := fun m σ H => m = μ σ H ∧ Pv σ H
theorem s_while (Pv : L2.St → Hp → Prop) (μ : L2.St → Hp → Nat) (h0 : Pv σ H)
    (hs : ∀ σ H, Pv σ H → c σ H fun b H1 => if b = true then ∃ N : L2.St → Hp → Prop, (∀ σ' H', N σ' H' → ∃ m', m' < μ σ H ∧ WW Pv μ m' σ' H') ∧ tb { D with nx := N, ct := N, bk := D.nx } σ H1 else D.nx σ H1) : tWhile c tb D σ H :=
  ⟨WW Pv μ, ⟨_, rfl, h0⟩, fun m σ H ⟨e, p⟩ => by subst e; exact hs σ H p⟩
theorem s_turn {Pv : L2.St → Hp → Prop} {μ : L2.St → Hp → Nat} {m : Nat} (h : tb { D with nx := fun σ' H' => Pv σ' H' ∧ μ σ' H' < m, ct := fun σ' H' => Pv σ' H' ∧ μ σ' H' < m, bk := D.nx } σ H) :
    ∃ N : L2.St → Hp → Prop, (∀ σ' H', N σ' H' → ∃ m', m' < m ∧ WW Pv μ m' σ' H') ∧ tb { D with nx := N, ct := N, bk := D.nx } σ H := ⟨_, fun σ' H' p => ⟨_, p.2, rfl, p.1⟩, h⟩
end
/-! numbers -/
def CDivF (_ j : Int) : Prop := j ≠ 0 ∧ j.natAbs.log2 < 9000
section
variable {X : Cx}
theorem op_divF : OpR X (binaryOp .FloorDiv) (rI CDivF fun i j => .int (i.fdiv j)) := opI fun _ _ _ _ _ _ _ hc q => floordiv_int hc.1 q (.inl (PyProof.noPylong_of_log2 hc.2))
end
theorem divW {a j : Int} (h : 0 < j) (h2 : j.natAbs < 2 ^ 2000) : CDivW a j := wide_div h h2 (by decide) (by decide)
theorem divF {a j : Int} (h : j ≠ 0) (h2 : j.natAbs < 2 ^ 2000) : CDivF a j := ⟨h, Nat.lt_of_lt_of_le (PySem.Flt.log2_lt_of (by decide) h2) (by decide)⟩
theorem mulW {a b : Int} (h1 : a.natAbs < 2 ^ 2000) (h2 : b.natAbs < 2 ^ 2000) : CMulW a b := wide_mul h1 h2 (by decide) (by decide) (by decide)
/-- a law over a head by facts: its last step, the script's sizes told -/
theorem walk_ofEB {l : PySem.W.OpenLaw} {n k : Nat} {qv : Program} {ls : List Str} {XP : (Str → Option Value) → Heap → Prop} {YP : World → Heap → Prop} {dr : DefRec} {CX : World → CXT} {prm : Str}
    (hmost : l.most = some n) (hline : n ≤ sizeLine) (hnod : dr.params.defaults = []) (room : Room k callerA)
    (F : ∀ (w : World) (mg : Str → Option Value) (fa : Addr) (hp : Heap), YP w hp → hp.Ns mainGlobals mg → mg dr.name = some (.ref fa) →
      ∃ (Kf : PySem.W.Frag) (fdt : FuncData) (sp : Sp), Kf.In hp ∧ (∀ (s : Shared) (u : Value), BindsTo s fdt ⟨[u], []⟩ [(prm, u)]) ∧
        (∀ (H : Hp) (a : Addr) (ns : List Int), ns.length ≤ n → (∀ z ∈ ns, Builtin.Int.intBits z ≤ 1048576) → Only H → SqL Kf H a (ns.map V.int) → sp [.ref a] H (fun v _ => v = .bl true) fun _ _ _ => False) ∧
        ∀ base : Heap, Kf.In base → base.Ns mainGlobals mg → FnOk l.prog w Kf mg base (CX w) k fa fdt [prm] sp)
    (none_out : ∀ (w : World) (H : Hp) (s : Shared) (e : Value) (s' : Shared), CX w [] H s (fun _ _ _ => False) e s' → False) :
    PySem.W.WalkO qv ls XP YP l.row.toRowW dr [] (fun f vs => PySem.call f vs) := by
  refine Att.attach_callB hmost hnod fun w s₀ s₁ mg _ fa _ _ _ _ a _ ns G Y _ _ _ gN ob1 xis len bits run => ?_
  obtain ⟨Kf, fdt, sp, kin, bnd, last, fok⟩ := F w mg fa _ Y G.T.g gN
  exact law_call kin G.T.g G.T.b G.T.builtins G.T.nolimit run ob1 xis (Nat.le_trans len hline) room fok bnd (fun H only sq => last H a ns len bits only sq) fun H e s' => none_out w H s₁ e s'
theorem cx0_no {P : Program} (w : World) (H : Hp) (s : Shared) (e : Value) (s' : Shared) (h : CX0 [] H s (fun _ _ _ => False) e s') : False := h
/-! what the head tells: facts as tests of the written part, defs at any address -/
abbrev FB := PySem.W.Frag → Bool
def toldR (fb : List FB) (fn : List He5.DefA) (K : PySem.W.Frag) : He.AlD := ((fb.all fun t => t K) && (fn.all fun e => e.ok K), fn.map fun e => He5.fnA K (e.at_ K))
def dueR (fn : List He5.DefA) : He.AlD := (true, fn.map He5.DefA.val)
def Told (fb : List FB) (fn : List He5.DefA) (K : PySem.W.Frag) : Prop := toldR fb fn K = dueR fn
def toldG (n : Nat) (fb : List FB) (fn : List He5.DefA) (g : Addr → Option Obj) : He.AlD := toldR fb fn (He.frG g (He5.asA g n))
def hookR (n : Nat) (fb : List FB) (fn : List He5.DefA) : PySem.W.Hook where
  α := He.AlD
  obs := fun st => toldG n fb fn st.heap.get?
  val := fun _ => dueR fn
  says := fun _ hp => ∃ Kf : PySem.W.Frag, Kf.In hp ∧ Told fb fn Kf
  of := fun _ _ eq => ⟨_, He.frG_in, eq⟩
  keeps := fun _ _ _ ⟨Kf, hin, tl⟩ kp => ⟨Kf, PySem.W.Frag.In.keeps hin kp, tl⟩
theorem toldG_eq {n : Nat} {fb : List FB} {fn : List He5.DefA} {g : Addr → Option Obj} {st : Shared} (h : ∀ a, g a = st.heap.get? a) : toldG n fb fn g = (hookR n fb fn).obs st := by
  have eg : g = st.heap.get? := funext h
  rw [eg] <;> rfl
theorem Told.fact {fb : List FB} {fn : List He5.DefA} {K : PySem.W.Frag} (tl : Told fb fn K) (i : Nat) {t : FB} (h : fb[i]? = some t := by rfl) : t K = true := by
  have e0 : ((fb.all fun t => t K) && (fn.all fun e => e.ok K)) = true := congrArg Prod.fst tl
  exact List.all_eq_true.mp (Bool.and_eq_true_iff.mp e0).1 t (List.mem_of_getElem? h)
theorem Told.dfn {fb : List FB} {fn : List He5.DefA} {K : PySem.W.Frag} (tl : Told fb fn K) (i : Nat) {e : He5.DefA} (h : fn[i]? = some e := by rfl) : ∃ fd, FunD K e.name e.qual e.params e.body e.scope (e.dvs K) (e.kws K) (e.at_ K) fd := by
  have e0 : ((fb.all fun t => t K) && (fn.all fun e => e.ok K)) = true := congrArg Prod.fst tl
  have e1 : fn.map (fun e => He5.fnA K (e.at_ K)) = fn.map He5.DefA.val := congrArg Prod.snd tl
  have e2 := congrArg (fun l => l[i]?) e1
  simp only [List.getElem?_map, h, Option.map_some] at e2
  exact He5.DefA.funD (Option.some.inj e2) (List.all_eq_true.mp (Bool.and_eq_true_iff.mp e0).2 e (List.mem_of_getElem? h))
/-! own exception classes whose __init__ calls their base's and keeps one field -/
def oexB (C : Addr) : FB := fun K => (match K.lookup C with
  | some ⟨.type tn, _, .cls cd, sl⟩ => (match cd.mro, sl.toList with
    | .ref C' :: bm, [_, _, _, _, some (.builtin n), _] => decide (tn = "type") && (C' == C && (decide (n = "ValueError.__new__") && (!cd.hasDel && (cd.hasDict && PySem.HandSPX.refsVE bm))))
    | _, _ => false)
  | _ => false) && (decide (PySem.W.findIn K (.ref C) "__setattr__" = some (some (.builtin "object.__setattr__"))) && (decide (PySem.W.subIn K (.ref C) (.type "BaseException") = some true) && (decide (PySem.W.typeIn K (.ref C) = some (.type "type")) && PySem.W.keepIn K (.ref C))))
theorem oex_of {K : PySem.W.Frag} {C : Addr} (h : oexB C K = true) : OexC K C := by
  unfold oexB at h
  simp only [Bool.and_eq_true, decide_eq_true_eq] at h
  obtain ⟨h1, h2, h3, h4, h5⟩ := h
  refine ⟨?_, h2, h3, h4, h5⟩
  split at h1
  · rename_i tn dd cd sl ho
    split at h1
    · rename_i C' bm k0 k1 k2 k3 n k5 hm hs
      simp only [Bool.and_eq_true, beq_iff_eq, Bool.not_eq_true', decide_eq_true_eq] at h1
      obtain ⟨rfl, rfl, rfl, hdel, hdct, hr⟩ := h1
      obtain ⟨nm, bs, mro, ns, qn, hd, sn, sub, ab, col, del⟩ := cd
      dsimp only at hm hdel hdct
      subst hm hdel hdct
      have hsl : sl = #[k0, k1, k2, k3, some (.builtin "ValueError.__new__"), k5] := by
        obtain ⟨l⟩ := sl
        simp only at hs
        rw [hs]
      subst hsl
      exact ⟨nm, qn, ns, bs, bm, sn, sub, ab, col, dd, k0, k1, k2, k3, k5, ho, hr⟩
    · cases h1
  · cases h1
/-- the base P, whose __init__ is called through it -/
def baseB (C : Addr) : FB := fun K => PySem.W.readsIn K C (.type "type") && (decide (PySem.W.specialIn K (.ref C) "__getattribute__" = some (some (.builtin "type.__getattribute__"))) && (match PySem.W.findCls K (.ref C) (.type "type") "__init__" with
  | some (.val (.builtin n)) => decide (n = "ValueError.__init__")
  | _ => false))
structure BaseC (K : PySem.W.Frag) (C : Addr) : Prop where
  rd : PySem.W.readsIn K C (.type "type") = true
  ga : PySem.W.specialIn K (.ref C) "__getattribute__" = some (some (.builtin "type.__getattribute__"))
  at_ : PySem.W.findCls K (.ref C) (.type "type") "__init__" = some (.val (.builtin "ValueError.__init__"))
theorem base_of {K : PySem.W.Frag} {C : Addr} (h : baseB C K = true) : BaseC K C := by
  unfold baseB at h
  simp only [Bool.and_eq_true, decide_eq_true_eq] at h
  obtain ⟨h1, h2, h3⟩ := h
  refine ⟨h1, h2, ?_⟩
  split at h3
  · rename_i n e
    rw [e, of_decide_eq_true h3]
  · cases h3
section
variable {X : Cx} {e : Expr} {es : List Expr} {ta : TA} {p1 p2 pos : Pos}
/-- P.__init__(self, ..) -/
theorem pe_cinit {x : Str} {C : Addr} {pl : Sem Bool} (hg : Gl X x) (hm : X.mg x = some (.ref C)) (r : BaseC X.K C) (ha : PA X (e :: es) ta) (hdb : (x == ("__debug__" : Str)) = false := by decide)
    (hc : eval (.Call (.Attribute (.Name x p1) "__init__" p2) (e :: es) [] pos) X.env = (do
      let ov ← eval (.Name x p1) X.env
      standAt p2.atName
      let (f, fst) ← holding [ov] (getMethod ov "__init__" pl)
      callWith pos f fst (backTo pos (starEach (e :: es) X.env)) (backToKw pos (keywordEach [] X.env))) := by rfl)
    (he : starEach (e :: es) X.env = (false, eval e X.env) :: starEach es X.env := by rfl) (hpl : (backTo pos (starEach es X.env)).any (·.1) = false := by rfl) :
    PE X (.Call (.Attribute (.Name x p1) "__init__" p2) (e :: es) [] pos) (tVeI X.K ta) := by
  refine ⟨fun pins s σ H Q I h => ?_⟩
  refine PySem.W.methodCall_KW (ld_glob I hg hm ?_ hdb) hc
  refine PySem.W.method_cls I.kIn r.ga (PySem.W.cls_value I.kIn r.rd r.at_ (by decide +kernel) ?_)
  show wpAny _ _ (callWith pos (Value.builtin "ValueError.__init__") [] (backTo pos (starEach (e :: es) X.env)) []) _ _ _
  refine PyProof.Rows.callWith_method1 (thn (ha.run pos pins _ σ H _ (I.tok _) h) fun us s1 ⟨vs, H1, I1, r1, a, C, ws, ev, hl, T, ea, q⟩ => ?_) he hpl
  subst ev
  cases r1 with
  | @cons _ u0 _ ur ra rw' =>
    obtain rfl : u0 = Value.ref a := ra
    have hlen : ur.length ≤ sizeLine := by rw [← Paired.length rw']; exact len_le hl
    exact oinit_ok T I1 ea hlen fun s' J => ⟨.non, H1, J, rfl, q⟩
end
/-! isinstance of a caught own error, with or without a dict of its own -/
structure IsX (K : PySem.W.Frag) (D : Addr) : Prop where
  ga : PySem.W.findIn K (.ref D) "__getattribute__" = some (some (.builtin "BaseException.__getattribute__"))
  gg : PySem.W.findIn K (.ref D) "__getattr__" = some none
  sub : PySem.W.subIn K (.ref D) (.type "BaseException") = some true
  dct : PySem.W.hasDictIn K D = true
  cl : PySem.W.findIn K (.ref D) "__class__" = some (some (.builtin "object.__class__"))
  gt : PySem.W.specialIn K (.builtin "object.__class__") "__get__" = some (some (.builtin "getset_descriptor.__get__"))
  tk : PySem.W.takesIn K (.builtin "object.__class__") = some true
  mro : PySem.W.mroIn K D (.type "object") = some true
def isxB (x : Str) : FB := fun K => decide (PySem.W.findIn K (.ref (He.ga K x)) "__getattribute__" = some (some (.builtin "BaseException.__getattribute__"))) && (decide (PySem.W.findIn K (.ref (He.ga K x)) "__getattr__" = some none) &&
  (decide (PySem.W.subIn K (.ref (He.ga K x)) (.type "BaseException") = some true) && (PySem.W.hasDictIn K (He.ga K x) && (decide (PySem.W.findIn K (.ref (He.ga K x)) "__class__" = some (some (.builtin "object.__class__"))) &&
  (decide (PySem.W.specialIn K (.builtin "object.__class__") "__get__" = some (some (.builtin "getset_descriptor.__get__"))) && (decide (PySem.W.takesIn K (.builtin "object.__class__") = some true) && decide (PySem.W.mroIn K (He.ga K x) (.type "object") = some true)))))))
theorem isx_of {K : PySem.W.Frag} {x : Str} (h : isxB x K = true) : IsX K (He.ga K x) := by
  unfold isxB at h
  simp only [Bool.and_eq_true, decide_eq_true_eq] at h
  obtain ⟨h1, h2, h3, h4, h5, h6, h7, h8⟩ := h
  exact ⟨h1, h2, h3, h4, h5, h6, h7, h8⟩
end R
namespace PySem.W
open PySem PySem.Spec PySem.Calls PyProof.Rows
section
variable {prog : Program} {w : World} {A : Around} {E : Value → Shared → Prop} {s : Shared} {K : Frag} {x D : Addr} {ox : Obj} {od : Option Obj}
theorem r_findcls (T : R.IsX K D) : findObj K D od "__class__" = some (.bind (.builtin "getset_descriptor.__get__") (.builtin "object.__class__")) := by
  obtain ⟨cd, e1, _⟩ := any_some T.dct
  unfold findObj
  simp [e1, T.cl, T.gt, T.tk]
theorem r_readcls {Q : Option Value → Shared → Prop} (T : R.IsX K D) (X : K.In s.heap) (I : InstAt s.heap x ox D od) (h : Q (some (.ref D)) { s with toks := s.toks + 1 }) : wpAny (model prog w) A (getAttr? (.ref x) "__class__") Q E s := by
  obtain ⟨hp, gn, dr, tk, os⟩ := s
  have l0 := I.type (M := model prog w)
  have l1 := looks_findIn (M := model prog w) X T.ga
  have l2 := looks_findIn (M := model prog w) X T.gg
  have l3 := looks_find (M := model prog w) X I (r_findcls (od := od) T)
  have lsub : Looks (model prog w) hp (isInstance (.ref x) (.type "BaseException")) true := l0.andThen (looks_subIn X T.sub)
  have n1 : (Value.builtin "BaseException.__getattribute__" == Value.builtin "object.__getattribute__") = false := by decide +kernel
  have n2 : (onTheHeap (Value.ref D) && Value.builtin "BaseException.__getattribute__" == Value.builtin "object.__getattribute__") = false := by rw [n1]; rfl
  have n3 : (false && onTheHeap (Value.builtin "BaseException.__getattribute__")) = false := rfl
  unfold getAttr? getAttrBy? getAttrBy
  refine wpAny_bind (wpAny_mkText (wpAny_bind (wpAny_attempt (wpAny_holding (wpAny_bind (l0.at (wpAny_bind (l1.at ?_))))))))
  show wpAny _ _ (if (onTheHeap (Value.ref D) && Value.builtin "BaseException.__getattribute__" == Value.builtin "object.__getattribute__") = true then _ else _) _ _ _
  rw [n2, if_neg Bool.false_ne_true]
  unfold getAttrByItsOwn hookBefore
  refine wpAny_bind ?_
  rw [if_pos (show onTheHeap (Value.ref D) = true from rfl)]
  refine l2.at ?_
  refine wpAny_bind (wpAny_attempt (wpAny_holding ?_))
  unfold callGetattribute
  rw [n3, if_neg Bool.false_ne_true]
  unfold boundAndCalled
  rw [PySem.F.excAttr_ValueError.ga.bind (.ref x)]
  refine wpAny_bind (wpAny_pure ?_)
  show wpAny _ _ (call (.builtin "BaseException.__getattribute__") [.ref x, .str "__class__" tk]) _ _ _
  refine wpAny_call (codeAny_call_builtin PySem.F.excAttr_ValueError.ga.plain PySem.F.entry_bexc_ga ?_)
  refine @check_slot (model prog w) _ _ ⟨hp, gn, dr, tk + 1, os⟩ "BaseException.__getattribute__" "BaseException" "__getattribute__" (.ref x) [.str "__class__" tk] [] _ (by decide +kernel) (by decide +kernel) lsub (PySem.F.args_bexc_ga (.ref x) (.str "__class__" tk)) ?_
  unfold Builtin.«object.__getattribute__»
  refine wpAny_bind (wpAny_of_eq (a := ((Value.ref x : Value), [Value.str "__class__" tk])) (by first | rfl | (simp only [slotArgs]; rfl)) ?_)
  refine wpAny_bind (wpAny_pure (wpAny_bind (l0.at (wpAny_bind (l3.at ?_)))))
  show wpAny _ _ (holding [Value.builtin "object.__class__"] (call (.builtin "getset_descriptor.__get__") [.builtin "object.__class__", .ref x, .ref D]) >>= ret) _ _ _
  refine wpAny_bind (wpAny_holding (wpAny_call (class_get (s := ⟨hp, gn, dr, tk + 1, os⟩) (ox := ox) (od := od) X I T.mro ?_)))
  refine wpAny_pure ?_
  show wpAny _ _ (handedOut (.ref D)) _ _ _
  rw [handedOut_of (v := .ref D) rfl]
  first
    | exact wpAny_pure (wpAny_pure h)
    | exact wpAny_pure h
    | exact wpAny_pure (wpAny_bind (wpAny_pure (wpAny_pure h)))
theorem r_kit (T : R.IsX K D) : KitX K (.ref x) (.ref D) (fun hp => InstAt hp x ox D od) where
  ty := fun _ _ _ I => I.type
  it := fun _ _ X _ => by
    obtain ⟨cd, e1, _⟩ := any_some T.dct
    unfold clsIn at e1
    split at e1
    · rename_i _ _ _ _ at_
      intro A' Q' E' s' k q
      unfold isType loadHead
      exact wpAny_bind (wpAny_loadPart (k _ _ (X _ _ at_)) (wpAny_pure q))
    · cases e1
  ne := fun hp tp dd its n sl X at_tp => by
    obtain ⟨cd, e1, _⟩ := any_some T.dct
    refine Bool.eq_false_iff.mpr fun q => ?_
    obtain rfl : D = tp := Value.ref.inj (beq_iff_eq.mp q)
    unfold clsIn at e1
    split at e1
    · rename_i _ _ _ _ at_
      exact nomatch (X _ _ at_).symm.trans at_tp
    · cases e1
  ca := fun X I k => r_readcls T X I k
end
end PySem.W
namespace R
open PySem PySem.Spec PyProof.Rows L2
theorem callIsX {X : Cx} {a D : Addr} {oe : Obj} {d : Option Addr} {pn : List (Addr × Obj)} (T : IsX X.K D) (hz : Zc (.ref D) d oe) (hf : ∃ vs, oe.data = .fields vs) :
    CallR (X.suite a ((a, oe) :: pn)) (.builtin "isinstance") (fun xs H Q => ∃ fs, (∀ dd, d = some dd → H dd = some (.xd fs)) ∧ rIsE X.K D a xs H Q) := by
  intro pins s σ H xs us Q I r h
  obtain ⟨fs, hdd, c, cv, b, rfl, hcv, e, q⟩ := h
  cases r with
  | cons rx rr =>
    cases rr with
    | cons rt rr =>
      cases rr
      cases rx
      have ec := hcv _ rt
      subst ec
      obtain ⟨hget, _⟩ := I.pin (a, oe) (List.mem_append.mpr (.inl List.mem_cons_self))
      obtain ⟨vs, hv⟩ := hf
      have J : ∃ od, PySem.W.InstAt s.heap a oe D od := by
        obtain ⟨oc, dd, oda, osl⟩ := oe
        obtain ⟨h1, h2⟩ := hz
        dsimp only at h1 h2 hv
        subst h1 h2 hv
        cases dd with
        | none => exact ⟨none, hget, rfl, rfl, trivial⟩
        | some dx =>
          obtain ⟨mA, hns, _⟩ : ObjOk X.prog X.w H s.heap dx (.xd fs) := I.hok dx _ (hdd dx rfl)
          obtain ⟨o, _, _, ho, _⟩ := hns
          exact ⟨some o, hget, rfl, rfl, ho⟩
      obtain ⟨od, J⟩ := J
      exact PySem.W.kia_one (PySem.W.r_kit T) I.kIn J e (fun z => nomatch z) fun tk => ⟨.bl b, H, I.kept (t' := tk) fun _ _ z => z, rfl, q⟩
/-- isinstance(e, C), e the error that the suite holds: what is asked -/
def rIsXd (K : PySem.W.Frag) (D a : Addr) (d : Option Addr) : List V → Hp → VK → Prop := fun xs H Q => ∃ fs, (∀ dd, d = some dd → H dd = some (.xd fs)) ∧ rIsE K D a xs H Q
/-- what such a class is, its __init__ at fI, its field f -/
structure XIn (K : PySem.W.Frag) (C fI : Addr) (f : Str) : Prop where
  oex : OexC K C
  iC : PySem.W.findIn K (.ref C) "__init__" = some (some (.ref fI))
  tI : PySem.W.typeIn K (.ref fI) = some (.type "function")
  noF : PySem.W.findIn K (.ref C) f = some none
  xf : XfC K C
def xinB (x f : Str) : FB := fun K => oexB (He.ga K x) K && (decide (PySem.W.findIn K (.ref (He.ga K x)) "__init__" = some (some (.ref (He.ma K (He.ga K x) "__init__")))) && (decide (PySem.W.typeIn K (.ref (He.ma K (He.ga K x) "__init__")) = some (.type "function")) &&
  (decide (PySem.W.findIn K (.ref (He.ga K x)) f = some none) && xfB K (He.ga K x))))
theorem xin_of {K : PySem.W.Frag} {x f : Str} (h : xinB x f K = true) : XIn K (He.ga K x) (He.ma K (He.ga K x) "__init__") f := by
  unfold xinB at h
  simp only [Bool.and_eq_true, decide_eq_true_eq] at h
  obtain ⟨h1, h2, h3, h4, h5⟩ := h
  exact ⟨oex_of h1, h2, h3, h4, xfB_ok h5⟩
/-- __init__(self, v) of a class at C: the field is kept -/
def sp_init (K : PySem.W.Frag) (C : Addr) (f : Str) : Sp := fun vs H Q _ => ∃ (a : Addr) (v : V), vs = [.ref a, v] ∧ OexC K C ∧ PySem.W.findIn K (.ref C) f = some none ∧ H a = some (exo a C none) ∧
  ∀ dx, H dx = none → dx ≠ a → Q .non (upd (upd H dx (exd dx [(f, v)])) a (exo a C (some dx)))
theorem rd_init {K : PySem.W.Frag} {C : Addr} {f m : Str} {vs : List V} {H : Hp} {Q : VK} {E : XK} (h : sp_init K C f vs H Q E) :
    tSeq (tDrop (tVeI K (tCons (tVar 0) (tCons (tC (.str m)) tNil)))) (tOst K f (tVar 0) (tVar 1)) { nx := fun _ H' => Q .non H', rt := Q } (L2.start ["self", f] vs) H := by
  obtain ⟨a, v, rfl, T, hn, ha, k⟩ := h
  exact ⟨_, rfl, a, C, [.str m], rfl, by simp, T, ha, _, rfl, _, rfl, a, C, rfl, T, hn, .inl ⟨ha, fun dx h1 h2 => k dx h1 h2⟩⟩
section
variable {ta : TA} {σ : L2.St} {H : Hp} {QX : XK}
def RzP (C : Addr) (sp : Sp) (QX : XK) (vs : List V) (H1 : Hp) : Prop := vs.length ≤ 1000 ∧ ∀ a, H1 a = none → sp (.ref a :: (vs ++ [])) (upd H1 a (exo a C none))
  (fun v H2 => v = .non ∧ ∃ (d : Addr) (fs : List (Str × V)), H2 a = some (exo a C (some d)) ∧ H2 d = some (exd d fs) ∧ H1 d = none ∧ QX (.ref C) (some d) (upd (del H2 a) d (.xd fs))) (fun _ _ _ => False)
theorem s_mko {C : Addr} {sp : Sp} (h : ta σ H fun vs H1 => RzP C sp QX vs H1) : tMkO C sp [] ta σ H QX := h
theorem s_raise {K : PySem.W.Frag} {C : Addr} {f : Str} {v : V} (T : OexC K C) (hn : PySem.W.findIn K (.ref C) f = some none) (k : ∀ d H', H d = none → H' d = some (.xd [(f, v)]) → Same H H' → QX (.ref C) (some d) H') : RzP C (sp_init K C f) QX [v] H := by
  refine ⟨by simp, fun a ha => ⟨a, v, rfl, T, hn, upd_same, fun dx hdx hne => ⟨rfl, dx, [(f, v)], upd_same, ?_, ?_, ?_⟩⟩⟩
  · rw [upd_ne hne, upd_same]
  · rw [upd_ne hne] at hdx; exact hdx
  · rw [upd_ne hne] at hdx
    refine k dx _ hdx upd_same fun b o e => ?_
    have n1 : b ≠ dx := ne_of_none e hdx
    have n2 : b ≠ a := ne_of_none e ha
    rw [upd_ne n1, del_ne n2, upd_ne n2, upd_ne n1, upd_ne n2]
    exact e
end
/-! own exceptions without fields; isinstance of a caught error of any own class -/
section
variable {X : Cx} {C : Addr} {bmB : List Value} {B newId initId : String}
/-- X() -/
theorem pmk_own0 {x : Str} {p pos : Pos} (F : ExcBaseFacts B newId initId bmB) (q : PySem.W.excIn X.K C bmB newId = true) (gC : X.mg x = some (.ref C)) (kC : PySem.W.keepIn X.K (.ref C) = true) (r : Raises X (.ref C)) (hg : Gl X x)
    (hdb : (x == ("__debug__" : Str)) = false := by decide) : PMk X (.Call (.Name x p) [] [] pos) (fun _ H Q => Q (.ref C) none H) := by
  intro pins s σ H Q I h
  refine wpAny_Call_Name_kw (ld_glob I hg gC ?_ hdb)
  refine PySem.W.callWith_K0 I.kIn kC ?_
  obtain ⟨bm, N, nm, qn, bs, hdct, sn, sub, ab, col, dd, k0, k1, k2, k3, k5, mN, hC, hN, hni, T⟩ := exc_obj I.kIn q
  refine wpAny_call_exc_subT F T hC hN hni (fun h' e hm => ?_) (Nat.zero_le _)
  exact mk_of I hm r h (I.hok.gone hm.new)
end
def tRz (C : Addr) : L2.St → Hp → XK → Prop := fun _ H Q => Q (.ref C) none H
theorem s_rz {C : Addr} {σ : L2.St} {H : Hp} {Q : XK} (h : Q (.ref C) none H) : tRz C σ H Q := h
/-- a class without fields, raised -/
structure Exc0 (K : PySem.W.Frag) (C : Addr) : Prop where
  ex : PySem.W.excIn K C He.veBase "ValueError.__new__" = true
  kp : PySem.W.keepIn K (.ref C) = true
  sb : PySem.W.subIn K (.ref C) (.type "BaseException") = some true
  ty : PySem.W.typeIn K (.ref C) = some (.type "type")
theorem exc0_of {K : PySem.W.Frag} {x : Str} (c : (He.Fa.exc x).ok K = true) : Exc0 K (He.ga K x) := by
  obtain ⟨h1, h2, h3, h4⟩ := He.exc_ok c
  exact ⟨h1, h2, h3, h4⟩
theorem pmk_z {X : Cx} {C : Addr} {x : Str} {p pos : Pos} (F : Exc0 X.K C) (gC : X.mg x = some (.ref C)) (hg : Gl X x) (hdb : (x == ("__debug__" : Str)) = false := by decide) : PMk X (.Call (.Name x p) [] [] pos) (tRz C) :=
  pmk_own0 PySem.F.excBase_ValueError F.ex gC F.kp (raises_own F.sb F.ty) hg hdb
theorem pmk_zs {X : Cx} {C : Addr} {x m : Str} {j : Nat} {p p2 pos : Pos} (F : Exc0 X.K C) (gC : X.mg x = some (.ref C)) (hg : Gl X x) (hdb : (x == ("__debug__" : Str)) = false := by decide) : PMk X (.Call (.Name x p) [.Constant (.str m) j p2] [] pos) (tRz C) :=
  L2.pmk_own PySem.F.excBase_ValueError F.ex gC F.kp (raises_own F.sb F.ty) hg hdb
def kitcB (x y : Str) (b : Bool) : FB := fun K => decide (PySem.W.kitOne K (.ref (He.ga K x)) (.ref (He.ga K y)) = some b)
def kittB (x : Str) (y : String) (b : Bool) : FB := fun K => decide (PySem.W.kitOne K (.ref (He.ga K x)) (.type y) = some b)
theorem kitc_of {K : PySem.W.Frag} {x y : Str} {b : Bool} (h : kitcB x y b K = true) : PySem.W.kitOne K (.ref (He.ga K x)) (.ref (He.ga K y)) = some b := of_decide_eq_true h
theorem kitt_of {K : PySem.W.Frag} {x : Str} {y : String} {b : Bool} (h : kittB x y b K = true) : PySem.W.kitOne K (.ref (He.ga K x)) (.type y) = some b := of_decide_eq_true h
/-- isinstance(e, c) in an except suite, the class of e told in the reading -/
def rIsA (K : PySem.W.Frag) (cls : Value) (d : Option Addr) (a : Addr) : List V → Hp → VK → Prop := fun xs H Q => ∃ D, cls = .ref D ∧ IsX K D ∧ ∃ fs, (∀ dd, d = some dd → H dd = some (.xd fs)) ∧
  ∃ (c : V) (cv : Value) (b : Bool), xs = [.ref a, c] ∧ ClsV c cv ∧ PySem.W.kitOne K (.ref D) cv = some b ∧ Q (.bl b) H
def rIsAT (K : PySem.W.Frag) (cls : Value) (d : Option Addr) (a : Addr) : List V → Hp → VK → Prop := fun xs H Q => ∃ D, cls = .ref D ∧ IsX K D ∧ ∃ fs, (∀ dd, d = some dd → H dd = some (.xd fs)) ∧
  ∃ (tp : Addr) (cs : List V) (us : List Value) (b : Bool), xs = [.ref a, .ref tp] ∧ H tp = some (.tup cs) ∧ Paired ClsV cs us ∧ PySem.W.kitAny K (.ref D) us = some b ∧ Q (.bl b) H
section
variable {X : Cx} {a : Addr} {cls : Value} {oe : Obj} {d : Option Addr} {pn : List (Addr × Obj)}
theorem inst_of {D : Addr} {pins : List (Addr × Obj)} {σ : L2.St} {H : Hp} {s : Shared} {fs : List (Str × V)} (I : Inv (X.suite a ((a, oe) :: pn)) pins σ H s) (hz : Zc (.ref D) d oe) (hf : ∃ vs, oe.data = .fields vs) (hdd : ∀ dd, d = some dd → H dd = some (.xd fs)) : ∃ od, PySem.W.InstAt s.heap a oe D od := by
  obtain ⟨hget, _⟩ := I.pin (a, oe) (List.mem_append.mpr (.inl List.mem_cons_self))
  obtain ⟨vs, hv⟩ := hf
  obtain ⟨oc, dd, oda, osl⟩ := oe
  obtain ⟨h1, h2⟩ := hz
  dsimp only at h1 h2 hv
  subst h1 h2 hv
  cases dd with
  | none => exact ⟨none, hget, rfl, rfl, trivial⟩
  | some dx =>
    obtain ⟨mA, hns, _⟩ : ObjOk X.prog X.w H s.heap dx (.xd fs) := I.hok dx _ (hdd dx rfl)
    obtain ⟨o, _, _, ho, _⟩ := hns
    exact ⟨some o, hget, rfl, rfl, ho⟩
theorem callIsA (hz : Zc cls d oe) (hf : ∃ vs, oe.data = .fields vs) : CallR (X.suite a ((a, oe) :: pn)) (.builtin "isinstance") (rIsA X.K cls d a) := by
  intro pins s σ H xs us Q I r h
  obtain ⟨D, rfl, T, fs, hdd, c, cv, b, rfl, hcv, e, q⟩ := h
  obtain ⟨u1, u2, rfl, r1, r2⟩ := vals2 r
  cases (show u1 = Value.ref a from r1)
  have ec := hcv.eq r2
  subst ec
  obtain ⟨od, J⟩ := inst_of I hz hf hdd
  exact PySem.W.kia_one (PySem.W.r_kit T) I.kIn J e (fun z => nomatch z) fun tk => ⟨.bl b, H, I.kept (t' := tk) fun _ _ z => z, rfl, q⟩
theorem callIsAT (hz : Zc cls d oe) (hf : ∃ vs, oe.data = .fields vs) : CallR (X.suite a ((a, oe) :: pn)) (.builtin "isinstance") (rIsAT X.K cls d a) := by
  intro pins s σ H xs us Q I r h
  obtain ⟨D, rfl, T, fs, hdd, tp, cs, ws, b, rfl, hT, k, e, q⟩ := h
  obtain ⟨u1, u2, rfl, r1, r2⟩ := vals2 r
  cases (show u1 = Value.ref a from r1)
  cases (show u2 = Value.ref tp from r2)
  obtain ⟨od, J⟩ := inst_of I hz hf hdd
  obtain ⟨_, its, rv, o, h1, h2, n, h3⟩ := (show ObjOk X.prog X.w H s.heap tp (.tup cs) from I.hok tp _ hT)
  have e3 := ClsV.all k rv
  subst e3
  obtain ⟨oc, od', dt, sl⟩ := o
  simp only at h2 h3
  subst h2 h3
  exact PySem.W.kia_tup (PySem.W.r_kit T) I.kIn J h1 e (fun z => nomatch z) fun tk => ⟨.bl b, H, I.kept (t' := tk) fun _ _ z => z, rfl, q⟩
end
section
variable {K : PySem.W.Frag} {a D : Addr} {d : Option Addr} {H : Hp} {Q : VK} {fs : List (Str × V)} {b b1 b2 : Bool}
theorem s_isA {c : V} {cv : Value} (T : IsX K D) (hd : ∀ dd, d = some dd → H dd = some (.xd fs)) (hc : ClsV c cv) (e : PySem.W.kitOne K (.ref D) cv = some b) (h : Q (.bl b) H) : rIsA K (.ref D) d a [.ref a, c] H Q := ⟨D, rfl, T, fs, hd, c, cv, b, rfl, hc, e, h⟩
theorem s_isA0 {c : V} {cv : Value} (T : IsX K D) (hc : ClsV c cv) (e : PySem.W.kitOne K (.ref D) cv = some b) (h : Q (.bl b) H) : rIsA K (.ref D) none a [.ref a, c] H Q := s_isA (fs := []) T (fun _ z => nomatch z) hc e h
theorem s_isAT2 {tp : Addr} {c1 c2 : V} {v1 v2 : Value} (T : IsX K D) (hd : ∀ dd, d = some dd → H dd = some (.xd fs)) (ht : H tp = some (.tup [c1, c2])) (h1 : ClsV c1 v1) (h2 : ClsV c2 v2) (e1 : PySem.W.kitOne K (.ref D) v1 = some b1) (e2 : PySem.W.kitOne K (.ref D) v2 = some b2)
    (h : Q (.bl (b1 || b2)) H) : rIsAT K (.ref D) d a [.ref a, .ref tp] H Q :=
  ⟨D, rfl, T, fs, hd, tp, _, [v1, v2], b1 || b2, rfl, ht, .cons h1 (.cons h2 .nil), kitAny_cons e1 (fun q => kitAny_cons e2 (fun q2 => by rw [q, q2]; exact kitAny_nil) (fun q2 => by rw [q2]; simp)) (fun q => by rw [q]; rfl), h⟩
theorem s_isAT20 {tp : Addr} {c1 c2 : V} {v1 v2 : Value} (T : IsX K D) (ht : H tp = some (.tup [c1, c2])) (h1 : ClsV c1 v1) (h2 : ClsV c2 v2) (e1 : PySem.W.kitOne K (.ref D) v1 = some b1) (e2 : PySem.W.kitOne K (.ref D) v2 = some b2)
    (h : Q (.bl (b1 || b2)) H) : rIsAT K (.ref D) none a [.ref a, .ref tp] H Q := s_isAT2 (fs := []) T (fun _ z => nomatch z) ht h1 h2 e1 e2 h
end
/-! zip of two tuples, walked -/
theorem walk_zipT {K : PySem.W.Frag} {a b : Addr} {xs ys : List V} {n : Nat} (hn : n = min xs.length ys.length) : Walk (RZ.ItzT K a b) n (fun H => SqT K H a xs ∧ SqT K H b ys) (YPair (fun i => xs[i]?) (fun i => ys[i]?)) := by
  subst hn
  refine ⟨fun i _ hi q => ?_, fun _ q => ⟨xs, ys, q.1, q.2, by omega⟩, fun i H v H' _ q y => ?_⟩
  · have h1 : i < xs.length := by omega
    have h2 : i < ys.length := by omega
    exact ⟨xs, ys, xs[i], ys[i], q.1, q.2, by simp [h1], by simp [h2]⟩
  · obtain ⟨T, x, z, h1, h2, h3, h4, h5⟩ := y
    exact ⟨T, x, z, h1, h2, h3, h4 xs q.1, h5 ys q.2⟩
def ZipQ (K : PySem.W.Frag) (R : It → Hp → Prop) (vs : List V) (H1 : Hp) : Prop := ∃ a b xs ys, vs = [.ref a, .ref b] ∧ ((SqL K H1 a xs ∧ SqL K H1 b ys ∧ R (Itz K a b) H1) ∨ (SqT K H1 a xs ∧ SqT K H1 b ys ∧ R (RZ.ItzT K a b) H1))
theorem s_izip {K : PySem.W.Frag} {ta : TA} {σ : L2.St} {H : Hp} {R : It → Hp → Prop} (h : ta σ H fun vs H1 => ZipQ K R vs H1) : RZ.iZipA K ta σ H R := h
theorem s_gunl {K : PySem.W.Frag} {n : Nat} {t : TGs} {p : Addr} {xs : List V} {σ : L2.St} {H : Hp} {QS : L2.St → Hp → Prop} (h1 : SqL K H p xs) (h2 : xs.length = n) (h : t xs σ H QS) : L2.gUnl K n t (.ref p) σ H QS := ⟨p, xs, rfl, h1, h2, h⟩
end R
/-! the walk of a reading, as far as nothing is asked -/
local macro_rules | `(tactic| walk_at "g1") => `(tactic| first
  | with_reducible refine R.s_seq ?_
  | with_reducible refine R.s_asg ?_
  | ((with_reducible apply R.s_var); focus rfl)
  | with_reducible refine R.s_gname ?_
  | with_reducible refine R.s_op ?_
  | with_reducible refine R.s_c ?_
  | with_reducible refine R.s_cons ?_
  | with_reducible refine R.s_nil ?_
  | with_reducible refine R.s_i0 ?_
  | with_reducible refine R.s_p10_60 ?_
  | with_reducible refine R.s_p10_18 ?_
  | with_reducible refine R.s_p10_8 ?_
  | with_reducible refine R.s_p10_9 ?_
  | with_reducible refine R.s_p10_59 ?_
  | with_reducible refine R.s_p10_6 ?_
  | with_reducible refine R.s_p10_5 ?_
  | with_reducible refine R.s_p10_4 ?_
  | with_reducible refine R.s_p10_12 ?_
  | with_reducible refine R.s_p10_29 ?_
  | with_reducible refine R.s_p10_30 ?_
  | with_reducible refine R.s_p10_39 ?_
  | with_reducible refine R.s_p10_40 ?_
  | with_reducible refine R.s_p10_49 ?_
  | with_reducible refine R.s_p10_50 ?_
  | with_reducible refine R.s_p10_51 ?_
  | with_reducible refine R.s_p10_58 ?_
  | ((with_reducible refine R.s_pow7 ?_ ?_); focus omega)
  | ((with_reducible refine R.s_i ?_ ?_); focus (first | decide | exact R.mulW (by omega) (by omega) | exact R.divW (by decide) (by decide)))
  | with_reducible refine R.s_test ?_
  | with_reducible refine R.s_bl ?_
  | with_reducible refine R.s_ret ?_
  | with_reducible refine R.s_next ?_
  | with_reducible refine R.s_drop ?_
  | with_reducible refine R.s_un ?_
  | with_reducible refine R.s_u ?_
  | with_reducible refine R.s_tB ?_
  | with_reducible refine R.s_andc ?_
  | with_reducible refine R.s_orc ?_
  | with_reducible refine R.s_notc ?_
  | with_reducible refine R.s_andv ?_
  | with_reducible refine R.s_orv ?_
  | with_reducible refine R.s_notv ?_
  | with_reducible refine R.s_ifx ?_
  | with_reducible refine R.s_eqI ?_
  | with_reducible refine R.s_neI ?_
  | with_reducible refine R.s_eqB ?_
  | with_reducible refine R.s_eqS ?_
  | with_reducible refine R.s_neS ?_
  | with_reducible refine R.s_neB ?_
  | with_reducible refine R.s_tup ?_
  | with_reducible refine R.s_lst ?_
  | with_reducible refine R.s_par ?_
  | with_reducible refine R.s_par_ ?_
  | with_reducible refine R.s_par3 ?_
  | with_reducible refine R.s_par3_ ?_
  | with_reducible refine R.s_cb ?_
  | with_reducible refine R.s_call ?_
  | with_reducible refine R.s_turn ?_
  | with_reducible refine R.s_isi_ii ?_
  | with_reducible refine R.s_isi_ib ?_
  | with_reducible refine R.s_bm ?_
  | with_reducible refine R.s_intB ?_
  | with_reducible refine R.s_rng1 ?_
  | with_reducible refine R.s_rng2 ?_
  | with_reducible refine R.s_dget ?_
  | with_reducible refine R.s_gsub ?_
  | with_reducible refine R.s_pc ?_
  | with_reducible refine R.s_pn ?_
  | with_reducible refine R.s_dput ?_
  | with_reducible refine R.s_isN ?_
  | with_reducible refine R.s_isNi ?_
  | with_reducible refine R.s_isNr ?_
  | with_reducible refine R.s_isNb ?_
  | with_reducible refine R.s_bm0 ?_
  | with_reducible refine R.s_lrg2 ?_
  | with_reducible refine R.s_notN ?_
  | with_reducible refine R.s_notNi ?_
  | with_reducible refine R.s_notNr ?_
  | with_reducible refine R.s_chain ?_
  | with_reducible refine R.s_callS ?_
  | with_reducible refine R.s_mko ?_
  | with_reducible refine R.s_rz ?_
  | with_reducible refine R.s_izip ?_
  | with_reducible refine R.s_sl ?_
  | with_reducible refine R.s_nopart ?_
  | with_reducible refine R.s_part ?_
  | with_reducible refine R.s_int_ ?_
  | with_reducible refine R.s_ilist ?_
  | with_reducible refine R.s_itup ?_
  | with_reducible refine R.s_ref_ ?_
  | with_reducible refine R.s_for ?_
  | with_reducible refine R.s_yes ?_
  | with_reducible refine R.s_gcons ?_
  | with_reducible refine R.s_gnil ?_
  | with_reducible refine R.s_abs ?_
  | with_reducible refine R.s_max ?_
  | with_reducible refine R.s_min ?_
  | with_reducible refine R.s_iteT ?_
  | with_reducible refine R.s_iteF ?_
  | with_reducible refine R.s_iteNT ?_
  | with_reducible refine R.s_iteNF ?_
  | ((with_reducible refine R.s_itnP ?_ ?_); focus (with_reducible rfl))
  | ((with_reducible refine R.s_itP ?_ ?_); focus (with_reducible rfl)))
local macro_rules | `(tactic| walk_at "g") => `(tactic| repeat (first | walk_at "g1" | with_reducible refine R.s_if ?_))
local macro_rules | `(tactic| walk_at "h") => `(tactic| repeat (walk_at "g1"))

/-! several except clauses, some with a name -/
namespace R
open PySem PySem.Spec PyProof.Rows L2
def asEnds (i : Nat) (D : Ends) : Ends := { nx := fun σ' H' => D.nx (σ'.set i none) H', rt := D.rt, bk := fun σ' H' => D.bk (σ'.set i none) H', ct := fun σ' H' => D.ct (σ'.set i none) H' }
def asTs (i : Nat) (ts : Addr → Value → Option Addr → TS) : Addr → Value → Option Addr → TS := fun a cls d D σ H => ts a cls d (asEnds i D) (σ.set i (some (.ref a))) H
inductive HdsN (X : Cx) : List ExceptHandler → List (Value × (Addr → Value → Option Addr → TS)) → Prop
  | nil : HdsN X [] []
  | bare {x : Str} {c : Value} {ts : Addr → Value → Option Addr → TS} {b₀ : Stmt} {suite : List Stmt} {np pos' : Pos} {hds : List ExceptHandler} {l : List (Value × (Addr → Value → Option Addr → TS))} (hc : Names X x c)
      (hsu : ∀ (a : Addr) (oe : Obj) (cls : Value) (d : Option Addr) (pn : List (Addr × Obj)), Zc cls d oe → (∃ vs, oe.data = .fields vs) → PSs (X.suite a ((a, oe) :: pn)) (b₀ :: suite) (ts a cls d)) (r : HdsN X hds l) :
      HdsN X (.ExceptHandler (some (.Name x np)) none (b₀ :: suite) pos' :: hds) ((c, ts) :: l)
  | named {x n : Str} {i : Nat} {c : Value} {ts : Addr → Value → Option Addr → TS} {b₀ : Stmt} {suite : List Stmt} {np pos' : Pos} {hds : List ExceptHandler} {l : List (Value × (Addr → Value → Option Addr → TS))} (hN : X.N.Nodup) (hi : X.N[i]? = some n) (hln : X.env.kindOf n = some .local) (hc : Names X x c)
      (hsu : ∀ (a : Addr) (oe : Obj) (cls : Value) (d : Option Addr) (pn : List (Addr × Obj)), Zc cls d oe → (∃ vs, oe.data = .fields vs) → PSs (X.suite a ((a, oe) :: pn)) (b₀ :: suite) (ts a cls d)) (r : HdsN X hds l) :
      HdsN X (.ExceptHandler (some (.Name x np)) (some n) (b₀ :: suite) pos' :: hds) ((c, asTs i ts) :: l)
section
variable {X : Cx} {body : List Stmt} {h₀ : ExceptHandler} {hds : List ExceptHandler} {l : List (Value × (Addr → Value → Option Addr → TS))} {pos : Pos} {tb : WX → TS} {Wout : WX}
theorem ps_try_mix (hs : X.stack = X.env :: X.outer) (hf : X.env.frame = some X.env.locals) (tk : Takes X Wout)
    (hb : ∀ (W : WX) (pn : List (Addr × Obj)) (xe : Value → Shared → Prop), Takes (X.tr pn xe) W → PassesOwn (model X.prog X.w) X.A X.env xe → PSs (X.tr pn xe) body (tb W))
    (hh : HdsN X (h₀ :: hds) l) : PS X (.Try body (h₀ :: hds) [] [] pos) (fun D σ H => tb (wMany X.K Wout D l) D σ H) := by
  refine ⟨fun pins s σ H D I h => ?_⟩
  have ok := I.ok
  have hfr : X.A.frames = some (X.env :: X.outer) := by rw [ok.frames, hs]
  refine wpAny_Try_except ?_
  refine wpAny_mono ((hb (wMany X.K Wout D l) (X.pn ++ pins) (fun e s₁ => wpAny (model X.prog X.w) X.A (noteFrame e X.env) (fun _ s₂ => wpAny (model X.prog X.w) X.A (setFlight e none) (fun _ s₃ =>
    wpAny (model X.prog X.w) X.A (handleBy e X.env (h₀ :: hds)) (SP X pins D) X.xe s₃) X.xe s₂) X.xe s₁) (fun u s' xx => ?_) PassesOwn.looking).run [] s σ H D (I.toTry _) h) (fun f s1 hsp => ?_) (fun e s1 he => he)
  · -- the catch
    obtain ⟨a, B, sI, pins', σ', H', cls, d, rfl, J', nb, up, sky, na, os, ag, w⟩ := xx
    have J : Inv X pins σ' H' sI := J'.ofTry ok
    have sky' : Sky B (X.env :: X.outer) a (Zc cls d) X.env.locals s'.heap := by rw [← hs]; exact sky
    show wpAny (model X.prog X.w) X.A (noteFrame (.ref a) X.env) _ _ _
    refine Sky.land Zc.steady hfr hf sky' fun h3 fl3 up3 => ?_
    have J3 : Inv X pins σ' H' { s' with heap := h3 } := J.landed nb fl3.1 (up.trans up3) os ag
    obtain ⟨oe3, vs3, he3, hz3, hd3⟩ := fl3.there
    have notFr : ∀ {h : Heap} {o : Obj} {vs : Array Value}, h.FunFrames B (X.env :: X.outer) → h.get? a = some o → o.data = .fields vs → a ∉ frs (X.env :: X.outer) := fun {h o vs} ff e dd hm => by
      obtain ⟨_, o', e', hnf⟩ := ff.mem hm
      rw [e] at e'; cases e'
      exact hnf _ dd
    have nfr := notFr fl3.2.2.1 he3 hd3
    have nL : a ≠ X.env.locals := fun z => nfr (List.mem_filterMap.mpr ⟨X.env, List.mem_cons_self, by rw [hf, z]⟩)
    have nF : a ∉ X.fs := fun hm => by
      obtain ⟨e, he, q⟩ := List.mem_filterMap.mp hm
      exact nfr (List.mem_filterMap.mpr ⟨e, List.mem_cons_of_mem _ he, q⟩)
    have S3 := J3.suite he3 hd3 na nL nF
    have go : ∀ {hds' : List ExceptHandler} {l' : List (Value × (Addr → Value → Option Addr → TS))}, HdsN X hds' l' → wMany X.K Wout D l' cls d σ' H' →
        wpAny (model X.prog X.w) X.A (handleBy (.ref a) X.env hds') (SP X pins D) X.xe { s' with heap := h3 } := by
      intro hds' l' hk
      induction hk with
      | nil =>
        intro w
        refine wpAny_handleBy_nil ?_
        obtain ⟨k1, k2, k3, oe, vs, T, oT, ts', he, hz, hd, h1, hr⟩ := id fl3
        unfold PySem.passOn
        refine wpAny_bind (wpAny_field he hd h1 ?_)
        rw [if_neg (show ¬ ((Value.ref T == Value.none) = true) from by simp)]
        have fin : wpAny (model X.prog X.w) X.A (setFlight (.ref a) X.env.frame) (fun _ s4 => wpAny (model X.prog X.w) X.A (throw (.ref a) : Sem Flow) (SP X pins D) X.xe s4) X.xe { s' with heap := h3 } := by
          rw [hf]
          refine HandSPX.setFlight_upZ fl3 fun h4 hh4 up4 => wpAny_throw (tk _ _ ?_)
          exact ⟨a, B, sI, pins, σ', H', cls, d, rfl, J, nb, (up.trans up3).trans up4, .inr (.inr (by rw [hs]; exact hh4)), na, os, ag, w⟩
        first
          | exact wpAny_bind (wpAny_pure (wpAny_bind fin))
          | exact wpAny_bind fin
      | @bare x c ts b₀ suite np pos' hds2 l2 hc hsu r ih =>
        intro w
        obtain ⟨b, hb1, hyes, hno⟩ := w
        refine wpAny_handleBy_cons (codeAny_handlers_test ?_) (by intro q; cases q)
        have LT : PySem.W.Looks (model X.prog X.w) h3 (typeOf (.ref a)) cls := fun A Q E s k q => wpAny_typeOf_ref (k _ _ he3) (by rw [hz3.1]; exact q)
        have LM := PySem.W.exm_one (M := model X.prog X.w) (J3.kIn) LT hb1
        have test : ∀ {Q : Value → Shared → Prop} {E : Value → Shared → Prop}, Q c { s' with heap := h3 } → wpAny (model X.prog X.w) (X.A.mark (some (.ref a))) (eval (.Name x np) X.env) Q E { s' with heap := h3 } := fun {Q E} q => by
          obtain ⟨hg, hdbg, hm | ⟨hm, hv, hnn⟩⟩ := hc
          · exact ld_glob (X := X.suite a ((a, oe3) :: (X.pn ++ pins))) S3 hg hm q hdbg
          · exact ld_blt (X := X.suite a ((a, oe3) :: (X.pn ++ pins))) S3 hg hm hv q hnn hdbg
        refine test (LM.here ?_)
        cases b with
        | true =>
          refine codeAny_handlers_suite ?_
          refine HandSPX.lands_againZ fl3 fun h4 fl4 up4 => ?_
          have J4 : Inv X pins σ' H' { s' with heap := h4 } := J.landed nb fl4.1 ((up.trans up3).trans up4) os ag
          obtain ⟨oe4, vs4, he4, hz4, hd4⟩ := fl4.there
          have S4 := J4.suite he4 hd4 na nL nF
          refine wpAny_mono ((hsu a oe4 cls d (X.pn ++ pins) hz4 ⟨_, hd4⟩).run [] _ _ H' _ S4 (hyes rfl a na)) (fun f s6 hsp => ?_) (fun _ _ z => False.elim z)
          cases f with
          | next =>
            obtain ⟨σ6, H6, S6, q6⟩ := hsp
            exact ⟨_, _, S6.unsuite ok, q6⟩
          | brk =>
            obtain ⟨σ6, H6, S6, q6⟩ := hsp
            exact ⟨_, _, S6.unsuite ok, q6⟩
          | cont =>
            obtain ⟨σ6, H6, S6, q6⟩ := hsp
            exact ⟨_, _, S6.unsuite ok, q6⟩
          | ret u =>
            obtain ⟨v6, σ6, H6, S6, r6, q6⟩ := hsp
            exact ⟨_, _, _, S6.unsuite ok, r6, q6⟩
        | false =>
          show wpAny _ X.A (handleBy (.ref a) X.env hds2) _ _ _
          exact ih (hno rfl)
      | @named x n i c ts b₀ suite np pos' hds2 l2 hN hi hln hc hsu r ih =>
        intro w
        obtain ⟨b, hb1, hyes, hno⟩ := w
        refine wpAny_handleBy_cons (codeAny_handlers_test ?_) (by intro q; cases q)
        have LT : PySem.W.Looks (model X.prog X.w) h3 (typeOf (.ref a)) cls := fun A Q E s k q => wpAny_typeOf_ref (k _ _ he3) (by rw [hz3.1]; exact q)
        have LM := PySem.W.exm_one (M := model X.prog X.w) (J3.kIn) LT hb1
        have test : ∀ {Q : Value → Shared → Prop} {E : Value → Shared → Prop}, Q c { s' with heap := h3 } → wpAny (model X.prog X.w) (X.A.mark (some (.ref a))) (eval (.Name x np) X.env) Q E { s' with heap := h3 } := fun {Q E} q => by
          obtain ⟨hg, hdbg, hm | ⟨hm, hv, hnn⟩⟩ := hc
          · exact ld_glob (X := X.suite a ((a, oe3) :: (X.pn ++ pins))) S3 hg hm q hdbg
          · exact ld_blt (X := X.suite a ((a, oe3) :: (X.pn ++ pins))) S3 hg hm hv q hnn hdbg
        refine test (LM.here ?_)
        cases b with
        | true =>
          refine codeAny_handlers_suite_as ?_
          refine HandSPX.lands_againZ fl3 fun h4 fl4 up4 => ?_
          have J4 : Inv X pins σ' H' { s' with heap := h4 } := J.landed nb fl4.1 ((up.trans up3).trans up4) os ag
          obtain ⟨oe4, vs4, he4, hz4, hd4⟩ := fl4.there
          have S4 := J4.suite he4 hd4 na nL nF
          have hloc : Loc X.env.scope n := .inl hln
          refine store_ok (X := X.suite a ((a, oe4) :: (X.pn ++ pins))) (v := .ref a) S4 hN hi hloc rfl (fun s5 S5 => ?_) (.inr hln)
          refine wpAny_mono ((hsu a oe4 cls d (X.pn ++ pins) hz4 ⟨_, hd4⟩).run [] s5 _ H' _ S5 (hyes rfl a na)) (fun f s6 hsp => ?_) (fun _ _ z => False.elim z)
          have end_ : ∀ {σ6 : L2.St} {H6 : Hp} {Q : Shared → Prop}, Inv (X.suite a ((a, oe4) :: (X.pn ++ pins))) [] σ6 H6 s6 → (∀ s7, Inv X pins (σ6.set i none) H6 s7 → Q s7) →
              wpAny (model X.prog X.w) X.A (do bindName X.env n .none; unbindBehindTheSuite X.env n pos') (fun _ s7 => Q s7) X.xe s6 := fun {σ6 H6 Q} S6 hq => gone_ok (S6.unsuite ok) hN hi hln hq
          cases f with
          | next =>
            obtain ⟨σ6, H6, S6, q6⟩ := hsp
            exact end_ S6 fun s7 J7 => ⟨_, _, J7, q6⟩
          | brk =>
            obtain ⟨σ6, H6, S6, q6⟩ := hsp
            exact end_ S6 fun s7 J7 => ⟨_, _, J7, q6⟩
          | cont =>
            obtain ⟨σ6, H6, S6, q6⟩ := hsp
            exact end_ S6 fun s7 J7 => ⟨_, _, J7, q6⟩
          | ret u =>
            obtain ⟨v6, σ6, H6, S6, r6, q6⟩ := hsp
            exact end_ S6 fun s7 J7 => ⟨_, _, _, J7, r6, q6⟩
        | false =>
          show wpAny _ X.A (handleBy (.ref a) X.env hds2) _ _ _
          exact ih (hno rfl)
    exact go hh w
  · cases f with
    | next =>
      obtain ⟨σ', H', J', q⟩ := hsp
      exact wpAny_execs_nil ⟨σ', H', J'.ofTry ok, q⟩
    | brk =>
      obtain ⟨σ', H', J', q⟩ := hsp
      exact ⟨σ', H', J'.ofTry ok, q⟩
    | cont =>
      obtain ⟨σ', H', J', q⟩ := hsp
      exact ⟨σ', H', J'.ofTry ok, q⟩
    | ret u =>
      obtain ⟨v, σ', H', J', r, q⟩ := hsp
      exact ⟨v, σ', H', J'.ofTry ok, r, q⟩
end
theorem s_asEnds {i : Nat} {D : Ends} {σ : L2.St} {H : Hp} (h : D.nx (σ.set i none) H) : (asEnds i D).nx σ H := h
end R

/-! enumerate of a tuple, walked -/
namespace RE
open PySem PySem.Spec PyProof.Rows L2
set_option maxHeartbeats 1000000 in
theorem meets_enumerate_newB1 {v : Value} {o : Obj} {H : Heap → Prop} (B : Begins v o H) :
    Meets (Builtin.«enumerate.__new__» ⟨[.type "enumerate", v], []⟩) (fun _ R s => H s.heap ∧
      R (.ok (.ret (.ref (s.heap.push o).objs.size))) { s with heap := (s.heap.push o).push { cls := .type "enumerate", data := .fields #[.none, .bool false, .ref s.heap.objs.size, rawInt 0, .none, .none] } }) :=
  .of_wp fun prog w A R s h => by
    obtain ⟨hp, g, d, tk, os⟩ := s; obtain ⟨h1, h⟩ := h
    have hsub := sub_enumerate
    have q1 : ∀ {A' : Around} {E : Value → Shared → Prop} {Q : Value → Shared → Prop}, Q (.ref hp.objs.size) ⟨hp.push o, g, d, tk, os⟩ → wpAny (model prog w) A' (pyIter v) Q E ⟨hp, g, d, tk, os⟩ :=
      fun q => B.iter prog w _ _ ⟨hp, g, d, tk, os⟩ _ h1 q
    wp_walk using q1
    refine wpAny_stack_any fun st => wpAny_pure ?_
    split
    · rename_i c _ _ _ _ _
      cases (c == Value.type "enumerate")
      · wp_walk using q1
        exact ⟨_, rfl, h⟩
      · wp_walk using q1
        exact ⟨_, rfl, h⟩
    · wp_walk using q1
      exact ⟨_, rfl, h⟩
theorem enum_begins1 {prog : Program} {w : World} {A : Around} {E : Value → Shared → Prop} {s : Shared} {v : Value} {o : Obj} {H : Heap → Prop} {Q : Value → Shared → Prop} (B : Begins v o H) (h1 : H s.heap)
    (h : ∀ h', IsEnum h' (s.heap.objs.size + 1) s.heap.objs.size 0 .none → h'.get? s.heap.objs.size = some o → h'.objs.size = s.heap.objs.size + 2 →
      (∀ b o, s.heap.get? b = some o → h'.get? b = some o) → Q (.ref (s.heap.objs.size + 1)) { s with heap := h' }) :
    wpAny (model prog w) A (call (.type "enumerate") [v]) Q E s := by
  refine callType_new PySem.F.called_enumerate (by decide) (PySem.F.typeCall_enumerate_1 _) (PySem.F.newCall_enumerate_1 _) (fun obj => PySem.F.args_object_init_2 obj _) PySem.F.entry_enumerate_new
    (meets_enumerate_newB1 B) ⟨h1, ?_⟩
  have hz : (s.heap.push o).objs.size = s.heap.objs.size + 1 := Heap.size_push ..
  show _ ∧ _
  rw [hz]
  have he : IsEnum ((s.heap.push o).push { cls := .type "enumerate", data := .fields #[.none, .bool false, .ref s.heap.objs.size, rawInt 0, .none, .none] }) (s.heap.objs.size + 1) s.heap.objs.size 0 .none := by
    have := Heap.get?_push_size (s.heap.push o) (o := { cls := .type "enumerate", data := .fields #[.none, .bool false, .ref s.heap.objs.size, rawInt 0, .none, .none] }) rfl
    rw [hz] at this; exact this
  refine ⟨⟨_, he, rfl⟩, h _ he (Heap.get?_push_of_some _ (Heap.get?_push_size _ B.free)) (by rw [Heap.size_push, hz]) fun b o x => Heap.get?_push_of_some _ (Heap.get?_push_of_some _ x)⟩
/-- the tuple at a, each item in a new pair -/
def IteT (K : PySem.W.Frag) (a : Addr) : It :=
  ⟨fun i H => ∃ (xs : List V) (x : V), SqT K H a xs ∧ xs[i]? = some x, fun i H v H' => ∃ T x, v = .ref T ∧ H T = none ∧ H' = upd H T (.tup [.int (i : Nat), x]) ∧ ∀ xs, SqT K H a xs → xs[i]? = some x, fun i H => ∃ xs : List V, SqT K H a xs ∧ xs.length ≤ i⟩
theorem turn_enumT {P : Program} {w : World} {K : PySem.W.Frag} {elts : List Expr} {kk : Nat} {tpos : Pos} (a e it : Addr) :
    Turn P w K (.Tuple elts kk tpos) (IteT K a) [e, it] e (fun i h => (∃ old, IsEnum h e it ((i : Nat) : Int) old) ∧ h.IsTupleIter it a i ∧ e ≠ it ∧ a ≠ it ∧ a ≠ e) where
  mem := by simp
  obj := fun i h st b hb => by
    obtain ⟨⟨old, he⟩, ⟨o, ho, hc, hd⟩, _⟩ := st
    have e' : b = e ∨ b = it := by simpa using hb
    rcases e' with z | z
    · rw [z]; exact ⟨_, he, fun v q => nomatch q⟩
    · rw [z]; exact ⟨o, ho, fun v q => by rw [hd] at q; cases q⟩
  keep := fun i h h' st k => let ⟨⟨old, he⟩, hi, hne⟩ := st; ⟨⟨old, k e (by simp) _ he⟩, hi.at fun o q => k it (by simp) o q, hne⟩
  item := by
    intro X hP hw hK hc i pins s σ H E I hf st hg
    subst hP hw hK
    obtain ⟨⟨old, he⟩, hit, hne, hai, hae⟩ := st
    obtain ⟨xs, x, hq, hx⟩ := hg
    obtain ⟨its, rv, p, hz⟩ := I.tuple hq
    obtain ⟨u, hu, ru⟩ := rv.get hx
    have hel : e < s.heap.objs.size := Heap.lt_size he
    have hil : it < s.heap.objs.size := by obtain ⟨_, q, _⟩ := hit; exact Heap.lt_size q
    have hlen : i < its.toArray.size := by
      have h1 := (List.getElem?_eq_some_iff.mp hu).1
      simpa using h1
    have D : Draws X.prog X.w X.A.in1 it [it, a] its.toArray.size (fun i v => its.toArray[i]? = some v) (fun i h => h.IsTupleIter it a i ∧ h.IsTuple a its.toArray) := Draws.tuple (show X.A.in1.handled = none from I.ok.hd hc) it a hai its.toArray
    refine wpAny_pyNext_enum_itemD D he ⟨hit, p⟩ hlen hne (by simp [hne, Ne.symm hae]) fun u2 h' tk hPx ho hst' hT hsz hk => ?_
    have hu2 : u2 = u := by
      have h1 : its.toArray[i]? = some u := by simpa using hu
      exact Option.some.inj (hPx.symm.trans h1)
    subst hu2
    refine ⟨_, rfl, wpAny_letOwnedTupleGo_enum (s := { s with heap := h', toks := tk + 1 }) ho fun h'' he' sb => ?_⟩
    have hT2 : h''.get? s.heap.objs.size = some { cls := .type "tuple", data := .seq #[.int i tk, u2] } := (sb.2 _ (Nat.ne_of_gt hel)).trans hT
    have new : ObjOk X.prog X.w (upd H s.heap.objs.size (.tup [.int (i : Nat), x])) h'' s.heap.objs.size (.tup [.int (i : Nat), x]) :=
      ⟨by show 2 ≤ sizeLine; decide, [.int i tk, u2], .cons ⟨_, rfl⟩ (.cons ru .nil), ⟨_, hT2, rfl, _, rfl⟩⟩
    have I1 : Inv X pins σ (upd H s.heap.objs.size (.tup [.int (i : Nat), x])) { s with heap := h'', toks := tk + 1 } :=
      I.turnedNew (ch := [e, it]) (fun b ob hb q => (sb.2 b (fun z => hb (by simp [z]))).trans (hk b ob (fun z => hb (by simp [z])) (fun z => hb (by simp [z])) q)) hf (Nat.le_refl _) new
    refine ⟨.ref s.heap.objs.size, _, I1, rfl, ⟨_, x, rfl, I.hok.fresh (Nat.le_refl _), rfl, fun ys hy => by rw [I.tuple_inj hy hq]; exact hx⟩, ⟨⟨u2, ?_⟩, hst'.1.at fun o q => (sb.2 it (Ne.symm hne)).trans q, hne, hai, hae⟩, fun b hb => ?_⟩
    · have e1 : ((i + 1 : Nat) : Int) = (i : Int) + 1 := by omega
      rw [e1]; exact he'
    · have hb' : b < s.heap.objs.size := by
        have e' : b = e ∨ b = it := by simpa using hb
        rcases e' with z | z
        · rw [z]; exact hel
        · rw [z]; exact hil
      rw [upd_ne (Nat.ne_of_lt hb')]
      exact (hf b hb).1
  done := by
    intro X hP hw hK hc i pins s σ H E I hf st hg
    subst hP hw hK
    obtain ⟨⟨old, he⟩, hit, hne, hai, hae⟩ := st
    obtain ⟨xs, hq, hx⟩ := hg
    obtain ⟨its, rv, p, hz⟩ := I.tuple hq
    obtain ⟨f0, f1, f2, f3, f4, f5⟩ := hf it (by simp)
    have hl := rv.length
    have hend : its.toArray[i]? = none := by simp; omega
    have D : Draws X.prog X.w X.A.in1 it [it, a] i (fun _ _ => False) (fun j h => h.IsTupleIter it a j ∧ h.IsTuple a its.toArray ∧ j = i) := {
      live := fun _ _ st => let ⟨o, ho, _⟩ := st.1; ⟨o, ho⟩
      frame := fun _ _ _ st hk => ⟨st.1.at fun o e => hk it (by simp) o e, st.2.1.at fun o e => hk a (by simp) o e, st.2.2⟩
      item := fun j s Q E hi st hQ => absurd hi (by have := st.2.2; omega)
      done := fun s Q E st hE => wpAny_nextOf_tuple_end (show X.A.in1.handled = none from I.ok.hd hc) st.1 st.2.1 hend hE }
    exact wpAny_pyNext_enum_endD D he ⟨hit, p, rfl⟩ fun h' eb => ⟨rfl, I.turned (t' := s.toks) (fun b o hb q => eb b o hb q) f0 f1 f3 f4 f5⟩
  self := fun A i s Q E st h => let ⟨⟨_, he⟩, _⟩ := st; wpAny_pyIter_enum he h
def iEnumT (K : PySem.W.Frag) (ta : TA) : TI := fun σ H R => ta σ H fun vs H1 => ∃ a xs, vs = [.ref a] ∧ SqT K H1 a xs ∧ R (IteT K a) H1
theorem pi_enumT {X : Cx} {e : Expr} {ta : TA} {p pos tpos : Pos} {elts : List Expr} {kk : Nat} (hg : Gl X "enumerate") (hm : X.mg "enumerate" = none) (ha : PA X [e] ta) (hs : starEach [e] X.env = [(false, eval e X.env)] := by rfl) :
    PI X (.Tuple elts kk tpos) (.Call (.Name "enumerate" p) [e] [] pos) (iEnumT X.K ta) := by
  refine ⟨fun pins s σ H R I h => ?_⟩
  refine Call_ (ld_blt I hg hm boot_enumerate (PyProof.Rows.callWith_type1 (thn (ha.run pos pins s σ H _ I h) fun us s1 ⟨vs, H1, I1, r1, q1⟩ => ?_) hs rfl))
  obtain ⟨a, xs, ex, hq, q⟩ := q1
  subst ex
  cases r1 with
  | cons r rr =>
    cases rr
    cases r
    obtain ⟨its, rv, p', hz⟩ := I1.tuple hq
    obtain ⟨oa, hoa, _⟩ := id p'
    have hal : a < s1.heap.objs.size := Heap.lt_size hoa
    refine enum_begins1 (begins_tuple a its.toArray) p' fun h' he hit hsz hk => wpAny_pyIter_enum he ?_
    have I2 : Inv X pins σ H1 { s1 with heap := h' } := I1.kept (t' := s1.toks) hk
    refine ⟨s1.heap.objs.size + 1, [s1.heap.objs.size + 1, s1.heap.objs.size], _, _, H1, rfl, I2, turn_enumT a (s1.heap.objs.size + 1) s1.heap.objs.size, ⟨⟨.none, he⟩, ⟨_, hit, rfl, rfl⟩, Nat.succ_ne_self _, Nat.ne_of_lt hal, Nat.ne_of_lt (Nat.lt_succ_of_lt hal)⟩, fun b hb => ?_, q⟩
    have e' : b = s1.heap.objs.size + 1 ∨ b = s1.heap.objs.size := by simpa using hb
    have hle : s1.heap.objs.size ≤ b := by
      rcases e' with z | z
      · rw [z]; exact Nat.le_add_right _ _
      · rw [z]; exact Nat.le_refl _
    exact I1.fpOk hle (I1.hok.fresh hle)
theorem s_enumT {K : PySem.W.Frag} {ta : TA} {σ : L2.St} {H : Hp} {R : It → Hp → Prop} (h : ta σ H fun vs H1 => ∃ a xs, vs = [.ref a] ∧ SqT K H1 a xs ∧ R (IteT K a) H1) : iEnumT K ta σ H R := h
/-- a loop over enumerate of a tuple -/
theorem for_enumT {K : PySem.W.Frag} {a : Addr} {xs : List V} {g : TG} {tb : TS} {D : Ends} {σ : L2.St} {H : Hp} (Pv : Nat → L2.St → Hp → Prop) (h0 : Pv 0 σ H) (hq : ∀ i σ H, Pv i σ H → SqT K H a xs)
    (hs : ∀ (i : Nat) (x : V) (T : Addr) (σ : L2.St) (H : Hp), xs[i]? = some x → Pv i σ H → H T = none → g (.ref T) σ (upd H T (.tup [.int (i : Nat), x])) fun σ2 H2 => tb { D with nx := Pv (i + 1), ct := Pv (i + 1), bk := D.nx } σ2 H2) (hd : ∀ σ H, Pv xs.length σ H → D.nx σ H) :
    ∃ W : Nat → Nat → L2.St → Hp → Prop, (∃ m, W 0 m σ H) ∧ ∀ i m σ H, W i m σ H →
      ((IteT K a).stop i H ∧ D.nx σ H) ∨ ((IteT K a).go i H ∧ ∃ N : L2.St → Hp → Prop, (∀ σ' H', N σ' H' → ∃ m', m' < m ∧ W (i + 1) m' σ' H') ∧ ∀ v H', (IteT K a).yld i H v H' → g v σ H' fun σ2 H2 => tb { D with nx := N, ct := N, bk := D.nx } σ2 H2) := by
  refine ⟨fun i m σ H => m = xs.length - i ∧ i ≤ xs.length ∧ Pv i σ H, ⟨xs.length, rfl, Nat.zero_le _, h0⟩, ?_⟩
  rintro i m σ H ⟨rfl, hi, p⟩
  have qx := hq i σ H p
  by_cases hlt : i < xs.length
  · have hx : xs[i]? = some xs[i] := List.getElem?_eq_getElem hlt
    refine .inr ⟨⟨xs, _, qx, hx⟩, Pv (i + 1), fun σ' H' p' => ⟨xs.length - (i + 1), by omega, rfl, hlt, p'⟩, fun v H' y => ?_⟩
    obtain ⟨T, x', rfl, hT, rfl, f1⟩ := y
    exact hs i x' T σ H (f1 xs qx) p hT
  · have e : i = xs.length := by omega
    subst e
    exact .inl ⟨⟨xs, qx, Nat.le_refl _⟩, hd σ H p⟩
end RE

/-! the divisor of two numbers: what the loop keeps -/
namespace M
/-- what is told of a and b -/
structure DivOk (a b g u v : Int) : Prop where
  hg : g = (Int.gcd a b : Nat)
  eq : u * a + v * b = g
  hu : u.natAbs ≤ max 1 b.natAbs
  hv : v.natAbs ≤ max 1 a.natAbs
/-- behind the first turn: s the sign of g and rest, t that of u -/
structure DivIn (a b g u v r x y s t : Int) (G R U X q : Nat) : Prop where
  hs : s = 1 ∨ s = -1
  ht : t = 1 ∨ t = -1
  hg : g = s * G
  hr : r = s * R
  hu : u = t * U
  hx : x = -(t * X)
  lt : R < G
  px : 0 < X
  det : X * G + U * R = b.natAbs
  gcd : Nat.gcd G R = Int.gcd a b
  e1 : u * a + v * b = g
  e2 : x * a + y * b = r
  last : (U = 0 ∧ v = 1 ∧ g = b) ∨ (0 < U ∧ U * (q * G + R) ≤ b.natAbs ∧ G < q * G + R)
def DivSt (a b g u v r x y : Int) : Prop :=
  (g = a ∧ u = 1 ∧ v = 0 ∧ r = b ∧ x = 0 ∧ y = 1) ∨ (b ≠ 0 ∧ ∃ s t G R U X q, DivIn a b g u v r x y s t G R U X q)
theorem nabs_sign {s : Int} (hs : s = 1 ∨ s = -1) (n : Nat) : (s * (n : Int)).natAbs = n := by
  rcases hs with rfl | rfl <;> omega
theorem fdiv_sign {s : Int} (hs : s = 1 ∨ s = -1) (G R : Nat) : (s * (G : Int)).fdiv (s * R) = ((G / R : Nat) : Int) := by
  rcases hs with rfl | rfl
  · rw [Int.one_mul, Int.one_mul]; exact (Int.ofNat_fdiv G R).symm
  · rw [Int.neg_one_mul, Int.neg_one_mul, Int.neg_fdiv_neg]; exact (Int.ofNat_fdiv G R).symm
theorem fdiv_le (g r : Int) : (g.fdiv r).natAbs ≤ g.natAbs := by
  rcases Int.lt_trichotomy r 0 with h | h | h
  · have e : g.fdiv r = (-g).fdiv (-r) := (Int.neg_fdiv_neg g r).symm
    rw [e, Int.fdiv_eq_ediv_of_nonneg _ (by omega)]
    have := Int.natAbs_ediv_le_natAbs (-g) (-r)
    omega
  · subst h; simp
  · rw [Int.fdiv_eq_ediv_of_nonneg _ (by omega)]
    exact Int.natAbs_ediv_le_natAbs g r
theorem gcd_sub (a b q : Int) : Int.gcd b (a - q * b) = Int.gcd a b := by
  rw [Int.gcd_sub_mul_right_right]
  exact Int.gcd_comm _ _
theorem fmod_sign (a : Int) {b : Int} (hb : b ≠ 0) : ∃ s R, (s = 1 ∨ s = -1) ∧ b = s * (b.natAbs : Int) ∧ a - a.fdiv b * b = s * ((R : Nat) : Int) ∧ R < b.natAbs := by
  have e : a - a.fdiv b * b = a.fmod b := by rw [Int.fmod_def, Int.mul_comm]
  by_cases h : 0 < b
  · have h1 := Int.fmod_lt_of_pos a h
    have h2 := Int.fmod_nonneg_of_pos a h
    exact ⟨1, (a.fmod b).toNat, .inl rfl, by omega, by rw [e]; omega, by omega⟩
  · have h0 : 0 < -b := by omega
    have e2 : a.fmod b = -((-a).fmod (-b)) := by rw [Int.neg_fmod_neg]; omega
    have h1 := Int.fmod_lt_of_pos (-a) h0
    have h2 := Int.fmod_nonneg_of_pos (-a) h0
    exact ⟨-1, ((-a).fmod (-b)).toNat, .inr rfl, by omega, by rw [e, e2]; omega, by omega⟩
theorem gcd_signs {s : Int} (hs : s = 1 ∨ s = -1) (G R : Nat) : Int.gcd (s * (G : Int)) (s * R) = Nat.gcd G R := by
  unfold Int.gcd
  rw [nabs_sign hs, nabs_sign hs]
theorem div_step {a b g u v r x y : Int} (h : DivSt a b g u v r x y) (hr : r ≠ 0) :
    DivSt a b r x y (g - g.fdiv r * r) (u - g.fdiv r * x) (v - g.fdiv r * y) ∧ (g - g.fdiv r * r).natAbs < r.natAbs := by
  rcases h with ⟨rfl, rfl, rfl, rfl, rfl, rfl⟩ | ⟨hb, s, t, G, R, U, X, q, I⟩
  · obtain ⟨s, R, hs, e1, e2, lt⟩ := fmod_sign g hr
    refine ⟨.inr ⟨hr, s, -1, r.natAbs, R, 0, 1, 0, ⟨hs, .inr rfl, e1, e2, by omega, by omega, lt, by omega, by omega, ?_, by omega, ?_, .inl ⟨rfl, rfl, rfl⟩⟩⟩, ?_⟩
    · have h1 := gcd_sub g r (g.fdiv r)
      rw [e2] at h1
      conv at h1 => lhs; arg 1; rw [e1]
      rw [gcd_signs hs] at h1
      exact h1
    · grind
    · rw [e2, nabs_sign hs]; exact lt
  · obtain ⟨hs, ht, hg, hr', hu, hx, lt, px, det, gcd, e1, e2, last⟩ := I
    have hR : 0 < R := by
      rcases Nat.eq_zero_or_pos R with z | z
      · subst z; rw [hr'] at hr; exact absurd (by simp) hr
      · exact z
    have ed : g.fdiv r = ((G / R : Nat) : Int) := by rw [hg, hr']; exact fdiv_sign hs G R
    have dm := Nat.div_add_mod G R
    have ml := Nat.mod_lt G hR
    have hq : 0 < G / R := Nat.div_pos (Nat.le_of_lt lt) hR
    generalize hQ : G / R = Q at *
    generalize hS : G % R = S at *
    have er : g - (Q : Int) * r = s * (S : Int) := by
      have : (G : Int) = R * Q + S := by rw [← dm]; push_cast; rfl
      rw [hg, hr', this]; grind
    rw [ed]
    refine ⟨.inr ⟨hb, s, -t, R, S, X, U + Q * X, Q, ⟨hs, by omega, hr', er, by rw [hx]; grind, ?_, ml, Nat.add_pos_right _ (Nat.mul_pos hq px), ?_, ?_, e2, by grind, .inr ⟨px, ?_, ?_⟩⟩⟩, ?_⟩
    · rw [hu, hx]; push_cast; grind
    · rw [← det, ← dm]; grind
    · rw [← gcd, ← hS, Nat.gcd_comm G R, Nat.gcd_rec R G, Nat.gcd_comm]
    · rw [← det]
      have : Q * R + S = G := by rw [Nat.mul_comm]; exact dm
      rw [this]; omega
    · have : Q * R + S = G := by rw [Nat.mul_comm]; exact dm
      omega
    · rw [er, hr', nabs_sign hs, nabs_sign hs]; exact ml
/-- the sizes in the loop -/
theorem div_sizes {a b g u v r x y : Int} (h : DivSt a b g u v r x y) : x.natAbs ≤ max 1 b.natAbs ∧ u.natAbs ≤ max 1 b.natAbs ∧ y.natAbs ≤ 1 + a.natAbs ∧ v.natAbs ≤ 1 + a.natAbs ∧ g.natAbs ≤ max a.natAbs b.natAbs ∧ r.natAbs ≤ b.natAbs := by
  rcases h with ⟨rfl, rfl, rfl, rfl, rfl, rfl⟩ | ⟨hb, s, t, G, R, U, X, q, I⟩
  · omega
  · obtain ⟨hs, ht, hg, hr', hu, hx, lt, px, det, gcd, e1, e2, last⟩ := I
    have ex : x.natAbs = X := by rw [hx, Int.natAbs_neg]; exact nabs_sign ht X
    have eu : u.natAbs = U := by rw [hu]; exact nabs_sign ht U
    have eg : g.natAbs = G := by rw [hg]; exact nabs_sign hs G
    have er : r.natAbs = R := by rw [hr']; exact nabs_sign hs R
    have hG : 0 < G := by omega
    have hX : X ≤ X * G := Nat.le_mul_of_pos_right X hG
    have hB : 0 < b.natAbs := by omega
    -- v b = g - u a
    have k : ∀ (z w c : Int), z * a + w * b = c → z.natAbs ≤ b.natAbs → c.natAbs ≤ b.natAbs → w.natAbs ≤ 1 + a.natAbs := fun z w c e hz hc => by
      have e' : w * b = c - z * a := by omega
      have e3 : (w * b).natAbs ≤ c.natAbs + (z * a).natAbs := by rw [e']; omega
      rw [Int.natAbs_mul, Int.natAbs_mul] at e3
      have e4 : z.natAbs * a.natAbs ≤ b.natAbs * a.natAbs := Nat.mul_le_mul_right _ hz
      have e5 : w.natAbs * b.natAbs ≤ (1 + a.natAbs) * b.natAbs := by
        have : (1 + a.natAbs) * b.natAbs = b.natAbs + b.natAbs * a.natAbs := by grind
        omega
      exact Nat.le_of_mul_le_mul_right e5 hB
    have hXb : X ≤ b.natAbs := by omega
    have hGb : g.natAbs ≤ b.natAbs ∧ U ≤ b.natAbs := by
      rcases last with ⟨h1, h2, h3⟩ | ⟨hU, h1, h2⟩
      · rw [h3]; omega
      · have hX1 : G ≤ X * G := Nat.le_mul_of_pos_left G px
        have : U ≤ U * (q * G + R) := Nat.le_mul_of_pos_right U (by omega)
        omega
    have hRb : r.natAbs ≤ b.natAbs := by omega
    have k1 := k u v g e1 (by omega) hGb.1
    have k2 := k x y r e2 (by omega) hRb
    omega
theorem div_half {a b g u v : Int} (e1 : u * a + v * b = g) (hb : 0 < b.natAbs) (h1 : 2 * g.natAbs ≤ b.natAbs) (h2 : 2 * u.natAbs ≤ b.natAbs) : 2 * v.natAbs ≤ 1 + a.natAbs := by
  have e' : v * b = g - u * a := by omega
  have e3 : (v * b).natAbs ≤ g.natAbs + (u * a).natAbs := by rw [e']; omega
  rw [Int.natAbs_mul, Int.natAbs_mul] at e3
  have e4 : 2 * u.natAbs * a.natAbs ≤ b.natAbs * a.natAbs := Nat.mul_le_mul_right _ h2
  have x0 : 2 * u.natAbs * a.natAbs = 2 * (u.natAbs * a.natAbs) := Nat.mul_assoc _ _ _
  have x1 : (1 + a.natAbs) * b.natAbs = b.natAbs + b.natAbs * a.natAbs := by rw [Nat.add_mul, Nat.one_mul, Nat.mul_comm a.natAbs]
  have x2 : (2 * v.natAbs) * b.natAbs = 2 * (v.natAbs * b.natAbs) := Nat.mul_assoc _ _ _
  have e6 : (2 * v.natAbs) * b.natAbs ≤ (1 + a.natAbs) * b.natAbs := by omega
  exact Nat.le_of_mul_le_mul_right e6 hb
theorem div_end {a b g u v r x y : Int} (h : DivSt a b g u v r x y) (hr : r = 0) : Int.gcd a b = g.natAbs ∧ u * a + v * b = g ∧ u.natAbs ≤ max 1 b.natAbs ∧ v.natAbs ≤ max 1 a.natAbs := by
  rcases h with ⟨rfl, rfl, rfl, rfl, rfl, rfl⟩ | ⟨hb, s, t, G, R, U, X, q, I⟩
  · subst hr
    refine ⟨by simp, by omega, by omega, by omega⟩
  · have hsz := div_sizes (.inr ⟨hb, s, t, G, R, U, X, q, I⟩)
    obtain ⟨hs, ht, hg, hr', hu, hx, lt, px, det, gcd, e1, e2, last⟩ := I
    have er : r.natAbs = R := by rw [hr']; exact nabs_sign hs R
    have hR : R = 0 := by omega
    subst hR
    have eg : g.natAbs = G := by rw [hg]; exact nabs_sign hs G
    have eu : u.natAbs = U := by rw [hu]; exact nabs_sign ht U
    refine ⟨by rw [← gcd, eg]; simp, e1, hsz.2.1, ?_⟩
    rcases last with ⟨h1, h2, h3⟩ | ⟨hU, h1, h2⟩
    · rw [h2]; omega
    · have hq : 2 ≤ q := by
        rcases Nat.lt_or_ge q 2 with z | z
        · have : q = 0 ∨ q = 1 := by omega
          rcases this with rfl | rfl <;> omega
        · exact z
      have h3 : 2 * G ≤ q * G := Nat.mul_le_mul_right G hq
      have h4 : U * (2 * G) ≤ b.natAbs := Nat.le_trans (Nat.mul_le_mul_left U (by omega)) h1
      have z1 : 2 * G ≤ U * (2 * G) := Nat.le_mul_of_pos_left _ hU
      have z2 : U * (2 * G) = 2 * U * G := by grind
      have z3 : 2 * U ≤ 2 * U * G := Nat.le_mul_of_pos_right _ (by omega)
      have z4 := div_half e1 (by omega) (by omega) (by omega)
      have ha : a.natAbs = 0 → v.natAbs ≤ 1 := by omega
      omega
theorem div_told {a b g u v r x y : Int} (h : DivSt a b g u v r x y) (hr : r = 0) : (g < 0 → DivOk a b (-g) (-u) (-v)) ∧ (¬ g < 0 → DivOk a b g u v) := by
  obtain ⟨k1, k2, k3, k4⟩ := div_end h hr
  refine ⟨fun z => ⟨by omega, ?_, by omega, by omega⟩, fun z => ⟨by omega, k2, k3, k4⟩⟩
  rw [← k2, Int.neg_mul, Int.neg_mul]; omega
end M

/-! powers by n -/
namespace M
/-- the rest of a power -/
def pw (n a : Int) (e : Nat) : Int := a ^ e % n
theorem pw_range {n : Int} (hn : 0 < n) (a : Int) (e : Nat) : 0 ≤ pw n a e ∧ pw n a e < n := ⟨Int.emod_nonneg _ (by omega), Int.emod_lt_of_pos _ hn⟩
theorem pow_emod (a n : Int) (e : Nat) : (a % n) ^ e % n = a ^ e % n := by
  induction e with
  | zero => rw [Int.pow_zero, Int.pow_zero]
  | succ e ih => rw [Int.pow_succ, Int.pow_succ, Int.mul_emod, ih, Int.emod_emod_of_dvd _ (Int.dvd_refl n), ← Int.mul_emod]
theorem pw_mod (n a : Int) (e : Nat) : pw n (a % n) e = pw n a e := pow_emod a n e
/-- what the loop keeps: found * base ^ e -/
theorem pw_turn {n f b : Int} {e : Nat} {r : Int} (h : f * b ^ e % n = r) :
    (e % 2 = 1 → (f * b % n) * (b * b % n) ^ (e / 2) % n = r) ∧ (e % 2 ≠ 1 → f * (b * b % n) ^ (e / 2) % n = r) := by
  have sq : (b * b) ^ (e / 2) = b ^ (2 * (e / 2)) := by rw [Int.pow_mul, Int.pow_succ, Int.pow_succ, Int.pow_zero, Int.one_mul]
  constructor
  · intro ho
    have ee : e = 2 * (e / 2) + 1 := by omega
    rw [Int.mul_emod, Int.emod_emod_of_dvd _ (Int.dvd_refl n), pow_emod, ← Int.mul_emod, sq, ← h]
    conv => rhs; rw [ee, Int.pow_succ]
    congr 1
    grind
  · intro ho
    have ee : e = 2 * (e / 2) := by omega
    rw [Int.mul_emod, pow_emod, ← Int.mul_emod, sq, ← ee, h]
theorem pw_end {n f : Int} (h0 : 0 ≤ f) (h1 : f < n) {b r : Int} (h : f * b ^ 0 % n = r) : f = r := by
  rw [← h, Int.pow_zero, Int.mul_one, Int.emod_eq_of_lt h0 h1]
theorem pw_one {n a : Int} {e : Nat} : 1 % n * (a % n) ^ e % n = pw n a e := by
  rw [Int.mul_emod, Int.emod_emod_of_dvd _ (Int.dvd_refl n), pow_emod, ← Int.mul_emod, Int.one_mul]; rfl
theorem pw_mul (n a : Int) (e : Nat) : pw n a e * a % n = pw n a (e + 1) := by
  unfold pw
  rw [Int.mul_emod, Int.emod_emod_of_dvd _ (Int.dvd_refl n), ← Int.mul_emod, Int.pow_succ]
theorem pw_zero (n a : Int) : pw n a 0 = 1 % n := by unfold pw; rw [Int.pow_zero]
theorem gcd_mod (a n : Int) : Int.gcd (a % n) n = Int.gcd a n := by
  have e : a % n = a - n * (a / n) := by have := Int.emod_add_mul_ediv a n; omega
  rw [e, Int.gcd_comm, Int.gcd_sub_mul_left_right, Int.gcd_comm]
theorem inv_of {n a g u v : Int} (hn : 0 < n) (h : DivOk (a % n) n g u v) (hg : Int.gcd a n = 1) : (u % n * a - 1) % n = 0 := by
  have e := h.eq
  have hg' : g = 1 := by rw [h.hg, gcd_mod, hg]; rfl
  refine Int.emod_eq_zero_of_dvd ?_
  have e1 : a % n = a - n * (a / n) := by have := Int.emod_add_mul_ediv a n; omega
  have e2 : u % n = u - n * (u / n) := by have := Int.emod_add_mul_ediv u n; omega
  refine ⟨-(v) + u * (a / n) - (u / n) * a, ?_⟩
  rw [hg', e1] at e
  rw [e2]
  grind
theorem gcd_pos {a n : Int} (hn : 0 < n) : 0 < Int.gcd a n := Int.gcd_pos_of_ne_zero_right a (by omega)
/-- numbers with the same product by n -/
theorem inv_unit {n a b : Int} (h : (b * a - 1) % n = 0) : b * a % n = 1 % n := by
  have := Int.emod_emod_of_dvd (b * a) (Int.dvd_refl n)
  exact Int.emod_eq_emod_iff_emod_sub_eq_zero.mpr h
theorem inv_pow {n a b : Int} (h : (b * a - 1) % n = 0) (e : Nat) : (pw n b e * pw n a e - 1) % n = 0 := by
  have e1 : b * a % n = 1 % n := inv_unit h
  refine Int.emod_eq_emod_iff_emod_sub_eq_zero.mp ?_
  unfold pw
  rw [← Int.mul_emod, ← Int.mul_pow, ← pow_emod, e1, pow_emod, Int.one_pow]
theorem back_ok {n a b : Int} (hn : 0 < n) (h : (b * a - 1) % n = 0) (e : Nat) : (pw n b (e + 1) * pw n a e * a - 1) % n = 0 := by
  have k := inv_pow h (e + 1)
  rw [← pw_mul n a e] at k
  refine Int.emod_eq_emod_iff_emod_sub_eq_zero.mp ?_
  rw [← Int.emod_eq_emod_iff_emod_sub_eq_zero.mpr k, Int.mul_assoc, Int.mul_emod]
  conv => rhs; rw [Int.mul_emod, Int.emod_emod_of_dvd _ (Int.dvd_refl n)]
theorem gcd_abs (a : Int) {n : Int} (hn : 0 < n) : Nat.gcd n.natAbs (a.natAbs % n.natAbs) = Int.gcd a n := by
  rw [Nat.gcd_comm, ← Nat.gcd_rec, Nat.gcd_comm]; rfl
theorem pw_add (n a : Int) (e f : Nat) : pw n a (e + f) = pw n a e * pw n a f % n := by
  unfold pw
  rw [← Int.mul_emod, Int.pow_add]
theorem pw_pw (n a : Int) (e f : Nat) : pw n a (e * f) = pw n (pw n a e) f := by
  unfold pw
  rw [pow_emod, ← Int.pow_mul]
theorem pw_prod (n a b : Int) (e : Nat) : pw n (a * b) e = pw n a e * pw n b e % n := by
  unfold pw
  rw [← Int.mul_emod, Int.mul_pow]
theorem pw_congr {n a b : Int} (h : a % n = b % n) (e : Nat) : pw n a e = pw n b e := by rw [← pw_mod n a, ← pw_mod n b, h]
theorem inv_unique {n a b c : Int} (b0 : 0 ≤ b) (b1 : b < n) (c0 : 0 ≤ c) (c1 : c < n) (hb : (b * a - 1) % n = 0) (hc : (c * a - 1) % n = 0) : b = c := by
  have h1 : (b - c) % n = 0 := by
    obtain ⟨x, hx⟩ := Int.dvd_of_emod_eq_zero hb
    obtain ⟨y, hy⟩ := Int.dvd_of_emod_eq_zero hc
    refine Int.emod_eq_zero_of_dvd ⟨c * x - b * y, ?_⟩
    have e : b - c = c * (b * a - 1) - b * (c * a - 1) := by grind
    rw [e, hx, hy]; grind
  have h2 := Int.emod_eq_emod_iff_emod_sub_eq_zero.mpr h1
  rw [Int.emod_eq_of_lt b0 b1, Int.emod_eq_of_lt c0 c1] at h2
  exact h2
theorem emod_one_of {n x : Int} (h : (x - 1) % n = 0) : x % n = 1 % n := Int.emod_eq_emod_iff_emod_sub_eq_zero.mpr h
end M

/-! primes -/
namespace M
def Prime (p : Nat) : Prop := 2 ≤ p ∧ ∀ d, d ∣ p → d = 1 ∨ d = p
theorem Prime.pos {p : Nat} (h : Prime p) : 0 < p := by have := h.1; omega
theorem Prime.coprime {p a : Nat} (h : Prime p) (ha : ¬ p ∣ a) : Nat.gcd p a = 1 := by
  rcases h.2 _ (Nat.gcd_dvd_left p a) with e | e
  · exact e
  · exact absurd (e ▸ Nat.gcd_dvd_right p a) ha
theorem Prime.dvd_mul {p a b : Nat} (h : Prime p) (hd : p ∣ a * b) : p ∣ a ∨ p ∣ b := by
  by_cases ha : p ∣ a
  · exact .inl ha
  · exact .inr (Nat.Coprime.dvd_of_dvd_mul_left (h.coprime ha) hd)
theorem Prime.dvd_pow {p a : Nat} (h : Prime p) : ∀ {e : Nat}, p ∣ a ^ e → p ∣ a
  | 0, hd => by
    rw [Nat.pow_zero] at hd
    have := Nat.le_of_dvd (by decide) hd
    have := h.1; omega
  | e + 1, hd => by
    rw [Nat.pow_succ] at hd
    rcases h.dvd_mul hd with z | z
    · exact h.dvd_pow z
    · exact z
theorem Prime.eq_of_dvd {p q : Nat} (hp : Prime p) (hq : Prime q) (h : p ∣ q) : p = q := by
  rcases hq.2 p h with e | e
  · have := hp.1; omega
  · exact e
/-- each number from 2 on has a least divisor, a prime -/
theorem exists_prime : ∀ (n : Nat), 2 ≤ n → ∃ p, Prime p ∧ p ∣ n := by
  intro n
  induction n using Nat.strongRecOn with
  | _ n ih =>
    intro hn
    by_cases h : ∃ d, d ∣ n ∧ d ≠ 1 ∧ d ≠ n
    · obtain ⟨d, h1, h2, h3⟩ := h
      have hd : d ≤ n := Nat.le_of_dvd (by omega) h1
      have h0 : d ≠ 0 := fun z => by rw [z] at h1; have := Nat.eq_zero_of_zero_dvd h1; omega
      obtain ⟨p, hp, hpd⟩ := ih d (by omega) (by omega)
      exact ⟨p, hp, Nat.dvd_trans hpd h1⟩
    · refine ⟨n, ⟨hn, fun d hd => ?_⟩, Nat.dvd_refl n⟩
      by_cases h1 : d = 1
      · exact .inl h1
      · by_cases h2 : d = n
        · exact .inr h2
        · exact absurd ⟨d, hd, h1, h2⟩ h
/-- no lesser divisor from 2 to the root -/
theorem prime_of_no {n : Nat} (hn : 2 ≤ n) (h : ∀ d, 2 ≤ d → d * d ≤ n → ¬ d ∣ n) : Prime n := by
  obtain ⟨p, hp, hd⟩ := exists_prime n hn
  obtain ⟨c, hc⟩ := hd
  by_cases e : c = 1
  · subst e
    rw [Nat.mul_one] at hc
    rw [hc]; exact hp
  · exfalso
    have hc0 : 2 ≤ c := by
      rcases Nat.lt_or_ge c 2 with z | z
      · have : c = 0 ∨ c = 1 := by omega
        rcases this with rfl | rfl
        · omega
        · exact absurd rfl e
      · exact z
    have hp2 := hp.1
    rcases Nat.le_total p c with z | z
    · refine h p hp2 ?_ ⟨c, hc⟩
      rw [hc]; exact Nat.mul_le_mul_left p z
    · refine h c hc0 ?_ ⟨p, by rw [hc, Nat.mul_comm]⟩
      rw [hc]; exact Nat.mul_le_mul_right c z
/-- powers of a prime: what is left without it -/
theorem split_prime {q : Nat} (hq : Prime q) : ∀ (n : Nat), 0 < n → ∃ k m, n = q ^ k * m ∧ ¬ q ∣ m ∧ 0 < m := by
  intro n
  induction n using Nat.strongRecOn with
  | _ n ih =>
    intro hn
    by_cases h : q ∣ n
    · obtain ⟨c, hc⟩ := h
      have hc0 : 0 < c := by
        rcases Nat.eq_zero_or_pos c with z | z
        · rw [z] at hc; omega
        · exact z
      have hq2 := hq.1
      have hlt : c < n := by
        rw [hc]
        have : 2 * c ≤ q * c := Nat.mul_le_mul_right c hq2
        omega
      obtain ⟨k, m, h1, h2, h3⟩ := ih c hlt hc0
      exact ⟨k + 1, m, by rw [hc, h1, Nat.pow_succ]; grind, h2, h3⟩
    · exact ⟨0, n, by simp, h, hn⟩
theorem coprime_pow {q m : Nat} (hq : Prime q) (h : ¬ q ∣ m) (k : Nat) : Nat.gcd (q ^ k) m = 1 := Nat.Coprime.pow_left k (hq.coprime h)
/-- n divides m where each power of a prime that divides n does -/
theorem dvd_of_prime_powers : ∀ (n m : Nat), 0 < n → (∀ q k, Prime q → q ^ k ∣ n → q ^ k ∣ m) → n ∣ m := by
  intro n
  induction n using Nat.strongRecOn with
  | _ n ih =>
    intro m hn h
    by_cases h1 : n = 1
    · rw [h1]; exact Nat.one_dvd m
    · obtain ⟨q, hq, hd⟩ := exists_prime n (by omega)
      obtain ⟨k, c, e, hc, hc0⟩ := split_prime hq n hn
      have hk : 0 < k := by
        rcases Nat.eq_zero_or_pos k with z | z
        · rw [z, Nat.pow_zero, Nat.one_mul] at e; rw [e] at hd; exact absurd hd hc
        · exact z
      have hlt : c < n := by
        rw [e]
        have : q ^ 1 ≤ q ^ k := Nat.pow_le_pow_right hq.pos hk
        have h2 := hq.1
        rw [Nat.pow_one] at this
        have : 2 * c ≤ q ^ k * c := Nat.mul_le_mul_right c (by omega)
        omega
      have d1 : q ^ k ∣ m := h q k hq ⟨c, e⟩
      have d2 : c ∣ m := ih c hlt m hc0 fun r j hr hj => h r j hr (Nat.dvd_trans hj ⟨q ^ k, by rw [e, Nat.mul_comm]⟩)
      rw [e]
      exact Nat.Coprime.mul_dvd_of_dvd_of_dvd (coprime_pow hq hc k) d1 d2
end M

/-! numbers parted into primes -/
namespace M
def prodL : List (Nat × Nat) → Nat
  | [] => 1
  | x :: l => x.1 ^ x.2 * prodL l
theorem prodL_app (l m : List (Nat × Nat)) : prodL (l ++ m) = prodL l * prodL m := by
  induction l with
  | nil => simp [prodL]
  | cons x l ih => simp only [List.cons_append, prodL, ih]; grind
structure IsFac (n : Nat) (l : List (Nat × Nat)) : Prop where
  sorted : l.Pairwise (fun x y => x.1 < y.1)
  primes : ∀ x ∈ l, Prime x.1 ∧ 0 < x.2
  prod : prodL l = n
/-- so far: the primes below d are taken out -/
structure Fac (n0 : Nat) (l : List (Nat × Nat)) (n d : Nat) : Prop where
  sorted : l.Pairwise (fun x y => x.1 < y.1)
  below : ∀ x ∈ l, x.1 < d
  primes : ∀ x ∈ l, Prime x.1 ∧ 0 < x.2
  prod : prodL l * n = n0
  no : ∀ e, 2 ≤ e → e < d → ¬ e ∣ n
  npos : 0 < n
  dtwo : 2 ≤ d
theorem fac_start {n : Nat} (h : 0 < n) : Fac n [] n 2 := ⟨.nil, by simp, by simp, by simp [prodL], fun e h1 h2 => by omega, h, Nat.le_refl 2⟩
theorem fac_end {n0 n d : Nat} {l : List (Nat × Nat)} (h : Fac n0 l n d) (hn : n ≤ 1) : IsFac n0 l := by
  have : n = 1 := by have := h.npos; omega
  subst this
  exact ⟨h.sorted, h.primes, by rw [← h.prod, Nat.mul_one]⟩
section
variable {n0 n d : Nat} {l : List (Nat × Nat)}
theorem fac_le (h : Fac n0 l n d) (hn : 1 < n) : d ≤ n := by
  rcases Nat.lt_or_ge n d with z | z
  · exact absurd (Nat.dvd_refl n) (h.no n hn z)
  · exact z
/-- beyond the root what is left is a prime -/
theorem fac_jump (h : Fac n0 l n d) (hn : 1 < n) (hd : n < d * d) : Fac n0 l n n := by
  have hl := fac_le h hn
  refine ⟨h.sorted, fun x hx => Nat.lt_of_lt_of_le (h.below x hx) hl, h.primes, h.prod, fun e h1 h2 hd' => ?_, h.npos, hn⟩
  obtain ⟨c, hc⟩ := hd'
  have e1 : d ≤ e := by
    rcases Nat.lt_or_ge e d with z | z
    · exact absurd ⟨c, hc⟩ (h.no e h1 z)
    · exact z
  have c2 : 2 ≤ c := by
    rcases Nat.lt_or_ge c 2 with z | z
    · have : c = 0 ∨ c = 1 := by omega
      rcases this with rfl | rfl <;> omega
    · exact z
  have e2 : d ≤ c := by
    rcases Nat.lt_or_ge c d with z | z
    · exact absurd ⟨e, by rw [hc, Nat.mul_comm]⟩ (h.no c c2 z)
    · exact z
  have := Nat.mul_le_mul e1 e2
  omega
theorem fac_prime (h : Fac n0 l n d) (hd : d ∣ n) : Prime d := prime_of_no h.dtwo fun e h1 h2 h3 => by
  have : e < d := by
    rcases Nat.lt_or_ge e d with z | z
    · exact z
    · have := Nat.mul_le_mul z h1
      have h4 := h.dtwo
      have h5 : d * 2 ≤ e * e := Nat.le_trans this (Nat.le_refl _)
      omega
  exact h.no e h1 this (Nat.dvd_trans h3 hd)
theorem dvd_pow_self (d : Nat) {k : Nat} (hk : 0 < k) : d ∣ d ^ k := by
  obtain ⟨j, rfl⟩ : ∃ j, k = j + 1 := ⟨k - 1, by omega⟩
  rw [Nat.pow_succ]; exact Nat.dvd_mul_left d _
/-- d taken out k times, m left -/
theorem fac_step {k m : Nat} (h : Fac n0 l n d) (e : n = d ^ k * m) (hm : ¬ d ∣ m) : Fac n0 (if 0 < k then l ++ [(d, k)] else l) m (d + 1) := by
  have m0 : 0 < m := Nat.pos_of_ne_zero fun z => by rw [z, Nat.mul_zero] at e; have := h.npos; omega
  have hno : ∀ f, 2 ≤ f → f < d + 1 → ¬ f ∣ m := fun f h1 h2 h3 => by
    by_cases hf : f = d
    · exact hm (hf ▸ h3)
    · exact h.no f h1 (by omega) (by rw [e]; exact Nat.dvd_trans h3 (Nat.dvd_mul_left m _))
  have hd2 := h.dtwo
  by_cases hk : 0 < k
  · rw [if_pos hk]
    have hdn : d ∣ n := by
      rw [e]
      exact Nat.dvd_trans (dvd_pow_self d hk) (Nat.dvd_mul_right _ _)
    refine ⟨?_, fun x hx => ?_, fun x hx => ?_, ?_, hno, m0, by omega⟩
    · refine List.pairwise_append.mpr ⟨h.sorted, List.pairwise_singleton _ _, fun x hx y hy => ?_⟩
      rw [List.mem_singleton.mp hy]; exact h.below x hx
    · rcases List.mem_append.mp hx with z | z
      · have := h.below x z; omega
      · rw [List.mem_singleton.mp z]; exact Nat.lt_succ_self d
    · rcases List.mem_append.mp hx with z | z
      · exact h.primes x z
      · rw [List.mem_singleton.mp z]; exact ⟨fac_prime h hdn, hk⟩
    · rw [prodL_app, ← h.prod, e]; simp only [prodL]; grind
  · have k0 : k = 0 := by omega
    subst k0
    rw [if_neg (by omega)]
    have e' : n = m := by rw [e, Nat.pow_zero, Nat.one_mul]
    exact ⟨h.sorted, fun x hx => by have := h.below x hx; omega, h.primes, by rw [← e']; exact h.prod, hno, m0, by omega⟩
/-- an even number more may be left out -/
theorem fac_odd (h : Fac n0 l n d) (h2 : 2 < d) (he : d % 2 = 0) : Fac n0 l n (d + 1) := by
  refine ⟨h.sorted, fun x hx => by have := h.below x hx; omega, h.primes, h.prod, fun f h1 h3 h4 => ?_, h.npos, by omega⟩
  by_cases hf : f = d
  · have : 2 ∣ f := by rw [hf]; exact Nat.dvd_of_mod_eq_zero he
    exact h.no 2 (by decide) h2 (Nat.dvd_trans this h4)
  · exact h.no f h1 (by omega) h4
end
/-! what a parting tells -/
theorem prodL_dvd {l : List (Nat × Nat)} {x : Nat × Nat} (h : x ∈ l) : x.1 ^ x.2 ∣ prodL l := by
  induction l with
  | nil => simp at h
  | cons y l ih =>
    rcases List.mem_cons.mp h with z | z
    · rw [z]; exact Nat.dvd_mul_right _ _
    · exact Nat.dvd_trans (ih z) (Nat.dvd_mul_left _ _)
theorem fac_dvd {n : Nat} {l : List (Nat × Nat)} (h : IsFac n l) {x : Nat × Nat} (hx : x ∈ l) : x.1 ∣ n := by
  rw [← h.prod]
  refine Nat.dvd_trans ?_ (prodL_dvd hx)
  obtain ⟨j, e⟩ : ∃ j, x.2 = j + 1 := ⟨x.2 - 1, by have := (h.primes x hx).2; omega⟩
  rw [e, Nat.pow_succ]; exact Nat.dvd_mul_left _ _
theorem prime_in {l : List (Nat × Nat)} {q : Nat} (hq : Prime q) (hl : ∀ x ∈ l, Prime x.1 ∧ 0 < x.2) (h : q ∣ prodL l) : ∃ k, (q, k) ∈ l := by
  induction l with
  | nil =>
    simp only [prodL] at h
    have := Nat.le_of_dvd (by decide) h
    have := hq.1; omega
  | cons x l ih =>
    simp only [prodL] at h
    rcases hq.dvd_mul h with z | z
    · have := hq.eq_of_dvd (hl x (by simp)).1 (hq.dvd_pow z)
      exact ⟨x.2, by rw [this]; simp⟩
    · obtain ⟨k, hk⟩ := ih (fun y hy => hl y (by simp [hy])) z
      exact ⟨k, by simp [hk]⟩
theorem fac_prime_in {n q : Nat} {l : List (Nat × Nat)} (h : IsFac n l) (hq : Prime q) (hd : q ∣ n) : ∃ k, (q, k) ∈ l := prime_in hq h.primes (by rw [h.prod]; exact hd)
theorem Fac.of {n : Nat} {l : List (Nat × Nat)} (h : IsFac n l) (hn : 0 < n) : ∃ d, Fac n l 1 d := by
  have : ∃ d, ∀ x ∈ l, x.1 < d := by
    have key : ∀ l : List (Nat × Nat), ∃ d, ∀ x ∈ l, x.1 < d := fun l => by
      induction l with
      | nil => exact ⟨0, by simp⟩
      | cons y l ih =>
        obtain ⟨d, hd⟩ := ih
        exact ⟨d + y.1 + 1, fun x hx => by
          rcases List.mem_cons.mp hx with z | z
          · rw [z]; omega
          · have := hd x z; omega⟩
    exact key l
  obtain ⟨d, hd⟩ := this
  refine ⟨d + 2, h.sorted, fun x hx => by have := hd x hx; omega, h.primes, by rw [Nat.mul_one]; exact h.prod, fun e h1 h2 h3 => ?_, by decide, by omega⟩
  have := Nat.le_of_dvd (by decide) h3
  omega
end M

/-! orders by a prime, and a number of the order p - 1 -/
namespace M
/-! roots of a polynomial by a prime -/
def ev (l : List Int) (x : Int) : Int := l.foldr (fun c acc => c + x * acc) 0
theorem ev_cons (c : Int) (l : List Int) (x : Int) : ev (c :: l) x = c + x * ev l x := rfl
def sd (r : Int) : List Int → List Int
  | [] => []
  | [_] => []
  | _ :: d :: l => ev (d :: l) r :: sd r (d :: l)
def lead (l : List Int) : Int := l.getLast?.getD 0
theorem sd_len (r : Int) : ∀ (c : Int) (l : List Int), (sd r (c :: l)).length = l.length
  | _, [] => rfl
  | _, d :: l => by rw [sd, List.length_cons, List.length_cons, sd_len r d l]
theorem sd_ev (r x : Int) : ∀ (c : Int) (l : List Int), ev (c :: l) x - ev (c :: l) r = (x - r) * ev (sd r (c :: l)) x
  | c, [] => by simp [ev, sd]
  | c, d :: l => by
    have ih := sd_ev r x d l
    show (c + x * ev (d :: l) x) - (c + r * ev (d :: l) r) = (x - r) * (ev (d :: l) r + x * ev (sd r (d :: l)) x)
    generalize ev (d :: l) x = A at *
    generalize ev (d :: l) r = B at *
    generalize ev (sd r (d :: l)) x = C at *
    grind
theorem sd_lead (r : Int) : ∀ (c d : Int) (l : List Int), lead (sd r (c :: d :: l)) = lead (c :: d :: l)
  | c, d, [] => by simp [sd, lead, ev]
  | c, d, e :: l => by
    have ih := sd_lead r d e l
    rw [sd]
    unfold lead at *
    rw [List.getLast?_cons_cons] 
    have h : sd r (d :: e :: l) ≠ [] := by rw [sd]; simp
    rw [List.getLast?_cons_of_ne_nil h]
    exact ih
theorem dvd_mul_int {p : Nat} (hp : Prime p) {a b : Int} (h : (p : Int) ∣ a * b) : (p : Int) ∣ a ∨ (p : Int) ∣ b := by
  have h1 := Int.ofNat_dvd_left.mp h
  rw [Int.natAbs_mul] at h1
  rcases hp.dvd_mul h1 with z | z
  · exact .inl (Int.ofNat_dvd_left.mpr z)
  · exact .inr (Int.ofNat_dvd_left.mpr z)
/-- as many roots, apart by p, as coefficients: the leading one is divided -/
theorem roots_lead {p : Nat} (hp : Prime p) : ∀ (d : Nat) (c : List Int) (rs : List Int), c.length = d + 1 → rs.length = d + 1 → rs.Pairwise (fun x y => ¬ (p : Int) ∣ y - x) → (∀ r ∈ rs, (p : Int) ∣ ev c r) → (p : Int) ∣ lead c
  | 0, c, rs, hc, hr, _, h => by
    match c, rs, hc, hr with
    | [c], [r], _, _ =>
      have := h r (by simp)
      simpa [ev, lead] using this
  | d + 1, c, rs, hc, hr, hd, h => by
    match c, rs, hc, hr with
    | c0 :: c1 :: c, r :: rs, hc, hr =>
      rw [← sd_lead r c0 c1 c]
      rw [List.pairwise_cons] at hd
      refine roots_lead hp d (sd r (c0 :: c1 :: c)) rs (by rw [sd_len]; simpa using hc) (by simpa using hr) hd.2 fun s hs => ?_
      have e := sd_ev r s c0 (c1 :: c)
      have h1 := Int.dvd_sub (h s (by simp [hs])) (h r (by simp))
      rw [e] at h1
      rcases dvd_mul_int hp h1 with z | z
      · exact absurd z (hd.1 s hs)
      · exact z
theorem ev_xn (m : Nat) (x : Int) : ev (List.replicate m 0 ++ [1]) x = x ^ m := by
  induction m with
  | zero => simp [ev]
  | succ m ih =>
    rw [List.replicate_succ, List.cons_append, ev_cons, ih, Int.pow_succ]
    grind
/-- at most m numbers, apart by p, whose power to m is 1 -/
theorem roots_le {p m : Nat} (hp : Prime p) (hm : 0 < m) {rs : List Int} (hd : rs.Pairwise (fun x y => ¬ (p : Int) ∣ y - x)) (h : ∀ r ∈ rs, (p : Int) ∣ r ^ m - 1) : rs.length ≤ m := by
  rcases Nat.lt_or_ge m rs.length with z | z
  · exfalso
    obtain ⟨k, rfl⟩ : ∃ k, m = k + 1 := ⟨m - 1, by omega⟩
    have hl := roots_lead hp (k + 1) ((-1) :: (List.replicate k 0 ++ [1])) (rs.take (k + 2)) (by simp) (by rw [List.length_take]; omega)
      (hd.sublist (List.take_sublist _ _)) fun r hr => by
        have h1 := h r (List.mem_of_mem_take hr)
        rw [ev_cons, ev_xn]
        have e : -1 + r * r ^ k = r ^ (k + 1) - 1 := by rw [Int.pow_succ]; grind
        rw [e]; exact h1
    have e : lead ((-1) :: (List.replicate k 0 ++ [1])) = 1 := by
      unfold lead
      rw [← List.cons_append, List.getLast?_concat]; rfl
    rw [e] at hl
    have h2 := Int.le_of_dvd (by decide) hl
    have := hp.1
    omega
  · exact z
/-! pigeons -/
theorem pig : ∀ (n : Nat) (l : List Nat), l.Nodup → (∀ x ∈ l, x < n) → l.length ≤ n
  | 0, l, _, h => by
    match l with
    | [] => exact Nat.le_refl 0
    | x :: l => exact absurd (h x (by simp)) (by omega)
  | n + 1, l, hd, h => by
    by_cases hn : n ∈ l
    · obtain ⟨a, b, e⟩ := List.append_of_mem hn
      subst e
      have h1 := pig n (a ++ b) (by
        have := List.nodup_append.mp hd
        have h2 := List.nodup_cons.mp this.2.1
        refine List.nodup_append.mpr ⟨this.1, h2.2, fun x hx y hy => this.2.2 x hx y (by simp [hy])⟩) fun x hx => by
          have h2 : x < n + 1 := h x (by rcases List.mem_append.mp hx with z | z <;> simp [z])
          have h3 : x ≠ n := fun e => by
            subst e
            have := List.nodup_append.mp hd
            rcases List.mem_append.mp hx with z | z
            · exact this.2.2 x z x (by simp) rfl
            · exact (List.nodup_cons.mp this.2.1).1 z
          omega
      rw [List.length_append] at h1 ⊢
      rw [List.length_cons]; omega
    · exact Nat.le_succ_of_le (pig n l hd fun x hx => by
        have h2 := h x hx
        have h3 : x ≠ n := fun e => hn (e ▸ hx)
        omega)
end M

/-! orders -/
namespace M
def is1 (p : Nat) (a : Int) (e : Nat) : Prop := (p : Int) ∣ a ^ e - 1
def un (p : Nat) (a : Int) : Prop := ¬ (p : Int) ∣ a
structure Ord (p : Nat) (a : Int) (m : Nat) : Prop where
  pos : 0 < m
  one : is1 p a m
  least : ∀ f, 0 < f → is1 p a f → m ≤ f
theorem exists_min {P : Nat → Prop} : ∀ n, P n → ∃ m, P m ∧ ∀ k, P k → m ≤ k := by
  intro n
  induction n using Nat.strongRecOn with
  | _ n ih =>
    intro h
    by_cases c : ∃ k, P k ∧ k < n
    · obtain ⟨k, h1, h2⟩ := c
      exact ih k h2 h1
    · exact ⟨n, h, fun k hk => by
        rcases Nat.lt_or_ge k n with z | z
        · exact absurd ⟨k, hk, z⟩ c
        · exact z⟩
theorem exists_max {P : Nat → Prop} (B : Nat) (hB : ∀ n, P n → n ≤ B) {n : Nat} (h : P n) : ∃ m, P m ∧ ∀ k, P k → k ≤ m := by
  obtain ⟨d, ⟨m, hm, e⟩, hd⟩ := exists_min (P := fun d => ∃ m, P m ∧ d = B - m) (B - n) ⟨n, h, rfl⟩
  refine ⟨m, hm, fun k hk => ?_⟩
  have h1 := hd (B - k) ⟨k, hk, rfl⟩
  have := hB k hk
  have := hB m hm
  omega
section
variable {p : Nat} {a b : Int} {e f m n : Nat}
theorem one_zero : is1 p a 0 := by unfold is1; rw [Int.pow_zero]; simp
theorem one_add (h : is1 p a e) (h' : is1 p a f) : is1 p a (e + f) := by
  unfold is1 at *
  have : a ^ (e + f) - 1 = a ^ e * (a ^ f - 1) + (a ^ e - 1) := by rw [Int.pow_add]; grind
  rw [this]
  exact Int.dvd_add (Int.dvd_trans h' ⟨a ^ e, Int.mul_comm _ _⟩) h
theorem one_mul_ (h : is1 p a e) (k : Nat) : is1 p a (e * k) := by
  induction k with
  | zero => rw [Nat.mul_zero]; exact one_zero
  | succ k ih => rw [Nat.mul_succ]; exact one_add ih h
theorem one_of_dvd (h : is1 p a e) (d : e ∣ f) : is1 p a f := by
  obtain ⟨k, rfl⟩ := d
  exact one_mul_ h k
theorem not_dvd_of_one (hp : Prime p) (h : is1 p a e) : ¬ (p : Int) ∣ a ^ e := fun z => by
  have h1 := Int.dvd_sub z h
  rw [show a ^ e - (a ^ e - 1) = 1 by omega] at h1
  have h2 := Int.le_of_dvd (by decide) h1
  have := hp.1
  omega
theorem one_sub (hp : Prime p) (h : is1 p a (e + f)) (h' : is1 p a e) : is1 p a f := by
  have n1 := not_dvd_of_one hp h'
  unfold is1 at *
  have : a ^ (e + f) - 1 = a ^ e * (a ^ f - 1) + (a ^ e - 1) := by rw [Int.pow_add]; grind
  rw [this] at h
  have h2 := Int.dvd_sub h h'
  rw [show a ^ e * (a ^ f - 1) + (a ^ e - 1) - (a ^ e - 1) = a ^ e * (a ^ f - 1) by omega] at h2
  rcases dvd_mul_int hp h2 with z | z
  · exact absurd z n1
  · exact z
theorem Ord.dvd (hp : Prime p) (o : Ord p a m) (h : is1 p a f) : m ∣ f := by
  have h1 : is1 p a (m * (f / m)) := one_mul_ o.one _
  have h2 : is1 p a (f % m) := one_sub hp (e := m * (f / m)) (by rw [Nat.div_add_mod]; exact h) h1
  rcases Nat.eq_zero_or_pos (f % m) with z | z
  · exact Nat.dvd_of_mod_eq_zero z
  · have := o.least _ z h2
    have := Nat.mod_lt f o.pos
    omega
theorem Ord.iff (hp : Prime p) (o : Ord p a m) : is1 p a f ↔ m ∣ f := ⟨o.dvd hp, one_of_dvd o.one⟩
theorem Ord.of_iff (hm : 0 < m) (h : ∀ f, is1 p a f ↔ m ∣ f) : Ord p a m := ⟨hm, (h m).mpr (Nat.dvd_refl m), fun f hf h1 => Nat.le_of_dvd hf ((h f).mp h1)⟩
theorem Ord.unique (hp : Prime p) (o : Ord p a m) (o' : Ord p a n) : m = n := Nat.dvd_antisymm (o.dvd hp o'.one) (o'.dvd hp o.one)
theorem unit_pow (hp : Prime p) (h : un p a) : ∀ e, ¬ (p : Int) ∣ a ^ e
  | 0 => by
    rw [Int.pow_zero]
    intro z
    have := Int.le_of_dvd (by decide) z
    have := hp.1
    omega
  | e + 1 => by
    rw [Int.pow_succ]
    intro z
    rcases dvd_mul_int hp z with z | z
    · exact unit_pow hp h e z
    · exact h z
/-- two powers alike -/
theorem one_of_alike (hp : Prime p) (h : un p a) (hf : (p : Int) ∣ a ^ (e + f) - a ^ e) : is1 p a f := by
  have : a ^ (e + f) - a ^ e = a ^ e * (a ^ f - 1) := by rw [Int.pow_add]; grind
  rw [this] at hf
  rcases dvd_mul_int hp hf with z | z
  · exact absurd z (unit_pow hp h e)
  · exact z
theorem toNat_alike {x y : Int} (hp : 0 < p) (h : (x % (p : Int)).toNat = (y % (p : Int)).toNat) : (p : Int) ∣ y - x := by
  have h1 := Int.emod_nonneg x (show (p : Int) ≠ 0 by omega)
  have h2 := Int.emod_nonneg y (show (p : Int) ≠ 0 by omega)
  have h3 : y % (p : Int) = x % p := by omega
  exact Int.dvd_of_emod_eq_zero (Int.emod_eq_emod_iff_emod_sub_eq_zero.mp h3)
/-- the powers below a bound that has no 1 behind it are unlike, none of them nought -/
theorem powers_le (hp : Prime p) (h : un p a) (no : ∀ f, 0 < f → f < n → ¬ is1 p a f) : n ≤ p - 1 := by
  have hp0 := hp.pos
  have hpos : ∀ i, 0 < (a ^ i % (p : Int)).toNat := fun i => by
    have h1 := Int.emod_nonneg (a ^ i) (show (p : Int) ≠ 0 by omega)
    have h2 : a ^ i % (p : Int) ≠ 0 := fun z => unit_pow hp h i (Int.dvd_of_emod_eq_zero z)
    omega
  have hlt : ∀ i, (a ^ i % (p : Int)).toNat < p := fun i => by
    have h1 := Int.emod_nonneg (a ^ i) (show (p : Int) ≠ 0 by omega)
    have h2 := Int.emod_lt_of_pos (a ^ i) (show (0 : Int) < p by omega)
    omega
  have h1 := pig (p - 1) ((List.range n).map fun i => (a ^ i % (p : Int)).toNat - 1) (by
    unfold List.Nodup
    rw [List.pairwise_map]
    refine List.Pairwise.imp_of_mem ?_ (List.pairwise_lt_range (n := n))
    intro i j hi hj hij e
    have hj' := List.mem_range.mp hj
    have e2 : (a ^ i % (p : Int)).toNat = (a ^ j % (p : Int)).toNat := by have := hpos i; have := hpos j; omega
    have e3 := toNat_alike hp0 e2
    obtain ⟨d, rfl⟩ : ∃ d, j = i + d := ⟨j - i, by omega⟩
    exact no d (by omega) (by omega) (one_of_alike hp h e3)) fun x hx => by
      obtain ⟨i, _, rfl⟩ := List.mem_map.mp hx
      have := hpos i; have := hlt i
      omega
  rwa [List.length_map, List.length_range] at h1
theorem exists_ord (hp : Prime p) (h : un p a) : ∃ m, Ord p a m := by
  have ex : ∃ e, 0 < e ∧ is1 p a e := by
    refine Classical.byContradiction fun no => ?_
    have := powers_le (n := p) hp h fun f hf _ hf' => no ⟨f, hf, hf'⟩
    have := hp.1
    omega
  obtain ⟨e, he⟩ := ex
  obtain ⟨m, h1, h2⟩ := exists_min (P := fun e => 0 < e ∧ is1 p a e) e he
  exact ⟨m, h1.1, h1.2, fun f hf h => h2 f ⟨hf, h⟩⟩
theorem Ord.le (hp : Prime p) (h : un p a) (o : Ord p a m) : m ≤ p - 1 := powers_le hp h fun f h0 h1 h2 => by have := o.least f h0 h2; omega
theorem Ord.unit (hp : Prime p) (o : Ord p a m) : un p a := fun z => by
  have h1 := not_dvd_of_one hp o.one
  obtain ⟨k, rfl⟩ : ∃ k, m = k + 1 := ⟨m - 1, by have := o.pos; omega⟩
  rw [Int.pow_succ] at h1
  exact h1 (Int.dvd_mul_of_dvd_right z)
theorem one_pow_iff {d : Nat} : is1 p (a ^ d) f ↔ is1 p a (d * f) := by unfold is1; rw [Int.pow_mul]
theorem Ord.pow (hp : Prime p) {d c : Nat} (o : Ord p a (d * c)) : Ord p (a ^ d) c := by
  have h0 := o.pos
  have hd : 0 < d := Nat.pos_of_ne_zero fun z => by rw [z, Nat.zero_mul] at h0; omega
  have hc : 0 < c := Nat.pos_of_ne_zero fun z => by rw [z, Nat.mul_zero] at h0; omega
  refine Ord.of_iff hc fun f => ?_
  rw [one_pow_iff, o.iff hp]
  exact Nat.mul_dvd_mul_iff_left hd
theorem one_left (h1 : (p : Int) ∣ (a * b) ^ e - 1) (h2 : is1 p b e) : is1 p a e := by
  unfold is1 at *
  have : (a * b) ^ e - 1 = a ^ e * (b ^ e - 1) + (a ^ e - 1) := by rw [Int.mul_pow]; grind
  rw [this] at h1
  have h3 := Int.dvd_sub h1 (Int.dvd_trans h2 ⟨a ^ e, Int.mul_comm _ _⟩)
  rw [show a ^ e * (b ^ e - 1) + (a ^ e - 1) - a ^ e * (b ^ e - 1) = a ^ e - 1 by omega] at h3
  exact h3
theorem one_both (h1 : is1 p a e) (h2 : is1 p b e) : is1 p (a * b) e := by
  unfold is1 at *
  have : (a * b) ^ e - 1 = a ^ e * (b ^ e - 1) + (a ^ e - 1) := by rw [Int.mul_pow]; grind
  rw [this]
  exact Int.dvd_add (Int.dvd_trans h2 ⟨a ^ e, Int.mul_comm _ _⟩) h1
theorem Ord.mul_ (hp : Prime p) (o : Ord p a m) (o' : Ord p b n) (g : Nat.gcd m n = 1) : Ord p (a * b) (m * n) := by
  refine ⟨Nat.mul_pos o.pos o'.pos, one_both (one_of_dvd o.one (Nat.dvd_mul_right m n)) (one_of_dvd o'.one (Nat.dvd_mul_left n m)), fun f hf h => ?_⟩
  have h1 : is1 p a (f * n) := one_left (b := b) (one_mul_ h n) (one_of_dvd o'.one (Nat.dvd_mul_left n f))
  have h2 : is1 p b (f * m) := one_left (b := a) (by rw [Int.mul_comm]; exact one_mul_ h m) (one_of_dvd o.one (Nat.dvd_mul_left m f))
  have d1 : m ∣ f := Nat.Coprime.dvd_of_dvd_mul_right g (o.dvd hp h1)
  have d2 : n ∣ f := Nat.Coprime.dvd_of_dvd_mul_right (Nat.Coprime.symm g) (o'.dvd hp h2)
  exact Nat.le_of_dvd hf (Nat.Coprime.mul_dvd_of_dvd_of_dvd g d1 d2)
/-- there is a number of the order p - 1, and each number's power to it is 1 -/
theorem full_exists (hp : Prime p) : ∃ a, Ord p a (p - 1) := by
  have hp2 := hp.1
  have u1 : un p 1 := fun z => by have := Int.le_of_dvd (by decide) z; omega
  obtain ⟨n1, o1⟩ := exists_ord hp u1
  obtain ⟨mx, ⟨a, o⟩, hmax⟩ := exists_max (P := fun m => ∃ a, Ord p a m) (p - 1) (fun m ⟨a, o⟩ => o.le hp (o.unit hp)) ⟨1, o1⟩
  have all : ∀ b n, Ord p b n → n ∣ mx := fun b n ob => by
    refine dvd_of_prime_powers n mx ob.pos fun q k hq hd => Classical.byContradiction fun no => ?_
    obtain ⟨v, c, e, hc, hc0⟩ := split_prime hq mx o.pos
    obtain ⟨d, hd⟩ := hd
    have ov : Ord p (a ^ (q ^ v)) c := Ord.pow hp (by rw [← e]; exact o)
    have ow : Ord p (b ^ d) (q ^ k) := Ord.pow hp (by rw [Nat.mul_comm, ← hd]; exact ob)
    have om := Ord.mul_ hp ov ow (Nat.Coprime.symm (coprime_pow hq hc k))
    have h1 := hmax _ ⟨_, om⟩
    have hvk : v < k := by
      rcases Nat.lt_or_ge v k with z | z
      · exact z
      · exact absurd (Nat.dvd_trans (Nat.pow_dvd_pow q z) ⟨c, e⟩) no
    have h2 : q ^ v < q ^ k := Nat.pow_lt_pow_right (by have := hq.1; omega) hvk
    have h3 : c * q ^ v < c * q ^ k := Nat.mul_lt_mul_of_pos_left h2 hc0
    rw [e, Nat.mul_comm (q ^ v)] at h1
    omega
  have h1 : p - 1 ≤ mx := by
    have h := roots_le hp o.pos (rs := (List.range (p - 1)).map fun i => (((i + 1 : Nat)) : Int)) (by
      rw [List.pairwise_map]
      refine List.Pairwise.imp_of_mem ?_ (List.pairwise_lt_range (n := p - 1))
      intro i j hi hj hij z
      have := List.mem_range.mp hj
      have := Int.le_of_dvd (by omega) z
      omega) fun r hr => by
        obtain ⟨i, hi, rfl⟩ := List.mem_map.mp hr
        have hi' := List.mem_range.mp hi
        have ui : un p ((i + 1 : Nat) : Int) := fun z => by have := Int.le_of_dvd (by omega) z; omega
        obtain ⟨n, on⟩ := exists_ord hp ui
        exact one_of_dvd on.one (all _ _ on)
    rwa [List.length_map, List.length_range] at h
  have h2 := o.le hp (o.unit hp)
  exact ⟨a, by rw [show p - 1 = mx by omega]; exact o⟩
theorem fermat (hp : Prime p) (h : un p a) : is1 p a (p - 1) := by
  -- the number's order divides that of a full one
  have hp2 := hp.1
  obtain ⟨g, og⟩ := full_exists hp
  obtain ⟨n, on⟩ := exists_ord hp h
  refine one_of_dvd on.one (dvd_of_prime_powers n _ on.pos fun q k hq hd => Classical.byContradiction fun no => ?_)
  obtain ⟨v, c, e, hc, hc0⟩ := split_prime hq (p - 1) (by omega)
  obtain ⟨d, hd⟩ := hd
  have ov : Ord p (g ^ (q ^ v)) c := Ord.pow hp (by rw [← e]; exact og)
  have ow : Ord p (a ^ d) (q ^ k) := Ord.pow hp (by rw [Nat.mul_comm, ← hd]; exact on)
  have om := Ord.mul_ hp ov ow (Nat.Coprime.symm (coprime_pow hq hc k))
  have h1 := om.le hp (om.unit hp)
  have hvk : v < k := by
    rcases Nat.lt_or_ge v k with z | z
    · exact z
    · exact absurd (Nat.dvd_trans (Nat.pow_dvd_pow q z) ⟨c, e⟩) no
  have h2 : q ^ v < q ^ k := Nat.pow_lt_pow_right (by have := hq.1; omega) hvk
  have h3 : c * q ^ v < c * q ^ k := Nat.mul_lt_mul_of_pos_left h2 hc0
  rw [Nat.mul_comm (q ^ v)] at e
  omega
/-- full, by the primes of p - 1 -/
theorem ord_of_primes (hp : Prime p) (h1 : is1 p a n) (hn : 0 < n) (h : ∀ q, Prime q → q ∣ n → ¬ is1 p a (n / q)) : Ord p a n := by
  have hu : un p a := fun z => by
    obtain ⟨k, rfl⟩ : ∃ k, n = k + 1 := ⟨n - 1, by omega⟩
    exact not_dvd_of_one hp h1 (by rw [Int.pow_succ]; exact Int.dvd_mul_of_dvd_right z)
  obtain ⟨m, o⟩ := exists_ord hp hu
  obtain ⟨c, hc⟩ := o.dvd hp h1
  by_cases e : c = 1
  · rw [e, Nat.mul_one] at hc
    rw [hc]; exact o
  · exfalso
    have hc0 : c ≠ 0 := fun z => by rw [z, Nat.mul_zero] at hc; omega
    obtain ⟨q, hq, d, hd⟩ := exists_prime c (by omega)
    refine h q hq ⟨m * d, by rw [hc, hd]; grind⟩ (one_of_dvd o.one ⟨d, ?_⟩)
    rw [hc, hd, show m * (q * d) = q * (m * d) by grind]
    exact Nat.mul_div_cancel_left _ hq.pos
end
end M

/-! full numbers, by the primes of p - 1 -/
namespace M
theorem pw_one_iff {p : Nat} (hp : 2 ≤ p) {a : Int} {e : Nat} : pw p a e = 1 ↔ is1 p a e := by
  unfold pw is1
  have h1 : (1 : Int) % (p : Int) = 1 := Int.emod_eq_of_lt (by decide) (by omega)
  constructor
  · intro h
    have h2 : a ^ e % (p : Int) = 1 % p := by rw [h, h1]
    exact Int.dvd_of_emod_eq_zero (Int.emod_eq_emod_iff_emod_sub_eq_zero.mp h2)
  · intro h
    rw [← h1]
    exact Int.emod_eq_emod_iff_emod_sub_eq_zero.mpr (Int.emod_eq_zero_of_dvd h)
theorem un_small {p : Nat} {a : Int} (h0 : 0 < a) (h1 : a < p) : un p a := fun z => by have := Int.le_of_dvd h0 z; omega
theorem un_iff {p : Nat} {a : Int} : un p a ↔ a % (p : Int) ≠ 0 := ⟨fun h z => h (Int.dvd_of_emod_eq_zero z), fun h z => h (Int.emod_eq_zero_of_dvd z)⟩
theorem full_iff {p : Nat} (hp : Prime p) {a : Int} (ha : un p a) {l : List (Nat × Nat)} (hl : IsFac (p - 1) l) : Ord p a (p - 1) ↔ ∀ x ∈ l, pw p a ((p - 1) / x.1) ≠ 1 := by
  have hp2 := hp.1
  constructor
  · intro o x hx z
    have h1 := (pw_one_iff hp2).mp z
    have hq := (hl.primes x hx).1
    have hd := fac_dvd hl hx
    have hq2 := hq.1
    have h2 := o.least _ (Nat.div_pos (Nat.le_of_dvd (by omega) hd) hq.pos) h1
    have h3 : (p - 1) / x.1 < p - 1 := Nat.div_lt_self (by omega) (by omega)
    omega
  · intro h
    refine ord_of_primes hp (fermat hp ha) (by omega) fun q hq hd z => ?_
    obtain ⟨k, hk⟩ := fac_prime_in hl hq hd
    exact h _ hk ((pw_one_iff hp2).mpr z)
theorem is1_congr {p : Nat} {a b : Int} (h : (p : Int) ∣ a - b) (e : Nat) : is1 p a e ↔ is1 p b e := by
  have key : ∀ {a b : Int}, (p : Int) ∣ a - b → is1 p a e → is1 p b e := fun {a b} h h1 => by
    unfold is1 at *
    have h2 : a ^ e % (p : Int) = b ^ e % p := by
      have h3 : a % (p : Int) = b % p := Int.emod_eq_emod_iff_emod_sub_eq_zero.mpr (Int.emod_eq_zero_of_dvd h)
      rw [← pow_emod, h3, pow_emod]
    have h4 := Int.dvd_of_emod_eq_zero (Int.emod_eq_emod_iff_emod_sub_eq_zero.mp h2.symm)
    have h5 := Int.dvd_add h4 h1
    rw [show b ^ e - a ^ e + (a ^ e - 1) = b ^ e - 1 by omega] at h5
    exact h5
  refine ⟨key h, key ?_⟩
  rw [show b - a = -(a - b) by omega]
  exact Int.dvd_neg.mpr h
theorem Ord.congr {p : Nat} {a b : Int} {m : Nat} (h : (p : Int) ∣ a - b) (o : Ord p a m) : Ord p b m := ⟨o.pos, (is1_congr h _).mp o.one, fun f hf z => o.least f hf ((is1_congr h _).mpr z)⟩
theorem full_small {p : Nat} (hp : Prime p) : ∃ f : Nat, 0 < f ∧ f < p ∧ Ord p (f : Int) (p - 1) := by
  obtain ⟨a, o⟩ := full_exists hp
  have hp0 := hp.pos
  have h1 := Int.emod_nonneg a (show (p : Int) ≠ 0 by omega)
  have h2 := Int.emod_lt_of_pos a (show (0 : Int) < p by omega)
  have h3 := un_iff.mp (o.unit hp)
  refine ⟨(a % (p : Int)).toNat, by omega, by omega, ?_⟩
  rw [Int.toNat_of_nonneg h1]
  refine o.congr ?_
  have := Int.emod_add_mul_ediv a p
  exact ⟨a / p, by omega⟩
/-- the least one -/
structure LeastFull (p f : Nat) : Prop where
  f0 : 0 < f
  f1 : f < p
  full : Ord p (f : Int) (p - 1)
  least : ∀ g : Nat, 0 < g → g < f → ¬Ord p (g : Int) (p - 1)
theorem paper_prime {p q n : Nat} (hp : Prime p) (hq : Prime q) (hd : q ∣ p - 1) (hn : p ≤ 2 ^ (n + 1)) : q ≤ 2 ^ n := by
  obtain ⟨c, hc⟩ := hd
  have hp2 := hp.1
  have hq2 := hq.1
  rw [Nat.pow_succ] at hn
  by_cases h : 2 ≤ c
  · have : q * 2 ≤ q * c := Nat.mul_le_mul_left q h
    omega
  · have : c = 0 ∨ c = 1 := by omega
    rcases this with rfl | rfl
    · omega
    · rw [Nat.mul_one] at hc
      -- p and p - 1 are primes
      by_cases he : p % 2 = 0
      · rcases hp.2 2 (Nat.dvd_of_mod_eq_zero he) with z | z <;> omega
      · have : 2 ∣ q := Nat.dvd_of_mod_eq_zero (by omega)
        rcases hq.2 2 this with z | z
        · omega
        · omega
end M

/-! orders by any number; what is taken out of a number whose power is 1 -/
namespace M
section
variable {n : Nat} {a b : Int} {e f m q o : Nat}
theorem one_subN (h : is1 n a (e + f)) (h' : is1 n a e) : is1 n a f := by
  unfold is1 at *
  have : a ^ (e + f) - 1 = a ^ f * (a ^ e - 1) + (a ^ f - 1) := by rw [Int.pow_add]; grind
  rw [this] at h
  have h3 := Int.dvd_sub h (Int.dvd_trans h' ⟨a ^ f, Int.mul_comm _ _⟩)
  rw [show a ^ f * (a ^ e - 1) + (a ^ f - 1) - a ^ f * (a ^ e - 1) = a ^ f - 1 by omega] at h3
  exact h3
theorem Ord.dvdN (o : Ord n a m) (h : is1 n a f) : m ∣ f := by
  have h1 : is1 n a (m * (f / m)) := one_mul_ o.one _
  have h2 : is1 n a (f % m) := one_subN (e := m * (f / m)) (by rw [Nat.div_add_mod]; exact h) h1
  rcases Nat.eq_zero_or_pos (f % m) with z | z
  · exact Nat.dvd_of_mod_eq_zero z
  · have := o.least _ z h2
    have := Nat.mod_lt f o.pos
    omega
theorem Ord.iffN (o : Ord n a m) : is1 n a f ↔ m ∣ f := ⟨o.dvdN, one_of_dvd o.one⟩
theorem Ord.uniqueN (o : Ord n a m) (o' : Ord n a f) : m = f := Nat.dvd_antisymm (o.dvdN o'.one) (o'.dvdN o.one)
theorem ex_ordN (h : is1 n a e) (he : 0 < e) : ∃ m, Ord n a m := by
  obtain ⟨m, h1, h2⟩ := exists_min (P := fun e => 0 < e ∧ is1 n a e) e ⟨he, h⟩
  exact ⟨m, h1.1, h1.2, fun f hf h => h2 f ⟨hf, h⟩⟩
end
/-- how often q stands in n -/
def vq (q n : Nat) : Nat := if _h : 2 ≤ q ∧ 0 < n ∧ n % q = 0 then vq q (n / q) + 1 else 0
termination_by n
decreasing_by exact Nat.div_lt_self _h.2.1 (by omega)
theorem vq_no {q n : Nat} (h : ¬ (2 ≤ q ∧ 0 < n ∧ n % q = 0)) : vq q n = 0 := by rw [vq, dif_neg h]
theorem vq_more {q m : Nat} (hq : 2 ≤ q) (hm : 0 < m) : vq q (q * m) = vq q m + 1 := by
  rw [vq, dif_pos ⟨hq, Nat.mul_pos (by omega) hm, Nat.mul_mod_right q m⟩, Nat.mul_div_cancel_left _ (by omega)]
theorem vq_eq {q m : Nat} (hq : 2 ≤ q) (hm : ¬ q ∣ m) (h0 : 0 < m) : ∀ k, vq q (q ^ k * m) = k
  | 0 => by rw [Nat.pow_zero, Nat.one_mul]; exact vq_no fun h => hm (Nat.dvd_of_mod_eq_zero h.2.2)
  | k + 1 => by
    rw [Nat.pow_succ, Nat.mul_comm (q ^ k) q, Nat.mul_assoc, vq_more hq (Nat.mul_pos (Nat.pow_pos (by omega)) h0), vq_eq hq hm h0 k]
theorem vq_split {q n : Nat} (hq : Prime q) (hn : 0 < n) : ∃ m, n = q ^ vq q n * m ∧ ¬ q ∣ m ∧ 0 < m := by
  obtain ⟨k, m, e, h1, h2⟩ := split_prime hq n hn
  have := vq_eq hq.1 h1 h2 k
  rw [← e] at this
  exact ⟨m, by rw [this]; exact e, h1, h2⟩
theorem vq_pos_iff {q n : Nat} (hq : 2 ≤ q) (hn : 0 < n) : 0 < vq q n ↔ n % q = 0 := by
  constructor
  · intro h
    rcases Nat.eq_zero_or_pos (n % q) with z | z
    · exact z
    · rw [vq_no (by omega)] at h; omega
  · intro h
    rw [vq, dif_pos ⟨hq, hn, h⟩]; omega
theorem pow_split {q v k m c : Nat} (hq : Prime q) (hm : ¬ q ∣ m) (hc : ¬ q ∣ c) : q ^ v * c ∣ q ^ k * m ↔ v ≤ k ∧ c ∣ m := by
  constructor
  · intro h
    constructor
    · have h1 : q ^ v ∣ q ^ k * m := Nat.dvd_trans (Nat.dvd_mul_right _ _) h
      have h2 : q ^ v ∣ q ^ k := Nat.Coprime.dvd_of_dvd_mul_right (coprime_pow hq hm v) h1
      exact (Nat.pow_dvd_pow_iff_le_right (by have := hq.1; omega)).mp h2
    · have h1 : c ∣ q ^ k * m := Nat.dvd_trans (Nat.dvd_mul_left _ _) h
      exact Nat.Coprime.dvd_of_dvd_mul_left (Nat.Coprime.symm (coprime_pow hq hc k)) h1
  · rintro ⟨h1, h2⟩
    exact Nat.mul_dvd_mul (Nat.pow_dvd_pow q h1) h2
theorem prodL_pos : ∀ {l : List (Nat × Nat)}, (∀ x ∈ l, Prime x.1) → 0 < prodL l
  | [], _ => by decide
  | x :: l, h => Nat.mul_pos (Nat.pow_pos (h x (by simp)).pos) (prodL_pos fun y hy => h y (by simp [hy]))
theorem prime_in' {l : List (Nat × Nat)} {q : Nat} (hq : Prime q) (hl : ∀ x ∈ l, Prime x.1) (h : q ∣ prodL l) : ∃ k, (q, k) ∈ l := by
  induction l with
  | nil =>
    simp only [prodL] at h
    have := Nat.le_of_dvd (by decide) h
    have := hq.1; omega
  | cons x l ih =>
    simp only [prodL] at h
    rcases hq.dvd_mul h with z | z
    · have := hq.eq_of_dvd (hl x (by simp)) (hq.dvd_pow z)
      exact ⟨x.2, by rw [this]; simp⟩
    · obtain ⟨k, hk⟩ := ih (fun y hy => hl y (by simp [hy])) z
      exact ⟨k, by simp [hk]⟩
/-- the parting with the manys of o -/
def vL (o : Nat) (l : List (Nat × Nat)) : List (Nat × Nat) := l.map fun x => (x.1, vq x.1 o)
theorem vL_prime {o : Nat} {l : List (Nat × Nat)} (h : ∀ x ∈ l, Prime x.1) : ∀ x ∈ vL o l, Prime x.1 := fun x hx => by
  obtain ⟨y, hy, rfl⟩ := List.mem_map.mp hx
  exact h y hy
theorem vL_dvd {o : Nat} (ho : 0 < o) : ∀ {l : List (Nat × Nat)}, l.Pairwise (fun x y => x.1 < y.1) → (∀ x ∈ l, Prime x.1) → prodL (vL o l) ∣ o
  | [], _, _ => by simp [vL, prodL]
  | x :: l, hs, hp => by
    have hs' := List.pairwise_cons.mp hs
    have hx := hp x (by simp)
    have ih := vL_dvd ho hs'.2 fun y hy => hp y (by simp [hy])
    obtain ⟨m, em, hm, _⟩ := vq_split hx ho
    have hn : ¬ x.1 ∣ prodL (vL o l) := fun z => by
      obtain ⟨k, hk⟩ := prime_in' hx (vL_prime fun y hy => hp y (by simp [hy])) z
      obtain ⟨y, hy, e⟩ := List.mem_map.mp hk
      have h1 := hs'.1 y hy
      have h2 : y.1 = x.1 := (Prod.mk.inj e).1
      omega
    show x.1 ^ vq x.1 o * prodL (vL o l) ∣ o
    exact Nat.Coprime.mul_dvd_of_dvd_of_dvd (coprime_pow hx hn _) ⟨m, em⟩ ih
/-- what is left of e at turn i, o the order -/
structure OF (o E : Nat) (l : List (Nat × Nat)) (i e : Nat) : Prop where
  val : e = prodL (vL o (l.take i)) * prodL (l.drop i)
  dvd : o ∣ e
theorem of_start {o E : Nat} {l : List (Nat × Nat)} (hl : IsFac E l) (h : o ∣ E) : OF o E l 0 E := ⟨by
  rw [List.take_zero, List.drop_zero, hl.prod]; simp [vL, prodL], h⟩
theorem of_step {o E : Nat} {l : List (Nat × Nat)} {i e q b : Nat} (hl : IsFac E l) (o0 : 0 < o) (h : OF o E l i e) (hx : l[i]? = some (q, b)) :
    ∃ m, e = q ^ b * m ∧ ¬ q ∣ m ∧ 0 < m ∧ vq q o ≤ b ∧ (∀ k, o ∣ q ^ k * m ↔ vq q o ≤ k) ∧ OF o E l (i + 1) (q ^ vq q o * m) := by
  have hil : i < l.length := (List.getElem?_eq_some_iff.mp hx).1
  have hxe : l[i] = (q, b) := (List.getElem?_eq_some_iff.mp hx).2
  have hd : l.drop i = (q, b) :: l.drop (i + 1) := by rw [List.drop_eq_getElem_cons hil, hxe]
  have ht : l.take (i + 1) = l.take i ++ [(q, b)] := by rw [List.take_succ, hx]; rfl
  have hsp : l = l.take i ++ (q, b) :: l.drop (i + 1) := by rw [← hd, List.take_append_drop]
  have hso := hl.sorted
  rw [hsp] at hso
  have hso' := List.pairwise_append.mp hso
  have hpr : ∀ x ∈ l, Prime x.1 := fun x hx => (hl.primes x hx).1
  have hq : Prime q := hpr (q, b) (List.mem_of_getElem? hx)
  have p1 : ∀ x ∈ l.take i, Prime x.1 := fun x hx => hpr x (List.mem_of_mem_take hx)
  have p2 : ∀ x ∈ l.drop (i + 1), Prime x.1 := fun x hx => hpr x (List.mem_of_mem_drop hx)
  have n1 : ¬ q ∣ prodL (vL o (l.take i)) := fun z => by
    obtain ⟨k, hk⟩ := prime_in' hq (vL_prime p1) z
    obtain ⟨y, hy, e⟩ := List.mem_map.mp hk
    have h1 := hso'.2.2 y hy (q, b) (by simp)
    have h2 : y.1 = q := (Prod.mk.inj e).1
    have h3 : y.1 < q := h1
    omega
  have n2 : ¬ q ∣ prodL (l.drop (i + 1)) := fun z => by
    obtain ⟨k, hk⟩ := prime_in' hq p2 z
    have h1 := (List.pairwise_cons.mp hso'.2.1).1 _ hk
    have h3 : q < q := h1
    omega
  refine ⟨prodL (vL o (l.take i)) * prodL (l.drop (i + 1)), ?_, fun z => ?_, Nat.mul_pos (prodL_pos (vL_prime p1)) (prodL_pos p2), ?_⟩
  · rw [h.val, hd]; simp only [prodL]; grind
  · rcases hq.dvd_mul z with z | z
    · exact n1 z
    · exact n2 z
  generalize hm : prodL (vL o (l.take i)) * prodL (l.drop (i + 1)) = m
  have em : e = q ^ b * m := by rw [← hm, h.val, hd]; simp only [prodL]; grind
  have hqm : ¬ q ∣ m := fun z => by
    rw [← hm] at z
    rcases hq.dvd_mul z with z | z
    · exact n1 z
    · exact n2 z
  obtain ⟨c, ec, hc, _⟩ := vq_split hq o0
  have hdv := h.dvd
  rw [em] at hdv
  have hb := (pow_split hq hqm hc).mp (by rw [← ec]; exact hdv)
  refine ⟨hb.1, fun k => ?_, ⟨?_, ?_⟩⟩
  · conv => lhs; rw [ec]
    rw [pow_split hq hqm hc]
    exact ⟨fun z => z.1, fun z => ⟨z, hb.2⟩⟩
  · rw [ht, ← hm]
    show _ = prodL (vL o (l.take i ++ [(q, b)])) * _
    unfold vL
    rw [List.map_append, prodL_app]
    simp only [List.map_cons, List.map_nil, prodL]
    grind
  · conv => lhs; rw [ec]
    exact (pow_split hq hqm hc).mpr ⟨Nat.le_refl _, hb.2⟩
theorem of_end {o E : Nat} {l : List (Nat × Nat)} {e : Nat} (hl : IsFac E l) (o0 : 0 < o) (h : OF o E l l.length e) : e = o := by
  have h1 := h.val
  rw [List.take_length, List.drop_length] at h1
  simp only [prodL, Nat.mul_one] at h1
  exact Nat.dvd_antisymm (by rw [h1]; exact vL_dvd o0 hl.sorted fun x hx => (hl.primes x hx).1) h.dvd
theorem of_le {o E : Nat} {l : List (Nat × Nat)} {i e : Nat} (hl : IsFac E l) (hE : 0 < E) (hoE : o ∣ E) (o0 : 0 < o) (h : OF o E l i e) : e ∣ E := by
  rw [h.val, ← hl.prod]
  conv => rhs; rw [← List.take_append_drop i l, prodL_app]
  refine Nat.mul_dvd_mul ?_ (Nat.dvd_refl _)
  have key : ∀ l : List (Nat × Nat), (∀ x ∈ l, vq x.1 o ≤ x.2) → prodL (vL o l) ∣ prodL l := fun l => by
    induction l with
    | nil => intro _; simp [vL, prodL]
    | cons x l ih => intro hx; exact Nat.mul_dvd_mul (Nat.pow_dvd_pow _ (hx x (by simp))) (ih fun y hy => hx y (by simp [hy]))
  refine key _ fun x hx => ?_
  have hx' := List.mem_of_mem_take hx
  obtain ⟨j, hj⟩ := List.getElem?_of_mem hx'
  -- x's many is that of E
  have hq := (hl.primes x hx').1
  have h2 : ∃ m, E = x.1 ^ x.2 * m ∧ ¬ x.1 ∣ m ∧ 0 < m := by
    have hil : j < l.length := (List.getElem?_eq_some_iff.mp hj).1
    have hxe : l[j] = x := (List.getElem?_eq_some_iff.mp hj).2
    have hd : l.drop j = x :: l.drop (j + 1) := by rw [List.drop_eq_getElem_cons hil, hxe]
    have hsp : l = l.take j ++ x :: l.drop (j + 1) := by rw [← hd, List.take_append_drop]
    have hso := hl.sorted
    rw [hsp] at hso
    have hso' := List.pairwise_append.mp hso
    have p1 : ∀ y ∈ l.take j, Prime y.1 := fun y hy => (hl.primes y (List.mem_of_mem_take hy)).1
    have p2 : ∀ y ∈ l.drop (j + 1), Prime y.1 := fun y hy => (hl.primes y (List.mem_of_mem_drop hy)).1
    refine ⟨prodL (l.take j) * prodL (l.drop (j + 1)), ?_, fun z => ?_, Nat.mul_pos (prodL_pos p1) (prodL_pos p2)⟩
    · rw [← hl.prod]
      conv => lhs; rw [hsp]
      rw [prodL_app]; simp only [prodL]; grind
    · rcases hq.dvd_mul z with z | z
      · obtain ⟨k, hk⟩ := prime_in' hq p1 z
        have h1 := hso'.2.2 _ hk x (by simp)
        have h2 : x.1 < x.1 := h1
        omega
      · obtain ⟨k, hk⟩ := prime_in' hq p2 z
        have h1 := (List.pairwise_cons.mp hso'.2.1).1 _ hk
        have h2 : x.1 < x.1 := h1
        omega
  obtain ⟨m, e1, e2, e3⟩ := h2
  obtain ⟨c, ec, hc, _⟩ := vq_split hq o0
  exact ((pow_split hq e2 hc).mp (by rw [← ec, ← e1]; exact hoE)).1
end M

/-! a parting is the only one -/
namespace M
theorem fac_split {E : Nat} {l : List (Nat × Nat)} (hl : IsFac E l) {x : Nat × Nat} (hx : x ∈ l) : ∃ m, E = x.1 ^ x.2 * m ∧ ¬ x.1 ∣ m ∧ 0 < m := by
  obtain ⟨j, hj⟩ := List.getElem?_of_mem hx
  have hq := (hl.primes x hx).1
  have hil : j < l.length := (List.getElem?_eq_some_iff.mp hj).1
  have hxe : l[j] = x := (List.getElem?_eq_some_iff.mp hj).2
  have hd : l.drop j = x :: l.drop (j + 1) := by rw [List.drop_eq_getElem_cons hil, hxe]
  have hsp : l = l.take j ++ x :: l.drop (j + 1) := by rw [← hd, List.take_append_drop]
  have hso := hl.sorted
  rw [hsp] at hso
  have hso' := List.pairwise_append.mp hso
  have p1 : ∀ y ∈ l.take j, Prime y.1 := fun y hy => (hl.primes y (List.mem_of_mem_take hy)).1
  have p2 : ∀ y ∈ l.drop (j + 1), Prime y.1 := fun y hy => (hl.primes y (List.mem_of_mem_drop hy)).1
  refine ⟨prodL (l.take j) * prodL (l.drop (j + 1)), ?_, fun z => ?_, Nat.mul_pos (prodL_pos p1) (prodL_pos p2)⟩
  · rw [← hl.prod]
    conv => lhs; rw [hsp]
    rw [prodL_app]; simp only [prodL]; grind
  · rcases hq.dvd_mul z with z | z
    · obtain ⟨k, hk⟩ := prime_in' hq p1 z
      have h1 := hso'.2.2 _ hk x (by simp)
      have h2 : x.1 < x.1 := h1
      omega
    · obtain ⟨k, hk⟩ := prime_in' hq p2 z
      have h1 := (List.pairwise_cons.mp hso'.2.1).1 _ hk
      have h2 : x.1 < x.1 := h1
      omega
theorem fac_vq {E : Nat} {l : List (Nat × Nat)} (hl : IsFac E l) {x : Nat × Nat} (hx : x ∈ l) : x.2 = vq x.1 E := by
  obtain ⟨m, e, h1, h2⟩ := fac_split hl hx
  rw [e, vq_eq (hl.primes x hx).1.1 h1 h2]
theorem fac_mem_iff {E : Nat} {l : List (Nat × Nat)} (hl : IsFac E l) (x : Nat × Nat) : x ∈ l ↔ Prime x.1 ∧ x.1 ∣ E ∧ x.2 = vq x.1 E := by
  constructor
  · intro hx
    exact ⟨(hl.primes x hx).1, fac_dvd hl hx, fac_vq hl hx⟩
  · rintro ⟨h1, h2, h3⟩
    obtain ⟨k, hk⟩ := fac_prime_in hl h1 h2
    have := fac_vq hl hk
    have this' : k = vq x.1 E := this
    have e : x = (x.1, k) := by
      show (x.1, x.2) = (x.1, k)
      rw [h3, this']
    rw [e]; exact hk
theorem pairs_ext : ∀ {xs ys : List (Nat × Nat)}, xs.Pairwise (fun a b => a.1 < b.1) → ys.Pairwise (fun a b => a.1 < b.1) → (∀ y, y ∈ xs ↔ y ∈ ys) → xs = ys
  | [], [], _, _, _ => rfl
  | [], y :: ys, _, _, h => absurd ((h y).mpr (by simp)) (by simp)
  | x :: xs, [], _, _, h => absurd ((h x).mp (by simp)) (by simp)
  | x :: xs, y :: ys, hx, hy, h => by
    have hx' := List.pairwise_cons.mp hx
    have hy' := List.pairwise_cons.mp hy
    have e : x = y := by
      rcases List.mem_cons.mp ((h x).mp (by simp)) with z | z
      · exact z
      · rcases List.mem_cons.mp ((h y).mpr (by simp)) with w | w
        · exact w.symm
        · have := hx'.1 y w
          have := hy'.1 x z
          omega
    subst e
    congr 1
    refine pairs_ext hx'.2 hy'.2 fun y => ⟨fun m => ?_, fun m => ?_⟩
    · rcases List.mem_cons.mp ((h y).mp (by simp [m])) with z | z
      · have := hx'.1 y m
        rw [z] at this; omega
      · exact z
    · rcases List.mem_cons.mp ((h y).mpr (by simp [m])) with z | z
      · have := hy'.1 y m
        rw [z] at this; omega
      · exact z
theorem fac_unique {E : Nat} {l l' : List (Nat × Nat)} (h : IsFac E l) (h' : IsFac E l') : l = l' := pairs_ext h.sorted h'.sorted fun x => (fac_mem_iff h x).trans (fac_mem_iff h' x).symm
theorem full_unique {p f f' : Nat} (h : LeastFull p f) (h' : LeastFull p f') : f = f' := by
  rcases Nat.lt_trichotomy f f' with w | w | w
  · exact absurd h.full (h'.least f h.f0 w)
  · exact w
  · exact absurd h'.full (h.least f' h'.f0 w)
end M

/-! the divisors of a number by its parting, and how many numbers are coprime -/
namespace M
/-- all numbers times the powers of q up to q ^ m -/
def grow (found : List Nat) (q : Nat) : Nat → List Nat
  | 0 => found
  | m + 1 => grow found q m ++ found.map (· * q ^ (m + 1))
def divL (found : List Nat) : List (Nat × Nat) → List Nat
  | [] => found
  | x :: l => divL (grow found x.1 x.2) l
theorem divL_app (found : List Nat) (l m : List (Nat × Nat)) : divL found (l ++ m) = divL (divL found l) m := by
  induction l generalizing found with
  | nil => rfl
  | cons x l ih => exact ih _
/-- how many numbers below q ^ t have no divisor with it -/
def fi (q t : Nat) : Nat := if t = 0 then 1 else (q - 1) * q ^ (t - 1)
def phiV (L : List (Nat × Nat)) (d : Nat) : Nat := match L with
  | [] => 1
  | x :: L => fi x.1 (vq x.1 d) * phiV L d
def phiL : List (Nat × Nat) → Nat
  | [] => 1
  | x :: l => (x.1 - 1) * x.1 ^ (x.2 - 1) * phiL l
theorem phiV_app (L M : List (Nat × Nat)) (d : Nat) : phiV (L ++ M) d = phiV L d * phiV M d := by
  induction L with
  | nil => simp [phiV]
  | cons x L ih => simp only [List.cons_append, phiV, ih, Nat.mul_assoc]
theorem phiL_app (l m : List (Nat × Nat)) : phiL (l ++ m) = phiL l * phiL m := by
  induction l with
  | nil => simp [phiL]
  | cons x L ih => simp only [List.cons_append, phiL, ih, Nat.mul_assoc]
theorem grow_mem {found : List Nat} {q m d : Nat} : d ∈ grow found q m ↔ ∃ e k, e ∈ found ∧ k ≤ m ∧ d = e * q ^ k := by
  induction m with
  | zero =>
    constructor
    · exact fun h => ⟨d, 0, h, Nat.le_refl _, by simp⟩
    · rintro ⟨e, k, h, hk, rfl⟩
      have : k = 0 := by omega
      subst this
      simpa [grow] using h
  | succ m ih =>
    simp only [grow, List.mem_append, ih, List.mem_map]
    constructor
    · rintro (⟨e, k, h, hk, rfl⟩ | ⟨e, h, rfl⟩)
      · exact ⟨e, k, h, by omega, rfl⟩
      · exact ⟨e, m + 1, h, Nat.le_refl _, rfl⟩
    · rintro ⟨e, k, h, hk, rfl⟩
      rcases Nat.lt_or_ge m k with z | z
      · have : k = m + 1 := by omega
        subst this
        exact .inr ⟨e, h, rfl⟩
      · exact .inl ⟨e, k, h, z, rfl⟩
theorem grow_len (found : List Nat) (q m : Nat) : (grow found q m).length = found.length * (m + 1) := by
  induction m with
  | zero => simp [grow]
  | succ m ih => simp only [grow, List.length_append, List.length_map, ih]; grind
theorem vq_mul_off {q e c : Nat} (hq : Prime q) (he : 0 < e) (hc : ¬ q ∣ c) : vq q (e * c) = vq q e := by
  obtain ⟨m, e1, h1, h2⟩ := vq_split hq he
  have c0 : 0 < c := Nat.pos_of_ne_zero fun z => hc (by rw [z]; exact Nat.dvd_zero _)
  have h3 : e * c = q ^ vq q e * (m * c) := by
    conv => lhs; rw [e1]
    exact Nat.mul_assoc _ _ _
  rw [h3]
  exact vq_eq hq.1 (fun z => (hq.dvd_mul z).elim h1 hc) (Nat.mul_pos h2 c0) _
theorem not_dvd_pow {q r k : Nat} (hq : Prime q) (hr : Prime r) (h : q ≠ r) : ¬ q ∣ r ^ k := fun z => h (hq.eq_of_dvd hr (hq.dvd_pow z))
/-- the divisors found so far -/
structure Divs (n : Nat) (found : List Nat) : Prop where
  mem : ∀ d, d ∈ found ↔ d ∣ n
  nd : found.Pairwise (· ≠ ·)
theorem divs_one : Divs 1 [1] := ⟨fun d => by simp, List.pairwise_singleton _ _⟩
theorem grow_nd {found : List Nat} {q : Nat} (hq : Prime q) (hf : ∀ d ∈ found, 0 < d ∧ ¬ q ∣ d) (nd : found.Pairwise (· ≠ ·)) : ∀ m, (grow found q m).Pairwise (· ≠ ·)
  | 0 => nd
  | m + 1 => by
    refine List.pairwise_append.mpr ⟨grow_nd hq hf nd m, ?_, fun x hx y hy => ?_⟩
    · rw [List.pairwise_map]
      exact nd.imp fun z w => z (Nat.eq_of_mul_eq_mul_right (Nat.pow_pos hq.pos) w)
    · obtain ⟨e, k, h1, h2, rfl⟩ := grow_mem.mp hx
      obtain ⟨e', h3, rfl⟩ := List.mem_map.mp hy
      intro z
      have h4 := vq_eq hq.1 (hf e h1).2 (hf e h1).1 k
      have h5 := vq_eq hq.1 (hf e' h3).2 (hf e' h3).1 (m + 1)
      rw [Nat.mul_comm] at h4 h5
      have h6 : e * q ^ k = e' * q ^ (m + 1) := z
      rw [h6] at h4
      omega
theorem divs_grow {n q m : Nat} {found : List Nat} (h : Divs n found) (n0 : 0 < n) (hq : Prime q) (hn : ¬ q ∣ n) : Divs (n * q ^ m) (grow found q m) := by
  have hf : ∀ d ∈ found, 0 < d ∧ ¬ q ∣ d := fun d hd => by
    have h1 := (h.mem d).mp hd
    exact ⟨Nat.pos_of_dvd_of_pos h1 n0, fun z => hn (Nat.dvd_trans z h1)⟩
  refine ⟨fun d => ?_, grow_nd hq hf h.nd m⟩
  rw [grow_mem]
  constructor
  · rintro ⟨e, k, h1, h2, rfl⟩
    exact Nat.mul_dvd_mul ((h.mem e).mp h1) (Nat.pow_dvd_pow q h2)
  · intro hd
    have d0 : 0 < d := Nat.pos_of_dvd_of_pos hd (Nat.mul_pos n0 (Nat.pow_pos hq.pos))
    obtain ⟨c, e1, h1, h2⟩ := vq_split hq d0
    rw [e1, Nat.mul_comm n] at hd
    obtain ⟨h3, h4⟩ := (pow_split hq hn h1).mp hd
    exact ⟨c, vq q d, (h.mem c).mpr h4, h3, by rw [Nat.mul_comm]; exact e1⟩
/-- behind the first rows of a parting -/
theorem divs_take {n : Nat} {l : List (Nat × Nat)} (hl : IsFac n l) : ∀ i, i ≤ l.length → Divs (prodL (l.take i)) (divL [1] (l.take i)) ∧ 0 < prodL (l.take i) := by
  intro i
  induction i with
  | zero => intro _; exact ⟨by simpa [prodL, divL] using divs_one, by simp [prodL]⟩
  | succ i ih =>
    intro hi
    obtain ⟨h, h0⟩ := ih (by omega)
    obtain ⟨⟨q, m⟩, hx⟩ : ∃ x, l[i]? = some x := ⟨_, List.getElem?_eq_getElem (by omega)⟩
    have et : l.take (i + 1) = l.take i ++ [(q, m)] := by rw [List.take_add_one, hx]; rfl
    have hq := (hl.primes _ (List.mem_of_getElem? hx)).1
    have hno : ¬ q ∣ prodL (l.take i) := fun z => by
      obtain ⟨k, hk⟩ := prime_in' hq (fun x hx => (hl.primes x (List.mem_of_mem_take hx)).1) z
      have hs := hl.sorted
      rw [← List.take_append_drop (i + 1) l, et] at hs
      have h1 := (List.pairwise_append.mp (List.pairwise_append.mp hs).1).2.2 _ hk (q, m) (by simp)
      exact Nat.lt_irrefl _ h1
    rw [et, prodL_app, divL_app]
    refine ⟨?_, Nat.mul_pos h0 (by simp [prodL]; exact Nat.pow_pos hq.pos)⟩
    have h1 := divs_grow (m := m) h h0 hq hno
    simpa [prodL, divL] using h1
theorem divs_all {n : Nat} {l : List (Nat × Nat)} (hl : IsFac n l) : Divs n (divL [1] l) := by
  have h := (divs_take hl l.length (Nat.le_refl _)).1
  rw [List.take_length, hl.prod] at h
  exact h
def manyL : List (Nat × Nat) → Nat
  | [] => 1
  | x :: l => (x.2 + 1) * manyL l
theorem manyL_app (l m : List (Nat × Nat)) : manyL (l ++ m) = manyL l * manyL m := by
  induction l with
  | nil => simp [manyL]
  | cons x l ih => simp only [List.cons_append, manyL, ih, Nat.mul_assoc]
theorem divL_len (found : List Nat) (l : List (Nat × Nat)) : (divL found l).length = found.length * manyL l := by
  induction l generalizing found with
  | nil => simp [divL, manyL]
  | cons x l ih => rw [divL, ih, grow_len, manyL, Nat.mul_assoc]
theorem cube_le : ∀ k : Nat, (k + 1) ^ 3 ≤ 2 * 4 ^ k
  | 0 => by decide
  | 1 => by decide
  | 2 => by decide
  | k + 3 => by
    have ih := cube_le (k + 2)
    have h1 : (k + 3 + 1) ^ 3 ≤ 4 * (k + 2 + 1) ^ 3 := by grind
    have h2 : 4 ^ (k + 3) = 4 * 4 ^ (k + 2) := by rw [Nat.pow_succ]; omega
    omega
theorem many_le3 {l : List (Nat × Nat)} (h : ∀ x ∈ l, 3 ≤ x.1) : manyL l ^ 3 ≤ prodL l ^ 2 := by
  induction l with
  | nil => simp [manyL, prodL]
  | cons x l ih =>
    have ih' := ih fun y hy => h y (by simp [hy])
    have hx := h x (by simp)
    have h1 : x.2 + 1 ≤ 2 ^ x.2 := Nat.lt_two_pow_self
    have h2 : (x.2 + 1) ^ 3 ≤ (2 ^ x.2) ^ 3 := Nat.pow_le_pow_left h1 3
    have h3 : ((2 : Nat) ^ x.2) ^ 3 = 8 ^ x.2 := by rw [← Nat.pow_mul, Nat.mul_comm, Nat.pow_mul]
    have h4 : (x.1 ^ x.2) ^ 2 = (x.1 ^ 2) ^ x.2 := by rw [← Nat.pow_mul, Nat.mul_comm, Nat.pow_mul]
    have h5 : 8 ≤ x.1 ^ 2 := by
      have : 3 ^ 2 ≤ x.1 ^ 2 := Nat.pow_le_pow_left hx 2
      omega
    have h6 : 8 ^ x.2 ≤ (x.1 ^ 2) ^ x.2 := Nat.pow_le_pow_left h5 _
    simp only [manyL, prodL, Nat.mul_pow]
    exact Nat.mul_le_mul (by rw [h4]; omega) ih'
theorem many_le {n : Nat} {l : List (Nat × Nat)} (hl : IsFac n l) : manyL l ^ 3 ≤ 2 * n ^ 2 := by
  have hp := hl.prod
  have hs := hl.sorted
  have hq := hl.primes
  cases l with
  | nil =>
    simp only [prodL] at hp
    subst hp
    simp [manyL]
  | cons x l =>
    have hs' := List.pairwise_cons.mp hs
    have hx := (hq x (by simp)).1.1
    have h3 := many_le3 (l := l) fun y hy => by have := hs'.1 y hy; omega
    have h1 := cube_le x.2
    have h4 : (x.1 ^ x.2) ^ 2 = (x.1 ^ 2) ^ x.2 := by rw [← Nat.pow_mul, Nat.mul_comm, Nat.pow_mul]
    have h5 : 4 ≤ x.1 ^ 2 := by
      have : 2 ^ 2 ≤ x.1 ^ 2 := Nat.pow_le_pow_left hx 2
      omega
    have h6 : 4 ^ x.2 ≤ (x.1 ^ 2) ^ x.2 := Nat.pow_le_pow_left h5 _
    rw [← hp]
    simp only [manyL, prodL, Nat.mul_pow]
    rw [← Nat.mul_assoc]
    exact Nat.mul_le_mul (by rw [h4]; omega) h3
theorem many_line {n : Nat} {l : List (Nat × Nat)} (hl : IsFac n l) (hn : n ≤ 1000000000) : manyL l ≤ 2000000 := by
  rcases Nat.lt_or_ge 2000000 (manyL l) with z | z
  · exfalso
    have h1 := many_le hl
    have h2 : n ^ 2 ≤ 1000000000 ^ 2 := Nat.pow_le_pow_left hn 2
    have h3 : 2000000 ^ 3 ≤ manyL l ^ 3 := Nat.pow_le_pow_left (by omega) 3
    have h4 : (2000000 : Nat) ^ 3 = 8000000000000000000 := by decide
    have h5 : (1000000000 : Nat) ^ 2 = 1000000000000000000 := by decide
    omega
  · exact z
/-- the sum of how many are coprime, over all divisors -/
theorem fi_sum {q : Nat} (hq : 2 ≤ q) : ∀ m, ((List.range (m + 1)).map (fi q)).sum = q ^ m
  | 0 => by simp [fi]
  | m + 1 => by
    rw [List.range_succ, List.map_append, List.sum_append, fi_sum hq m]
    simp only [List.map_cons, List.map_nil, List.sum_cons, List.sum_nil, fi]
    rw [if_neg (by omega), Nat.add_sub_cancel, Nat.pow_succ]
    obtain ⟨r, rfl⟩ : ∃ r, q = r + 1 := ⟨q - 1, by omega⟩
    rw [Nat.add_sub_cancel]
    grind
theorem sum_map_mul (F : Nat → Nat) (c : Nat) (l : List Nat) : (l.map fun e => F e * c).sum = (l.map F).sum * c := by
  induction l with
  | nil => simp
  | cons x l ih => simp only [List.map_cons, List.sum_cons, ih, Nat.add_mul]
theorem grow_sum {F : Nat → Nat} {found : List Nat} {q : Nat} (h : ∀ e ∈ found, ∀ k, F (e * q ^ k) = F e * fi q k) : ∀ m, ((grow found q m).map F).sum = (found.map F).sum * ((List.range (m + 1)).map (fi q)).sum
  | 0 => by simp [grow, fi]
  | m + 1 => by
    rw [List.range_succ, List.map_append, List.sum_append, grow, List.map_append, List.sum_append, grow_sum h m, List.map_map, Nat.mul_add]
    congr 1
    simp only [List.map_cons, List.map_nil, List.sum_cons, List.sum_nil, Nat.add_zero]
    rw [← sum_map_mul]
    congr 1
    exact List.map_congr_left fun e he => h e he (m + 1)
theorem phiV_off {q : Nat} (hq : Prime q) : ∀ {L : List (Nat × Nat)} {e : Nat}, (∀ x ∈ L, Prime x.1 ∧ x.1 ≠ q) → 0 < e → ∀ k, phiV L (e * q ^ k) = phiV L e
  | [], _, _, _, _ => rfl
  | x :: L, e, h, he, k => by
    simp only [phiV]
    rw [vq_mul_off (h x (by simp)).1 he (not_dvd_pow (h x (by simp)).1 hq (h x (by simp)).2), phiV_off hq (fun y hy => h y (by simp [hy])) he k]
theorem phi_sum_take {n : Nat} {l : List (Nat × Nat)} (hl : IsFac n l) : ∀ i, i ≤ l.length → ((divL [1] (l.take i)).map (phiV l)).sum = prodL (l.take i) := by
  intro i
  induction i with
  | zero =>
    intro _
    have key : ∀ L : List (Nat × Nat), (∀ x ∈ L, Prime x.1) → phiV L 1 = 1 := by
      intro L
      induction L with
      | nil => intro _; rfl
      | cons x L ih =>
        intro h
        have h1 : vq x.1 1 = 0 := vq_no fun z => by
          have := (h x (by simp)).1
          have h2 := z.2.2
          rw [Nat.mod_eq_of_lt (by omega)] at h2
          omega
        simp only [phiV, ih fun y hy => h y (by simp [hy]), h1, fi]
        simp
    simp [divL, prodL, key l fun x hx => (hl.primes x hx).1]
  | succ i ih =>
    intro hi
    have ih' := ih (by omega)
    obtain ⟨hd, h0⟩ := divs_take hl i (by omega)
    obtain ⟨⟨q, m⟩, hx⟩ : ∃ x, l[i]? = some x := ⟨_, List.getElem?_eq_getElem (by omega)⟩
    have et : l.take (i + 1) = l.take i ++ [(q, m)] := by rw [List.take_add_one, hx]; rfl
    have hq := (hl.primes _ (List.mem_of_getElem? hx)).1
    have hsplit : l = l.take i ++ (q, m) :: l.drop (i + 1) := by
      conv => lhs; rw [← List.take_append_drop (i + 1) l, et]
      simp
    have hs := hl.sorted
    rw [hsplit] at hs
    obtain ⟨_, hs2, hs3⟩ := List.pairwise_append.mp hs
    have hs4 := (List.pairwise_cons.mp hs2).1
    have hA : ∀ x ∈ l.take i, Prime x.1 ∧ x.1 ≠ q := fun x hx => ⟨(hl.primes x (List.mem_of_mem_take hx)).1, by
      have h1 : x.1 < q := hs3 x hx (q, m) (by simp)
      omega⟩
    have hB : ∀ x ∈ l.drop (i + 1), Prime x.1 ∧ x.1 ≠ q := fun x hx => ⟨(hl.primes x (List.mem_of_mem_drop hx)).1, by
      have h1 : q < x.1 := hs4 x hx
      omega⟩
    have hno : ¬ q ∣ prodL (l.take i) := fun z => by
      obtain ⟨k, hk⟩ := prime_in' hq (fun x hx => (hA x hx).1) z
      exact (hA _ hk).2 rfl
    rw [et, prodL_app, divL_app]
    show ((grow (divL [1] (l.take i)) q m).map (phiV l)).sum = _
    rw [grow_sum (F := phiV l) (fun e he k => ?_) m, ih', fi_sum hq.1]
    · simp [prodL]
    · have h1 := (hd.mem e).mp he
      have e0 : 0 < e := Nat.pos_of_dvd_of_pos h1 h0
      have hqe : ¬ q ∣ e := fun z => hno (Nat.dvd_trans z h1)
      have h2 : vq q (e * q ^ k) = k := by rw [Nat.mul_comm]; exact vq_eq hq.1 hqe e0 k
      have h3 : vq q e = 0 := vq_no fun z => hqe (Nat.dvd_of_mod_eq_zero z.2.2)
      have hL : ∀ d, phiV l d = phiV (l.take i) d * (fi q (vq q d) * phiV (l.drop (i + 1)) d) := fun d => by
        conv => lhs; rw [hsplit, phiV_app]
        rfl
      rw [hL, hL e, phiV_off hq hA e0, phiV_off hq hB e0, h2, h3]
      have h4 : fi q 0 = 1 := rfl
      rw [h4]
      grind
theorem phi_sum {n : Nat} {l : List (Nat × Nat)} (hl : IsFac n l) : ((divL [1] l).map (phiV l)).sum = n := by
  have h := phi_sum_take hl l.length (Nat.le_refl _)
  rw [List.take_length, hl.prod] at h
  exact h
/-- the parting of d within l -/
def within (l : List (Nat × Nat)) (d : Nat) : List (Nat × Nat) := (vL d l).filter fun x => decide (0 < x.2)
theorem within_prod (l : List (Nat × Nat)) (d : Nat) : prodL (within l d) = prodL (vL d l) := by
  unfold within
  induction vL d l with
  | nil => rfl
  | cons x L ih =>
    by_cases c : 0 < x.2
    · rw [List.filter_cons_of_pos (by simpa using c)]
      simp only [prodL, ih]
    · rw [List.filter_cons_of_neg (by simpa using c), ih]
      have : x.2 = 0 := by omega
      simp [prodL, this]
theorem within_phi (l : List (Nat × Nat)) (d : Nat) : phiL (within l d) = phiV l d := by
  unfold within
  induction l with
  | nil => rfl
  | cons x L ih =>
    show phiL (((x.1, vq x.1 d) :: vL d L).filter _) = _
    by_cases c : 0 < vq x.1 d
    · rw [List.filter_cons_of_pos (by simpa using c)]
      simp only [phiL, phiV, ih, fi]
      rw [if_neg (by omega)]
    · rw [List.filter_cons_of_neg (by simpa using c), ih]
      have : vq x.1 d = 0 := by omega
      simp [phiV, this, fi]
theorem vL_full {n d : Nat} {l : List (Nat × Nat)} (hl : IsFac n l) (d0 : 0 < d) (hd : d ∣ n) : prodL (vL d l) = d := by
  have key : ∀ i, i ≤ l.length → ∃ e, OF d n l i e := by
    intro i
    induction i with
    | zero => exact fun _ => ⟨n, of_start hl hd⟩
    | succ i ih =>
      intro hi
      obtain ⟨e, he⟩ := ih (by omega)
      have hx : l[i]? = some (l[i]'(by omega)) := List.getElem?_eq_getElem (by omega)
      obtain ⟨m, _, _, _, _, _, h⟩ := of_step hl d0 he (q := (l[i]'(by omega)).1) (b := (l[i]'(by omega)).2) hx
      exact ⟨_, h⟩
  obtain ⟨e, he⟩ := key _ (Nat.le_refl _)
  have h2 := of_end hl d0 he
  have h3 := he.val
  rw [List.take_length, List.drop_length] at h3
  simp only [prodL, Nat.mul_one] at h3
  omega
theorem within_fac {n d : Nat} {l : List (Nat × Nat)} (hl : IsFac n l) (d0 : 0 < d) (hd : d ∣ n) : IsFac d (within l d) := by
  refine ⟨?_, fun x hx => ?_, by rw [within_prod, vL_full hl d0 hd]⟩
  · have h := hl.sorted
    unfold within vL
    refine List.Pairwise.filter _ ?_
    rw [List.pairwise_map]
    exact h
  · obtain ⟨h1, h2⟩ := List.mem_filter.mp hx
    obtain ⟨y, hy, rfl⟩ := List.mem_map.mp h1
    exact ⟨(hl.primes y hy).1, by simpa using h2⟩
end M

/-! two numbers without a divisor in common -/
namespace M
theorem phiL_perm {l l' : List (Nat × Nat)} (h : l.Perm l') : phiL l = phiL l' := by
  induction h with
  | nil => rfl
  | cons x _ ih => simp only [phiL]; rw [ih]
  | swap x y l => simp only [phiL]; exact Nat.mul_left_comm _ _ _
  | trans _ _ ih1 ih2 => exact ih1.trans ih2
theorem fac_nodup {E : Nat} {l : List (Nat × Nat)} (h : IsFac E l) : l.Nodup := h.sorted.imp fun {a b} z e => by rw [e] at z; omega
theorem fac_mul {n m : Nat} {l l' k : List (Nat × Nat)} (n0 : 0 < n) (m0 : 0 < m) (g : Nat.gcd n m = 1) (hl : IsFac n l) (hl' : IsFac m l') (hk : IsFac (n * m) k) : k.Perm (l ++ l') := by
  have no : ∀ q, Prime q → q ∣ n → ¬ q ∣ m := fun q hq h1 h2 => by
    have h3 := Nat.dvd_gcd h1 h2
    rw [g] at h3
    have := hq.1
    have := Nat.le_of_dvd (by decide) h3
    omega
  have hv1 : ∀ q, Prime q → q ∣ n → vq q (n * m) = vq q n := fun q hq h => vq_mul_off hq n0 (no q hq h)
  have hv2 : ∀ q, Prime q → q ∣ m → vq q (n * m) = vq q m := fun q hq h => by
    rw [Nat.mul_comm]
    exact vq_mul_off hq m0 fun z => no q hq z h
  refine (List.perm_ext_iff_of_nodup (fac_nodup hk) ?_).mpr fun x => ?_
  · refine List.nodup_append.mpr ⟨fac_nodup hl, fac_nodup hl', fun a ha b hb e => ?_⟩
    subst e
    have h1 := (fac_mem_iff hl a).mp ha
    have h2 := (fac_mem_iff hl' a).mp hb
    exact no a.1 h1.1 h1.2.1 h2.2.1
  · rw [fac_mem_iff hk x, List.mem_append, fac_mem_iff hl x, fac_mem_iff hl' x]
    constructor
    · rintro ⟨h1, h2, h3⟩
      rcases h1.dvd_mul h2 with z | z
      · exact .inl ⟨h1, z, by rw [h3, hv1 _ h1 z]⟩
      · exact .inr ⟨h1, z, by rw [h3, hv2 _ h1 z]⟩
    · rintro (⟨h1, h2, h3⟩ | ⟨h1, h2, h3⟩)
      · exact ⟨h1, Nat.dvd_trans h2 (Nat.dvd_mul_right _ _), by rw [h3, hv1 _ h1 h2]⟩
      · exact ⟨h1, Nat.dvd_trans h2 (Nat.dvd_mul_left _ _), by rw [h3, hv2 _ h1 h2]⟩
theorem phi_mul {n m : Nat} {l l' k : List (Nat × Nat)} (n0 : 0 < n) (m0 : 0 < m) (g : Nat.gcd n m = 1) (hl : IsFac n l) (hl' : IsFac m l') (hk : IsFac (n * m) k) : phiL k = phiL l * phiL l' := by
  rw [phiL_perm (fac_mul n0 m0 g hl hl' hk), phiL_app]
/-- all products -/
def prods (ds es : List Nat) : List Nat := ds.flatMap fun a => es.map fun b => a * b
theorem prods_mem {ds es : List Nat} {z : Nat} : z ∈ prods ds es ↔ ∃ a ∈ ds, ∃ b ∈ es, a * b = z := by
  unfold prods
  simp only [List.mem_flatMap, List.mem_map]
theorem prods_len (ds es : List Nat) : (prods ds es).length = ds.length * es.length := by
  unfold prods
  induction ds with
  | nil => simp
  | cons d ds ih => rw [List.flatMap_cons, List.length_append, List.length_map, ih, List.length_cons, Nat.succ_mul, Nat.add_comm]
theorem prods_nd {n m : Nat} {ds es : List Nat} (n0 : 0 < n) (m0 : 0 < m) (g : Nat.gcd n m = 1) (hd : ∀ d ∈ ds, d ∣ n) (he : ∀ e ∈ es, e ∣ m) (nd : ds.Pairwise (· ≠ ·)) (ne : es.Pairwise (· ≠ ·)) : (prods ds es).Pairwise (· ≠ ·) := by
  have cop : ∀ a b, a ∣ n → b ∣ m → Nat.gcd a b = 1 := fun a b ha hb => Nat.eq_one_of_dvd_one (by rw [← g]; exact Nat.dvd_gcd (Nat.dvd_trans (Nat.gcd_dvd_left a b) ha) (Nat.dvd_trans (Nat.gcd_dvd_right a b) hb))
  have key : ∀ a a' b b', a ∣ n → a' ∣ n → b ∣ m → b' ∣ m → a * b = a' * b' → a = a' := fun a a' b b' h1 h2 h3 h4 e => by
    refine Nat.dvd_antisymm ?_ ?_
    · exact Nat.Coprime.dvd_of_dvd_mul_right (cop a b' h1 h4) (by rw [← e]; exact Nat.dvd_mul_right a b)
    · exact Nat.Coprime.dvd_of_dvd_mul_right (cop a' b h2 h3) (by rw [e]; exact Nat.dvd_mul_right a' b')
  unfold prods
  induction ds with
  | nil => exact .nil
  | cons d ds ih =>
    have nd' := List.pairwise_cons.mp nd
    have hdn := hd d (by simp)
    have d0 := Nat.pos_of_dvd_of_pos hdn n0
    rw [List.flatMap_cons]
    refine List.pairwise_append.mpr ⟨?_, ih (fun x hx => hd x (by simp [hx])) nd'.2, fun x hx y hy e => ?_⟩
    · rw [List.pairwise_map]
      exact ne.imp fun {a b} h e => h (Nat.eq_of_mul_eq_mul_left d0 e)
    · obtain ⟨b, hb, rfl⟩ := List.mem_map.mp hx
      obtain ⟨a', ha', hy'⟩ := List.mem_flatMap.mp hy
      obtain ⟨b', hb', rfl⟩ := List.mem_map.mp hy'
      exact nd'.1 a' ha' (key d a' b b' hdn (hd a' (by simp [ha'])) (he b hb) (he b' hb') e)
theorem prods_perm {n m : Nat} {ds es fs : List Nat} (n0 : 0 < n) (m0 : 0 < m) (g : Nat.gcd n m = 1) (hd : Divs n ds) (he : Divs m es) (hf : Divs (n * m) fs) : (prods ds es).Perm fs := by
  refine (List.perm_ext_iff_of_nodup (prods_nd n0 m0 g (fun d h => (hd.mem d).mp h) (fun d h => (he.mem d).mp h) hd.nd he.nd) hf.nd).mpr fun z => ?_
  rw [prods_mem, hf.mem z]
  constructor
  · rintro ⟨a, ha, b, hb, rfl⟩
    exact Nat.mul_dvd_mul ((hd.mem a).mp ha) ((he.mem b).mp hb)
  · intro h
    obtain ⟨a, b, h1, h2, e⟩ := Nat.dvd_mul.mp h
    exact ⟨a, (hd.mem a).mpr h1, b, (he.mem b).mpr h2, e⟩
theorem fac_one_prime {q : Nat} (hq : Prime q) : IsFac q [(q, 1)] := ⟨by simp, fun x hx => by rw [List.mem_singleton.mp hx]; exact ⟨hq, Nat.one_pos⟩, by simp [prodL]⟩
theorem phi_prime (q : Nat) : phiL [(q, 1)] = q - 1 := by simp [phiL]
end M

/-! the sieve -/
namespace M
noncomputable def pB (q : Nat) : Bool := @decide (Prime q) (Classical.propDecidable _)
theorem pB_iff {q : Nat} : pB q = true ↔ Prime q := by
  unfold pB
  exact @decide_eq_true_iff _ (Classical.propDecidable _)
/-- the primes below d -/
noncomputable def prs (d : Nat) : List Nat := (List.range d).filter pB
theorem prs_yes {d : Nat} (h : Prime d) : prs (d + 1) = prs d ++ [d] := by
  unfold prs
  rw [List.range_succ, List.filter_append, List.filter_cons_of_pos (pB_iff.mpr h)]; rfl
theorem prs_no {d : Nat} (h : ¬ Prime d) : prs (d + 1) = prs d := by
  unfold prs
  rw [List.range_succ, List.filter_append, List.filter_cons_of_neg (fun z => h (pB_iff.mp z))]; simp
theorem prs_two {d : Nat} (h : d ≤ 2) : prs d = [] := List.filter_eq_nil_iff.mpr fun a ha z => by
  have := (pB_iff.mp z).1
  have := List.mem_range.mp ha
  omega
theorem prs_len (d : Nat) : (prs d).length ≤ d := by
  have h := List.length_filter_le pB (List.range d)
  rw [List.length_range] at h
  exact h
/-- a number that a prime below d has crossed out -/
def Stk (d k : Nat) : Prop := ∃ q, Prime q ∧ q < d ∧ q * q ≤ k ∧ q ∣ k
theorem stk_two {k : Nat} : ¬ Stk 2 k := fun ⟨q, h1, h2, _⟩ => by have := h1.1; omega
theorem stk_prime {d : Nat} (h2 : 2 ≤ d) : ¬ Stk d d ↔ Prime d := by
  constructor
  · intro h
    refine prime_of_no h2 fun e e2 ee hd => ?_
    obtain ⟨q, hq, hqe⟩ := exists_prime e e2
    have hle := Nat.le_of_dvd (by omega) hqe
    have h3 := Nat.mul_le_mul hle hle
    have h4 : 2 * q ≤ q * q := Nat.mul_le_mul_right q hq.1
    have := hq.1
    exact h ⟨q, hq, by omega, by omega, Nat.dvd_trans hqe hd⟩
  · rintro hp ⟨q, hq, hlt, _, hd⟩
    have := hq.eq_of_dvd hp hd
    omega
theorem stk_yes {d k : Nat} (h : Prime d) : Stk (d + 1) k ↔ Stk d k ∨ (d * d ≤ k ∧ d ∣ k) := by
  constructor
  · rintro ⟨q, h1, h2, h3, h4⟩
    by_cases z : q = d
    · exact .inr ⟨z ▸ h3, z ▸ h4⟩
    · exact .inl ⟨q, h1, by omega, h3, h4⟩
  · rintro (⟨q, h1, h2, h3, h4⟩ | ⟨h3, h4⟩)
    · exact ⟨q, h1, by omega, h3, h4⟩
    · exact ⟨d, h, by omega, h3, h4⟩
theorem stk_no {d k : Nat} (h : ¬ Prime d) : Stk (d + 1) k ↔ Stk d k := by
  constructor
  · rintro ⟨q, h1, h2, h3, h4⟩
    exact ⟨q, h1, by
      have : q ≠ d := fun z => h (z ▸ h1)
      omega, h3, h4⟩
  · rintro ⟨q, h1, h2, h3, h4⟩
    exact ⟨q, h1, by omega, h3, h4⟩
/-- the multiples from the square on -/
theorem stk_all {d N k : Nat} {c : Nat} (d0 : 0 < d) (hc : ∀ m : Nat, m < c ↔ ((d * d : Nat) : Int) + m * d < ((N + 1 : Nat) : Int)) (hk : k ≤ N) : (∃ j, j < c ∧ k = d * d + j * d) ↔ (d * d ≤ k ∧ d ∣ k) := by
  constructor
  · rintro ⟨j, hj, rfl⟩
    exact ⟨Nat.le_add_right _ _, Nat.dvd_add (Nat.dvd_mul_right d d) (Nat.dvd_mul_left d j)⟩
  · rintro ⟨h1, e, rfl⟩
    have he : d ≤ e := Nat.le_of_mul_le_mul_left h1 d0
    obtain ⟨f, rfl⟩ := Nat.exists_eq_add_of_le he
    refine ⟨f, (hc f).mpr ?_, by rw [Nat.mul_add, Nat.mul_comm d f]⟩
    have e2 : d * (d + f) = d * d + f * d := by rw [Nat.mul_add, Nat.mul_comm d f]
    rw [e2] at hk
    have : ((d * d + f * d : Nat) : Int) < ((N + 1 : Nat) : Int) := by omega
    push_cast at this ⊢
    omega
end M

/-! ranges with a step above 0 -/
theorem rgc {i j : Int} {c : Nat} (c0 : 0 < c) (cb : c < 1000000) (i0 : 0 ≤ i) (i1 : i < 2 ^ 60) (j0 : -(2 ^ 60) ≤ j) (j1 : j < 2 ^ 60) : ∃ n : Nat, L2.RgC i j c n ∧ ∀ m : Nat, m < n ↔ i + m * c < j := by
  have cp : (c : Int) > 0 := by omega
  have hs : PySem.Builtin.Range.rangeSize i j c = if i < j then (j - i - 1) / c + 1 else 0 := by
    unfold PySem.Builtin.Range.rangeSize
    rw [if_pos cp]
  have hd : i < j → 0 ≤ (j - i - 1) / (c : Int) ∧ (j - i - 1) / (c : Int) ≤ j - i - 1 := fun h => ⟨Int.ediv_nonneg (by omega) (by omega), Int.ediv_le_self _ (by omega)⟩
  have h0 : 0 ≤ PySem.Builtin.Range.rangeSize i j c := by
    rw [hs]; split
    · rename_i h; have := hd h; omega
    · omega
  refine ⟨(PySem.Builtin.Range.rangeSize i j c).toNat, ⟨by omega, by omega, ?_, (Int.toNat_of_nonneg h0).symm⟩, fun m => ?_⟩
  · unfold PySem.Builtin.Range.small
    rw [hs]
    simp only [PySem.Builtin.Range.rangeFitsLong, Bool.and_eq_true, Bool.or_eq_true, decide_eq_true_eq, beq_iff_eq, cp, if_true]
    split
    · rename_i h
      have := hd h
      have h2 : (j - i - 1) / (c : Int) * c ≤ j - i - 1 := Int.ediv_mul_le _ (by omega)
      omega
    · omega
  · rw [hs]
    split
    · rename_i h
      have := hd h
      have h3 : (m : Int) ≤ (j - i - 1) / c ↔ (m : Int) * c ≤ j - i - 1 := Int.le_ediv_iff_mul_le cp
      omega
    · rename_i h
      have h4 : (0 : Int) ≤ (m : Int) * c := Int.mul_nonneg (by omega) (by omega)
      omega

namespace C
open PySem PySem.Spec PyProof.Rows L2 R

def top (i : Nat) : Stmt := PySem.Challenge.pw_rootprime_k13_whole_divisors_and_coprime.main.body.getD i (.Pass ⟨0, 0, 0, 0⟩)
abbrev FnP (K : PySem.W.Frag) (x : Str) (st : Stmt) (f : Addr) (fd : FuncData) : Prop := FunD K x x (defArgs st) (defBody st) (defScope st) [] [] f fd
abbrev s_primes_to : Stmt := top 7
abbrev N_primes_to : List Str := ["n", "found", "struck", "d", "k"]
theorem sc_primes_to : FnScope N_primes_to ["n"] (defScope s_primes_to) := ⟨rfl, rfl, rfl, by decide +kernel, rfl, by decide +kernel, by decide +kernel⟩
abbrev s_look_at : Stmt := top 8
abbrev N_look_at : List Str := ["n", "least"]
theorem sc_look_at : FnScope N_look_at ["n", "least"] (defScope s_look_at) := ⟨rfl, rfl, rfl, by decide +kernel, rfl, by decide +kernel, by decide +kernel⟩
abbrev s_divisor_from : Stmt := top 9
abbrev N_divisor_from : List Str := ["n", "d"]
theorem sc_divisor_from : FnScope N_divisor_from ["n", "d"] (defScope s_divisor_from) := ⟨rfl, rfl, rfl, by decide +kernel, rfl, by decide +kernel, by decide +kernel⟩
abbrev s_least_divisor : Stmt := top 10
abbrev N_least_divisor : List Str := ["n"]
theorem sc_least_divisor : FnScope N_least_divisor ["n"] (defScope s_least_divisor) := ⟨rfl, rfl, rfl, by decide +kernel, rfl, by decide +kernel, by decide +kernel⟩
abbrev s_parted : Stmt := top 11
abbrev N_parted : List Str := ["n", "found", "d", "many"]
theorem sc_parted : FnScope N_parted ["n"] (defScope s_parted) := ⟨rfl, rfl, rfl, by decide +kernel, rfl, by decide +kernel, by decide +kernel⟩
abbrev s_taken : Stmt := top 12
abbrev N_taken : List Str := ["q", "many", "found", "k"]
theorem sc_taken : FnScope N_taken ["q", "many"] (defScope s_taken) := ⟨rfl, rfl, rfl, by decide +kernel, rfl, by decide +kernel, by decide +kernel⟩
abbrev s_whole_of : Stmt := top 13
abbrev N_whole_of : List Str := ["parting", "found", "q", "many"]
theorem sc_whole_of : FnScope N_whole_of ["parting"] (defScope s_whole_of) := ⟨rfl, rfl, rfl, by decide +kernel, rfl, by decide +kernel, by decide +kernel⟩
abbrev s_divisors : Stmt := top 14
abbrev N_divisors : List Str := ["parting", "found", "q", "many", "more", "k", "d"]
theorem sc_divisors : FnScope N_divisors ["parting"] (defScope s_divisors) := ⟨rfl, rfl, rfl, by decide +kernel, rfl, by decide +kernel, by decide +kernel⟩
abbrev s_coprimes : Stmt := top 15
abbrev N_coprimes : List Str := ["parting", "found", "q", "many"]
theorem sc_coprimes : FnScope N_coprimes ["parting"] (defScope s_coprimes) := ⟨rfl, rfl, rfl, by decide +kernel, rfl, by decide +kernel, by decide +kernel⟩
abbrev s_divisor : Stmt := top 17
abbrev N_divisor : List Str := ["a", "b", "g", "u", "v", "rest", "x", "y", "times"]
theorem sc_divisor : FnScope N_divisor ["a", "b"] (defScope s_divisor) := ⟨rfl, rfl, rfl, by decide +kernel, rfl, by decide +kernel, by decide +kernel⟩
abbrev s__law_draws : Stmt := top 19
abbrev N__law_draws : List Str := ["_law_cell", "_law_many", "_law_found", "_law_k", "_law_number"]
theorem sc__law_draws : FnScope N__law_draws ["_law_cell", "_law_many"] (defScope s__law_draws) := ⟨rfl, rfl, rfl, by decide +kernel, rfl, by decide +kernel, by decide +kernel⟩
abbrev s__law_made : Stmt := top 20
abbrev N__law_made : List Str := ["_law_number", "_law_way", "_law_n", "_law_k", "_law_q", "_law_turn"]
theorem sc__law_made : FnScope N__law_made ["_law_number", "_law_way"] (defScope s__law_made) := ⟨rfl, rfl, rfl, by decide +kernel, rfl, by decide +kernel, by decide +kernel⟩
abbrev s__law_alone : Stmt := top 21
abbrev N__law_alone : List Str := ["_law_n", "_law_some", "_law_primes", "_law_total", "_law_one", "_law_q", "_law_many"]
theorem sc__law_alone : FnScope N__law_alone ["_law_n"] (defScope s__law_alone) := ⟨rfl, rfl, rfl, by decide +kernel, rfl, by decide +kernel, by decide +kernel⟩
abbrev s__law_together : Stmt := top 22
abbrev N__law_together : List Str := ["_law_n", "_law_m", "_law_more", "_law_products", "_law_one", "_law_other"]
theorem sc__law_together : FnScope N__law_together ["_law_n", "_law_m"] (defScope s__law_together) := ⟨rfl, rfl, rfl, by decide +kernel, rfl, by decide +kernel, by decide +kernel⟩
abbrev s_law : Stmt := top 23
abbrev N_law : List Str := ["_law_script", "_law_cell", "_law_row", "_law_n", "_law_m"]
theorem sc_law : FnScope N_law ["_law_script"] (defScope s_law) := ⟨rfl, rfl, rfl, by decide +kernel, rfl, by decide +kernel, by decide +kernel⟩
abbrev s_init_TooFar : Stmt := inClass (top 3) 0
theorem sc_init_TooFar : FnScope ["self", "part"] ["self", "part"] (defScope s_init_TooFar) := ⟨rfl, rfl, rfl, by decide +kernel, rfl, by decide +kernel, by decide +kernel⟩
def fn : List He5.DefA := [⟨fun K => He.ga K "primes_to", "primes_to", "primes_to", defArgs s_primes_to, defBody s_primes_to, defScope s_primes_to, [], []⟩,
  ⟨fun K => He.ga K "look_at", "look_at", "look_at", defArgs s_look_at, defBody s_look_at, defScope s_look_at, [], []⟩,
  ⟨fun K => He.ga K "divisor_from", "divisor_from", "divisor_from", defArgs s_divisor_from, defBody s_divisor_from, defScope s_divisor_from, [], []⟩,
  ⟨fun K => He.ga K "least_divisor", "least_divisor", "least_divisor", defArgs s_least_divisor, defBody s_least_divisor, defScope s_least_divisor, [], []⟩,
  ⟨fun K => He.ga K "parted", "parted", "parted", defArgs s_parted, defBody s_parted, defScope s_parted, [], []⟩,
  ⟨fun K => He.ga K "taken", "taken", "taken", defArgs s_taken, defBody s_taken, defScope s_taken, [], []⟩,
  ⟨fun K => He.ga K "whole_of", "whole_of", "whole_of", defArgs s_whole_of, defBody s_whole_of, defScope s_whole_of, [], []⟩,
  ⟨fun K => He.ga K "divisors", "divisors", "divisors", defArgs s_divisors, defBody s_divisors, defScope s_divisors, [], []⟩,
  ⟨fun K => He.ga K "coprimes", "coprimes", "coprimes", defArgs s_coprimes, defBody s_coprimes, defScope s_coprimes, [], []⟩,
  ⟨fun K => He.ga K "divisor", "divisor", "divisor", defArgs s_divisor, defBody s_divisor, defScope s_divisor, [], []⟩,
  ⟨fun K => He.ga K "_law_draws", "_law_draws", "_law_draws", defArgs s__law_draws, defBody s__law_draws, defScope s__law_draws, [], []⟩,
  ⟨fun K => He.ga K "_law_made", "_law_made", "_law_made", defArgs s__law_made, defBody s__law_made, defScope s__law_made, [], []⟩,
  ⟨fun K => He.ga K "_law_alone", "_law_alone", "_law_alone", defArgs s__law_alone, defBody s__law_alone, defScope s__law_alone, [], []⟩,
  ⟨fun K => He.ga K "_law_together", "_law_together", "_law_together", defArgs s__law_together, defBody s__law_together, defScope s__law_together, [], []⟩,
  ⟨fun K => He.ga K "law", "law", "law", defArgs s_law, defBody s_law, defScope s_law, [], []⟩,
  ⟨fun K => He.ma K (He.ga K "TooFar") "__init__", "__init__", "TooFar.__init__", defArgs s_init_TooFar, defBody s_init_TooFar, defScope s_init_TooFar, [], []⟩]
def fa : List FB := [fun K => (He.Fa.glo "primes_to").ok K, fun K => (He.Fa.glo "look_at").ok K, fun K => (He.Fa.glo "divisor_from").ok K, fun K => (He.Fa.glo "least_divisor").ok K, fun K => (He.Fa.glo "parted").ok K, fun K => (He.Fa.glo "taken").ok K, fun K => (He.Fa.glo "whole_of").ok K, fun K => (He.Fa.glo "divisors").ok K, fun K => (He.Fa.glo "coprimes").ok K, fun K => (He.Fa.glo "divisor").ok K, fun K => (He.Fa.glo "_law_draws").ok K, fun K => (He.Fa.glo "_law_made").ok K, fun K => (He.Fa.glo "_law_alone").ok K, fun K => (He.Fa.glo "_law_together").ok K, fun K => (He.Fa.glo "law").ok K, fun K => (He.Fa.glo "PrimeError").ok K, fun K => (He.Fa.glo "NoNumber").ok K, fun K => (He.Fa.glo "TooFar").ok K, fun K => (He.Fa.free "range").ok K, fun K => (He.Fa.free "int").ok K, fun K => (He.Fa.free "sorted").ok K, fun K => (He.Fa.free "abs").ok K, fun K => (He.Fa.free "enumerate").ok K, fun K => (He.Fa.free "min").ok K, fun K => (He.Fa.int "MOST_SIEVED" 10000).ok K, fun K => (He.Fa.int "MOST_PARTED" 1000000000).ok K, fun K => xinB "TooFar" "part" K, fun K => baseB (He.ga K "PrimeError") K, fun K => (He.Fa.exc "PrimeError").ok K, fun K => (He.Fa.exc "NoNumber").ok K]
structure Txt (K : PySem.W.Frag) (mg : Str → Option Value) : Prop where
  c : Told fa fn K
  gl : ∀ {x : Str}, (He.Fa.glo x).ok K = true → mg x = some (.ref (He.ga K x))
  fr : ∀ {x : Str}, (He.Fa.free x).ok K = true → mg x = none
  int_ok : ∀ {x : Str} {i : Int}, (He.Fa.int x i).ok K = true → ∃ t, mg x = some (.int i t)
section
variable {P : Program} {w : World} {K : PySem.W.Frag} {mg : Str → Option Value} {base : Heap}
theorem F0_primes_to (T : Txt K mg) : ∃ fd, FnP K "primes_to" s_primes_to (He.ga K "primes_to") fd := T.c.dfn 0 rfl
noncomputable def fd_primes_to (T : Txt K mg) : FuncData := (F0_primes_to T).choose
theorem F_primes_to (T : Txt K mg) : FnP K "primes_to" s_primes_to (He.ga K "primes_to") (fd_primes_to T) := (F0_primes_to T).choose_spec
theorem g_primes_to (T : Txt K mg) : mg "primes_to" = some (.ref (He.ga K "primes_to")) := T.gl (T.c.fact 0 rfl)
theorem kp_primes_to (T : Txt K mg) : PySem.W.keepIn K (.ref (He.ga K "primes_to")) = true := (F_primes_to T).kp
theorem B_primes_to (T : Txt K mg) : Binds K (fd_primes_to T) ["n"] [] := (F_primes_to T).bindsN fun _ _ _ _ _ _ us hl => match us, hl with | [_], _ => rfl
theorem F0_look_at (T : Txt K mg) : ∃ fd, FnP K "look_at" s_look_at (He.ga K "look_at") fd := T.c.dfn 1 rfl
noncomputable def fd_look_at (T : Txt K mg) : FuncData := (F0_look_at T).choose
theorem F_look_at (T : Txt K mg) : FnP K "look_at" s_look_at (He.ga K "look_at") (fd_look_at T) := (F0_look_at T).choose_spec
theorem g_look_at (T : Txt K mg) : mg "look_at" = some (.ref (He.ga K "look_at")) := T.gl (T.c.fact 1 rfl)
theorem kp_look_at (T : Txt K mg) : PySem.W.keepIn K (.ref (He.ga K "look_at")) = true := (F_look_at T).kp
theorem B_look_at (T : Txt K mg) : Binds K (fd_look_at T) ["n", "least"] [] := (F_look_at T).bindsN fun _ _ _ _ _ _ us hl => match us, hl with | [_, _], _ => rfl
theorem F0_divisor_from (T : Txt K mg) : ∃ fd, FnP K "divisor_from" s_divisor_from (He.ga K "divisor_from") fd := T.c.dfn 2 rfl
noncomputable def fd_divisor_from (T : Txt K mg) : FuncData := (F0_divisor_from T).choose
theorem F_divisor_from (T : Txt K mg) : FnP K "divisor_from" s_divisor_from (He.ga K "divisor_from") (fd_divisor_from T) := (F0_divisor_from T).choose_spec
theorem g_divisor_from (T : Txt K mg) : mg "divisor_from" = some (.ref (He.ga K "divisor_from")) := T.gl (T.c.fact 2 rfl)
theorem kp_divisor_from (T : Txt K mg) : PySem.W.keepIn K (.ref (He.ga K "divisor_from")) = true := (F_divisor_from T).kp
theorem B_divisor_from (T : Txt K mg) : Binds K (fd_divisor_from T) ["n", "d"] [] := (F_divisor_from T).bindsN fun _ _ _ _ _ _ us hl => match us, hl with | [_, _], _ => rfl
theorem F0_least_divisor (T : Txt K mg) : ∃ fd, FnP K "least_divisor" s_least_divisor (He.ga K "least_divisor") fd := T.c.dfn 3 rfl
noncomputable def fd_least_divisor (T : Txt K mg) : FuncData := (F0_least_divisor T).choose
theorem F_least_divisor (T : Txt K mg) : FnP K "least_divisor" s_least_divisor (He.ga K "least_divisor") (fd_least_divisor T) := (F0_least_divisor T).choose_spec
theorem g_least_divisor (T : Txt K mg) : mg "least_divisor" = some (.ref (He.ga K "least_divisor")) := T.gl (T.c.fact 3 rfl)
theorem kp_least_divisor (T : Txt K mg) : PySem.W.keepIn K (.ref (He.ga K "least_divisor")) = true := (F_least_divisor T).kp
theorem B_least_divisor (T : Txt K mg) : Binds K (fd_least_divisor T) ["n"] [] := (F_least_divisor T).bindsN fun _ _ _ _ _ _ us hl => match us, hl with | [_], _ => rfl
theorem F0_parted (T : Txt K mg) : ∃ fd, FnP K "parted" s_parted (He.ga K "parted") fd := T.c.dfn 4 rfl
noncomputable def fd_parted (T : Txt K mg) : FuncData := (F0_parted T).choose
theorem F_parted (T : Txt K mg) : FnP K "parted" s_parted (He.ga K "parted") (fd_parted T) := (F0_parted T).choose_spec
theorem g_parted (T : Txt K mg) : mg "parted" = some (.ref (He.ga K "parted")) := T.gl (T.c.fact 4 rfl)
theorem kp_parted (T : Txt K mg) : PySem.W.keepIn K (.ref (He.ga K "parted")) = true := (F_parted T).kp
theorem B_parted (T : Txt K mg) : Binds K (fd_parted T) ["n"] [] := (F_parted T).bindsN fun _ _ _ _ _ _ us hl => match us, hl with | [_], _ => rfl
theorem F0_taken (T : Txt K mg) : ∃ fd, FnP K "taken" s_taken (He.ga K "taken") fd := T.c.dfn 5 rfl
noncomputable def fd_taken (T : Txt K mg) : FuncData := (F0_taken T).choose
theorem F_taken (T : Txt K mg) : FnP K "taken" s_taken (He.ga K "taken") (fd_taken T) := (F0_taken T).choose_spec
theorem g_taken (T : Txt K mg) : mg "taken" = some (.ref (He.ga K "taken")) := T.gl (T.c.fact 5 rfl)
theorem kp_taken (T : Txt K mg) : PySem.W.keepIn K (.ref (He.ga K "taken")) = true := (F_taken T).kp
theorem B_taken (T : Txt K mg) : Binds K (fd_taken T) ["q", "many"] [] := (F_taken T).bindsN fun _ _ _ _ _ _ us hl => match us, hl with | [_, _], _ => rfl
theorem F0_whole_of (T : Txt K mg) : ∃ fd, FnP K "whole_of" s_whole_of (He.ga K "whole_of") fd := T.c.dfn 6 rfl
noncomputable def fd_whole_of (T : Txt K mg) : FuncData := (F0_whole_of T).choose
theorem F_whole_of (T : Txt K mg) : FnP K "whole_of" s_whole_of (He.ga K "whole_of") (fd_whole_of T) := (F0_whole_of T).choose_spec
theorem g_whole_of (T : Txt K mg) : mg "whole_of" = some (.ref (He.ga K "whole_of")) := T.gl (T.c.fact 6 rfl)
theorem kp_whole_of (T : Txt K mg) : PySem.W.keepIn K (.ref (He.ga K "whole_of")) = true := (F_whole_of T).kp
theorem B_whole_of (T : Txt K mg) : Binds K (fd_whole_of T) ["parting"] [] := (F_whole_of T).bindsN fun _ _ _ _ _ _ us hl => match us, hl with | [_], _ => rfl
theorem F0_divisors (T : Txt K mg) : ∃ fd, FnP K "divisors" s_divisors (He.ga K "divisors") fd := T.c.dfn 7 rfl
noncomputable def fd_divisors (T : Txt K mg) : FuncData := (F0_divisors T).choose
theorem F_divisors (T : Txt K mg) : FnP K "divisors" s_divisors (He.ga K "divisors") (fd_divisors T) := (F0_divisors T).choose_spec
theorem g_divisors (T : Txt K mg) : mg "divisors" = some (.ref (He.ga K "divisors")) := T.gl (T.c.fact 7 rfl)
theorem kp_divisors (T : Txt K mg) : PySem.W.keepIn K (.ref (He.ga K "divisors")) = true := (F_divisors T).kp
theorem B_divisors (T : Txt K mg) : Binds K (fd_divisors T) ["parting"] [] := (F_divisors T).bindsN fun _ _ _ _ _ _ us hl => match us, hl with | [_], _ => rfl
theorem F0_coprimes (T : Txt K mg) : ∃ fd, FnP K "coprimes" s_coprimes (He.ga K "coprimes") fd := T.c.dfn 8 rfl
noncomputable def fd_coprimes (T : Txt K mg) : FuncData := (F0_coprimes T).choose
theorem F_coprimes (T : Txt K mg) : FnP K "coprimes" s_coprimes (He.ga K "coprimes") (fd_coprimes T) := (F0_coprimes T).choose_spec
theorem g_coprimes (T : Txt K mg) : mg "coprimes" = some (.ref (He.ga K "coprimes")) := T.gl (T.c.fact 8 rfl)
theorem kp_coprimes (T : Txt K mg) : PySem.W.keepIn K (.ref (He.ga K "coprimes")) = true := (F_coprimes T).kp
theorem B_coprimes (T : Txt K mg) : Binds K (fd_coprimes T) ["parting"] [] := (F_coprimes T).bindsN fun _ _ _ _ _ _ us hl => match us, hl with | [_], _ => rfl
theorem F0_divisor (T : Txt K mg) : ∃ fd, FnP K "divisor" s_divisor (He.ga K "divisor") fd := T.c.dfn 9 rfl
noncomputable def fd_divisor (T : Txt K mg) : FuncData := (F0_divisor T).choose
theorem F_divisor (T : Txt K mg) : FnP K "divisor" s_divisor (He.ga K "divisor") (fd_divisor T) := (F0_divisor T).choose_spec
theorem g_divisor (T : Txt K mg) : mg "divisor" = some (.ref (He.ga K "divisor")) := T.gl (T.c.fact 9 rfl)
theorem kp_divisor (T : Txt K mg) : PySem.W.keepIn K (.ref (He.ga K "divisor")) = true := (F_divisor T).kp
theorem B_divisor (T : Txt K mg) : Binds K (fd_divisor T) ["a", "b"] [] := (F_divisor T).bindsN fun _ _ _ _ _ _ us hl => match us, hl with | [_, _], _ => rfl
theorem F0__law_draws (T : Txt K mg) : ∃ fd, FnP K "_law_draws" s__law_draws (He.ga K "_law_draws") fd := T.c.dfn 10 rfl
noncomputable def fd__law_draws (T : Txt K mg) : FuncData := (F0__law_draws T).choose
theorem F__law_draws (T : Txt K mg) : FnP K "_law_draws" s__law_draws (He.ga K "_law_draws") (fd__law_draws T) := (F0__law_draws T).choose_spec
theorem g__law_draws (T : Txt K mg) : mg "_law_draws" = some (.ref (He.ga K "_law_draws")) := T.gl (T.c.fact 10 rfl)
theorem kp__law_draws (T : Txt K mg) : PySem.W.keepIn K (.ref (He.ga K "_law_draws")) = true := (F__law_draws T).kp
theorem B__law_draws (T : Txt K mg) : Binds K (fd__law_draws T) ["_law_cell", "_law_many"] [] := (F__law_draws T).bindsN fun _ _ _ _ _ _ us hl => match us, hl with | [_, _], _ => rfl
theorem F0__law_made (T : Txt K mg) : ∃ fd, FnP K "_law_made" s__law_made (He.ga K "_law_made") fd := T.c.dfn 11 rfl
noncomputable def fd__law_made (T : Txt K mg) : FuncData := (F0__law_made T).choose
theorem F__law_made (T : Txt K mg) : FnP K "_law_made" s__law_made (He.ga K "_law_made") (fd__law_made T) := (F0__law_made T).choose_spec
theorem g__law_made (T : Txt K mg) : mg "_law_made" = some (.ref (He.ga K "_law_made")) := T.gl (T.c.fact 11 rfl)
theorem kp__law_made (T : Txt K mg) : PySem.W.keepIn K (.ref (He.ga K "_law_made")) = true := (F__law_made T).kp
theorem B__law_made (T : Txt K mg) : Binds K (fd__law_made T) ["_law_number", "_law_way"] [] := (F__law_made T).bindsN fun _ _ _ _ _ _ us hl => match us, hl with | [_, _], _ => rfl
theorem F0__law_alone (T : Txt K mg) : ∃ fd, FnP K "_law_alone" s__law_alone (He.ga K "_law_alone") fd := T.c.dfn 12 rfl
noncomputable def fd__law_alone (T : Txt K mg) : FuncData := (F0__law_alone T).choose
theorem F__law_alone (T : Txt K mg) : FnP K "_law_alone" s__law_alone (He.ga K "_law_alone") (fd__law_alone T) := (F0__law_alone T).choose_spec
theorem g__law_alone (T : Txt K mg) : mg "_law_alone" = some (.ref (He.ga K "_law_alone")) := T.gl (T.c.fact 12 rfl)
theorem kp__law_alone (T : Txt K mg) : PySem.W.keepIn K (.ref (He.ga K "_law_alone")) = true := (F__law_alone T).kp
theorem B__law_alone (T : Txt K mg) : Binds K (fd__law_alone T) ["_law_n"] [] := (F__law_alone T).bindsN fun _ _ _ _ _ _ us hl => match us, hl with | [_], _ => rfl
theorem F0__law_together (T : Txt K mg) : ∃ fd, FnP K "_law_together" s__law_together (He.ga K "_law_together") fd := T.c.dfn 13 rfl
noncomputable def fd__law_together (T : Txt K mg) : FuncData := (F0__law_together T).choose
theorem F__law_together (T : Txt K mg) : FnP K "_law_together" s__law_together (He.ga K "_law_together") (fd__law_together T) := (F0__law_together T).choose_spec
theorem g__law_together (T : Txt K mg) : mg "_law_together" = some (.ref (He.ga K "_law_together")) := T.gl (T.c.fact 13 rfl)
theorem kp__law_together (T : Txt K mg) : PySem.W.keepIn K (.ref (He.ga K "_law_together")) = true := (F__law_together T).kp
theorem B__law_together (T : Txt K mg) : Binds K (fd__law_together T) ["_law_n", "_law_m"] [] := (F__law_together T).bindsN fun _ _ _ _ _ _ us hl => match us, hl with | [_, _], _ => rfl
theorem F0_law (T : Txt K mg) : ∃ fd, FnP K "law" s_law (He.ga K "law") fd := T.c.dfn 14 rfl
noncomputable def fd_law (T : Txt K mg) : FuncData := (F0_law T).choose
theorem F_law (T : Txt K mg) : FnP K "law" s_law (He.ga K "law") (fd_law T) := (F0_law T).choose_spec
theorem g_law (T : Txt K mg) : mg "law" = some (.ref (He.ga K "law")) := T.gl (T.c.fact 14 rfl)
theorem kp_law (T : Txt K mg) : PySem.W.keepIn K (.ref (He.ga K "law")) = true := (F_law T).kp
theorem B_law (T : Txt K mg) : Binds K (fd_law T) ["_law_script"] [] := (F_law T).bindsN fun _ _ _ _ _ _ us hl => match us, hl with | [_], _ => rfl
theorem g_PrimeError (T : Txt K mg) : mg "PrimeError" = some (.ref (He.ga K "PrimeError")) := T.gl (T.c.fact 15 rfl)
theorem g_NoNumber (T : Txt K mg) : mg "NoNumber" = some (.ref (He.ga K "NoNumber")) := T.gl (T.c.fact 16 rfl)
theorem g_TooFar (T : Txt K mg) : mg "TooFar" = some (.ref (He.ga K "TooFar")) := T.gl (T.c.fact 17 rfl)
theorem x_TooFar (T : Txt K mg) : XIn K (He.ga K "TooFar") (He.ma K (He.ga K "TooFar") "__init__") "part" := xin_of (T.c.fact 26 rfl)
theorem F0_init_TooFar (T : Txt K mg) : ∃ fd, FunD K "__init__" "TooFar.__init__" (defArgs s_init_TooFar) (defBody s_init_TooFar) (defScope s_init_TooFar) [] [] (He.ma K (He.ga K "TooFar") "__init__") fd := T.c.dfn 15 rfl
noncomputable def fd_init_TooFar (T : Txt K mg) : FuncData := (F0_init_TooFar T).choose
theorem F_init_TooFar (T : Txt K mg) : FunD K "__init__" "TooFar.__init__" (defArgs s_init_TooFar) (defBody s_init_TooFar) (defScope s_init_TooFar) [] [] (He.ma K (He.ga K "TooFar") "__init__") (fd_init_TooFar T) := (F0_init_TooFar T).choose_spec
theorem B_init_TooFar (T : Txt K mg) : Binds K (fd_init_TooFar T) ["self", "part"] [] := (F_init_TooFar T).bindsN fun _ _ _ _ _ _ us hl => match us, hl with | [_, _], _ => rfl
theorem ok_init_TooFar (T : Txt K mg) : FnOk P w K mg base CX0 1 (He.ma K (He.ga K "TooFar") "__init__") (fd_init_TooFar T) ["self", "part"] (sp_init K (He.ga K "TooFar") "part") := by
  refine (F_init_TooFar T).ok sc_init_TooFar (fun vs H Q E h => ?_) (fun cdv A outer s H vs Q E hr h => ⟨_, PSs.nox (pss_cons (ps_expr (pe_cinit rfl (g_PrimeError T) (base_of (T.c.fact (t := fun K => baseB (He.ga K "PrimeError") K) 27 rfl)) (pa_cons (pv 0) (pa_cons pe_str pa_nil)))) (pss_one (ps_ost (pv 0) (pv 1)))), ?_⟩)
  · obtain ⟨_, _, rfl, _⟩ := h; rfl
  · exact rd_init h
theorem z_PrimeError (T : Txt K mg) : Exc0 K (He.ga K "PrimeError") := exc0_of (T.c.fact 28 rfl)
theorem z_NoNumber (T : Txt K mg) : Exc0 K (He.ga K "NoNumber") := exc0_of (T.c.fact 29 rfl)
/-- divisor(a, b): a new tuple (g, u, v) -/
def sp_divisor : Sp := fun vs H Q _ => ∃ a b : Int, vs = [.int a, .int b] ∧ a.natAbs < 2 ^ 900 ∧ b.natAbs < 2 ^ 900 ∧
  ∀ g u v p, M.DivOk a b g u v → H p = none → Q (.ref p) (upd H p (.tup [.int g, .int u, .int v]))
theorem ok_divisor (T : Txt K mg) : FnOk P w K mg base CX0 1 (He.ga K "divisor") (fd_divisor T) ["a", "b"] sp_divisor := by
  refine (F_divisor T).ok sc_divisor (fun vs H Q E h => ?_) (fun cdv A outer s H vs Q E hr h => ⟨_, PSs.nox (pss_cons (ps_par3 (i := 2) (j := 3) (l := 4) rfl sc_divisor.nd rfl rfl rfl (by decide) (by decide) (by decide) rfl rfl rfl (pa_cons (pv 0) (pa_cons pe_int (pa_cons pe_int pa_nil))) rfl)
      (pss_cons (ps_par3 (i := 5) (j := 6) (l := 7) rfl sc_divisor.nd rfl rfl rfl (by decide) (by decide) (by decide) rfl rfl rfl (pa_cons (pv 1) (pa_cons pe_int (pa_cons pe_int pa_nil))) rfl)
      (pss_cons (ps_while PassesOwn.never (pt_cmpR op_ne (pv 5) pe_int (nomark _)) (pss_cons (ps_set (i := 8) sc_divisor.nd rfl (Or.inl rfl) (pe_op op_divF (pv 2) (pv 5)))
      (pss_cons (ps_par (i := 2) (j := 5) rfl sc_divisor.nd rfl rfl (by decide) rfl rfl (pa_cons (pv 5) (pa_cons (pe_op op_sub (pv 2) (pe_op op_mulW (pv 8) (pv 5))) pa_nil)) rfl)
      (pss_cons (ps_par (i := 3) (j := 6) rfl sc_divisor.nd rfl rfl (by decide) rfl rfl (pa_cons (pv 6) (pa_cons (pe_op op_sub (pv 3) (pe_op op_mulW (pv 8) (pv 6))) pa_nil)) rfl)
      (pss_one (ps_par (i := 4) (j := 7) rfl sc_divisor.nd rfl rfl (by decide) rfl rfl (pa_cons (pv 7) (pa_cons (pe_op op_sub (pv 4) (pe_op op_mulW (pv 8) (pv 7))) pa_nil)) rfl))))))
      (pss_cons (ps_if (pt_cmpR op_lt (pv 2) pe_int (nomark _)) (pss_one (ps_ret (pe_tup (pa_cons (pe_un un_neg (pv 2)) (pa_cons (pe_un un_neg (pv 3)) (pa_cons (pe_un un_neg (pv 4)) pa_nil)))))) pss_nil)
      (pss_one (ps_ret (pe_tup (pa_cons (pv 2) (pa_cons (pv 3) (pa_cons (pv 4) pa_nil)))))))))), ?_⟩)
  · obtain ⟨a, b, rfl, _⟩ := h; rfl
  · obtain ⟨a, b, rfl, ha, hb, k⟩ := h
    walk_at "g"
    refine s_while (fun σ H' => H' = H ∧ ∃ (g u v r x y : Int) (t : Option V), σ = [some (.int a), some (.int b), some (.int g), some (.int u), some (.int v), some (.int r), some (.int x), some (.int y), t] ∧ M.DivSt a b g u v r x y)
      (fun σ _ => (iv σ 5).natAbs) ⟨rfl, a, 1, 0, b, 0, 1, none, rfl, .inl ⟨rfl, rfl, rfl, rfl, rfl, rfl⟩⟩ ?_
    · rintro σ H' ⟨rfl, g, u, v, r, x, y, t, rfl, I⟩
      walk_at "g"
      refine s_iten (fun hr => ?_) (fun hr => ?_)
      · have Z := M.div_sizes I
        have hd : r ≠ 0 := hr
        have st := M.div_step I hd
        have hf : (g.fdiv r).natAbs ≤ g.natAbs := M.fdiv_le g r
        walk_at "g"
        refine s_i (divF hd (by omega)) ?_
        walk_at "g"
        exact ⟨⟨rfl, _, _, _, _, _, _, _, rfl, st.1⟩, st.2⟩
      · walk_at "g"
        have T := M.div_told I hr
        refine s_ite (fun hg => ?_) (fun hg => ?_)
        · walk_at "g"
          exact ⟨len_le (by simp), fun p hp => k _ _ _ p (T.1 hg) hp⟩
        · walk_at "g"
          exact ⟨len_le (by simp), fun p hp => k _ _ _ p (T.2 hg) hp⟩

/-- _law_draws(cell, many): a new list of many numbers from 0 to below 10 ** 60 -/
def sp__law_draws : Sp := fun vs H Q _ => ∃ (c : Int) (n : Nat), vs = [.int c, .int n] ∧ n ≤ 100 ∧
  ∀ H' p (xs : List Int), xs.length = n → (∀ x ∈ xs, 0 ≤ x ∧ x < 10 ^ 60) → Same H H' → H p = none → H' p = some (.lst (xs.map V.int)) → Q (.ref p) H'
theorem ok__law_draws (T : Txt K mg) : FnOk P w K mg base CX0 1 (He.ga K "_law_draws") (fd__law_draws T) ["_law_cell", "_law_many"] sp__law_draws := by
  refine (F__law_draws T).ok sc__law_draws (fun vs H Q E h => ?_) (fun cdv A outer s H vs Q E hr h => ⟨_, PSs.nox (pss_cons (ps_set (i := 2) sc__law_draws.nd rfl (Or.inl rfl) (pe_lst pa_nil))
      (pss_cons (ps_for PassesOwn.never rfl (pi_range1 rfl (T.fr (T.c.fact 18 rfl)) (pa_cons (pv 1) pa_nil)) (pg_name (i := 3) sc__law_draws.nd rfl (Or.inl rfl)) (pss_one (ps_if (pt_cmpR op_ge (pe_callB callAbs rfl (T.fr (T.c.fact 21 rfl)) boot_abs (pa_cons (pv 0) pa_nil)) (pe_op op_pow pe_int pe_int) (nomark _)) (pss_cons (ps_expr (pe_bm PySem.F.plainAttrs_list PySem.F.slot_list_append PySem.F.type_list_append mt_append (pv 2) (pa_cons (pe_op op_mod (pv 0) (pe_op op_pow pe_int pe_int)) pa_nil)))
      (pss_one (ps_set (i := 0) sc__law_draws.nd rfl (Or.inl rfl) (pe_op op_fdivW (pv 0) (pe_op op_pow pe_int pe_int))))) (pss_cons (ps_set (i := 4) sc__law_draws.nd rfl (Or.inl rfl) (pe_op op_mod (pe_op op_mulW (pe_op op_mod (pe_op op_add (pe_op op_add (pv 0) (pe_op op_mulW (pe_op op_mulW pe_int (pv 3)) (pv 3))) (pv 3)) pe_int) pe_int) pe_int))
      (pss_cons (ps_set (i := 4) sc__law_draws.nd rfl (Or.inl rfl) (pe_op op_fdivW (pe_op op_mod (pe_op op_mulW (pv 4) (pe_op op_add (pe_op op_add (pv 4) (pe_op op_mulW pe_int (pv 3))) pe_int)) pe_int) pe_int))
      (pss_one (ps_expr (pe_bm PySem.F.plainAttrs_list PySem.F.slot_list_append PySem.F.type_list_append mt_append (pv 2) (pa_cons (pe_ix ix_seq (pe_lst (pa_cons (pv 4) (pa_cons (pe_op op_mod (pe_op op_fdivW (pe_op op_pow (pv 4) pe_int) pe_int) (pe_op op_pow pe_int pe_int)) pa_nil))) (pe_op op_mod (pe_op op_fdivW (pv 4) pe_int) pe_int) (fun _ _ => rfl)) pa_nil)))))))))
      (pss_one (ps_ret (pv 2))))), ?_⟩)
  · obtain ⟨c, n, rfl, _⟩ := h; rfl
  · obtain ⟨c, n, rfl, hn, k⟩ := h
    walk_at "g"
    refine ⟨len_le (by simp), fun p hp => ?_⟩
    walk_at "g"
    refine mkR1 n (by omega) (by omega) (by omega) ?_
    refine for_range (n := n) (fun i σ H' => ∃ (c : Int) (u v : Option V) (xs : List Int), σ = [some (.int c), some (.int n), some (.ref p), u, v] ∧ xs.length = i ∧ (∀ x ∈ xs, 0 ≤ x ∧ x < 10 ^ 60) ∧ Same H H' ∧ H' p = some (.lst (xs.map V.int)))
      ⟨c, none, none, [], rfl, rfl, by simp, same_upd hp, upd_same⟩ ?_ ?_
    · rintro i σ H' hi ⟨c, u, v, xs, rfl, hl, hx, hs, hpp⟩
      have more : ∀ x : Int, 0 ≤ x → x < 10 ^ 60 → ∀ y ∈ xs ++ [x], 0 ≤ y ∧ y < 10 ^ 60 := fun x h0 h1 y hy => by
        rcases List.mem_append.mp hy with z | z
        · exact hx y z
        · rw [List.mem_singleton.mp z]; exact ⟨h0, h1⟩
      have hl2 : (xs.map V.int).length < sizeLine := small1000 (by rw [List.length_map]; omega)
      walk_at "g"
      refine s_ite (fun hc => ?_) (fun hc => ?_)
      · walk_at "g"
        refine ⟨s_tyL hpp, ?_⟩
        walk_at "g"
        refine s_append hpp hl2 ?_
        walk_at "g"
        refine ⟨_, _, _, xs ++ [c % 10 ^ 60], rfl, by rw [List.length_append, hl]; rfl, more _ (Int.emod_nonneg _ (by decide)) (Int.emod_lt_of_pos _ (by decide)), same_upd' hs hp, ?_⟩
        rw [upd_same, List.map_append]; rfl
      · walk_at "g"
        refine ⟨s_tyL hpp, ?_⟩
        have h1 : 0 ≤ (c + 7919 * (0 + (i : Int)) * (0 + i) + (0 + i)) % 2147483647 * 48271 % 2147483647 := by omega
        have h2 : (c + 7919 * (0 + (i : Int)) * (0 + i) + (0 + i)) % 2147483647 * 48271 % 2147483647 < 2147483647 := by omega
        generalize (c + 7919 * (0 + (i : Int)) * (0 + i) + (0 + i)) % 2147483647 * 48271 % 2147483647 = n1 at h1 h2 ⊢
        generalize h3 : n1 * (n1 + 12345 * (0 + (i : Int)) + 7) = m
        have h4 : 0 ≤ m % 2147483629 / 11 := by omega
        have h5 : m % 2147483629 / 11 < 195225785 := by omega
        generalize m % 2147483629 / 11 = n2 at h4 h5 ⊢
        walk_at "g"
        refine ⟨len_le (by simp), fun p2 hp2 => ?_⟩
        walk_at "g"
        refine s_pick2 (P := fun z => 0 ≤ z ∧ z < 10 ^ 60) upd_same (by omega) (by omega) ⟨Int.emod_nonneg _ (by decide), Int.emod_lt_of_pos _ (by decide)⟩ fun z hz => ?_
        walk_at "g"
        have hpp2 : upd H' p2 (HO.lst [V.int n2, V.int (n2 ^ 7 / 13 % 10 ^ 60)]) p = some (.lst (xs.map V.int)) := same_upd hp2 _ _ hpp
        refine s_append hpp2 hl2 ?_
        walk_at "g"
        refine ⟨_, _, _, xs ++ [z], rfl, by rw [List.length_append, hl]; rfl, more _ hz.1 hz.2, same_upd' (same_new hs hp2) hp, ?_⟩
        rw [upd_same, List.map_append]; rfl
    · rintro σ H' ⟨c, u, v, xs, rfl, hl, hx, hs, hpp⟩
      walk_at "g"
      exact k H' p xs hl hx hs hp hpp

theorem fac_len {n : Nat} {l : List (Nat × Nat)} {m d : Nat} (h : M.Fac n l m d) (hn : n < 2 ^ 200) : l.length ≤ 200 := by
  have h1 : ∀ l : List (Nat × Nat), (∀ x ∈ l, M.Prime x.1 ∧ 0 < x.2) → 2 ^ l.length ≤ M.prodL l := fun l => by
    induction l with
    | nil => intro _; exact Nat.le_refl 1
    | cons x l ih =>
      intro hl
      have h1 := ih fun y hy => hl y (by simp [hy])
      have h2 := hl x (by simp)
      have h3 : 2 ≤ x.1 ^ x.2 := Nat.le_trans h2.1.1 (Nat.le_of_dvd (Nat.pow_pos h2.1.pos) (M.dvd_pow_self x.1 h2.2))
      rw [List.length_cons, Nat.pow_succ, Nat.mul_comm]
      exact Nat.mul_le_mul h3 h1
  have h2 := h1 l h.primes
  have h3 : M.prodL l ≤ n := by rw [← h.prod]; exact Nat.le_mul_of_pos_right _ h.npos
  rcases Nat.lt_or_ge 200 l.length with z | z
  · have := Nat.pow_le_pow_right (show 0 < 2 by decide) (Nat.le_of_lt z)
    omega
  · exact z
theorem fac_rest {n : Nat} {l : List (Nat × Nat)} {m d : Nat} (h : M.Fac n l m d) : m ≤ n := by
  rw [← h.prod]
  have : 0 < M.prodL l := Nat.pos_of_ne_zero fun z => by
    have h1 := h.prod
    rw [z, Nat.zero_mul] at h1
    have h2 : ∀ l : List (Nat × Nat), (∀ x ∈ l, M.Prime x.1 ∧ 0 < x.2) → 0 < M.prodL l := fun l => by
      induction l with
      | nil => intro _; decide
      | cons x l ih => intro hl; exact Nat.mul_pos (Nat.pow_pos (hl x (by simp)).1.pos) (ih fun y hy => hl y (by simp [hy]))
    have := h2 l h.primes
    omega
  exact Nat.le_mul_of_pos_left _ this
/-- look_at(n, least): NoNumber, TooFar, or nothing -/
def sp_look_at (K : PySem.W.Frag) : Sp := fun vs H Q E => ∃ n l : Int, vs = [.int n, .int l] ∧ (n < l → E (.ref (He.ga K "NoNumber")) none H) ∧
  (l ≤ n → 1000000000 < n → ∀ (d : Addr) (H' : Hp), H d = none → Same H H' → H' d = some (.xd [("part", .int n)]) → E (.ref (He.ga K "TooFar")) (some d) H') ∧ (l ≤ n → n ≤ 1000000000 → Q .non H)
theorem ok_look_at (T : Txt K mg) : FnOk P w K mg base (L2.CX P w) 4 (He.ga K "look_at") (fd_look_at T) ["n", "least"] (sp_look_at K) := by
  refine (F_look_at T).ok sc_look_at (fun vs H Q E h => ?_) (fun cdv A outer s H vs Q E hr h => ⟨_, (pss_cons (ps_if (pt_cmpR op_lt (pv 0) (pv 1) (nomark _)) (pss_one (ps_raise rfl (takes_of rfl rfl rfl rfl) (pmk_zs (z_NoNumber T) (g_NoNumber T) rfl))) pss_nil)
      (pss_one (ps_if (pt_cmpR op_gt (pv 0) (pe_glob (v := .int 1000000000) rfl (T.int_ok (T.c.fact 25 rfl)).choose_spec ⟨_, rfl⟩) (nomark _)) (pss_one (ps_raise rfl (takes_of rfl rfl rfl rfl) (pmk_oex (x_TooFar T).oex (x_TooFar T).iC (x_TooFar T).tI (ok_init_TooFar T) (hr.mono (by decide)) (B_init_TooFar T) .nil pass0 rfl (g_TooFar T) (pa_cons (pv 0) pa_nil)))) pss_nil))), ?_⟩)
  · obtain ⟨n, l, rfl, _⟩ := h; rfl
  · obtain ⟨n, l, rfl, k1, k2, k3⟩ := h
    walk_at "g"
    refine s_ite (fun c => ?_) (fun c => ?_)
    · walk_at "g"
      exact k1 c
    · walk_at "g"
      refine s_ite (fun c2 => ?_) (fun c2 => ?_)
      · walk_at "g"
        refine s_raise (x_TooFar T).oex (x_TooFar T).noF fun d H' hd hx hs => ?_
        exact k2 (by omega) c2 d H' hd hs hx
      · walk_at "g"
        exact k3 (by omega) (by omega)
/-- the least divisor of n from 2 on -/
structure LeastDiv (n r : Nat) : Prop where
  two : 2 ≤ r
  dvd : r ∣ n
  no : ∀ e, 2 ≤ e → e < r → ¬ e ∣ n
theorem LeastDiv.unique {n r s : Nat} (h : LeastDiv n r) (h' : LeastDiv n s) : r = s := by
  rcases Nat.lt_trichotomy r s with z | z | z
  · exact absurd h.dvd (h'.no r h.two z)
  · exact z
  · exact absurd h'.dvd (h.no s h'.two z)
theorem LeastDiv.prime {n r : Nat} (h : LeastDiv n r) : M.Prime r := M.prime_of_no h.two fun d h1 h2 h3 => by
  have : d < r := by
    rcases Nat.lt_or_ge d r with z | z
    · exact z
    · have := Nat.mul_le_mul z h1
      have := h.two
      omega
  exact h.no d h1 this (Nat.dvd_trans h3 h.dvd)
/-- divisor_from(n, d) -/
def sp_divisor_from : Sp := fun vs H Q _ => ∃ n d : Nat, vs = [.int n, .int d] ∧ 2 ≤ n ∧ n < 2 ^ 60 ∧ d < 2 ^ 60 ∧ (d = 2 ∨ d % 2 = 1 ∧ 2 ≤ d) ∧ (∀ e, 2 ≤ e → e < d → ¬ e ∣ n) ∧ ∀ r : Nat, LeastDiv n r → Q (.int r) H
theorem ok_divisor_from (T : Txt K mg) : FnOk P w K mg base CX0 1 (He.ga K "divisor_from") (fd_divisor_from T) ["n", "d"] sp_divisor_from := by
  refine (F_divisor_from T).ok sc_divisor_from (fun vs H Q E h => ?_) (fun cdv A outer s H vs Q E hr h => ⟨_, PSs.nox (pss_cons (ps_while PassesOwn.never (pt_cmpR op_le (pe_op op_mulW (pv 1) (pv 1)) (pv 0) (nomark _)) (pss_cons (ps_if (pt_cmpR op_eq (pe_op op_mod (pv 0) (pv 1)) pe_int (nomark _)) (pss_one (ps_ret (pv 1))) pss_nil)
      (pss_one (ps_set (i := 1) sc_divisor_from.nd rfl (Or.inl rfl) (pe_op op_add (pe_op op_add (pv 1) pe_int) (pe_callTy callInt1 rfl (T.fr (T.c.fact 19 rfl)) boot_int (pa_cons (pe_cmpR op_gt (pv 1) pe_int (nomark _)) pa_nil)))))))
      (pss_one (ps_ret (pv 0)))), ?_⟩)
  · obtain ⟨n, d, rfl, _⟩ := h; rfl
  · obtain ⟨n, d0, rfl, n2, nb, db, hd, hno, k⟩ := h
    walk_at "g"
    refine s_while (fun σ H' => H' = H ∧ ∃ d : Nat, σ = [some (.int n), some (.int d)] ∧ d < 2 ^ 61 ∧ (d = 2 ∨ d % 2 = 1 ∧ 2 ≤ d) ∧ ∀ e, 2 ≤ e → e < d → ¬ e ∣ n) (fun σ _ => n + 2 ^ 61 - (iv σ 1).toNat) ⟨rfl, d0, rfl, by omega, hd, hno⟩ ?_
    rintro σ H' ⟨rfl, d, rfl, db, hd, hno⟩
    have d2 : 2 ≤ d := by omega
    have dd : d * 2 ≤ d * d := Nat.mul_le_mul_left d d2
    walk_at "g"
    try refine s_i (mulW (by omega) (by omega)) ?_
    walk_at "g"
    refine s_ite (fun c => ?_) (fun c => ?_)
    · have hdd : d * d ≤ n := by
        have : ((d * d : Nat) : Int) ≤ n := by push_cast; omega
        omega
      walk_at "g"
      refine s_i (by omega) ?_
      walk_at "g"
      refine s_ite (fun c2 => ?_) (fun c2 => ?_)
      · walk_at "g"
        exact k d ⟨d2, Int.natCast_dvd_natCast.mp (Int.dvd_of_emod_eq_zero c2), hno⟩
      · have hnd : ¬ d ∣ n := fun z => c2 (Int.emod_eq_zero_of_dvd (Int.natCast_dvd_natCast.mpr z))
        walk_at "g"
        have hdx : ∃ x : Nat, (d : Int) + 1 + (if decide ((2 : Int) < d) = true then 1 else 0) = (x : Int) ∧ (x = d + 1 ∧ d = 2 ∨ x = d + 2 ∧ 2 < d) := by
          by_cases z : d = 2
          · exact ⟨d + 1, by rw [if_neg (by rw [decide_eq_false (by omega)]; decide)]; omega, .inl ⟨rfl, z⟩⟩
          · exact ⟨d + 2, by rw [if_pos (decide_eq_true (by omega))]; omega, .inr ⟨rfl, by omega⟩⟩
        obtain ⟨x, ex, hx⟩ := hdx
        rw [ex]
        refine ⟨⟨rfl, x, rfl, by omega, by omega, fun e h1 h3 => ?_⟩, ?_⟩
        · rcases Nat.lt_or_ge e d with z | z
          · exact hno e h1 z
          · by_cases z2 : e = d
            · rw [z2]; exact hnd
            · have he : e = d + 1 ∧ 2 < d := by omega
              intro z3
              have : 2 ∣ e := Nat.dvd_of_mod_eq_zero (by omega)
              exact hno 2 (by decide) he.2 (Nat.dvd_trans this z3)
        · show n + 2 ^ 61 - (x : Int).toNat < n + 2 ^ 61 - (d : Int).toNat
          omega
    · have hdd : n < d * d := by
        have : ¬ ((d * d : Nat) : Int) ≤ n := by push_cast; omega
        omega
      walk_at "g"
      refine k n ⟨n2, Nat.dvd_refl _, fun e h1 h3 h4 => ?_⟩
      obtain ⟨c', hc⟩ := h4
      have he : d ≤ e := by
        rcases Nat.lt_or_ge e d with z | z
        · exact absurd ⟨c', hc⟩ (hno e h1 z)
        · exact z
      have hc2 : 2 ≤ c' := by
        rcases Nat.lt_or_ge c' 2 with z | z
        · have : c' = 0 ∨ c' = 1 := by omega
          rcases this with rfl | rfl <;> omega
        · exact z
      have hcd : d ≤ c' := by
        rcases Nat.lt_or_ge c' d with z | z
        · exact absurd ⟨e, by rw [hc, Nat.mul_comm]⟩ (hno c' hc2 z)
        · exact z
      have := Nat.mul_le_mul he hcd
      omega

/-- least_divisor(n) -/
def sp_least_divisor (K : PySem.W.Frag) : Sp := fun vs H Q E => ∃ n : Int, vs = [.int n] ∧ (n < 2 → E (.ref (He.ga K "NoNumber")) none H) ∧
  (1000000000 < n → ∀ (d : Addr) (H' : Hp), H d = none → Same H H' → H' d = some (.xd [("part", .int n)]) → E (.ref (He.ga K "TooFar")) (some d) H') ∧
  (∀ m : Nat, n = m → 2 ≤ m → m ≤ 1000000000 → ∀ r : Nat, LeastDiv m r → Q (.int r) H)
theorem ok_least_divisor (T : Txt K mg) : FnOk P w K mg base (L2.CX P w) 5 (He.ga K "least_divisor") (fd_least_divisor T) ["n"] (sp_least_divisor K) := by
  refine (F_least_divisor T).ok sc_least_divisor (fun vs H Q E h => ?_) (fun cdv A outer s H vs Q E hr h => ⟨_, (pss_cons (ps_expr (pe_call (ok_look_at T) (hr.mono (by decide)) rfl (g_look_at T) (kp_look_at T) (B_look_at T) .nil (passes_call (takes_of rfl rfl rfl rfl) (fun _ _ _ _ h => h)) (pa_cons (pv 0) (pa_cons pe_int pa_nil))))
      (pss_one (ps_ret (pe_call (ok_divisor_from T) (hr.mono (by decide)) rfl (g_divisor_from T) (kp_divisor_from T) (B_divisor_from T) .nil pass0 (pa_cons (pv 0) (pa_cons pe_int pa_nil)))))), ?_⟩)
  · obtain ⟨n, rfl, _⟩ := h; rfl
  · obtain ⟨n, rfl, k1, k2, k3⟩ := h
    walk_at "g"
    refine ⟨n, 2, rfl, fun c => k1 c, fun _ c d H' hd hs hx => k2 c d H' hd hs hx, fun c1 c2 => ?_⟩
    obtain ⟨n0, rfl⟩ := Int.eq_ofNat_of_zero_le (show 0 ≤ n by omega)
    walk_at "g"
    refine ⟨n0, 2, rfl, by omega, by omega, by omega, .inl rfl, fun e h1 h2 => by omega, fun r hr => ?_⟩
    exact k3 n0 rfl (by omega) (by omega) r hr

/-- parted(n): a new list of the primes of n and how often, or a refusal -/
def sp_parted (K : PySem.W.Frag) : Sp := fun vs H Q E => ∃ n : Int, vs = [.int n] ∧ (n < 1 → E (.ref (He.ga K "NoNumber")) none H) ∧
  (1000000000 < n → ∀ (d : Addr) (H' : Hp), H d = none → Same H H' → H' d = some (.xd [("part", .int n)]) → E (.ref (He.ga K "TooFar")) (some d) H') ∧
  (∀ m : Nat, n = m → 1 ≤ m → m ≤ 1000000000 → ∀ p H' xs l, M.IsFac m l → H p = none → Same H H' → H' p = some (.lst xs) → TupsIn H' xs (l.map fun x => [V.int (x.1 : Nat), V.int (x.2 : Nat)]) → Q (.ref p) H')
theorem ok_parted (T : Txt K mg) : FnOk P w K mg base (L2.CX P w) 5 (He.ga K "parted") (fd_parted T) ["n"] (sp_parted K) := by
  refine (F_parted T).ok sc_parted (fun vs H Q E h => ?_) (fun cdv A outer s H vs Q E hr h => ⟨_, (pss_cons (ps_expr (pe_call (ok_look_at T) (hr.mono (by decide)) rfl (g_look_at T) (kp_look_at T) (B_look_at T) .nil (passes_call (takes_of rfl rfl rfl rfl) (fun _ _ _ _ h => h)) (pa_cons (pv 0) (pa_cons pe_int pa_nil))))
      (pss_cons (ps_set (i := 1) sc_parted.nd rfl (Or.inl rfl) (pe_lst pa_nil))
      (pss_cons (ps_set (i := 2) sc_parted.nd rfl (Or.inl rfl) pe_int)
      (pss_cons (ps_while (passes_of rfl) (pt_cmpR op_gt (pv 0) pe_int (nomark _)) (pss_cons (ps_set (i := 2) sc_parted.nd rfl (Or.inl rfl) (pe_call (ok_divisor_from T) (hr.mono (by decide)) rfl (g_divisor_from T) (kp_divisor_from T) (B_divisor_from T) .nil pass0 (pa_cons (pv 0) (pa_cons (pv 2) pa_nil))))
      (pss_cons (ps_set (i := 3) sc_parted.nd rfl (Or.inl rfl) pe_int)
      (pss_cons (ps_while (passes_of rfl) (pt_cmpR op_eq (pe_op op_mod (pv 0) (pv 2)) pe_int (nomark _)) (pss_cons (ps_set (i := 0) sc_parted.nd rfl (Or.inl rfl) (pe_op op_fdivW (pv 0) (pv 2)))
      (pss_one (ps_set (i := 3) sc_parted.nd rfl (Or.inl rfl) (pe_op op_add (pv 3) pe_int)))))
      (pss_one (ps_expr (pe_bm PySem.F.plainAttrs_list PySem.F.slot_list_append PySem.F.type_list_append mt_append (pv 1) (pa_cons (pe_tup (pa_cons (pv 2) (pa_cons (pv 3) pa_nil))) pa_nil))))))))
      (pss_one (ps_ret (pv 1))))))), ?_⟩)
  · obtain ⟨n, rfl, _⟩ := h; rfl
  · obtain ⟨n, rfl, k1, k2, k3⟩ := h
    walk_at "g"
    refine ⟨n, 1, rfl, fun c => k1 c, fun _ c d H' hd hs hx => k2 c d H' hd hs hx, fun c1 c2 => ?_⟩
    obtain ⟨n0, rfl⟩ := Int.eq_ofNat_of_zero_le (show 0 ≤ n by omega)
    have k := k3 n0 rfl (by omega) (by omega)
    walk_at "g"
    refine mkL (by simp) fun p H1 np e1 s1 => ?_
    walk_at "g"
    refine s_while (fun σ H' => Same H H' ∧ ∃ (n d : Nat) (v : Option V) (xs : List V) (l : List (Nat × Nat)), σ = [some (.int n), some (.ref p), some (.int d), v] ∧ H' p = some (.lst xs) ∧ TupsIn H' xs (l.map fun x => [V.int (x.1 : Nat), V.int (x.2 : Nat)]) ∧ (∃ d', M.Fac n0 l n d' ∧ d ≤ d') ∧ (d = 2 ∨ d % 2 = 1 ∧ 2 ≤ d) ∧ d ≤ 1000000000)
      (fun σ _ => (iv σ 0).toNat) ⟨s1, n0, 2, none, [], [], rfl, e1, .nil, ⟨2, M.fac_start (by omega), Nat.le_refl _⟩, .inl rfl, by decide⟩ ?_
    rintro σ H' ⟨hs, n, d, v, xs, l, rfl, hp, ht, ⟨d', fac, hdd'⟩, hd, db⟩
    have hxl : xs.length = l.length := by rw [ht.length, List.length_map]
    have hll := fac_len fac (by omega)
    have hnl := fac_rest fac
    walk_at "g"
    refine s_ite (fun c => ?_) (fun c => ?_)
    · walk_at "g"
      refine ⟨n, d, rfl, by omega, by omega, by omega, hd, fun e h1 h2 => fac.no e h1 (by omega), fun r hr => ?_⟩
      have hr2 := hr.two
      have hrn := Nat.le_of_dvd (by omega) hr.dvd
      have hrp := hr.prime
      -- the primes below r are taken out
      have fac' : M.Fac n0 l n r := by
        refine ⟨fac.sorted, fun x hx => ?_, fac.primes, fac.prod, hr.no, fac.npos, hr2⟩
        have h1 := fac.below x hx
        rcases Nat.lt_or_ge r d' with z | z
        · exact absurd hr.dvd (fac.no r hr2 z)
        · omega
      have rodd : r = 2 ∨ r % 2 = 1 ∧ 2 ≤ r := by
        by_cases z : r = 2
        · exact .inl z
        · rcases Nat.mod_two_eq_zero_or_one r with w | w
          · rcases hrp.2 2 (Nat.dvd_of_mod_eq_zero w) with y | y <;> omega
          · exact .inr ⟨w, hr2⟩
      walk_at "g"
      refine s_while (fun σ' H3 => H3 = H' ∧ ∃ m k : Nat, σ' = [some (.int m), some (.ref p), some (.int r), some (.int k)] ∧ n = r ^ k * m ∧ 0 < m) (fun σ _ => (iv σ 0).toNat) ⟨rfl, n, 0, rfl, by simp, by omega⟩ ?_
      rintro σ' H3 ⟨rfl, m, j, rfl, em, m0⟩
      have hml : m ≤ n := by rw [em]; exact Nat.le_mul_of_pos_left _ (Nat.pow_pos (by omega))
      walk_at "g"
      refine s_i (by omega) ?_
      walk_at "g"
      refine s_ite (fun c2 => ?_) (fun c2 => ?_)
      · have hdm : r ∣ m := Int.natCast_dvd_natCast.mp (Int.dvd_of_emod_eq_zero c2)
        obtain ⟨m', rfl⟩ := hdm
        have e3 : ((r * m' : Nat) : Int) / (r : Int) = (m' : Int) := by
          push_cast
          exact Int.mul_ediv_cancel_left _ (by omega)
        walk_at "g"
        refine s_i (divW (by omega) (by omega)) ?_
        walk_at "g"
        rw [e3]
        have m0' : 0 < m' := Nat.pos_of_ne_zero fun z => by rw [z] at m0; omega
        have : 2 * m' ≤ r * m' := Nat.mul_le_mul_right m' hr2
        refine ⟨⟨rfl, m', j + 1, rfl, by rw [em, Nat.pow_succ]; grind, m0'⟩, ?_⟩
        show (m' : Int).toNat < ((r * m' : Nat) : Int).toNat
        omega
      · have hdm : ¬ r ∣ m := fun z => c2 (Int.emod_eq_zero_of_dvd (Int.natCast_dvd_natCast.mpr z))
        have stp := M.fac_step fac' em hdm
        have j0 : 0 < j := by
          rcases Nat.eq_zero_or_pos j with z | z
          · subst z
            rw [Nat.pow_zero, Nat.one_mul] at em
            exact absurd (em ▸ hr.dvd) hdm
          · exact z
        rw [if_pos j0] at stp
        walk_at "g"
        refine ⟨s_tyL hp, ?_⟩
        walk_at "g"
        refine mkT (by simp) fun t H4 nt et s4 => ?_
        walk_at "g"
        refine s_append (s4 _ _ hp) (small1000 (by omega)) ?_
        walk_at "g"
        refine ⟨⟨same_upd' (hs.trans s4) np, m, r, _, _, l ++ [(r, j)], rfl, upd_same, ?_, ⟨r + 1, stp, by omega⟩, rodd, by omega⟩, ?_⟩
        · rw [List.map_append]
          exact TupsIn.app hp ht s4 nt et
        · have h5 : r ^ 1 ≤ r ^ j := Nat.pow_le_pow_right (by omega) j0
          rw [Nat.pow_one] at h5
          have h6 : 2 * m ≤ n := by rw [em]; exact Nat.mul_le_mul_right m (by omega)
          show (m : Int).toNat < (n : Int).toNat
          omega
    · walk_at "g"
      exact k p H' xs l (M.fac_end fac (by omega)) np hs hp ht

theorem prodL_pos0 : ∀ {l : List (Nat × Nat)}, (∀ x ∈ l, 0 < x.1) → 0 < M.prodL l
  | [], _ => by decide
  | x :: l, h => Nat.mul_pos (Nat.pow_pos (h x (by simp))) (prodL_pos0 fun y hy => h y (by simp [hy]))
theorem prodL_take_le {l : List (Nat × Nat)} (h : ∀ x ∈ l, 0 < x.1) (i : Nat) : M.prodL (l.take i) ≤ M.prodL l := by
  conv => rhs; rw [← List.take_append_drop i l, M.prodL_app]
  exact Nat.le_mul_of_pos_right _ (prodL_pos0 fun x hx => h x (List.mem_of_mem_drop hx))
theorem prodL_one (x : Nat × Nat) (l : List (Nat × Nat)) : M.prodL (l ++ [x]) = M.prodL l * x.1 ^ x.2 := by rw [M.prodL_app]; simp [M.prodL]
theorem fac_many {F : Nat} {l : List (Nat × Nat)} (h : M.IsFac F l) (h0 : 0 < F) {x : Nat × Nat} (hx : x ∈ l) (hF : F < 2 ^ 200) : x.2 < 2 ^ 60 := by
  have h1 := M.prodL_dvd hx
  rw [h.prod] at h1
  have h2 := Nat.le_of_dvd h0 h1
  have h3 : 2 ^ x.2 ≤ x.1 ^ x.2 := Nat.pow_le_pow_left (h.primes x hx).1.1 _
  have h4 : x.2 < 200 := (Nat.pow_lt_pow_iff_right (by decide : 1 < 2)).mp (by omega)
  omega
theorem filter_take {α : Type} (P : α → Bool) {xs : List α} {i : Nat} {x : α} (h : xs[i]? = some x) : (xs.take (i + 1)).filter P = (xs.take i).filter P ++ (if P x = true then [x] else []) := by
  rw [take_more h, List.filter_append]
  congr 1
  cases e : P x <;> simp [e]

/-- taken(q, many): the power -/
def sp_taken : Sp := fun vs H Q _ => ∃ q b : Nat, vs = [.int q, .int b] ∧ 0 < q ∧ b < 2 ^ 60 ∧ q ^ b < 2 ^ 900 ∧ Q (.int ((q ^ b : Nat) : Int)) H
theorem ok_taken (T : Txt K mg) : FnOk P w K mg base CX0 1 (He.ga K "taken") (fd_taken T) ["q", "many"] sp_taken := by
  refine (F_taken T).ok sc_taken (fun vs H Q E h => ?_) (fun cdv A outer s H vs Q E hr h => ⟨_, PSs.nox (pss_cons (ps_set (i := 2) sc_taken.nd rfl (Or.inl rfl) pe_int)
      (pss_cons (ps_for PassesOwn.never rfl (pi_range1 rfl (T.fr (T.c.fact 18 rfl)) (pa_cons (pv 1) pa_nil)) (pg_name (i := 3) sc_taken.nd rfl (Or.inl rfl)) (pss_one (ps_set (i := 2) sc_taken.nd rfl (Or.inl rfl) (pe_op op_mulW (pv 2) (pv 0)))))
      (pss_one (ps_ret (pv 2))))), ?_⟩)
  · obtain ⟨q, b, rfl, _⟩ := h; rfl
  · obtain ⟨q, b, rfl, q0, hb, hqb, k⟩ := h
    walk_at "g"
    refine mkR1 b (by omega) (by omega) (by omega) ?_
    refine for_range (n := b) (fun i σ H' => H' = H ∧ ∃ v : Option V, σ = [some (.int q), some (.int b), some (.int ((q ^ i : Nat) : Int)), v]) ⟨rfl, none, rfl⟩ ?_ ?_
    · rintro i σ H' hi ⟨rfl, v, rfl⟩
      have h1 : q ^ i ≤ q ^ b := Nat.pow_le_pow_right q0 (by omega)
      have h2 : q ^ 1 ≤ q ^ b := Nat.pow_le_pow_right q0 (by omega)
      rw [Nat.pow_one] at h2
      have e3 : ((q ^ i : Nat) : Int) * (q : Int) = ((q ^ (i + 1) : Nat) : Int) := by rw [Nat.pow_succ]; push_cast; rfl
      walk_at "g"
      try refine s_i (mulW (by omega) (by omega)) ?_
      walk_at "g"
      rw [e3]
      exact ⟨rfl, _, rfl⟩
    · rintro σ H' ⟨rfl, v, rfl⟩
      walk_at "g"
      exact k

/-- whole_of(parting): what it comes to -/
def sp_whole_of : Sp := fun vs H Q _ => ∃ (D : Addr) (ys : List V) (l : List (Nat × Nat)), vs = [.ref D] ∧ H D = some (.lst ys) ∧ TupsIn H ys (l.map fun x => [V.int (x.1 : Nat), V.int (x.2 : Nat)]) ∧ (∀ x ∈ l, 0 < x.1 ∧ x.2 < 2 ^ 60) ∧ M.prodL l < 2 ^ 900 ∧ Q (.int (M.prodL l : Nat)) H
theorem ok_whole_of (T : Txt K mg) : FnOk P w K mg base CX0 2 (He.ga K "whole_of") (fd_whole_of T) ["parting"] sp_whole_of := by
  refine (F_whole_of T).ok sc_whole_of (fun vs H Q E h => ?_) (fun cdv A outer s H vs Q E hr h => ⟨_, PSs.nox (pss_cons (ps_set (i := 1) sc_whole_of.nd rfl (Or.inl rfl) pe_int)
      (pss_cons (ps_for PassesOwn.never rfl (pi_list (pv 0)) (pg_tup rfl (pgs_cons (pg_name (i := 2) sc_whole_of.nd rfl (Or.inl rfl)) (pgs_cons (pg_name (i := 3) sc_whole_of.nd rfl (Or.inl rfl)) pgs_nil))) (pss_one (ps_set (i := 1) sc_whole_of.nd rfl (Or.inl rfl) (pe_op op_mulW (pv 1) (pe_call (ok_taken T) (hr.mono (by decide)) rfl (g_taken T) (kp_taken T) (B_taken T) .nil pass0 (pa_cons (pv 2) (pa_cons (pv 3) pa_nil)))))))
      (pss_one (ps_ret (pv 1))))), ?_⟩)
  · obtain ⟨D, ys, l, rfl, _⟩ := h; rfl
  · obtain ⟨D, ys, l, rfl, hD, ty, hx, hl, k⟩ := h
    have hx0 : ∀ x ∈ l, 0 < x.1 := fun x h => (hx x h).1
    walk_at "g"
    refine ⟨⟨_, SqL.of hD⟩, ?_⟩
    refine for_list (fun i σ H' => H' = H ∧ ∃ v1 v2 : Option V, σ = [some (.ref D), some (.int ((M.prodL (l.take i) : Nat) : Int)), v1, v2]) ⟨rfl, none, none, rfl⟩ (fun i σ H' _ I => by rw [I.1]; exact SqL.of hD) ?_ ?_
    · rintro i x σ H' hi ⟨rfl, v1, v2, rfl⟩
      obtain ⟨y, hy, t, rfl, et⟩ := pget ty hi
      rw [List.getElem?_map] at hy
      obtain ⟨⟨q, b⟩, hab, rfl⟩ := Option.map_eq_some_iff.mp hy
      have hq := hx _ (List.mem_of_getElem? hab)
      have hq1 : 0 < q := hq.1
      have hb1 : b < 2 ^ 60 := hq.2
      have h1 := prodL_take_le hx0 (i + 1)
      have h0 := prodL_take_le hx0 i
      have e3 : M.prodL (l.take (i + 1)) = M.prodL (l.take i) * q ^ b := by rw [take_more hab, prodL_one]
      have hp0 : 0 < M.prodL (l.take i) := prodL_pos0 fun x hx => hx0 x (List.mem_of_mem_take hx)
      have h2 : q ^ b ≤ M.prodL (l.take (i + 1)) := by rw [e3]; exact Nat.le_mul_of_pos_left _ hp0
      have e4 : ((M.prodL (l.take i) : Nat) : Int) * ((q ^ b : Nat) : Int) = ((M.prodL (l.take (i + 1)) : Nat) : Int) := by rw [e3]; push_cast; rfl
      refine s_gtup (SqT.of et) rfl ?_
      walk_at "g"
      refine ⟨q, b, rfl, hq1, hb1, by omega, ?_⟩
      walk_at "g"
      try refine s_i (mulW (by omega) (by omega)) ?_
      walk_at "g"
      rw [e4]
      exact ⟨rfl, _, _, rfl⟩
    · rintro σ H' ⟨rfl, v1, v2, rfl⟩
      have hyl : ys.length = l.length := by rw [ty.length, List.length_map]
      rw [hyl, List.take_length]
      walk_at "g"
      exact k

/-- numbers as values -/
def nv (l : List Nat) : List V := (l.map fun d : Nat => (d : Int)).map V.int
theorem ints_back {L : List Nat} {ns : List Int} (pm : ns.Perm (L.map fun d : Nat => (d : Int))) (srt : ns.Pairwise (· ≤ ·)) (nd : L.Pairwise (· ≠ ·)) : ∃ ds : List Nat, ns = ds.map (fun d : Nat => (d : Int)) ∧ ds.Perm L ∧ ds.Pairwise (· < ·) := by
  have h1 : ns = (ns.map Int.toNat).map (fun d : Nat => (d : Int)) := by
    rw [List.map_map]
    refine ((List.map_congr_left fun z hz => ?_).trans (List.map_id _)).symm
    obtain ⟨d, _, rfl⟩ := List.mem_map.mp (pm.mem_iff.mp hz)
    rfl
  have h2 : (ns.map Int.toNat).Perm L := by
    have h := pm.map Int.toNat
    rw [List.map_map] at h
    have e : L.map (Int.toNat ∘ fun d : Nat => (d : Int)) = L := (List.map_congr_left fun z _ => rfl).trans (List.map_id _)
    rw [e] at h
    exact h
  refine ⟨_, h1, h2, ?_⟩
  have h3 : (ns.map Int.toNat).Nodup := h2.nodup_iff.mpr nd
  rw [h1, List.pairwise_map] at srt
  exact (srt.and h3).imp fun z => by have := z.1; have := z.2; omega
theorem nv_app (l m : List Nat) : nv (l ++ m) = nv l ++ nv m := by simp [nv]
theorem nv_len (l : List Nat) : (nv l).length = l.length := by simp [nv]
theorem nv_get {l : List Nat} {i : Nat} {x : V} (h : (nv l)[i]? = some x) : ∃ d, l[i]? = some d ∧ x = .int (d : Nat) := by
  unfold nv at h
  rw [List.getElem?_map, List.getElem?_map] at h
  obtain ⟨z, h1, rfl⟩ := Option.map_eq_some_iff.mp h
  obtain ⟨d, h2, rfl⟩ := Option.map_eq_some_iff.mp h1
  exact ⟨d, h2, rfl⟩
theorem line2 {n : Nat} (h : n ≤ 2000000) : n < sizeLine := by rw [sizeLine_eq]; omega

theorem dp_nv {K : PySem.W.Frag} {H : Hp} {q : Addr} {l : List Nat} (h : H q = some (.lst (nv l))) : Dp K H (.ref q) (.list (l.map fun n : Nat => PyData.int n)) := by
  refine .lst (SqL.of h) ?_
  clear h
  induction l with
  | nil => exact .nil
  | cons n l ih => exact .cons (.int _) ih
theorem sh_nv (l : List Nat) : SeqAt.shaped (.list (l.map fun n : Nat => PyData.int n)) = true := shapedL fun d hd => by
  obtain ⟨q, _, rfl⟩ := List.mem_map.mp hd
  exact ⟨rfl, Nat.zero_le _⟩

/-- numbers, each with a truth, as the entries of a dict -/
def trKv (L : List Nat) : List (Key × V) := L.map fun d : Nat => ((.inl (d : Int) : Key), V.bl true)
theorem tr_put {L : List Nat} (o : Nat) (nd : L.Nodup) : ∃ L' : List Nat, putK (trKv L) (.inl (o : Int)) (.bl true) = trKv L' ∧ L'.Nodup ∧ (∀ z, z ∈ L' ↔ z ∈ L ∨ z = o) ∧ L'.length ≤ L.length + 1 := by
  by_cases c : o ∈ L
  · refine ⟨L, ?_, nd, fun z => ⟨.inl, fun h => h.elim id fun e => e ▸ c⟩, by omega⟩
    unfold putK
    rw [if_pos (by
      rw [List.any_eq_true]
      exact ⟨_, List.mem_map.mpr ⟨o, c, rfl⟩, by simp⟩)]
    unfold trKv
    rw [List.map_map]
    refine List.map_congr_left fun k hk => ?_
    show (if (Sum.inl (k : Int) : Key) = Sum.inl (o : Int) then ((Sum.inl (k : Int) : Key), V.bl true) else ((Sum.inl (k : Int) : Key), V.bl true)) = _
    split <;> rfl
  · refine ⟨L ++ [o], ?_, ?_, fun z => by rw [List.mem_append, List.mem_singleton], by rw [List.length_append]; simp⟩
    · have hv : valV (trKv L) (.inl (o : Int)) = none := by
        unfold valV trKv
        rw [Option.map_eq_none_iff, List.find?_eq_none]
        intro kv hkv
        obtain ⟨x, hx, rfl⟩ := List.mem_map.mp hkv
        intro e
        have e1 : (Sum.inl (x : Int) : Key) = Sum.inl (o : Int) := of_decide_eq_true e
        have e2 := Sum.inl.inj e1
        exact c (by rw [show o = x by omega]; exact hx)
      rw [putK_new _ hv]
      unfold trKv
      rw [List.map_append]; rfl
    · exact List.nodup_append.mpr ⟨nd, List.pairwise_singleton _ _, fun a ha b hb => by rw [List.mem_singleton.mp hb]; exact fun z => c (by rw [← z]; exact ha)⟩
theorem mkDN {σ : L2.St} {H : Hp} {Q : VK} (h : ∀ p H', H p = none → H' p = some (.dK []) → Same H H' → Q (.ref p) H') : tDNewK σ H Q := fun p hp => h p _ hp upd_same (same_upd hp)

def RngQ3 (RI : It → Hp → Prop) (vs : List V) (H : Hp) : Prop := ∃ (i j c : Int) (n : Nat), vs = [.int i, .int j, .int c] ∧ RgC i j c n ∧ RI (Itc i c n) H
theorem s_rng3 {ta : TA} {σ : L2.St} {H : Hp} {RI : It → Hp → Prop} (h : ta σ H fun vs H1 => RngQ3 RI vs H1) : iRng3 ta σ H RI := h
theorem s_dnotin {ty td : TE} {σ : L2.St} {H : Hp} {Q : VK} (h : ty σ H fun y H1 => td σ H1 fun x H2 => ∃ a o, x = .ref a ∧ DGet H2 a y o ∧ Q (.bl (!o.isSome)) H2) : tDNotIn ty td σ H Q := h
theorem tr_val {L : List Nat} {o : Nat} : (valV (trKv L) (.inl (o : Int))).isSome = decide (o ∈ L) := by
  unfold valV trKv
  rw [Option.isSome_map]
  by_cases c : o ∈ L
  · rw [decide_eq_true c, List.find?_isSome]
    exact ⟨_, List.mem_map.mpr ⟨o, c, rfl⟩, by simp⟩
  · rw [decide_eq_false c, Bool.eq_false_iff]
    intro h
    rw [List.find?_isSome] at h
    obtain ⟨kv, hkv, e⟩ := h
    obtain ⟨x, hx, rfl⟩ := List.mem_map.mp hkv
    have e1 : (Sum.inl (x : Int) : Key) = Sum.inl (o : Int) := of_decide_eq_true e
    have e2 := Sum.inl.inj e1
    exact c (by rw [show o = x by omega]; exact hx)
/-- primes_to(n): a new list of the primes to n, or TooFar -/
def sp_primes_to (K : PySem.W.Frag) : Sp := fun vs H Q E => ∃ n : Int, vs = [.int n] ∧
  (10000 < n → ∀ (d : Addr) (H' : Hp), H d = none → Same H H' → H' d = some (.xd [("part", .int n)]) → E (.ref (He.ga K "TooFar")) (some d) H') ∧
  (n ≤ 10000 → -(10 ^ 9) ≤ n ∧ ∀ (F : Addr) (H' : Hp), H F = none → Same H H' → H' F = some (.lst (nv (M.prs (n + 1).toNat))) → Q (.ref F) H')
theorem ok_primes_to (T : Txt K mg) : FnOk P w K mg base (L2.CX P w) 4 (He.ga K "primes_to") (fd_primes_to T) ["n"] (sp_primes_to K) := by
  refine (F_primes_to T).ok sc_primes_to (fun vs H Q E h => ?_) (fun cdv A outer s H vs Q E hr h => ⟨_, (pss_cons (ps_if (pt_cmpR op_gt (pv 0) (pe_glob (v := .int 10000) rfl (T.int_ok (T.c.fact 24 rfl)).choose_spec ⟨_, rfl⟩) (nomark _)) (pss_one (ps_raise rfl (takes_of rfl rfl rfl rfl) (pmk_oex (x_TooFar T).oex (x_TooFar T).iC (x_TooFar T).tI (ok_init_TooFar T) (hr.mono (by decide)) (B_init_TooFar T) .nil pass0 rfl (g_TooFar T) (pa_cons (pv 0) pa_nil)))) pss_nil)
      (pss_cons (ps_set (i := 1) sc_primes_to.nd rfl (Or.inl rfl) (pe_lst pa_nil))
      (pss_cons (ps_set (i := 2) sc_primes_to.nd rfl (Or.inl rfl) pe_dnewK)
      (pss_cons (ps_for (passes_of rfl) rfl (pi_range2 rfl (T.fr (T.c.fact 18 rfl)) (pa_cons pe_int (pa_cons (pe_op op_add (pv 0) pe_int) pa_nil))) (pg_name (i := 3) sc_primes_to.nd rfl (Or.inl rfl)) (pss_one (ps_if (pt_cmp (pc_dnotin (hu_of hr) (pv 3) (pv 2)) rfl) (pss_cons (ps_expr (pe_bm PySem.F.plainAttrs_list PySem.F.slot_list_append PySem.F.type_list_append mt_append (pv 1) (pa_cons (pv 3) pa_nil)))
      (pss_one (ps_for (passes_of rfl) rfl (pi_range3 rfl (T.fr (T.c.fact 18 rfl)) (pa_cons (pe_op op_mulW (pv 3) (pv 3)) (pa_cons (pe_op op_add (pv 0) pe_int) (pa_cons (pv 3) pa_nil)))) (pg_name (i := 4) sc_primes_to.nd rfl (Or.inl rfl)) (pss_one (ps_dput (hu_of hr) (pv 2) (pv 4) pe_bl rfl))))) pss_nil)))
      (pss_one (ps_ret (pv 1))))))), ?_⟩)
  · obtain ⟨n, rfl, _⟩ := h; rfl
  · obtain ⟨n, rfl, k1, k2⟩ := h
    walk_at "g"
    refine s_ite (fun c => ?_) (fun c => ?_)
    · walk_at "g"
      refine s_raise (x_TooFar T).oex (x_TooFar T).noF fun d H' hd hx hs => ?_
      exact k1 c d H' hd hs hx
    obtain ⟨hn0, k⟩ := k2 (by omega)
    obtain ⟨N, hN⟩ : ∃ N : Nat, N = (n - 1).toNat := ⟨_, rfl⟩
    walk_at "g"
    refine mkL (by simp) fun F H1 nF eF s1 => ?_
    walk_at "g"
    refine mkDN fun S H2 nS eS s2 => ?_
    have hFS : F ≠ S := fun z => by rw [z, nS] at eF; cases eF
    have eF2 := s2 _ _ eF
    have nS0 : H S = none := Same.none s1 nS
    walk_at "g"
    refine mkR2 N (by omega) ⟨by omega, by omega, by omega, by omega⟩ ?_
    refine for_range (n := N) (fun i σ H' => Same H H' ∧ H' F = some (.lst (nv (M.prs (2 + i)))) ∧ (∃ L : List Nat, H' S = some (.dK (trKv L)) ∧ L.Nodup ∧ ∀ k, k ∈ L ↔ k ≤ N + 1 ∧ M.Stk (2 + i) k) ∧ ∃ v3 v4 : Option V, σ = [some (.int n), some (.ref F), some (.ref S), v3, v4]) ⟨s1.trans s2, by rw [M.prs_two (by omega)]; exact eF2, ⟨[], eS, List.Pairwise.nil, fun k => by simp [M.stk_two]⟩, _, _, rfl⟩ ?_ ?_
    · rintro i σ H3 hi ⟨s3, hF3, ⟨L, hS3, nd, hL⟩, v3, v4, rfl⟩
      have ei : (2 : Int) + (i : Int) = ((2 + i : Nat) : Int) := by push_cast; rfl
      rw [ei]
      have hi2 : 2 + i ≤ N + 1 := by omega
      have hmem : 2 + i ∈ L ↔ M.Stk (2 + i) (2 + i) := (hL _).trans ⟨fun z => z.2, fun z => ⟨hi2, z⟩⟩
      have hpr := M.stk_prime (d := 2 + i) (by omega)
      have hpl := M.prs_len (2 + i)
      have e3 : 2 + (i + 1) = 2 + i + 1 := by omega
      generalize hd : 2 + i = d at *
      walk_at "g"
      refine s_dnotin ?_
      walk_at "g"
      refine ⟨S, _, rfl, DGet.k (k := .inl (d : Int)) hS3, ?_⟩
      rw [tr_val]
      walk_at "g"
      have hn1 : n = ((N + 1 : Nat) : Int) := by omega
      have hd0 : 2 ≤ d := by omega
      refine s_iten (fun c => ?_) (fun c => ?_)
      · have hp : M.Prime d := hpr.mp fun z => c (hmem.mpr z)
        have hdd : ((d : Int) * (d : Int)) = ((d * d : Nat) : Int) := by push_cast; rfl
        have hddb : d * d ≤ 10001 * 10001 := Nat.mul_le_mul (by omega) (by omega)
        obtain ⟨cnt, hr, hc⟩ := rgc (i := ((d * d : Nat) : Int)) (j := n + 1) (c := d) (by omega) (by omega) (by omega) (by omega) (by omega) (by omega)
        have hc' : ∀ m : Nat, m < cnt ↔ ((d * d : Nat) : Int) + m * d < ((N + 1 + 1 : Nat) : Int) := fun m => by rw [hc m, hn1]; push_cast; rfl
        walk_at "g"
        refine ⟨s_tyL hF3, ?_⟩
        walk_at "g"
        refine s_append hF3 (line2 (by rw [nv_len]; omega)) ?_
        have S4 : Same H (upd H3 F (.lst (nv (M.prs d) ++ [.int d]))) := same_upd' s3 nF
        have eF4 : upd H3 F (.lst (nv (M.prs d) ++ [.int d])) F = some (.lst (nv (M.prs (d + 1)))) := by rw [upd_same, M.prs_yes hp, nv_app]; rfl
        have eS4 : upd H3 F (.lst (nv (M.prs d) ++ [.int d])) S = some (.dK (trKv L)) := by rw [upd_ne (Ne.symm hFS)]; exact hS3
        generalize upd H3 F (.lst (nv (M.prs d) ++ [.int d])) = H4 at S4 eF4 eS4 ⊢
        walk_at "g"
        refine s_rng3 ?_
        walk_at "g"
        try refine s_i (mulW (by omega) (by omega)) ?_
        walk_at "g"
        rw [hdd]
        refine ⟨_, _, _, cnt, rfl, hr, ?_⟩
        refine for_rangeC (n := cnt) (fun j σ H' => Same H H' ∧ H' F = some (.lst (nv (M.prs (d + 1)))) ∧ (∃ L' : List Nat, H' S = some (.dK (trKv L')) ∧ L'.Nodup ∧ ∀ k, k ∈ L' ↔ k ∈ L ∨ ∃ j', j' < j ∧ k = d * d + j' * d) ∧ ∃ v4 : Option V, σ = [some (.int n), some (.ref F), some (.ref S), some (.int d), v4]) ⟨S4, eF4, ⟨L, eS4, nd, fun k => by simp⟩, _, rfl⟩ ?_ ?_
        · rintro j σ H5 hj ⟨s5, hF5, ⟨L', hS5, nd', hL'⟩, v4, rfl⟩
          have ek : ((d * d : Nat) : Int) + (j : Int) * (d : Int) = ((d * d + j * d : Nat) : Int) := by push_cast; rfl
          have hle : ∀ k ∈ L', k < N + 2 := fun k hk => by
            rcases (hL' k).mp hk with z | ⟨j', h1, h2⟩
            · have := ((hL k).mp z).1; omega
            · have h3 := (hc' j').mp (by omega)
              have h4 : ((d * d + j' * d : Nat) : Int) < ((N + 1 + 1 : Nat) : Int) := by push_cast at h3 ⊢; exact h3
              omega
          have hlen := M.pig (N + 2) L' nd' hle
          obtain ⟨L'', e1, e2, e4, _⟩ := tr_put (d * d + j * d) nd'
          rw [ek]
          walk_at "g"
          refine s_dputI hS5 (line2 (by unfold trKv; rw [List.length_map]; omega)) ?_
          rw [e1]
          walk_at "g"
          refine ⟨same_upd' s5 nS0, by rw [upd_ne hFS]; exact hF5, ⟨L'', upd_same, e2, fun k => ?_⟩, _, rfl⟩
          rw [e4 k, hL' k]
          constructor
          · rintro ((h | ⟨j', h1, h2⟩) | h)
            · exact .inl h
            · exact .inr ⟨j', by omega, h2⟩
            · exact .inr ⟨j, by omega, h⟩
          · rintro (h | ⟨j', h1, h2⟩)
            · exact .inl (.inl h)
            · by_cases z : j' = j
              · rw [z] at h2; exact .inr h2
              · exact .inl (.inr ⟨j', by omega, h2⟩)
        · rintro σ H5 ⟨s5, hF5, ⟨L', hS5, nd', hL'⟩, v4, rfl⟩
          walk_at "g"
          refine ⟨s5, by rw [e3]; exact hF5, ⟨L', hS5, nd', fun k => ?_⟩, _, _, rfl⟩
          rw [e3, hL' k, hL k, M.stk_yes hp]
          constructor
          · rintro (h | ⟨j', h1, h2⟩)
            · exact ⟨h.1, .inl h.2⟩
            · have h3 := (hc' j').mp h1
              have h4 : ((d * d + j' * d : Nat) : Int) < ((N + 1 + 1 : Nat) : Int) := by push_cast at h3 ⊢; exact h3
              have hk : k ≤ N + 1 := by omega
              exact ⟨hk, .inr ((M.stk_all (by omega) hc' hk).mp ⟨j', h1, h2⟩)⟩
          · rintro ⟨h1, h2 | h2⟩
            · exact .inl ⟨h1, h2⟩
            · exact .inr ((M.stk_all (by omega) hc' h1).mpr h2)
      · have hp : ¬ M.Prime d := fun z => hpr.mpr z (hmem.mp c)
        walk_at "g"
        refine ⟨s3, by rw [e3, M.prs_no hp]; exact hF3, ⟨L, hS3, nd, fun k => ?_⟩, _, _, rfl⟩
        rw [e3, M.stk_no hp]
        exact hL k
    · rintro σ H3 ⟨s3, hF3, ⟨L, hS3, nd, hL⟩, v3, v4, rfl⟩
      walk_at "g"
      refine k F H3 nF s3 ?_
      have e : M.prs (2 + N) = M.prs (n + 1).toNat := by
        by_cases z : 1 ≤ n
        · rw [show (n + 1).toNat = 2 + N by omega]
        · rw [M.prs_two (show (n + 1).toNat ≤ 2 by omega), M.prs_two (show 2 + N ≤ 2 by omega)]
      rw [← e]; exact hF3

/-- after k powers -/
def growN (found : List Nat) (q : Nat) : Nat → List Nat
  | 0 => []
  | k + 1 => M.grow found q k
/-- divisors(parting): a new list of all, rising -/
def sp_divisors : Sp := fun vs H Q _ => ∃ (D : Addr) (ys : List V) (l : List (Nat × Nat)) (n : Nat), vs = [.ref D] ∧ H D = some (.lst ys) ∧ TupsIn H ys (l.map fun x => [V.int (x.1 : Nat), V.int (x.2 : Nat)]) ∧ M.IsFac n l ∧ 0 < n ∧ n ≤ 1000000000 ∧
  ∀ p H' (ds : List Nat), ds.Perm (M.divL [1] l) → ds.Pairwise (· < ·) → H p = none → Same H H' → H' p = some (.lst (nv ds)) → Q (.ref p) H'
theorem divV_len {n : Nat} {l : List (Nat × Nat)} (hl : M.IsFac n l) (i m : Nat) : (M.divL [1] (l.take i)).length ≤ M.manyL l := by
  rw [M.divL_len]
  have h : M.manyL l = M.manyL (l.take i) * M.manyL (l.drop i) := by rw [← M.manyL_app, List.take_append_drop]
  have key : ∀ l : List (Nat × Nat), 0 < M.manyL l := fun l => by
    induction l with
    | nil => exact Nat.one_pos
    | cons x l ih => exact Nat.mul_pos (Nat.succ_pos _) ih
  rw [h]
  simp only [List.length_singleton, Nat.one_mul]
  exact Nat.le_mul_of_pos_right _ (key _)
theorem growN_more (found : List Nat) (q : Nat) : ∀ k, growN found q (k + 1) = growN found q k ++ found.map (· * q ^ k)
  | 0 => by simp [growN, M.grow]
  | k + 1 => rfl
theorem growN_len (found : List Nat) (q k : Nat) : (growN found q k).length = found.length * k := by
  cases k with
  | zero => rfl
  | succ k => exact M.grow_len found q k
theorem ok_divisors (T : Txt K mg) : FnOk P w K mg base CX0 2 (He.ga K "divisors") (fd_divisors T) ["parting"] sp_divisors := by
  refine (F_divisors T).ok sc_divisors (fun vs H Q E h => ?_) (fun cdv A outer s H vs Q E hr h => ⟨_, PSs.nox (pss_cons (ps_set (i := 1) sc_divisors.nd rfl (Or.inl rfl) (pe_lst (pa_cons pe_int pa_nil)))
      (pss_cons (ps_for PassesOwn.never rfl (pi_list (pv 0)) (pg_tup rfl (pgs_cons (pg_name (i := 2) sc_divisors.nd rfl (Or.inr rfl)) (pgs_cons (pg_name (i := 3) sc_divisors.nd rfl (Or.inl rfl)) pgs_nil))) (pss_cons (ps_set (i := 4) sc_divisors.nd rfl (Or.inl rfl) (pe_lst pa_nil))
      (pss_cons (ps_for PassesOwn.never rfl (pi_range1 rfl (T.fr (T.c.fact 18 rfl)) (pa_cons (pe_op op_add (pv 3) pe_int) pa_nil)) (pg_name (i := 5) sc_divisors.nd rfl (Or.inr rfl)) (pss_one (ps_expr (pe_bm PySem.F.plainAttrs_list PySem.F.slot_list_extend PySem.F.type_list_extend mt_extend (pv 4) (pa_cons (pe_lc (own := [("d", 6)]) (tt := tYes) rfl sc_divisors.nd (pi_list (pv 1)) (blkOk_by (N := N_divisors) (sc := defScope s_divisors) (by decide +kernel)) (fun _ _ _ _ _ => (pg_name (i := 6) sc_divisors.nd rfl (Or.inl rfl))) (fun _ _ _ _ _ => pts_nil) (fun _ _ _ _ _ => (pe_op op_mulW (pv 6) (pe_call (ok_taken T) (hr.mono (by decide)) rfl (g_taken T) (kp_taken T) (B_taken T) .nil pass0 (pa_cons (pv 2) (pa_cons (pv 5) pa_nil)))))) pa_nil)))))
      (pss_one (ps_set (i := 1) sc_divisors.nd rfl (Or.inl rfl) (pv 4))))))
      (pss_one (ps_ret (pe_callB cr_sortedI rfl (T.fr (T.c.fact 20 rfl)) boot_sorted (pa_cons (pv 1) pa_nil)))))), ?_⟩)
  · obtain ⟨D, ys, l, n, rfl, _⟩ := h; rfl
  · obtain ⟨D, ys, l, n, rfl, hD, ty, hl, n0, hn, k⟩ := h
    have hline := M.many_line hl hn
    walk_at "g"
    refine mkL (by simp) fun f H1 nf hf s1 => ?_
    walk_at "g"
    refine ⟨⟨_, SqL.of (s1 _ _ hD)⟩, ?_⟩
    refine for_list (fun i σ H' => Same H H' ∧ ∃ (f : Addr) (v1 v2 v3 v4 v5 : Option V), H f = none ∧ H' f = some (.lst (nv (M.divL [1] (l.take i)))) ∧ σ = [some (.ref D), some (.ref f), v1, v2, v3, v4, v5]) ⟨s1, f, none, none, none, none, none, nf, hf, rfl⟩ (fun i σ H' _ I => SqL.of (I.1 _ _ hD)) ?_ ?_
    · rintro i x σ H' hi ⟨sH, f, v1, v2, v3, v4, v5, nf, hf, rfl⟩
      obtain ⟨y, hy, t, rfl, et⟩ := pget ty hi
      rw [List.getElem?_map] at hy
      obtain ⟨⟨q, b⟩, hab, rfl⟩ := Option.map_eq_some_iff.mp hy
      have et' : H t = some (.tup [.int (q : Nat), .int (b : Nat)]) := et
      have hq := (hl.primes _ (List.mem_of_getElem? hab)).1
      have hq' : 0 < q := hq.pos
      have hb60 : b < 2 ^ 60 := fac_many hl n0 (List.mem_of_getElem? hab) (by omega)
      have hqb : q ^ b ≤ n := Nat.le_of_dvd n0 (by rw [← hl.prod]; exact M.prodL_dvd (List.mem_of_getElem? hab))
      have hdv := (M.divs_take hl i (by have := (List.getElem?_eq_some_iff.mp hab).1; omega))
      have hpt : M.prodL (l.take i) ≤ n := by rw [← hl.prod]; exact prodL_take_le (fun x hx => (hl.primes x hx).1.pos) i
      have hgt : M.divL [1] (l.take (i + 1)) = growN (M.divL [1] (l.take i)) q (b + 1) := by rw [take_more hab, M.divL_app]; rfl
      have hlen := divV_len hl (i + 1) 0
      rw [hgt, growN_len] at hlen
      have hfd : ∀ d ∈ M.divL [1] (l.take i), d ≤ n := fun d hd => Nat.le_trans (Nat.le_of_dvd hdv.2 ((hdv.1.mem d).mp hd)) hpt
      rw [hgt]
      generalize M.divL [1] (l.take i) = found at hf hlen hfd
      clear hgt hdv
      refine s_gtup (SqT.of (sH _ _ et')) rfl ?_
      walk_at "g"
      refine mkL (by simp) fun e H2 ne he s2 => ?_
      walk_at "g"
      refine mkR1 (b + 1) (by omega) (by omega) (by omega) ?_
      refine for_range (n := b + 1) (fun k σ H3 => Same H' H3 ∧ H3 e = some (.lst (nv (growN found q k))) ∧ ∃ v4 v5 : Option V, σ = [some (.ref D), some (.ref f), some (.int q), some (.int b), some (.ref e), v4, v5]) ⟨s2, he, _, _, rfl⟩ ?_ ?_
      · rintro k σ H3 hk ⟨s3, he3, v4, v5, rfl⟩
        have hqk : q ^ k ≤ q ^ b := Nat.pow_le_pow_right hq' (by omega)
        have hfk : found.length * (k + 1) ≤ found.length * (b + 1) := Nat.mul_le_mul_left _ (by omega)
        have hf1 : found.length * 1 ≤ found.length * (k + 1) := Nat.mul_le_mul_left _ (by omega)
        walk_at "g"
        refine ⟨s_tyL he3, ?_⟩
        walk_at "g"
        refine s_lc ?_
        walk_at "g"
        refine ⟨⟨_, SqL.of (s3 _ _ hf)⟩, fun D2 hD2 => ?_⟩
        refine lc_list (fun j H5 => Same H3 H5 ∧ H5 D2 = some (.lst (nv ((found.take j).map (· * q ^ k))))) ⟨same_upd hD2, upd_same⟩ (fun j H5 _ I => SqL.of (I.1 _ _ (s3 _ _ hf))) ?_ ?_
        · rintro j x H5 hj ⟨s5, h5⟩
          obtain ⟨d, hd, rfl⟩ := nv_get hj
          have hdn := hfd d (List.mem_of_getElem? hd)
          have hjl := (List.getElem?_eq_some_iff.mp hd).1
          walk_at "g"
          refine ⟨rfl, ?_⟩
          walk_at "g"
          refine ⟨q, k, by simp, hq', by omega, by omega, ?_⟩
          walk_at "g"
          try refine s_i (mulW (by omega) (by omega)) ?_
          walk_at "g"
          refine ⟨_, h5, line2 (by rw [nv_len, List.length_map, List.length_take]; omega), same_upd' s5 hD2, ?_⟩
          rw [upd_same, take_more hd, List.map_append, nv_app]
          simp [nv]
        · rintro H5 ⟨s5, h5⟩
          rw [nv_len, List.take_length] at h5
          have hel := growN_len found q k
          refine ⟨e, D2, _, _, rfl, rfl, s5 _ _ he3, h5, ?_, ?_⟩
          · rw [nv_len, nv_len, List.length_map, hel]
            have : found.length * k + found.length = found.length * (k + 1) := by rw [Nat.mul_succ]
            exact Nat.le_of_lt (line2 (by omega))
          walk_at "g"
          refine ⟨same_upd' (s3.trans s5) ne, ?_, _, _, rfl⟩
          rw [upd_same, growN_more, nv_app]
      · rintro σ H3 ⟨s3, he3, v4, v5, rfl⟩
        walk_at "g"
        exact ⟨sH.trans s3, e, _, _, _, _, _, Same.none sH ne, he3, rfl⟩
    · rintro σ H' ⟨sH, f, v1, v2, v3, v4, v5, nf, hf, rfl⟩
      have hyl : ys.length = l.length := by rw [ty.length, List.length_map]
      rw [hyl, List.take_length] at hf
      walk_at "g"
      refine ⟨f, _, rfl, SqL.of hf, fun ns p pm srt np => ?_⟩
      obtain ⟨ds, rfl, pm', srt'⟩ := ints_back pm srt (M.divs_all hl).nd
      exact k p _ ds pm' srt' (Same.none sH np) (same_upd' sH (Same.none sH np)) upd_same

theorem phiL_pos : ∀ {l : List (Nat × Nat)}, (∀ x ∈ l, 2 ≤ x.1) → 0 < M.phiL l
  | [], _ => Nat.one_pos
  | x :: l, h => Nat.mul_pos (Nat.mul_pos (by have := h x (by simp); omega) (Nat.pow_pos (by have := h x (by simp); omega))) (phiL_pos fun y hy => h y (by simp [hy]))
theorem phiL_le : ∀ {l : List (Nat × Nat)}, (∀ x ∈ l, 2 ≤ x.1 ∧ 0 < x.2) → M.phiL l ≤ M.prodL l
  | [], _ => Nat.le_refl _
  | x :: l, h => by
    obtain ⟨h1, h2⟩ := h x (by simp)
    have e : x.1 ^ x.2 = x.1 * x.1 ^ (x.2 - 1) := by
      conv => lhs; rw [show x.2 = (x.2 - 1) + 1 by omega, Nat.pow_succ]
      exact Nat.mul_comm _ _
    show (x.1 - 1) * x.1 ^ (x.2 - 1) * M.phiL l ≤ x.1 ^ x.2 * M.prodL l
    rw [e]
    exact Nat.mul_le_mul (Nat.mul_le_mul_right _ (by omega)) (phiL_le fun y hy => h y (by simp [hy]))
theorem phiL_one (x : Nat × Nat) (l : List (Nat × Nat)) : M.phiL (l ++ [x]) = M.phiL l * ((x.1 - 1) * x.1 ^ (x.2 - 1)) := by rw [M.phiL_app]; simp [M.phiL]
/-- coprimes(parting) -/
def sp_coprimes : Sp := fun vs H Q _ => ∃ (D : Addr) (ys : List V) (l : List (Nat × Nat)) (n : Nat), vs = [.ref D] ∧ H D = some (.lst ys) ∧ TupsIn H ys (l.map fun x => [V.int (x.1 : Nat), V.int (x.2 : Nat)]) ∧ M.IsFac n l ∧ 0 < n ∧ n < 2 ^ 200 ∧ Q (.int (M.phiL l : Nat)) H
theorem ok_coprimes (T : Txt K mg) : FnOk P w K mg base CX0 2 (He.ga K "coprimes") (fd_coprimes T) ["parting"] sp_coprimes := by
  refine (F_coprimes T).ok sc_coprimes (fun vs H Q E h => ?_) (fun cdv A outer s H vs Q E hr h => ⟨_, PSs.nox (pss_cons (ps_set (i := 1) sc_coprimes.nd rfl (Or.inl rfl) pe_int)
      (pss_cons (ps_for PassesOwn.never rfl (pi_list (pv 0)) (pg_tup rfl (pgs_cons (pg_name (i := 2) sc_coprimes.nd rfl (Or.inl rfl)) (pgs_cons (pg_name (i := 3) sc_coprimes.nd rfl (Or.inl rfl)) pgs_nil))) (pss_one (ps_set (i := 1) sc_coprimes.nd rfl (Or.inl rfl) (pe_op op_mulW (pe_op op_mulW (pv 1) (pe_op op_sub (pv 2) pe_int)) (pe_call (ok_taken T) (hr.mono (by decide)) rfl (g_taken T) (kp_taken T) (B_taken T) .nil pass0 (pa_cons (pv 2) (pa_cons (pe_op op_sub (pv 3) pe_int) pa_nil)))))))
      (pss_one (ps_ret (pv 1))))), ?_⟩)
  · obtain ⟨D, ys, l, n, rfl, _⟩ := h; rfl
  · obtain ⟨D, ys, l, n, rfl, hD, ty, hl, n0, hn, k⟩ := h
    have hx0 : ∀ x ∈ l, 0 < x.1 := fun x h => (hl.primes x h).1.pos
    walk_at "g"
    refine ⟨⟨_, SqL.of hD⟩, ?_⟩
    refine for_list (fun i σ H' => H' = H ∧ ∃ v1 v2 : Option V, σ = [some (.ref D), some (.int ((M.phiL (l.take i) : Nat) : Int)), v1, v2]) ⟨rfl, none, none, rfl⟩ (fun i σ H' _ I => by rw [I.1]; exact SqL.of hD) ?_ ?_
    · rintro i x σ H' hi ⟨rfl, v1, v2, rfl⟩
      obtain ⟨y, hy, t, rfl, et⟩ := pget ty hi
      rw [List.getElem?_map] at hy
      obtain ⟨⟨q, b⟩, hab, rfl⟩ := Option.map_eq_some_iff.mp hy
      have et' : H' t = some (.tup [.int (q : Nat), .int (b : Nat)]) := et
      have hqb := hl.primes _ (List.mem_of_getElem? hab)
      have hq : 2 ≤ q := hqb.1.1
      have hb : 0 < b := hqb.2
      have hb60 : b < 2 ^ 60 := fac_many hl n0 (List.mem_of_getElem? hab) hn
      have h1 : M.phiL (l.take i) ≤ M.prodL (l.take i) := phiL_le fun x hx => ⟨(hl.primes x (List.mem_of_mem_take hx)).1.1, (hl.primes x (List.mem_of_mem_take hx)).2⟩
      have h2 : M.prodL (l.take i) ≤ n := by rw [← hl.prod]; exact prodL_take_le hx0 i
      have h3 : q ^ b ≤ n := Nat.le_of_dvd n0 (by rw [← hl.prod]; exact M.prodL_dvd (List.mem_of_getElem? hab))
      have h4 : q ^ (b - 1) ≤ q ^ b := Nat.pow_le_pow_right (by omega) (by omega)
      have h5 : q ^ 1 ≤ q ^ b := Nat.pow_le_pow_right (by omega) hb
      rw [Nat.pow_one] at h5
      have e1 : ((q : Nat) : Int) - 1 = ((q - 1 : Nat) : Int) := by omega
      have e2 : ((b : Nat) : Int) - 1 = ((b - 1 : Nat) : Int) := by omega
      have h6 : M.phiL (l.take i) * (q - 1) < 2 ^ 400 := Nat.lt_of_lt_of_le (Nat.mul_lt_mul'' (show _ < 2 ^ 200 by omega) (show _ < 2 ^ 200 by omega)) (by decide)
      have e3 : ((M.phiL (l.take i) * (q - 1) : Nat) : Int) * ((q ^ (b - 1) : Nat) : Int) = ((M.phiL (l.take (i + 1)) : Nat) : Int) := by
        rw [take_more hab, phiL_one, ← Nat.mul_assoc]; push_cast; rfl
      refine s_gtup (SqT.of et') rfl ?_
      walk_at "g"
      rw [e1]
      try refine s_i (mulW (by omega) (by omega)) ?_
      walk_at "g"
      refine ⟨q, b - 1, by rw [e2]; rfl, by omega, by omega, by omega, ?_⟩
      walk_at "g"
      rw [show ((M.phiL (l.take i) : Nat) : Int) * ((q - 1 : Nat) : Int) = ((M.phiL (l.take i) * (q - 1) : Nat) : Int) by push_cast; rfl]
      try refine s_i (mulW (by omega) (by omega)) ?_
      walk_at "g"
      rw [e3]
      exact ⟨rfl, _, _, rfl⟩
    · rintro σ H' ⟨rfl, v1, v2, rfl⟩
      have hyl : ys.length = l.length := by rw [ty.length, List.length_map]
      rw [hyl, List.take_length]
      walk_at "g"
      exact k

theorem strict_ext : ∀ {xs ys : List Nat}, xs.Pairwise (· < ·) → ys.Pairwise (· < ·) → (∀ z, z ∈ xs ↔ z ∈ ys) → xs = ys
  | [], [], _, _, _ => rfl
  | [], y :: ys, _, _, h => absurd ((h y).mpr (by simp)) (by simp)
  | x :: xs, [], _, _, h => absurd ((h x).mp (by simp)) (by simp)
  | x :: xs, y :: ys, h1, h2, h => by
    have a := List.pairwise_cons.mp h1
    have b := List.pairwise_cons.mp h2
    have e : x = y := by
      rcases List.mem_cons.mp ((h x).mp (by simp)) with z | z
      · exact z
      · rcases List.mem_cons.mp ((h y).mpr (by simp)) with w | w
        · exact w.symm
        · have := b.1 x z
          have := a.1 y w
          omega
    subst e
    rw [strict_ext a.2 b.2 fun z => ⟨fun m => ?_, fun m => ?_⟩]
    · rcases List.mem_cons.mp ((h z).mp (by simp [m])) with w | w
      · have := a.1 z m; omega
      · exact w
    · rcases List.mem_cons.mp ((h z).mpr (by simp [m])) with w | w
      · have := b.1 z m; omega
      · exact w

def pairD (l : List (Nat × Nat)) : List PyData := l.map fun x => .tuple [.int (x.1 : Nat), .int (x.2 : Nat)]
theorem dp_pairs {K : PySem.W.Frag} {H : Hp} : ∀ {xs : List V} {l : List (Nat × Nat)}, TupsIn H xs (l.map fun x => [V.int (x.1 : Nat), V.int (x.2 : Nat)]) → DpAll K H xs (pairD l)
  | _, [], .nil => .nil
  | _, x :: l, .cons ⟨t, e, h⟩ r => by subst e; exact .cons (.tup (SqT.of h) (.cons (.int _) (.cons (.int _) .nil))) (dp_pairs r)
theorem sh_pairs (l : List (Nat × Nat)) : SeqAt.shaped (.list (pairD l)) = true := shapedL fun d hd => by
  obtain ⟨x, _, rfl⟩ := List.mem_map.mp hd
  exact ⟨by rfl, by show 1 ≤ 63; decide⟩

theorem manyL_pos : ∀ l : List (Nat × Nat), 0 < M.manyL l
  | [] => Nat.one_pos
  | x :: l => Nat.mul_pos (by omega) (manyL_pos l)
theorem manyL_snoc {l : List (Nat × Nat)} {i q b : Nat} (h : l[i]? = some (q, b)) : M.manyL (l.take (i + 1)) = M.manyL (l.take i) * (b + 1) ∧ M.manyL (l.take (i + 1)) ≤ M.manyL l := by
  refine ⟨?_, ?_⟩
  · rw [take_more h, M.manyL_app]
    simp [M.manyL]
  · have e : M.manyL l = M.manyL (l.take (i + 1)) * M.manyL (l.drop (i + 1)) := by rw [← M.manyL_app, List.take_append_drop]
    rw [e]
    exact Nat.le_mul_of_pos_right _ (manyL_pos _)

def capM : Nat → Nat
  | 0 => 1
  | 1 => 4
  | 2 => 36
  | 3 => 900
  | 4 => 6300
  | 5 => 69300
  | _ => 900900
/-- _law_made(number, way): a number from 1 to 900,900 -/
def sp__law_made : Sp := fun vs H Q _ => ∃ (x way : Int), vs = [.int x, .int way] ∧ 0 ≤ x ∧ x < 10 ^ 60 ∧ ∀ (n : Nat) H', 1 ≤ n → n ≤ 900900 → Same H H' → Q (.int n) H'
theorem ok__law_made (T : Txt K mg) : FnOk P w K mg base CX0 1 (He.ga K "_law_made") (fd__law_made T) ["_law_number", "_law_way"] sp__law_made := by
  refine (F__law_made T).ok sc__law_made (fun vs H Q E h => ?_) (fun cdv A outer s H vs Q E hr h => ⟨_, PSs.nox (pss_cons (ps_if (pt_cmpR op_gt (pe_op op_mod (pv 1) pe_int) pe_int (nomark _)) (pss_one (ps_ret (pe_op op_add pe_int (pe_op op_mod (pv 0) pe_int)))) pss_nil)
      (pss_cons (ps_set (i := 2) sc__law_made.nd rfl (Or.inl rfl) pe_int)
      (pss_cons (ps_for PassesOwn.never rfl (RE.pi_enumT rfl (T.fr (T.c.fact 22 rfl)) (pa_cons (pe_tup (pa_cons pe_int (pa_cons pe_int (pa_cons pe_int (pa_cons pe_int (pa_cons pe_int (pa_cons pe_int pa_nil))))))) pa_nil)) (pg_tup rfl (pgs_cons (pg_name (i := 3) sc__law_made.nd rfl (Or.inl rfl)) (pgs_cons (pg_name (i := 4) sc__law_made.nd rfl (Or.inl rfl)) pgs_nil))) (pss_cons (ps_for PassesOwn.never rfl (pi_range1 rfl (T.fr (T.c.fact 18 rfl)) (pa_cons (pe_op op_mod (pv 0) (pe_ix ix_seq (pe_lst (pa_cons pe_int (pa_cons pe_int (pa_cons pe_int (pa_cons pe_int (pa_cons pe_int (pa_cons pe_int pa_nil))))))) (pv 3) (fun _ _ => rfl))) pa_nil)) (pg_name (i := 5) sc__law_made.nd rfl (Or.inl rfl)) (pss_one (ps_set (i := 2) sc__law_made.nd rfl (Or.inl rfl) (pe_op op_mulW (pv 2) (pv 4)))))
      (pss_one (ps_set (i := 0) sc__law_made.nd rfl (Or.inl rfl) (pe_op op_fdivW (pv 0) pe_int)))))
      (pss_one (ps_ret (pv 2)))))), ?_⟩)
  · obtain ⟨x, way, rfl, _⟩ := h; rfl
  · obtain ⟨x, way, rfl, b2, b2', k⟩ := h
    walk_at "g"
    refine s_ite (fun c => ?_) (fun c => ?_)
    · walk_at "g"
      have h0 := Int.emod_nonneg x (show (300 : Int) ≠ 0 by decide)
      have h1 := Int.emod_lt_of_pos x (show (0 : Int) < 300 by decide)
      generalize x % 300 = y at h0 h1 ⊢
      obtain ⟨y, rfl⟩ := Int.eq_ofNat_of_zero_le h0
      exact k (1 + y) H (by omega) (by omega) (Same.refl _)
    · walk_at "g"
      refine RE.s_enumT ?_
      walk_at "g"
      refine mkT (by simp) fun e3 H3 ne3 ee3 s3 => ?_
      walk_at "g"
      refine ⟨e3, _, rfl, SqT.of ee3, ?_⟩
      refine RE.for_enumT (fun i σ H' => Same H3 H' ∧ ∃ (n : Nat) (w : Int) (v3 v4 v5 : Option V), σ = [some (.int w), some (.int way), some (.int n), v3, v4, v5] ∧ 1 ≤ n ∧ n ≤ capM i ∧ 0 ≤ w) ⟨Same.refl _, 1, x, _, _, _, rfl, by decide, by decide, b2⟩ (fun i σ H' I => SqT.of (I.1 _ _ ee3)) ?_ ?_
      · rintro i y T' σ H4 hi ⟨s4, n, w, v3, v4, v5, rfl, n1, nc, w0⟩ nT
        have S5 : Same H4 (upd H4 T' (.tup [.int (i : Nat), y])) := same_upd nT
        have e5 : upd H4 T' (.tup [.int (i : Nat), y]) T' = some (.tup [.int (i : Nat), y]) := upd_same
        generalize upd H4 T' (.tup [.int (i : Nat), y]) = H5 at S5 e5 ⊢
        have hil : i < 6 := (List.getElem?_eq_some_iff.mp hi).1
        obtain ⟨q, cap, rfl, hcap, hq2, hq11, hc1, hc4, hB⟩ : ∃ (q cap : Nat), y = .int (q : Nat) ∧ (([3, 3, 3, 2, 2, 2] : List Int).map V.int)[i]? = some (.int (cap : Nat)) ∧ 2 ≤ q ∧ q ≤ 13 ∧ 1 ≤ cap ∧ cap ≤ 3 ∧ capM i * q ^ (cap - 1) ≤ capM (i + 1) := by
          have e : i = 0 ∨ i = 1 ∨ i = 2 ∨ i = 3 ∨ i = 4 ∨ i = 5 := by omega
          rcases e with rfl | rfl | rfl | rfl | rfl | rfl
          · cases hi; exact ⟨2, 3, rfl, rfl, by decide, by decide, by decide, by decide, by decide⟩
          · cases hi; exact ⟨3, 3, rfl, rfl, by decide, by decide, by decide, by decide, by decide⟩
          · cases hi; exact ⟨5, 3, rfl, rfl, by decide, by decide, by decide, by decide, by decide⟩
          · cases hi; exact ⟨7, 2, rfl, rfl, by decide, by decide, by decide, by decide, by decide⟩
          · cases hi; exact ⟨11, 2, rfl, rfl, by decide, by decide, by decide, by decide, by decide⟩
          · cases hi; exact ⟨13, 2, rfl, rfl, by decide, by decide, by decide, by decide, by decide⟩
        refine s_gtup (SqT.of e5) rfl ?_
        walk_at "g"
        refine mkL (by simp) fun l6 H6 nl6 el6 s6 => ?_
        walk_at "g"
        refine s_ixL (SqL.of el6) (atI0 i rfl hcap) ?_
        walk_at "g"
        refine s_i (show (0 : Int) < (cap : Int) by omega) ?_
        have r0 := Int.emod_nonneg w (show (cap : Int) ≠ 0 by omega)
        have r1 := Int.emod_lt_of_pos w (show (0 : Int) < (cap : Int) by omega)
        generalize w % (cap : Int) = r at r0 r1 ⊢
        obtain ⟨r, rfl⟩ := Int.eq_ofNat_of_zero_le r0
        walk_at "g"
        refine mkR1 r (by omega) (by omega) (by omega) ?_
        have capB1 : capM (i + 1) ≤ 900900 := by
          have e : i = 0 ∨ i = 1 ∨ i = 2 ∨ i = 3 ∨ i = 4 ∨ i = 5 := by omega
          rcases e with rfl | rfl | rfl | rfl | rfl | rfl <;> decide
        refine for_range (n := r) (fun j σ H' => H' = H6 ∧ ∃ (m : Nat) (v5 : Option V), σ = [some (.int w), some (.int way), some (.int m), some (.int (i : Nat)), some (.int (q : Nat)), v5] ∧ 1 ≤ m ∧ m ≤ capM i * q ^ j) ⟨rfl, n, _, rfl, n1, by rw [Nat.pow_zero, Nat.mul_one]; exact nc⟩ ?_ ?_
        · rintro j σ H7 hj ⟨rfl, m, v5, rfl, m1, mc⟩
          have h5 : q ^ j ≤ q ^ (cap - 1) := Nat.pow_le_pow_right (by omega) (by omega)
          have h6 : capM i * q ^ j ≤ capM i * q ^ (cap - 1) := Nat.mul_le_mul_left _ h5
          have h7 : m * q ≤ capM i * q ^ (j + 1) := by rw [Nat.pow_succ, ← Nat.mul_assoc]; exact Nat.mul_le_mul_right q mc
          walk_at "g"
          try refine s_i (mulW (by omega) (by omega)) ?_
          walk_at "g"
          exact ⟨rfl, m * q, _, by push_cast; rfl, Nat.mul_pos m1 (by omega), h7⟩
        · rintro σ H7 ⟨rfl, m, v5, rfl, m1, mc⟩
          have h5 : q ^ r ≤ q ^ (cap - 1) := Nat.pow_le_pow_right (by omega) (by omega)
          have h6 : capM i * q ^ r ≤ capM i * q ^ (cap - 1) := Nat.mul_le_mul_left _ h5
          walk_at "g"
          exact ⟨s4.trans (S5.trans s6), m, _, _, _, _, rfl, m1, by omega, Int.ediv_nonneg w0 (by decide)⟩
      · rintro σ H4 ⟨s4, n, w, v3, v4, v5, rfl, n1, nc, w0⟩
        walk_at "g"
        exact k n H4 n1 nc (s3.trans s4)

theorem nv_flat (l : List Nat) : (nv l).all flatV = true := by unfold nv; exact flat_ints _
theorem s_revL {K : PySem.W.Frag} {te : TE} {σ : L2.St} {H : Hp} {Q : VK} (h : te σ H fun x H1 => ∃ a xs, x = .ref a ∧ SqL K H1 a xs ∧ ∀ p, H1 p = none → Q (.ref p) (upd H1 p (.lst xs.reverse))) : tRevL K te σ H Q := h
theorem nv_rev (l : List Nat) : (nv l).reverse = nv l.reverse := by unfold nv; rw [← List.map_reverse, ← List.map_reverse]
theorem nv_in {l : List Nat} {z : Nat} : inV (.int (z : Int)) (nv l) = decide (z ∈ l) := by
  unfold nv
  rw [in_ints]
  refine decide_eq_decide.mpr ⟨fun h => ?_, fun h => List.mem_map.mpr ⟨z, h, rfl⟩⟩
  obtain ⟨y, hy, e⟩ := List.mem_map.mp h
  rw [show z = y by omega]; exact hy
theorem divs_rev {n : Nat} {l : List (Nat × Nat)} {ds : List Nat} (n0 : 0 < n) (hl : M.IsFac n l) (pm : ds.Perm (M.divL [1] l)) (srt : ds.Pairwise (· < ·)) : ds.map (fun d => n / d) = ds.reverse := by
  have hdv : ∀ d, d ∈ ds ↔ d ∣ n := fun d => pm.mem_iff.trans ((M.divs_all hl).mem d)
  have h : (ds.map fun d => n / d).reverse = ds := by
    refine strict_ext ?_ srt fun z => ?_
    · rw [List.pairwise_reverse, List.pairwise_map]
      refine List.Pairwise.imp_of_mem ?_ srt
      intro a b ha hb hab
      obtain ⟨c, hc⟩ := (hdv a).mp ha
      obtain ⟨e, he⟩ := (hdv b).mp hb
      have a0 := Nat.pos_of_dvd_of_pos ((hdv a).mp ha) n0
      have b0 := Nat.pos_of_dvd_of_pos ((hdv b).mp hb) n0
      have h1 : n / a = c := by rw [hc]; exact Nat.mul_div_cancel_left c a0
      have h2 : n / b = e := by rw [he]; exact Nat.mul_div_cancel_left e b0
      rw [h1, h2]
      rcases Nat.lt_or_ge e c with z | z
      · exact z
      · exfalso
        have e0 : 0 < e := Nat.pos_of_ne_zero fun y => by rw [y, Nat.mul_zero] at he; omega
        have h3 : a * c ≤ a * e := Nat.mul_le_mul_left a z
        have h4 : a * e < b * e := Nat.mul_lt_mul_of_pos_right hab e0
        omega
    · rw [List.mem_reverse, List.mem_map, hdv z]
      constructor
      · rintro ⟨d, hd, rfl⟩
        exact Nat.div_dvd_of_dvd ((hdv d).mp hd)
      · intro hz
        exact ⟨n / z, (hdv _).mpr (Nat.div_dvd_of_dvd hz), Nat.div_div_self hz (by omega)⟩
  rw [← List.reverse_reverse (ds.map fun d => n / d), h]
theorem primes_cut {n k : Nat} {l : List (Nat × Nat)} (n0 : 0 < n) (hk : k = if 2000 < n then 2000 else n) (hl : M.IsFac n l) : ((M.prs (k + 1)).filter fun q => decide (n % q = 0)) = (l.map (·.1)).filter fun q => decide (q ≤ 2000) := by
  refine strict_ext ?_ ?_ fun z => ?_
  · unfold M.prs
    exact List.Pairwise.filter _ (List.Pairwise.filter _ List.pairwise_lt_range)
  · refine List.Pairwise.filter _ ?_
    rw [List.pairwise_map]
    exact hl.sorted
  · rw [List.mem_filter, List.mem_filter, decide_eq_true_iff, decide_eq_true_iff]
    unfold M.prs
    rw [List.mem_filter, List.mem_range, M.pB_iff, List.mem_map]
    constructor
    · rintro ⟨⟨h1, h2⟩, h3⟩
      obtain ⟨b, hb⟩ := M.prime_in' h2 (fun x hx => (hl.primes x hx).1) (by rw [hl.prod]; exact Nat.dvd_of_mod_eq_zero h3)
      exact ⟨⟨_, hb, rfl⟩, by split at hk <;> omega⟩
    · rintro ⟨⟨x, hx, rfl⟩, h2⟩
      have h3 := M.fac_dvd hl hx
      have h4 := Nat.le_of_dvd n0 h3
      exact ⟨⟨by split at hk <;> omega, (hl.primes x hx).1⟩, Nat.mod_eq_zero_of_dvd h3⟩
theorem sum_take_le {f : Nat → Nat} {ds : List Nat} (i : Nat) : ((ds.take i).map f).sum ≤ (ds.map f).sum := by
  conv => rhs; rw [← List.take_append_drop i ds, List.map_append, List.sum_append]
  exact Nat.le_add_right _ _
/-- _law_alone(n): the truth -/
def sp__law_alone : Sp := fun vs H Q _ => ∃ n : Nat, vs = [.int n] ∧ 1 ≤ n ∧ n ≤ 900900 ∧ ∀ H', Same H H' → Q (.bl true) H'
theorem ok__law_alone (T : Txt K mg) : FnOk P w K mg base CX0 6 (He.ga K "_law_alone") (fd__law_alone T) ["_law_n"] sp__law_alone := by
  refine (F__law_alone T).ok sc__law_alone (fun vs H Q E h => ?_) (fun cdv A outer s H vs Q E hr h => ⟨_, PSs.nox (pss_cons (ps_set (i := 1) sc__law_alone.nd rfl (Or.inl rfl) (pe_call (ok_divisors T) (hr.mono (by decide)) rfl (g_divisors T) (kp_divisors T) (B_divisors T) .nil pass0 (pa_cons (pe_call (ok_parted T) (hr.mono (by decide)) rfl (g_parted T) (kp_parted T) (B_parted T) .nil passL (pa_cons (pv 0) pa_nil)) pa_nil)))
      (pss_cons (ps_if (PW.pt (pw_or (pt_cmpR (op_neD hr.units) (pe_lc (own := [("_law_one", 4)]) (tt := tYes) rfl sc__law_alone.nd (pi_list (pv 1)) (blkOk_by (N := N__law_alone) (sc := defScope s__law_alone) (by decide +kernel)) (fun _ _ _ _ _ => (pg_name (i := 4) sc__law_alone.nd rfl (Or.inl rfl))) (fun _ _ _ _ _ => pts_nil) (fun _ _ _ _ _ => (pe_op op_fdivW (pv 0) (pv 4)))) (pe_revL (pv 1)) (nomark _)) (pw_or1 (pt_cmpR op_ne (pe_call (ok_whole_of T) (hr.mono (by decide)) rfl (g_whole_of T) (kp_whole_of T) (B_whole_of T) .nil pass0 (pa_cons (pe_call (ok_parted T) (hr.mono (by decide)) rfl (g_parted T) (kp_parted T) (B_parted T) .nil passL (pa_cons (pv 0) pa_nil)) pa_nil)) (pv 0) (nomark _))))) (pss_one (ps_ret pe_bl)) pss_nil)
      (pss_cons ((ps_setLc (i := 2) (own := [("_law_q", 5), ("_law_many", 6)]) (tt := tYes) (g := gTup K 2 (gCons (gName 5) (gCons (gName 6) gNil))) rfl sc__law_alone.nd rfl rfl (sw_true rfl rfl rfl rfl) (pi_list (pe_call (ok_parted T) (hr.mono (by decide)) rfl (g_parted T) (kp_parted T) (B_parted T) .nil passL (pa_cons (pv 0) pa_nil))) (blkOk_by (N := N__law_alone) (sc := defScope s__law_alone) (by decide +kernel)) (fun _ _ _ _ _ => (pg_tup rfl (pgs_cons (pg_name (i := 5) sc__law_alone.nd rfl (Or.inl rfl)) (pgs_cons (pg_name (i := 6) sc__law_alone.nd rfl (Or.inl rfl)) pgs_nil)))) (fun _ _ _ _ _ => pts_nil) (fun _ _ _ _ _ => (pv 5))))
      (pss_cons (ps_if (pt_cmpR (op_neD hr.units) (pe_lc (own := [("_law_q", 5)]) rfl sc__law_alone.nd (pi_list (pe_call (ok_primes_to T) (hr.mono (by decide)) rfl (g_primes_to T) (kp_primes_to T) (B_primes_to T) .nil passL (pa_cons (pe_callB (callMin2 rfl) rfl (T.fr (T.c.fact 23 rfl)) boot_min (pa_cons (pv 0) (pa_cons pe_int pa_nil))) pa_nil))) (blkOk_by (N := N__law_alone) (sc := defScope s__law_alone) (by decide +kernel)) (fun _ _ _ _ _ => (pg_name (i := 5) sc__law_alone.nd rfl (Or.inl rfl))) (fun _ _ _ _ _ => (pts_one (pt_cmpR op_eq (pe_op op_mod (pv 0) (pv 5)) pe_int (nomark _)))) (fun _ _ _ _ _ => (pv 5))) (pe_lc (own := [("_law_q", 5)]) rfl sc__law_alone.nd (pi_list (pv 2)) (blkOk_by (N := N__law_alone) (sc := defScope s__law_alone) (by decide +kernel)) (fun _ _ _ _ _ => (pg_name (i := 5) sc__law_alone.nd rfl (Or.inl rfl))) (fun _ _ _ _ _ => (pts_one (pt_cmpR op_le (pv 5) pe_int (nomark _)))) (fun _ _ _ _ _ => (pv 5))) (nomark _)) (pss_one (ps_ret pe_bl)) pss_nil)
      (pss_cons (ps_set (i := 3) sc__law_alone.nd rfl (Or.inl rfl) pe_int)
      (pss_cons (ps_for PassesOwn.never rfl (pi_list (pv 1)) (pg_name (i := 4) sc__law_alone.nd rfl (Or.inl rfl)) (pss_cons (ps_set (i := 3) sc__law_alone.nd rfl (Or.inl rfl) (pe_op op_add (pv 3) (pe_call (ok_coprimes T) (hr.mono (by decide)) rfl (g_coprimes T) (kp_coprimes T) (B_coprimes T) .nil pass0 (pa_cons (pe_call (ok_parted T) (hr.mono (by decide)) rfl (g_parted T) (kp_parted T) (B_parted T) .nil passL (pa_cons (pv 4) pa_nil)) pa_nil))))
      (pss_one (ps_if (PW.pt (pw_and (pt_cmpR op_gt (pv 4) pe_int (nomark _)) (pw_and1 (pt_cmpR op_notIn_seq (pe_call (ok_least_divisor T) (hr.mono (by decide)) rfl (g_least_divisor T) (kp_least_divisor T) (B_least_divisor T) .nil passL (pa_cons (pv 4) pa_nil)) (pv 2) rfl)))) (pss_one (ps_ret pe_bl)) pss_nil))))
      (pss_one (ps_ret (pe_and (pe_cmpR op_eq (pv 3) (pv 0) (nomark _)) (pe_one (pe_cmpR (op_eqD hr.units) (pe_lc (own := [("_law_q", 5)]) (tt := tYes) rfl sc__law_alone.nd (pi_list (pv 2)) (blkOk_by (N := N__law_alone) (sc := defScope s__law_alone) (by decide +kernel)) (fun _ _ _ _ _ => (pg_name (i := 5) sc__law_alone.nd rfl (Or.inl rfl))) (fun _ _ _ _ _ => pts_nil) (fun _ _ _ _ _ => (pe_call (ok_coprimes T) (hr.mono (by decide)) rfl (g_coprimes T) (kp_coprimes T) (B_coprimes T) .nil pass0 (pa_cons (pe_call (ok_parted T) (hr.mono (by decide)) rfl (g_parted T) (kp_parted T) (B_parted T) .nil passL (pa_cons (pv 5) pa_nil)) pa_nil)))) (pe_lc (own := [("_law_q", 5)]) (tt := tYes) rfl sc__law_alone.nd (pi_list (pv 2)) (blkOk_by (N := N__law_alone) (sc := defScope s__law_alone) (by decide +kernel)) (fun _ _ _ _ _ => (pg_name (i := 5) sc__law_alone.nd rfl (Or.inl rfl))) (fun _ _ _ _ _ => pts_nil) (fun _ _ _ _ _ => (pe_op op_sub (pv 5) pe_int))) (nomark _)))))))))))), ?_⟩)
  · obtain ⟨n, rfl, _⟩ := h; rfl
  · obtain ⟨n, rfl, n1, n9, k⟩ := h
    walk_at "g"
    refine ⟨n, rfl, fun z => by omega, fun z => by omega, fun m em _ _ F H1 xs l hl nF s1 eF ty => ?_⟩
    obtain rfl : m = n := by omega
    have hll : l.length ≤ 200 := by
      obtain ⟨d, hd⟩ := M.Fac.of hl (by omega)
      exact fac_len hd (by omega)
    have hfb : ∀ x ∈ l, 0 < x.1 ∧ x.2 < 2 ^ 60 := fun x hx => ⟨(hl.primes x hx).1.pos, fac_many hl (by omega) hx (by omega)⟩
    have hml := M.many_line hl (by omega)
    have hdv := M.divs_all hl
    walk_at "g"
    refine ⟨F, xs, l, m, rfl, eF, ty, hl, by omega, by omega, fun G H2 ds pm srt nG s2 eG => ?_⟩
    have hdl : ds.length = M.manyL l := by rw [pm.length_eq, M.divL_len]; simp
    walk_at "g"
    refine s_lc ?_
    walk_at "g"
    refine ⟨⟨_, SqL.of eG⟩, fun C hC => ?_⟩
    refine lc_list (fun i H' => Same H2 H' ∧ H' C = some (.lst (nv ((ds.take i).map fun d => m / d)))) ⟨same_upd hC, upd_same⟩ (fun i H' _ I => SqL.of (I.1 _ _ eG)) ?_ ?_
    · rintro i x H3 hi ⟨s3, hC3⟩
      obtain ⟨d, hd, rfl⟩ := nv_get hi
      have hil := (List.getElem?_eq_some_iff.mp hd).1
      have hdd := (hdv.mem d).mp (pm.mem_iff.mp (List.mem_of_getElem? hd))
      have d0 := Nat.pos_of_dvd_of_pos hdd (by omega)
      have dle := Nat.le_of_dvd (by omega) hdd
      walk_at "g"
      refine ⟨rfl, ?_⟩
      walk_at "g"
      refine s_i (divW (by omega) (by omega)) ?_
      rw [← Int.natCast_ediv]
      refine ⟨_, hC3, line2 (by rw [nv_len, List.length_map, List.length_take]; omega), same_upd' s3 hC, ?_⟩
      rw [upd_same, take_more hd, List.map_append, nv_app]; rfl
    rintro H3 ⟨s3, hC3⟩
    rw [nv_len, List.take_length, divs_rev (by omega) hl pm srt] at hC3
    have eG3 := s3 _ _ eG
    refine s_revL ?_
    walk_at "g"
    refine ⟨G, _, rfl, SqL.of eG3, fun R nR => ?_⟩
    rw [nv_rev]
    have S4 : Same H3 (upd H3 R (.lst (nv ds.reverse))) := same_upd nR
    have eR : upd H3 R (.lst (nv ds.reverse)) R = some (.lst (nv ds.reverse)) := upd_same
    generalize upd H3 R (.lst (nv ds.reverse)) = H4 at S4 eR ⊢
    refine s_neD _ _ (dp_nv (S4 _ _ hC3)) (dp_nv eR) (sh_nv _) (sh_nv _) ?_
    rw [eqv_shaped (sh_nv _)]
    walk_at "g"
    refine ⟨m, rfl, fun z => by omega, fun z => by omega, fun m' em' _ _ F5 H5 xs5 l5 hl5 nF5 s5 eF5 ty5 => ?_⟩
    obtain rfl : m' = m := by omega
    obtain rfl := M.fac_unique hl5 hl
    walk_at "g"
    refine ⟨F5, xs5, l5, rfl, eF5, ty5, hfb, by rw [hl.prod]; omega, ?_⟩
    rw [hl.prod]
    walk_at "g"
    refine s_lc ?_
    walk_at "g"
    refine ⟨m', rfl, fun z => by omega, fun z => by omega, fun m6 em6 _ _ F6 H6 xs6 l6 hl6 nF6 s6 eF6 ty6 => ?_⟩
    obtain rfl : m6 = m' := by omega
    obtain rfl := M.fac_unique hl6 hl
    walk_at "g"
    refine ⟨⟨_, SqL.of eF6⟩, fun P hP => ?_⟩
    refine lc_list (fun i H' => Same H6 H' ∧ H' P = some (.lst (nv ((l6.take i).map (·.1))))) ⟨same_upd hP, upd_same⟩ (fun i H' _ I => SqL.of (I.1 _ _ eF6)) ?_ ?_
    · rintro i x H7 hi ⟨s7, hP7⟩
      obtain ⟨y, hy, t, rfl, et⟩ := pget ty6 hi
      rw [List.getElem?_map] at hy
      obtain ⟨⟨q, b⟩, hab, rfl⟩ := Option.map_eq_some_iff.mp hy
      have et' : H6 t = some (.tup [.int (q : Nat), .int (b : Nat)]) := et
      have hil := (List.getElem?_eq_some_iff.mp hab).1
      refine s_gtup (SqT.of (s7 _ _ et')) rfl ?_
      walk_at "g"
      refine ⟨rfl, ?_⟩
      walk_at "g"
      refine ⟨_, hP7, line2 (by rw [nv_len, List.length_map, List.length_take]; omega), same_upd' s7 hP, ?_⟩
      rw [upd_same, take_more hab, List.map_append, nv_app]; rfl
    rintro H7 ⟨s7, hP7⟩
    rw [show xs6.length = l6.length by rw [ty6.length, List.length_map], List.take_length] at hP7
    have S47 : Same H4 H7 := s5.trans (s6.trans s7)
    have eG7 := (S4.trans S47) _ _ eG3
    have ePl : (l6.map (·.1)).length ≤ 200 := by rw [List.length_map]; exact hll
    obtain ⟨kk, hkk⟩ : ∃ kk : Nat, kk = if 2000 < m6 then 2000 else m6 := ⟨_, rfl⟩
    have hki : (if (2000 : Int) < (m6 : Int) then (2000 : Int) else (m6 : Int)) = (kk : Int) := by split at hkk <;> split <;> omega
    have hkb : kk ≤ 2000 := by split at hkk <;> omega
    walk_at "g"
    refine s_lc ?_
    walk_at "g"
    rw [hki]
    refine ⟨(kk : Int), rfl, fun z => by omega, fun _ => ⟨by omega, fun F8 H8 nF8 s8 eF8 => ?_⟩⟩
    rw [show ((kk : Int) + 1).toNat = kk + 1 by omega] at eF8
    have hprl := M.prs_len (kk + 1)
    walk_at "g"
    refine ⟨⟨_, SqL.of eF8⟩, fun C9 hC9 => ?_⟩
    refine lc_list (fun i H' => Same H8 H' ∧ H' C9 = some (.lst (nv (((M.prs (kk + 1)).take i).filter fun q => decide (m6 % q = 0))))) ⟨same_upd hC9, upd_same⟩ (fun i H' _ I => SqL.of (I.1 _ _ eF8)) ?_ ?_
    · rintro i x H9 hi ⟨s9, hD9⟩
      obtain ⟨q, hq, rfl⟩ := nv_get hi
      have hq2 : 2 ≤ q := by
        have := List.mem_of_getElem? hq
        unfold M.prs at this
        exact (M.pB_iff.mp (List.mem_filter.mp this).2).1
      have hfl : (((M.prs (kk + 1)).take i).filter fun q => decide (m6 % q = 0)).length ≤ kk + 1 := by
        refine Nat.le_trans (List.length_filter_le _ _) ?_
        rw [List.length_take]; omega
      walk_at "g"
      refine ⟨rfl, ?_⟩
      walk_at "g"
      refine s_i (show (0 : Int) < (q : Int) by omega) ?_
      rw [← Int.natCast_emod]
      walk_at "g"
      refine s_ite (fun c => ?_) (fun c => ?_)
      · have c' : m6 % q = 0 := by omega
        walk_at "g"
        refine ⟨_, hD9, line2 (by rw [nv_len]; omega), same_upd' s9 hC9, ?_⟩
        rw [upd_same, take_more hq, List.filter_append, List.filter_cons_of_pos (p := fun q => decide (m6 % q = 0)) (decide_eq_true c'), nv_app]; rfl
      · have c' : ¬ m6 % q = 0 := by omega
        refine ⟨s9, ?_⟩
        rw [take_more hq, List.filter_append, List.filter_cons_of_neg (p := fun q => decide (m6 % q = 0)) (by simpa using c'), List.filter_nil, List.append_nil]
        exact hD9
    rintro H9 ⟨s9, hD9⟩
    rw [nv_len, List.take_length, primes_cut (by omega) hkk hl] at hD9
    have hP9 := (s8.trans s9) _ _ hP7
    refine s_lc ?_
    walk_at "g"
    refine ⟨⟨_, SqL.of hP9⟩, fun C10 hC10 => ?_⟩
    refine lc_list (fun i H' => Same H9 H' ∧ H' C10 = some (.lst (nv (((l6.map (·.1)).take i).filter fun q => decide (q ≤ 2000))))) ⟨same_upd hC10, upd_same⟩ (fun i H' _ I => SqL.of (I.1 _ _ hP9)) ?_ ?_
    · rintro i x H10 hi ⟨s10, hD10⟩
      obtain ⟨q, hq, rfl⟩ := nv_get hi
      have hfl : (((l6.map (·.1)).take i).filter fun q => decide (q ≤ 2000)).length ≤ 200 := by
        refine Nat.le_trans (List.length_filter_le _ _) ?_
        rw [List.length_take]; omega
      walk_at "g"
      refine ⟨rfl, ?_⟩
      walk_at "g"
      refine s_ite (fun c => ?_) (fun c => ?_)
      · have c' : q ≤ 2000 := by omega
        walk_at "g"
        refine ⟨_, hD10, line2 (by rw [nv_len]; omega), same_upd' s10 hC10, ?_⟩
        rw [upd_same, take_more hq, List.filter_append, List.filter_cons_of_pos (p := fun q => decide (q ≤ 2000)) (decide_eq_true c'), nv_app]; rfl
      · have c' : ¬ q ≤ 2000 := by omega
        refine ⟨s10, ?_⟩
        rw [take_more hq, List.filter_append, List.filter_cons_of_neg (p := fun q => decide (q ≤ 2000)) (by simpa using c'), List.filter_nil, List.append_nil]
        exact hD10
    rintro H10 ⟨s10, hD10⟩
    rw [nv_len, List.take_length] at hD10
    refine s_neD _ _ (dp_nv (s10 _ _ hD9)) (dp_nv hD10) (sh_nv _) (sh_nv _) ?_
    rw [eqv_shaped (sh_nv _)]
    walk_at "g"
    have S10 := s8.trans (s9.trans s10)
    have eG10 := S10 _ _ eG7
    have hP10 := S10 _ _ hP7
    refine ⟨⟨_, SqL.of eG10⟩, ?_⟩
    have hsum : (ds.map (M.phiV l6)).sum = m6 := by rw [(pm.map (M.phiV l6)).sum_nat, M.phi_sum hl]
    refine for_list (fun i σ H' => Same H10 H' ∧ ∃ v4 v5 v6 : Option V, σ = [some (.int m6), some (.ref G), some (.ref P), some (.int ((((ds.take i).map (M.phiV l6)).sum : Nat) : Int)), v4, v5, v6]) ⟨Same.refl _, _, _, _, rfl⟩ (fun i σ H' _ I => SqL.of (I.1 _ _ eG10)) ?_ ?_
    · rintro i x σ H11 hi ⟨s11, v4, v5, v6, rfl⟩
      obtain ⟨d, hd, rfl⟩ := nv_get hi
      have hdd := (hdv.mem d).mp (pm.mem_iff.mp (List.mem_of_getElem? hd))
      have d0 := Nat.pos_of_dvd_of_pos hdd (by omega)
      have dle := Nat.le_of_dvd (by omega) hdd
      have hst := sum_take_le (f := M.phiV l6) (ds := ds) i
      have hst1 := sum_take_le (f := M.phiV l6) (ds := ds) (i + 1)
      have es : ((ds.take (i + 1)).map (M.phiV l6)).sum = ((ds.take i).map (M.phiV l6)).sum + M.phiV l6 d := by rw [take_more hd, List.map_append, List.sum_append]; simp
      walk_at "g"
      refine ⟨d, rfl, fun z => by omega, fun z => by omega, fun d2 ed2 _ _ F12 H12 xs12 l12 hl12 nF12 s12 eF12 ty12 => ?_⟩
      obtain rfl : d2 = d := by omega
      walk_at "g"
      refine ⟨F12, xs12, l12, d2, rfl, eF12, ty12, hl12, d0, by omega, ?_⟩
      rw [M.fac_unique hl12 (M.within_fac hl d0 hdd), M.within_phi]
      walk_at "g"
      have ec : ((((ds.take i).map (M.phiV l6)).sum : Nat) : Int) + ((M.phiV l6 d2 : Nat) : Int) = ((((ds.take (i + 1)).map (M.phiV l6)).sum : Nat) : Int) := by rw [es]; push_cast; rfl
      rw [ec]
      refine s_ite (fun c => ?_) (fun c => ?_)
      · walk_at "g"
        refine ⟨d2, rfl, fun z => by omega, fun z => by omega, fun d3 ed3 _ _ r hr => ?_⟩
        obtain rfl : d3 = d2 := by omega
        walk_at "g"
        refine ⟨P, _, rfl, .inl (SqL.of ((s11.trans s12) _ _ hP10)), rfl, nv_flat _, ?_⟩
        have hin : r ∈ l6.map (·.1) := by
          obtain ⟨b, hb⟩ := M.prime_in' hr.prime (fun x hx => (hl.primes x hx).1) (by rw [hl.prod]; exact Nat.dvd_trans hr.dvd hdd)
          exact List.mem_map.mpr ⟨_, hb, rfl⟩
        rw [nv_in, decide_eq_true hin]
        simp only [if_true, Bool.not_true]
        walk_at "g"
        exact ⟨s11.trans s12, _, _, _, rfl⟩
      · walk_at "g"
        exact ⟨s11.trans s12, _, _, _, rfl⟩
    · rintro σ H11 ⟨s11, v4, v5, v6, rfl⟩
      rw [nv_len, List.take_length, hsum]
      have hP11 := s11 _ _ hP10
      walk_at "g"
      refine s_lc ?_
      walk_at "g"
      refine ⟨⟨_, SqL.of hP11⟩, fun C12 hC12 => ?_⟩
      refine lc_list (fun i H' => Same H11 H' ∧ H' C12 = some (.lst (nv (((l6.map (·.1)).take i).map fun q => q - 1)))) ⟨same_upd hC12, upd_same⟩ (fun i H' _ I => SqL.of (I.1 _ _ hP11)) ?_ ?_
      · rintro i x H12 hi ⟨s12, hD12⟩
        obtain ⟨q, hq, rfl⟩ := nv_get hi
        have hqm := List.mem_of_getElem? hq
        obtain ⟨y, hy, hyq⟩ := List.mem_map.mp hqm
        have hqp : M.Prime q := by rw [← hyq]; exact (hl.primes y hy).1
        have hqn : q ≤ m6 := by rw [← hyq]; exact Nat.le_of_dvd (by omega) (M.fac_dvd hl hy)
        have hq2 := hqp.1
        have hil := (List.getElem?_eq_some_iff.mp hq).1
        walk_at "g"
        refine ⟨rfl, ?_⟩
        walk_at "g"
        refine ⟨q, rfl, fun z => by omega, fun z => by omega, fun q2 eq2 _ _ F13 H13 xs13 l13 hl13 nF13 s13 eF13 ty13 => ?_⟩
        obtain rfl : q2 = q := by omega
        walk_at "g"
        refine ⟨F13, xs13, l13, q2, rfl, eF13, ty13, hl13, by omega, by omega, ?_⟩
        rw [M.fac_unique hl13 (M.fac_one_prime hqp), M.phi_prime]
        refine ⟨_, s13 _ _ hD12, line2 (by rw [nv_len, List.length_map, List.length_take]; omega), same_upd' (s12.trans s13) hC12, ?_⟩
        rw [upd_same, take_more hq, List.map_append, nv_app]; rfl
      rintro H12 ⟨s12, hD12⟩
      rw [nv_len, List.take_length] at hD12
      have hP12 := s12 _ _ hP11
      refine s_lc ?_
      walk_at "g"
      refine ⟨⟨_, SqL.of hP12⟩, fun C13 hC13 => ?_⟩
      refine lc_list (fun i H' => Same H12 H' ∧ H' C13 = some (.lst (nv (((l6.map (·.1)).take i).map fun q => q - 1)))) ⟨same_upd hC13, upd_same⟩ (fun i H' _ I => SqL.of (I.1 _ _ hP12)) ?_ ?_
      · rintro i x H13 hi ⟨s13, hD13⟩
        obtain ⟨q, hq, rfl⟩ := nv_get hi
        have hqm := List.mem_of_getElem? hq
        obtain ⟨y, hy, hyq⟩ := List.mem_map.mp hqm
        have hqp : M.Prime q := by rw [← hyq]; exact (hl.primes y hy).1
        have hq2 := hqp.1
        walk_at "g"
        refine ⟨rfl, ?_⟩
        walk_at "g"
        rw [show (q : Int) - 1 = ((q - 1 : Nat) : Int) by omega]
        refine ⟨_, hD13, line2 (by rw [nv_len, List.length_map, List.length_take]; omega), same_upd' s13 hC13, ?_⟩
        rw [upd_same, take_more hq, List.map_append, nv_app]; rfl
      rintro H13 ⟨s13, hD13⟩
      rw [nv_len, List.take_length] at hD13
      refine s_eqD _ _ (dp_nv (s13 _ _ hD12)) (dp_nv hD13) (sh_nv _) (sh_nv _) ?_
      rw [eqv_shaped (sh_nv _)]
      exact k _ (s1.trans (s2.trans (s3.trans (S4.trans (S47.trans (S10.trans (s11.trans (s12.trans s13))))))))

/-- _law_together(n, m): the truth -/
def sp__law_together : Sp := fun vs H Q _ => ∃ n m : Nat, vs = [.int n, .int m] ∧ 1 ≤ n ∧ 1 ≤ m ∧ n ≤ 900900 ∧ m ≤ 900900 ∧ n * m ≤ 100000000 ∧ ∀ H', Same H H' → Q (.bl true) H'
theorem ok__law_together (T : Txt K mg) : FnOk P w K mg base CX0 6 (He.ga K "_law_together") (fd__law_together T) ["_law_n", "_law_m"] sp__law_together := by
  refine (F__law_together T).ok sc__law_together (fun vs H Q E h => ?_) (fun cdv A outer s H vs Q E hr h => ⟨_, PSs.nox (pss_cons (ps_if (pt_cmpR op_gt (pe_ix ix_seq (pe_call (ok_divisor T) (hr.mono (by decide)) rfl (g_divisor T) (kp_divisor T) (B_divisor T) .nil pass0 (pa_cons (pv 0) (pa_cons (pv 1) pa_nil))) pe_int (fun _ _ => rfl)) pe_int (nomark _)) (pss_one (ps_ret pe_bl)) pss_nil)
      (pss_cons (ps_if (pt_cmpR op_ne (pe_call (ok_coprimes T) (hr.mono (by decide)) rfl (g_coprimes T) (kp_coprimes T) (B_coprimes T) .nil pass0 (pa_cons (pe_call (ok_parted T) (hr.mono (by decide)) rfl (g_parted T) (kp_parted T) (B_parted T) .nil passL (pa_cons (pe_op op_mulW (pv 0) (pv 1)) pa_nil)) pa_nil)) (pe_op op_mulW (pe_call (ok_coprimes T) (hr.mono (by decide)) rfl (g_coprimes T) (kp_coprimes T) (B_coprimes T) .nil pass0 (pa_cons (pe_call (ok_parted T) (hr.mono (by decide)) rfl (g_parted T) (kp_parted T) (B_parted T) .nil passL (pa_cons (pv 0) pa_nil)) pa_nil)) (pe_call (ok_coprimes T) (hr.mono (by decide)) rfl (g_coprimes T) (kp_coprimes T) (B_coprimes T) .nil pass0 (pa_cons (pe_call (ok_parted T) (hr.mono (by decide)) rfl (g_parted T) (kp_parted T) (B_parted T) .nil passL (pa_cons (pv 1) pa_nil)) pa_nil))) (nomark _)) (pss_one (ps_ret pe_bl)) pss_nil)
      (pss_cons (ps_set (i := 2) sc__law_together.nd rfl (Or.inl rfl) (pe_call (ok_divisors T) (hr.mono (by decide)) rfl (g_divisors T) (kp_divisors T) (B_divisors T) .nil pass0 (pa_cons (pe_call (ok_parted T) (hr.mono (by decide)) rfl (g_parted T) (kp_parted T) (B_parted T) .nil passL (pa_cons (pv 1) pa_nil)) pa_nil)))
      (pss_cons (ps_set (i := 3) sc__law_together.nd rfl (Or.inl rfl) (pe_lst pa_nil))
      (pss_cons (ps_for PassesOwn.never rfl (pi_list (pe_call (ok_divisors T) (hr.mono (by decide)) rfl (g_divisors T) (kp_divisors T) (B_divisors T) .nil pass0 (pa_cons (pe_call (ok_parted T) (hr.mono (by decide)) rfl (g_parted T) (kp_parted T) (B_parted T) .nil passL (pa_cons (pv 0) pa_nil)) pa_nil))) (pg_name (i := 4) sc__law_together.nd rfl (Or.inr rfl)) (pss_one (ps_expr (pe_bm PySem.F.plainAttrs_list PySem.F.slot_list_extend PySem.F.type_list_extend mt_extend (pv 3) (pa_cons (pe_lc (own := [("_law_other", 5)]) (tt := tYes) rfl sc__law_together.nd (pi_list (pv 2)) (blkOk_by (N := N__law_together) (sc := defScope s__law_together) (by decide +kernel)) (fun _ _ _ _ _ => (pg_name (i := 5) sc__law_together.nd rfl (Or.inl rfl))) (fun _ _ _ _ _ => pts_nil) (fun _ _ _ _ _ => (pe_op op_mulW (pv 4) (pv 5)))) pa_nil)))))
      (pss_one (ps_ret (pe_cmpR (op_eqD hr.units) (pe_callB cr_sortedI rfl (T.fr (T.c.fact 20 rfl)) boot_sorted (pa_cons (pv 3) pa_nil)) (pe_call (ok_divisors T) (hr.mono (by decide)) rfl (g_divisors T) (kp_divisors T) (B_divisors T) .nil pass0 (pa_cons (pe_call (ok_parted T) (hr.mono (by decide)) rfl (g_parted T) (kp_parted T) (B_parted T) .nil passL (pa_cons (pe_op op_mulW (pv 0) (pv 1)) pa_nil)) pa_nil)) (nomark _))))))))), ?_⟩)
  · obtain ⟨n, m, rfl, _⟩ := h; rfl
  · obtain ⟨n, m, rfl, n1, m1, n9, m9, nm9, k⟩ := h
    have nm1 : 1 ≤ n * m := Nat.mul_pos n1 m1
    have enm : (n : Int) * (m : Int) = ((n * m : Nat) : Int) := by push_cast; rfl
    walk_at "g"
    refine ⟨n, m, rfl, by omega, by omega, fun g u' v' T hdv2 nT => ?_⟩
    have S1 : Same H (upd H T (.tup [.int g, .int u', .int v'])) := same_upd nT
    have e1 : upd H T (.tup [.int g, .int u', .int v']) T = some (.tup [.int g, .int u', .int v']) := upd_same
    generalize upd H T (.tup [.int g, .int u', .int v']) = H1 at S1 e1 ⊢
    have hg := hdv2.hg
    rw [show Int.gcd (n : Int) (m : Int) = Nat.gcd n m from rfl] at hg
    have hg0 : 0 < Nat.gcd n m := Nat.gcd_pos_of_pos_left _ n1
    walk_at "g"
    refine s_ixT (SqT.of e1) (atI0 0 rfl rfl) ?_
    walk_at "g"
    refine s_ite (fun c => ?_) (fun c => ?_)
    · walk_at "g"
      exact k _ S1
    have hg1 : Nat.gcd n m = 1 := by omega
    walk_at "g"
    try refine s_i (mulW (by omega) (by omega)) ?_
    rw [enm]
    walk_at "g"
    refine ⟨n * m, rfl, fun z => by omega, fun z => by omega, fun c2 ec2 _ _ F2 H2 xs2 l2 hl2 nF2 s2 eF2 ty2 => ?_⟩
    obtain rfl : c2 = n * m := by omega
    walk_at "g"
    refine ⟨F2, xs2, l2, _, rfl, eF2, ty2, hl2, by omega, by omega, ?_⟩
    walk_at "g"
    refine ⟨n, rfl, fun z => by omega, fun z => by omega, fun c3 ec3 _ _ F3 H3 xs3 l3 hl3 nF3 s3 eF3 ty3 => ?_⟩
    obtain rfl : c3 = n := by omega
    walk_at "g"
    refine ⟨F3, xs3, l3, _, rfl, eF3, ty3, hl3, by omega, by omega, ?_⟩
    walk_at "g"
    refine ⟨m, rfl, fun z => by omega, fun z => by omega, fun c4 ec4 _ _ F4 H4 xs4 l4 hl4 nF4 s4 eF4 ty4 => ?_⟩
    obtain rfl : c4 = m := by omega
    walk_at "g"
    refine ⟨F4, xs4, l4, _, rfl, eF4, ty4, hl4, by omega, by omega, ?_⟩
    have hphi := M.phi_mul n1 m1 hg1 hl3 hl4 hl2
    have hb3 : M.phiL l3 ≤ c3 := by
      rw [← hl3.prod]; exact phiL_le fun x hx => ⟨(hl3.primes x hx).1.1, (hl3.primes x hx).2⟩
    have hb4 : M.phiL l4 ≤ c4 := by
      rw [← hl4.prod]; exact phiL_le fun x hx => ⟨(hl4.primes x hx).1.1, (hl4.primes x hx).2⟩
    walk_at "g"
    try refine s_i (mulW (by omega) (by omega)) ?_
    walk_at "g"
    refine s_itnP (by rw [hphi]; push_cast; rfl) ?_
    walk_at "g"
    refine ⟨c4, rfl, fun z => by omega, fun z => by omega, fun c5 ec5 _ _ F5 H5 xs5 l5 hl5 nF5 s5 eF5 ty5 => ?_⟩
    obtain rfl : c5 = c4 := by omega
    walk_at "g"
    refine ⟨F5, xs5, l5, _, rfl, eF5, ty5, hl5, by omega, by omega, fun G5 H6 es pm5 srt5 nG5 s6 eG5 => ?_⟩
    have hde := M.divs_all hl5
    walk_at "g"
    refine mkL (by simp) fun W H7 nW eW s7 => ?_
    walk_at "g"
    refine ⟨c3, rfl, fun z => by omega, fun z => by omega, fun c8 ec8 _ _ F8 H8 xs8 l8 hl8 nF8 s8 eF8 ty8 => ?_⟩
    obtain rfl : c8 = c3 := by omega
    walk_at "g"
    refine ⟨F8, xs8, l8, _, rfl, eF8, ty8, hl8, by omega, by omega, fun G9 H9 ds pm9 srt9 nG9 s9 eG9 => ?_⟩
    have hdd := M.divs_all hl8
    have hDds : M.Divs c8 ds := ⟨fun d => pm9.mem_iff.trans (hdd.mem d), srt9.imp fun h => by omega⟩
    have hDes : M.Divs c5 es := ⟨fun d => pm5.mem_iff.trans (hde.mem d), srt5.imp fun h => by omega⟩
    have hpp := M.prods_perm n1 m1 hg1 hDds hDes (M.divs_all hl2)
    have hpl : ds.length * es.length ≤ 2000000 := by
      rw [← M.prods_len, hpp.length_eq, M.divL_len]
      have := M.many_line hl2 (by omega)
      simpa using this
    have eG5' := (s7.trans (s8.trans s9)) _ _ eG5
    have eW9 := (s8.trans s9) _ _ eW
    have nW6 : H6 W = none := nW
    walk_at "g"
    refine ⟨⟨_, SqL.of eG9⟩, ?_⟩
    refine for_list (fun i σ H' => Same H6 H' ∧ H' G9 = some (.lst (nv ds)) ∧ H' G5 = some (.lst (nv es)) ∧ H' W = some (.lst (nv (M.prods (ds.take i) es))) ∧ ∃ v4 v5 : Option V, σ = [some (.int (c8 : Nat)), some (.int (c5 : Nat)), some (.ref G5), some (.ref W), v4, v5]) ⟨s7.trans (s8.trans s9), eG9, eG5', eW9, _, _, rfl⟩ (fun i σ H' _ I => SqL.of I.2.1) ?_ ?_
    · rintro i x σ H10 hi ⟨s10, eg9, eg5, ew, v4, v5, rfl⟩
      obtain ⟨a, ha, rfl⟩ := nv_get hi
      have hil := (List.getElem?_eq_some_iff.mp ha).1
      have hadv := (hDds.mem a).mp (List.mem_of_getElem? ha)
      have hale := Nat.le_of_dvd n1 hadv
      walk_at "g"
      refine ⟨s_tyL ew, ?_⟩
      walk_at "g"
      refine s_lc ?_
      walk_at "g"
      refine ⟨⟨_, SqL.of eg5⟩, fun C hC => ?_⟩
      refine lc_list (fun j H' => Same H10 H' ∧ H' C = some (.lst (nv ((es.take j).map fun b => a * b)))) ⟨same_upd hC, upd_same⟩ (fun j H' _ I => SqL.of (I.1 _ _ eg5)) ?_ ?_
      · rintro j x H11 hj ⟨s11, hC11⟩
        obtain ⟨b, hb, rfl⟩ := nv_get hj
        have hjl := (List.getElem?_eq_some_iff.mp hb).1
        have hble := Nat.le_of_dvd m1 ((hDes.mem b).mp (List.mem_of_getElem? hb))
        have hel : es.length ≤ 2000000 := by
          have := Nat.le_mul_of_pos_left es.length (show 0 < ds.length by omega)
          omega
        walk_at "g"
        refine ⟨rfl, ?_⟩
        walk_at "g"
        try refine s_i (mulW (by omega) (by omega)) ?_
        rw [show (a : Int) * (b : Int) = ((a * b : Nat) : Int) by push_cast; rfl]
        refine ⟨_, hC11, line2 (by rw [nv_len, List.length_map, List.length_take]; omega), same_upd' s11 hC, ?_⟩
        rw [upd_same, take_more hb, List.map_append, nv_app]; rfl
      rintro H11 ⟨s11, hC11⟩
      rw [nv_len, List.take_length] at hC11
      have hsz : (M.prods (ds.take i) es).length + es.length ≤ 2000000 := by
        rw [M.prods_len, List.length_take, Nat.min_eq_left (by omega)]
        have h1 : (i + 1) * es.length ≤ ds.length * es.length := Nat.mul_le_mul_right _ (by omega)
        rw [Nat.succ_mul] at h1
        omega
      refine ⟨W, C, _, _, rfl, rfl, s11 _ _ ew, hC11, ?_, ?_⟩
      · rw [nv_len, nv_len, List.length_map]
        exact Nat.le_of_lt (line2 hsz)
      have hG9W : G9 ≠ W := fun z => by rw [z, eW9] at eG9; have := (s8 _ _ eW); rw [z] at nG9; rw [this] at nG9; cases nG9
      have hG5W : G5 ≠ W := fun z => by rw [← z, eG5] at nW; cases nW
      walk_at "g"
      refine ⟨same_upd' (s10.trans s11) nW6, by rw [upd_ne hG9W]; exact s11 _ _ eg9, by rw [upd_ne hG5W]; exact s11 _ _ eg5, ?_, _, _, rfl⟩
      rw [upd_same, take_more ha]
      unfold M.prods
      rw [List.flatMap_append, nv_app]
      simp [nv]
    · rintro σ H10 ⟨s10, eg9, eg5, ew, v4, v5, rfl⟩
      rw [nv_len, List.take_length] at ew
      walk_at "g"
      refine ⟨W, _, rfl, SqL.of ew, fun ys C ypm ysrt nC => ?_⟩
      obtain ⟨fs, rfl, pmf, srtf⟩ := ints_back ypm ysrt (M.prods_nd n1 m1 hg1 (fun d h => (hDds.mem d).mp h) (fun d h => (hDes.mem d).mp h) hDds.nd hDes.nd)
      have SC : Same H10 (upd H10 C (.lst ((fs.map fun d : Nat => (d : Int)).map V.int))) := same_upd nC
      have eC : upd H10 C (.lst ((fs.map fun d : Nat => (d : Int)).map V.int)) C = some (.lst (nv fs)) := upd_same
      generalize upd H10 C (.lst ((fs.map fun d : Nat => (d : Int)).map V.int)) = H11 at SC eC ⊢
      walk_at "g"
      try refine s_i (mulW (by omega) (by omega)) ?_
      rw [enm]
      walk_at "g"
      refine ⟨c8 * c5, rfl, fun z => by omega, fun z => by omega, fun c12 ec12 _ _ F12 H12 xs12 l12 hl12 nF12 s12 eF12 ty12 => ?_⟩
      obtain rfl : c12 = c8 * c5 := by omega
      walk_at "g"
      refine ⟨F12, xs12, l12, _, rfl, eF12, ty12, hl12, by omega, by omega, fun G13 H13 gs pm13 srt13 nG13 s13 eG13 => ?_⟩
      obtain rfl := M.fac_unique hl12 hl2
      obtain rfl : gs = fs := strict_ext srt13 srtf fun z => (pm13.mem_iff.trans hpp.symm.mem_iff).trans pmf.mem_iff.symm
      refine s_eqD _ _ (dp_nv ((s12.trans s13) _ _ eC)) (dp_nv eG13) (sh_nv _) (sh_nv _) ?_
      rw [eqv_shaped (sh_nv _)]
      exact k _ (S1.trans (s2.trans (s3.trans (s4.trans (s5.trans (s6.trans (s10.trans (SC.trans (s12.trans s13)))))))))

/-- the law -/
def sp_law (K : PySem.W.Frag) : Sp := fun vs H Q _ => ∃ (a : Addr) (ns : List Int), vs = [.ref a] ∧ ns.length ≤ 63 ∧ SqL K H a (ns.map V.int) ∧ ∀ H', Q (.bl true) H'
theorem ok_law (T : Txt K mg) : FnOk P w K mg base CX0 7 (He.ga K "law") (fd_law T) ["_law_script"] (sp_law K) := by
  refine (F_law T).ok sc_law (fun vs H Q E h => ?_) (fun cdv A outer s H vs Q E hr h => ⟨_, PSs.nox (pss_cons (ps_for PassesOwn.never rfl (pi_list (pe_slice sl_list (pv 0) po_none (po_some pe_int))) (pg_name (i := 1) sc_law.nd rfl (Or.inl rfl)) (pss_cons (ps_set (i := 2) sc_law.nd rfl (Or.inl rfl) (pe_call (ok__law_draws T) (hr.mono (by decide)) rfl (g__law_draws T) (kp__law_draws T) (B__law_draws T) .nil pass0 (pa_cons (pv 1) (pa_cons pe_int pa_nil))))
      (pss_cons (ps_set (i := 3) sc_law.nd rfl (Or.inl rfl) (pe_call (ok__law_made T) (hr.mono (by decide)) rfl (g__law_made T) (kp__law_made T) (B__law_made T) .nil pass0 (pa_cons (pe_ix ix_seq (pv 2) pe_int (fun _ _ => rfl)) (pa_cons (pe_ix ix_seq (pv 2) pe_int (fun _ _ => rfl)) pa_nil))))
      (pss_cons (ps_set (i := 4) sc_law.nd rfl (Or.inl rfl) (pe_call (ok__law_made T) (hr.mono (by decide)) rfl (g__law_made T) (kp__law_made T) (B__law_made T) .nil pass0 (pa_cons (pe_ix ix_seq (pv 2) pe_int (fun _ _ => rfl)) (pa_cons (pe_op op_fdivW (pe_ix ix_seq (pv 2) pe_int (fun _ _ => rfl)) pe_int) pa_nil))))
      (pss_cons (ps_if (pt_cmpR op_gt (pe_op op_mulW (pv 3) (pv 4)) (pe_op op_pow pe_int pe_int) (nomark _)) (pss_one (ps_set (i := 4) sc_law.nd rfl (Or.inl rfl) (pe_op op_add pe_int (pe_op op_mod (pv 4) pe_int)))) pss_nil)
      (pss_one (ps_if (PW.pt (pw_or (pt_not (pt_val (pe_call (ok__law_alone T) (hr.mono (by decide)) rfl (g__law_alone T) (kp__law_alone T) (B__law_alone T) .nil pass0 (pa_cons (pv 3) pa_nil)))) (pw_or (pt_not (pt_val (pe_call (ok__law_alone T) (hr.mono (by decide)) rfl (g__law_alone T) (kp__law_alone T) (B__law_alone T) .nil pass0 (pa_cons (pv 4) pa_nil)))) (pw_or1 (pt_not (pt_val (pe_call (ok__law_together T) (hr.mono (by decide)) rfl (g__law_together T) (kp__law_together T) (B__law_together T) .nil pass0 (pa_cons (pv 3) (pa_cons (pv 4) pa_nil))))))))) (pss_one (ps_ret pe_bl)) pss_nil)))))))
      (pss_one (ps_ret (pe_and (pe_call (ok__law_alone T) (hr.mono (by decide)) rfl (g__law_alone T) (kp__law_alone T) (B__law_alone T) .nil pass0 (pa_cons pe_int pa_nil)) (pe_and (pe_call (ok__law_together T) (hr.mono (by decide)) rfl (g__law_together T) (kp__law_together T) (B__law_together T) .nil pass0 (pa_cons pe_int (pa_cons pe_int pa_nil))) (pe_one (pe_call (ok__law_together T) (hr.mono (by decide)) rfl (g__law_together T) (kp__law_together T) (B__law_together T) .nil pass0 (pa_cons pe_int (pa_cons pe_int pa_nil))))))))), ?_⟩)
  · obtain ⟨a, ns, rfl, _⟩ := h; rfl
  · obtain ⟨a, ns, rfl, hlen, hS, k⟩ := h
    walk_at "g"
    refine mkSl hS fun l H0 hl hL s0 => ?_
    walk_at "g"
    refine ⟨⟨_, SqL.of hL⟩, ?_⟩
    refine for_list (fun i σ H' => Same H0 H' ∧ ∃ r1 r2 r3 r4 : Option V, σ = [some (.ref a), r1, r2, r3, r4]) ⟨Same.refl _, _, _, _, _, rfl⟩ (fun i σ H' _ I => SqL.of (I.1 _ _ hL)) ?_ ?_
    · rintro i x σ H' hi ⟨hs, r1, r2, r3, r4, rfl⟩
      obtain ⟨c, rfl, _⟩ := of_mem_ints (cutV_mem (List.mem_of_getElem? hi))
      walk_at "g"
      refine ⟨c, 3, rfl, by decide, fun H1 D xs hxl hx s1 nD hD => ?_⟩
      obtain ⟨x0, x1, x2, rfl⟩ : ∃ x0 x1 x2, xs = [x0, x1, x2] := by
        match xs, hxl with
        | [x0, x1, x2], _ => exact ⟨x0, x1, x2, rfl⟩
      have b0 := hx x0 (by simp)
      have b1 := hx x1 (by simp)
      have b2 := hx x2 (by simp)
      walk_at "g"
      refine s_ixL (SqL.of hD) (atI0 0 rfl rfl) ?_
      walk_at "g"
      refine s_ixL (SqL.of hD) (atI0 2 rfl rfl) ?_
      walk_at "g"
      refine ⟨x0, x2, rfl, b0.1, b0.2, fun n H2 n1 n9 s2 => ?_⟩
      have D2 := s2 _ _ hD
      walk_at "g"
      refine s_ixL (SqL.of D2) (atI0 1 rfl rfl) ?_
      walk_at "g"
      refine s_ixL (SqL.of D2) (atI0 2 rfl rfl) ?_
      walk_at "g"
      refine ⟨x1, x2 / 4, rfl, b1.1, b1.2, fun m0 H3 m1 m9 s3 => ?_⟩
      have S3 := hs.trans (s1.trans (s2.trans s3))
      have enm : (n : Int) * (m0 : Int) = ((n * m0 : Nat) : Int) := by push_cast; rfl
      have hnm : n * m0 ≤ 900900 * 900900 := Nat.mul_le_mul n9 m9
      walk_at "h"
      refine s_join (fun σ' H' => H' = H3 ∧ ∃ m : Nat, σ' = [some (.ref a), some (.int c), some (.ref D), some (.int n), some (.int m)] ∧ 1 ≤ m ∧ m ≤ 900900 ∧ n * m ≤ 100000000) ?_ fun N J => ?_
      · rintro σ' H' ⟨rfl, m, rfl, mm1, mm9, hmn⟩
        walk_at "g"
        refine ⟨n, rfl, n1, n9, fun H4 s4 => ?_⟩
        walk_at "g"
        refine ⟨m, rfl, mm1, mm9, fun H5 s5 => ?_⟩
        walk_at "g"
        refine ⟨n, m, rfl, n1, mm1, n9, mm9, hmn, fun H6 s6 => ?_⟩
        walk_at "g"
        exact ⟨S3.trans (s4.trans (s5.trans s6)), _, _, _, _, rfl⟩
      · walk_at "g"
        try refine s_i (mulW (by omega) (by omega)) ?_
        rw [enm]
        walk_at "g"
        refine s_ite (fun c => ?_) (fun c => ?_)
        · walk_at "g"
          have h0 := Int.emod_nonneg (m0 : Int) (show (7 : Int) ≠ 0 by decide)
          have h1 := Int.emod_lt_of_pos (m0 : Int) (show (0 : Int) < 7 by decide)
          generalize (m0 : Int) % 7 = y at h0 h1 ⊢
          obtain ⟨y, rfl⟩ := Int.eq_ofNat_of_zero_le h0
          have h2 : n * (1 + y) ≤ 900900 * 7 := Nat.mul_le_mul n9 (by omega)
          exact J _ _ ⟨rfl, 1 + y, by push_cast; rfl, by omega, by omega, by omega⟩
        · walk_at "g"
          exact J _ _ ⟨rfl, m0, rfl, m1, m9, by omega⟩
    · rintro σ H' ⟨hs, r1, r2, r3, r4, rfl⟩
      walk_at "g"
      refine ⟨1, rfl, by decide, by decide, fun H1 s1 => ?_⟩
      walk_at "g"
      refine ⟨8, 9, rfl, by decide, by decide, by decide, by decide, by decide, fun H2 s2 => ?_⟩
      walk_at "g"
      refine ⟨1, 12, rfl, by decide, by decide, by decide, by decide, by decide, fun H3 s3 => ?_⟩
      exact k H3
theorem law_end {K : PySem.W.Frag} {H : Hp} {a : Addr} {ns : List Int} (hl : ns.length ≤ 63) (hb : ∀ z ∈ ns, Builtin.Int.intBits z ≤ 1048576) (hS : SqL K H a (ns.map V.int)) : sp_law K [.ref a] H (fun v _ => v = .bl true) fun _ _ _ => False :=
  ⟨a, ns, rfl, hl, hS, fun _ => rfl⟩

theorem facts {h : Heap} {f : Addr} (X : K.In h) (G : h.Ns mainGlobals mg) (hfa : mg ("law" : Str) = some (.ref f)) (c : Told fa fn K) :
    ∃ fd : FuncData, (∀ (s : Shared) (v : Value), BindsTo s fd ⟨[v], []⟩ [("_law_script", v)]) ∧ ∀ base : Heap, K.In base → base.Ns mainGlobals mg → FnOk P w K mg base CX0 7 f fd ["_law_script"] (sp_law K) := by
  have T : Txt K mg := ⟨c, fun z => He.glo_ok X G z, fun z => He.free_ok X G z, fun z => He.int_ok X G z⟩
  have e := hfa.symm.trans (g_law T)
  cases e
  have b := FunD.bindsA (ps := ["_law_script"]) (F_law T) fun _ _ _ _ _ _ us hl => match us, hl with | [_], _ => rfl
  exact ⟨fd_law T, fun s v => b s [v] rfl, fun base _ _ => ok_law T⟩
end
abbrev RR : PySem.W.OpenRow := PySem.W.OpenLaw.row PySem.Challenge.rw_rootprime_k13_whole_divisors_and_coprime
abbrev hk : PySem.W.Hook := hookR 5 fa fn
def ob (s : PySem.W.SharedT) : He.AlD := toldG 5 fa fn (HandSHeadRun.getT s)
theorem ob_eq (s : PySem.W.SharedT) : ob s = hk.obs s.abs := toldG_eq (HandSHeadRun.getT_eq s)
theorem run (w : World) : HandSHeadRun.RunEq RR (PySem.W.view RR.prog [23]) hk ob 2690 ["primes_to", "look_at", "divisor_from", "least_divisor", "parted", "taken", "whole_of", "divisors", "coprimes", "divisor", "_law_draws", "_law_made", "_law_alone", "_law_together", "PrimeError", "NoNumber", "TooFar", "MOST_SIEVED", "MOST_PARTED"] w := by
  intro os
  kernel_rfl
end C
open PySem PySem.W PySem.Calls PyProof.Rows
set_option maxRecDepth 100000 in
set_option maxHeartbeats 0 in
theorem PySem.Challenge.cw_rootprime_k13_whole_divisors_and_coprime_holds : PySem.Challenge.rw_rootprime_k13_whole_divisors_and_coprime.Holds := by
  w_on; o_law
  refine HandSHeadRun.head_any (r := OpenLaw.row PySem.Challenge.rw_rootprime_k13_whole_divisors_and_coprime) (q := view (OpenLaw.row PySem.Challenge.rw_rootprime_k13_whole_divisors_and_coprime).prog [23]) (H := C.hk) (ob := C.ob) (M := 2690) (loose := ["primes_to", "look_at", "divisor_from", "least_divisor", "parted", "taken", "whole_of", "divisors", "coprimes", "divisor", "_law_draws", "_law_made", "_law_alone", "_law_together", "PrimeError", "NoNumber", "TooFar", "MOST_SIEVED", "MOST_PARTED"]) (d := HandSHeadRun.topDef (OpenLaw.row PySem.Challenge.rw_rootprime_k13_whole_divisors_and_coprime).prog 23) (kwd := []) C.ob_eq
    (by kernel_rfl) (fun s => by kernel_rfl) C.run (by kernel_rfl) (by kernel_rfl) (by kernel_rfl) (by rfl) (by first | assumption | decide +kernel) (by decide +kernel) ⟨rfl, rfl, rfl, rfl, rfl, by decide +kernel⟩ ?hw ?hc
  case hw => w_witness2
  case hc =>
    refine R.walk_ofEB (l := PySem.Challenge.rw_rootprime_k13_whole_divisors_and_coprime) (n := 63) (k := 7) (prm := "_law_script") (CX := fun w => L2.CX0) rfl (by decide) (by kernel_rfl) ⟨rfl, by decide, by decide⟩ ?F (fun _ _ _ _ _ z => z)
    intro w mg fa h Y G hmg0
    obtain ⟨K, KX, c⟩ := Y
    have hmg : mg ("law" : PySem.Str) = some (.ref fa) := by
      have e : (HandSHeadRun.topDef (OpenLaw.row PySem.Challenge.rw_rootprime_k13_whole_divisors_and_coprime).prog 23).name = ("law" : PySem.Str) := by kernel_rfl
      rw [← e]
      exact hmg0
    obtain ⟨fd, hb, hF⟩ := C.facts (P := (PySem.Challenge.rw_rootprime_k13_whole_divisors_and_coprime).prog) (w := w) KX G hmg c
    exact ⟨K, fd, (C.sp_law K), KX, hb, fun H a ns hl hbits hO hS => C.law_end hl hbits hS, hF⟩

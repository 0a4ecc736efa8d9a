import PyProof.Rows.All
import Wide.All
import OpenK.AllK
import Wide.FinOn
import HandS.ForMost
import HandS.ForExc
import HandS.Wide
import HandS.IsInst
import HandS.Style
import HandS.Flow
import HandS.Conv
import HandS.Defaults
import HandS.Head0
import HandS.Head1
import HandS.Head2
import HandS.HeadEnd
import HandS.HeadHook1
import HandS.HeadHook2
import HandS.EndBits
import HandS.ExcInit
import HandS.ExcField
import HandS.ExcOwn
import HandS.ExcIs
import HandS.TryOnly
import HandS.WordsExc
import HandS.ClsMeth
import HandS.HeadNt
import HandS.Steps
import HandS.Zip
import HandS.Walk
import HandS.Small
import HandS.NoneIn
import HandS.TryMany
import HandS.TupAny
import HandS.SortInts
import HandS.SetKeys
import HandS.Iter
import KE.GoesMore
import PySem.Challenge.RW_rootprime_k11_least_divisors

set_option Elab.async false
set_option linter.all false
set_option maxRecDepth 100000
set_option maxHeartbeats 4000000
set_option exponentiation.threshold 5000

namespace R
open PySem PySem.Spec PyProof.Rows L2
/-! steps of a reading -/
section
variable {t u : TS} {D : Ends} {σ : L2.St} {H : Hp} {Q : VK} {te ta tb : TE} {g : TG} {i j : Nat} {v x y : V} {r : R2} {c c' : TT} {tl : TA} {QL : List V → Hp → Prop} {QB : Bool → Hp → Prop} {QS : L2.St → Hp → Prop} {a b : Int} {C : Int → Int → Prop} {f : Int → Int → V}
theorem s_seq (h : t { D with nx := u D } σ H) : tSeq t u D σ H := h
theorem s_asg (h : te σ H fun x H1 => g x σ H1 D.nx) : tAsg te g D σ H := h
theorem s_drop (h : te σ H fun _ H1 => D.nx σ H1) : tDrop te D σ H := h
theorem s_ret (h : te σ H D.rt) : tRet te D σ H := h
theorem s_next (h : D.nx σ H) : tNext D σ H := h
theorem s_if (h : c σ H fun b H1 => if b = true then t D σ H1 else u D σ H1) : tIfS c t u D σ H := h
theorem s_gname (h : QS (σ.set i (some v)) H) : gName i v σ H QS := h
theorem s_var (e : σ[i]? = some (some v)) (h : Q v H) : tVar i σ H Q := ⟨v, e, h⟩
theorem s_c (h : Q v H) : tC v σ H Q := h
theorem s_op (h : ta σ H fun x H1 => tb σ H1 fun y H2 => r x y H2 Q) : tOp r ta tb σ H Q := h
theorem s_un {r : V → Hp → VK → Prop} (h : ta σ H fun x H1 => r x H1 Q) : tUn r ta σ H Q := h
theorem s_i0 (h : Q (f a b) H) : rI0 f (.int a) (.int b) H Q := ⟨a, b, rfl, rfl, h⟩
theorem s_i (hc : C a b) (h : Q (f a b) H) : rI C f (.int a) (.int b) H Q := ⟨a, b, rfl, rfl, hc, h⟩
theorem s_u {f : Int → V} (h : Q (f a) H) : rU f (.int a) H Q := ⟨a, rfl, h⟩
theorem s_cons (h : te σ H fun x H1 => tl σ H1 fun xs H2 => QL (x :: xs) H2) : tCons te tl σ H QL := h
theorem s_nil (h : QL [] H) : tNil σ H QL := h
theorem s_test (h : ta σ H fun x H' => ∃ k, x = .bl k ∧ QB k H') : tTest ta σ H QB := h
theorem s_tB (h : ta σ H fun x H' => ∃ k, x = .bl k ∧ QB k H') : tB ta σ H QB := h
theorem s_bl {k : Bool} {P : Bool → Prop} (h : P k) : ∃ k', V.bl k = .bl k' ∧ P k' := ⟨k, rfl, h⟩
theorem s_andc (h : c σ H fun b H1 => if b = true then c' σ H1 QB else QB false H1) : tAnd c c' σ H QB := h
theorem s_orc (h : c σ H fun b H1 => if b = true then QB true H1 else c' σ H1 QB) : tOr c c' σ H QB := h
theorem s_notc (h : c σ H fun b H1 => QB (!b) H1) : tNot c σ H QB := h
theorem s_andv (h : ta σ H fun x H1 => ∃ c, x = .bl c ∧ if c = true then tb σ H1 Q else Q (.bl false) H1) : tAndV ta tb σ H Q := h
theorem s_orv (h : ta σ H fun x H1 => ∃ c, x = .bl c ∧ if c = true then Q (.bl true) H1 else tb σ H1 Q) : tOrV ta tb σ H Q := h
theorem s_notv (h : ta σ H fun x H1 => ∃ c, x = .bl c ∧ Q (.bl (!c)) H1) : tNotV ta σ H Q := h
theorem s_ifx {t : TT} (h : t σ H fun c H1 => if c = true then ta σ H1 Q else tb σ H1 Q) : tIf t ta tb σ H Q := h
theorem s_eqI (h : Q (.bl (decide (a = b))) H) : rEq (.int a) (.int b) H Q := ⟨rfl, by
  have e : decide (V.int a = V.int b) = decide (a = b) := by simp
  rw [e]; exact h⟩
theorem s_neI (h : Q (.bl (!decide (a = b))) H) : rNe (.int a) (.int b) H Q := ⟨rfl, by
  have e : decide (V.int a = V.int b) = decide (a = b) := by simp
  rw [e]; exact h⟩
theorem s_eqS {a b : Str} (h : Q (.bl (decide (a = b))) H) : rEq (.str a) (.str b) H Q := ⟨rfl, by
  have e : decide (V.str a = V.str b) = decide (a = b) := by simp
  rw [e]; exact h⟩
theorem s_neS {a b : Str} (h : Q (.bl (!decide (a = b))) H) : rNe (.str a) (.str b) H Q := ⟨rfl, by
  have e : decide (V.str a = V.str b) = decide (a = b) := by simp
  rw [e]; exact h⟩
theorem s_eqB {a b : Bool} (h : Q (.bl (decide (a = b))) H) : rEq (.bl a) (.bl b) H Q := ⟨rfl, by
  have e : decide (V.bl a = V.bl b) = decide (a = b) := by simp
  rw [e]; exact h⟩
theorem s_neB {a b : Bool} (h : Q (.bl (!decide (a = b))) H) : rNe (.bl a) (.bl b) H Q := ⟨rfl, by
  have e : decide (V.bl a = V.bl b) = decide (a = b) := by simp
  rw [e]; exact h⟩
def MkT (Q : VK) (xs : List V) (H : Hp) : Prop := xs.length ≤ sizeLine ∧ ∀ p, H p = none → Q (.ref p) (upd H p (.tup xs))
def MkL (Q : VK) (xs : List V) (H : Hp) : Prop := xs.length ≤ sizeLine ∧ ∀ p, H p = none → Q (.ref p) (upd H p (.lst xs))
theorem s_tup (h : tl σ H fun xs H1 => MkT Q xs H1) : tTup tl σ H Q := h
theorem s_lst (h : tl σ H fun xs H1 => MkL Q xs H1) : tLst tl σ H Q := h
theorem len_le {α : Type} {xs : List α} (h : xs.length ≤ 1000) : xs.length ≤ sizeLine := Nat.le_of_lt (small1000 h)
theorem s_par (h : tl σ H fun vs H1 => ∃ v w, vs = [v, w] ∧ D.nx ((σ.set i (some v)).set j (some w)) H1) : tPar i j tl D σ H := h
theorem s_par_ {P : V → V → Prop} (h : P x y) : ∃ v w, [x, y] = [v, w] ∧ P v w := ⟨x, y, rfl, h⟩
theorem s_par3 {l : Nat} (h : tl σ H fun vs H1 => ∃ u v w, vs = [u, v, w] ∧ D.nx (((σ.set i (some u)).set j (some v)).set l (some w)) H1) : tPar3 i j l tl D σ H := h
theorem s_par3_ {z : V} {P : V → V → V → Prop} (h : P x y z) : ∃ u v w, [x, y, z] = [u, v, w] ∧ P u v w := ⟨x, y, z, rfl, h⟩
theorem s_cb {r : List V → Hp → VK → Prop} (h : tl σ H fun vs H1 => r vs H1 Q) : tCB r tl σ H Q := h
theorem s_call {sp : Sp} {dvs : List V} {E : XK} (h : tl σ H fun vs H1 => sp (vs ++ dvs) H1 Q E) : tCall sp dvs E tl σ H Q := h
theorem s_callS {sp : Sp} {E : L2.St → XK} (h : tl σ H fun vs H1 => sp vs H1 Q (E σ)) : tCallS sp E tl σ H Q := h
theorem s_chain {r' : R2} {tc : TE} (h : ta σ H fun x H1 => tb σ H1 fun y H2 => r x y H2 fun z H3 => ∃ k, z = .bl k ∧ (if k = true then tc σ H3 fun w' H4 => r' y w' H4 Q else Q (.bl false) H3)) : tChain r r' ta tb tc σ H Q := h
theorem s_iteT {A B : Prop} (h : A) : if true = true then A else B := by rw [if_pos rfl]; exact h
theorem s_iteF {A B : Prop} (h : B) : if false = true then A else B := by rw [if_neg Bool.false_ne_true]; exact h
theorem s_iteNT {A B : Prop} (h : B) : if (!true) = true then A else B := h
theorem s_iteNF {A B : Prop} (h : A) : if (!false) = true then A else B := h
theorem s_ite {A B p : Prop} [Decidable p] (h1 : p → A) (h2 : ¬p → B) : if decide p = true then A else B := by
  by_cases h : p
  · rw [decide_eq_true h, if_pos rfl]; exact h1 h
  · rw [decide_eq_false h, if_neg Bool.false_ne_true]; exact h2 h
theorem s_iten {A B p : Prop} [Decidable p] (h1 : ¬p → A) (h2 : p → B) : if (!decide p) = true then A else B := by
  by_cases h : p
  · rw [decide_eq_true h]; exact s_iteF (h2 h)
  · rw [decide_eq_false h]; exact s_iteT (h1 h)
theorem s_iteb {A B : Prop} {b : Bool} (h1 : b = true → A) (h2 : b = false → B) : if b = true then A else B := by
  cases b
  · exact s_iteF (h2 rfl)
  · exact s_iteT (h1 rfl)
theorem s_itP {A B p : Prop} [Decidable p] (hp : p) (h : A) : if decide p = true then A else B := s_ite (fun _ => h) fun n => absurd hp n
theorem s_itN {A B p : Prop} [Decidable p] (hp : ¬p) (h : B) : if decide p = true then A else B := s_ite (fun n => absurd n hp) fun _ => h
theorem s_itnP {A B p : Prop} [Decidable p] (hp : p) (h : B) : if (!decide p) = true then A else B := s_iten (fun n => absurd hp n) fun _ => h
theorem s_itnN {A B p : Prop} [Decidable p] (hp : ¬p) (h : A) : if (!decide p) = true then A else B := s_iten (fun _ => h) fun n => absurd n hp
theorem s_btT {p : Prop} [Decidable p] {P : Bool → Prop} (hp : p) (h : P true) : P (decide p) := by rw [decide_eq_true hp]; exact h
theorem s_btF {p : Prop} [Decidable p] {P : Bool → Prop} (hp : ¬p) (h : P false) : P (decide p) := by rw [decide_eq_false hp]; exact h
theorem s_ixL {K : PySem.W.Frag} {p : Addr} {xs : List V} {n : Int} (h1 : SqL K H p xs) (h2 : atI xs n = some v) (h : Q v H) : rIx K (.ref p) (.int n) H Q := .inl ⟨p, xs, n, v, rfl, rfl, h1, h2, h⟩
theorem s_ixT {K : PySem.W.Frag} {p : Addr} {xs : List V} {n : Int} (h1 : SqT K H p xs) (h2 : atI xs n = some v) (h : Q v H) : rIx K (.ref p) (.int n) H Q := .inr (.inl ⟨p, xs, n, v, rfl, rfl, h1, h2, h⟩)
theorem s_isi {K : PySem.W.Frag} {a b : String} {bb : Bool} (ht : TyOf K H x (.type a)) (hk : kitB a b = some bb) (h : Q (.bl bb) H) : rIsi K [x, .ty b] H Q := ⟨x, .ty b, .type a, .type b, bb, rfl, .ty b, .base ht, kit_ty hk, h⟩
theorem kb_ii : kitB "int" "int" = some true := by decide +kernel
theorem kb_ib : kitB "int" "bool" = some false := by decide +kernel
theorem kb_bi : kitB "bool" "int" = some true := by decide +kernel
theorem kb_bb : kitB "bool" "bool" = some true := by decide +kernel
theorem kb_tt : kitB "tuple" "tuple" = some true := by decide +kernel
theorem kb_ll : kitB "list" "list" = some true := by decide +kernel
theorem kb_ti : kitB "tuple" "int" = some false := by decide +kernel
theorem kb_tl : kitB "tuple" "list" = some false := by decide +kernel
theorem kb_lt : kitB "list" "tuple" = some false := by decide +kernel
theorem kb_li : kitB "list" "int" = some false := by decide +kernel
theorem kb_ni : kitB "NoneType" "int" = some false := by decide +kernel
theorem s_isi_ii {K : PySem.W.Frag} (h : Q (.bl true) H) : rIsi K [.int a, .ty "int"] H Q := s_isi (.int a) kb_ii h
theorem s_isi_ib {K : PySem.W.Frag} (h : Q (.bl false) H) : rIsi K [.int a, .ty "bool"] H Q := s_isi (.int a) kb_ib h
theorem s_p10 {n : Nat} (h : Q (.int (10 ^ n)) H) (hn : n ≤ 1000 := by decide) : rI CPow (fun i j => V.int (i ^ j.toNat)) (.int 10) (.int (n : Int)) H Q :=
  ⟨10, n, rfl, rfl, ⟨by omega, by omega, by decide⟩, h⟩
theorem s_pow {e : Int} {n : Nat} (he : e = n) (hn : n ≤ 1000) (ha : a.natAbs < 2 ^ 64) (h : Q (.int (a ^ n)) H) : rI CPow (fun i j => V.int (i ^ j.toNat)) (.int a) (.int e) H Q :=
  ⟨a, e, rfl, rfl, ⟨by omega, by omega, ha⟩, by subst he; exact h⟩
theorem s_p10_4 (h : Q (.int (10 ^ 4)) H) : rI CPow (fun i j => V.int (i ^ j.toNat)) (.int 10) (.int 4) H Q := s_p10 (n := 4) h
theorem s_p10_5 (h : Q (.int (10 ^ 5)) H) : rI CPow (fun i j => V.int (i ^ j.toNat)) (.int 10) (.int 5) H Q := s_p10 (n := 5) h
theorem s_p10_6 (h : Q (.int (10 ^ 6)) H) : rI CPow (fun i j => V.int (i ^ j.toNat)) (.int 10) (.int 6) H Q := s_p10 (n := 6) h
theorem s_p10_8 (h : Q (.int (10 ^ 8)) H) : rI CPow (fun i j => V.int (i ^ j.toNat)) (.int 10) (.int 8) H Q := s_p10 (n := 8) h
theorem s_p10_9 (h : Q (.int (10 ^ 9)) H) : rI CPow (fun i j => V.int (i ^ j.toNat)) (.int 10) (.int 9) H Q := s_p10 (n := 9) h
theorem s_p10_12 (h : Q (.int (10 ^ 12)) H) : rI CPow (fun i j => V.int (i ^ j.toNat)) (.int 10) (.int 12) H Q := s_p10 (n := 12) h
theorem s_p10_18 (h : Q (.int (10 ^ 18)) H) : rI CPow (fun i j => V.int (i ^ j.toNat)) (.int 10) (.int 18) H Q := s_p10 (n := 18) h
theorem s_p10_29 (h : Q (.int (10 ^ 29)) H) : rI CPow (fun i j => V.int (i ^ j.toNat)) (.int 10) (.int 29) H Q := s_p10 (n := 29) h
theorem s_p10_30 (h : Q (.int (10 ^ 30)) H) : rI CPow (fun i j => V.int (i ^ j.toNat)) (.int 10) (.int 30) H Q := s_p10 (n := 30) h
theorem s_p10_39 (h : Q (.int (10 ^ 39)) H) : rI CPow (fun i j => V.int (i ^ j.toNat)) (.int 10) (.int 39) H Q := s_p10 (n := 39) h
theorem s_p10_40 (h : Q (.int (10 ^ 40)) H) : rI CPow (fun i j => V.int (i ^ j.toNat)) (.int 10) (.int 40) H Q := s_p10 (n := 40) h
theorem s_p10_49 (h : Q (.int (10 ^ 49)) H) : rI CPow (fun i j => V.int (i ^ j.toNat)) (.int 10) (.int 49) H Q := s_p10 (n := 49) h
theorem s_p10_50 (h : Q (.int (10 ^ 50)) H) : rI CPow (fun i j => V.int (i ^ j.toNat)) (.int 10) (.int 50) H Q := s_p10 (n := 50) h
theorem s_p10_51 (h : Q (.int (10 ^ 51)) H) : rI CPow (fun i j => V.int (i ^ j.toNat)) (.int 10) (.int 51) H Q := s_p10 (n := 51) h
theorem s_p10_58 (h : Q (.int (10 ^ 58)) H) : rI CPow (fun i j => V.int (i ^ j.toNat)) (.int 10) (.int 58) H Q := s_p10 (n := 58) h
theorem s_p10_59 (h : Q (.int (10 ^ 59)) H) : rI CPow (fun i j => V.int (i ^ j.toNat)) (.int 10) (.int 59) H Q := s_p10 (n := 59) h
theorem s_p10_60 (h : Q (.int (10 ^ 60)) H) : rI CPow (fun i j => V.int (i ^ j.toNat)) (.int 10) (.int 60) H Q := s_p10 (n := 60) h
theorem s_pow7 (ha : a.natAbs < 2 ^ 64) (h : Q (.int (a ^ 7)) H) : rI CPow (fun i j => V.int (i ^ j.toNat)) (.int a) (.int 7) H Q := s_pow (n := 7) rfl (by decide) ha h
theorem s_pickN {K : PySem.W.Frag} {p : Addr} {n : Int} {P : Int → Prop} (ns : List Int) (hp : H p = some (.lst (ns.map V.int))) (hn : 0 ≤ n ∧ n < ns.length) (ha : ∀ z ∈ ns, P z) (h : ∀ z, P z → Q (.int z) H) : rIx K (.ref p) (.int n) H Q := by
  obtain ⟨k, rfl⟩ := Int.eq_ofNat_of_zero_le hn.1
  have hk : k < ns.length := by omega
  exact s_ixL (SqL.of hp) (atI_nat (j := k) (v := .int ns[k]) (by rw [List.getElem?_map, List.getElem?_eq_getElem hk]; rfl)) (h _ (ha _ (List.getElem_mem hk)))
theorem s_pick2 {K : PySem.W.Frag} {p : Addr} {n : Int} {P : Int → Prop} (hp : H p = some (.lst [.int a, .int b])) (hn : 0 ≤ n ∧ n < 2) (ha : P a) (hb : P b) (h : ∀ z, P z → Q (.int z) H) : rIx K (.ref p) (.int n) H Q := by
  have e : n = 0 ∨ n = 1 := by omega
  rcases e with rfl | rfl
  · exact s_ixL (SqL.of hp) (atI_nat (j := 0) rfl) (h a ha)
  · exact s_ixL (SqL.of hp) (atI_nat (j := 1) rfl) (h b hb)
theorem s_andJ {b c : Bool} (hc : ∀ Q' : VK, Q' (.bl c) H → tb σ H Q') (h : Q (.bl (b && c)) H) : if b = true then tb σ H Q else Q (.bl false) H := by
  cases b
  · exact s_iteF h
  · exact s_iteT (hc _ h)
theorem s_orJ {b c : Bool} (hc : ∀ Q' : VK, Q' (.bl c) H → tb σ H Q') (h : Q (.bl (b || c)) H) : if b = true then Q (.bl true) H else tb σ H Q := by
  cases b
  · exact s_iteF (hc _ h)
  · exact s_iteT h
theorem s_blT {p : Prop} [Decidable p] (hp : p) (h : Q (.bl true) H) : Q (.bl (decide p)) H := by rw [decide_eq_true hp]; exact h
theorem s_blF {p : Prop} [Decidable p] (hp : ¬p) (h : Q (.bl false) H) : Q (.bl (decide p)) H := by rw [decide_eq_false hp]; exact h
theorem s_sl {r : V → Option Int → Option Int → Hp → VK → Prop} {tlo thi : TO} (h : te σ H fun x H1 => tlo σ H1 fun l H2 => thi σ H2 fun u H3 => r x l u H3 Q) : L2.tSl r te tlo thi σ H Q := h
theorem s_nopart {QO : Option Int → Hp → Prop} (h : QO none H) : tNoPart σ H QO := h
theorem s_part {QO : Option Int → Hp → Prop} (h : te σ H fun x H1 => ∃ i, x = .int i ∧ QO (some i) H1) : tPart te σ H QO := h
theorem s_int_ {P : Int → Prop} (h : P a) : ∃ i, V.int a = .int i ∧ P i := ⟨a, rfl, h⟩
theorem s_slL {K : PySem.W.Frag} {p : Addr} {xs : List V} {lo hi : Option Int} (hs : SqL K H p xs) (h : ∀ l, H l = none → Q (.ref l) (upd H l (.lst (cutV xs lo hi)))) : rSlL K (.ref p) lo hi H Q := ⟨p, xs, rfl, hs, h⟩
theorem s_for {wi : TI} {tb : TS} (h : wi σ H fun J H1 => ∃ W : Nat → Nat → L2.St → Hp → Prop, (∃ m, W 0 m σ H1) ∧ ∀ i m σ H, W i m σ H →
  (J.stop i H ∧ D.nx σ H) ∨ (J.go i H ∧ ∃ N : L2.St → Hp → Prop, (∀ σ' H', N σ' H' → ∃ m', m' < m ∧ W (i + 1) m' σ' H') ∧ ∀ x H', J.yld i H x H' → g x σ H' fun σ2 H2 => tb { D with nx := N, ct := N, bk := D.nx } σ2 H2)) : tFor wi g tb D σ H := h
theorem s_ilist {K : PySem.W.Frag} {RI : It → Hp → Prop} (h : te σ H fun x H1 => ∃ a, x = .ref a ∧ (∃ xs, SqL K H1 a xs) ∧ RI (Itl K a) H1) : iList K te σ H RI := h
theorem s_itup {K : PySem.W.Frag} {RI : It → Hp → Prop} (h : te σ H fun x H1 => ∃ a, x = .ref a ∧ (∃ xs, SqT K H1 a xs) ∧ RI (Itt K a) H1) : iTup K te σ H RI := h
theorem s_ref_ {p : Addr} {P : Addr → Prop} (h : P p) : ∃ i, V.ref p = .ref i ∧ P i := ⟨p, rfl, h⟩
theorem s_join (P : L2.St → Hp → Prop) (h1 : ∀ σ' H', P σ' H' → D.nx σ' H') (h2 : ∀ N : L2.St → Hp → Prop, (∀ σ' H', P σ' H' → N σ' H') → tIfS c t u { D with nx := N } σ H) : tIfS c t u D σ H := h2 D.nx h1
theorem s_yes (h : QB true H) : tYes σ H QB := h
theorem s_gtup {K : PySem.W.Frag} {n : Nat} {t : TGs} {p : Addr} {xs : List V} (h1 : SqT K H p xs) (h2 : xs.length = n) (h : t xs σ H QS) : gTup K n t (.ref p) σ H QS := ⟨p, xs, rfl, h1, h2, h⟩
theorem s_gcons {t : TG} {u : TGs} {r : List V} (h : t v σ H fun σ' H' => u r σ' H' QS) : gCons t u (v :: r) σ H QS := ⟨v, r, rfl, h⟩
theorem s_gnil (h : QS σ H) : gNil [] σ H QS := ⟨rfl, h⟩
theorem s_append {p : Addr} {xs : List V} (hp : H p = some (.lst xs)) (hl : xs.length < sizeLine) (h : Q .non (upd H p (.lst (xs ++ [x])))) : rAppend (.ref p) [x] H Q := ⟨p, xs, x, rfl, rfl, hp, hl, h⟩
theorem s_tyL {K : PySem.W.Frag} {p : Addr} {xs : List V} (hp : H p = some (.lst xs)) : tyV K "list" (.ref p) H := Or.inl ⟨rfl, _, Or.inl (Or.inl hp)⟩
theorem s_bm {K : PySem.W.Frag} {T : String} {r : V → List V → Hp → VK → Prop} (h : ta σ H fun x H1 => tyV K T x H1 ∧ tl σ H1 fun xs H2 => r x xs H2 Q) : tBM K T r ta tl σ H Q := h
end
/-! rules by name -/
def rAbs : List V → Hp → VK → Prop := fun xs H Q => ∃ i, xs = [.int i] ∧ Q (.int (if i < 0 then -i else i)) H
def rMax2 : List V → Hp → VK → Prop := fun xs H Q => ∃ i j, xs = [.int i, .int j] ∧ Q (.int (if j > i then j else i)) H
def rMin2 : List V → Hp → VK → Prop := fun xs H Q => ∃ i j, xs = [.int i, .int j] ∧ Q (.int (if j < i then j else i)) H
def rLenS (K : PySem.W.Frag) : List V → Hp → VK → Prop := fun xs H Q => ∃ p ys, xs = [.ref p] ∧ (SqL K H p ys ∨ SqT K H p ys) ∧ Q (.int ys.length) H
def rTupOf (K : PySem.W.Frag) : List V → Hp → VK → Prop := fun xs H Q => ∃ p ys, xs = [.ref p] ∧ ((SqL K H p ys ∧ ∀ l, H l = none → Q (.ref l) (upd H l (.tup ys))) ∨ (SqT K H p ys ∧ Q (.ref p) H))
def rLstOf (K : PySem.W.Frag) : List V → Hp → VK → Prop := fun xs H Q => ∃ p ys, xs = [.ref p] ∧ (SqL K H p ys ∨ SqT K H p ys) ∧ ∀ l, H l = none → Q (.ref l) (upd H l (.lst ys))
def rInt1 : List V → Hp → VK → Prop := fun xs H Q => (∃ i, xs = [.int i] ∧ Q (.int i) H) ∨ ∃ k, xs = [.bl k] ∧ Q (.int (if k then 1 else 0)) H
def rIns : V → List V → Hp → VK → Prop := fun x vs H Q => ∃ (l : Addr) (xs : List V) (i : Int) (y : V), x = .ref l ∧ vs = [.int i, y] ∧ H l = some (.lst xs) ∧ xs.length < sizeLine ∧ 0 ≤ i ∧ i < 2 ^ 63 ∧ Q .non (upd H l (.lst (xs.take i.toNat ++ [y] ++ xs.drop i.toNat)))
section
variable {X : Cx}
theorem mtIns : MtR X "list.insert" rIns := mt_insert
theorem callInt1 : CallR X (.type "int") rInt1 := call_int1
theorem callAbs : CallR X (.builtin "abs") rAbs := call_abs
theorem callMax2 (hc : X.calm = true) : CallR X (.builtin "max") rMax2 := call_max2 hc
theorem callMin2 (hc : X.calm = true) : CallR X (.builtin "min") rMin2 := call_min2 hc
theorem callLen : CallR X (.builtin "len") (rLenS X.K) := call_len_seq
theorem callTup : CallR X (.type "tuple") (rTupOf X.K) := call_tuple_of
theorem callLst : CallR X (.type "list") (rLstOf X.K) := call_list_of
end
section
variable {H : Hp} {Q : VK} {a b : Int} {K : PySem.W.Frag} {p : Addr} {xs : List V}
theorem s_intB {k : Bool} (h : Q (.int (if k then 1 else 0)) H) : rInt1 [.bl k] H Q := .inr ⟨k, rfl, h⟩
theorem s_abs (h : Q (.int (if a < 0 then -a else a)) H) : rAbs [.int a] H Q := ⟨a, rfl, h⟩
theorem s_max (h : Q (.int (if b > a then b else a)) H) : rMax2 [.int a, .int b] H Q := ⟨a, b, rfl, h⟩
theorem s_min (h : Q (.int (if b < a then b else a)) H) : rMin2 [.int a, .int b] H Q := ⟨a, b, rfl, h⟩
theorem s_ins0 {y : V} (hp : H p = some (.lst xs)) (hl : xs.length < sizeLine) (h : Q .non (upd H p (.lst (y :: xs)))) : rIns (.ref p) [.int 0, y] H Q := ⟨p, xs, 0, y, rfl, rfl, hp, hl, by decide, by decide, h⟩
theorem s_lenL (hs : SqL K H p xs) (h : Q (.int xs.length) H) : rLenS K [.ref p] H Q := ⟨p, xs, rfl, .inl hs, h⟩
theorem s_lenT (hs : SqT K H p xs) (h : Q (.int xs.length) H) : rLenS K [.ref p] H Q := ⟨p, xs, rfl, .inr hs, h⟩
theorem s_tupL (hs : SqL K H p xs) (h : ∀ l, H l = none → Q (.ref l) (upd H l (.tup xs))) : rTupOf K [.ref p] H Q := ⟨p, xs, rfl, .inl ⟨hs, h⟩⟩
theorem s_lstL (hs : SqL K H p xs) (h : ∀ l, H l = none → Q (.ref l) (upd H l (.lst xs))) : rLstOf K [.ref p] H Q := ⟨p, xs, rfl, .inl hs, h⟩
theorem s_lstT (hs : SqT K H p xs) (h : ∀ l, H l = none → Q (.ref l) (upd H l (.lst xs))) : rLstOf K [.ref p] H Q := ⟨p, xs, rfl, .inr hs, h⟩
end
/-! heaps -/
theorem same_upd {H : Hp} {p : Addr} {o : HO} (h : H p = none) : Same H (upd H p o) := fun b u e => by rw [upd_ne (ne_of_none e h)]; exact e
theorem same_upd' {H H' : Hp} {p : Addr} {o : HO} (s : Same H H') (h : H p = none) : Same H (upd H' p o) := fun b u e => by rw [upd_ne (ne_of_none e h)]; exact s b u e
theorem same_new {H H' : Hp} {p : Addr} {o : HO} (s : Same H H') (h : H' p = none) : Same H (upd H' p o) := s.trans (same_upd h)
theorem Same.none {H H' : Hp} (s : Same H H') {p : Addr} (h : H' p = none) : H p = none := s.free h
theorem atI0 {α : Type} {xs : List α} {v : α} {n : Int} (k : Nat) (hn : n = k) (h : xs[k]? = some v) : atI xs n = some v := by subst hn; exact atI_nat h
theorem cutV_mem {xs : List V} {lo hi : Option Int} {x : V} (h : x ∈ cutV xs lo hi) : x ∈ xs := List.mem_of_mem_drop (List.mem_of_mem_take h)
theorem get_mem {xs : List V} {i : Nat} {x : V} (h : xs[i]? = some x) : x ∈ xs := List.mem_of_getElem? h
theorem of_mem_ints {ns : List Int} {x : V} (h : x ∈ ns.map V.int) : ∃ c, x = .int c ∧ c ∈ ns := by
  obtain ⟨c, h1, h2⟩ := List.mem_map.mp h
  exact ⟨c, h2.symm, h1⟩
section
variable {H : Hp} {Q : VK} {K : PySem.W.Frag} {p : Addr} {xs : List V}
theorem mkT (hl : xs.length ≤ 1000) (h : ∀ p H', H p = none → H' p = some (.tup xs) → Same H H' → Q (.ref p) H') : MkT Q xs H := ⟨len_le hl, fun p hp => h p _ hp upd_same (same_upd hp)⟩
theorem mkL (hl : xs.length ≤ 1000) (h : ∀ p H', H p = none → H' p = some (.lst xs) → Same H H' → Q (.ref p) H') : MkL Q xs H := ⟨len_le hl, fun p hp => h p _ hp upd_same (same_upd hp)⟩
theorem mkCat {q : Addr} {zs : List V} (h1 : H p = some (.lst xs)) (h2 : H q = some (.lst zs)) (hl : xs.length + zs.length ≤ 1000) (h : ∀ l H', H l = none → H' l = some (.lst (xs ++ zs)) → Same H H' → Q (.ref l) H') : rCat (.ref p) (.ref q) H Q := ⟨p, q, xs, zs, rfl, rfl, h1, h2, Nat.le_trans hl (Nat.le_of_lt (small1000 (Nat.le_refl _))), fun l hl => h l _ hl upd_same (same_upd hl)⟩
theorem mkSlT {lo hi : Option Int} (hs : SqT K H p xs) (hn : ¬ (HT.sIx xs.length 0 lo = 0 ∧ HT.sIx xs.length xs.length hi = xs.length)) (h : ∀ l H', H l = none → H' l = some (.tup (cutV xs lo hi)) → Same H H' → Q (.ref l) H') : rSlT K (.ref p) lo hi H Q := ⟨p, xs, rfl, hs, hn, fun l hl => h l _ hl upd_same (same_upd hl)⟩
theorem mkSl {lo hi : Option Int} (hs : SqL K H p xs) (h : ∀ l H', H l = none → H' l = some (.lst (cutV xs lo hi)) → Same H H' → Q (.ref l) H') : rSlL K (.ref p) lo hi H Q := s_slL hs fun l hl => h l _ hl upd_same (same_upd hl)
end
theorem s_eqD {K : PySem.W.Frag} {H : Hp} {Q : VK} {x y : V} (d e : PyData) (hd : Dp K H x d) (he : Dp K H y e) (h1 : SeqAt.shaped d = true) (h2 : SeqAt.shaped e = true) (h : Q (.bl (PyData.eqv d e)) H) : rEqD K x y H Q := ⟨d, e, hd, he, h1, h2, h⟩
theorem s_neD {K : PySem.W.Frag} {H : Hp} {Q : VK} {x y : V} (d e : PyData) (hd : Dp K H x d) (he : Dp K H y e) (h1 : SeqAt.shaped d = true) (h2 : SeqAt.shaped e = true) (h : Q (.bl (!PyData.eqv d e)) H) : rNeD K x y H Q := ⟨d, e, hd, he, h1, h2, h⟩
theorem dp_tup1 {K : PySem.W.Frag} {H : Hp} {p : Addr} {a : Int} (h : H p = some (.tup [.int a])) : Dp K H (.ref p) (.tuple [.int a]) := .tup (SqT.of h) (.cons (.int a) .nil)
theorem dp_tup2 {K : PySem.W.Frag} {H : Hp} {p : Addr} {a b : Int} (h : H p = some (.tup [.int a, .int b])) : Dp K H (.ref p) (.tuple [.int a, .int b]) := .tup (SqT.of h) (.cons (.int a) (.cons (.int b) .nil))
theorem atI_neg1 {α : Type} {xs : List α} {v : α} (h : xs.getLast? = some v) : atI xs (-1) = some v := by
  rcases List.eq_nil_or_concat xs with e | ⟨ys, y, e⟩
  · subst e; simp at h
  · rw [List.concat_eq_append] at e
    subst e
    rw [List.getLast?_concat] at h
    cases h
    exact atI_last ys v
/-! all stands but what lies at one place -/
def SameB (p : Addr) (H H' : Hp) : Prop := ∀ b o, b ≠ p → H b = some o → H' b = some o
theorem SameB.refl (p : Addr) (H : Hp) : SameB p H H := fun _ _ _ h => h
theorem SameB.trans {p : Addr} {H H1 H2 : Hp} (a : SameB p H H1) (b : SameB p H1 H2) : SameB p H H2 := fun c o n h => b c o n (a c o n h)
theorem SameB.of {p : Addr} {H H1 : Hp} (a : Same H H1) : SameB p H H1 := fun c o _ h => a c o h
theorem SameB.put {p : Addr} {H : Hp} {o : HO} : SameB p H (upd H p o) := fun c u n h => by rw [upd_ne n]; exact h
theorem SameB.same {p : Addr} {H H1 H2 : Hp} (n : H p = none) (a : SameB p H1 H2) (s : Same H H1) : Same H H2 := fun c o h => a c o (ne_of_none h n) (s c o h)
theorem SameB.updn {p l : Addr} {H H' : Hp} {o : HO} (h : SameB p H H') (n : H l = none) : SameB p H (upd H' l o) := fun b u hb e => by rw [upd_ne (ne_of_none e n)]; exact h b u hb e
theorem ixN_nat {n d : Nat} (h : d < n) : ixN n (d : Int) = some d := by
  unfold ixN
  rw [if_pos (by omega), if_pos (by omega)]; simp
/-! ranges -/
section
variable {H : Hp} {σ : L2.St} {ta : TA} {RI : It → Hp → Prop}
def RngQ1 (RI : It → Hp → Prop) (vs : List V) (H : Hp) : Prop := ∃ j : Int, vs = [.int j] ∧ -(2 ^ 62) ≤ j ∧ j < 2 ^ 62 ∧ RI (Itr 0 j.toNat) H
def RngQ2 (RI : It → Hp → Prop) (vs : List V) (H : Hp) : Prop := ∃ i j : Int, vs = [.int i, .int j] ∧ (-(2 ^ 62) ≤ i ∧ i < 2 ^ 62 ∧ -(2 ^ 62) ≤ j ∧ j < 2 ^ 62) ∧ RI (Itr i (j - i).toNat) H
theorem s_rng1 (h : ta σ H fun vs H1 => RngQ1 RI vs H1) : iRng1 ta σ H RI := h
theorem s_rng2 (h : ta σ H fun vs H1 => RngQ2 RI vs H1) : iRng2 ta σ H RI := h
theorem mkR1 {j : Int} (n : Nat) (e : j.toNat = n) (h1 : -(2 ^ 62) ≤ j) (h2 : j < 2 ^ 62) (h : RI (Itr 0 n) H) : RngQ1 RI [.int j] H := ⟨j, rfl, h1, h2, by rw [e]; exact h⟩
theorem mkR2 {i j : Int} (n : Nat) (e : (j - i).toNat = n) (h1 : -(2 ^ 62) ≤ i ∧ i < 2 ^ 62 ∧ -(2 ^ 62) ≤ j ∧ j < 2 ^ 62) (h : RI (Itr i n) H) : RngQ2 RI [.int i, .int j] H := ⟨i, j, rfl, h1, by rw [e]; exact h⟩
end
section
variable {to ti : TE} {t : TSet} {v : V} {σ : L2.St} {H : Hp} {QS : L2.St → Hp → Prop} {p : Addr} {xs : List V} {k : Int} {QH : Hp → Prop}
theorem s_gsub (h : to σ H fun o H1 => ti σ H1 fun i H2 => t o i v H2 fun H3 => QS σ H3) : gSub to ti t v σ H QS := h
theorem s_setL (j : Nat) (hp : H p = some (.lst xs)) (hj : ixN xs.length k = some j) (h : QH (upd H p (.lst (xs.set j v)))) : rSetL (.ref p) (.int k) v H QH := ⟨p, xs, k, j, rfl, rfl, hp, hj, h⟩
end
/-! dicts -/
section
variable {H : Hp} {Q : VK} {p : Addr} {kvs : List (Key × V)} {k : Key} {v : V} {td ty tv : TE} {σ : L2.St} {D : Ends}
def DGetQ (Q : VK) (x y : V) (H : Hp) : Prop := ∃ a v, x = .ref a ∧ DGet H a y (some v) ∧ Q v H
theorem s_dget (h : td σ H fun x H1 => ty σ H1 fun y H2 => DGetQ Q x y H2) : tDGet td ty σ H Q := h
theorem s_dgetS {x : Str} (hd : H p = some (.dK kvs)) (hv : valV kvs (.inr x) = some v) (h : Q v H) : DGetQ Q (.ref p) (.str x) H := ⟨p, v, rfl, by rw [← hv]; exact DGet.k (k := .inr x) hd, h⟩
theorem s_dgetI {i : Int} (hd : H p = some (.dK kvs)) (hv : valV kvs (.inl i) = some v) (h : Q v H) : DGetQ Q (.ref p) (.int i) H := ⟨p, v, rfl, by rw [← hv]; exact DGet.k (k := .inl i) hd, h⟩
def DispQ (Q : VK) (p : Addr) (ps : List (V × V)) (H2 : Hp) : Prop := H2 p = some (.dK []) ∧ ∃ kvs : List (Key × V), ps = kvs.map (fun kv => (kV kv.1, kv.2)) ∧ kvs.length ≤ 15 ∧ Q (.ref p) (upd H2 p (.dK (mergeK [] kvs)))
theorem s_disp {trs : List (TE × TE)} (h : ∀ p H1, H p = none → H1 p = some (.dK []) → Same H H1 → tPairs trs σ H1 fun ps H2 => DispQ Q p ps H2) : tDisp trs σ H Q := fun p hp => h p _ hp upd_same (same_upd hp)
theorem s_pn {QP : List (V × V) → Hp → Prop} (h : QP [] H) : tPairs [] σ H QP := h
theorem s_pc {tk : TE} {r : List (TE × TE)} {QP : List (V × V) → Hp → Prop} (h : tk σ H fun x H1 => tv σ H1 fun y H2 => tPairs r σ H2 fun ps H3 => QP ((x, y) :: ps) H3) : tPairs ((tk, tv) :: r) σ H QP := h
theorem mkDisp {ps : List (V × V)} (kvs : List (Key × V)) (hd : H p = some (.dK [])) (e : ps = kvs.map (fun kv => (kV kv.1, kv.2))) (hl : kvs.length ≤ 15) (h : ∀ H', H' p = some (.dK (mergeK [] kvs)) → (∀ H0, H0 p = none → Same H0 H → Same H0 H') → Q (.ref p) H') : DispQ Q p ps H :=
  ⟨hd, kvs, e, hl, h _ upd_same fun H0 n s => same_upd' s n⟩
def DPutQ (P : Hp → Prop) (x y v : V) (H3 : Hp) : Prop := ∃ a H4, x = .ref a ∧ DPut H3 a y v H4 ∧ P H4
theorem s_dput (h : tv σ H fun v H1 => td σ H1 fun x H2 => ty σ H2 fun y H3 => DPutQ (D.nx σ) x y v H3) : sDPut td ty tv D σ H := h
theorem s_dputS {P : Hp → Prop} {x : Str} (hd : H p = some (.dK kvs)) (hl : kvs.length < sizeLine) (h : P (upd H p (.dK (putK kvs (.inr x) v)))) : DPutQ P (.ref p) (.str x) v H := ⟨p, _, rfl, DPut.k (k := .inr x) hd hl, h⟩
theorem s_dputI {P : Hp → Prop} {i : Int} (hd : H p = some (.dK kvs)) (hl : kvs.length < sizeLine) (h : P (upd H p (.dK (putK kvs (.inl i) v)))) : DPutQ P (.ref p) (.int i) v H := ⟨p, _, rfl, DPut.k (k := .inl i) hd hl, h⟩
end
mutual
theorem eqv_refl : ∀ d : PyData, PyData.canLay0 d = true → PyData.eqv d d = true
  | .none, _ => by simp [PyData.eqv]
  | .bool b, _ => by simp [PyData.eqv]
  | .int i, _ => by simp [PyData.eqv]
  | .str x, _ => by simp [PyData.eqv]
  | .list xs, h => by simp only [PyData.eqv]; exact eqv_refls xs (by simpa [PyData.canLay0] using h)
  | .tuple xs, h => by simp only [PyData.eqv]; exact eqv_refls xs (by simpa [PyData.canLay0] using h)
  | .dict _, h => by simp [PyData.canLay0] at h
theorem eqv_refls : ∀ ds : List PyData, PyData.canLayAll0 ds = true → PyData.eqvAll ds ds = true
  | [], _ => by simp [PyData.eqvAll]
  | d :: ds, h => by
    simp only [PyData.canLayAll0, Bool.and_eq_true] at h
    simp only [PyData.eqvAll, Bool.and_eq_true]
    exact ⟨eqv_refl d h.1, eqv_refls ds h.2⟩
end
theorem layAll {ds : List PyData} (h : ∀ d ∈ ds, PyData.canLay0 d = true) : PyData.canLayAll0 ds = true := by
  induction ds with
  | nil => simp [PyData.canLayAll0]
  | cons d ds ih =>
    simp only [PyData.canLayAll0, Bool.and_eq_true]
    exact ⟨h d (by simp), ih fun e he => h e (by simp [he])⟩
theorem depAll {ds : List PyData} {n : Nat} (h : ∀ d ∈ ds, PyData.depth d ≤ n) : PyData.depthAll ds ≤ n := by
  induction ds with
  | nil => simp [PyData.depthAll]
  | cons d ds ih =>
    simp only [PyData.depthAll]
    exact Nat.max_le.mpr ⟨h d (by simp), ih fun e he => h e (by simp [he])⟩
theorem shapedL {ds : List PyData} (h : ∀ d ∈ ds, PyData.canLay0 d = true ∧ PyData.depth d ≤ 63) : SeqAt.shaped (.list ds) = true := by
  unfold SeqAt.shaped
  simp only [PyData.canLay0, PyData.depth, Bool.and_eq_true]
  exact ⟨layAll fun d hd => (h d hd).1, decide_eq_true (Nat.succ_le_succ (depAll fun d hd => (h d hd).2))⟩
theorem shapedT {ds : List PyData} (h : ∀ d ∈ ds, PyData.canLay0 d = true ∧ PyData.depth d ≤ 63) : SeqAt.shaped (.tuple ds) = true := by
  unfold SeqAt.shaped
  simp only [PyData.canLay0, PyData.depth, Bool.and_eq_true]
  exact ⟨layAll fun d hd => (h d hd).1, decide_eq_true (Nat.succ_le_succ (depAll fun d hd => (h d hd).2))⟩
theorem eqv_shaped {d : PyData} (h : SeqAt.shaped d = true) : PyData.eqv d d = true := eqv_refl d (SeqAt.canLay_of_shaped h)
theorem in_ints (a : Int) (ns : List Int) : inV (.int a) (ns.map V.int) = decide (a ∈ ns) := by
  unfold inV
  induction ns with
  | nil => simp
  | cons n ns ih =>
    rw [List.map_cons, List.any_cons, ih]
    simp only [eqV, List.mem_cons]
    by_cases h : a = n
    · subst h; simp
    · simp [h, Ne.symm h]
theorem flat_ints (ns : List Int) : (ns.map V.int).all flatV = true := by simp [flatV]
theorem s_inL {K : PySem.W.Frag} {H : Hp} {Q : VK} {p : Addr} {a : Int} {ns : List Int} (hp : H p = some (.lst (ns.map V.int))) (h : Q (.bl (decide (a ∈ ns))) H) : rIn K false (.int a) (.ref p) H Q :=
  ⟨p, ns.map V.int, rfl, .inl (SqL.of hp), rfl, flat_ints ns, by rw [if_neg Bool.false_ne_true, in_ints]; exact h⟩
theorem s_notInL {K : PySem.W.Frag} {H : Hp} {Q : VK} {p : Addr} {a : Int} {ns : List Int} (hp : H p = some (.lst (ns.map V.int))) (h : Q (.bl (!decide (a ∈ ns))) H) : rIn K true (.int a) (.ref p) H Q :=
  ⟨p, ns.map V.int, rfl, .inl (SqL.of hp), rfl, flat_ints ns, by rw [if_pos rfl, in_ints]; exact h⟩
theorem paired_mono {α β : Type} {F G : α → β → Prop} (h : ∀ a b, F a b → G a b) : ∀ {xs : List α} {ys : List β}, Paired F xs ys → Paired G xs ys
  | _, _, .nil => .nil
  | _, _, .cons f r => .cons (h _ _ f) (paired_mono h r)
theorem paired_take {α β : Type} {F : α → β → Prop} : ∀ {xs : List α} {ys : List β} (n : Nat), Paired F xs ys → Paired F (xs.take n) (ys.take n)
  | _, _, 0, _ => by simp; exact .nil
  | _, _, _ + 1, .nil => .nil
  | _, _, n + 1, .cons f r => .cons f (paired_take n r)
theorem s_isiT2 {K : PySem.W.Frag} {H : Hp} {Q : VK} {x : V} {tp : Addr} {a b1 b2 : String} {r1 r2 : Bool} (ht : H tp = some (.tup [.ty b1, .ty b2])) (tx : TyOf K H x (.type a)) (k1 : kitB a b1 = some r1) (k2 : kitB a b2 = some r2) (h : Q (.bl (r1 || r2)) H) : rIsiT K [x, .ref tp] H Q :=
  ⟨x, tp, [.ty b1, .ty b2], .type a, [.type b1, .type b2], r1 || r2, rfl, ht, .cons (.ty b1) (.cons (.ty b2) .nil), .base tx,
    kitAny_cons (kit_ty k1) (fun e => kitAny_cons (kit_ty k2) (fun e2 => by rw [e, e2]; exact kitAny_nil) (fun e2 => by rw [e2]; simp)) (fun e => by rw [e]; rfl), h⟩
theorem s_isiT2F {K : PySem.W.Frag} {H : Hp} {Q : VK} {x : V} {tp : Addr} {a b1 b2 : String} (ht : H tp = some (.tup [.ty b1, .ty b2])) (tx : TyOf K H x (.type a)) (k1 : kitB a b1 = some false) (k2 : kitB a b2 = some false) (h : Q (.bl false) H) : rIsiT K [x, .ref tp] H Q := s_isiT2 ht tx k1 k2 h
theorem kb_nl : kitB "NoneType" "list" = some false := by decide +kernel
theorem kb_nt : kitB "NoneType" "tuple" = some false := by decide +kernel
theorem kb_nb : kitB "NoneType" "bool" = some false := by decide +kernel
theorem kb_il : kitB "int" "list" = some false := by decide +kernel
theorem kb_it : kitB "int" "tuple" = some false := by decide +kernel
theorem kb_bl : kitB "bool" "list" = some false := by decide +kernel
theorem kb_bt : kitB "bool" "tuple" = some false := by decide +kernel
theorem lookup1 {f : Str} {v : V} : List.lookup f [(f, v)] = some v := by simp [List.lookup]
theorem s_xf {a C d : Addr} {f : Str} {v : V} {i : Nat} {σ : L2.St} {H : Hp} {Q : VK} (e : σ[i]? = some (some (.ref a))) (hx : H d = some (.xd [(f, v)])) (h : Q v H) : tXf a (.ref C) (some d) C f (tVar i) σ H Q := ⟨_, e, rfl, rfl, d, _, v, rfl, hx, lookup1, h⟩
/-- a list (or tuple) of tuples -/
abbrev TupsIn (H : Hp) : List V → List (List V) → Prop := Paired fun (x : V) (r : List V) => ∃ t, x = .ref t ∧ H t = some (.tup r)
theorem TupsIn.same {H H' : Hp} (s : Same H H') : ∀ {xs : List V} {rs : List (List V)}, TupsIn H xs rs → TupsIn H' xs rs
  | _, _, .nil => .nil
  | _, _, .cons ⟨t, e, h⟩ r => .cons ⟨t, e, s _ _ h⟩ (TupsIn.same s r)
theorem TupsIn.upd {H : Hp} {p : Addr} {o : HO} {zs : List V} (hp : H p = some (.lst zs)) : ∀ {xs : List V} {rs : List (List V)}, TupsIn H xs rs → TupsIn (L2.upd H p o) xs rs
  | _, _, .nil => .nil
  | _, _, .cons ⟨t, e, h⟩ r => .cons ⟨t, e, by rw [upd_ne (fun z => by rw [z, hp] at h; cases h)]; exact h⟩ (TupsIn.upd hp r)
theorem paired_snoc {α β : Type} {F : α → β → Prop} {x : α} {y : β} : ∀ {xs : List α} {ys : List β}, Paired F xs ys → F x y → Paired F (xs ++ [x]) (ys ++ [y])
  | _, _, .nil, f => .cons f .nil
  | _, _, .cons a r, f => .cons a (paired_snoc r f)
theorem paired_set {α β : Type} {F : α → β → Prop} {x : α} {y : β} : ∀ {xs : List α} {ys : List β} (j : Nat), Paired F xs ys → F x y → Paired F (xs.set j x) (ys.set j y)
  | _, _, _, .nil, _ => .nil
  | _, _, 0, .cons _ r, f => .cons f r
  | _, _, j + 1, .cons a r, f => .cons a (paired_set j r f)
theorem TupsIn.app {H H1 : Hp} {l t : Addr} {xs r : List V} {rs : List (List V)} (hl : H l = some (.lst xs)) (ht : TupsIn H xs rs) (s : Same H H1) (nt : H t = none) (et : H1 t = some (.tup r)) :
    TupsIn (L2.upd H1 l (.lst (xs ++ [.ref t]))) (xs ++ [.ref t]) (rs ++ [r]) :=
  paired_snoc (TupsIn.upd (s _ _ hl) (ht.same s)) ⟨t, rfl, by rw [upd_ne (ne_of_none hl nt).symm]; exact et⟩
theorem TupsIn.put {H H1 : Hp} {l t : Addr} {xs r : List V} {rs : List (List V)} (j : Nat) (hl : H l = some (.lst xs)) (ht : TupsIn H xs rs) (s : Same H H1) (nt : H t = none) (et : H1 t = some (.tup r)) :
    TupsIn (L2.upd H1 l (.lst (xs.set j (.ref t)))) (xs.set j (.ref t)) (rs.set j r) :=
  paired_set j (TupsIn.upd (s _ _ hl) (ht.same s)) ⟨t, rfl, by rw [upd_ne (ne_of_none hl nt).symm]; exact et⟩
theorem take_more {α : Type} {xs : List α} {i : Nat} {x : α} (h : xs[i]? = some x) : xs.take (i + 1) = xs.take i ++ [x] := by
  rw [List.take_succ, h]; rfl
theorem pget {α β : Type} {F : α → β → Prop} : ∀ {xs : List α} {ys : List β} {i : Nat} {x : α}, Paired F xs ys → xs[i]? = some x → ∃ y, ys[i]? = some y ∧ F x y
  | _, _, _, _, .nil, e => by simp at e
  | _, _, 0, _, .cons f _, e => by simp at e; subst e; exact ⟨_, rfl, f⟩
  | _, _, i + 1, x, .cons _ r, e => by
    obtain ⟨y, h1, h2⟩ := pget (i := i) r (by simpa using e)
    exact ⟨y, by simpa using h1, h2⟩
theorem pget' {α β : Type} {F : α → β → Prop} : ∀ {xs : List α} {ys : List β} {i : Nat} {y : β}, Paired F xs ys → ys[i]? = some y → ∃ x, xs[i]? = some x ∧ F x y
  | _, _, _, _, .nil, e => by simp at e
  | _, _, 0, _, .cons f _, e => by simp at e; subst e; exact ⟨_, rfl, f⟩
  | _, _, i + 1, x, .cons _ r, e => by
    obtain ⟨y, h1, h2⟩ := pget' (i := i) r (by simpa using e)
    exact ⟨y, by simpa using h1, h2⟩
theorem s_isN {H : Hp} {Q : VK} (h : Q (.bl true) H) : L2.rIsN .non .non H Q := ⟨rfl, by rw [decide_eq_true rfl]; exact h⟩
theorem s_isNi {H : Hp} {Q : VK} {i : Int} (h : Q (.bl false) H) : L2.rIsN (.int i) .non H Q := ⟨rfl, by rw [decide_eq_false (by intro z; cases z)]; exact h⟩
def RgQ (Q : VK) (x y : V) (H : Hp) : Prop := ∃ i j, x = .int i ∧ y = .int j ∧ RgOk i j ∧ ∀ q, H q = none → Q (.ref q) (upd H q (.lst (rgV i j)))
theorem s_bm0 {K : PySem.W.Frag} {T : String} {r : V → List V → Hp → VK → Prop} {ta : TE} {σ : L2.St} {H : Hp} {Q : VK} (h : ta σ H fun x H1 => tyV K T x H1 ∧ r x [] H1 Q) : tBM0 K T r ta σ H Q := h
theorem s_lrg2 {ta tb : TE} {σ : L2.St} {H : Hp} {Q : VK} (h : ta σ H fun x H1 => tb σ H1 fun y H2 => RgQ Q x y H2) : tLstRg (tRg2 ta tb) σ H Q := h
theorem s_lc {wi : TI} {g : TG} {tt : TT} {te : TE} {vs : List Nat} {σ : L2.St} {H : Hp} {Q : VK} (h : wi σ H fun J H1 => tLc (fun _ _ R => R J H1) g tt te vs σ H1 Q) : tLc wi g tt te vs σ H Q := h
theorem call_isiK (K : PySem.W.Frag) {X : Cx} (h : X.K = K) : CallR X (.builtin "isinstance") (rIsi K) := h ▸ call_isi
theorem ix_seqK (K : PySem.W.Frag) {X : Cx} (h : X.K = K) : IxR X (rIx K) := h ▸ ix_seq
theorem s_isNb {H : Hp} {Q : VK} {i : Bool} (h : Q (.bl false) H) : L2.rIsN (.bl i) .non H Q := ⟨rfl, by rw [decide_eq_false (by intro z; cases z)]; exact h⟩
theorem s_isNr {H : Hp} {Q : VK} {i : Addr} (h : Q (.bl false) H) : L2.rIsN (.ref i) .non H Q := ⟨rfl, by rw [decide_eq_false (by intro z; cases z)]; exact h⟩
theorem s_notN {H : Hp} {Q : VK} (h : Q (.bl false) H) : L2.rNotN .non .non H Q := ⟨rfl, by rw [decide_eq_true rfl]; exact h⟩
theorem s_notNi {H : Hp} {Q : VK} {i : Int} (h : Q (.bl true) H) : L2.rNotN (.int i) .non H Q := ⟨rfl, by rw [decide_eq_false (by intro z; cases z)]; exact h⟩
theorem s_notNr {H : Hp} {Q : VK} {i : Addr} (h : Q (.bl true) H) : L2.rNotN (.ref i) .non H Q := ⟨rfl, by rw [decide_eq_false (by intro z; cases z)]; exact h⟩
theorem fn_or {P : Program} {w : World} {K : PySem.W.Frag} {mg : Str → Option Value} {base : Heap} {CX : CXT} {k : Nat} {f : Addr} {fd : FuncData} {ps : List Str} {sp sp1 sp2 : Sp} (F1 : FnOk P w K mg base CX k f fd ps sp1) (F2 : FnOk P w K mg base CX k f fd ps sp2)
    (h : ∀ vs H Q E, sp vs H Q E → sp1 vs H Q E ∨ sp2 vs H Q E) : FnOk P w K mg base CX k f fd ps sp :=
  ⟨fun vs H Q E q => (h vs H Q E q).elim (F1.len vs H Q E) (F2.len vs H Q E), fun A outer s H args us vs Q E hr he hb hv hs => (h vs H Q E hs).elim (F1.run A outer s H args us vs Q E hr he hb hv) (F2.run A outer s H args us vs Q E hr he hb hv)⟩
/-! loops -/
section
variable {c : TT} {tb : TS} {D : Ends} {σ : L2.St} {H : Hp}
/-- the int in a slot -/
def iv (σ : L2.St) (i : Nat) : Int := match σ[i]? with
  | some (some (V.int r)) => r
  | _ => 0
def WW (Pv : L2.St → Hp → Prop) (μ : L2.St → Hp → Nat) : Nat → L2.St → Hp → Prop := fun m σ H => m = μ σ H ∧ Pv σ H
theorem s_while (Pv : L2.St → Hp → Prop) (μ : L2.St → Hp → Nat) (h0 : Pv σ H)
    (hs : ∀ σ H, Pv σ H → c σ H fun b H1 => if b = true then ∃ N : L2.St → Hp → Prop, (∀ σ' H', N σ' H' → ∃ m', m' < μ σ H ∧ WW Pv μ m' σ' H') ∧ tb { D with nx := N, ct := N, bk := D.nx } σ H1 else D.nx σ H1) : tWhile c tb D σ H :=
  ⟨WW Pv μ, ⟨_, rfl, h0⟩, fun m σ H ⟨e, p⟩ => by subst e; exact hs σ H p⟩
theorem s_turn {Pv : L2.St → Hp → Prop} {μ : L2.St → Hp → Nat} {m : Nat} (h : tb { D with nx := fun σ' H' => Pv σ' H' ∧ μ σ' H' < m, ct := fun σ' H' => Pv σ' H' ∧ μ σ' H' < m, bk := D.nx } σ H) :
    ∃ N : L2.St → Hp → Prop, (∀ σ' H', N σ' H' → ∃ m', m' < m ∧ WW Pv μ m' σ' H') ∧ tb { D with nx := N, ct := N, bk := D.nx } σ H := ⟨_, fun σ' H' p => ⟨_, p.2, rfl, p.1⟩, h⟩
end
/-! numbers -/
def CDivF (_ j : Int) : Prop := j ≠ 0 ∧ j.natAbs.log2 < 9000
section
variable {X : Cx}
theorem op_divF : OpR X (binaryOp .FloorDiv) (rI CDivF fun i j => .int (i.fdiv j)) := opI fun _ _ _ _ _ _ _ hc q => floordiv_int hc.1 q (.inl (PyProof.noPylong_of_log2 hc.2))
end
theorem divW {a j : Int} (h : 0 < j) (h2 : j.natAbs < 2 ^ 2000) : CDivW a j := wide_div h h2 (by decide) (by decide)
theorem divF {a j : Int} (h : j ≠ 0) (h2 : j.natAbs < 2 ^ 2000) : CDivF a j := ⟨h, Nat.lt_of_lt_of_le (PySem.Flt.log2_lt_of (by decide) h2) (by decide)⟩
theorem mulW {a b : Int} (h1 : a.natAbs < 2 ^ 2000) (h2 : b.natAbs < 2 ^ 2000) : CMulW a b := wide_mul h1 h2 (by decide) (by decide) (by decide)
/-- a law over a head by facts: its last step, the script's sizes told -/
theorem walk_ofEB {l : PySem.W.OpenLaw} {n k : Nat} {qv : Program} {ls : List Str} {XP : (Str → Option Value) → Heap → Prop} {YP : World → Heap → Prop} {dr : DefRec} {CX : World → CXT} {prm : Str}
    (hmost : l.most = some n) (hline : n ≤ sizeLine) (hnod : dr.params.defaults = []) (room : Room k callerA)
    (F : ∀ (w : World) (mg : Str → Option Value) (fa : Addr) (hp : Heap), YP w hp → hp.Ns mainGlobals mg → mg dr.name = some (.ref fa) →
      ∃ (Kf : PySem.W.Frag) (fdt : FuncData) (sp : Sp), Kf.In hp ∧ (∀ (s : Shared) (u : Value), BindsTo s fdt ⟨[u], []⟩ [(prm, u)]) ∧
        (∀ (H : Hp) (a : Addr) (ns : List Int), ns.length ≤ n → (∀ z ∈ ns, Builtin.Int.intBits z ≤ 1048576) → Only H → SqL Kf H a (ns.map V.int) → sp [.ref a] H (fun v _ => v = .bl true) fun _ _ _ => False) ∧
        ∀ base : Heap, Kf.In base → base.Ns mainGlobals mg → FnOk l.prog w Kf mg base (CX w) k fa fdt [prm] sp)
    (none_out : ∀ (w : World) (H : Hp) (s : Shared) (e : Value) (s' : Shared), CX w [] H s (fun _ _ _ => False) e s' → False) :
    PySem.W.WalkO qv ls XP YP l.row.toRowW dr [] (fun f vs => PySem.call f vs) := by
  refine Att.attach_callB hmost hnod fun w s₀ s₁ mg _ fa _ _ _ _ a _ ns G Y _ _ _ gN ob1 xis len bits run => ?_
  obtain ⟨Kf, fdt, sp, kin, bnd, last, fok⟩ := F w mg fa _ Y G.T.g gN
  exact law_call kin G.T.g G.T.b G.T.builtins G.T.nolimit run ob1 xis (Nat.le_trans len hline) room fok bnd (fun H only sq => last H a ns len bits only sq) fun H e s' => none_out w H s₁ e s'
theorem cx0_no {P : Program} (w : World) (H : Hp) (s : Shared) (e : Value) (s' : Shared) (h : CX0 [] H s (fun _ _ _ => False) e s') : False := h
/-! what the head tells: facts as tests of the written part, defs at any address -/
abbrev FB := PySem.W.Frag → Bool
def toldR (fb : List FB) (fn : List He5.DefA) (K : PySem.W.Frag) : He.AlD := ((fb.all fun t => t K) && (fn.all fun e => e.ok K), fn.map fun e => He5.fnA K (e.at_ K))
def dueR (fn : List He5.DefA) : He.AlD := (true, fn.map He5.DefA.val)
def Told (fb : List FB) (fn : List He5.DefA) (K : PySem.W.Frag) : Prop := toldR fb fn K = dueR fn
def toldG (n : Nat) (fb : List FB) (fn : List He5.DefA) (g : Addr → Option Obj) : He.AlD := toldR fb fn (He.frG g (He5.asA g n))
def hookR (n : Nat) (fb : List FB) (fn : List He5.DefA) : PySem.W.Hook where
  α := He.AlD
  obs := fun st => toldG n fb fn st.heap.get?
  val := fun _ => dueR fn
  says := fun _ hp => ∃ Kf : PySem.W.Frag, Kf.In hp ∧ Told fb fn Kf
  of := fun _ _ eq => ⟨_, He.frG_in, eq⟩
  keeps := fun _ _ _ ⟨Kf, hin, tl⟩ kp => ⟨Kf, PySem.W.Frag.In.keeps hin kp, tl⟩
theorem toldG_eq {n : Nat} {fb : List FB} {fn : List He5.DefA} {g : Addr → Option Obj} {st : Shared} (h : ∀ a, g a = st.heap.get? a) : toldG n fb fn g = (hookR n fb fn).obs st := by
  have eg : g = st.heap.get? := funext h
  rw [eg] <;> rfl
theorem Told.fact {fb : List FB} {fn : List He5.DefA} {K : PySem.W.Frag} (tl : Told fb fn K) (i : Nat) {t : FB} (h : fb[i]? = some t := by rfl) : t K = true := by
  have e0 : ((fb.all fun t => t K) && (fn.all fun e => e.ok K)) = true := congrArg Prod.fst tl
  exact List.all_eq_true.mp (Bool.and_eq_true_iff.mp e0).1 t (List.mem_of_getElem? h)
theorem Told.dfn {fb : List FB} {fn : List He5.DefA} {K : PySem.W.Frag} (tl : Told fb fn K) (i : Nat) {e : He5.DefA} (h : fn[i]? = some e := by rfl) : ∃ fd, FunD K e.name e.qual e.params e.body e.scope (e.dvs K) (e.kws K) (e.at_ K) fd := by
  have e0 : ((fb.all fun t => t K) && (fn.all fun e => e.ok K)) = true := congrArg Prod.fst tl
  have e1 : fn.map (fun e => He5.fnA K (e.at_ K)) = fn.map He5.DefA.val := congrArg Prod.snd tl
  have e2 := congrArg (fun l => l[i]?) e1
  simp only [List.getElem?_map, h, Option.map_some] at e2
  exact He5.DefA.funD (Option.some.inj e2) (List.all_eq_true.mp (Bool.and_eq_true_iff.mp e0).2 e (List.mem_of_getElem? h))
/-! own exception classes whose __init__ calls their base's and keeps one field -/
def oexB (C : Addr) : FB := fun K => (match K.lookup C with
  | some ⟨.type tn, _, .cls cd, sl⟩ => (match cd.mro, sl.toList with
    | .ref C' :: bm, [_, _, _, _, some (.builtin n), _] => decide (tn = "type") && (C' == C && (decide (n = "ValueError.__new__") && (!cd.hasDel && (cd.hasDict && PySem.HandSPX.refsVE bm))))
    | _, _ => false)
  | _ => false) && (decide (PySem.W.findIn K (.ref C) "__setattr__" = some (some (.builtin "object.__setattr__"))) && (decide (PySem.W.subIn K (.ref C) (.type "BaseException") = some true) && (decide (PySem.W.typeIn K (.ref C) = some (.type "type")) && PySem.W.keepIn K (.ref C))))
theorem oex_of {K : PySem.W.Frag} {C : Addr} (h : oexB C K = true) : OexC K C := by
  unfold oexB at h
  simp only [Bool.and_eq_true, decide_eq_true_eq] at h
  obtain ⟨h1, h2, h3, h4, h5⟩ := h
  refine ⟨?_, h2, h3, h4, h5⟩
  split at h1
  · rename_i tn dd cd sl ho
    split at h1
    · rename_i C' bm k0 k1 k2 k3 n k5 hm hs
      simp only [Bool.and_eq_true, beq_iff_eq, Bool.not_eq_true', decide_eq_true_eq] at h1
      obtain ⟨rfl, rfl, rfl, hdel, hdct, hr⟩ := h1
      obtain ⟨nm, bs, mro, ns, qn, hd, sn, sub, ab, col, del⟩ := cd
      dsimp only at hm hdel hdct
      subst hm hdel hdct
      have hsl : sl = #[k0, k1, k2, k3, some (.builtin "ValueError.__new__"), k5] := by
        obtain ⟨l⟩ := sl
        simp only at hs
        rw [hs]
      subst hsl
      exact ⟨nm, qn, ns, bs, bm, sn, sub, ab, col, dd, k0, k1, k2, k3, k5, ho, hr⟩
    · cases h1
  · cases h1
/-- the base P, whose __init__ is called through it -/
def baseB (C : Addr) : FB := fun K => PySem.W.readsIn K C (.type "type") && (decide (PySem.W.specialIn K (.ref C) "__getattribute__" = some (some (.builtin "type.__getattribute__"))) && (match PySem.W.findCls K (.ref C) (.type "type") "__init__" with
  | some (.val (.builtin n)) => decide (n = "ValueError.__init__")
  | _ => false))
structure BaseC (K : PySem.W.Frag) (C : Addr) : Prop where
  rd : PySem.W.readsIn K C (.type "type") = true
  ga : PySem.W.specialIn K (.ref C) "__getattribute__" = some (some (.builtin "type.__getattribute__"))
  at_ : PySem.W.findCls K (.ref C) (.type "type") "__init__" = some (.val (.builtin "ValueError.__init__"))
theorem base_of {K : PySem.W.Frag} {C : Addr} (h : baseB C K = true) : BaseC K C := by
  unfold baseB at h
  simp only [Bool.and_eq_true, decide_eq_true_eq] at h
  obtain ⟨h1, h2, h3⟩ := h
  refine ⟨h1, h2, ?_⟩
  split at h3
  · rename_i n e
    rw [e, of_decide_eq_true h3]
  · cases h3
section
variable {X : Cx} {e : Expr} {es : List Expr} {ta : TA} {p1 p2 pos : Pos}
/-- P.__init__(self, ..) -/
theorem pe_cinit {x : Str} {C : Addr} {pl : Sem Bool} (hg : Gl X x) (hm : X.mg x = some (.ref C)) (r : BaseC X.K C) (ha : PA X (e :: es) ta) (hdb : (x == ("__debug__" : Str)) = false := by decide)
    (hc : eval (.Call (.Attribute (.Name x p1) "__init__" p2) (e :: es) [] pos) X.env = (do
      let ov ← eval (.Name x p1) X.env
      standAt p2.atName
      let (f, fst) ← holding [ov] (getMethod ov "__init__" pl)
      callWith pos f fst (backTo pos (starEach (e :: es) X.env)) (backToKw pos (keywordEach [] X.env))) := by rfl)
    (he : starEach (e :: es) X.env = (false, eval e X.env) :: starEach es X.env := by rfl) (hpl : (backTo pos (starEach es X.env)).any (·.1) = false := by rfl) :
    PE X (.Call (.Attribute (.Name x p1) "__init__" p2) (e :: es) [] pos) (tVeI X.K ta) := by
  refine ⟨fun pins s σ H Q I h => ?_⟩
  refine PySem.W.methodCall_KW (ld_glob I hg hm ?_ hdb) hc
  refine PySem.W.method_cls I.kIn r.ga (PySem.W.cls_value I.kIn r.rd r.at_ (by decide +kernel) ?_)
  show wpAny _ _ (callWith pos (Value.builtin "ValueError.__init__") [] (backTo pos (starEach (e :: es) X.env)) []) _ _ _
  refine PyProof.Rows.callWith_method1 (thn (ha.run pos pins _ σ H _ (I.tok _) h) fun us s1 ⟨vs, H1, I1, r1, a, C, ws, ev, hl, T, ea, q⟩ => ?_) he hpl
  subst ev
  cases r1 with
  | @cons _ u0 _ ur ra rw' =>
    obtain rfl : u0 = Value.ref a := ra
    have hlen : ur.length ≤ sizeLine := by rw [← Paired.length rw']; exact len_le hl
    exact oinit_ok T I1 ea hlen fun s' J => ⟨.non, H1, J, rfl, q⟩
end
/-! isinstance of a caught own error, with or without a dict of its own -/
structure IsX (K : PySem.W.Frag) (D : Addr) : Prop where
  ga : PySem.W.findIn K (.ref D) "__getattribute__" = some (some (.builtin "BaseException.__getattribute__"))
  gg : PySem.W.findIn K (.ref D) "__getattr__" = some none
  sub : PySem.W.subIn K (.ref D) (.type "BaseException") = some true
  dct : PySem.W.hasDictIn K D = true
  cl : PySem.W.findIn K (.ref D) "__class__" = some (some (.builtin "object.__class__"))
  gt : PySem.W.specialIn K (.builtin "object.__class__") "__get__" = some (some (.builtin "getset_descriptor.__get__"))
  tk : PySem.W.takesIn K (.builtin "object.__class__") = some true
  mro : PySem.W.mroIn K D (.type "object") = some true
def isxB (x : Str) : FB := fun K => decide (PySem.W.findIn K (.ref (He.ga K x)) "__getattribute__" = some (some (.builtin "BaseException.__getattribute__"))) && (decide (PySem.W.findIn K (.ref (He.ga K x)) "__getattr__" = some none) &&
  (decide (PySem.W.subIn K (.ref (He.ga K x)) (.type "BaseException") = some true) && (PySem.W.hasDictIn K (He.ga K x) && (decide (PySem.W.findIn K (.ref (He.ga K x)) "__class__" = some (some (.builtin "object.__class__"))) &&
  (decide (PySem.W.specialIn K (.builtin "object.__class__") "__get__" = some (some (.builtin "getset_descriptor.__get__"))) && (decide (PySem.W.takesIn K (.builtin "object.__class__") = some true) && decide (PySem.W.mroIn K (He.ga K x) (.type "object") = some true)))))))
theorem isx_of {K : PySem.W.Frag} {x : Str} (h : isxB x K = true) : IsX K (He.ga K x) := by
  unfold isxB at h
  simp only [Bool.and_eq_true, decide_eq_true_eq] at h
  obtain ⟨h1, h2, h3, h4, h5, h6, h7, h8⟩ := h
  exact ⟨h1, h2, h3, h4, h5, h6, h7, h8⟩
end R
namespace PySem.W
open PySem PySem.Spec PySem.Calls PyProof.Rows
section
variable {prog : Program} {w : World} {A : Around} {E : Value → Shared → Prop} {s : Shared} {K : Frag} {x D : Addr} {ox : Obj} {od : Option Obj}
theorem r_findcls (T : R.IsX K D) : findObj K D od "__class__" = some (.bind (.builtin "getset_descriptor.__get__") (.builtin "object.__class__")) := by
  obtain ⟨cd, e1, _⟩ := any_some T.dct
  unfold findObj
  simp [e1, T.cl, T.gt, T.tk]
theorem r_readcls {Q : Option Value → Shared → Prop} (T : R.IsX K D) (X : K.In s.heap) (I : InstAt s.heap x ox D od) (h : Q (some (.ref D)) { s with toks := s.toks + 1 }) : wpAny (model prog w) A (getAttr? (.ref x) "__class__") Q E s := by
  obtain ⟨hp, gn, dr, tk, os⟩ := s
  have l0 := I.type (M := model prog w)
  have l1 := looks_findIn (M := model prog w) X T.ga
  have l2 := looks_findIn (M := model prog w) X T.gg
  have l3 := looks_find (M := model prog w) X I (r_findcls (od := od) T)
  have lsub : Looks (model prog w) hp (isInstance (.ref x) (.type "BaseException")) true := l0.andThen (looks_subIn X T.sub)
  have n1 : (Value.builtin "BaseException.__getattribute__" == Value.builtin "object.__getattribute__") = false := by decide +kernel
  have n2 : (onTheHeap (Value.ref D) && Value.builtin "BaseException.__getattribute__" == Value.builtin "object.__getattribute__") = false := by rw [n1]; rfl
  have n3 : (false && onTheHeap (Value.builtin "BaseException.__getattribute__")) = false := rfl
  unfold getAttr? getAttrBy? getAttrBy
  refine wpAny_bind (wpAny_mkText (wpAny_bind (wpAny_attempt (wpAny_holding (wpAny_bind (l0.at (wpAny_bind (l1.at ?_))))))))
  show wpAny _ _ (if (onTheHeap (Value.ref D) && Value.builtin "BaseException.__getattribute__" == Value.builtin "object.__getattribute__") = true then _ else _) _ _ _
  rw [n2, if_neg Bool.false_ne_true]
  unfold getAttrByItsOwn hookBefore
  refine wpAny_bind ?_
  rw [if_pos (show onTheHeap (Value.ref D) = true from rfl)]
  refine l2.at ?_
  refine wpAny_bind (wpAny_attempt (wpAny_holding ?_))
  unfold callGetattribute
  rw [n3, if_neg Bool.false_ne_true]
  unfold boundAndCalled
  rw [PySem.F.excAttr_ValueError.ga.bind (.ref x)]
  refine wpAny_bind (wpAny_pure ?_)
  show wpAny _ _ (call (.builtin "BaseException.__getattribute__") [.ref x, .str "__class__" tk]) _ _ _
  refine wpAny_call (codeAny_call_builtin PySem.F.excAttr_ValueError.ga.plain PySem.F.entry_bexc_ga ?_)
  refine @check_slot (model prog w) _ _ ⟨hp, gn, dr, tk + 1, os⟩ "BaseException.__getattribute__" "BaseException" "__getattribute__" (.ref x) [.str "__class__" tk] [] _ (by decide +kernel) (by decide +kernel) lsub (PySem.F.args_bexc_ga (.ref x) (.str "__class__" tk)) ?_
  unfold Builtin.«object.__getattribute__»
  refine wpAny_bind (wpAny_of_eq (a := ((Value.ref x : Value), [Value.str "__class__" tk])) (by first | rfl | (simp only [slotArgs]; rfl)) ?_)
  refine wpAny_bind (wpAny_pure (wpAny_bind (l0.at (wpAny_bind (l3.at ?_)))))
  show wpAny _ _ (holding [Value.builtin "object.__class__"] (call (.builtin "getset_descriptor.__get__") [.builtin "object.__class__", .ref x, .ref D]) >>= ret) _ _ _
  refine wpAny_bind (wpAny_holding (wpAny_call (class_get (s := ⟨hp, gn, dr, tk + 1, os⟩) (ox := ox) (od := od) X I T.mro ?_)))
  refine wpAny_pure ?_
  show wpAny _ _ (handedOut (.ref D)) _ _ _
  rw [handedOut_of (v := .ref D) rfl]
  first
    | exact wpAny_pure (wpAny_pure h)
    | exact wpAny_pure h
    | exact wpAny_pure (wpAny_bind (wpAny_pure (wpAny_pure h)))
theorem r_kit (T : R.IsX K D) : KitX K (.ref x) (.ref D) (fun hp => InstAt hp x ox D od) where
  ty := fun _ _ _ I => I.type
  it := fun _ _ X _ => by
    obtain ⟨cd, e1, _⟩ := any_some T.dct
    unfold clsIn at e1
    split at e1
    · rename_i _ _ _ _ at_
      intro A' Q' E' s' k q
      unfold isType loadHead
      exact wpAny_bind (wpAny_loadPart (k _ _ (X _ _ at_)) (wpAny_pure q))
    · cases e1
  ne := fun hp tp dd its n sl X at_tp => by
    obtain ⟨cd, e1, _⟩ := any_some T.dct
    refine Bool.eq_false_iff.mpr fun q => ?_
    obtain rfl : D = tp := Value.ref.inj (beq_iff_eq.mp q)
    unfold clsIn at e1
    split at e1
    · rename_i _ _ _ _ at_
      exact nomatch (X _ _ at_).symm.trans at_tp
    · cases e1
  ca := fun X I k => r_readcls T X I k
end
end PySem.W
namespace R
open PySem PySem.Spec PyProof.Rows L2
theorem callIsX {X : Cx} {a D : Addr} {oe : Obj} {d : Option Addr} {pn : List (Addr × Obj)} (T : IsX X.K D) (hz : Zc (.ref D) d oe) (hf : ∃ vs, oe.data = .fields vs) :
    CallR (X.suite a ((a, oe) :: pn)) (.builtin "isinstance") (fun xs H Q => ∃ fs, (∀ dd, d = some dd → H dd = some (.xd fs)) ∧ rIsE X.K D a xs H Q) := by
  intro pins s σ H xs us Q I r h
  obtain ⟨fs, hdd, c, cv, b, rfl, hcv, e, q⟩ := h
  cases r with
  | cons rx rr =>
    cases rr with
    | cons rt rr =>
      cases rr
      cases rx
      have ec := hcv _ rt
      subst ec
      obtain ⟨hget, _⟩ := I.pin (a, oe) (List.mem_append.mpr (.inl List.mem_cons_self))
      obtain ⟨vs, hv⟩ := hf
      have J : ∃ od, PySem.W.InstAt s.heap a oe D od := by
        obtain ⟨oc, dd, oda, osl⟩ := oe
        obtain ⟨h1, h2⟩ := hz
        dsimp only at h1 h2 hv
        subst h1 h2 hv
        cases dd with
        | none => exact ⟨none, hget, rfl, rfl, trivial⟩
        | some dx =>
          obtain ⟨mA, hns, _⟩ : ObjOk X.prog X.w H s.heap dx (.xd fs) := I.hok dx _ (hdd dx rfl)
          obtain ⟨o, _, _, ho, _⟩ := hns
          exact ⟨some o, hget, rfl, rfl, ho⟩
      obtain ⟨od, J⟩ := J
      exact PySem.W.kia_one (PySem.W.r_kit T) I.kIn J e (fun z => nomatch z) fun tk => ⟨.bl b, H, I.kept (t' := tk) fun _ _ z => z, rfl, q⟩
/-- isinstance(e, C), e the error that the suite holds: what is asked -/
def rIsXd (K : PySem.W.Frag) (D a : Addr) (d : Option Addr) : List V → Hp → VK → Prop := fun xs H Q => ∃ fs, (∀ dd, d = some dd → H dd = some (.xd fs)) ∧ rIsE K D a xs H Q
/-- what such a class is, its __init__ at fI, its field f -/
structure XIn (K : PySem.W.Frag) (C fI : Addr) (f : Str) : Prop where
  oex : OexC K C
  iC : PySem.W.findIn K (.ref C) "__init__" = some (some (.ref fI))
  tI : PySem.W.typeIn K (.ref fI) = some (.type "function")
  noF : PySem.W.findIn K (.ref C) f = some none
  xf : XfC K C
def xinB (x f : Str) : FB := fun K => oexB (He.ga K x) K && (decide (PySem.W.findIn K (.ref (He.ga K x)) "__init__" = some (some (.ref (He.ma K (He.ga K x) "__init__")))) && (decide (PySem.W.typeIn K (.ref (He.ma K (He.ga K x) "__init__")) = some (.type "function")) &&
  (decide (PySem.W.findIn K (.ref (He.ga K x)) f = some none) && xfB K (He.ga K x))))
theorem xin_of {K : PySem.W.Frag} {x f : Str} (h : xinB x f K = true) : XIn K (He.ga K x) (He.ma K (He.ga K x) "__init__") f := by
  unfold xinB at h
  simp only [Bool.and_eq_true, decide_eq_true_eq] at h
  obtain ⟨h1, h2, h3, h4, h5⟩ := h
  exact ⟨oex_of h1, h2, h3, h4, xfB_ok h5⟩
/-- __init__(self, v) of a class at C: the field is kept -/
def sp_init (K : PySem.W.Frag) (C : Addr) (f : Str) : Sp := fun vs H Q _ => ∃ (a : Addr) (v : V), vs = [.ref a, v] ∧ OexC K C ∧ PySem.W.findIn K (.ref C) f = some none ∧ H a = some (exo a C none) ∧
  ∀ dx, H dx = none → dx ≠ a → Q .non (upd (upd H dx (exd dx [(f, v)])) a (exo a C (some dx)))
theorem rd_init {K : PySem.W.Frag} {C : Addr} {f m : Str} {vs : List V} {H : Hp} {Q : VK} {E : XK} (h : sp_init K C f vs H Q E) :
    tSeq (tDrop (tVeI K (tCons (tVar 0) (tCons (tC (.str m)) tNil)))) (tOst K f (tVar 0) (tVar 1)) { nx := fun _ H' => Q .non H', rt := Q } (L2.start ["self", f] vs) H := by
  obtain ⟨a, v, rfl, T, hn, ha, k⟩ := h
  exact ⟨_, rfl, a, C, [.str m], rfl, by simp, T, ha, _, rfl, _, rfl, a, C, rfl, T, hn, .inl ⟨ha, fun dx h1 h2 => k dx h1 h2⟩⟩
section
variable {ta : TA} {σ : L2.St} {H : Hp} {QX : XK}
def RzP (C : Addr) (sp : Sp) (QX : XK) (vs : List V) (H1 : Hp) : Prop := vs.length ≤ 1000 ∧ ∀ a, H1 a = none → sp (.ref a :: (vs ++ [])) (upd H1 a (exo a C none))
  (fun v H2 => v = .non ∧ ∃ (d : Addr) (fs : List (Str × V)), H2 a = some (exo a C (some d)) ∧ H2 d = some (exd d fs) ∧ H1 d = none ∧ QX (.ref C) (some d) (upd (del H2 a) d (.xd fs))) (fun _ _ _ => False)
theorem s_mko {C : Addr} {sp : Sp} (h : ta σ H fun vs H1 => RzP C sp QX vs H1) : tMkO C sp [] ta σ H QX := h
theorem s_raise {K : PySem.W.Frag} {C : Addr} {f : Str} {v : V} (T : OexC K C) (hn : PySem.W.findIn K (.ref C) f = some none) (k : ∀ d H', H d = none → H' d = some (.xd [(f, v)]) → Same H H' → QX (.ref C) (some d) H') : RzP C (sp_init K C f) QX [v] H := by
  refine ⟨by simp, fun a ha => ⟨a, v, rfl, T, hn, upd_same, fun dx hdx hne => ⟨rfl, dx, [(f, v)], upd_same, ?_, ?_, ?_⟩⟩⟩
  · rw [upd_ne hne, upd_same]
  · rw [upd_ne hne] at hdx; exact hdx
  · rw [upd_ne hne] at hdx
    refine k dx _ hdx upd_same fun b o e => ?_
    have n1 : b ≠ dx := ne_of_none e hdx
    have n2 : b ≠ a := ne_of_none e ha
    rw [upd_ne n1, del_ne n2, upd_ne n2, upd_ne n1, upd_ne n2]
    exact e
end
/-! own exceptions without fields; isinstance of a caught error of any own class -/
section
variable {X : Cx} {C : Addr} {bmB : List Value} {B newId initId : String}
/-- X() -/
theorem pmk_own0 {x : Str} {p pos : Pos} (F : ExcBaseFacts B newId initId bmB) (q : PySem.W.excIn X.K C bmB newId = true) (gC : X.mg x = some (.ref C)) (kC : PySem.W.keepIn X.K (.ref C) = true) (r : Raises X (.ref C)) (hg : Gl X x)
    (hdb : (x == ("__debug__" : Str)) = false := by decide) : PMk X (.Call (.Name x p) [] [] pos) (fun _ H Q => Q (.ref C) none H) := by
  intro pins s σ H Q I h
  refine wpAny_Call_Name_kw (ld_glob I hg gC ?_ hdb)
  refine PySem.W.callWith_K0 I.kIn kC ?_
  obtain ⟨bm, N, nm, qn, bs, hdct, sn, sub, ab, col, dd, k0, k1, k2, k3, k5, mN, hC, hN, hni, T⟩ := exc_obj I.kIn q
  refine wpAny_call_exc_subT F T hC hN hni (fun h' e hm => ?_) (Nat.zero_le _)
  exact mk_of I hm r h (I.hok.gone hm.new)
end
def tRz (C : Addr) : L2.St → Hp → XK → Prop := fun _ H Q => Q (.ref C) none H
theorem s_rz {C : Addr} {σ : L2.St} {H : Hp} {Q : XK} (h : Q (.ref C) none H) : tRz C σ H Q := h
/-- a class without fields, raised -/
structure Exc0 (K : PySem.W.Frag) (C : Addr) : Prop where
  ex : PySem.W.excIn K C He.veBase "ValueError.__new__" = true
  kp : PySem.W.keepIn K (.ref C) = true
  sb : PySem.W.subIn K (.ref C) (.type "BaseException") = some true
  ty : PySem.W.typeIn K (.ref C) = some (.type "type")
theorem exc0_of {K : PySem.W.Frag} {x : Str} (c : (He.Fa.exc x).ok K = true) : Exc0 K (He.ga K x) := by
  obtain ⟨h1, h2, h3, h4⟩ := He.exc_ok c
  exact ⟨h1, h2, h3, h4⟩
theorem pmk_z {X : Cx} {C : Addr} {x : Str} {p pos : Pos} (F : Exc0 X.K C) (gC : X.mg x = some (.ref C)) (hg : Gl X x) (hdb : (x == ("__debug__" : Str)) = false := by decide) : PMk X (.Call (.Name x p) [] [] pos) (tRz C) :=
  pmk_own0 PySem.F.excBase_ValueError F.ex gC F.kp (raises_own F.sb F.ty) hg hdb
theorem pmk_zs {X : Cx} {C : Addr} {x m : Str} {j : Nat} {p p2 pos : Pos} (F : Exc0 X.K C) (gC : X.mg x = some (.ref C)) (hg : Gl X x) (hdb : (x == ("__debug__" : Str)) = false := by decide) : PMk X (.Call (.Name x p) [.Constant (.str m) j p2] [] pos) (tRz C) :=
  L2.pmk_own PySem.F.excBase_ValueError F.ex gC F.kp (raises_own F.sb F.ty) hg hdb
def kitcB (x y : Str) (b : Bool) : FB := fun K => decide (PySem.W.kitOne K (.ref (He.ga K x)) (.ref (He.ga K y)) = some b)
def kittB (x : Str) (y : String) (b : Bool) : FB := fun K => decide (PySem.W.kitOne K (.ref (He.ga K x)) (.type y) = some b)
theorem kitc_of {K : PySem.W.Frag} {x y : Str} {b : Bool} (h : kitcB x y b K = true) : PySem.W.kitOne K (.ref (He.ga K x)) (.ref (He.ga K y)) = some b := of_decide_eq_true h
theorem kitt_of {K : PySem.W.Frag} {x : Str} {y : String} {b : Bool} (h : kittB x y b K = true) : PySem.W.kitOne K (.ref (He.ga K x)) (.type y) = some b := of_decide_eq_true h
/-- isinstance(e, c) in an except suite, the class of e told in the reading -/
def rIsA (K : PySem.W.Frag) (cls : Value) (d : Option Addr) (a : Addr) : List V → Hp → VK → Prop := fun xs H Q => ∃ D, cls = .ref D ∧ IsX K D ∧ ∃ fs, (∀ dd, d = some dd → H dd = some (.xd fs)) ∧
  ∃ (c : V) (cv : Value) (b : Bool), xs = [.ref a, c] ∧ ClsV c cv ∧ PySem.W.kitOne K (.ref D) cv = some b ∧ Q (.bl b) H
def rIsAT (K : PySem.W.Frag) (cls : Value) (d : Option Addr) (a : Addr) : List V → Hp → VK → Prop := fun xs H Q => ∃ D, cls = .ref D ∧ IsX K D ∧ ∃ fs, (∀ dd, d = some dd → H dd = some (.xd fs)) ∧
  ∃ (tp : Addr) (cs : List V) (us : List Value) (b : Bool), xs = [.ref a, .ref tp] ∧ H tp = some (.tup cs) ∧ Paired ClsV cs us ∧ PySem.W.kitAny K (.ref D) us = some b ∧ Q (.bl b) H
section
variable {X : Cx} {a : Addr} {cls : Value} {oe : Obj} {d : Option Addr} {pn : List (Addr × Obj)}
theorem inst_of {D : Addr} {pins : List (Addr × Obj)} {σ : L2.St} {H : Hp} {s : Shared} {fs : List (Str × V)} (I : Inv (X.suite a ((a, oe) :: pn)) pins σ H s) (hz : Zc (.ref D) d oe) (hf : ∃ vs, oe.data = .fields vs) (hdd : ∀ dd, d = some dd → H dd = some (.xd fs)) : ∃ od, PySem.W.InstAt s.heap a oe D od := by
  obtain ⟨hget, _⟩ := I.pin (a, oe) (List.mem_append.mpr (.inl List.mem_cons_self))
  obtain ⟨vs, hv⟩ := hf
  obtain ⟨oc, dd, oda, osl⟩ := oe
  obtain ⟨h1, h2⟩ := hz
  dsimp only at h1 h2 hv
  subst h1 h2 hv
  cases dd with
  | none => exact ⟨none, hget, rfl, rfl, trivial⟩
  | some dx =>
    obtain ⟨mA, hns, _⟩ : ObjOk X.prog X.w H s.heap dx (.xd fs) := I.hok dx _ (hdd dx rfl)
    obtain ⟨o, _, _, ho, _⟩ := hns
    exact ⟨some o, hget, rfl, rfl, ho⟩
theorem callIsA (hz : Zc cls d oe) (hf : ∃ vs, oe.data = .fields vs) : CallR (X.suite a ((a, oe) :: pn)) (.builtin "isinstance") (rIsA X.K cls d a) := by
  intro pins s σ H xs us Q I r h
  obtain ⟨D, rfl, T, fs, hdd, c, cv, b, rfl, hcv, e, q⟩ := h
  obtain ⟨u1, u2, rfl, r1, r2⟩ := vals2 r
  cases (show u1 = Value.ref a from r1)
  have ec := hcv.eq r2
  subst ec
  obtain ⟨od, J⟩ := inst_of I hz hf hdd
  exact PySem.W.kia_one (PySem.W.r_kit T) I.kIn J e (fun z => nomatch z) fun tk => ⟨.bl b, H, I.kept (t' := tk) fun _ _ z => z, rfl, q⟩
theorem callIsAT (hz : Zc cls d oe) (hf : ∃ vs, oe.data = .fields vs) : CallR (X.suite a ((a, oe) :: pn)) (.builtin "isinstance") (rIsAT X.K cls d a) := by
  intro pins s σ H xs us Q I r h
  obtain ⟨D, rfl, T, fs, hdd, tp, cs, ws, b, rfl, hT, k, e, q⟩ := h
  obtain ⟨u1, u2, rfl, r1, r2⟩ := vals2 r
  cases (show u1 = Value.ref a from r1)
  cases (show u2 = Value.ref tp from r2)
  obtain ⟨od, J⟩ := inst_of I hz hf hdd
  obtain ⟨_, its, rv, o, h1, h2, n, h3⟩ := (show ObjOk X.prog X.w H s.heap tp (.tup cs) from I.hok tp _ hT)
  have e3 := ClsV.all k rv
  subst e3
  obtain ⟨oc, od', dt, sl⟩ := o
  simp only at h2 h3
  subst h2 h3
  exact PySem.W.kia_tup (PySem.W.r_kit T) I.kIn J h1 e (fun z => nomatch z) fun tk => ⟨.bl b, H, I.kept (t' := tk) fun _ _ z => z, rfl, q⟩
end
section
variable {K : PySem.W.Frag} {a D : Addr} {d : Option Addr} {H : Hp} {Q : VK} {fs : List (Str × V)} {b b1 b2 : Bool}
theorem s_isA {c : V} {cv : Value} (T : IsX K D) (hd : ∀ dd, d = some dd → H dd = some (.xd fs)) (hc : ClsV c cv) (e : PySem.W.kitOne K (.ref D) cv = some b) (h : Q (.bl b) H) : rIsA K (.ref D) d a [.ref a, c] H Q := ⟨D, rfl, T, fs, hd, c, cv, b, rfl, hc, e, h⟩
theorem s_isA0 {c : V} {cv : Value} (T : IsX K D) (hc : ClsV c cv) (e : PySem.W.kitOne K (.ref D) cv = some b) (h : Q (.bl b) H) : rIsA K (.ref D) none a [.ref a, c] H Q := s_isA (fs := []) T (fun _ z => nomatch z) hc e h
theorem s_isAT2 {tp : Addr} {c1 c2 : V} {v1 v2 : Value} (T : IsX K D) (hd : ∀ dd, d = some dd → H dd = some (.xd fs)) (ht : H tp = some (.tup [c1, c2])) (h1 : ClsV c1 v1) (h2 : ClsV c2 v2) (e1 : PySem.W.kitOne K (.ref D) v1 = some b1) (e2 : PySem.W.kitOne K (.ref D) v2 = some b2)
    (h : Q (.bl (b1 || b2)) H) : rIsAT K (.ref D) d a [.ref a, .ref tp] H Q :=
  ⟨D, rfl, T, fs, hd, tp, _, [v1, v2], b1 || b2, rfl, ht, .cons h1 (.cons h2 .nil), kitAny_cons e1 (fun q => kitAny_cons e2 (fun q2 => by rw [q, q2]; exact kitAny_nil) (fun q2 => by rw [q2]; simp)) (fun q => by rw [q]; rfl), h⟩
theorem s_isAT20 {tp : Addr} {c1 c2 : V} {v1 v2 : Value} (T : IsX K D) (ht : H tp = some (.tup [c1, c2])) (h1 : ClsV c1 v1) (h2 : ClsV c2 v2) (e1 : PySem.W.kitOne K (.ref D) v1 = some b1) (e2 : PySem.W.kitOne K (.ref D) v2 = some b2)
    (h : Q (.bl (b1 || b2)) H) : rIsAT K (.ref D) none a [.ref a, .ref tp] H Q := s_isAT2 (fs := []) T (fun _ z => nomatch z) ht h1 h2 e1 e2 h
end
/-! zip of two tuples, walked -/
theorem walk_zipT {K : PySem.W.Frag} {a b : Addr} {xs ys : List V} {n : Nat} (hn : n = min xs.length ys.length) : Walk (RZ.ItzT K a b) n (fun H => SqT K H a xs ∧ SqT K H b ys) (YPair (fun i => xs[i]?) (fun i => ys[i]?)) := by
  subst hn
  refine ⟨fun i _ hi q => ?_, fun _ q => ⟨xs, ys, q.1, q.2, by omega⟩, fun i H v H' _ q y => ?_⟩
  · have h1 : i < xs.length := by omega
    have h2 : i < ys.length := by omega
    exact ⟨xs, ys, xs[i], ys[i], q.1, q.2, by simp [h1], by simp [h2]⟩
  · obtain ⟨T, x, z, h1, h2, h3, h4, h5⟩ := y
    exact ⟨T, x, z, h1, h2, h3, h4 xs q.1, h5 ys q.2⟩
def ZipQ (K : PySem.W.Frag) (R : It → Hp → Prop) (vs : List V) (H1 : Hp) : Prop := ∃ a b xs ys, vs = [.ref a, .ref b] ∧ ((SqL K H1 a xs ∧ SqL K H1 b ys ∧ R (Itz K a b) H1) ∨ (SqT K H1 a xs ∧ SqT K H1 b ys ∧ R (RZ.ItzT K a b) H1))
theorem s_izip {K : PySem.W.Frag} {ta : TA} {σ : L2.St} {H : Hp} {R : It → Hp → Prop} (h : ta σ H fun vs H1 => ZipQ K R vs H1) : RZ.iZipA K ta σ H R := h
theorem s_gunl {K : PySem.W.Frag} {n : Nat} {t : TGs} {p : Addr} {xs : List V} {σ : L2.St} {H : Hp} {QS : L2.St → Hp → Prop} (h1 : SqL K H p xs) (h2 : xs.length = n) (h : t xs σ H QS) : L2.gUnl K n t (.ref p) σ H QS := ⟨p, xs, rfl, h1, h2, h⟩
end R
/-! the walk of a reading, as far as nothing is asked -/
local macro_rules | `(tactic| walk_at "g1") => `(tactic| first
  | with_reducible refine R.s_seq ?_
  | with_reducible refine R.s_asg ?_
  | ((with_reducible apply R.s_var); focus rfl)
  | with_reducible refine R.s_gname ?_
  | with_reducible refine R.s_op ?_
  | with_reducible refine R.s_c ?_
  | with_reducible refine R.s_cons ?_
  | with_reducible refine R.s_nil ?_
  | with_reducible refine R.s_i0 ?_
  | with_reducible refine R.s_p10_60 ?_
  | with_reducible refine R.s_p10_18 ?_
  | with_reducible refine R.s_p10_8 ?_
  | with_reducible refine R.s_p10_9 ?_
  | with_reducible refine R.s_p10_59 ?_
  | with_reducible refine R.s_p10_6 ?_
  | with_reducible refine R.s_p10_5 ?_
  | with_reducible refine R.s_p10_4 ?_
  | with_reducible refine R.s_p10_12 ?_
  | with_reducible refine R.s_p10_29 ?_
  | with_reducible refine R.s_p10_30 ?_
  | with_reducible refine R.s_p10_39 ?_
  | with_reducible refine R.s_p10_40 ?_
  | with_reducible refine R.s_p10_49 ?_
  | with_reducible refine R.s_p10_50 ?_
  | with_reducible refine R.s_p10_51 ?_
  | with_reducible refine R.s_p10_58 ?_
  | ((with_reducible refine R.s_pow7 ?_ ?_); focus omega)
  | ((with_reducible refine R.s_i ?_ ?_); focus (first | decide | exact R.mulW (by omega) (by omega) | exact R.divW (by decide) (by decide)))
  | with_reducible refine R.s_test ?_
  | with_reducible refine R.s_bl ?_
  | with_reducible refine R.s_ret ?_
  | with_reducible refine R.s_next ?_
  | with_reducible refine R.s_drop ?_
  | with_reducible refine R.s_un ?_
  | with_reducible refine R.s_u ?_
  | with_reducible refine R.s_tB ?_
  | with_reducible refine R.s_andc ?_
  | with_reducible refine R.s_orc ?_
  | with_reducible refine R.s_notc ?_
  | with_reducible refine R.s_andv ?_
  | with_reducible refine R.s_orv ?_
  | with_reducible refine R.s_notv ?_
  | with_reducible refine R.s_ifx ?_
  | with_reducible refine R.s_eqI ?_
  | with_reducible refine R.s_neI ?_
  | with_reducible refine R.s_eqB ?_
  | with_reducible refine R.s_eqS ?_
  | with_reducible refine R.s_neS ?_
  | with_reducible refine R.s_neB ?_
  | with_reducible refine R.s_tup ?_
  | with_reducible refine R.s_lst ?_
  | with_reducible refine R.s_par ?_
  | with_reducible refine R.s_par_ ?_
  | with_reducible refine R.s_par3 ?_
  | with_reducible refine R.s_par3_ ?_
  | with_reducible refine R.s_cb ?_
  | with_reducible refine R.s_call ?_
  | with_reducible refine R.s_turn ?_
  | with_reducible refine R.s_isi_ii ?_
  | with_reducible refine R.s_isi_ib ?_
  | with_reducible refine R.s_bm ?_
  | with_reducible refine R.s_intB ?_
  | with_reducible refine R.s_rng1 ?_
  | with_reducible refine R.s_rng2 ?_
  | with_reducible refine R.s_dget ?_
  | with_reducible refine R.s_gsub ?_
  | with_reducible refine R.s_pc ?_
  | with_reducible refine R.s_pn ?_
  | with_reducible refine R.s_dput ?_
  | with_reducible refine R.s_isN ?_
  | with_reducible refine R.s_isNi ?_
  | with_reducible refine R.s_isNr ?_
  | with_reducible refine R.s_isNb ?_
  | with_reducible refine R.s_bm0 ?_
  | with_reducible refine R.s_lrg2 ?_
  | with_reducible refine R.s_notN ?_
  | with_reducible refine R.s_notNi ?_
  | with_reducible refine R.s_notNr ?_
  | with_reducible refine R.s_chain ?_
  | with_reducible refine R.s_callS ?_
  | with_reducible refine R.s_mko ?_
  | with_reducible refine R.s_rz ?_
  | with_reducible refine R.s_izip ?_
  | with_reducible refine R.s_sl ?_
  | with_reducible refine R.s_nopart ?_
  | with_reducible refine R.s_part ?_
  | with_reducible refine R.s_int_ ?_
  | with_reducible refine R.s_ilist ?_
  | with_reducible refine R.s_itup ?_
  | with_reducible refine R.s_ref_ ?_
  | with_reducible refine R.s_for ?_
  | with_reducible refine R.s_yes ?_
  | with_reducible refine R.s_gcons ?_
  | with_reducible refine R.s_gnil ?_
  | with_reducible refine R.s_abs ?_
  | with_reducible refine R.s_max ?_
  | with_reducible refine R.s_min ?_
  | with_reducible refine R.s_iteT ?_
  | with_reducible refine R.s_iteF ?_
  | with_reducible refine R.s_iteNT ?_
  | with_reducible refine R.s_iteNF ?_
  | ((with_reducible refine R.s_itnP ?_ ?_); focus (with_reducible rfl))
  | ((with_reducible refine R.s_itP ?_ ?_); focus (with_reducible rfl)))
local macro_rules | `(tactic| walk_at "g") => `(tactic| repeat (first | walk_at "g1" | with_reducible refine R.s_if ?_))
local macro_rules | `(tactic| walk_at "h") => `(tactic| repeat (walk_at "g1"))

/-! several except clauses, some with a name -/
namespace R
open PySem PySem.Spec PyProof.Rows L2
def asEnds (i : Nat) (D : Ends) : Ends := { nx := fun σ' H' => D.nx (σ'.set i none) H', rt := D.rt, bk := fun σ' H' => D.bk (σ'.set i none) H', ct := fun σ' H' => D.ct (σ'.set i none) H' }
def asTs (i : Nat) (ts : Addr → Value → Option Addr → TS) : Addr → Value → Option Addr → TS := fun a cls d D σ H => ts a cls d (asEnds i D) (σ.set i (some (.ref a))) H
inductive HdsN (X : Cx) : List ExceptHandler → List (Value × (Addr → Value → Option Addr → TS)) → Prop
  | nil : HdsN X [] []
  | bare {x : Str} {c : Value} {ts : Addr → Value → Option Addr → TS} {b₀ : Stmt} {suite : List Stmt} {np pos' : Pos} {hds : List ExceptHandler} {l : List (Value × (Addr → Value → Option Addr → TS))} (hc : Names X x c)
      (hsu : ∀ (a : Addr) (oe : Obj) (cls : Value) (d : Option Addr) (pn : List (Addr × Obj)), Zc cls d oe → (∃ vs, oe.data = .fields vs) → PSs (X.suite a ((a, oe) :: pn)) (b₀ :: suite) (ts a cls d)) (r : HdsN X hds l) :
      HdsN X (.ExceptHandler (some (.Name x np)) none (b₀ :: suite) pos' :: hds) ((c, ts) :: l)
  | named {x n : Str} {i : Nat} {c : Value} {ts : Addr → Value → Option Addr → TS} {b₀ : Stmt} {suite : List Stmt} {np pos' : Pos} {hds : List ExceptHandler} {l : List (Value × (Addr → Value → Option Addr → TS))} (hN : X.N.Nodup) (hi : X.N[i]? = some n) (hln : X.env.kindOf n = some .local) (hc : Names X x c)
      (hsu : ∀ (a : Addr) (oe : Obj) (cls : Value) (d : Option Addr) (pn : List (Addr × Obj)), Zc cls d oe → (∃ vs, oe.data = .fields vs) → PSs (X.suite a ((a, oe) :: pn)) (b₀ :: suite) (ts a cls d)) (r : HdsN X hds l) :
      HdsN X (.ExceptHandler (some (.Name x np)) (some n) (b₀ :: suite) pos' :: hds) ((c, asTs i ts) :: l)
section
variable {X : Cx} {body : List Stmt} {h₀ : ExceptHandler} {hds : List ExceptHandler} {l : List (Value × (Addr → Value → Option Addr → TS))} {pos : Pos} {tb : WX → TS} {Wout : WX}
theorem ps_try_mix (hs : X.stack = X.env :: X.outer) (hf : X.env.frame = some X.env.locals) (tk : Takes X Wout)
    (hb : ∀ (W : WX) (pn : List (Addr × Obj)) (xe : Value → Shared → Prop), Takes (X.tr pn xe) W → PassesOwn (model X.prog X.w) X.A X.env xe → PSs (X.tr pn xe) body (tb W))
    (hh : HdsN X (h₀ :: hds) l) : PS X (.Try body (h₀ :: hds) [] [] pos) (fun D σ H => tb (wMany X.K Wout D l) D σ H) := by
  refine ⟨fun pins s σ H D I h => ?_⟩
  have ok := I.ok
  have hfr : X.A.frames = some (X.env :: X.outer) := by rw [ok.frames, hs]
  refine wpAny_Try_except ?_
  refine wpAny_mono ((hb (wMany X.K Wout D l) (X.pn ++ pins) (fun e s₁ => wpAny (model X.prog X.w) X.A (noteFrame e X.env) (fun _ s₂ => wpAny (model X.prog X.w) X.A (setFlight e none) (fun _ s₃ =>
    wpAny (model X.prog X.w) X.A (handleBy e X.env (h₀ :: hds)) (SP X pins D) X.xe s₃) X.xe s₂) X.xe s₁) (fun u s' xx => ?_) PassesOwn.looking).run [] s σ H D (I.toTry _) h) (fun f s1 hsp => ?_) (fun e s1 he => he)
  · -- the catch
    obtain ⟨a, B, sI, pins', σ', H', cls, d, rfl, J', nb, up, sky, na, os, ag, w⟩ := xx
    have J : Inv X pins σ' H' sI := J'.ofTry ok
    have sky' : Sky B (X.env :: X.outer) a (Zc cls d) X.env.locals s'.heap := by rw [← hs]; exact sky
    show wpAny (model X.prog X.w) X.A (noteFrame (.ref a) X.env) _ _ _
    refine Sky.land Zc.steady hfr hf sky' fun h3 fl3 up3 => ?_
    have J3 : Inv X pins σ' H' { s' with heap := h3 } := J.landed nb fl3.1 (up.trans up3) os ag
    obtain ⟨oe3, vs3, he3, hz3, hd3⟩ := fl3.there
    have notFr : ∀ {h : Heap} {o : Obj} {vs : Array Value}, h.FunFrames B (X.env :: X.outer) → h.get? a = some o → o.data = .fields vs → a ∉ frs (X.env :: X.outer) := fun {h o vs} ff e dd hm => by
      obtain ⟨_, o', e', hnf⟩ := ff.mem hm
      rw [e] at e'; cases e'
      exact hnf _ dd
    have nfr := notFr fl3.2.2.1 he3 hd3
    have nL : a ≠ X.env.locals := fun z => nfr (List.mem_filterMap.mpr ⟨X.env, List.mem_cons_self, by rw [hf, z]⟩)
    have nF : a ∉ X.fs := fun hm => by
      obtain ⟨e, he, q⟩ := List.mem_filterMap.mp hm
      exact nfr (List.mem_filterMap.mpr ⟨e, List.mem_cons_of_mem _ he, q⟩)
    have S3 := J3.suite he3 hd3 na nL nF
    have go : ∀ {hds' : List ExceptHandler} {l' : List (Value × (Addr → Value → Option Addr → TS))}, HdsN X hds' l' → wMany X.K Wout D l' cls d σ' H' →
        wpAny (model X.prog X.w) X.A (handleBy (.ref a) X.env hds') (SP X pins D) X.xe { s' with heap := h3 } := by
      intro hds' l' hk
      induction hk with
      | nil =>
        intro w
        refine wpAny_handleBy_nil ?_
        obtain ⟨k1, k2, k3, oe, vs, T, oT, ts', he, hz, hd, h1, hr⟩ := id fl3
        unfold PySem.passOn
        refine wpAny_bind (wpAny_field he hd h1 ?_)
        rw [if_neg (show ¬ ((Value.ref T == Value.none) = true) from by simp)]
        have fin : wpAny (model X.prog X.w) X.A (setFlight (.ref a) X.env.frame) (fun _ s4 => wpAny (model X.prog X.w) X.A (throw (.ref a) : Sem Flow) (SP X pins D) X.xe s4) X.xe { s' with heap := h3 } := by
          rw [hf]
          refine HandSPX.setFlight_upZ fl3 fun h4 hh4 up4 => wpAny_throw (tk _ _ ?_)
          exact ⟨a, B, sI, pins, σ', H', cls, d, rfl, J, nb, (up.trans up3).trans up4, .inr (.inr (by rw [hs]; exact hh4)), na, os, ag, w⟩
        first
          | exact wpAny_bind (wpAny_pure (wpAny_bind fin))
          | exact wpAny_bind fin
      | @bare x c ts b₀ suite np pos' hds2 l2 hc hsu r ih =>
        intro w
        obtain ⟨b, hb1, hyes, hno⟩ := w
        refine wpAny_handleBy_cons (codeAny_handlers_test ?_) (by intro q; cases q)
        have LT : PySem.W.Looks (model X.prog X.w) h3 (typeOf (.ref a)) cls := fun A Q E s k q => wpAny_typeOf_ref (k _ _ he3) (by rw [hz3.1]; exact q)
        have LM := PySem.W.exm_one (M := model X.prog X.w) (J3.kIn) LT hb1
        have test : ∀ {Q : Value → Shared → Prop} {E : Value → Shared → Prop}, Q c { s' with heap := h3 } → wpAny (model X.prog X.w) (X.A.mark (some (.ref a))) (eval (.Name x np) X.env) Q E { s' with heap := h3 } := fun {Q E} q => by
          obtain ⟨hg, hdbg, hm | ⟨hm, hv, hnn⟩⟩ := hc
          · exact ld_glob (X := X.suite a ((a, oe3) :: (X.pn ++ pins))) S3 hg hm q hdbg
          · exact ld_blt (X := X.suite a ((a, oe3) :: (X.pn ++ pins))) S3 hg hm hv q hnn hdbg
        refine test (LM.here ?_)
        cases b with
        | true =>
          refine codeAny_handlers_suite ?_
          refine HandSPX.lands_againZ fl3 fun h4 fl4 up4 => ?_
          have J4 : Inv X pins σ' H' { s' with heap := h4 } := J.landed nb fl4.1 ((up.trans up3).trans up4) os ag
          obtain ⟨oe4, vs4, he4, hz4, hd4⟩ := fl4.there
          have S4 := J4.suite he4 hd4 na nL nF
          refine wpAny_mono ((hsu a oe4 cls d (X.pn ++ pins) hz4 ⟨_, hd4⟩).run [] _ _ H' _ S4 (hyes rfl a na)) (fun f s6 hsp => ?_) (fun _ _ z => False.elim z)
          cases f with
          | next =>
            obtain ⟨σ6, H6, S6, q6⟩ := hsp
            exact ⟨_, _, S6.unsuite ok, q6⟩
          | brk =>
            obtain ⟨σ6, H6, S6, q6⟩ := hsp
            exact ⟨_, _, S6.unsuite ok, q6⟩
          | cont =>
            obtain ⟨σ6, H6, S6, q6⟩ := hsp
            exact ⟨_, _, S6.unsuite ok, q6⟩
          | ret u =>
            obtain ⟨v6, σ6, H6, S6, r6, q6⟩ := hsp
            exact ⟨_, _, _, S6.unsuite ok, r6, q6⟩
        | false =>
          show wpAny _ X.A (handleBy (.ref a) X.env hds2) _ _ _
          exact ih (hno rfl)
      | @named x n i c ts b₀ suite np pos' hds2 l2 hN hi hln hc hsu r ih =>
        intro w
        obtain ⟨b, hb1, hyes, hno⟩ := w
        refine wpAny_handleBy_cons (codeAny_handlers_test ?_) (by intro q; cases q)
        have LT : PySem.W.Looks (model X.prog X.w) h3 (typeOf (.ref a)) cls := fun A Q E s k q => wpAny_typeOf_ref (k _ _ he3) (by rw [hz3.1]; exact q)
        have LM := PySem.W.exm_one (M := model X.prog X.w) (J3.kIn) LT hb1
        have test : ∀ {Q : Value → Shared → Prop} {E : Value → Shared → Prop}, Q c { s' with heap := h3 } → wpAny (model X.prog X.w) (X.A.mark (some (.ref a))) (eval (.Name x np) X.env) Q E { s' with heap := h3 } := fun {Q E} q => by
          obtain ⟨hg, hdbg, hm | ⟨hm, hv, hnn⟩⟩ := hc
          · exact ld_glob (X := X.suite a ((a, oe3) :: (X.pn ++ pins))) S3 hg hm q hdbg
          · exact ld_blt (X := X.suite a ((a, oe3) :: (X.pn ++ pins))) S3 hg hm hv q hnn hdbg
        refine test (LM.here ?_)
        cases b with
        | true =>
          refine codeAny_handlers_suite_as ?_
          refine HandSPX.lands_againZ fl3 fun h4 fl4 up4 => ?_
          have J4 : Inv X pins σ' H' { s' with heap := h4 } := J.landed nb fl4.1 ((up.trans up3).trans up4) os ag
          obtain ⟨oe4, vs4, he4, hz4, hd4⟩ := fl4.there
          have S4 := J4.suite he4 hd4 na nL nF
          have hloc : Loc X.env.scope n := .inl hln
          refine store_ok (X := X.suite a ((a, oe4) :: (X.pn ++ pins))) (v := .ref a) S4 hN hi hloc rfl (fun s5 S5 => ?_) (.inr hln)
          refine wpAny_mono ((hsu a oe4 cls d (X.pn ++ pins) hz4 ⟨_, hd4⟩).run [] s5 _ H' _ S5 (hyes rfl a na)) (fun f s6 hsp => ?_) (fun _ _ z => False.elim z)
          have end_ : ∀ {σ6 : L2.St} {H6 : Hp} {Q : Shared → Prop}, Inv (X.suite a ((a, oe4) :: (X.pn ++ pins))) [] σ6 H6 s6 → (∀ s7, Inv X pins (σ6.set i none) H6 s7 → Q s7) →
              wpAny (model X.prog X.w) X.A (do bindName X.env n .none; unbindBehindTheSuite X.env n pos') (fun _ s7 => Q s7) X.xe s6 := fun {σ6 H6 Q} S6 hq => gone_ok (S6.unsuite ok) hN hi hln hq
          cases f with
          | next =>
            obtain ⟨σ6, H6, S6, q6⟩ := hsp
            exact end_ S6 fun s7 J7 => ⟨_, _, J7, q6⟩
          | brk =>
            obtain ⟨σ6, H6, S6, q6⟩ := hsp
            exact end_ S6 fun s7 J7 => ⟨_, _, J7, q6⟩
          | cont =>
            obtain ⟨σ6, H6, S6, q6⟩ := hsp
            exact end_ S6 fun s7 J7 => ⟨_, _, J7, q6⟩
          | ret u =>
            obtain ⟨v6, σ6, H6, S6, r6, q6⟩ := hsp
            exact end_ S6 fun s7 J7 => ⟨_, _, _, J7, r6, q6⟩
        | false =>
          show wpAny _ X.A (handleBy (.ref a) X.env hds2) _ _ _
          exact ih (hno rfl)
    exact go hh w
  · cases f with
    | next =>
      obtain ⟨σ', H', J', q⟩ := hsp
      exact wpAny_execs_nil ⟨σ', H', J'.ofTry ok, q⟩
    | brk =>
      obtain ⟨σ', H', J', q⟩ := hsp
      exact ⟨σ', H', J'.ofTry ok, q⟩
    | cont =>
      obtain ⟨σ', H', J', q⟩ := hsp
      exact ⟨σ', H', J'.ofTry ok, q⟩
    | ret u =>
      obtain ⟨v, σ', H', J', r, q⟩ := hsp
      exact ⟨v, σ', H', J'.ofTry ok, r, q⟩
end
theorem s_asEnds {i : Nat} {D : Ends} {σ : L2.St} {H : Hp} (h : D.nx (σ.set i none) H) : (asEnds i D).nx σ H := h
end R

/-! exceptions made by hand, as values -/
namespace R
open PySem PySem.Spec PyProof.Rows L2
/-- an exception that was made, at a -/
def exq (a : Addr) (cls : Value) (d : Option Addr) : HO := .ext fun h => ∃ (oe : Obj) (vs : Array Value), h.get? a = some oe ∧ Zc cls d oe ∧ oe.data = .fields vs
theorem exq_at {P : Program} {w : World} {H : Hp} {h : Heap} {a : Addr} {cls : Value} {d : Option Addr} (hok : HOk P w H h) (he : H a = some (exq a cls d)) : ∃ (oe : Obj) (vs : Array Value), h.get? a = some oe ∧ Zc cls d oe ∧ oe.data = .fields vs := by
  have x : ObjOk P w H h a (.ext fun h => ∃ (oe : Obj) (vs : Array Value), h.get? a = some oe ∧ Zc cls d oe ∧ oe.data = .fields vs) := hok a _ he
  exact x.1
def tMkQ (t : L2.St → Hp → XK → Prop) : TE := fun σ H Q => t σ H fun cls d H' => ∀ a, H' a = none → Q (.ref a) (upd H' a (exq a cls d))
theorem pe_mk {X : Cx} {e : Expr} {t : L2.St → Hp → XK → Prop} (he : PMk X e t) : PE X e (tMkQ t) := by
  refine ⟨fun pins s σ H Q I h => ?_⟩
  refine thn (he pins s σ H _ I h) fun u s' ⟨a, oe, vs, sI, H', cls, d, eu, I1, kp, na, ha, hz, hd, _, nH, ho, hb, _, q⟩ => ?_
  subst eu
  have neA : ∀ {b : Addr} {o : Obj}, sI.heap.get? b = some o → b ≠ a := fun e z => by rw [z, na] at e; cases e
  have U : Un (frs X.stack) [] H' (upd H' a (exq a cls d)) sI.heap s'.heap := {
    keep := fun b o z n hf hx => kp b o z
    slot := fun b o z n hf hx => ⟨o.slots, kp b o z⟩
    free := fun b o z n hx => by rw [upd_ne (neA z)]; exact n
    there := fun b o z hx => ⟨o, kp b o z⟩
    tups := fun b xs z => by rw [upd_ne (ne_of_none z nH)]; exact z
    frzs := fun b o v z => by rw [upd_ne (ne_of_none z nH)]; exact z
    tbls := fun b ps z => ⟨#[], by rw [upd_ne (ne_of_none z nH), Array.append_empty]; exact z⟩ }
  have hok : HOk X.prog X.w (upd H' a (exq a cls d)) s'.heap := fun b o z => by
    by_cases hba : b = a
    · subst hba
      rw [upd_same] at z
      cases z
      exact ⟨⟨oe, vs, ha, hz, hd⟩, ⟨oe, ha⟩, fun h1 h2 ⟨oe', vs', g1, g2, g3⟩ k => ⟨oe', vs', k _ g1, g2, g3⟩⟩
    · rw [upd_ne hba] at z
      exact (I1.hok b o z).stay (fun c v hc y => kp c v y) (fun c hc => by rw [upd_ne (ne_of_none hc nH)]; exact hc) (fun c xs hc => by rw [upd_ne (ne_of_none hc nH)]; exact hc)
  exact ⟨.ref a, _, I1.call' (ch := []) ho U hok hb (fun b z => absurd z (by simp)), rfl, q a nH⟩
def tOat (K : PySem.W.Frag) (f : Str) (te : TE) : TE := fun σ H Q => te σ H fun x H1 => ∃ (a C dd : Addr) (fs : List (Str × V)) (v : V), x = .ref a ∧ H1 a = some (exq a (.ref C) (some dd)) ∧ H1 dd = some (.xd fs) ∧ XfC K C ∧ PySem.W.findIn K (.ref C) f = some none ∧ fs.lookup f = some v ∧ Q v H1
theorem pe_oat {X : Cx} {e : Expr} {te : TE} {pos : Pos} {n : Str} (he : PE X e te) (hb : attributeBase e n X.env (eval e X.env) = eval e X.env := by rfl) : PE X (.Attribute e n pos) (tOat X.K n te) := by
  refine ⟨fun pins s σ H Q I h => ?_⟩
  refine attr_of hb (thn (he.run pins s σ H _ I h) fun u s1 hh => ?_)
  obtain ⟨x, H1, I1, rx, a, C, dd, fs, v, ex, ha0, ea, T, hno, l, q⟩ := hh
  subst ex
  obtain rfl : u = Value.ref a := rx
  obtain ⟨oe, vs, ha, hz, hd⟩ := exq_at I1.hok ha0
  have hx : ObjOk X.prog X.w H1 s1.heap dd (.xd fs) := I1.hok dd _ ea
  obtain ⟨mA, hns, hr⟩ := hx
  obtain ⟨od, ho, hl⟩ := lookIn_ns hns
  obtain ⟨u, hu, ru⟩ := RelO.some_of (v := v) (o := mA n) (by rw [← l]; exact hr n)
  have J : PySem.W.InstAt s1.heap a oe C (some od) := ⟨ha, hz.1, by unfold PySem.W.notCls; rw [hd] <;> rfl, by rw [hz.2]; exact ho⟩
  exact HandSPX.exc_get I1.kIn J T.ga T.gg T.exC (PySem.W.findObj_own T.hdC hno rfl (by rw [hl, hu])) (handed_of ru) ⟨v, H1, I1.tok _, ru, q⟩
def rIsQ (K : PySem.W.Frag) : List V → Hp → VK → Prop := fun xs H Q => ∃ (a D : Addr) (d : Option Addr) (fs : List (Str × V)) (c : V) (cv : Value) (b : Bool), xs = [.ref a, c] ∧ H a = some (exq a (.ref D) d) ∧ IsX K D ∧ (∀ dd, d = some dd → H dd = some (.xd fs)) ∧ ClsV c cv ∧ PySem.W.kitOne K (.ref D) cv = some b ∧ Q (.bl b) H
theorem callIsQ {X : Cx} : CallR X (.builtin "isinstance") (rIsQ X.K) := by
  intro pins s σ H xs us Q I r h
  obtain ⟨a, D, d, fs, c, cv, b, rfl, ha, T, hdd, hcv, e, q⟩ := h
  obtain ⟨u1, u2, rfl, r1, r2⟩ := vals2 r
  cases (show u1 = Value.ref a from r1)
  have ec := hcv.eq r2
  subst ec
  obtain ⟨oe, vs, hget, hz, hv⟩ := exq_at I.hok ha
  have J : ∃ od, PySem.W.InstAt s.heap a oe D od := by
    obtain ⟨oc, dd, oda, osl⟩ := oe
    obtain ⟨h1, h2⟩ := hz
    dsimp only at h1 h2 hv
    subst h1 h2 hv
    cases dd with
    | none => exact ⟨none, hget, rfl, rfl, trivial⟩
    | some dx =>
      obtain ⟨mA, hns, _⟩ : ObjOk X.prog X.w H s.heap dx (.xd fs) := I.hok dx _ (hdd dx rfl)
      obtain ⟨o, _, _, ho, _⟩ := hns
      exact ⟨some o, hget, rfl, rfl, ho⟩
  obtain ⟨od, J⟩ := J
  exact PySem.W.kia_one (PySem.W.r_kit T) I.kIn J e (fun z => nomatch z) fun tk => ⟨.bl b, H, I.kept (t' := tk) fun _ _ z => z, rfl, q⟩
theorem s_mkq0 {C : Addr} {σ : L2.St} {H : Hp} {Q : VK} (h : ∀ (a : Addr) (H' : Hp), H a = none → H' a = some (exq a (.ref C) none) → Same H H' → Q (.ref a) H') : tMkQ (tRz C) σ H Q := fun a na => h a _ na upd_same (same_upd na)
theorem s_mkq {K : PySem.W.Frag} {C fI : Addr} {f : Str} {v : V} {σ : L2.St} {H : Hp} {Q : VK} (T : XIn K C fI f) (h : ∀ (a d : Addr) (H' : Hp), H' a = some (exq a (.ref C) (some d)) → H' d = some (.xd [(f, v)]) → Same H H' → Q (.ref a) H') :
    tMkQ (tMkO C (sp_init K C f) [] (tCons (tC v) tNil)) σ H Q := by
  show RzP C (sp_init K C f) (fun cls d H' => ∀ a, H' a = none → Q (.ref a) (upd H' a (exq a cls d))) [v] H
  refine s_raise T.oex T.noF fun d H' hd hx hs a na => ?_
  exact h a d _ upd_same (by rw [upd_ne (ne_of_none hx na)]; exact hx) (hs.trans (same_upd na))
theorem s_oat {K : PySem.W.Frag} {C fI : Addr} {f : Str} {v : V} {σ : L2.St} {H : Hp} {Q : VK} (T : XIn K C fI f) (h : ∀ H', Same H H' → Q v H') : tOat K f (tMkQ (tMkO C (sp_init K C f) [] (tCons (tC v) tNil))) σ H Q :=
  s_mkq T fun a d H' e1 e2 s => ⟨a, C, d, [(f, v)], v, rfl, e1, e2, T.xf, T.noF, by simp [List.lookup], h H' s⟩
end R

/-! the divisor of two numbers: what the loop keeps -/
namespace M
/-- what is told of a and b -/
structure DivOk (a b g u v : Int) : Prop where
  hg : g = (Int.gcd a b : Nat)
  eq : u * a + v * b = g
  hu : u.natAbs ≤ max 1 b.natAbs
  hv : v.natAbs ≤ max 1 a.natAbs
/-- behind the first turn: s the sign of g and rest, t that of u -/
structure DivIn (a b g u v r x y s t : Int) (G R U X q : Nat) : Prop where
  hs : s = 1 ∨ s = -1
  ht : t = 1 ∨ t = -1
  hg : g = s * G
  hr : r = s * R
  hu : u = t * U
  hx : x = -(t * X)
  lt : R < G
  px : 0 < X
  det : X * G + U * R = b.natAbs
  gcd : Nat.gcd G R = Int.gcd a b
  e1 : u * a + v * b = g
  e2 : x * a + y * b = r
  last : (U = 0 ∧ v = 1 ∧ g = b) ∨ (0 < U ∧ U * (q * G + R) ≤ b.natAbs ∧ G < q * G + R)
def DivSt (a b g u v r x y : Int) : Prop :=
  (g = a ∧ u = 1 ∧ v = 0 ∧ r = b ∧ x = 0 ∧ y = 1) ∨ (b ≠ 0 ∧ ∃ s t G R U X q, DivIn a b g u v r x y s t G R U X q)
theorem nabs_sign {s : Int} (hs : s = 1 ∨ s = -1) (n : Nat) : (s * (n : Int)).natAbs = n := by
  rcases hs with rfl | rfl <;> omega
theorem fdiv_sign {s : Int} (hs : s = 1 ∨ s = -1) (G R : Nat) : (s * (G : Int)).fdiv (s * R) = ((G / R : Nat) : Int) := by
  rcases hs with rfl | rfl
  · rw [Int.one_mul, Int.one_mul]; exact (Int.ofNat_fdiv G R).symm
  · rw [Int.neg_one_mul, Int.neg_one_mul, Int.neg_fdiv_neg]; exact (Int.ofNat_fdiv G R).symm
theorem fdiv_le (g r : Int) : (g.fdiv r).natAbs ≤ g.natAbs := by
  rcases Int.lt_trichotomy r 0 with h | h | h
  · have e : g.fdiv r = (-g).fdiv (-r) := (Int.neg_fdiv_neg g r).symm
    rw [e, Int.fdiv_eq_ediv_of_nonneg _ (by omega)]
    have := Int.natAbs_ediv_le_natAbs (-g) (-r)
    omega
  · subst h; simp
  · rw [Int.fdiv_eq_ediv_of_nonneg _ (by omega)]
    exact Int.natAbs_ediv_le_natAbs g r
theorem gcd_sub (a b q : Int) : Int.gcd b (a - q * b) = Int.gcd a b := by
  rw [Int.gcd_sub_mul_right_right]
  exact Int.gcd_comm _ _
theorem fmod_sign (a : Int) {b : Int} (hb : b ≠ 0) : ∃ s R, (s = 1 ∨ s = -1) ∧ b = s * (b.natAbs : Int) ∧ a - a.fdiv b * b = s * ((R : Nat) : Int) ∧ R < b.natAbs := by
  have e : a - a.fdiv b * b = a.fmod b := by rw [Int.fmod_def, Int.mul_comm]
  by_cases h : 0 < b
  · have h1 := Int.fmod_lt_of_pos a h
    have h2 := Int.fmod_nonneg_of_pos a h
    exact ⟨1, (a.fmod b).toNat, .inl rfl, by omega, by rw [e]; omega, by omega⟩
  · have h0 : 0 < -b := by omega
    have e2 : a.fmod b = -((-a).fmod (-b)) := by rw [Int.neg_fmod_neg]; omega
    have h1 := Int.fmod_lt_of_pos (-a) h0
    have h2 := Int.fmod_nonneg_of_pos (-a) h0
    exact ⟨-1, ((-a).fmod (-b)).toNat, .inr rfl, by omega, by rw [e, e2]; omega, by omega⟩
theorem gcd_signs {s : Int} (hs : s = 1 ∨ s = -1) (G R : Nat) : Int.gcd (s * (G : Int)) (s * R) = Nat.gcd G R := by
  unfold Int.gcd
  rw [nabs_sign hs, nabs_sign hs]
theorem div_step {a b g u v r x y : Int} (h : DivSt a b g u v r x y) (hr : r ≠ 0) :
    DivSt a b r x y (g - g.fdiv r * r) (u - g.fdiv r * x) (v - g.fdiv r * y) ∧ (g - g.fdiv r * r).natAbs < r.natAbs := by
  rcases h with ⟨rfl, rfl, rfl, rfl, rfl, rfl⟩ | ⟨hb, s, t, G, R, U, X, q, I⟩
  · obtain ⟨s, R, hs, e1, e2, lt⟩ := fmod_sign g hr
    refine ⟨.inr ⟨hr, s, -1, r.natAbs, R, 0, 1, 0, ⟨hs, .inr rfl, e1, e2, by omega, by omega, lt, by omega, by omega, ?_, by omega, ?_, .inl ⟨rfl, rfl, rfl⟩⟩⟩, ?_⟩
    · have h1 := gcd_sub g r (g.fdiv r)
      rw [e2] at h1
      conv at h1 => lhs; arg 1; rw [e1]
      rw [gcd_signs hs] at h1
      exact h1
    · grind
    · rw [e2, nabs_sign hs]; exact lt
  · obtain ⟨hs, ht, hg, hr', hu, hx, lt, px, det, gcd, e1, e2, last⟩ := I
    have hR : 0 < R := by
      rcases Nat.eq_zero_or_pos R with z | z
      · subst z; rw [hr'] at hr; exact absurd (by simp) hr
      · exact z
    have ed : g.fdiv r = ((G / R : Nat) : Int) := by rw [hg, hr']; exact fdiv_sign hs G R
    have dm := Nat.div_add_mod G R
    have ml := Nat.mod_lt G hR
    have hq : 0 < G / R := Nat.div_pos (Nat.le_of_lt lt) hR
    generalize hQ : G / R = Q at *
    generalize hS : G % R = S at *
    have er : g - (Q : Int) * r = s * (S : Int) := by
      have : (G : Int) = R * Q + S := by rw [← dm]; push_cast; rfl
      rw [hg, hr', this]; grind
    rw [ed]
    refine ⟨.inr ⟨hb, s, -t, R, S, X, U + Q * X, Q, ⟨hs, by omega, hr', er, by rw [hx]; grind, ?_, ml, Nat.add_pos_right _ (Nat.mul_pos hq px), ?_, ?_, e2, by grind, .inr ⟨px, ?_, ?_⟩⟩⟩, ?_⟩
    · rw [hu, hx]; push_cast; grind
    · rw [← det, ← dm]; grind
    · rw [← gcd, ← hS, Nat.gcd_comm G R, Nat.gcd_rec R G, Nat.gcd_comm]
    · rw [← det]
      have : Q * R + S = G := by rw [Nat.mul_comm]; exact dm
      rw [this]; omega
    · have : Q * R + S = G := by rw [Nat.mul_comm]; exact dm
      omega
    · rw [er, hr', nabs_sign hs, nabs_sign hs]; exact ml
/-- the sizes in the loop -/
theorem div_sizes {a b g u v r x y : Int} (h : DivSt a b g u v r x y) : x.natAbs ≤ max 1 b.natAbs ∧ u.natAbs ≤ max 1 b.natAbs ∧ y.natAbs ≤ 1 + a.natAbs ∧ v.natAbs ≤ 1 + a.natAbs ∧ g.natAbs ≤ max a.natAbs b.natAbs ∧ r.natAbs ≤ b.natAbs := by
  rcases h with ⟨rfl, rfl, rfl, rfl, rfl, rfl⟩ | ⟨hb, s, t, G, R, U, X, q, I⟩
  · omega
  · obtain ⟨hs, ht, hg, hr', hu, hx, lt, px, det, gcd, e1, e2, last⟩ := I
    have ex : x.natAbs = X := by rw [hx, Int.natAbs_neg]; exact nabs_sign ht X
    have eu : u.natAbs = U := by rw [hu]; exact nabs_sign ht U
    have eg : g.natAbs = G := by rw [hg]; exact nabs_sign hs G
    have er : r.natAbs = R := by rw [hr']; exact nabs_sign hs R
    have hG : 0 < G := by omega
    have hX : X ≤ X * G := Nat.le_mul_of_pos_right X hG
    have hB : 0 < b.natAbs := by omega
    -- v b = g - u a
    have k : ∀ (z w c : Int), z * a + w * b = c → z.natAbs ≤ b.natAbs → c.natAbs ≤ b.natAbs → w.natAbs ≤ 1 + a.natAbs := fun z w c e hz hc => by
      have e' : w * b = c - z * a := by omega
      have e3 : (w * b).natAbs ≤ c.natAbs + (z * a).natAbs := by rw [e']; omega
      rw [Int.natAbs_mul, Int.natAbs_mul] at e3
      have e4 : z.natAbs * a.natAbs ≤ b.natAbs * a.natAbs := Nat.mul_le_mul_right _ hz
      have e5 : w.natAbs * b.natAbs ≤ (1 + a.natAbs) * b.natAbs := by
        have : (1 + a.natAbs) * b.natAbs = b.natAbs + b.natAbs * a.natAbs := by grind
        omega
      exact Nat.le_of_mul_le_mul_right e5 hB
    have hXb : X ≤ b.natAbs := by omega
    have hGb : g.natAbs ≤ b.natAbs ∧ U ≤ b.natAbs := by
      rcases last with ⟨h1, h2, h3⟩ | ⟨hU, h1, h2⟩
      · rw [h3]; omega
      · have hX1 : G ≤ X * G := Nat.le_mul_of_pos_left G px
        have : U ≤ U * (q * G + R) := Nat.le_mul_of_pos_right U (by omega)
        omega
    have hRb : r.natAbs ≤ b.natAbs := by omega
    have k1 := k u v g e1 (by omega) hGb.1
    have k2 := k x y r e2 (by omega) hRb
    omega
theorem div_half {a b g u v : Int} (e1 : u * a + v * b = g) (hb : 0 < b.natAbs) (h1 : 2 * g.natAbs ≤ b.natAbs) (h2 : 2 * u.natAbs ≤ b.natAbs) : 2 * v.natAbs ≤ 1 + a.natAbs := by
  have e' : v * b = g - u * a := by omega
  have e3 : (v * b).natAbs ≤ g.natAbs + (u * a).natAbs := by rw [e']; omega
  rw [Int.natAbs_mul, Int.natAbs_mul] at e3
  have e4 : 2 * u.natAbs * a.natAbs ≤ b.natAbs * a.natAbs := Nat.mul_le_mul_right _ h2
  have x0 : 2 * u.natAbs * a.natAbs = 2 * (u.natAbs * a.natAbs) := Nat.mul_assoc _ _ _
  have x1 : (1 + a.natAbs) * b.natAbs = b.natAbs + b.natAbs * a.natAbs := by rw [Nat.add_mul, Nat.one_mul, Nat.mul_comm a.natAbs]
  have x2 : (2 * v.natAbs) * b.natAbs = 2 * (v.natAbs * b.natAbs) := Nat.mul_assoc _ _ _
  have e6 : (2 * v.natAbs) * b.natAbs ≤ (1 + a.natAbs) * b.natAbs := by omega
  exact Nat.le_of_mul_le_mul_right e6 hb
theorem div_end {a b g u v r x y : Int} (h : DivSt a b g u v r x y) (hr : r = 0) : Int.gcd a b = g.natAbs ∧ u * a + v * b = g ∧ u.natAbs ≤ max 1 b.natAbs ∧ v.natAbs ≤ max 1 a.natAbs := by
  rcases h with ⟨rfl, rfl, rfl, rfl, rfl, rfl⟩ | ⟨hb, s, t, G, R, U, X, q, I⟩
  · subst hr
    refine ⟨by simp, by omega, by omega, by omega⟩
  · have hsz := div_sizes (.inr ⟨hb, s, t, G, R, U, X, q, I⟩)
    obtain ⟨hs, ht, hg, hr', hu, hx, lt, px, det, gcd, e1, e2, last⟩ := I
    have er : r.natAbs = R := by rw [hr']; exact nabs_sign hs R
    have hR : R = 0 := by omega
    subst hR
    have eg : g.natAbs = G := by rw [hg]; exact nabs_sign hs G
    have eu : u.natAbs = U := by rw [hu]; exact nabs_sign ht U
    refine ⟨by rw [← gcd, eg]; simp, e1, hsz.2.1, ?_⟩
    rcases last with ⟨h1, h2, h3⟩ | ⟨hU, h1, h2⟩
    · rw [h2]; omega
    · have hq : 2 ≤ q := by
        rcases Nat.lt_or_ge q 2 with z | z
        · have : q = 0 ∨ q = 1 := by omega
          rcases this with rfl | rfl <;> omega
        · exact z
      have h3 : 2 * G ≤ q * G := Nat.mul_le_mul_right G hq
      have h4 : U * (2 * G) ≤ b.natAbs := Nat.le_trans (Nat.mul_le_mul_left U (by omega)) h1
      have z1 : 2 * G ≤ U * (2 * G) := Nat.le_mul_of_pos_left _ hU
      have z2 : U * (2 * G) = 2 * U * G := by grind
      have z3 : 2 * U ≤ 2 * U * G := Nat.le_mul_of_pos_right _ (by omega)
      have z4 := div_half e1 (by omega) (by omega) (by omega)
      have ha : a.natAbs = 0 → v.natAbs ≤ 1 := by omega
      omega
theorem div_told {a b g u v r x y : Int} (h : DivSt a b g u v r x y) (hr : r = 0) : (g < 0 → DivOk a b (-g) (-u) (-v)) ∧ (¬ g < 0 → DivOk a b g u v) := by
  obtain ⟨k1, k2, k3, k4⟩ := div_end h hr
  refine ⟨fun z => ⟨by omega, ?_, by omega, by omega⟩, fun z => ⟨by omega, k2, k3, k4⟩⟩
  rw [← k2, Int.neg_mul, Int.neg_mul]; omega
end M

/-! powers by n -/
namespace M
/-- the rest of a power -/
def pw (n a : Int) (e : Nat) : Int := a ^ e % n
theorem pw_range {n : Int} (hn : 0 < n) (a : Int) (e : Nat) : 0 ≤ pw n a e ∧ pw n a e < n := ⟨Int.emod_nonneg _ (by omega), Int.emod_lt_of_pos _ hn⟩
theorem pow_emod (a n : Int) (e : Nat) : (a % n) ^ e % n = a ^ e % n := by
  induction e with
  | zero => rw [Int.pow_zero, Int.pow_zero]
  | succ e ih => rw [Int.pow_succ, Int.pow_succ, Int.mul_emod, ih, Int.emod_emod_of_dvd _ (Int.dvd_refl n), ← Int.mul_emod]
theorem pw_mod (n a : Int) (e : Nat) : pw n (a % n) e = pw n a e := pow_emod a n e
/-- what the loop keeps: found * base ^ e -/
theorem pw_turn {n f b : Int} {e : Nat} {r : Int} (h : f * b ^ e % n = r) :
    (e % 2 = 1 → (f * b % n) * (b * b % n) ^ (e / 2) % n = r) ∧ (e % 2 ≠ 1 → f * (b * b % n) ^ (e / 2) % n = r) := by
  have sq : (b * b) ^ (e / 2) = b ^ (2 * (e / 2)) := by rw [Int.pow_mul, Int.pow_succ, Int.pow_succ, Int.pow_zero, Int.one_mul]
  constructor
  · intro ho
    have ee : e = 2 * (e / 2) + 1 := by omega
    rw [Int.mul_emod, Int.emod_emod_of_dvd _ (Int.dvd_refl n), pow_emod, ← Int.mul_emod, sq, ← h]
    conv => rhs; rw [ee, Int.pow_succ]
    congr 1
    grind
  · intro ho
    have ee : e = 2 * (e / 2) := by omega
    rw [Int.mul_emod, pow_emod, ← Int.mul_emod, sq, ← ee, h]
theorem pw_end {n f : Int} (h0 : 0 ≤ f) (h1 : f < n) {b r : Int} (h : f * b ^ 0 % n = r) : f = r := by
  rw [← h, Int.pow_zero, Int.mul_one, Int.emod_eq_of_lt h0 h1]
theorem pw_one {n a : Int} {e : Nat} : 1 % n * (a % n) ^ e % n = pw n a e := by
  rw [Int.mul_emod, Int.emod_emod_of_dvd _ (Int.dvd_refl n), pow_emod, ← Int.mul_emod, Int.one_mul]; rfl
theorem pw_mul (n a : Int) (e : Nat) : pw n a e * a % n = pw n a (e + 1) := by
  unfold pw
  rw [Int.mul_emod, Int.emod_emod_of_dvd _ (Int.dvd_refl n), ← Int.mul_emod, Int.pow_succ]
theorem pw_zero (n a : Int) : pw n a 0 = 1 % n := by unfold pw; rw [Int.pow_zero]
theorem gcd_mod (a n : Int) : Int.gcd (a % n) n = Int.gcd a n := by
  have e : a % n = a - n * (a / n) := by have := Int.emod_add_mul_ediv a n; omega
  rw [e, Int.gcd_comm, Int.gcd_sub_mul_left_right, Int.gcd_comm]
theorem inv_of {n a g u v : Int} (hn : 0 < n) (h : DivOk (a % n) n g u v) (hg : Int.gcd a n = 1) : (u % n * a - 1) % n = 0 := by
  have e := h.eq
  have hg' : g = 1 := by rw [h.hg, gcd_mod, hg]; rfl
  refine Int.emod_eq_zero_of_dvd ?_
  have e1 : a % n = a - n * (a / n) := by have := Int.emod_add_mul_ediv a n; omega
  have e2 : u % n = u - n * (u / n) := by have := Int.emod_add_mul_ediv u n; omega
  refine ⟨-(v) + u * (a / n) - (u / n) * a, ?_⟩
  rw [hg', e1] at e
  rw [e2]
  grind
theorem gcd_pos {a n : Int} (hn : 0 < n) : 0 < Int.gcd a n := Int.gcd_pos_of_ne_zero_right a (by omega)
/-- numbers with the same product by n -/
theorem inv_unit {n a b : Int} (h : (b * a - 1) % n = 0) : b * a % n = 1 % n := by
  have := Int.emod_emod_of_dvd (b * a) (Int.dvd_refl n)
  exact Int.emod_eq_emod_iff_emod_sub_eq_zero.mpr h
theorem inv_pow {n a b : Int} (h : (b * a - 1) % n = 0) (e : Nat) : (pw n b e * pw n a e - 1) % n = 0 := by
  have e1 : b * a % n = 1 % n := inv_unit h
  refine Int.emod_eq_emod_iff_emod_sub_eq_zero.mp ?_
  unfold pw
  rw [← Int.mul_emod, ← Int.mul_pow, ← pow_emod, e1, pow_emod, Int.one_pow]
theorem back_ok {n a b : Int} (hn : 0 < n) (h : (b * a - 1) % n = 0) (e : Nat) : (pw n b (e + 1) * pw n a e * a - 1) % n = 0 := by
  have k := inv_pow h (e + 1)
  rw [← pw_mul n a e] at k
  refine Int.emod_eq_emod_iff_emod_sub_eq_zero.mp ?_
  rw [← Int.emod_eq_emod_iff_emod_sub_eq_zero.mpr k, Int.mul_assoc, Int.mul_emod]
  conv => rhs; rw [Int.mul_emod, Int.emod_emod_of_dvd _ (Int.dvd_refl n)]
theorem gcd_abs (a : Int) {n : Int} (hn : 0 < n) : Nat.gcd n.natAbs (a.natAbs % n.natAbs) = Int.gcd a n := by
  rw [Nat.gcd_comm, ← Nat.gcd_rec, Nat.gcd_comm]; rfl
theorem pw_add (n a : Int) (e f : Nat) : pw n a (e + f) = pw n a e * pw n a f % n := by
  unfold pw
  rw [← Int.mul_emod, Int.pow_add]
theorem pw_pw (n a : Int) (e f : Nat) : pw n a (e * f) = pw n (pw n a e) f := by
  unfold pw
  rw [pow_emod, ← Int.pow_mul]
theorem pw_prod (n a b : Int) (e : Nat) : pw n (a * b) e = pw n a e * pw n b e % n := by
  unfold pw
  rw [← Int.mul_emod, Int.mul_pow]
theorem pw_congr {n a b : Int} (h : a % n = b % n) (e : Nat) : pw n a e = pw n b e := by rw [← pw_mod n a, ← pw_mod n b, h]
theorem inv_unique {n a b c : Int} (b0 : 0 ≤ b) (b1 : b < n) (c0 : 0 ≤ c) (c1 : c < n) (hb : (b * a - 1) % n = 0) (hc : (c * a - 1) % n = 0) : b = c := by
  have h1 : (b - c) % n = 0 := by
    obtain ⟨x, hx⟩ := Int.dvd_of_emod_eq_zero hb
    obtain ⟨y, hy⟩ := Int.dvd_of_emod_eq_zero hc
    refine Int.emod_eq_zero_of_dvd ⟨c * x - b * y, ?_⟩
    have e : b - c = c * (b * a - 1) - b * (c * a - 1) := by grind
    rw [e, hx, hy]; grind
  have h2 := Int.emod_eq_emod_iff_emod_sub_eq_zero.mpr h1
  rw [Int.emod_eq_of_lt b0 b1, Int.emod_eq_of_lt c0 c1] at h2
  exact h2
theorem emod_one_of {n x : Int} (h : (x - 1) % n = 0) : x % n = 1 % n := Int.emod_eq_emod_iff_emod_sub_eq_zero.mpr h
end M

/-! primes -/
namespace M
def Prime (p : Nat) : Prop := 2 ≤ p ∧ ∀ d, d ∣ p → d = 1 ∨ d = p
theorem Prime.pos {p : Nat} (h : Prime p) : 0 < p := by have := h.1; omega
theorem Prime.coprime {p a : Nat} (h : Prime p) (ha : ¬ p ∣ a) : Nat.gcd p a = 1 := by
  rcases h.2 _ (Nat.gcd_dvd_left p a) with e | e
  · exact e
  · exact absurd (e ▸ Nat.gcd_dvd_right p a) ha
theorem Prime.dvd_mul {p a b : Nat} (h : Prime p) (hd : p ∣ a * b) : p ∣ a ∨ p ∣ b := by
  by_cases ha : p ∣ a
  · exact .inl ha
  · exact .inr (Nat.Coprime.dvd_of_dvd_mul_left (h.coprime ha) hd)
theorem Prime.dvd_pow {p a : Nat} (h : Prime p) : ∀ {e : Nat}, p ∣ a ^ e → p ∣ a
  | 0, hd => by
    rw [Nat.pow_zero] at hd
    have := Nat.le_of_dvd (by decide) hd
    have := h.1; omega
  | e + 1, hd => by
    rw [Nat.pow_succ] at hd
    rcases h.dvd_mul hd with z | z
    · exact h.dvd_pow z
    · exact z
theorem Prime.eq_of_dvd {p q : Nat} (hp : Prime p) (hq : Prime q) (h : p ∣ q) : p = q := by
  rcases hq.2 p h with e | e
  · have := hp.1; omega
  · exact e
/-- each number from 2 on has a least divisor, a prime -/
theorem exists_prime : ∀ (n : Nat), 2 ≤ n → ∃ p, Prime p ∧ p ∣ n := by
  intro n
  induction n using Nat.strongRecOn with
  | _ n ih =>
    intro hn
    by_cases h : ∃ d, d ∣ n ∧ d ≠ 1 ∧ d ≠ n
    · obtain ⟨d, h1, h2, h3⟩ := h
      have hd : d ≤ n := Nat.le_of_dvd (by omega) h1
      have h0 : d ≠ 0 := fun z => by rw [z] at h1; have := Nat.eq_zero_of_zero_dvd h1; omega
      obtain ⟨p, hp, hpd⟩ := ih d (by omega) (by omega)
      exact ⟨p, hp, Nat.dvd_trans hpd h1⟩
    · refine ⟨n, ⟨hn, fun d hd => ?_⟩, Nat.dvd_refl n⟩
      by_cases h1 : d = 1
      · exact .inl h1
      · by_cases h2 : d = n
        · exact .inr h2
        · exact absurd ⟨d, hd, h1, h2⟩ h
/-- no lesser divisor from 2 to the root -/
theorem prime_of_no {n : Nat} (hn : 2 ≤ n) (h : ∀ d, 2 ≤ d → d * d ≤ n → ¬ d ∣ n) : Prime n := by
  obtain ⟨p, hp, hd⟩ := exists_prime n hn
  obtain ⟨c, hc⟩ := hd
  by_cases e : c = 1
  · subst e
    rw [Nat.mul_one] at hc
    rw [hc]; exact hp
  · exfalso
    have hc0 : 2 ≤ c := by
      rcases Nat.lt_or_ge c 2 with z | z
      · have : c = 0 ∨ c = 1 := by omega
        rcases this with rfl | rfl
        · omega
        · exact absurd rfl e
      · exact z
    have hp2 := hp.1
    rcases Nat.le_total p c with z | z
    · refine h p hp2 ?_ ⟨c, hc⟩
      rw [hc]; exact Nat.mul_le_mul_left p z
    · refine h c hc0 ?_ ⟨p, by rw [hc, Nat.mul_comm]⟩
      rw [hc]; exact Nat.mul_le_mul_right c z
/-- powers of a prime: what is left without it -/
theorem split_prime {q : Nat} (hq : Prime q) : ∀ (n : Nat), 0 < n → ∃ k m, n = q ^ k * m ∧ ¬ q ∣ m ∧ 0 < m := by
  intro n
  induction n using Nat.strongRecOn with
  | _ n ih =>
    intro hn
    by_cases h : q ∣ n
    · obtain ⟨c, hc⟩ := h
      have hc0 : 0 < c := by
        rcases Nat.eq_zero_or_pos c with z | z
        · rw [z] at hc; omega
        · exact z
      have hq2 := hq.1
      have hlt : c < n := by
        rw [hc]
        have : 2 * c ≤ q * c := Nat.mul_le_mul_right c hq2
        omega
      obtain ⟨k, m, h1, h2, h3⟩ := ih c hlt hc0
      exact ⟨k + 1, m, by rw [hc, h1, Nat.pow_succ]; grind, h2, h3⟩
    · exact ⟨0, n, by simp, h, hn⟩
theorem coprime_pow {q m : Nat} (hq : Prime q) (h : ¬ q ∣ m) (k : Nat) : Nat.gcd (q ^ k) m = 1 := Nat.Coprime.pow_left k (hq.coprime h)
/-- n divides m where each power of a prime that divides n does -/
theorem dvd_of_prime_powers : ∀ (n m : Nat), 0 < n → (∀ q k, Prime q → q ^ k ∣ n → q ^ k ∣ m) → n ∣ m := by
  intro n
  induction n using Nat.strongRecOn with
  | _ n ih =>
    intro m hn h
    by_cases h1 : n = 1
    · rw [h1]; exact Nat.one_dvd m
    · obtain ⟨q, hq, hd⟩ := exists_prime n (by omega)
      obtain ⟨k, c, e, hc, hc0⟩ := split_prime hq n hn
      have hk : 0 < k := by
        rcases Nat.eq_zero_or_pos k with z | z
        · rw [z, Nat.pow_zero, Nat.one_mul] at e; rw [e] at hd; exact absurd hd hc
        · exact z
      have hlt : c < n := by
        rw [e]
        have : q ^ 1 ≤ q ^ k := Nat.pow_le_pow_right hq.pos hk
        have h2 := hq.1
        rw [Nat.pow_one] at this
        have : 2 * c ≤ q ^ k * c := Nat.mul_le_mul_right c (by omega)
        omega
      have d1 : q ^ k ∣ m := h q k hq ⟨c, e⟩
      have d2 : c ∣ m := ih c hlt m hc0 fun r j hr hj => h r j hr (Nat.dvd_trans hj ⟨q ^ k, by rw [e, Nat.mul_comm]⟩)
      rw [e]
      exact Nat.Coprime.mul_dvd_of_dvd_of_dvd (coprime_pow hq hc k) d1 d2
end M

/-! numbers parted into primes -/
namespace M
def prodL : List (Nat × Nat) → Nat
  | [] => 1
  | x :: l => x.1 ^ x.2 * prodL l
theorem prodL_app (l m : List (Nat × Nat)) : prodL (l ++ m) = prodL l * prodL m := by
  induction l with
  | nil => simp [prodL]
  | cons x l ih => simp only [List.cons_append, prodL, ih]; grind
structure IsFac (n : Nat) (l : List (Nat × Nat)) : Prop where
  sorted : l.Pairwise (fun x y => x.1 < y.1)
  primes : ∀ x ∈ l, Prime x.1 ∧ 0 < x.2
  prod : prodL l = n
/-- so far: the primes below d are taken out -/
structure Fac (n0 : Nat) (l : List (Nat × Nat)) (n d : Nat) : Prop where
  sorted : l.Pairwise (fun x y => x.1 < y.1)
  below : ∀ x ∈ l, x.1 < d
  primes : ∀ x ∈ l, Prime x.1 ∧ 0 < x.2
  prod : prodL l * n = n0
  no : ∀ e, 2 ≤ e → e < d → ¬ e ∣ n
  npos : 0 < n
  dtwo : 2 ≤ d
theorem fac_start {n : Nat} (h : 0 < n) : Fac n [] n 2 := ⟨.nil, by simp, by simp, by simp [prodL], fun e h1 h2 => by omega, h, Nat.le_refl 2⟩
theorem fac_end {n0 n d : Nat} {l : List (Nat × Nat)} (h : Fac n0 l n d) (hn : n ≤ 1) : IsFac n0 l := by
  have : n = 1 := by have := h.npos; omega
  subst this
  exact ⟨h.sorted, h.primes, by rw [← h.prod, Nat.mul_one]⟩
section
variable {n0 n d : Nat} {l : List (Nat × Nat)}
theorem fac_le (h : Fac n0 l n d) (hn : 1 < n) : d ≤ n := by
  rcases Nat.lt_or_ge n d with z | z
  · exact absurd (Nat.dvd_refl n) (h.no n hn z)
  · exact z
/-- beyond the root what is left is a prime -/
theorem fac_jump (h : Fac n0 l n d) (hn : 1 < n) (hd : n < d * d) : Fac n0 l n n := by
  have hl := fac_le h hn
  refine ⟨h.sorted, fun x hx => Nat.lt_of_lt_of_le (h.below x hx) hl, h.primes, h.prod, fun e h1 h2 hd' => ?_, h.npos, hn⟩
  obtain ⟨c, hc⟩ := hd'
  have e1 : d ≤ e := by
    rcases Nat.lt_or_ge e d with z | z
    · exact absurd ⟨c, hc⟩ (h.no e h1 z)
    · exact z
  have c2 : 2 ≤ c := by
    rcases Nat.lt_or_ge c 2 with z | z
    · have : c = 0 ∨ c = 1 := by omega
      rcases this with rfl | rfl <;> omega
    · exact z
  have e2 : d ≤ c := by
    rcases Nat.lt_or_ge c d with z | z
    · exact absurd ⟨e, by rw [hc, Nat.mul_comm]⟩ (h.no c c2 z)
    · exact z
  have := Nat.mul_le_mul e1 e2
  omega
theorem fac_prime (h : Fac n0 l n d) (hd : d ∣ n) : Prime d := prime_of_no h.dtwo fun e h1 h2 h3 => by
  have : e < d := by
    rcases Nat.lt_or_ge e d with z | z
    · exact z
    · have := Nat.mul_le_mul z h1
      have h4 := h.dtwo
      have h5 : d * 2 ≤ e * e := Nat.le_trans this (Nat.le_refl _)
      omega
  exact h.no e h1 this (Nat.dvd_trans h3 hd)
theorem dvd_pow_self (d : Nat) {k : Nat} (hk : 0 < k) : d ∣ d ^ k := by
  obtain ⟨j, rfl⟩ : ∃ j, k = j + 1 := ⟨k - 1, by omega⟩
  rw [Nat.pow_succ]; exact Nat.dvd_mul_left d _
/-- d taken out k times, m left -/
theorem fac_step {k m : Nat} (h : Fac n0 l n d) (e : n = d ^ k * m) (hm : ¬ d ∣ m) : Fac n0 (if 0 < k then l ++ [(d, k)] else l) m (d + 1) := by
  have m0 : 0 < m := Nat.pos_of_ne_zero fun z => by rw [z, Nat.mul_zero] at e; have := h.npos; omega
  have hno : ∀ f, 2 ≤ f → f < d + 1 → ¬ f ∣ m := fun f h1 h2 h3 => by
    by_cases hf : f = d
    · exact hm (hf ▸ h3)
    · exact h.no f h1 (by omega) (by rw [e]; exact Nat.dvd_trans h3 (Nat.dvd_mul_left m _))
  have hd2 := h.dtwo
  by_cases hk : 0 < k
  · rw [if_pos hk]
    have hdn : d ∣ n := by
      rw [e]
      exact Nat.dvd_trans (dvd_pow_self d hk) (Nat.dvd_mul_right _ _)
    refine ⟨?_, fun x hx => ?_, fun x hx => ?_, ?_, hno, m0, by omega⟩
    · refine List.pairwise_append.mpr ⟨h.sorted, List.pairwise_singleton _ _, fun x hx y hy => ?_⟩
      rw [List.mem_singleton.mp hy]; exact h.below x hx
    · rcases List.mem_append.mp hx with z | z
      · have := h.below x z; omega
      · rw [List.mem_singleton.mp z]; exact Nat.lt_succ_self d
    · rcases List.mem_append.mp hx with z | z
      · exact h.primes x z
      · rw [List.mem_singleton.mp z]; exact ⟨fac_prime h hdn, hk⟩
    · rw [prodL_app, ← h.prod, e]; simp only [prodL]; grind
  · have k0 : k = 0 := by omega
    subst k0
    rw [if_neg (by omega)]
    have e' : n = m := by rw [e, Nat.pow_zero, Nat.one_mul]
    exact ⟨h.sorted, fun x hx => by have := h.below x hx; omega, h.primes, by rw [← e']; exact h.prod, hno, m0, by omega⟩
/-- an even number more may be left out -/
theorem fac_odd (h : Fac n0 l n d) (h2 : 2 < d) (he : d % 2 = 0) : Fac n0 l n (d + 1) := by
  refine ⟨h.sorted, fun x hx => by have := h.below x hx; omega, h.primes, h.prod, fun f h1 h3 h4 => ?_, h.npos, by omega⟩
  by_cases hf : f = d
  · have : 2 ∣ f := by rw [hf]; exact Nat.dvd_of_mod_eq_zero he
    exact h.no 2 (by decide) h2 (Nat.dvd_trans this h4)
  · exact h.no f h1 (by omega) h4
end
/-! what a parting tells -/
theorem prodL_dvd {l : List (Nat × Nat)} {x : Nat × Nat} (h : x ∈ l) : x.1 ^ x.2 ∣ prodL l := by
  induction l with
  | nil => simp at h
  | cons y l ih =>
    rcases List.mem_cons.mp h with z | z
    · rw [z]; exact Nat.dvd_mul_right _ _
    · exact Nat.dvd_trans (ih z) (Nat.dvd_mul_left _ _)
theorem fac_dvd {n : Nat} {l : List (Nat × Nat)} (h : IsFac n l) {x : Nat × Nat} (hx : x ∈ l) : x.1 ∣ n := by
  rw [← h.prod]
  refine Nat.dvd_trans ?_ (prodL_dvd hx)
  obtain ⟨j, e⟩ : ∃ j, x.2 = j + 1 := ⟨x.2 - 1, by have := (h.primes x hx).2; omega⟩
  rw [e, Nat.pow_succ]; exact Nat.dvd_mul_left _ _
theorem prime_in {l : List (Nat × Nat)} {q : Nat} (hq : Prime q) (hl : ∀ x ∈ l, Prime x.1 ∧ 0 < x.2) (h : q ∣ prodL l) : ∃ k, (q, k) ∈ l := by
  induction l with
  | nil =>
    simp only [prodL] at h
    have := Nat.le_of_dvd (by decide) h
    have := hq.1; omega
  | cons x l ih =>
    simp only [prodL] at h
    rcases hq.dvd_mul h with z | z
    · have := hq.eq_of_dvd (hl x (by simp)).1 (hq.dvd_pow z)
      exact ⟨x.2, by rw [this]; simp⟩
    · obtain ⟨k, hk⟩ := ih (fun y hy => hl y (by simp [hy])) z
      exact ⟨k, by simp [hk]⟩
theorem fac_prime_in {n q : Nat} {l : List (Nat × Nat)} (h : IsFac n l) (hq : Prime q) (hd : q ∣ n) : ∃ k, (q, k) ∈ l := prime_in hq h.primes (by rw [h.prod]; exact hd)
theorem Fac.of {n : Nat} {l : List (Nat × Nat)} (h : IsFac n l) (hn : 0 < n) : ∃ d, Fac n l 1 d := by
  have : ∃ d, ∀ x ∈ l, x.1 < d := by
    have key : ∀ l : List (Nat × Nat), ∃ d, ∀ x ∈ l, x.1 < d := fun l => by
      induction l with
      | nil => exact ⟨0, by simp⟩
      | cons y l ih =>
        obtain ⟨d, hd⟩ := ih
        exact ⟨d + y.1 + 1, fun x hx => by
          rcases List.mem_cons.mp hx with z | z
          · rw [z]; omega
          · have := hd x z; omega⟩
    exact key l
  obtain ⟨d, hd⟩ := this
  refine ⟨d + 2, h.sorted, fun x hx => by have := hd x hx; omega, h.primes, by rw [Nat.mul_one]; exact h.prod, fun e h1 h2 h3 => ?_, by decide, by omega⟩
  have := Nat.le_of_dvd (by decide) h3
  omega
end M

namespace C
open PySem PySem.Spec PyProof.Rows L2 R

def top (i : Nat) : Stmt := PySem.Challenge.pw_rootprime_k11_least_divisors.main.body.getD i (.Pass ⟨0, 0, 0, 0⟩)
abbrev FnP (K : PySem.W.Frag) (x : Str) (st : Stmt) (f : Addr) (fd : FuncData) : Prop := FunD K x x (defArgs st) (defBody st) (defScope st) [] [] f fd
abbrev s_look_at : Stmt := top 11
abbrev N_look_at : List Str := ["n", "least"]
theorem sc_look_at : FnScope N_look_at ["n", "least"] (defScope s_look_at) := ⟨rfl, rfl, rfl, by decide +kernel, rfl, by decide +kernel, by decide +kernel⟩
abbrev s_divisor_from : Stmt := top 12
abbrev N_divisor_from : List Str := ["n", "d"]
theorem sc_divisor_from : FnScope N_divisor_from ["n", "d"] (defScope s_divisor_from) := ⟨rfl, rfl, rfl, by decide +kernel, rfl, by decide +kernel, by decide +kernel⟩
abbrev s_least_divisor : Stmt := top 13
abbrev N_least_divisor : List Str := ["n"]
theorem sc_least_divisor : FnScope N_least_divisor ["n"] (defScope s_least_divisor) := ⟨rfl, rfl, rfl, by decide +kernel, rfl, by decide +kernel, by decide +kernel⟩
abbrev s__law_whole : Stmt := top 15
abbrev N__law_whole : List Str := ["_law_found"]
theorem sc__law_whole : FnScope N__law_whole ["_law_found"] (defScope s__law_whole) := ⟨rfl, rfl, rfl, by decide +kernel, rfl, by decide +kernel, by decide +kernel⟩
abbrev s__law_draws : Stmt := top 16
abbrev N__law_draws : List Str := ["_law_cell", "_law_many", "_law_found", "_law_k", "_law_number"]
theorem sc__law_draws : FnScope N__law_draws ["_law_cell", "_law_many"] (defScope s__law_draws) := ⟨rfl, rfl, rfl, by decide +kernel, rfl, by decide +kernel, by decide +kernel⟩
abbrev s__law_right : Stmt := top 17
abbrev N__law_right : List Str := ["_law_n", "_law_found", "_law_d"]
theorem sc__law_right : FnScope N__law_right ["_law_n"] (defScope s__law_right) := ⟨rfl, rfl, rfl, by decide +kernel, rfl, by decide +kernel, by decide +kernel⟩
abbrev s__law_refused : Stmt := top 18
abbrev N__law_refused : List Str := ["_law_n", "_law_told", "e", "_law_others"]
theorem sc__law_refused : FnScope N__law_refused ["_law_n"] (defScope s__law_refused) := ⟨rfl, rfl, rfl, by decide +kernel, rfl, by decide +kernel, by decide +kernel⟩
abbrev s__law_part : Stmt := top 19
abbrev N__law_part : List Str := ["_law_n", "_law_told", "e"]
theorem sc__law_part : FnScope N__law_part ["_law_n"] (defScope s__law_part) := ⟨rfl, rfl, rfl, by decide +kernel, rfl, by decide +kernel, by decide +kernel⟩
abbrev s_law : Stmt := top 20
abbrev N_law : List Str := ["_law_script", "_law_cell", "_law_row", "_law_most", "_law_n", "_law_below", "_law_above"]
theorem sc_law : FnScope N_law ["_law_script"] (defScope s_law) := ⟨rfl, rfl, rfl, by decide +kernel, rfl, by decide +kernel, by decide +kernel⟩
abbrev s_init_TooFar : Stmt := inClass (top 3) 0
theorem sc_init_TooFar : FnScope ["self", "part"] ["self", "part"] (defScope s_init_TooFar) := ⟨rfl, rfl, rfl, by decide +kernel, rfl, by decide +kernel, by decide +kernel⟩
abbrev s_init_NoPrime : Stmt := inClass (top 4) 0
theorem sc_init_NoPrime : FnScope ["self", "divisor"] ["self", "divisor"] (defScope s_init_NoPrime) := ⟨rfl, rfl, rfl, by decide +kernel, rfl, by decide +kernel, by decide +kernel⟩
abbrev s_init_NoInverse : Stmt := inClass (top 5) 0
theorem sc_init_NoInverse : FnScope ["self", "divisor"] ["self", "divisor"] (defScope s_init_NoInverse) := ⟨rfl, rfl, rfl, by decide +kernel, rfl, by decide +kernel, by decide +kernel⟩
abbrev s_init_NoRoot : Stmt := inClass (top 8) 0
theorem sc_init_NoRoot : FnScope ["self", "rest"] ["self", "rest"] (defScope s_init_NoRoot) := ⟨rfl, rfl, rfl, by decide +kernel, rfl, by decide +kernel, by decide +kernel⟩
def fn : List He5.DefA := [⟨fun K => He.ga K "look_at", "look_at", "look_at", defArgs s_look_at, defBody s_look_at, defScope s_look_at, [], []⟩,
  ⟨fun K => He.ga K "divisor_from", "divisor_from", "divisor_from", defArgs s_divisor_from, defBody s_divisor_from, defScope s_divisor_from, [], []⟩,
  ⟨fun K => He.ga K "least_divisor", "least_divisor", "least_divisor", defArgs s_least_divisor, defBody s_least_divisor, defScope s_least_divisor, [], []⟩,
  ⟨fun K => He.ga K "_law_whole", "_law_whole", "_law_whole", defArgs s__law_whole, defBody s__law_whole, defScope s__law_whole, [], []⟩,
  ⟨fun K => He.ga K "_law_draws", "_law_draws", "_law_draws", defArgs s__law_draws, defBody s__law_draws, defScope s__law_draws, [], []⟩,
  ⟨fun K => He.ga K "_law_right", "_law_right", "_law_right", defArgs s__law_right, defBody s__law_right, defScope s__law_right, [], []⟩,
  ⟨fun K => He.ga K "_law_refused", "_law_refused", "_law_refused", defArgs s__law_refused, defBody s__law_refused, defScope s__law_refused, [], []⟩,
  ⟨fun K => He.ga K "_law_part", "_law_part", "_law_part", defArgs s__law_part, defBody s__law_part, defScope s__law_part, [], []⟩,
  ⟨fun K => He.ga K "law", "law", "law", defArgs s_law, defBody s_law, defScope s_law, [], []⟩,
  ⟨fun K => He.ma K (He.ga K "TooFar") "__init__", "__init__", "TooFar.__init__", defArgs s_init_TooFar, defBody s_init_TooFar, defScope s_init_TooFar, [], []⟩,
  ⟨fun K => He.ma K (He.ga K "NoPrime") "__init__", "__init__", "NoPrime.__init__", defArgs s_init_NoPrime, defBody s_init_NoPrime, defScope s_init_NoPrime, [], []⟩,
  ⟨fun K => He.ma K (He.ga K "NoInverse") "__init__", "__init__", "NoInverse.__init__", defArgs s_init_NoInverse, defBody s_init_NoInverse, defScope s_init_NoInverse, [], []⟩,
  ⟨fun K => He.ma K (He.ga K "NoRoot") "__init__", "__init__", "NoRoot.__init__", defArgs s_init_NoRoot, defBody s_init_NoRoot, defScope s_init_NoRoot, [], []⟩]
def fa : List FB := [fun K => (He.Fa.glo "look_at").ok K, fun K => (He.Fa.glo "divisor_from").ok K, fun K => (He.Fa.glo "least_divisor").ok K, fun K => (He.Fa.glo "_law_whole").ok K, fun K => (He.Fa.glo "_law_draws").ok K, fun K => (He.Fa.glo "_law_right").ok K, fun K => (He.Fa.glo "_law_refused").ok K, fun K => (He.Fa.glo "_law_part").ok K, fun K => (He.Fa.glo "law").ok K, fun K => (He.Fa.glo "PrimeError").ok K, fun K => (He.Fa.glo "NoNumber").ok K, fun K => (He.Fa.glo "TooFar").ok K, fun K => (He.Fa.glo "NoPrime").ok K, fun K => (He.Fa.glo "NoInverse").ok K, fun K => (He.Fa.glo "Nought").ok K, fun K => (He.Fa.glo "NoOrder").ok K, fun K => (He.Fa.glo "NoRoot").ok K, fun K => (He.Fa.free "int").ok K, fun K => (He.Fa.free "isinstance").ok K, fun K => (He.Fa.free "bool").ok K, fun K => (He.Fa.free "range").ok K, fun K => (He.Fa.free "abs").ok K, fun K => (He.Fa.free "ValueError").ok K, fun K => (He.Fa.free "min").ok K, fun K => (He.Fa.int "MOST_PARTED" 1000000000).ok K, fun K => xinB "TooFar" "part" K, fun K => baseB (He.ga K "PrimeError") K, fun K => xinB "NoPrime" "divisor" K, fun K => xinB "NoInverse" "divisor" K, fun K => xinB "NoRoot" "rest" K, fun K => (He.Fa.exc "PrimeError").ok K, fun K => (He.Fa.exc "NoNumber").ok K, fun K => (He.Fa.exc "Nought").ok K, fun K => (He.Fa.exc "NoOrder").ok K, fun K => (He.Fa.exm "NoNumber" "PrimeError" true).ok K, fun K => (He.Fa.exm "TooFar" "PrimeError" true).ok K, fun K => (He.Fa.exm "TooFar" "TooFar" true).ok K, fun K => (He.Fa.exm "NoNumber" "TooFar" false).ok K, fun K => kitcB "NoNumber" "NoInverse" false K, fun K => isxB "NoNumber" K, fun K => kitcB "NoNumber" "NoOrder" false K, fun K => kitcB "NoNumber" "NoPrime" false K, fun K => kitcB "NoNumber" "Nought" false K, fun K => kitcB "NoNumber" "NoRoot" false K, fun K => kittB "NoNumber" "ValueError" true K, fun K => kitcB "TooFar" "NoInverse" false K, fun K => isxB "TooFar" K, fun K => kitcB "TooFar" "NoOrder" false K, fun K => kitcB "TooFar" "NoPrime" false K, fun K => kitcB "TooFar" "Nought" false K, fun K => kitcB "TooFar" "NoRoot" false K, fun K => kittB "TooFar" "ValueError" true K, fun K => kitcB "NoNumber" "NoNumber" true K, fun K => kitcB "NoNumber" "TooFar" false K, fun K => kitcB "TooFar" "NoNumber" false K, fun K => kitcB "TooFar" "TooFar" true K, fun K => kitcB "TooFar" "PrimeError" true K]
structure Txt (K : PySem.W.Frag) (mg : Str → Option Value) : Prop where
  c : Told fa fn K
  gl : ∀ {x : Str}, (He.Fa.glo x).ok K = true → mg x = some (.ref (He.ga K x))
  fr : ∀ {x : Str}, (He.Fa.free x).ok K = true → mg x = none
  int_ok : ∀ {x : Str} {i : Int}, (He.Fa.int x i).ok K = true → ∃ t, mg x = some (.int i t)
section
variable {P : Program} {w : World} {K : PySem.W.Frag} {mg : Str → Option Value} {base : Heap}
theorem F0_look_at (T : Txt K mg) : ∃ fd, FnP K "look_at" s_look_at (He.ga K "look_at") fd := T.c.dfn 0 rfl
noncomputable def fd_look_at (T : Txt K mg) : FuncData := (F0_look_at T).choose
theorem F_look_at (T : Txt K mg) : FnP K "look_at" s_look_at (He.ga K "look_at") (fd_look_at T) := (F0_look_at T).choose_spec
theorem g_look_at (T : Txt K mg) : mg "look_at" = some (.ref (He.ga K "look_at")) := T.gl (T.c.fact 0 rfl)
theorem kp_look_at (T : Txt K mg) : PySem.W.keepIn K (.ref (He.ga K "look_at")) = true := (F_look_at T).kp
theorem B_look_at (T : Txt K mg) : Binds K (fd_look_at T) ["n", "least"] [] := (F_look_at T).bindsN fun _ _ _ _ _ _ us hl => match us, hl with | [_, _], _ => rfl
theorem F0_divisor_from (T : Txt K mg) : ∃ fd, FnP K "divisor_from" s_divisor_from (He.ga K "divisor_from") fd := T.c.dfn 1 rfl
noncomputable def fd_divisor_from (T : Txt K mg) : FuncData := (F0_divisor_from T).choose
theorem F_divisor_from (T : Txt K mg) : FnP K "divisor_from" s_divisor_from (He.ga K "divisor_from") (fd_divisor_from T) := (F0_divisor_from T).choose_spec
theorem g_divisor_from (T : Txt K mg) : mg "divisor_from" = some (.ref (He.ga K "divisor_from")) := T.gl (T.c.fact 1 rfl)
theorem kp_divisor_from (T : Txt K mg) : PySem.W.keepIn K (.ref (He.ga K "divisor_from")) = true := (F_divisor_from T).kp
theorem B_divisor_from (T : Txt K mg) : Binds K (fd_divisor_from T) ["n", "d"] [] := (F_divisor_from T).bindsN fun _ _ _ _ _ _ us hl => match us, hl with | [_, _], _ => rfl
theorem F0_least_divisor (T : Txt K mg) : ∃ fd, FnP K "least_divisor" s_least_divisor (He.ga K "least_divisor") fd := T.c.dfn 2 rfl
noncomputable def fd_least_divisor (T : Txt K mg) : FuncData := (F0_least_divisor T).choose
theorem F_least_divisor (T : Txt K mg) : FnP K "least_divisor" s_least_divisor (He.ga K "least_divisor") (fd_least_divisor T) := (F0_least_divisor T).choose_spec
theorem g_least_divisor (T : Txt K mg) : mg "least_divisor" = some (.ref (He.ga K "least_divisor")) := T.gl (T.c.fact 2 rfl)
theorem kp_least_divisor (T : Txt K mg) : PySem.W.keepIn K (.ref (He.ga K "least_divisor")) = true := (F_least_divisor T).kp
theorem B_least_divisor (T : Txt K mg) : Binds K (fd_least_divisor T) ["n"] [] := (F_least_divisor T).bindsN fun _ _ _ _ _ _ us hl => match us, hl with | [_], _ => rfl
theorem F0__law_whole (T : Txt K mg) : ∃ fd, FnP K "_law_whole" s__law_whole (He.ga K "_law_whole") fd := T.c.dfn 3 rfl
noncomputable def fd__law_whole (T : Txt K mg) : FuncData := (F0__law_whole T).choose
theorem F__law_whole (T : Txt K mg) : FnP K "_law_whole" s__law_whole (He.ga K "_law_whole") (fd__law_whole T) := (F0__law_whole T).choose_spec
theorem g__law_whole (T : Txt K mg) : mg "_law_whole" = some (.ref (He.ga K "_law_whole")) := T.gl (T.c.fact 3 rfl)
theorem kp__law_whole (T : Txt K mg) : PySem.W.keepIn K (.ref (He.ga K "_law_whole")) = true := (F__law_whole T).kp
theorem B__law_whole (T : Txt K mg) : Binds K (fd__law_whole T) ["_law_found"] [] := (F__law_whole T).bindsN fun _ _ _ _ _ _ us hl => match us, hl with | [_], _ => rfl
theorem F0__law_draws (T : Txt K mg) : ∃ fd, FnP K "_law_draws" s__law_draws (He.ga K "_law_draws") fd := T.c.dfn 4 rfl
noncomputable def fd__law_draws (T : Txt K mg) : FuncData := (F0__law_draws T).choose
theorem F__law_draws (T : Txt K mg) : FnP K "_law_draws" s__law_draws (He.ga K "_law_draws") (fd__law_draws T) := (F0__law_draws T).choose_spec
theorem g__law_draws (T : Txt K mg) : mg "_law_draws" = some (.ref (He.ga K "_law_draws")) := T.gl (T.c.fact 4 rfl)
theorem kp__law_draws (T : Txt K mg) : PySem.W.keepIn K (.ref (He.ga K "_law_draws")) = true := (F__law_draws T).kp
theorem B__law_draws (T : Txt K mg) : Binds K (fd__law_draws T) ["_law_cell", "_law_many"] [] := (F__law_draws T).bindsN fun _ _ _ _ _ _ us hl => match us, hl with | [_, _], _ => rfl
theorem F0__law_right (T : Txt K mg) : ∃ fd, FnP K "_law_right" s__law_right (He.ga K "_law_right") fd := T.c.dfn 5 rfl
noncomputable def fd__law_right (T : Txt K mg) : FuncData := (F0__law_right T).choose
theorem F__law_right (T : Txt K mg) : FnP K "_law_right" s__law_right (He.ga K "_law_right") (fd__law_right T) := (F0__law_right T).choose_spec
theorem g__law_right (T : Txt K mg) : mg "_law_right" = some (.ref (He.ga K "_law_right")) := T.gl (T.c.fact 5 rfl)
theorem kp__law_right (T : Txt K mg) : PySem.W.keepIn K (.ref (He.ga K "_law_right")) = true := (F__law_right T).kp
theorem B__law_right (T : Txt K mg) : Binds K (fd__law_right T) ["_law_n"] [] := (F__law_right T).bindsN fun _ _ _ _ _ _ us hl => match us, hl with | [_], _ => rfl
theorem F0__law_refused (T : Txt K mg) : ∃ fd, FnP K "_law_refused" s__law_refused (He.ga K "_law_refused") fd := T.c.dfn 6 rfl
noncomputable def fd__law_refused (T : Txt K mg) : FuncData := (F0__law_refused T).choose
theorem F__law_refused (T : Txt K mg) : FnP K "_law_refused" s__law_refused (He.ga K "_law_refused") (fd__law_refused T) := (F0__law_refused T).choose_spec
theorem g__law_refused (T : Txt K mg) : mg "_law_refused" = some (.ref (He.ga K "_law_refused")) := T.gl (T.c.fact 6 rfl)
theorem kp__law_refused (T : Txt K mg) : PySem.W.keepIn K (.ref (He.ga K "_law_refused")) = true := (F__law_refused T).kp
theorem B__law_refused (T : Txt K mg) : Binds K (fd__law_refused T) ["_law_n"] [] := (F__law_refused T).bindsN fun _ _ _ _ _ _ us hl => match us, hl with | [_], _ => rfl
theorem F0__law_part (T : Txt K mg) : ∃ fd, FnP K "_law_part" s__law_part (He.ga K "_law_part") fd := T.c.dfn 7 rfl
noncomputable def fd__law_part (T : Txt K mg) : FuncData := (F0__law_part T).choose
theorem F__law_part (T : Txt K mg) : FnP K "_law_part" s__law_part (He.ga K "_law_part") (fd__law_part T) := (F0__law_part T).choose_spec
theorem g__law_part (T : Txt K mg) : mg "_law_part" = some (.ref (He.ga K "_law_part")) := T.gl (T.c.fact 7 rfl)
theorem kp__law_part (T : Txt K mg) : PySem.W.keepIn K (.ref (He.ga K "_law_part")) = true := (F__law_part T).kp
theorem B__law_part (T : Txt K mg) : Binds K (fd__law_part T) ["_law_n"] [] := (F__law_part T).bindsN fun _ _ _ _ _ _ us hl => match us, hl with | [_], _ => rfl
theorem F0_law (T : Txt K mg) : ∃ fd, FnP K "law" s_law (He.ga K "law") fd := T.c.dfn 8 rfl
noncomputable def fd_law (T : Txt K mg) : FuncData := (F0_law T).choose
theorem F_law (T : Txt K mg) : FnP K "law" s_law (He.ga K "law") (fd_law T) := (F0_law T).choose_spec
theorem g_law (T : Txt K mg) : mg "law" = some (.ref (He.ga K "law")) := T.gl (T.c.fact 8 rfl)
theorem kp_law (T : Txt K mg) : PySem.W.keepIn K (.ref (He.ga K "law")) = true := (F_law T).kp
theorem B_law (T : Txt K mg) : Binds K (fd_law T) ["_law_script"] [] := (F_law T).bindsN fun _ _ _ _ _ _ us hl => match us, hl with | [_], _ => rfl
theorem g_PrimeError (T : Txt K mg) : mg "PrimeError" = some (.ref (He.ga K "PrimeError")) := T.gl (T.c.fact 9 rfl)
theorem g_NoNumber (T : Txt K mg) : mg "NoNumber" = some (.ref (He.ga K "NoNumber")) := T.gl (T.c.fact 10 rfl)
theorem g_TooFar (T : Txt K mg) : mg "TooFar" = some (.ref (He.ga K "TooFar")) := T.gl (T.c.fact 11 rfl)
theorem g_NoPrime (T : Txt K mg) : mg "NoPrime" = some (.ref (He.ga K "NoPrime")) := T.gl (T.c.fact 12 rfl)
theorem g_NoInverse (T : Txt K mg) : mg "NoInverse" = some (.ref (He.ga K "NoInverse")) := T.gl (T.c.fact 13 rfl)
theorem g_Nought (T : Txt K mg) : mg "Nought" = some (.ref (He.ga K "Nought")) := T.gl (T.c.fact 14 rfl)
theorem g_NoOrder (T : Txt K mg) : mg "NoOrder" = some (.ref (He.ga K "NoOrder")) := T.gl (T.c.fact 15 rfl)
theorem g_NoRoot (T : Txt K mg) : mg "NoRoot" = some (.ref (He.ga K "NoRoot")) := T.gl (T.c.fact 16 rfl)
theorem x_TooFar (T : Txt K mg) : XIn K (He.ga K "TooFar") (He.ma K (He.ga K "TooFar") "__init__") "part" := xin_of (T.c.fact 25 rfl)
theorem F0_init_TooFar (T : Txt K mg) : ∃ fd, FunD K "__init__" "TooFar.__init__" (defArgs s_init_TooFar) (defBody s_init_TooFar) (defScope s_init_TooFar) [] [] (He.ma K (He.ga K "TooFar") "__init__") fd := T.c.dfn 9 rfl
noncomputable def fd_init_TooFar (T : Txt K mg) : FuncData := (F0_init_TooFar T).choose
theorem F_init_TooFar (T : Txt K mg) : FunD K "__init__" "TooFar.__init__" (defArgs s_init_TooFar) (defBody s_init_TooFar) (defScope s_init_TooFar) [] [] (He.ma K (He.ga K "TooFar") "__init__") (fd_init_TooFar T) := (F0_init_TooFar T).choose_spec
theorem B_init_TooFar (T : Txt K mg) : Binds K (fd_init_TooFar T) ["self", "part"] [] := (F_init_TooFar T).bindsN fun _ _ _ _ _ _ us hl => match us, hl with | [_, _], _ => rfl
theorem ok_init_TooFar (T : Txt K mg) : FnOk P w K mg base CX0 1 (He.ma K (He.ga K "TooFar") "__init__") (fd_init_TooFar T) ["self", "part"] (sp_init K (He.ga K "TooFar") "part") := by
  refine (F_init_TooFar T).ok sc_init_TooFar (fun vs H Q E h => ?_) (fun cdv A outer s H vs Q E hr h => ⟨_, PSs.nox (pss_cons (ps_expr (pe_cinit rfl (g_PrimeError T) (base_of (T.c.fact (t := fun K => baseB (He.ga K "PrimeError") K) 26 rfl)) (pa_cons (pv 0) (pa_cons pe_str pa_nil)))) (pss_one (ps_ost (pv 0) (pv 1)))), ?_⟩)
  · obtain ⟨_, _, rfl, _⟩ := h; rfl
  · exact rd_init h
theorem x_NoPrime (T : Txt K mg) : XIn K (He.ga K "NoPrime") (He.ma K (He.ga K "NoPrime") "__init__") "divisor" := xin_of (T.c.fact 27 rfl)
theorem F0_init_NoPrime (T : Txt K mg) : ∃ fd, FunD K "__init__" "NoPrime.__init__" (defArgs s_init_NoPrime) (defBody s_init_NoPrime) (defScope s_init_NoPrime) [] [] (He.ma K (He.ga K "NoPrime") "__init__") fd := T.c.dfn 10 rfl
noncomputable def fd_init_NoPrime (T : Txt K mg) : FuncData := (F0_init_NoPrime T).choose
theorem F_init_NoPrime (T : Txt K mg) : FunD K "__init__" "NoPrime.__init__" (defArgs s_init_NoPrime) (defBody s_init_NoPrime) (defScope s_init_NoPrime) [] [] (He.ma K (He.ga K "NoPrime") "__init__") (fd_init_NoPrime T) := (F0_init_NoPrime T).choose_spec
theorem B_init_NoPrime (T : Txt K mg) : Binds K (fd_init_NoPrime T) ["self", "divisor"] [] := (F_init_NoPrime T).bindsN fun _ _ _ _ _ _ us hl => match us, hl with | [_, _], _ => rfl
theorem ok_init_NoPrime (T : Txt K mg) : FnOk P w K mg base CX0 1 (He.ma K (He.ga K "NoPrime") "__init__") (fd_init_NoPrime T) ["self", "divisor"] (sp_init K (He.ga K "NoPrime") "divisor") := by
  refine (F_init_NoPrime T).ok sc_init_NoPrime (fun vs H Q E h => ?_) (fun cdv A outer s H vs Q E hr h => ⟨_, PSs.nox (pss_cons (ps_expr (pe_cinit rfl (g_PrimeError T) (base_of (T.c.fact (t := fun K => baseB (He.ga K "PrimeError") K) 26 rfl)) (pa_cons (pv 0) (pa_cons pe_str pa_nil)))) (pss_one (ps_ost (pv 0) (pv 1)))), ?_⟩)
  · obtain ⟨_, _, rfl, _⟩ := h; rfl
  · exact rd_init h
theorem x_NoInverse (T : Txt K mg) : XIn K (He.ga K "NoInverse") (He.ma K (He.ga K "NoInverse") "__init__") "divisor" := xin_of (T.c.fact 28 rfl)
theorem F0_init_NoInverse (T : Txt K mg) : ∃ fd, FunD K "__init__" "NoInverse.__init__" (defArgs s_init_NoInverse) (defBody s_init_NoInverse) (defScope s_init_NoInverse) [] [] (He.ma K (He.ga K "NoInverse") "__init__") fd := T.c.dfn 11 rfl
noncomputable def fd_init_NoInverse (T : Txt K mg) : FuncData := (F0_init_NoInverse T).choose
theorem F_init_NoInverse (T : Txt K mg) : FunD K "__init__" "NoInverse.__init__" (defArgs s_init_NoInverse) (defBody s_init_NoInverse) (defScope s_init_NoInverse) [] [] (He.ma K (He.ga K "NoInverse") "__init__") (fd_init_NoInverse T) := (F0_init_NoInverse T).choose_spec
theorem B_init_NoInverse (T : Txt K mg) : Binds K (fd_init_NoInverse T) ["self", "divisor"] [] := (F_init_NoInverse T).bindsN fun _ _ _ _ _ _ us hl => match us, hl with | [_, _], _ => rfl
theorem ok_init_NoInverse (T : Txt K mg) : FnOk P w K mg base CX0 1 (He.ma K (He.ga K "NoInverse") "__init__") (fd_init_NoInverse T) ["self", "divisor"] (sp_init K (He.ga K "NoInverse") "divisor") := by
  refine (F_init_NoInverse T).ok sc_init_NoInverse (fun vs H Q E h => ?_) (fun cdv A outer s H vs Q E hr h => ⟨_, PSs.nox (pss_cons (ps_expr (pe_cinit rfl (g_PrimeError T) (base_of (T.c.fact (t := fun K => baseB (He.ga K "PrimeError") K) 26 rfl)) (pa_cons (pv 0) (pa_cons pe_str pa_nil)))) (pss_one (ps_ost (pv 0) (pv 1)))), ?_⟩)
  · obtain ⟨_, _, rfl, _⟩ := h; rfl
  · exact rd_init h
theorem x_NoRoot (T : Txt K mg) : XIn K (He.ga K "NoRoot") (He.ma K (He.ga K "NoRoot") "__init__") "rest" := xin_of (T.c.fact 29 rfl)
theorem F0_init_NoRoot (T : Txt K mg) : ∃ fd, FunD K "__init__" "NoRoot.__init__" (defArgs s_init_NoRoot) (defBody s_init_NoRoot) (defScope s_init_NoRoot) [] [] (He.ma K (He.ga K "NoRoot") "__init__") fd := T.c.dfn 12 rfl
noncomputable def fd_init_NoRoot (T : Txt K mg) : FuncData := (F0_init_NoRoot T).choose
theorem F_init_NoRoot (T : Txt K mg) : FunD K "__init__" "NoRoot.__init__" (defArgs s_init_NoRoot) (defBody s_init_NoRoot) (defScope s_init_NoRoot) [] [] (He.ma K (He.ga K "NoRoot") "__init__") (fd_init_NoRoot T) := (F0_init_NoRoot T).choose_spec
theorem B_init_NoRoot (T : Txt K mg) : Binds K (fd_init_NoRoot T) ["self", "rest"] [] := (F_init_NoRoot T).bindsN fun _ _ _ _ _ _ us hl => match us, hl with | [_, _], _ => rfl
theorem ok_init_NoRoot (T : Txt K mg) : FnOk P w K mg base CX0 1 (He.ma K (He.ga K "NoRoot") "__init__") (fd_init_NoRoot T) ["self", "rest"] (sp_init K (He.ga K "NoRoot") "rest") := by
  refine (F_init_NoRoot T).ok sc_init_NoRoot (fun vs H Q E h => ?_) (fun cdv A outer s H vs Q E hr h => ⟨_, PSs.nox (pss_cons (ps_expr (pe_cinit rfl (g_PrimeError T) (base_of (T.c.fact (t := fun K => baseB (He.ga K "PrimeError") K) 26 rfl)) (pa_cons (pv 0) (pa_cons pe_str pa_nil)))) (pss_one (ps_ost (pv 0) (pv 1)))), ?_⟩)
  · obtain ⟨_, _, rfl, _⟩ := h; rfl
  · exact rd_init h
theorem z_PrimeError (T : Txt K mg) : Exc0 K (He.ga K "PrimeError") := exc0_of (T.c.fact 30 rfl)
theorem z_NoNumber (T : Txt K mg) : Exc0 K (He.ga K "NoNumber") := exc0_of (T.c.fact 31 rfl)
theorem z_Nought (T : Txt K mg) : Exc0 K (He.ga K "Nought") := exc0_of (T.c.fact 32 rfl)
theorem z_NoOrder (T : Txt K mg) : Exc0 K (He.ga K "NoOrder") := exc0_of (T.c.fact 33 rfl)
theorem k_NoNumber_NoInverse (T : Txt K mg) : PySem.W.kitOne K (.ref (He.ga K "NoNumber")) (.ref (He.ga K "NoInverse")) = some false := kitc_of (T.c.fact 38 rfl)
theorem i_NoNumber (T : Txt K mg) : IsX K (He.ga K "NoNumber") := isx_of (T.c.fact 39 rfl)
theorem k_NoNumber_NoOrder (T : Txt K mg) : PySem.W.kitOne K (.ref (He.ga K "NoNumber")) (.ref (He.ga K "NoOrder")) = some false := kitc_of (T.c.fact 40 rfl)
theorem k_NoNumber_NoPrime (T : Txt K mg) : PySem.W.kitOne K (.ref (He.ga K "NoNumber")) (.ref (He.ga K "NoPrime")) = some false := kitc_of (T.c.fact 41 rfl)
theorem k_NoNumber_Nought (T : Txt K mg) : PySem.W.kitOne K (.ref (He.ga K "NoNumber")) (.ref (He.ga K "Nought")) = some false := kitc_of (T.c.fact 42 rfl)
theorem k_NoNumber_NoRoot (T : Txt K mg) : PySem.W.kitOne K (.ref (He.ga K "NoNumber")) (.ref (He.ga K "NoRoot")) = some false := kitc_of (T.c.fact 43 rfl)
theorem k_NoNumber_ValueError (T : Txt K mg) : PySem.W.kitOne K (.ref (He.ga K "NoNumber")) (.type "ValueError") = some true := kitt_of (T.c.fact 44 rfl)
theorem k_TooFar_NoInverse (T : Txt K mg) : PySem.W.kitOne K (.ref (He.ga K "TooFar")) (.ref (He.ga K "NoInverse")) = some false := kitc_of (T.c.fact 45 rfl)
theorem i_TooFar (T : Txt K mg) : IsX K (He.ga K "TooFar") := isx_of (T.c.fact 46 rfl)
theorem k_TooFar_NoOrder (T : Txt K mg) : PySem.W.kitOne K (.ref (He.ga K "TooFar")) (.ref (He.ga K "NoOrder")) = some false := kitc_of (T.c.fact 47 rfl)
theorem k_TooFar_NoPrime (T : Txt K mg) : PySem.W.kitOne K (.ref (He.ga K "TooFar")) (.ref (He.ga K "NoPrime")) = some false := kitc_of (T.c.fact 48 rfl)
theorem k_TooFar_Nought (T : Txt K mg) : PySem.W.kitOne K (.ref (He.ga K "TooFar")) (.ref (He.ga K "Nought")) = some false := kitc_of (T.c.fact 49 rfl)
theorem k_TooFar_NoRoot (T : Txt K mg) : PySem.W.kitOne K (.ref (He.ga K "TooFar")) (.ref (He.ga K "NoRoot")) = some false := kitc_of (T.c.fact 50 rfl)
theorem k_TooFar_ValueError (T : Txt K mg) : PySem.W.kitOne K (.ref (He.ga K "TooFar")) (.type "ValueError") = some true := kitt_of (T.c.fact 51 rfl)
theorem k_NoNumber_NoNumber (T : Txt K mg) : PySem.W.kitOne K (.ref (He.ga K "NoNumber")) (.ref (He.ga K "NoNumber")) = some true := kitc_of (T.c.fact 52 rfl)
theorem k_NoNumber_TooFar (T : Txt K mg) : PySem.W.kitOne K (.ref (He.ga K "NoNumber")) (.ref (He.ga K "TooFar")) = some false := kitc_of (T.c.fact 53 rfl)
theorem k_TooFar_NoNumber (T : Txt K mg) : PySem.W.kitOne K (.ref (He.ga K "TooFar")) (.ref (He.ga K "NoNumber")) = some false := kitc_of (T.c.fact 54 rfl)
theorem k_TooFar_TooFar (T : Txt K mg) : PySem.W.kitOne K (.ref (He.ga K "TooFar")) (.ref (He.ga K "TooFar")) = some true := kitc_of (T.c.fact 55 rfl)
theorem k_TooFar_PrimeError (T : Txt K mg) : PySem.W.kitOne K (.ref (He.ga K "TooFar")) (.ref (He.ga K "PrimeError")) = some true := kitc_of (T.c.fact 56 rfl)
theorem e_NoNumber_PrimeError (T : Txt K mg) : PySem.W.exmOne K (.ref (He.ga K "NoNumber")) (.ref (He.ga K "PrimeError")) = some true := He.exm_ok (T.c.fact 34 rfl)
theorem e_TooFar_PrimeError (T : Txt K mg) : PySem.W.exmOne K (.ref (He.ga K "TooFar")) (.ref (He.ga K "PrimeError")) = some true := He.exm_ok (T.c.fact 35 rfl)
theorem e_TooFar_TooFar (T : Txt K mg) : PySem.W.exmOne K (.ref (He.ga K "TooFar")) (.ref (He.ga K "TooFar")) = some true := He.exm_ok (T.c.fact 36 rfl)
theorem e_NoNumber_TooFar (T : Txt K mg) : PySem.W.exmOne K (.ref (He.ga K "NoNumber")) (.ref (He.ga K "TooFar")) = some false := He.exm_ok (T.c.fact 37 rfl)
/-- _law_draws(cell, many): a new list of many numbers from 0 to below 10 ** 60 -/
def sp__law_draws : Sp := fun vs H Q _ => ∃ (c : Int) (n : Nat), vs = [.int c, .int n] ∧ n ≤ 100 ∧
  ∀ H' p (xs : List Int), xs.length = n → (∀ x ∈ xs, 0 ≤ x ∧ x < 10 ^ 60) → Same H H' → H p = none → H' p = some (.lst (xs.map V.int)) → Q (.ref p) H'
theorem ok__law_draws (T : Txt K mg) : FnOk P w K mg base CX0 1 (He.ga K "_law_draws") (fd__law_draws T) ["_law_cell", "_law_many"] sp__law_draws := by
  refine (F__law_draws T).ok sc__law_draws (fun vs H Q E h => ?_) (fun cdv A outer s H vs Q E hr h => ⟨_, PSs.nox (pss_cons (ps_set (i := 2) sc__law_draws.nd rfl (Or.inl rfl) (pe_lst pa_nil))
      (pss_cons (ps_for PassesOwn.never rfl (pi_range1 rfl (T.fr (T.c.fact 20 rfl)) (pa_cons (pv 1) pa_nil)) (pg_name (i := 3) sc__law_draws.nd rfl (Or.inl rfl)) (pss_one (ps_if (pt_cmpR op_ge (pe_callB callAbs rfl (T.fr (T.c.fact 21 rfl)) boot_abs (pa_cons (pv 0) pa_nil)) (pe_op op_pow pe_int pe_int) (nomark _)) (pss_cons (ps_expr (pe_bm PySem.F.plainAttrs_list PySem.F.slot_list_append PySem.F.type_list_append mt_append (pv 2) (pa_cons (pe_op op_mod (pv 0) (pe_op op_pow pe_int pe_int)) pa_nil)))
      (pss_one (ps_set (i := 0) sc__law_draws.nd rfl (Or.inl rfl) (pe_op op_fdivW (pv 0) (pe_op op_pow pe_int pe_int))))) (pss_cons (ps_set (i := 4) sc__law_draws.nd rfl (Or.inl rfl) (pe_op op_mod (pe_op op_mulW (pe_op op_mod (pe_op op_add (pe_op op_add (pv 0) (pe_op op_mulW (pe_op op_mulW pe_int (pv 3)) (pv 3))) (pv 3)) pe_int) pe_int) pe_int))
      (pss_cons (ps_set (i := 4) sc__law_draws.nd rfl (Or.inl rfl) (pe_op op_fdivW (pe_op op_mod (pe_op op_mulW (pv 4) (pe_op op_add (pe_op op_add (pv 4) (pe_op op_mulW pe_int (pv 3))) pe_int)) pe_int) pe_int))
      (pss_one (ps_expr (pe_bm PySem.F.plainAttrs_list PySem.F.slot_list_append PySem.F.type_list_append mt_append (pv 2) (pa_cons (pe_ix ix_seq (pe_lst (pa_cons (pv 4) (pa_cons (pe_op op_mod (pe_op op_fdivW (pe_op op_pow (pv 4) pe_int) pe_int) (pe_op op_pow pe_int pe_int)) pa_nil))) (pe_op op_mod (pe_op op_fdivW (pv 4) pe_int) pe_int) (fun _ _ => rfl)) pa_nil)))))))))
      (pss_one (ps_ret (pv 2))))), ?_⟩)
  · obtain ⟨c, n, rfl, _⟩ := h; rfl
  · obtain ⟨c, n, rfl, hn, k⟩ := h
    walk_at "g"
    refine ⟨len_le (by simp), fun p hp => ?_⟩
    walk_at "g"
    refine mkR1 n (by omega) (by omega) (by omega) ?_
    refine for_range (n := n) (fun i σ H' => ∃ (c : Int) (u v : Option V) (xs : List Int), σ = [some (.int c), some (.int n), some (.ref p), u, v] ∧ xs.length = i ∧ (∀ x ∈ xs, 0 ≤ x ∧ x < 10 ^ 60) ∧ Same H H' ∧ H' p = some (.lst (xs.map V.int)))
      ⟨c, none, none, [], rfl, rfl, by simp, same_upd hp, upd_same⟩ ?_ ?_
    · rintro i σ H' hi ⟨c, u, v, xs, rfl, hl, hx, hs, hpp⟩
      have more : ∀ x : Int, 0 ≤ x → x < 10 ^ 60 → ∀ y ∈ xs ++ [x], 0 ≤ y ∧ y < 10 ^ 60 := fun x h0 h1 y hy => by
        rcases List.mem_append.mp hy with z | z
        · exact hx y z
        · rw [List.mem_singleton.mp z]; exact ⟨h0, h1⟩
      have hl2 : (xs.map V.int).length < sizeLine := small1000 (by rw [List.length_map]; omega)
      walk_at "g"
      refine s_ite (fun hc => ?_) (fun hc => ?_)
      · walk_at "g"
        refine ⟨s_tyL hpp, ?_⟩
        walk_at "g"
        refine s_append hpp hl2 ?_
        walk_at "g"
        refine ⟨_, _, _, xs ++ [c % 10 ^ 60], rfl, by rw [List.length_append, hl]; rfl, more _ (Int.emod_nonneg _ (by decide)) (Int.emod_lt_of_pos _ (by decide)), same_upd' hs hp, ?_⟩
        rw [upd_same, List.map_append]; rfl
      · walk_at "g"
        refine ⟨s_tyL hpp, ?_⟩
        have h1 : 0 ≤ (c + 7919 * (0 + (i : Int)) * (0 + i) + (0 + i)) % 2147483647 * 48271 % 2147483647 := by omega
        have h2 : (c + 7919 * (0 + (i : Int)) * (0 + i) + (0 + i)) % 2147483647 * 48271 % 2147483647 < 2147483647 := by omega
        generalize (c + 7919 * (0 + (i : Int)) * (0 + i) + (0 + i)) % 2147483647 * 48271 % 2147483647 = n1 at h1 h2 ⊢
        generalize h3 : n1 * (n1 + 12345 * (0 + (i : Int)) + 7) = m
        have h4 : 0 ≤ m % 2147483629 / 11 := by omega
        have h5 : m % 2147483629 / 11 < 195225785 := by omega
        generalize m % 2147483629 / 11 = n2 at h4 h5 ⊢
        walk_at "g"
        refine ⟨len_le (by simp), fun p2 hp2 => ?_⟩
        walk_at "g"
        refine s_pick2 (P := fun z => 0 ≤ z ∧ z < 10 ^ 60) upd_same (by omega) (by omega) ⟨Int.emod_nonneg _ (by decide), Int.emod_lt_of_pos _ (by decide)⟩ fun z hz => ?_
        walk_at "g"
        have hpp2 : upd H' p2 (HO.lst [V.int n2, V.int (n2 ^ 7 / 13 % 10 ^ 60)]) p = some (.lst (xs.map V.int)) := same_upd hp2 _ _ hpp
        refine s_append hpp2 hl2 ?_
        walk_at "g"
        refine ⟨_, _, _, xs ++ [z], rfl, by rw [List.length_append, hl]; rfl, more _ hz.1 hz.2, same_upd' (same_new hs hp2) hp, ?_⟩
        rw [upd_same, List.map_append]; rfl
    · rintro σ H' ⟨c, u, v, xs, rfl, hl, hx, hs, hpp⟩
      walk_at "g"
      exact k H' p xs hl hx hs hp hpp

/-- _law_whole of an int, a truth -/
def sp__law_whole : Sp := fun vs H Q _ => (∃ n : Int, vs = [.int n] ∧ Q (.bl true) H) ∨ (∃ b, vs = [.bl b] ∧ Q (.bl false) H) ∨ (vs = [.non] ∧ Q (.bl false) H)
theorem ok__law_whole (T : Txt K mg) : FnOk P w K mg base CX0 1 (He.ga K "_law_whole") (fd__law_whole T) ["_law_found"] sp__law_whole := by
  refine (F__law_whole T).ok sc__law_whole (fun vs H Q E h => ?_) (fun cdv A outer s H vs Q E hr h => ⟨_, PSs.nox (pss_one (ps_ret (pe_and (pe_callB call_isi rfl (T.fr (T.c.fact 18 rfl)) boot_isinstance (pa_cons (pv 0) (pa_cons (pe_bltn (v := .ty "int") rfl (T.fr (T.c.fact 17 rfl)) boot_int rfl) pa_nil))) (pe_one (pe_not (pe_callB call_isi rfl (T.fr (T.c.fact 18 rfl)) boot_isinstance (pa_cons (pv 0) (pa_cons (pe_bltn (v := .ty "bool") rfl (T.fr (T.c.fact 19 rfl)) boot_bool rfl) pa_nil)))))))), ?_⟩)
  · rcases h with ⟨_, rfl, _⟩ | ⟨_, rfl, _⟩ | ⟨rfl, _⟩ <;> rfl
  · rcases h with ⟨n, rfl, k⟩ | ⟨b, rfl, k⟩ | ⟨rfl, k⟩
    · walk_at "g"
      exact k
    · walk_at "g"
      refine s_isi (.bl b) kb_bi ?_
      walk_at "g"
      refine s_isi (.bl b) kb_bb ?_
      walk_at "g"
      exact k
    · walk_at "g"
      refine s_isi .non kb_ni ?_
      walk_at "g"
      exact k

theorem fac_len {n : Nat} {l : List (Nat × Nat)} {m d : Nat} (h : M.Fac n l m d) (hn : n < 2 ^ 200) : l.length ≤ 200 := by
  have h1 : ∀ l : List (Nat × Nat), (∀ x ∈ l, M.Prime x.1 ∧ 0 < x.2) → 2 ^ l.length ≤ M.prodL l := fun l => by
    induction l with
    | nil => intro _; exact Nat.le_refl 1
    | cons x l ih =>
      intro hl
      have h1 := ih fun y hy => hl y (by simp [hy])
      have h2 := hl x (by simp)
      have h3 : 2 ≤ x.1 ^ x.2 := Nat.le_trans h2.1.1 (Nat.le_of_dvd (Nat.pow_pos h2.1.pos) (M.dvd_pow_self x.1 h2.2))
      rw [List.length_cons, Nat.pow_succ, Nat.mul_comm]
      exact Nat.mul_le_mul h3 h1
  have h2 := h1 l h.primes
  have h3 : M.prodL l ≤ n := by rw [← h.prod]; exact Nat.le_mul_of_pos_right _ h.npos
  rcases Nat.lt_or_ge 200 l.length with z | z
  · have := Nat.pow_le_pow_right (show 0 < 2 by decide) (Nat.le_of_lt z)
    omega
  · exact z
theorem fac_rest {n : Nat} {l : List (Nat × Nat)} {m d : Nat} (h : M.Fac n l m d) : m ≤ n := by
  rw [← h.prod]
  have : 0 < M.prodL l := Nat.pos_of_ne_zero fun z => by
    have h1 := h.prod
    rw [z, Nat.zero_mul] at h1
    have h2 : ∀ l : List (Nat × Nat), (∀ x ∈ l, M.Prime x.1 ∧ 0 < x.2) → 0 < M.prodL l := fun l => by
      induction l with
      | nil => intro _; decide
      | cons x l ih => intro hl; exact Nat.mul_pos (Nat.pow_pos (hl x (by simp)).1.pos) (ih fun y hy => hl y (by simp [hy]))
    have := h2 l h.primes
    omega
  exact Nat.le_mul_of_pos_left _ this
/-- look_at(n, least): NoNumber, TooFar, or nothing -/
def sp_look_at (K : PySem.W.Frag) : Sp := fun vs H Q E => ∃ n l : Int, vs = [.int n, .int l] ∧ (n < l → E (.ref (He.ga K "NoNumber")) none H) ∧
  (l ≤ n → 1000000000 < n → ∀ (d : Addr) (H' : Hp), H d = none → Same H H' → H' d = some (.xd [("part", .int n)]) → E (.ref (He.ga K "TooFar")) (some d) H') ∧ (l ≤ n → n ≤ 1000000000 → Q .non H)
theorem ok_look_at (T : Txt K mg) : FnOk P w K mg base (L2.CX P w) 4 (He.ga K "look_at") (fd_look_at T) ["n", "least"] (sp_look_at K) := by
  refine (F_look_at T).ok sc_look_at (fun vs H Q E h => ?_) (fun cdv A outer s H vs Q E hr h => ⟨_, (pss_cons (ps_if (pt_cmpR op_lt (pv 0) (pv 1) (nomark _)) (pss_one (ps_raise rfl (takes_of rfl rfl rfl rfl) (pmk_zs (z_NoNumber T) (g_NoNumber T) rfl))) pss_nil)
      (pss_one (ps_if (pt_cmpR op_gt (pv 0) (pe_glob (v := .int 1000000000) rfl (T.int_ok (T.c.fact 24 rfl)).choose_spec ⟨_, rfl⟩) (nomark _)) (pss_one (ps_raise rfl (takes_of rfl rfl rfl rfl) (pmk_oex (x_TooFar T).oex (x_TooFar T).iC (x_TooFar T).tI (ok_init_TooFar T) (hr.mono (by decide)) (B_init_TooFar T) .nil pass0 rfl (g_TooFar T) (pa_cons (pv 0) pa_nil)))) pss_nil))), ?_⟩)
  · obtain ⟨n, l, rfl, _⟩ := h; rfl
  · obtain ⟨n, l, rfl, k1, k2, k3⟩ := h
    walk_at "g"
    refine s_ite (fun c => ?_) (fun c => ?_)
    · walk_at "g"
      exact k1 c
    · walk_at "g"
      refine s_ite (fun c2 => ?_) (fun c2 => ?_)
      · walk_at "g"
        refine s_raise (x_TooFar T).oex (x_TooFar T).noF fun d H' hd hx hs => ?_
        exact k2 (by omega) c2 d H' hd hs hx
      · walk_at "g"
        exact k3 (by omega) (by omega)
/-- the least divisor of n from 2 on -/
structure LeastDiv (n r : Nat) : Prop where
  two : 2 ≤ r
  dvd : r ∣ n
  no : ∀ e, 2 ≤ e → e < r → ¬ e ∣ n
theorem LeastDiv.unique {n r s : Nat} (h : LeastDiv n r) (h' : LeastDiv n s) : r = s := by
  rcases Nat.lt_trichotomy r s with z | z | z
  · exact absurd h.dvd (h'.no r h.two z)
  · exact z
  · exact absurd h'.dvd (h.no s h'.two z)
theorem LeastDiv.prime {n r : Nat} (h : LeastDiv n r) : M.Prime r := M.prime_of_no h.two fun d h1 h2 h3 => by
  have : d < r := by
    rcases Nat.lt_or_ge d r with z | z
    · exact z
    · have := Nat.mul_le_mul z h1
      have := h.two
      omega
  exact h.no d h1 this (Nat.dvd_trans h3 h.dvd)
/-- divisor_from(n, d) -/
def sp_divisor_from : Sp := fun vs H Q _ => ∃ n d : Nat, vs = [.int n, .int d] ∧ 2 ≤ n ∧ n < 2 ^ 60 ∧ d < 2 ^ 60 ∧ (d = 2 ∨ d % 2 = 1 ∧ 2 ≤ d) ∧ (∀ e, 2 ≤ e → e < d → ¬ e ∣ n) ∧ ∀ r : Nat, LeastDiv n r → Q (.int r) H
theorem ok_divisor_from (T : Txt K mg) : FnOk P w K mg base CX0 1 (He.ga K "divisor_from") (fd_divisor_from T) ["n", "d"] sp_divisor_from := by
  refine (F_divisor_from T).ok sc_divisor_from (fun vs H Q E h => ?_) (fun cdv A outer s H vs Q E hr h => ⟨_, PSs.nox (pss_cons (ps_while PassesOwn.never (pt_cmpR op_le (pe_op op_mulW (pv 1) (pv 1)) (pv 0) (nomark _)) (pss_cons (ps_if (pt_cmpR op_eq (pe_op op_mod (pv 0) (pv 1)) pe_int (nomark _)) (pss_one (ps_ret (pv 1))) pss_nil)
      (pss_one (ps_set (i := 1) sc_divisor_from.nd rfl (Or.inl rfl) (pe_op op_add (pe_op op_add (pv 1) pe_int) (pe_callTy callInt1 rfl (T.fr (T.c.fact 17 rfl)) boot_int (pa_cons (pe_cmpR op_gt (pv 1) pe_int (nomark _)) pa_nil)))))))
      (pss_one (ps_ret (pv 0)))), ?_⟩)
  · obtain ⟨n, d, rfl, _⟩ := h; rfl
  · obtain ⟨n, d0, rfl, n2, nb, db, hd, hno, k⟩ := h
    walk_at "g"
    refine s_while (fun σ H' => H' = H ∧ ∃ d : Nat, σ = [some (.int n), some (.int d)] ∧ d < 2 ^ 61 ∧ (d = 2 ∨ d % 2 = 1 ∧ 2 ≤ d) ∧ ∀ e, 2 ≤ e → e < d → ¬ e ∣ n) (fun σ _ => n + 2 ^ 61 - (iv σ 1).toNat) ⟨rfl, d0, rfl, by omega, hd, hno⟩ ?_
    rintro σ H' ⟨rfl, d, rfl, db, hd, hno⟩
    have d2 : 2 ≤ d := by omega
    have dd : d * 2 ≤ d * d := Nat.mul_le_mul_left d d2
    walk_at "g"
    try refine s_i (mulW (by omega) (by omega)) ?_
    walk_at "g"
    refine s_ite (fun c => ?_) (fun c => ?_)
    · have hdd : d * d ≤ n := by
        have : ((d * d : Nat) : Int) ≤ n := by push_cast; omega
        omega
      walk_at "g"
      refine s_i (by omega) ?_
      walk_at "g"
      refine s_ite (fun c2 => ?_) (fun c2 => ?_)
      · walk_at "g"
        exact k d ⟨d2, Int.natCast_dvd_natCast.mp (Int.dvd_of_emod_eq_zero c2), hno⟩
      · have hnd : ¬ d ∣ n := fun z => c2 (Int.emod_eq_zero_of_dvd (Int.natCast_dvd_natCast.mpr z))
        walk_at "g"
        have hdx : ∃ x : Nat, (d : Int) + 1 + (if decide ((2 : Int) < d) = true then 1 else 0) = (x : Int) ∧ (x = d + 1 ∧ d = 2 ∨ x = d + 2 ∧ 2 < d) := by
          by_cases z : d = 2
          · exact ⟨d + 1, by rw [if_neg (by rw [decide_eq_false (by omega)]; decide)]; omega, .inl ⟨rfl, z⟩⟩
          · exact ⟨d + 2, by rw [if_pos (decide_eq_true (by omega))]; omega, .inr ⟨rfl, by omega⟩⟩
        obtain ⟨x, ex, hx⟩ := hdx
        rw [ex]
        refine ⟨⟨rfl, x, rfl, by omega, by omega, fun e h1 h3 => ?_⟩, ?_⟩
        · rcases Nat.lt_or_ge e d with z | z
          · exact hno e h1 z
          · by_cases z2 : e = d
            · rw [z2]; exact hnd
            · have he : e = d + 1 ∧ 2 < d := by omega
              intro z3
              have : 2 ∣ e := Nat.dvd_of_mod_eq_zero (by omega)
              exact hno 2 (by decide) he.2 (Nat.dvd_trans this z3)
        · show n + 2 ^ 61 - (x : Int).toNat < n + 2 ^ 61 - (d : Int).toNat
          omega
    · have hdd : n < d * d := by
        have : ¬ ((d * d : Nat) : Int) ≤ n := by push_cast; omega
        omega
      walk_at "g"
      refine k n ⟨n2, Nat.dvd_refl _, fun e h1 h3 h4 => ?_⟩
      obtain ⟨c', hc⟩ := h4
      have he : d ≤ e := by
        rcases Nat.lt_or_ge e d with z | z
        · exact absurd ⟨c', hc⟩ (hno e h1 z)
        · exact z
      have hc2 : 2 ≤ c' := by
        rcases Nat.lt_or_ge c' 2 with z | z
        · have : c' = 0 ∨ c' = 1 := by omega
          rcases this with rfl | rfl <;> omega
        · exact z
      have hcd : d ≤ c' := by
        rcases Nat.lt_or_ge c' d with z | z
        · exact absurd ⟨e, by rw [hc, Nat.mul_comm]⟩ (hno c' hc2 z)
        · exact z
      have := Nat.mul_le_mul he hcd
      omega

/-- least_divisor(n) -/
def sp_least_divisor (K : PySem.W.Frag) : Sp := fun vs H Q E => ∃ n : Int, vs = [.int n] ∧ (n < 2 → E (.ref (He.ga K "NoNumber")) none H) ∧
  (1000000000 < n → ∀ (d : Addr) (H' : Hp), H d = none → Same H H' → H' d = some (.xd [("part", .int n)]) → E (.ref (He.ga K "TooFar")) (some d) H') ∧
  (∀ m : Nat, n = m → 2 ≤ m → m ≤ 1000000000 → ∀ r : Nat, LeastDiv m r → Q (.int r) H)
theorem ok_least_divisor (T : Txt K mg) : FnOk P w K mg base (L2.CX P w) 5 (He.ga K "least_divisor") (fd_least_divisor T) ["n"] (sp_least_divisor K) := by
  refine (F_least_divisor T).ok sc_least_divisor (fun vs H Q E h => ?_) (fun cdv A outer s H vs Q E hr h => ⟨_, (pss_cons (ps_expr (pe_call (ok_look_at T) (hr.mono (by decide)) rfl (g_look_at T) (kp_look_at T) (B_look_at T) .nil (passes_call (takes_of rfl rfl rfl rfl) (fun _ _ _ _ h => h)) (pa_cons (pv 0) (pa_cons pe_int pa_nil))))
      (pss_one (ps_ret (pe_call (ok_divisor_from T) (hr.mono (by decide)) rfl (g_divisor_from T) (kp_divisor_from T) (B_divisor_from T) .nil pass0 (pa_cons (pv 0) (pa_cons pe_int pa_nil)))))), ?_⟩)
  · obtain ⟨n, rfl, _⟩ := h; rfl
  · obtain ⟨n, rfl, k1, k2, k3⟩ := h
    walk_at "g"
    refine ⟨n, 2, rfl, fun c => k1 c, fun _ c d H' hd hs hx => k2 c d H' hd hs hx, fun c1 c2 => ?_⟩
    obtain ⟨n0, rfl⟩ := Int.eq_ofNat_of_zero_le (show 0 ≤ n by omega)
    walk_at "g"
    refine ⟨n0, 2, rfl, by omega, by omega, by omega, .inl rfl, fun e h1 h2 => by omega, fun r hr => ?_⟩
    exact k3 n0 rfl (by omega) (by omega) r hr

/-- _law_right(n): the truth -/
def sp__law_right : Sp := fun vs H Q _ => ∃ n : Nat, vs = [.int n] ∧ 2 ≤ n ∧ n ≤ 1000000000 ∧ ∀ H', Same H H' → Q (.bl true) H'
theorem ok__law_right (T : Txt K mg) : FnOk P w K mg base CX0 6 (He.ga K "_law_right") (fd__law_right T) ["_law_n"] sp__law_right := by
  refine (F__law_right T).ok sc__law_right (fun vs H Q E h => ?_) (fun cdv A outer s H vs Q E hr h => ⟨_, PSs.nox (pss_cons (ps_set (i := 1) sc__law_right.nd rfl (Or.inl rfl) (pe_call (ok_least_divisor T) (hr.mono (by decide)) rfl (g_least_divisor T) (kp_least_divisor T) (B_least_divisor T) .nil passL (pa_cons (pv 0) pa_nil)))
      (pss_cons (ps_if (PW.pt (pw_or (pt_not (pt_val (pe_call (ok__law_whole T) (hr.mono (by decide)) rfl (g__law_whole T) (kp__law_whole T) (B__law_whole T) .nil pass0 (pa_cons (pv 1) pa_nil)))) (pw_or (pt_cmpR op_lt (pv 1) pe_int (nomark _)) (pw_or (pt_cmpR op_gt (pv 1) (pv 0) (nomark _)) (pw_or1 (pt_cmpR op_ne (pe_op op_mod (pv 0) (pv 1)) pe_int (nomark _))))))) (pss_one (ps_ret pe_bl)) pss_nil)
      (pss_cons (ps_set (i := 2) sc__law_right.nd rfl (Or.inl rfl) pe_int)
      (pss_cons (ps_while PassesOwn.never (PW.pt (pw_and (pt_cmpR op_lt (pv 2) (pv 1) (nomark _)) (pw_and1 (pt_cmpR op_le (pe_op op_mulW (pv 2) (pv 2)) (pv 0) (nomark _))))) (pss_cons (ps_if (pt_cmpR op_eq (pe_op op_mod (pv 0) (pv 2)) pe_int (nomark _)) (pss_one (ps_ret pe_bl)) pss_nil)
      (pss_one (ps_set (i := 2) sc__law_right.nd rfl (Or.inl rfl) (pe_op op_add (pv 2) pe_int)))))
      (pss_one (ps_ret pe_bl)))))), ?_⟩)
  · obtain ⟨n, rfl, _⟩ := h; rfl
  · obtain ⟨n, rfl, n2, n9, k⟩ := h
    walk_at "g"
    refine ⟨n, rfl, fun z => by omega, fun z => by omega, fun m em _ _ r hr => ?_⟩
    obtain rfl : m = n := by omega
    have hr2 := hr.two
    have hrn := Nat.le_of_dvd (by omega) hr.dvd
    have em : (m : Int) % (r : Int) = 0 := Int.emod_eq_zero_of_dvd (Int.natCast_dvd_natCast.mpr hr.dvd)
    walk_at "g"
    refine .inl ⟨_, rfl, ?_⟩
    walk_at "g"
    refine s_itN (by omega) ?_
    walk_at "g"
    refine s_itN (by omega) ?_
    walk_at "g"
    refine s_i (show (0 : Int) < (r : Int) by omega) ?_
    rw [em]
    walk_at "g"
    refine s_while (fun σ H' => H' = H ∧ ∃ d : Nat, σ = [some (.int m), some (.int r), some (.int d)] ∧ 2 ≤ d ∧ d ≤ r) (fun σ _ => r - (iv σ 2).toNat) ⟨rfl, 2, rfl, by decide, hr2⟩ ?_
    rintro σ H' ⟨rfl, d, rfl, d2, dr⟩
    walk_at "g"
    refine s_ite (fun c => ?_) (fun c => ?_)
    · have hno := hr.no d d2 (by omega)
      walk_at "g"
      try refine s_i (mulW (by omega) (by omega)) ?_
      walk_at "g"
      refine s_ite (fun c2 => ?_) (fun c2 => ?_)
      · walk_at "g"
        refine s_i (show (0 : Int) < (d : Int) by omega) ?_
        walk_at "g"
        refine s_itN (fun z => hno (Int.natCast_dvd_natCast.mp (Int.dvd_of_emod_eq_zero z))) ?_
        walk_at "g"
        refine ⟨⟨rfl, d + 1, by push_cast; rfl, by omega, by omega⟩, ?_⟩
        show r - ((d : Int) + 1).toNat < r - (d : Int).toNat
        omega
      · walk_at "g"
        exact k _ (Same.refl _)
    · walk_at "g"
      exact k _ (Same.refl _)

/-- _law_refused(n): what is caught, told -/
def sp__law_refused : Sp := fun vs H Q _ => ∃ n : Int, vs = [.int n] ∧ (n < 2 ∧ (∀ D H', Same H H' → H' D = some (.lst [.bl true, .bl false, .bl true, .bl false]) → Q (.ref D) H') ∨ 1000000000 < n ∧ ∀ D H', Same H H' → H' D = some (.lst [.bl false, .bl true, .bl true, .bl false]) → Q (.ref D) H')
theorem ok__law_refused (T : Txt K mg) : FnOk P w K mg base CX0 6 (He.ga K "_law_refused") (fd__law_refused T) ["_law_n"] sp__law_refused := by
  refine (F__law_refused T).ok sc__law_refused (fun vs H Q E h => ?_) (fun cdv A outer s H vs Q E hr h => ⟨_, PSs.nox (pss_cons (ps_set (i := 1) sc__law_refused.nd rfl (Or.inl rfl) pe_non)
      (pss_cons (ps_try_as (i := 2) (Wout := fun _ _ _ _ => False) rfl rfl sc__law_refused.nd rfl rfl ⟨rfl, by decide, .inl (g_PrimeError T)⟩ takes0 (fun W pn xe tk po => (pss_one (ps_expr (pe_callS (ok_least_divisor T) (hr.mono (by decide)) rfl (g_least_divisor T) (kp_least_divisor T) (B_least_divisor T) (fun σ => passAt tk σ) (pa_cons (pv 0) pa_nil))))) (fun a oe cls d pn hz hf => (pss_cons (ps_set (i := 3) sc__law_refused.nd rfl (Or.inl rfl) (pe_or (pe_callB (callIsA hz hf) rfl (T.fr (T.c.fact 18 rfl)) boot_isinstance (pa_cons (pv 2) (pa_cons (pe_glob (v := .ref (He.ga K "NoInverse")) rfl (g_NoInverse T) rfl) pa_nil))) (pe_or (pe_callB (callIsA hz hf) rfl (T.fr (T.c.fact 18 rfl)) boot_isinstance (pa_cons (pv 2) (pa_cons (pe_glob (v := .ref (He.ga K "NoOrder")) rfl (g_NoOrder T) rfl) pa_nil))) (pe_or (pe_callB (callIsA hz hf) rfl (T.fr (T.c.fact 18 rfl)) boot_isinstance (pa_cons (pv 2) (pa_cons (pe_glob (v := .ref (He.ga K "NoPrime")) rfl (g_NoPrime T) rfl) pa_nil))) (pe_one (pe_callB (callIsA hz hf) rfl (T.fr (T.c.fact 18 rfl)) boot_isinstance (pa_cons (pv 2) (pa_cons (pe_glob (v := .ref (He.ga K "Nought")) rfl (g_Nought T) rfl) pa_nil))))))))
      (pss_cons (ps_set (i := 3) sc__law_refused.nd rfl (Or.inl rfl) (pe_or (pv 3) (pe_one (pe_callB (callIsA hz hf) rfl (T.fr (T.c.fact 18 rfl)) boot_isinstance (pa_cons (pv 2) (pa_cons (pe_glob (v := .ref (He.ga K "NoRoot")) rfl (g_NoRoot T) rfl) pa_nil))))))
      (pss_one (ps_set (i := 1) sc__law_refused.nd rfl (Or.inl rfl) (pe_lst (pa_cons (pe_callB (callIsA hz hf) rfl (T.fr (T.c.fact 18 rfl)) boot_isinstance (pa_cons (pv 2) (pa_cons (pe_glob (v := .ref (He.ga K "NoNumber")) rfl (g_NoNumber T) rfl) pa_nil))) (pa_cons (pe_callB (callIsA hz hf) rfl (T.fr (T.c.fact 18 rfl)) boot_isinstance (pa_cons (pv 2) (pa_cons (pe_glob (v := .ref (He.ga K "TooFar")) rfl (g_TooFar T) rfl) pa_nil))) (pa_cons (pe_callB (callIsA hz hf) rfl (T.fr (T.c.fact 18 rfl)) boot_isinstance (pa_cons (pv 2) (pa_cons (pe_bltn (v := .ty "ValueError") rfl (T.fr (T.c.fact 22 rfl)) (by decide +kernel) rfl) pa_nil))) (pa_cons (pv 3) pa_nil)))))))))))
      (pss_one (ps_ret (pv 1))))), ?_⟩)
  · obtain ⟨n, rfl, _⟩ := h; rfl
  · obtain ⟨n, rfl, hk⟩ := h
    walk_at "g"
    refine ⟨n, rfl, fun c => ?_, fun c d H0 hd hs hx => ?_, fun m em m1 m2 => by omega⟩
    · have k := (hk.resolve_right fun z => by omega).2
      refine ⟨true, e_NoNumber_PrimeError T, fun _ a0 ha0 => ?_, fun z => Bool.noConfusion z⟩
      walk_at "g"
      refine s_isA0 (i_NoNumber T) (.own _) (k_NoNumber_NoInverse T) ?_
      walk_at "g"
      refine s_isA0 (i_NoNumber T) (.own _) (k_NoNumber_NoOrder T) ?_
      walk_at "g"
      refine s_isA0 (i_NoNumber T) (.own _) (k_NoNumber_NoPrime T) ?_
      walk_at "g"
      refine s_isA0 (i_NoNumber T) (.own _) (k_NoNumber_Nought T) ?_
      walk_at "g"
      refine s_isA0 (i_NoNumber T) (.own _) (k_NoNumber_NoRoot T) ?_
      walk_at "g"
      refine s_isA0 (i_NoNumber T) (.own _) (k_NoNumber_NoNumber T) ?_
      walk_at "g"
      refine s_isA0 (i_NoNumber T) (.own _) (k_NoNumber_TooFar T) ?_
      walk_at "g"
      refine s_isA0 (i_NoNumber T) (.ty _) (k_NoNumber_ValueError T) ?_
      walk_at "g"
      refine mkL (by simp) fun D H2 nD eD s2 => ?_
      walk_at "g"
      exact k D H2 s2 eD
    · have k := (hk.resolve_left fun z => by omega).2
      refine ⟨true, e_TooFar_PrimeError T, fun _ a0 ha0 => ?_, fun z => Bool.noConfusion z⟩
      walk_at "g"
      refine s_isA (i_TooFar T) (fun dd e => by cases e; exact hx) (.own _) (k_TooFar_NoInverse T) ?_
      walk_at "g"
      refine s_isA (i_TooFar T) (fun dd e => by cases e; exact hx) (.own _) (k_TooFar_NoOrder T) ?_
      walk_at "g"
      refine s_isA (i_TooFar T) (fun dd e => by cases e; exact hx) (.own _) (k_TooFar_NoPrime T) ?_
      walk_at "g"
      refine s_isA (i_TooFar T) (fun dd e => by cases e; exact hx) (.own _) (k_TooFar_Nought T) ?_
      walk_at "g"
      refine s_isA (i_TooFar T) (fun dd e => by cases e; exact hx) (.own _) (k_TooFar_NoRoot T) ?_
      walk_at "g"
      refine s_isA (i_TooFar T) (fun dd e => by cases e; exact hx) (.own _) (k_TooFar_NoNumber T) ?_
      walk_at "g"
      refine s_isA (i_TooFar T) (fun dd e => by cases e; exact hx) (.own _) (k_TooFar_TooFar T) ?_
      walk_at "g"
      refine s_isA (i_TooFar T) (fun dd e => by cases e; exact hx) (.ty _) (k_TooFar_ValueError T) ?_
      walk_at "g"
      refine mkL (by simp) fun D H2 nD eD s2 => ?_
      walk_at "g"
      exact k D H2 (hs.trans s2) eD
/-- _law_part(n): the part of what is caught -/
def sp__law_part : Sp := fun vs H Q _ => ∃ n : Int, vs = [.int n] ∧ 1000000000 < n ∧ ∀ H', Same H H' → Q (.int n) H'
theorem ok__law_part (T : Txt K mg) : FnOk P w K mg base CX0 6 (He.ga K "_law_part") (fd__law_part T) ["_law_n"] sp__law_part := by
  refine (F__law_part T).ok sc__law_part (fun vs H Q E h => ?_) (fun cdv A outer s H vs Q E hr h => ⟨_, PSs.nox (pss_cons (ps_set (i := 1) sc__law_part.nd rfl (Or.inl rfl) pe_non)
      (pss_cons (ps_try_as (i := 2) (Wout := fun _ _ _ _ => False) rfl rfl sc__law_part.nd rfl rfl ⟨rfl, by decide, .inl (g_TooFar T)⟩ takes0 (fun W pn xe tk po => (pss_one (ps_expr (pe_callS (ok_least_divisor T) (hr.mono (by decide)) rfl (g_least_divisor T) (kp_least_divisor T) (B_least_divisor T) (fun σ => passAt tk σ) (pa_cons (pv 0) pa_nil))))) (fun a oe cls d pn hz hf => (pss_one (ps_set (i := 1) sc__law_part.nd rfl (Or.inl rfl) (pe_xf (x_TooFar T).xf (x_TooFar T).noF hz hf (pv 2))))))
      (pss_one (ps_ret (pv 1))))), ?_⟩)
  · obtain ⟨n, rfl, _⟩ := h; rfl
  · obtain ⟨n, rfl, hn, k⟩ := h
    walk_at "g"
    refine ⟨n, rfl, fun c => by omega, fun c d H0 hd hs hx => ?_, fun m em m1 m2 => by omega⟩
    refine ⟨true, e_TooFar_TooFar T, fun _ a0 ha0 => ?_, fun z => Bool.noConfusion z⟩
    walk_at "g"
    refine s_xf rfl hx ?_
    walk_at "g"
    exact k _ hs

theorem dp_b4 {K : PySem.W.Frag} {H : Hp} {D : Addr} {a b c d : Bool} (h : H D = some (.lst [.bl a, .bl b, .bl c, .bl d])) : Dp K H (.ref D) (.list [.bool a, .bool b, .bool c, .bool d]) := .lst (SqL.of h) (.cons (.bl _) (.cons (.bl _) (.cons (.bl _) (.cons (.bl _) .nil))))
/-- the law -/
def sp_law (K : PySem.W.Frag) : Sp := fun vs H Q _ => ∃ (a : Addr) (ns : List Int), vs = [.ref a] ∧ ns.length ≤ 63 ∧ SqL K H a (ns.map V.int) ∧ ∀ H', Q (.bl true) H'
theorem ok_law (T : Txt K mg) : FnOk P w K mg base CX0 7 (He.ga K "law") (fd_law T) ["_law_script"] (sp_law K) := by
  refine (F_law T).ok sc_law (fun vs H Q E h => ?_) (fun cdv A outer s H vs Q E hr h => ⟨_, PSs.nox (pss_cons (ps_for PassesOwn.never rfl (pi_list (pe_slice sl_list (pv 0) po_none (po_some pe_int))) (pg_name (i := 1) sc_law.nd rfl (Or.inl rfl)) (pss_cons (ps_set (i := 2) sc_law.nd rfl (Or.inl rfl) (pe_call (ok__law_draws T) (hr.mono (by decide)) rfl (g__law_draws T) (kp__law_draws T) (B__law_draws T) .nil pass0 (pa_cons (pv 1) (pa_cons pe_int pa_nil))))
      (pss_cons (ps_set (i := 3) sc_law.nd rfl (Or.inl rfl) (pe_op op_sub (pe_ix ix_seq (pe_lst (pa_cons pe_int (pa_cons pe_int (pa_cons pe_int (pa_cons (pe_op op_pow pe_int pe_int) (pa_cons pe_int (pa_cons pe_int (pa_cons pe_int (pa_cons (pe_op op_pow pe_int pe_int) pa_nil))))))))) (pe_op op_mod (pe_ix ix_seq (pv 2) pe_int (fun _ _ => rfl)) pe_int) (fun _ _ => rfl)) pe_int))
      (pss_cons (ps_if (pt_cmpR op_eq (pe_op op_mod (pe_op op_fdivW (pe_ix ix_seq (pv 2) pe_int (fun _ _ => rfl)) pe_int) pe_int) pe_int (nomark _)) (pss_one (ps_set (i := 3) sc_law.nd rfl (Or.inl rfl) (pe_callB (callMin2 rfl) rfl (T.fr (T.c.fact 23 rfl)) boot_min (pa_cons (pv 3) (pa_cons (pe_op op_sub (pe_op op_pow pe_int pe_int) pe_int) pa_nil))))) pss_nil)
      (pss_cons (ps_set (i := 4) sc_law.nd rfl (Or.inl rfl) (pe_op op_add pe_int (pe_op op_mod (pe_ix ix_seq (pv 2) pe_int (fun _ _ => rfl)) (pv 3))))
      (pss_cons (ps_if (pt_cmpR op_eq (pe_op op_mod (pe_op op_fdivW (pe_ix ix_seq (pv 2) pe_int (fun _ _ => rfl)) pe_int) pe_int) pe_int (nomark _)) (pss_one (ps_set (i := 4) sc_law.nd rfl (Or.inl rfl) (pe_op op_mulW (pe_op op_add pe_int (pe_op op_mod (pe_ix ix_seq (pv 2) pe_int (fun _ _ => rfl)) pe_int)) (pe_op op_add pe_int (pe_op op_mod (pe_ix ix_seq (pv 2) pe_int (fun _ _ => rfl)) pe_int))))) pss_nil)
      (pss_cons (ps_if (pt_cmpR op_eq (pe_op op_mod (pe_op op_fdivW (pe_ix ix_seq (pv 2) pe_int (fun _ _ => rfl)) pe_int) pe_int) pe_int (nomark _)) (pss_one (ps_set (i := 4) sc_law.nd rfl (Or.inl rfl) (pe_op op_mulW (pe_op op_add pe_int (pe_op op_mod (pe_ix ix_seq (pv 2) pe_int (fun _ _ => rfl)) pe_int)) (pe_op op_add pe_int (pe_op op_mod (pe_ix ix_seq (pv 2) pe_int (fun _ _ => rfl)) pe_int))))) pss_nil)
      (pss_cons (ps_if (pt_not (pt_val (pe_call (ok__law_right T) (hr.mono (by decide)) rfl (g__law_right T) (kp__law_right T) (B__law_right T) .nil pass0 (pa_cons (pv 4) pa_nil)))) (pss_one (ps_ret pe_bl)) pss_nil)
      (pss_cons (ps_set (i := 5) sc_law.nd rfl (Or.inl rfl) (pe_op op_sub pe_int (pe_ix ix_seq (pe_lst (pa_cons (pe_op op_mod (pe_ix ix_seq (pv 2) pe_int (fun _ _ => rfl)) pe_int) (pa_cons (pe_ix ix_seq (pv 2) pe_int (fun _ _ => rfl)) pa_nil))) (pe_op op_mod (pe_op op_fdivW (pe_ix ix_seq (pv 2) pe_int (fun _ _ => rfl)) pe_int) pe_int) (fun _ _ => rfl))))
      (pss_cons (ps_set (i := 6) sc_law.nd rfl (Or.inl rfl) (pe_op op_add (pe_op op_add (pe_op op_pow pe_int pe_int) pe_int) (pe_ix ix_seq (pe_lst (pa_cons (pe_op op_mod (pe_ix ix_seq (pv 2) pe_int (fun _ _ => rfl)) pe_int) (pa_cons (pe_op op_mod (pe_ix ix_seq (pv 2) pe_int (fun _ _ => rfl)) (pe_op op_sub (pe_op op_pow pe_int pe_int) (pe_op op_mulW pe_int (pe_op op_pow pe_int pe_int)))) pa_nil))) (pe_op op_mod (pe_op op_fdivW (pe_ix ix_seq (pv 2) pe_int (fun _ _ => rfl)) pe_int) pe_int) (fun _ _ => rfl))))
      (pss_cons (ps_if (PW.pt (pw_or (pt_cmpR (op_neD hr.units) (pe_call (ok__law_refused T) (hr.mono (by decide)) rfl (g__law_refused T) (kp__law_refused T) (B__law_refused T) .nil pass0 (pa_cons (pv 5) pa_nil)) (pe_lst (pa_cons pe_bl (pa_cons pe_bl (pa_cons pe_bl (pa_cons pe_bl pa_nil))))) (nomark _)) (pw_or1 (pt_cmpR (op_neD hr.units) (pe_call (ok__law_refused T) (hr.mono (by decide)) rfl (g__law_refused T) (kp__law_refused T) (B__law_refused T) .nil pass0 (pa_cons (pv 6) pa_nil)) (pe_lst (pa_cons pe_bl (pa_cons pe_bl (pa_cons pe_bl (pa_cons pe_bl pa_nil))))) (nomark _))))) (pss_one (ps_ret pe_bl)) pss_nil)
      (pss_one (ps_if (pt_cmpR op_ne (pe_call (ok__law_part T) (hr.mono (by decide)) rfl (g__law_part T) (kp__law_part T) (B__law_part T) .nil pass0 (pa_cons (pv 6) pa_nil)) (pv 6) (nomark _)) (pss_one (ps_ret pe_bl)) pss_nil)))))))))))))
      (pss_cons (ps_if (PW.pt (pw_or (pt_cmpR op_ne (pe_oat (pe_mk (pmk_oex (x_TooFar T).oex (x_TooFar T).iC (x_TooFar T).tI (ok_init_TooFar T) (hr.mono (by decide)) (B_init_TooFar T) .nil pass0 rfl (g_TooFar T) (pa_cons pe_int pa_nil)))) pe_int (nomark _)) (pw_or (pt_not (pt_val (pe_callB callIsQ rfl (T.fr (T.c.fact 18 rfl)) boot_isinstance (pa_cons (pe_mk (pmk_oex (x_TooFar T).oex (x_TooFar T).iC (x_TooFar T).tI (ok_init_TooFar T) (hr.mono (by decide)) (B_init_TooFar T) .nil pass0 rfl (g_TooFar T) (pa_cons pe_int pa_nil))) (pa_cons (pe_glob (v := .ref (He.ga K "PrimeError")) rfl (g_PrimeError T) rfl) pa_nil))))) (pw_or1 (pt_cmpR op_ne (pe_oat (pe_mk (pmk_oex (x_NoPrime T).oex (x_NoPrime T).iC (x_NoPrime T).tI (ok_init_NoPrime T) (hr.mono (by decide)) (B_init_NoPrime T) .nil pass0 rfl (g_NoPrime T) (pa_cons pe_int pa_nil)))) pe_int (nomark _)))))) (pss_one (ps_ret pe_bl)) pss_nil)
      (pss_one (ps_ret (pe_and (pe_call (ok__law_right T) (hr.mono (by decide)) rfl (g__law_right T) (kp__law_right T) (B__law_right T) .nil pass0 (pa_cons pe_int pa_nil)) (pe_and (pe_call (ok__law_right T) (hr.mono (by decide)) rfl (g__law_right T) (kp__law_right T) (B__law_right T) .nil pass0 (pa_cons pe_int pa_nil)) (pe_and (pe_call (ok__law_right T) (hr.mono (by decide)) rfl (g__law_right T) (kp__law_right T) (B__law_right T) .nil pass0 (pa_cons pe_int pa_nil)) (pe_and (pe_call (ok__law_right T) (hr.mono (by decide)) rfl (g__law_right T) (kp__law_right T) (B__law_right T) .nil pass0 (pa_cons (pe_op op_pow pe_int pe_int) pa_nil)) (pe_one (pe_ix ix_seq (pe_call (ok__law_refused T) (hr.mono (by decide)) rfl (g__law_refused T) (kp__law_refused T) (B__law_refused T) .nil pass0 (pa_cons pe_int pa_nil)) pe_int (fun _ _ => rfl))))))))))), ?_⟩)
  · obtain ⟨a, ns, rfl, _⟩ := h; rfl
  · obtain ⟨a, ns, rfl, hlen, hS, k⟩ := h
    walk_at "g"
    refine mkSl hS fun l H0 hl hL s0 => ?_
    walk_at "g"
    refine ⟨⟨_, SqL.of hL⟩, ?_⟩
    refine for_list (fun i σ H' => Same H0 H' ∧ ∃ r1 r2 r3 r4 r5 r6 : Option V, σ = [some (.ref a), r1, r2, r3, r4, r5, r6]) ⟨Same.refl _, _, _, _, _, _, _, rfl⟩ (fun i σ H' _ I => SqL.of (I.1 _ _ hL)) ?_ ?_
    · rintro i x σ H' hi ⟨hs, r1, r2, r3, r4, r5, r6, rfl⟩
      obtain ⟨c, rfl, _⟩ := of_mem_ints (cutV_mem (List.mem_of_getElem? hi))
      walk_at "g"
      refine ⟨c, 5, rfl, by decide, fun H1 D xs hxl hx s1 nD hD => ?_⟩
      obtain ⟨x0, x1, x2, x3, x4, rfl⟩ : ∃ x0 x1 x2 x3 x4, xs = [x0, x1, x2, x3, x4] := by
        match xs, hxl with
        | [x0, x1, x2, x3, x4], _ => exact ⟨x0, x1, x2, x3, x4, rfl⟩
      have b0 := hx x0 (by simp)
      have b1 := hx x1 (by simp)
      have b2 := hx x2 (by simp)
      have b3 := hx x3 (by simp)
      have b4 := hx x4 (by simp)
      walk_at "g"
      refine mkL (by simp) fun l2 H2 nl2 el2 s2 => ?_
      walk_at "g"
      have D2 := s2 _ _ hD
      refine s_ixL (SqL.of D2) (atI0 1 rfl rfl) ?_
      walk_at "g"
      refine s_pickN (P := fun z => 2 ≤ z ∧ z ≤ 1000000000) [3000, 3000, 3000, 10 ^ 6, 3000, 3000, 3000, 10 ^ 9] el2 (by simp only [List.length_cons, List.length_nil]; omega) (by decide) fun m hm => ?_
      walk_at "h"
      refine s_join (fun σ' H' => H' = H2 ∧ ∃ M : Int, σ' = [some (.ref a), some (.int c), some (.ref D), some (.int M), r4, r5, r6] ∧ 0 < M ∧ M ≤ 999999999) ?_ fun N J => ?_
      case refine_2 =>
        walk_at "g"
        refine s_ixL (SqL.of D2) (atI0 1 rfl rfl) ?_
        walk_at "g"
        refine s_ite (fun c => ?_) (fun c => ?_)
        · walk_at "g"
          exact J _ _ ⟨rfl, _, rfl, by split <;> omega, by split <;> omega⟩
        · walk_at "g"
          exact J _ _ ⟨rfl, m - 1, rfl, by omega, by omega⟩
      rintro σ' H' ⟨rfl, M, rfl, M0, M9⟩
      have ed : ∀ z : Int, 0 ≤ z % 999 ∧ z % 999 < 999 := fun z => ⟨Int.emod_nonneg _ (by decide), Int.emod_lt_of_pos _ (by decide)⟩
      have prd : ∀ z w : Int, ∃ n : Nat, (2 + z % 999) * (2 + w % 999) = (n : Int) ∧ 2 ≤ n ∧ n ≤ 1000000000 := fun z w => by
        obtain ⟨z0, z1⟩ := ed z
        obtain ⟨w0, w1⟩ := ed w
        generalize z % 999 = u at z0 z1
        generalize w % 999 = v at w0 w1
        obtain ⟨u, rfl⟩ := Int.eq_ofNat_of_zero_le z0
        obtain ⟨v, rfl⟩ := Int.eq_ofNat_of_zero_le w0
        have h1 : (2 + u) * (2 + v) ≤ 1000 * 1000 := Nat.mul_le_mul (by omega) (by omega)
        have h2 : 2 * 1 ≤ (2 + u) * (2 + v) := Nat.mul_le_mul (by omega) (by omega)
        exact ⟨(2 + u) * (2 + v), by push_cast; rfl, by omega, by omega⟩
      have prs : ∀ z : Int, (2 + z % 999).natAbs < 2 ^ 60 := fun z => by have := ed z; omega
      walk_at "g"
      refine s_ixL (SqL.of D2) (atI0 0 rfl rfl) ?_
      walk_at "g"
      refine s_i M0 ?_
      have q0 := Int.emod_nonneg x0 (show M ≠ 0 by omega)
      have q1 := Int.emod_lt_of_pos x0 M0
      generalize x0 % M = y at q0 q1 ⊢
      obtain ⟨y, rfl⟩ := Int.eq_ofNat_of_zero_le q0
      walk_at "h"
      refine s_join (fun σ' H3 => H3 = H' ∧ ∃ n : Nat, σ' = [some (.ref a), some (.int c), some (.ref D), some (.int M), some (.int n), r5, r6] ∧ 2 ≤ n ∧ n ≤ 1000000000) ?_ fun N J => ?_
      case refine_2 =>
        walk_at "g"
        refine s_ixL (SqL.of D2) (atI0 1 rfl rfl) ?_
        walk_at "g"
        refine s_ite (fun c => ?_) (fun c => ?_)
        · walk_at "g"
          refine s_ixL (SqL.of D2) (atI0 0 rfl rfl) ?_
          walk_at "g"
          refine s_ixL (SqL.of D2) (atI0 2 rfl rfl) ?_
          walk_at "g"
          have p0 := prs x0
          have p2 := prs x2
          obtain ⟨n, en, n2, n9⟩ := prd x0 x2
          try refine s_i (mulW (by omega) (by omega)) ?_
          walk_at "g"
          exact J _ _ ⟨rfl, n, by rw [en]; rfl, n2, n9⟩
        · walk_at "g"
          exact J _ _ ⟨rfl, 2 + y, by push_cast; rfl, by omega, by omega⟩
      rintro σ' H3 ⟨rfl, n1, rfl, n12, n19⟩
      walk_at "h"
      refine s_join (fun σ' H4 => H4 = H3 ∧ ∃ n : Nat, σ' = [some (.ref a), some (.int c), some (.ref D), some (.int M), some (.int n), r5, r6] ∧ 2 ≤ n ∧ n ≤ 1000000000) ?_ fun N J => ?_
      case refine_2 =>
        walk_at "g"
        refine s_ixL (SqL.of D2) (atI0 1 rfl rfl) ?_
        walk_at "g"
        refine s_ite (fun c => ?_) (fun c => ?_)
        · walk_at "g"
          refine s_ixL (SqL.of D2) (atI0 0 rfl rfl) ?_
          walk_at "g"
          refine s_ixL (SqL.of D2) (atI0 0 rfl rfl) ?_
          walk_at "g"
          have p0 := prs x0
          obtain ⟨n, en, n2, n9⟩ := prd x0 x0
          try refine s_i (mulW (by omega) (by omega)) ?_
          walk_at "g"
          exact J _ _ ⟨rfl, n, by rw [en]; rfl, n2, n9⟩
        · walk_at "g"
          exact J _ _ ⟨rfl, n1, rfl, n12, n19⟩
      rintro σ' H2' ⟨rfl, n, rfl, n2, n9⟩
      walk_at "g"
      refine ⟨n, rfl, n2, n9, fun H3 s3 => ?_⟩
      have D3 := s3 _ _ D2
      walk_at "g"
      refine s_ixL (SqL.of D3) (atI0 3 rfl rfl) ?_
      walk_at "g"
      refine s_ixL (SqL.of D3) (atI0 3 rfl rfl) ?_
      walk_at "g"
      refine mkL (by simp) fun l4 H4 nl4 el4 s4 => ?_
      walk_at "g"
      have D4 := s4 _ _ D3
      refine s_ixL (SqL.of D4) (atI0 1 rfl rfl) ?_
      walk_at "g"
      refine s_pick2 (P := fun z => 0 ≤ z) el4 (by omega) (by omega) (by omega) fun zb hzb => ?_
      walk_at "g"
      refine s_ixL (SqL.of D4) (atI0 4 rfl rfl) ?_
      walk_at "g"
      try refine s_i (by decide) ?_
      walk_at "g"
      refine s_ixL (SqL.of D4) (atI0 4 rfl rfl) ?_
      walk_at "g"
      try refine s_i (by decide) ?_
      walk_at "g"
      refine mkL (by simp) fun l5 H5 nl5 el5 s5 => ?_
      walk_at "g"
      have D5 := s5 _ _ D4
      refine s_ixL (SqL.of D5) (atI0 1 rfl rfl) ?_
      walk_at "g"
      refine s_pick2 (P := fun z => 0 ≤ z) el5 (by omega) (Int.emod_nonneg _ (by decide)) (Int.emod_nonneg _ (by decide)) fun za hza => ?_
      walk_at "g"
      refine ⟨1 - zb, rfl, .inl ⟨by omega, fun D6 H6 s6 hD6 => ?_⟩⟩
      walk_at "g"
      refine mkL (by simp) fun t7 H7 nt7 et7 s7 => ?_
      walk_at "g"
      refine s_neD (.list [.bool true, .bool false, .bool true, .bool false]) (.list [.bool true, .bool false, .bool true, .bool false]) (dp_b4 (s7 _ _ hD6)) (dp_b4 et7) (by rfl) (by rfl) ?_
      rw [eqv_shaped (d := .list [.bool true, .bool false, .bool true, .bool false]) (by rfl)]
      walk_at "g"
      refine ⟨10 ^ 9 + 1 + za, rfl, .inr ⟨by omega, fun D8 H8 s8 hD8 => ?_⟩⟩
      walk_at "g"
      refine mkL (by simp) fun t9 H9 nt9 et9 s9 => ?_
      walk_at "g"
      refine s_neD (.list [.bool false, .bool true, .bool true, .bool false]) (.list [.bool false, .bool true, .bool true, .bool false]) (dp_b4 (s9 _ _ hD8)) (dp_b4 et9) (by rfl) (by rfl) ?_
      rw [eqv_shaped (d := .list [.bool false, .bool true, .bool true, .bool false]) (by rfl)]
      walk_at "g"
      refine ⟨10 ^ 9 + 1 + za, rfl, by omega, fun H10 s10 => ?_⟩
      walk_at "g"
      exact ⟨hs.trans (s1.trans (s2.trans (s3.trans (s4.trans (s5.trans (s6.trans (s7.trans (s8.trans (s9.trans s10))))))))), _, _, _, _, _, _, rfl⟩
    · rintro σ H' ⟨hs, r1, r2, r3, r4, r5, r6, rfl⟩
      walk_at "g"
      refine s_oat (x_TooFar T) fun H1 s1 => ?_
      walk_at "g"
      refine s_mkq (x_TooFar T) fun e2 d2 H2 ee2 ed2 s2 => ?_
      walk_at "g"
      refine ⟨e2, _, some d2, [("part", .int 7)], _, _, true, rfl, ee2, i_TooFar T, (fun _ z => by cases z; exact ed2), .own _, k_TooFar_PrimeError T, ?_⟩
      walk_at "g"
      refine s_oat (x_NoPrime T) fun H3 s3 => ?_
      walk_at "g"
      refine ⟨2, rfl, by decide, by decide, fun H4 s4 => ?_⟩
      walk_at "g"
      refine ⟨4, rfl, by decide, by decide, fun H5 s5 => ?_⟩
      walk_at "g"
      refine ⟨9, rfl, by decide, by decide, fun H6 s6 => ?_⟩
      walk_at "g"
      refine ⟨1000000000, rfl, by decide, by decide, fun H7 s7 => ?_⟩
      walk_at "g"
      refine ⟨1, rfl, .inl ⟨by omega, fun D8 H8 s8 hD8 => ?_⟩⟩
      walk_at "g"
      refine s_ixL (SqL.of hD8) (atI0 0 rfl rfl) ?_
      exact k H8
theorem law_end {K : PySem.W.Frag} {H : Hp} {a : Addr} {ns : List Int} (hl : ns.length ≤ 63) (hb : ∀ z ∈ ns, Builtin.Int.intBits z ≤ 1048576) (hS : SqL K H a (ns.map V.int)) : sp_law K [.ref a] H (fun v _ => v = .bl true) fun _ _ _ => False :=
  ⟨a, ns, rfl, hl, hS, fun _ => rfl⟩

theorem facts {h : Heap} {f : Addr} (X : K.In h) (G : h.Ns mainGlobals mg) (hfa : mg ("law" : Str) = some (.ref f)) (c : Told fa fn K) :
    ∃ fd : FuncData, (∀ (s : Shared) (v : Value), BindsTo s fd ⟨[v], []⟩ [("_law_script", v)]) ∧ ∀ base : Heap, K.In base → base.Ns mainGlobals mg → FnOk P w K mg base CX0 7 f fd ["_law_script"] (sp_law K) := by
  have T : Txt K mg := ⟨c, fun z => He.glo_ok X G z, fun z => He.free_ok X G z, fun z => He.int_ok X G z⟩
  have e := hfa.symm.trans (g_law T)
  cases e
  have b := FunD.bindsA (ps := ["_law_script"]) (F_law T) fun _ _ _ _ _ _ us hl => match us, hl with | [_], _ => rfl
  exact ⟨fd_law T, fun s v => b s [v] rfl, fun base _ _ => ok_law T⟩
end
abbrev RR : PySem.W.OpenRow := PySem.W.OpenLaw.row PySem.Challenge.rw_rootprime_k11_least_divisors
abbrev hk : PySem.W.Hook := hookR 5 fa fn
def ob (s : PySem.W.SharedT) : He.AlD := toldG 5 fa fn (HandSHeadRun.getT s)
theorem ob_eq (s : PySem.W.SharedT) : ob s = hk.obs s.abs := toldG_eq (HandSHeadRun.getT_eq s)
theorem run (w : World) : HandSHeadRun.RunEq RR (PySem.W.view RR.prog [20]) hk ob 3870 ["look_at", "divisor_from", "least_divisor", "_law_whole", "_law_draws", "_law_right", "_law_refused", "_law_part", "PrimeError", "NoNumber", "TooFar", "NoPrime", "NoInverse", "Nought", "NoOrder", "NoRoot", "MOST_PARTED"] w := by
  intro os
  kernel_rfl
end C
open PySem PySem.W PySem.Calls PyProof.Rows
set_option maxRecDepth 100000 in
set_option maxHeartbeats 0 in
theorem PySem.Challenge.cw_rootprime_k11_least_divisors_holds : PySem.Challenge.rw_rootprime_k11_least_divisors.Holds := by
  w_on; o_law
  refine HandSHeadRun.head_any (r := OpenLaw.row PySem.Challenge.rw_rootprime_k11_least_divisors) (q := view (OpenLaw.row PySem.Challenge.rw_rootprime_k11_least_divisors).prog [20]) (H := C.hk) (ob := C.ob) (M := 3870) (loose := ["look_at", "divisor_from", "least_divisor", "_law_whole", "_law_draws", "_law_right", "_law_refused", "_law_part", "PrimeError", "NoNumber", "TooFar", "NoPrime", "NoInverse", "Nought", "NoOrder", "NoRoot", "MOST_PARTED"]) (d := HandSHeadRun.topDef (OpenLaw.row PySem.Challenge.rw_rootprime_k11_least_divisors).prog 20) (kwd := []) C.ob_eq
    (by kernel_rfl) (fun s => by kernel_rfl) C.run (by kernel_rfl) (by kernel_rfl) (by kernel_rfl) (by rfl) (by first | assumption | decide +kernel) (by decide +kernel) ⟨rfl, rfl, rfl, rfl, rfl, by decide +kernel⟩ ?hw ?hc
  case hw => w_witness2
  case hc =>
    refine R.walk_ofEB (l := PySem.Challenge.rw_rootprime_k11_least_divisors) (n := 63) (k := 7) (prm := "_law_script") (CX := fun w => L2.CX0) rfl (by decide) (by kernel_rfl) ⟨rfl, by decide, by decide⟩ ?F (fun _ _ _ _ _ z => z)
    intro w mg fa h Y G hmg0
    obtain ⟨K, KX, c⟩ := Y
    have hmg : mg ("law" : PySem.Str) = some (.ref fa) := by
      have e : (HandSHeadRun.topDef (OpenLaw.row PySem.Challenge.rw_rootprime_k11_least_divisors).prog 20).name = ("law" : PySem.Str) := by kernel_rfl
      rw [← e]
      exact hmg0
    obtain ⟨fd, hb, hF⟩ := C.facts (P := (PySem.Challenge.rw_rootprime_k11_least_divisors).prog) (w := w) KX G hmg c
    exact ⟨K, fd, (C.sp_law K), KX, hb, fun H a ns hl hbits hO hS => C.law_end hl hbits hS, hF⟩

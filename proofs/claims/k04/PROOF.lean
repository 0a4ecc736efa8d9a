import PyProof.Rows.All
import Wide.All
import OpenK.AllK
import Wide.FinOn
import HandS.ForMost
import HandS.ForExc
import HandS.Wide
import HandS.IsInst
import HandS.Style
import HandS.Flow
import HandS.Conv
import HandS.Defaults
import HandS.Head0
import HandS.Head1
import HandS.Head2
import HandS.HeadEnd
import HandS.HeadHook1
import HandS.HeadHook2
import HandS.EndBits
import HandS.ExcInit
import HandS.ExcField
import HandS.ExcOwn
import HandS.ExcIs
import HandS.TryOnly
import HandS.WordsExc
import HandS.ClsMeth
import HandS.HeadNt
import HandS.Steps
import HandS.Zip
import HandS.Walk
import HandS.Small
import HandS.NoneIn
import HandS.TryMany
import HandS.TupAny
import HandS.SortInts
import HandS.SetKeys
import HandS.Iter
import PyProof.DictMoreH
import HandS.DictTup
import HandS.TupLen
import HandS.Strs
import HandS.HotCalls
import HandS.CallSlots
import KE.GoesMore
import KE.DataFind
import HandS.SetFor
import PySem.Challenge.RW_rootprime_k04_rows_of_powers

set_option Elab.async false
set_option linter.all false
set_option maxRecDepth 100000
set_option maxHeartbeats 4000000
set_option exponentiation.threshold 5000

namespace R
open PySem PySem.Spec PyProof.Rows L2
/-! steps of a reading -/
section
variable {t u : TS} {D : Ends} {σ : L2.St} {H : Hp} {Q : VK} {te ta tb : TE} {g : TG} {i j : Nat} {v x y : V} {r : R2} {c c' : TT} {tl : TA} {QL : List V → Hp → Prop} {QB : Bool → Hp → Prop} {QS : L2.St → Hp → Prop} {a b : Int} {C : Int → Int → Prop} {f : Int → Int → V}
theorem s_seq (h : t { D with nx := u D } σ H) : tSeq t u D σ H := h
theorem s_asg (h : te σ H fun x H1 => g x σ H1 D.nx) : tAsg te g D σ H := h
theorem s_drop (h : te σ H fun _ H1 => D.nx σ H1) : tDrop te D σ H := h
theorem s_ret (h : te σ H D.rt) : tRet te D σ H := h
theorem s_next (h : D.nx σ H) : tNext D σ H := h
theorem s_if (h : c σ H fun b H1 => if b = true then t D σ H1 else u D σ H1) : tIfS c t u D σ H := h
theorem s_gname (h : QS (σ.set i (some v)) H) : gName i v σ H QS := h
theorem s_var (e : σ[i]? = some (some v)) (h : Q v H) : tVar i σ H Q := ⟨v, e, h⟩
theorem s_c (h : Q v H) : tC v σ H Q := h
theorem s_op (h : ta σ H fun x H1 => tb σ H1 fun y H2 => r x y H2 Q) : tOp r ta tb σ H Q := h
theorem s_un {r : V → Hp → VK → Prop} (h : ta σ H fun x H1 => r x H1 Q) : tUn r ta σ H Q := h
theorem s_i0 (h : Q (f a b) H) : rI0 f (.int a) (.int b) H Q := ⟨a, b, rfl, rfl, h⟩
theorem s_i (hc : C a b) (h : Q (f a b) H) : rI C f (.int a) (.int b) H Q := ⟨a, b, rfl, rfl, hc, h⟩
theorem s_u {f : Int → V} (h : Q (f a) H) : rU f (.int a) H Q := ⟨a, rfl, h⟩
theorem s_cons (h : te σ H fun x H1 => tl σ H1 fun xs H2 => QL (x :: xs) H2) : tCons te tl σ H QL := h
theorem s_nil (h : QL [] H) : tNil σ H QL := h
theorem s_test (h : ta σ H fun x H' => ∃ k, x = .bl k ∧ QB k H') : tTest ta σ H QB := h
theorem s_tB (h : ta σ H fun x H' => ∃ k, x = .bl k ∧ QB k H') : tB ta σ H QB := h
theorem s_bl {k : Bool} {P : Bool → Prop} (h : P k) : ∃ k', V.bl k = .bl k' ∧ P k' := ⟨k, rfl, h⟩
theorem s_andc (h : c σ H fun b H1 => if b = true then c' σ H1 QB else QB false H1) : tAnd c c' σ H QB := h
theorem s_orc (h : c σ H fun b H1 => if b = true then QB true H1 else c' σ H1 QB) : tOr c c' σ H QB := h
theorem s_notc (h : c σ H fun b H1 => QB (!b) H1) : tNot c σ H QB := h
theorem s_andv (h : ta σ H fun x H1 => ∃ c, x = .bl c ∧ if c = true then tb σ H1 Q else Q (.bl false) H1) : tAndV ta tb σ H Q := h
theorem s_orv (h : ta σ H fun x H1 => ∃ c, x = .bl c ∧ if c = true then Q (.bl true) H1 else tb σ H1 Q) : tOrV ta tb σ H Q := h
theorem s_notv (h : ta σ H fun x H1 => ∃ c, x = .bl c ∧ Q (.bl (!c)) H1) : tNotV ta σ H Q := h
theorem s_ifx {t : TT} (h : t σ H fun c H1 => if c = true then ta σ H1 Q else tb σ H1 Q) : tIf t ta tb σ H Q := h
theorem s_eqI (h : Q (.bl (decide (a = b))) H) : rEq (.int a) (.int b) H Q := ⟨rfl, by
  have e : decide (V.int a = V.int b) = decide (a = b) := by simp
  rw [e]; exact h⟩
theorem s_neI (h : Q (.bl (!decide (a = b))) H) : rNe (.int a) (.int b) H Q := ⟨rfl, by
  have e : decide (V.int a = V.int b) = decide (a = b) := by simp
  rw [e]; exact h⟩
theorem s_eqS {a b : Str} (h : Q (.bl (decide (a = b))) H) : rEq (.str a) (.str b) H Q := ⟨rfl, by
  have e : decide (V.str a = V.str b) = decide (a = b) := by simp
  rw [e]; exact h⟩
theorem s_neS {a b : Str} (h : Q (.bl (!decide (a = b))) H) : rNe (.str a) (.str b) H Q := ⟨rfl, by
  have e : decide (V.str a = V.str b) = decide (a = b) := by simp
  rw [e]; exact h⟩
theorem s_eqB {a b : Bool} (h : Q (.bl (decide (a = b))) H) : rEq (.bl a) (.bl b) H Q := ⟨rfl, by
  have e : decide (V.bl a = V.bl b) = decide (a = b) := by simp
  rw [e]; exact h⟩
theorem s_neB {a b : Bool} (h : Q (.bl (!decide (a = b))) H) : rNe (.bl a) (.bl b) H Q := ⟨rfl, by
  have e : decide (V.bl a = V.bl b) = decide (a = b) := by simp
  rw [e]; exact h⟩
def MkT (Q : VK) (xs : List V) (H : Hp) : Prop := xs.length ≤ sizeLine ∧ ∀ p, H p = none → Q (.ref p) (upd H p (.tup xs))
def MkL (Q : VK) (xs : List V) (H : Hp) : Prop := xs.length ≤ sizeLine ∧ ∀ p, H p = none → Q (.ref p) (upd H p (.lst xs))
theorem s_tup (h : tl σ H fun xs H1 => MkT Q xs H1) : tTup tl σ H Q := h
theorem s_lst (h : tl σ H fun xs H1 => MkL Q xs H1) : tLst tl σ H Q := h
theorem len_le {α : Type} {xs : List α} (h : xs.length ≤ 1000) : xs.length ≤ sizeLine := Nat.le_of_lt (small1000 h)
theorem s_par (h : tl σ H fun vs H1 => ∃ v w, vs = [v, w] ∧ D.nx ((σ.set i (some v)).set j (some w)) H1) : tPar i j tl D σ H := h
theorem s_par_ {P : V → V → Prop} (h : P x y) : ∃ v w, [x, y] = [v, w] ∧ P v w := ⟨x, y, rfl, h⟩
theorem s_par3 {l : Nat} (h : tl σ H fun vs H1 => ∃ u v w, vs = [u, v, w] ∧ D.nx (((σ.set i (some u)).set j (some v)).set l (some w)) H1) : tPar3 i j l tl D σ H := h
theorem s_par3_ {z : V} {P : V → V → V → Prop} (h : P x y z) : ∃ u v w, [x, y, z] = [u, v, w] ∧ P u v w := ⟨x, y, z, rfl, h⟩
theorem s_cb {r : List V → Hp → VK → Prop} (h : tl σ H fun vs H1 => r vs H1 Q) : tCB r tl σ H Q := h
theorem s_call {sp : Sp} {dvs : List V} {E : XK} (h : tl σ H fun vs H1 => sp (vs ++ dvs) H1 Q E) : tCall sp dvs E tl σ H Q := h
theorem s_callS {sp : Sp} {E : L2.St → XK} (h : tl σ H fun vs H1 => sp vs H1 Q (E σ)) : tCallS sp E tl σ H Q := h
theorem s_chain {r' : R2} {tc : TE} (h : ta σ H fun x H1 => tb σ H1 fun y H2 => r x y H2 fun z H3 => ∃ k, z = .bl k ∧ (if k = true then tc σ H3 fun w' H4 => r' y w' H4 Q else Q (.bl false) H3)) : tChain r r' ta tb tc σ H Q := h
theorem s_iteT {A B : Prop} (h : A) : if true = true then A else B := by rw [if_pos rfl]; exact h
theorem s_iteF {A B : Prop} (h : B) : if false = true then A else B := by rw [if_neg Bool.false_ne_true]; exact h
theorem s_iteNT {A B : Prop} (h : B) : if (!true) = true then A else B := h
theorem s_iteNF {A B : Prop} (h : A) : if (!false) = true then A else B := h
theorem s_ite {A B p : Prop} [Decidable p] (h1 : p → A) (h2 : ¬p → B) : if decide p = true then A else B := by
  by_cases h : p
  · rw [decide_eq_true h, if_pos rfl]; exact h1 h
  · rw [decide_eq_false h, if_neg Bool.false_ne_true]; exact h2 h
theorem s_iten {A B p : Prop} [Decidable p] (h1 : ¬p → A) (h2 : p → B) : if (!decide p) = true then A else B := by
  by_cases h : p
  · rw [decide_eq_true h]; exact s_iteF (h2 h)
  · rw [decide_eq_false h]; exact s_iteT (h1 h)
theorem s_iteb {A B : Prop} {b : Bool} (h1 : b = true → A) (h2 : b = false → B) : if b = true then A else B := by
  cases b
  · exact s_iteF (h2 rfl)
  · exact s_iteT (h1 rfl)
theorem s_itP {A B p : Prop} [Decidable p] (hp : p) (h : A) : if decide p = true then A else B := s_ite (fun _ => h) fun n => absurd hp n
theorem s_itN {A B p : Prop} [Decidable p] (hp : ¬p) (h : B) : if decide p = true then A else B := s_ite (fun n => absurd n hp) fun _ => h
theorem s_itnP {A B p : Prop} [Decidable p] (hp : p) (h : B) : if (!decide p) = true then A else B := s_iten (fun n => absurd hp n) fun _ => h
theorem s_itnN {A B p : Prop} [Decidable p] (hp : ¬p) (h : A) : if (!decide p) = true then A else B := s_iten (fun _ => h) fun n => absurd n hp
theorem s_btT {p : Prop} [Decidable p] {P : Bool → Prop} (hp : p) (h : P true) : P (decide p) := by rw [decide_eq_true hp]; exact h
theorem s_btF {p : Prop} [Decidable p] {P : Bool → Prop} (hp : ¬p) (h : P false) : P (decide p) := by rw [decide_eq_false hp]; exact h
theorem s_ixL {K : PySem.W.Frag} {p : Addr} {xs : List V} {n : Int} (h1 : SqL K H p xs) (h2 : atI xs n = some v) (h : Q v H) : rIx K (.ref p) (.int n) H Q := .inl ⟨p, xs, n, v, rfl, rfl, h1, h2, h⟩
theorem s_ixT {K : PySem.W.Frag} {p : Addr} {xs : List V} {n : Int} (h1 : SqT K H p xs) (h2 : atI xs n = some v) (h : Q v H) : rIx K (.ref p) (.int n) H Q := .inr (.inl ⟨p, xs, n, v, rfl, rfl, h1, h2, h⟩)
theorem s_isi {K : PySem.W.Frag} {a b : String} {bb : Bool} (ht : TyOf K H x (.type a)) (hk : kitB a b = some bb) (h : Q (.bl bb) H) : rIsi K [x, .ty b] H Q := ⟨x, .ty b, .type a, .type b, bb, rfl, .ty b, .base ht, kit_ty hk, h⟩
theorem kb_ii : kitB "int" "int" = some true := by decide +kernel
theorem kb_ib : kitB "int" "bool" = some false := by decide +kernel
theorem kb_bi : kitB "bool" "int" = some true := by decide +kernel
theorem kb_bb : kitB "bool" "bool" = some true := by decide +kernel
theorem kb_tt : kitB "tuple" "tuple" = some true := by decide +kernel
theorem kb_ll : kitB "list" "list" = some true := by decide +kernel
theorem kb_ti : kitB "tuple" "int" = some false := by decide +kernel
theorem kb_tl : kitB "tuple" "list" = some false := by decide +kernel
theorem kb_lt : kitB "list" "tuple" = some false := by decide +kernel
theorem kb_li : kitB "list" "int" = some false := by decide +kernel
theorem kb_ni : kitB "NoneType" "int" = some false := by decide +kernel
theorem s_isi_ii {K : PySem.W.Frag} (h : Q (.bl true) H) : rIsi K [.int a, .ty "int"] H Q := s_isi (.int a) kb_ii h
theorem s_isi_ib {K : PySem.W.Frag} (h : Q (.bl false) H) : rIsi K [.int a, .ty "bool"] H Q := s_isi (.int a) kb_ib h
theorem s_p10 {n : Nat} (h : Q (.int (10 ^ n)) H) (hn : n ≤ 1000 := by decide) : rI CPow (fun i j => V.int (i ^ j.toNat)) (.int 10) (.int (n : Int)) H Q :=
  ⟨10, n, rfl, rfl, ⟨by omega, by omega, by decide⟩, h⟩
theorem s_pow {e : Int} {n : Nat} (he : e = n) (hn : n ≤ 1000) (ha : a.natAbs < 2 ^ 64) (h : Q (.int (a ^ n)) H) : rI CPow (fun i j => V.int (i ^ j.toNat)) (.int a) (.int e) H Q :=
  ⟨a, e, rfl, rfl, ⟨by omega, by omega, ha⟩, by subst he; exact h⟩
theorem s_p10_4 (h : Q (.int (10 ^ 4)) H) : rI CPow (fun i j => V.int (i ^ j.toNat)) (.int 10) (.int 4) H Q := s_p10 (n := 4) h
theorem s_p10_5 (h : Q (.int (10 ^ 5)) H) : rI CPow (fun i j => V.int (i ^ j.toNat)) (.int 10) (.int 5) H Q := s_p10 (n := 5) h
theorem s_p10_6 (h : Q (.int (10 ^ 6)) H) : rI CPow (fun i j => V.int (i ^ j.toNat)) (.int 10) (.int 6) H Q := s_p10 (n := 6) h
theorem s_p10_8 (h : Q (.int (10 ^ 8)) H) : rI CPow (fun i j => V.int (i ^ j.toNat)) (.int 10) (.int 8) H Q := s_p10 (n := 8) h
theorem s_p10_9 (h : Q (.int (10 ^ 9)) H) : rI CPow (fun i j => V.int (i ^ j.toNat)) (.int 10) (.int 9) H Q := s_p10 (n := 9) h
theorem s_p10_12 (h : Q (.int (10 ^ 12)) H) : rI CPow (fun i j => V.int (i ^ j.toNat)) (.int 10) (.int 12) H Q := s_p10 (n := 12) h
theorem s_p10_18 (h : Q (.int (10 ^ 18)) H) : rI CPow (fun i j => V.int (i ^ j.toNat)) (.int 10) (.int 18) H Q := s_p10 (n := 18) h
theorem s_p10_29 (h : Q (.int (10 ^ 29)) H) : rI CPow (fun i j => V.int (i ^ j.toNat)) (.int 10) (.int 29) H Q := s_p10 (n := 29) h
theorem s_p10_30 (h : Q (.int (10 ^ 30)) H) : rI CPow (fun i j => V.int (i ^ j.toNat)) (.int 10) (.int 30) H Q := s_p10 (n := 30) h
theorem s_p10_39 (h : Q (.int (10 ^ 39)) H) : rI CPow (fun i j => V.int (i ^ j.toNat)) (.int 10) (.int 39) H Q := s_p10 (n := 39) h
theorem s_p10_40 (h : Q (.int (10 ^ 40)) H) : rI CPow (fun i j => V.int (i ^ j.toNat)) (.int 10) (.int 40) H Q := s_p10 (n := 40) h
theorem s_p10_49 (h : Q (.int (10 ^ 49)) H) : rI CPow (fun i j => V.int (i ^ j.toNat)) (.int 10) (.int 49) H Q := s_p10 (n := 49) h
theorem s_p10_50 (h : Q (.int (10 ^ 50)) H) : rI CPow (fun i j => V.int (i ^ j.toNat)) (.int 10) (.int 50) H Q := s_p10 (n := 50) h
theorem s_p10_51 (h : Q (.int (10 ^ 51)) H) : rI CPow (fun i j => V.int (i ^ j.toNat)) (.int 10) (.int 51) H Q := s_p10 (n := 51) h
theorem s_p10_58 (h : Q (.int (10 ^ 58)) H) : rI CPow (fun i j => V.int (i ^ j.toNat)) (.int 10) (.int 58) H Q := s_p10 (n := 58) h
theorem s_p10_59 (h : Q (.int (10 ^ 59)) H) : rI CPow (fun i j => V.int (i ^ j.toNat)) (.int 10) (.int 59) H Q := s_p10 (n := 59) h
theorem s_p10_60 (h : Q (.int (10 ^ 60)) H) : rI CPow (fun i j => V.int (i ^ j.toNat)) (.int 10) (.int 60) H Q := s_p10 (n := 60) h
theorem s_pow7 (ha : a.natAbs < 2 ^ 64) (h : Q (.int (a ^ 7)) H) : rI CPow (fun i j => V.int (i ^ j.toNat)) (.int a) (.int 7) H Q := s_pow (n := 7) rfl (by decide) ha h
theorem s_pickN {K : PySem.W.Frag} {p : Addr} {n : Int} {P : Int → Prop} (ns : List Int) (hp : H p = some (.lst (ns.map V.int))) (hn : 0 ≤ n ∧ n < ns.length) (ha : ∀ z ∈ ns, P z) (h : ∀ z, P z → Q (.int z) H) : rIx K (.ref p) (.int n) H Q := by
  obtain ⟨k, rfl⟩ := Int.eq_ofNat_of_zero_le hn.1
  have hk : k < ns.length := by omega
  exact s_ixL (SqL.of hp) (atI_nat (j := k) (v := .int ns[k]) (by rw [List.getElem?_map, List.getElem?_eq_getElem hk]; rfl)) (h _ (ha _ (List.getElem_mem hk)))
theorem s_pick2 {K : PySem.W.Frag} {p : Addr} {n : Int} {P : Int → Prop} (hp : H p = some (.lst [.int a, .int b])) (hn : 0 ≤ n ∧ n < 2) (ha : P a) (hb : P b) (h : ∀ z, P z → Q (.int z) H) : rIx K (.ref p) (.int n) H Q := by
  have e : n = 0 ∨ n = 1 := by omega
  rcases e with rfl | rfl
  · exact s_ixL (SqL.of hp) (atI_nat (j := 0) rfl) (h a ha)
  · exact s_ixL (SqL.of hp) (atI_nat (j := 1) rfl) (h b hb)
theorem s_andJ {b c : Bool} (hc : ∀ Q' : VK, Q' (.bl c) H → tb σ H Q') (h : Q (.bl (b && c)) H) : if b = true then tb σ H Q else Q (.bl false) H := by
  cases b
  · exact s_iteF h
  · exact s_iteT (hc _ h)
theorem s_orJ {b c : Bool} (hc : ∀ Q' : VK, Q' (.bl c) H → tb σ H Q') (h : Q (.bl (b || c)) H) : if b = true then Q (.bl true) H else tb σ H Q := by
  cases b
  · exact s_iteF (hc _ h)
  · exact s_iteT h
theorem s_blT {p : Prop} [Decidable p] (hp : p) (h : Q (.bl true) H) : Q (.bl (decide p)) H := by rw [decide_eq_true hp]; exact h
theorem s_blF {p : Prop} [Decidable p] (hp : ¬p) (h : Q (.bl false) H) : Q (.bl (decide p)) H := by rw [decide_eq_false hp]; exact h
theorem s_sl {r : V → Option Int → Option Int → Hp → VK → Prop} {tlo thi : TO} (h : te σ H fun x H1 => tlo σ H1 fun l H2 => thi σ H2 fun u H3 => r x l u H3 Q) : L2.tSl r te tlo thi σ H Q := h
theorem s_nopart {QO : Option Int → Hp → Prop} (h : QO none H) : tNoPart σ H QO := h
theorem s_part {QO : Option Int → Hp → Prop} (h : te σ H fun x H1 => ∃ i, x = .int i ∧ QO (some i) H1) : tPart te σ H QO := h
theorem s_int_ {P : Int → Prop} (h : P a) : ∃ i, V.int a = .int i ∧ P i := ⟨a, rfl, h⟩
theorem s_slL {K : PySem.W.Frag} {p : Addr} {xs : List V} {lo hi : Option Int} (hs : SqL K H p xs) (h : ∀ l, H l = none → Q (.ref l) (upd H l (.lst (cutV xs lo hi)))) : rSlL K (.ref p) lo hi H Q := ⟨p, xs, rfl, hs, h⟩
theorem s_for {wi : TI} {tb : TS} (h : wi σ H fun J H1 => ∃ W : Nat → Nat → L2.St → Hp → Prop, (∃ m, W 0 m σ H1) ∧ ∀ i m σ H, W i m σ H →
  (J.stop i H ∧ D.nx σ H) ∨ (J.go i H ∧ ∃ N : L2.St → Hp → Prop, (∀ σ' H', N σ' H' → ∃ m', m' < m ∧ W (i + 1) m' σ' H') ∧ ∀ x H', J.yld i H x H' → g x σ H' fun σ2 H2 => tb { D with nx := N, ct := N, bk := D.nx } σ2 H2)) : tFor wi g tb D σ H := h
theorem s_ilist {K : PySem.W.Frag} {RI : It → Hp → Prop} (h : te σ H fun x H1 => ∃ a, x = .ref a ∧ (∃ xs, SqL K H1 a xs) ∧ RI (Itl K a) H1) : iList K te σ H RI := h
theorem s_itup {K : PySem.W.Frag} {RI : It → Hp → Prop} (h : te σ H fun x H1 => ∃ a, x = .ref a ∧ (∃ xs, SqT K H1 a xs) ∧ RI (Itt K a) H1) : iTup K te σ H RI := h
theorem s_ref_ {p : Addr} {P : Addr → Prop} (h : P p) : ∃ i, V.ref p = .ref i ∧ P i := ⟨p, rfl, h⟩
theorem s_join (P : L2.St → Hp → Prop) (h1 : ∀ σ' H', P σ' H' → D.nx σ' H') (h2 : ∀ N : L2.St → Hp → Prop, (∀ σ' H', P σ' H' → N σ' H') → tIfS c t u { D with nx := N } σ H) : tIfS c t u D σ H := h2 D.nx h1
theorem s_yes (h : QB true H) : tYes σ H QB := h
theorem s_gtup {K : PySem.W.Frag} {n : Nat} {t : TGs} {p : Addr} {xs : List V} (h1 : SqT K H p xs) (h2 : xs.length = n) (h : t xs σ H QS) : gTup K n t (.ref p) σ H QS := ⟨p, xs, rfl, h1, h2, h⟩
theorem s_gcons {t : TG} {u : TGs} {r : List V} (h : t v σ H fun σ' H' => u r σ' H' QS) : gCons t u (v :: r) σ H QS := ⟨v, r, rfl, h⟩
theorem s_gnil (h : QS σ H) : gNil [] σ H QS := ⟨rfl, h⟩
theorem s_append {p : Addr} {xs : List V} (hp : H p = some (.lst xs)) (hl : xs.length < sizeLine) (h : Q .non (upd H p (.lst (xs ++ [x])))) : rAppend (.ref p) [x] H Q := ⟨p, xs, x, rfl, rfl, hp, hl, h⟩
theorem s_tyL {K : PySem.W.Frag} {p : Addr} {xs : List V} (hp : H p = some (.lst xs)) : tyV K "list" (.ref p) H := Or.inl ⟨rfl, _, Or.inl (Or.inl hp)⟩
theorem s_bm {K : PySem.W.Frag} {T : String} {r : V → List V → Hp → VK → Prop} (h : ta σ H fun x H1 => tyV K T x H1 ∧ tl σ H1 fun xs H2 => r x xs H2 Q) : tBM K T r ta tl σ H Q := h
end
/-! rules by name -/
def rAbs : List V → Hp → VK → Prop := fun xs H Q => ∃ i, xs = [.int i] ∧ Q (.int (if i < 0 then -i else i)) H
def rMax2 : List V → Hp → VK → Prop := fun xs H Q => ∃ i j, xs = [.int i, .int j] ∧ Q (.int (if j > i then j else i)) H
def rMin2 : List V → Hp → VK → Prop := fun xs H Q => ∃ i j, xs = [.int i, .int j] ∧ Q (.int (if j < i then j else i)) H
def rLenS (K : PySem.W.Frag) : List V → Hp → VK → Prop := fun xs H Q => ∃ p ys, xs = [.ref p] ∧ (SqL K H p ys ∨ SqT K H p ys) ∧ Q (.int ys.length) H
def rTupOf (K : PySem.W.Frag) : List V → Hp → VK → Prop := fun xs H Q => ∃ p ys, xs = [.ref p] ∧ ((SqL K H p ys ∧ ∀ l, H l = none → Q (.ref l) (upd H l (.tup ys))) ∨ (SqT K H p ys ∧ Q (.ref p) H))
def rLstOf (K : PySem.W.Frag) : List V → Hp → VK → Prop := fun xs H Q => ∃ p ys, xs = [.ref p] ∧ (SqL K H p ys ∨ SqT K H p ys) ∧ ∀ l, H l = none → Q (.ref l) (upd H l (.lst ys))
def rInt1 : List V → Hp → VK → Prop := fun xs H Q => (∃ i, xs = [.int i] ∧ Q (.int i) H) ∨ ∃ k, xs = [.bl k] ∧ Q (.int (if k then 1 else 0)) H
def rIns : V → List V → Hp → VK → Prop := fun x vs H Q => ∃ (l : Addr) (xs : List V) (i : Int) (y : V), x = .ref l ∧ vs = [.int i, y] ∧ H l = some (.lst xs) ∧ xs.length < sizeLine ∧ 0 ≤ i ∧ i < 2 ^ 63 ∧ Q .non (upd H l (.lst (xs.take i.toNat ++ [y] ++ xs.drop i.toNat)))
section
variable {X : Cx}
theorem mtIns : MtR X "list.insert" rIns := mt_insert
theorem callInt1 : CallR X (.type "int") rInt1 := call_int1
theorem callAbs : CallR X (.builtin "abs") rAbs := call_abs
theorem callMax2 (hc : X.calm = true) : CallR X (.builtin "max") rMax2 := call_max2 hc
theorem callMin2 (hc : X.calm = true) : CallR X (.builtin "min") rMin2 := call_min2 hc
theorem callLen : CallR X (.builtin "len") (rLenS X.K) := call_len_seq
theorem callTup : CallR X (.type "tuple") (rTupOf X.K) := call_tuple_of
theorem callLst : CallR X (.type "list") (rLstOf X.K) := call_list_of
end
section
variable {H : Hp} {Q : VK} {a b : Int} {K : PySem.W.Frag} {p : Addr} {xs : List V}
theorem s_intB {k : Bool} (h : Q (.int (if k then 1 else 0)) H) : rInt1 [.bl k] H Q := .inr ⟨k, rfl, h⟩
theorem s_abs (h : Q (.int (if a < 0 then -a else a)) H) : rAbs [.int a] H Q := ⟨a, rfl, h⟩
theorem s_max (h : Q (.int (if b > a then b else a)) H) : rMax2 [.int a, .int b] H Q := ⟨a, b, rfl, h⟩
theorem s_min (h : Q (.int (if b < a then b else a)) H) : rMin2 [.int a, .int b] H Q := ⟨a, b, rfl, h⟩
theorem s_ins0 {y : V} (hp : H p = some (.lst xs)) (hl : xs.length < sizeLine) (h : Q .non (upd H p (.lst (y :: xs)))) : rIns (.ref p) [.int 0, y] H Q := ⟨p, xs, 0, y, rfl, rfl, hp, hl, by decide, by decide, h⟩
theorem s_lenL (hs : SqL K H p xs) (h : Q (.int xs.length) H) : rLenS K [.ref p] H Q := ⟨p, xs, rfl, .inl hs, h⟩
theorem s_lenT (hs : SqT K H p xs) (h : Q (.int xs.length) H) : rLenS K [.ref p] H Q := ⟨p, xs, rfl, .inr hs, h⟩
theorem s_tupL (hs : SqL K H p xs) (h : ∀ l, H l = none → Q (.ref l) (upd H l (.tup xs))) : rTupOf K [.ref p] H Q := ⟨p, xs, rfl, .inl ⟨hs, h⟩⟩
theorem s_lstL (hs : SqL K H p xs) (h : ∀ l, H l = none → Q (.ref l) (upd H l (.lst xs))) : rLstOf K [.ref p] H Q := ⟨p, xs, rfl, .inl hs, h⟩
theorem s_lstT (hs : SqT K H p xs) (h : ∀ l, H l = none → Q (.ref l) (upd H l (.lst xs))) : rLstOf K [.ref p] H Q := ⟨p, xs, rfl, .inr hs, h⟩
end
/-! heaps -/
theorem same_upd {H : Hp} {p : Addr} {o : HO} (h : H p = none) : Same H (upd H p o) := fun b u e => by rw [upd_ne (ne_of_none e h)]; exact e
theorem same_upd' {H H' : Hp} {p : Addr} {o : HO} (s : Same H H') (h : H p = none) : Same H (upd H' p o) := fun b u e => by rw [upd_ne (ne_of_none e h)]; exact s b u e
theorem same_new {H H' : Hp} {p : Addr} {o : HO} (s : Same H H') (h : H' p = none) : Same H (upd H' p o) := s.trans (same_upd h)
theorem Same.none {H H' : Hp} (s : Same H H') {p : Addr} (h : H' p = none) : H p = none := s.free h
theorem atI0 {α : Type} {xs : List α} {v : α} {n : Int} (k : Nat) (hn : n = k) (h : xs[k]? = some v) : atI xs n = some v := by subst hn; exact atI_nat h
theorem cutV_mem {xs : List V} {lo hi : Option Int} {x : V} (h : x ∈ cutV xs lo hi) : x ∈ xs := List.mem_of_mem_drop (List.mem_of_mem_take h)
theorem get_mem {xs : List V} {i : Nat} {x : V} (h : xs[i]? = some x) : x ∈ xs := List.mem_of_getElem? h
theorem of_mem_ints {ns : List Int} {x : V} (h : x ∈ ns.map V.int) : ∃ c, x = .int c ∧ c ∈ ns := by
  obtain ⟨c, h1, h2⟩ := List.mem_map.mp h
  exact ⟨c, h2.symm, h1⟩
section
variable {H : Hp} {Q : VK} {K : PySem.W.Frag} {p : Addr} {xs : List V}
theorem mkT (hl : xs.length ≤ 1000) (h : ∀ p H', H p = none → H' p = some (.tup xs) → Same H H' → Q (.ref p) H') : MkT Q xs H := ⟨len_le hl, fun p hp => h p _ hp upd_same (same_upd hp)⟩
theorem mkL (hl : xs.length ≤ 1000) (h : ∀ p H', H p = none → H' p = some (.lst xs) → Same H H' → Q (.ref p) H') : MkL Q xs H := ⟨len_le hl, fun p hp => h p _ hp upd_same (same_upd hp)⟩
theorem mkCat {q : Addr} {zs : List V} (h1 : H p = some (.lst xs)) (h2 : H q = some (.lst zs)) (hl : xs.length + zs.length ≤ 1000) (h : ∀ l H', H l = none → H' l = some (.lst (xs ++ zs)) → Same H H' → Q (.ref l) H') : rCat (.ref p) (.ref q) H Q := ⟨p, q, xs, zs, rfl, rfl, h1, h2, Nat.le_trans hl (Nat.le_of_lt (small1000 (Nat.le_refl _))), fun l hl => h l _ hl upd_same (same_upd hl)⟩
theorem mkSlT {lo hi : Option Int} (hs : SqT K H p xs) (hn : ¬ (HT.sIx xs.length 0 lo = 0 ∧ HT.sIx xs.length xs.length hi = xs.length)) (h : ∀ l H', H l = none → H' l = some (.tup (cutV xs lo hi)) → Same H H' → Q (.ref l) H') : rSlT K (.ref p) lo hi H Q := ⟨p, xs, rfl, hs, hn, fun l hl => h l _ hl upd_same (same_upd hl)⟩
theorem mkSl {lo hi : Option Int} (hs : SqL K H p xs) (h : ∀ l H', H l = none → H' l = some (.lst (cutV xs lo hi)) → Same H H' → Q (.ref l) H') : rSlL K (.ref p) lo hi H Q := s_slL hs fun l hl => h l _ hl upd_same (same_upd hl)
end
theorem s_eqD {K : PySem.W.Frag} {H : Hp} {Q : VK} {x y : V} (d e : PyData) (hd : Dp K H x d) (he : Dp K H y e) (h1 : SeqAt.shaped d = true) (h2 : SeqAt.shaped e = true) (h : Q (.bl (PyData.eqv d e)) H) : rEqD K x y H Q := ⟨d, e, hd, he, h1, h2, h⟩
theorem s_neD {K : PySem.W.Frag} {H : Hp} {Q : VK} {x y : V} (d e : PyData) (hd : Dp K H x d) (he : Dp K H y e) (h1 : SeqAt.shaped d = true) (h2 : SeqAt.shaped e = true) (h : Q (.bl (!PyData.eqv d e)) H) : rNeD K x y H Q := ⟨d, e, hd, he, h1, h2, h⟩
theorem dp_tup1 {K : PySem.W.Frag} {H : Hp} {p : Addr} {a : Int} (h : H p = some (.tup [.int a])) : Dp K H (.ref p) (.tuple [.int a]) := .tup (SqT.of h) (.cons (.int a) .nil)
theorem dp_tup2 {K : PySem.W.Frag} {H : Hp} {p : Addr} {a b : Int} (h : H p = some (.tup [.int a, .int b])) : Dp K H (.ref p) (.tuple [.int a, .int b]) := .tup (SqT.of h) (.cons (.int a) (.cons (.int b) .nil))
theorem atI_neg1 {α : Type} {xs : List α} {v : α} (h : xs.getLast? = some v) : atI xs (-1) = some v := by
  rcases List.eq_nil_or_concat xs with e | ⟨ys, y, e⟩
  · subst e; simp at h
  · rw [List.concat_eq_append] at e
    subst e
    rw [List.getLast?_concat] at h
    cases h
    exact atI_last ys v
/-! all stands but what lies at one place -/
def SameB (p : Addr) (H H' : Hp) : Prop := ∀ b o, b ≠ p → H b = some o → H' b = some o
theorem SameB.refl (p : Addr) (H : Hp) : SameB p H H := fun _ _ _ h => h
theorem SameB.trans {p : Addr} {H H1 H2 : Hp} (a : SameB p H H1) (b : SameB p H1 H2) : SameB p H H2 := fun c o n h => b c o n (a c o n h)
theorem SameB.of {p : Addr} {H H1 : Hp} (a : Same H H1) : SameB p H H1 := fun c o _ h => a c o h
theorem SameB.put {p : Addr} {H : Hp} {o : HO} : SameB p H (upd H p o) := fun c u n h => by rw [upd_ne n]; exact h
theorem SameB.same {p : Addr} {H H1 H2 : Hp} (n : H p = none) (a : SameB p H1 H2) (s : Same H H1) : Same H H2 := fun c o h => a c o (ne_of_none h n) (s c o h)
theorem SameB.updn {p l : Addr} {H H' : Hp} {o : HO} (h : SameB p H H') (n : H l = none) : SameB p H (upd H' l o) := fun b u hb e => by rw [upd_ne (ne_of_none e n)]; exact h b u hb e
theorem ixN_nat {n d : Nat} (h : d < n) : ixN n (d : Int) = some d := by
  unfold ixN
  rw [if_pos (by omega), if_pos (by omega)]; simp
/-! ranges -/
section
variable {H : Hp} {σ : L2.St} {ta : TA} {RI : It → Hp → Prop}
def RngQ1 (RI : It → Hp → Prop) (vs : List V) (H : Hp) : Prop := ∃ j : Int, vs = [.int j] ∧ -(2 ^ 62) ≤ j ∧ j < 2 ^ 62 ∧ RI (Itr 0 j.toNat) H
def RngQ2 (RI : It → Hp → Prop) (vs : List V) (H : Hp) : Prop := ∃ i j : Int, vs = [.int i, .int j] ∧ (-(2 ^ 62) ≤ i ∧ i < 2 ^ 62 ∧ -(2 ^ 62) ≤ j ∧ j < 2 ^ 62) ∧ RI (Itr i (j - i).toNat) H
theorem s_rng1 (h : ta σ H fun vs H1 => RngQ1 RI vs H1) : iRng1 ta σ H RI := h
theorem s_rng2 (h : ta σ H fun vs H1 => RngQ2 RI vs H1) : iRng2 ta σ H RI := h
theorem mkR1 {j : Int} (n : Nat) (e : j.toNat = n) (h1 : -(2 ^ 62) ≤ j) (h2 : j < 2 ^ 62) (h : RI (Itr 0 n) H) : RngQ1 RI [.int j] H := ⟨j, rfl, h1, h2, by rw [e]; exact h⟩
theorem mkR2 {i j : Int} (n : Nat) (e : (j - i).toNat = n) (h1 : -(2 ^ 62) ≤ i ∧ i < 2 ^ 62 ∧ -(2 ^ 62) ≤ j ∧ j < 2 ^ 62) (h : RI (Itr i n) H) : RngQ2 RI [.int i, .int j] H := ⟨i, j, rfl, h1, by rw [e]; exact h⟩
end
section
variable {to ti : TE} {t : TSet} {v : V} {σ : L2.St} {H : Hp} {QS : L2.St → Hp → Prop} {p : Addr} {xs : List V} {k : Int} {QH : Hp → Prop}
theorem s_gsub (h : to σ H fun o H1 => ti σ H1 fun i H2 => t o i v H2 fun H3 => QS σ H3) : gSub to ti t v σ H QS := h
theorem s_setL (j : Nat) (hp : H p = some (.lst xs)) (hj : ixN xs.length k = some j) (h : QH (upd H p (.lst (xs.set j v)))) : rSetL (.ref p) (.int k) v H QH := ⟨p, xs, k, j, rfl, rfl, hp, hj, h⟩
end
/-! dicts -/
section
variable {H : Hp} {Q : VK} {p : Addr} {kvs : List (Key × V)} {k : Key} {v : V} {td ty tv : TE} {σ : L2.St} {D : Ends}
def DGetQ (Q : VK) (x y : V) (H : Hp) : Prop := ∃ a v, x = .ref a ∧ DGet H a y (some v) ∧ Q v H
theorem s_dget (h : td σ H fun x H1 => ty σ H1 fun y H2 => DGetQ Q x y H2) : tDGet td ty σ H Q := h
theorem s_dgetS {x : Str} (hd : H p = some (.dK kvs)) (hv : valV kvs (.inr x) = some v) (h : Q v H) : DGetQ Q (.ref p) (.str x) H := ⟨p, v, rfl, by rw [← hv]; exact DGet.k (k := .inr x) hd, h⟩
theorem s_dgetI {i : Int} (hd : H p = some (.dK kvs)) (hv : valV kvs (.inl i) = some v) (h : Q v H) : DGetQ Q (.ref p) (.int i) H := ⟨p, v, rfl, by rw [← hv]; exact DGet.k (k := .inl i) hd, h⟩
def DispQ (Q : VK) (p : Addr) (ps : List (V × V)) (H2 : Hp) : Prop := H2 p = some (.dK []) ∧ ∃ kvs : List (Key × V), ps = kvs.map (fun kv => (kV kv.1, kv.2)) ∧ kvs.length ≤ 15 ∧ Q (.ref p) (upd H2 p (.dK (mergeK [] kvs)))
theorem s_disp {trs : List (TE × TE)} (h : ∀ p H1, H p = none → H1 p = some (.dK []) → Same H H1 → tPairs trs σ H1 fun ps H2 => DispQ Q p ps H2) : tDisp trs σ H Q := fun p hp => h p _ hp upd_same (same_upd hp)
theorem s_pn {QP : List (V × V) → Hp → Prop} (h : QP [] H) : tPairs [] σ H QP := h
theorem s_pc {tk : TE} {r : List (TE × TE)} {QP : List (V × V) → Hp → Prop} (h : tk σ H fun x H1 => tv σ H1 fun y H2 => tPairs r σ H2 fun ps H3 => QP ((x, y) :: ps) H3) : tPairs ((tk, tv) :: r) σ H QP := h
theorem mkDisp {ps : List (V × V)} (kvs : List (Key × V)) (hd : H p = some (.dK [])) (e : ps = kvs.map (fun kv => (kV kv.1, kv.2))) (hl : kvs.length ≤ 15) (h : ∀ H', H' p = some (.dK (mergeK [] kvs)) → (∀ H0, H0 p = none → Same H0 H → Same H0 H') → Q (.ref p) H') : DispQ Q p ps H :=
  ⟨hd, kvs, e, hl, h _ upd_same fun H0 n s => same_upd' s n⟩
def DPutQ (P : Hp → Prop) (x y v : V) (H3 : Hp) : Prop := ∃ a H4, x = .ref a ∧ DPut H3 a y v H4 ∧ P H4
theorem s_dput (h : tv σ H fun v H1 => td σ H1 fun x H2 => ty σ H2 fun y H3 => DPutQ (D.nx σ) x y v H3) : sDPut td ty tv D σ H := h
theorem s_dputS {P : Hp → Prop} {x : Str} (hd : H p = some (.dK kvs)) (hl : kvs.length < sizeLine) (h : P (upd H p (.dK (putK kvs (.inr x) v)))) : DPutQ P (.ref p) (.str x) v H := ⟨p, _, rfl, DPut.k (k := .inr x) hd hl, h⟩
theorem s_dputI {P : Hp → Prop} {i : Int} (hd : H p = some (.dK kvs)) (hl : kvs.length < sizeLine) (h : P (upd H p (.dK (putK kvs (.inl i) v)))) : DPutQ P (.ref p) (.int i) v H := ⟨p, _, rfl, DPut.k (k := .inl i) hd hl, h⟩
end
mutual
theorem eqv_refl : ∀ d : PyData, PyData.canLay0 d = true → PyData.eqv d d = true
  | .none, _ => by simp [PyData.eqv]
  | .bool b, _ => by simp [PyData.eqv]
  | .int i, _ => by simp [PyData.eqv]
  | .str x, _ => by simp [PyData.eqv]
  | .list xs, h => by simp only [PyData.eqv]; exact eqv_refls xs (by simpa [PyData.canLay0] using h)
  | .tuple xs, h => by simp only [PyData.eqv]; exact eqv_refls xs (by simpa [PyData.canLay0] using h)
  | .dict _, h => by simp [PyData.canLay0] at h
theorem eqv_refls : ∀ ds : List PyData, PyData.canLayAll0 ds = true → PyData.eqvAll ds ds = true
  | [], _ => by simp [PyData.eqvAll]
  | d :: ds, h => by
    simp only [PyData.canLayAll0, Bool.and_eq_true] at h
    simp only [PyData.eqvAll, Bool.and_eq_true]
    exact ⟨eqv_refl d h.1, eqv_refls ds h.2⟩
end
theorem layAll {ds : List PyData} (h : ∀ d ∈ ds, PyData.canLay0 d = true) : PyData.canLayAll0 ds = true := by
  induction ds with
  | nil => simp [PyData.canLayAll0]
  | cons d ds ih =>
    simp only [PyData.canLayAll0, Bool.and_eq_true]
    exact ⟨h d (by simp), ih fun e he => h e (by simp [he])⟩
theorem depAll {ds : List PyData} {n : Nat} (h : ∀ d ∈ ds, PyData.depth d ≤ n) : PyData.depthAll ds ≤ n := by
  induction ds with
  | nil => simp [PyData.depthAll]
  | cons d ds ih =>
    simp only [PyData.depthAll]
    exact Nat.max_le.mpr ⟨h d (by simp), ih fun e he => h e (by simp [he])⟩
theorem shapedL {ds : List PyData} (h : ∀ d ∈ ds, PyData.canLay0 d = true ∧ PyData.depth d ≤ 63) : SeqAt.shaped (.list ds) = true := by
  unfold SeqAt.shaped
  simp only [PyData.canLay0, PyData.depth, Bool.and_eq_true]
  exact ⟨layAll fun d hd => (h d hd).1, decide_eq_true (Nat.succ_le_succ (depAll fun d hd => (h d hd).2))⟩
theorem shapedT {ds : List PyData} (h : ∀ d ∈ ds, PyData.canLay0 d = true ∧ PyData.depth d ≤ 63) : SeqAt.shaped (.tuple ds) = true := by
  unfold SeqAt.shaped
  simp only [PyData.canLay0, PyData.depth, Bool.and_eq_true]
  exact ⟨layAll fun d hd => (h d hd).1, decide_eq_true (Nat.succ_le_succ (depAll fun d hd => (h d hd).2))⟩
theorem eqv_shaped {d : PyData} (h : SeqAt.shaped d = true) : PyData.eqv d d = true := eqv_refl d (SeqAt.canLay_of_shaped h)
theorem in_ints (a : Int) (ns : List Int) : inV (.int a) (ns.map V.int) = decide (a ∈ ns) := by
  unfold inV
  induction ns with
  | nil => simp
  | cons n ns ih =>
    rw [List.map_cons, List.any_cons, ih]
    simp only [eqV, List.mem_cons]
    by_cases h : a = n
    · subst h; simp
    · simp [h, Ne.symm h]
theorem flat_ints (ns : List Int) : (ns.map V.int).all flatV = true := by simp [flatV]
theorem s_inL {K : PySem.W.Frag} {H : Hp} {Q : VK} {p : Addr} {a : Int} {ns : List Int} (hp : H p = some (.lst (ns.map V.int))) (h : Q (.bl (decide (a ∈ ns))) H) : rIn K false (.int a) (.ref p) H Q :=
  ⟨p, ns.map V.int, rfl, .inl (SqL.of hp), rfl, flat_ints ns, by rw [if_neg Bool.false_ne_true, in_ints]; exact h⟩
theorem s_notInL {K : PySem.W.Frag} {H : Hp} {Q : VK} {p : Addr} {a : Int} {ns : List Int} (hp : H p = some (.lst (ns.map V.int))) (h : Q (.bl (!decide (a ∈ ns))) H) : rIn K true (.int a) (.ref p) H Q :=
  ⟨p, ns.map V.int, rfl, .inl (SqL.of hp), rfl, flat_ints ns, by rw [if_pos rfl, in_ints]; exact h⟩
theorem paired_mono {α β : Type} {F G : α → β → Prop} (h : ∀ a b, F a b → G a b) : ∀ {xs : List α} {ys : List β}, Paired F xs ys → Paired G xs ys
  | _, _, .nil => .nil
  | _, _, .cons f r => .cons (h _ _ f) (paired_mono h r)
theorem paired_take {α β : Type} {F : α → β → Prop} : ∀ {xs : List α} {ys : List β} (n : Nat), Paired F xs ys → Paired F (xs.take n) (ys.take n)
  | _, _, 0, _ => by simp; exact .nil
  | _, _, _ + 1, .nil => .nil
  | _, _, n + 1, .cons f r => .cons f (paired_take n r)
theorem s_isiT2 {K : PySem.W.Frag} {H : Hp} {Q : VK} {x : V} {tp : Addr} {a b1 b2 : String} {r1 r2 : Bool} (ht : H tp = some (.tup [.ty b1, .ty b2])) (tx : TyOf K H x (.type a)) (k1 : kitB a b1 = some r1) (k2 : kitB a b2 = some r2) (h : Q (.bl (r1 || r2)) H) : rIsiT K [x, .ref tp] H Q :=
  ⟨x, tp, [.ty b1, .ty b2], .type a, [.type b1, .type b2], r1 || r2, rfl, ht, .cons (.ty b1) (.cons (.ty b2) .nil), .base tx,
    kitAny_cons (kit_ty k1) (fun e => kitAny_cons (kit_ty k2) (fun e2 => by rw [e, e2]; exact kitAny_nil) (fun e2 => by rw [e2]; simp)) (fun e => by rw [e]; rfl), h⟩
theorem s_isiT2F {K : PySem.W.Frag} {H : Hp} {Q : VK} {x : V} {tp : Addr} {a b1 b2 : String} (ht : H tp = some (.tup [.ty b1, .ty b2])) (tx : TyOf K H x (.type a)) (k1 : kitB a b1 = some false) (k2 : kitB a b2 = some false) (h : Q (.bl false) H) : rIsiT K [x, .ref tp] H Q := s_isiT2 ht tx k1 k2 h
theorem kb_nl : kitB "NoneType" "list" = some false := by decide +kernel
theorem kb_nt : kitB "NoneType" "tuple" = some false := by decide +kernel
theorem kb_nb : kitB "NoneType" "bool" = some false := by decide +kernel
theorem kb_il : kitB "int" "list" = some false := by decide +kernel
theorem kb_it : kitB "int" "tuple" = some false := by decide +kernel
theorem kb_bl : kitB "bool" "list" = some false := by decide +kernel
theorem kb_bt : kitB "bool" "tuple" = some false := by decide +kernel
theorem lookup1 {f : Str} {v : V} : List.lookup f [(f, v)] = some v := by simp [List.lookup]
theorem s_xf {a C d : Addr} {f : Str} {v : V} {i : Nat} {σ : L2.St} {H : Hp} {Q : VK} (e : σ[i]? = some (some (.ref a))) (hx : H d = some (.xd [(f, v)])) (h : Q v H) : tXf a (.ref C) (some d) C f (tVar i) σ H Q := ⟨_, e, rfl, rfl, d, _, v, rfl, hx, lookup1, h⟩
/-- a list (or tuple) of tuples -/
abbrev TupsIn (H : Hp) : List V → List (List V) → Prop := Paired fun (x : V) (r : List V) => ∃ t, x = .ref t ∧ H t = some (.tup r)
theorem TupsIn.same {H H' : Hp} (s : Same H H') : ∀ {xs : List V} {rs : List (List V)}, TupsIn H xs rs → TupsIn H' xs rs
  | _, _, .nil => .nil
  | _, _, .cons ⟨t, e, h⟩ r => .cons ⟨t, e, s _ _ h⟩ (TupsIn.same s r)
theorem TupsIn.upd {H : Hp} {p : Addr} {o : HO} {zs : List V} (hp : H p = some (.lst zs)) : ∀ {xs : List V} {rs : List (List V)}, TupsIn H xs rs → TupsIn (L2.upd H p o) xs rs
  | _, _, .nil => .nil
  | _, _, .cons ⟨t, e, h⟩ r => .cons ⟨t, e, by rw [upd_ne (fun z => by rw [z, hp] at h; cases h)]; exact h⟩ (TupsIn.upd hp r)
theorem paired_snoc {α β : Type} {F : α → β → Prop} {x : α} {y : β} : ∀ {xs : List α} {ys : List β}, Paired F xs ys → F x y → Paired F (xs ++ [x]) (ys ++ [y])
  | _, _, .nil, f => .cons f .nil
  | _, _, .cons a r, f => .cons a (paired_snoc r f)
theorem paired_set {α β : Type} {F : α → β → Prop} {x : α} {y : β} : ∀ {xs : List α} {ys : List β} (j : Nat), Paired F xs ys → F x y → Paired F (xs.set j x) (ys.set j y)
  | _, _, _, .nil, _ => .nil
  | _, _, 0, .cons _ r, f => .cons f r
  | _, _, j + 1, .cons a r, f => .cons a (paired_set j r f)
theorem TupsIn.app {H H1 : Hp} {l t : Addr} {xs r : List V} {rs : List (List V)} (hl : H l = some (.lst xs)) (ht : TupsIn H xs rs) (s : Same H H1) (nt : H t = none) (et : H1 t = some (.tup r)) :
    TupsIn (L2.upd H1 l (.lst (xs ++ [.ref t]))) (xs ++ [.ref t]) (rs ++ [r]) :=
  paired_snoc (TupsIn.upd (s _ _ hl) (ht.same s)) ⟨t, rfl, by rw [upd_ne (ne_of_none hl nt).symm]; exact et⟩
theorem TupsIn.put {H H1 : Hp} {l t : Addr} {xs r : List V} {rs : List (List V)} (j : Nat) (hl : H l = some (.lst xs)) (ht : TupsIn H xs rs) (s : Same H H1) (nt : H t = none) (et : H1 t = some (.tup r)) :
    TupsIn (L2.upd H1 l (.lst (xs.set j (.ref t)))) (xs.set j (.ref t)) (rs.set j r) :=
  paired_set j (TupsIn.upd (s _ _ hl) (ht.same s)) ⟨t, rfl, by rw [upd_ne (ne_of_none hl nt).symm]; exact et⟩
theorem take_more {α : Type} {xs : List α} {i : Nat} {x : α} (h : xs[i]? = some x) : xs.take (i + 1) = xs.take i ++ [x] := by
  rw [List.take_succ, h]; rfl
theorem pget {α β : Type} {F : α → β → Prop} : ∀ {xs : List α} {ys : List β} {i : Nat} {x : α}, Paired F xs ys → xs[i]? = some x → ∃ y, ys[i]? = some y ∧ F x y
  | _, _, _, _, .nil, e => by simp at e
  | _, _, 0, _, .cons f _, e => by simp at e; subst e; exact ⟨_, rfl, f⟩
  | _, _, i + 1, x, .cons _ r, e => by
    obtain ⟨y, h1, h2⟩ := pget (i := i) r (by simpa using e)
    exact ⟨y, by simpa using h1, h2⟩
theorem pget' {α β : Type} {F : α → β → Prop} : ∀ {xs : List α} {ys : List β} {i : Nat} {y : β}, Paired F xs ys → ys[i]? = some y → ∃ x, xs[i]? = some x ∧ F x y
  | _, _, _, _, .nil, e => by simp at e
  | _, _, 0, _, .cons f _, e => by simp at e; subst e; exact ⟨_, rfl, f⟩
  | _, _, i + 1, x, .cons _ r, e => by
    obtain ⟨y, h1, h2⟩ := pget' (i := i) r (by simpa using e)
    exact ⟨y, by simpa using h1, h2⟩
theorem s_isN {H : Hp} {Q : VK} (h : Q (.bl true) H) : L2.rIsN .non .non H Q := ⟨rfl, by rw [decide_eq_true rfl]; exact h⟩
theorem s_isNi {H : Hp} {Q : VK} {i : Int} (h : Q (.bl false) H) : L2.rIsN (.int i) .non H Q := ⟨rfl, by rw [decide_eq_false (by intro z; cases z)]; exact h⟩
def RgQ (Q : VK) (x y : V) (H : Hp) : Prop := ∃ i j, x = .int i ∧ y = .int j ∧ RgOk i j ∧ ∀ q, H q = none → Q (.ref q) (upd H q (.lst (rgV i j)))
theorem s_bm0 {K : PySem.W.Frag} {T : String} {r : V → List V → Hp → VK → Prop} {ta : TE} {σ : L2.St} {H : Hp} {Q : VK} (h : ta σ H fun x H1 => tyV K T x H1 ∧ r x [] H1 Q) : tBM0 K T r ta σ H Q := h
theorem s_lrg2 {ta tb : TE} {σ : L2.St} {H : Hp} {Q : VK} (h : ta σ H fun x H1 => tb σ H1 fun y H2 => RgQ Q x y H2) : tLstRg (tRg2 ta tb) σ H Q := h
theorem s_lc {wi : TI} {g : TG} {tt : TT} {te : TE} {vs : List Nat} {σ : L2.St} {H : Hp} {Q : VK} (h : wi σ H fun J H1 => tLc (fun _ _ R => R J H1) g tt te vs σ H1 Q) : tLc wi g tt te vs σ H Q := h
theorem call_isiK (K : PySem.W.Frag) {X : Cx} (h : X.K = K) : CallR X (.builtin "isinstance") (rIsi K) := h ▸ call_isi
theorem ix_seqK (K : PySem.W.Frag) {X : Cx} (h : X.K = K) : IxR X (rIx K) := h ▸ ix_seq
theorem s_isNb {H : Hp} {Q : VK} {i : Bool} (h : Q (.bl false) H) : L2.rIsN (.bl i) .non H Q := ⟨rfl, by rw [decide_eq_false (by intro z; cases z)]; exact h⟩
theorem s_isNr {H : Hp} {Q : VK} {i : Addr} (h : Q (.bl false) H) : L2.rIsN (.ref i) .non H Q := ⟨rfl, by rw [decide_eq_false (by intro z; cases z)]; exact h⟩
theorem s_notN {H : Hp} {Q : VK} (h : Q (.bl false) H) : L2.rNotN .non .non H Q := ⟨rfl, by rw [decide_eq_true rfl]; exact h⟩
theorem s_notNi {H : Hp} {Q : VK} {i : Int} (h : Q (.bl true) H) : L2.rNotN (.int i) .non H Q := ⟨rfl, by rw [decide_eq_false (by intro z; cases z)]; exact h⟩
theorem s_notNr {H : Hp} {Q : VK} {i : Addr} (h : Q (.bl true) H) : L2.rNotN (.ref i) .non H Q := ⟨rfl, by rw [decide_eq_false (by intro z; cases z)]; exact h⟩
theorem fn_or {P : Program} {w : World} {K : PySem.W.Frag} {mg : Str → Option Value} {base : Heap} {CX : CXT} {k : Nat} {f : Addr} {fd : FuncData} {ps : List Str} {sp sp1 sp2 : Sp} (F1 : FnOk P w K mg base CX k f fd ps sp1) (F2 : FnOk P w K mg base CX k f fd ps sp2)
    (h : ∀ vs H Q E, sp vs H Q E → sp1 vs H Q E ∨ sp2 vs H Q E) : FnOk P w K mg base CX k f fd ps sp :=
  ⟨fun vs H Q E q => (h vs H Q E q).elim (F1.len vs H Q E) (F2.len vs H Q E), fun A outer s H args us vs Q E hr he hb hv hs => (h vs H Q E hs).elim (F1.run A outer s H args us vs Q E hr he hb hv) (F2.run A outer s H args us vs Q E hr he hb hv)⟩
/-! loops -/
section
variable {c : TT} {tb : TS} {D : Ends} {σ : L2.St} {H : Hp}
/-- the int in a slot -/
def iv (σ : L2.St) (i : Nat) : Int := match σ[i]? with
  | some (some (V.int r)) => r
  | _ => 0
def WW (Pv : L2.St → Hp → Prop) (μ : L2.St → Hp → Nat) : Nat → L2.St → Hp → Prop := fun m σ H => m = μ σ H ∧ Pv σ H
theorem s_while (Pv : L2.St → Hp → Prop) (μ : L2.St → Hp → Nat) (h0 : Pv σ H)
    (hs : ∀ σ H, Pv σ H → c σ H fun b H1 => if b = true then ∃ N : L2.St → Hp → Prop, (∀ σ' H', N σ' H' → ∃ m', m' < μ σ H ∧ WW Pv μ m' σ' H') ∧ tb { D with nx := N, ct := N, bk := D.nx } σ H1 else D.nx σ H1) : tWhile c tb D σ H :=
  ⟨WW Pv μ, ⟨_, rfl, h0⟩, fun m σ H ⟨e, p⟩ => by subst e; exact hs σ H p⟩
theorem s_turn {Pv : L2.St → Hp → Prop} {μ : L2.St → Hp → Nat} {m : Nat} (h : tb { D with nx := fun σ' H' => Pv σ' H' ∧ μ σ' H' < m, ct := fun σ' H' => Pv σ' H' ∧ μ σ' H' < m, bk := D.nx } σ H) :
    ∃ N : L2.St → Hp → Prop, (∀ σ' H', N σ' H' → ∃ m', m' < m ∧ WW Pv μ m' σ' H') ∧ tb { D with nx := N, ct := N, bk := D.nx } σ H := ⟨_, fun σ' H' p => ⟨_, p.2, rfl, p.1⟩, h⟩
end
/-! numbers -/
def CDivF (_ j : Int) : Prop := j ≠ 0 ∧ j.natAbs.log2 < 9000
section
variable {X : Cx}
theorem op_divF : OpR X (binaryOp .FloorDiv) (rI CDivF fun i j => .int (i.fdiv j)) := opI fun _ _ _ _ _ _ _ hc q => floordiv_int hc.1 q (.inl (PyProof.noPylong_of_log2 hc.2))
end
theorem divW {a j : Int} (h : 0 < j) (h2 : j.natAbs < 2 ^ 2000) : CDivW a j := wide_div h h2 (by decide) (by decide)
theorem divF {a j : Int} (h : j ≠ 0) (h2 : j.natAbs < 2 ^ 2000) : CDivF a j := ⟨h, Nat.lt_of_lt_of_le (PySem.Flt.log2_lt_of (by decide) h2) (by decide)⟩
theorem mulW {a b : Int} (h1 : a.natAbs < 2 ^ 2000) (h2 : b.natAbs < 2 ^ 2000) : CMulW a b := wide_mul h1 h2 (by decide) (by decide) (by decide)
/-- a law over a head by facts: its last step, the script's sizes told -/
theorem walk_ofEB {l : PySem.W.OpenLaw} {n k : Nat} {qv : Program} {ls : List Str} {XP : (Str → Option Value) → Heap → Prop} {YP : World → Heap → Prop} {dr : DefRec} {CX : World → CXT} {prm : Str}
    (hmost : l.most = some n) (hline : n ≤ sizeLine) (hnod : dr.params.defaults = []) (room : Room k callerA)
    (F : ∀ (w : World) (mg : Str → Option Value) (fa : Addr) (hp : Heap), YP w hp → hp.Ns mainGlobals mg → mg dr.name = some (.ref fa) →
      ∃ (Kf : PySem.W.Frag) (fdt : FuncData) (sp : Sp), Kf.In hp ∧ (∀ (s : Shared) (u : Value), BindsTo s fdt ⟨[u], []⟩ [(prm, u)]) ∧
        (∀ (H : Hp) (a : Addr) (ns : List Int), ns.length ≤ n → (∀ z ∈ ns, Builtin.Int.intBits z ≤ 1048576) → Only H → SqL Kf H a (ns.map V.int) → sp [.ref a] H (fun v _ => v = .bl true) fun _ _ _ => False) ∧
        ∀ base : Heap, Kf.In base → base.Ns mainGlobals mg → FnOk l.prog w Kf mg base (CX w) k fa fdt [prm] sp)
    (none_out : ∀ (w : World) (H : Hp) (s : Shared) (e : Value) (s' : Shared), CX w [] H s (fun _ _ _ => False) e s' → False) :
    PySem.W.WalkO qv ls XP YP l.row.toRowW dr [] (fun f vs => PySem.call f vs) := by
  refine Att.attach_callB hmost hnod fun w s₀ s₁ mg _ fa _ _ _ _ a _ ns G Y _ _ _ gN ob1 xis len bits run => ?_
  obtain ⟨Kf, fdt, sp, kin, bnd, last, fok⟩ := F w mg fa _ Y G.T.g gN
  exact law_call kin G.T.g G.T.b G.T.builtins G.T.nolimit run ob1 xis (Nat.le_trans len hline) room fok bnd (fun H only sq => last H a ns len bits only sq) fun H e s' => none_out w H s₁ e s'
theorem cx0_no {P : Program} (w : World) (H : Hp) (s : Shared) (e : Value) (s' : Shared) (h : CX0 [] H s (fun _ _ _ => False) e s') : False := h
/-! what the head tells: facts as tests of the written part, defs at any address -/
abbrev FB := PySem.W.Frag → Bool
def toldR (fb : List FB) (fn : List He5.DefA) (K : PySem.W.Frag) : He.AlD := ((fb.all fun t => t K) && (fn.all fun e => e.ok K), fn.map fun e => He5.fnA K (e.at_ K))
def dueR (fn : List He5.DefA) : He.AlD := (true, fn.map He5.DefA.val)
def Told (fb : List FB) (fn : List He5.DefA) (K : PySem.W.Frag) : Prop := toldR fb fn K = dueR fn
def toldG (n : Nat) (fb : List FB) (fn : List He5.DefA) (g : Addr → Option Obj) : He.AlD := toldR fb fn (He.frG g (He5.asA g n))
def hookR (n : Nat) (fb : List FB) (fn : List He5.DefA) : PySem.W.Hook where
  α := He.AlD
  obs := fun st => toldG n fb fn st.heap.get?
  val := fun _ => dueR fn
  says := fun _ hp => ∃ Kf : PySem.W.Frag, Kf.In hp ∧ Told fb fn Kf
  of := fun _ _ eq => ⟨_, He.frG_in, eq⟩
  keeps := fun _ _ _ ⟨Kf, hin, tl⟩ kp => ⟨Kf, PySem.W.Frag.In.keeps hin kp, tl⟩
theorem toldG_eq {n : Nat} {fb : List FB} {fn : List He5.DefA} {g : Addr → Option Obj} {st : Shared} (h : ∀ a, g a = st.heap.get? a) : toldG n fb fn g = (hookR n fb fn).obs st := by
  have eg : g = st.heap.get? := funext h
  rw [eg] <;> rfl
theorem Told.fact {fb : List FB} {fn : List He5.DefA} {K : PySem.W.Frag} (tl : Told fb fn K) (i : Nat) {t : FB} (h : fb[i]? = some t := by rfl) : t K = true := by
  have e0 : ((fb.all fun t => t K) && (fn.all fun e => e.ok K)) = true := congrArg Prod.fst tl
  exact List.all_eq_true.mp (Bool.and_eq_true_iff.mp e0).1 t (List.mem_of_getElem? h)
theorem Told.dfn {fb : List FB} {fn : List He5.DefA} {K : PySem.W.Frag} (tl : Told fb fn K) (i : Nat) {e : He5.DefA} (h : fn[i]? = some e := by rfl) : ∃ fd, FunD K e.name e.qual e.params e.body e.scope (e.dvs K) (e.kws K) (e.at_ K) fd := by
  have e0 : ((fb.all fun t => t K) && (fn.all fun e => e.ok K)) = true := congrArg Prod.fst tl
  have e1 : fn.map (fun e => He5.fnA K (e.at_ K)) = fn.map He5.DefA.val := congrArg Prod.snd tl
  have e2 := congrArg (fun l => l[i]?) e1
  simp only [List.getElem?_map, h, Option.map_some] at e2
  exact He5.DefA.funD (Option.some.inj e2) (List.all_eq_true.mp (Bool.and_eq_true_iff.mp e0).2 e (List.mem_of_getElem? h))
/-! own exception classes whose __init__ calls their base's and keeps one field -/
def oexB (C : Addr) : FB := fun K => (match K.lookup C with
  | some ⟨.type tn, _, .cls cd, sl⟩ => (match cd.mro, sl.toList with
    | .ref C' :: bm, [_, _, _, _, some (.builtin n), _] => decide (tn = "type") && (C' == C && (decide (n = "ValueError.__new__") && (!cd.hasDel && (cd.hasDict && PySem.HandSPX.refsVE bm))))
    | _, _ => false)
  | _ => false) && (decide (PySem.W.findIn K (.ref C) "__setattr__" = some (some (.builtin "object.__setattr__"))) && (decide (PySem.W.subIn K (.ref C) (.type "BaseException") = some true) && (decide (PySem.W.typeIn K (.ref C) = some (.type "type")) && PySem.W.keepIn K (.ref C))))
theorem oex_of {K : PySem.W.Frag} {C : Addr} (h : oexB C K = true) : OexC K C := by
  unfold oexB at h
  simp only [Bool.and_eq_true, decide_eq_true_eq] at h
  obtain ⟨h1, h2, h3, h4, h5⟩ := h
  refine ⟨?_, h2, h3, h4, h5⟩
  split at h1
  · rename_i tn dd cd sl ho
    split at h1
    · rename_i C' bm k0 k1 k2 k3 n k5 hm hs
      simp only [Bool.and_eq_true, beq_iff_eq, Bool.not_eq_true', decide_eq_true_eq] at h1
      obtain ⟨rfl, rfl, rfl, hdel, hdct, hr⟩ := h1
      obtain ⟨nm, bs, mro, ns, qn, hd, sn, sub, ab, col, del⟩ := cd
      dsimp only at hm hdel hdct
      subst hm hdel hdct
      have hsl : sl = #[k0, k1, k2, k3, some (.builtin "ValueError.__new__"), k5] := by
        obtain ⟨l⟩ := sl
        simp only at hs
        rw [hs]
      subst hsl
      exact ⟨nm, qn, ns, bs, bm, sn, sub, ab, col, dd, k0, k1, k2, k3, k5, ho, hr⟩
    · cases h1
  · cases h1
/-- the base P, whose __init__ is called through it -/
def baseB (C : Addr) : FB := fun K => PySem.W.readsIn K C (.type "type") && (decide (PySem.W.specialIn K (.ref C) "__getattribute__" = some (some (.builtin "type.__getattribute__"))) && (match PySem.W.findCls K (.ref C) (.type "type") "__init__" with
  | some (.val (.builtin n)) => decide (n = "ValueError.__init__")
  | _ => false))
structure BaseC (K : PySem.W.Frag) (C : Addr) : Prop where
  rd : PySem.W.readsIn K C (.type "type") = true
  ga : PySem.W.specialIn K (.ref C) "__getattribute__" = some (some (.builtin "type.__getattribute__"))
  at_ : PySem.W.findCls K (.ref C) (.type "type") "__init__" = some (.val (.builtin "ValueError.__init__"))
theorem base_of {K : PySem.W.Frag} {C : Addr} (h : baseB C K = true) : BaseC K C := by
  unfold baseB at h
  simp only [Bool.and_eq_true, decide_eq_true_eq] at h
  obtain ⟨h1, h2, h3⟩ := h
  refine ⟨h1, h2, ?_⟩
  split at h3
  · rename_i n e
    rw [e, of_decide_eq_true h3]
  · cases h3
section
variable {X : Cx} {e : Expr} {es : List Expr} {ta : TA} {p1 p2 pos : Pos}
/-- P.__init__(self, ..) -/
theorem pe_cinit {x : Str} {C : Addr} {pl : Sem Bool} (hg : Gl X x) (hm : X.mg x = some (.ref C)) (r : BaseC X.K C) (ha : PA X (e :: es) ta) (hdb : (x == ("__debug__" : Str)) = false := by decide)
    (hc : eval (.Call (.Attribute (.Name x p1) "__init__" p2) (e :: es) [] pos) X.env = (do
      let ov ← eval (.Name x p1) X.env
      standAt p2.atName
      let (f, fst) ← holding [ov] (getMethod ov "__init__" pl)
      callWith pos f fst (backTo pos (starEach (e :: es) X.env)) (backToKw pos (keywordEach [] X.env))) := by rfl)
    (he : starEach (e :: es) X.env = (false, eval e X.env) :: starEach es X.env := by rfl) (hpl : (backTo pos (starEach es X.env)).any (·.1) = false := by rfl) :
    PE X (.Call (.Attribute (.Name x p1) "__init__" p2) (e :: es) [] pos) (tVeI X.K ta) := by
  refine ⟨fun pins s σ H Q I h => ?_⟩
  refine PySem.W.methodCall_KW (ld_glob I hg hm ?_ hdb) hc
  refine PySem.W.method_cls I.kIn r.ga (PySem.W.cls_value I.kIn r.rd r.at_ (by decide +kernel) ?_)
  show wpAny _ _ (callWith pos (Value.builtin "ValueError.__init__") [] (backTo pos (starEach (e :: es) X.env)) []) _ _ _
  refine PyProof.Rows.callWith_method1 (thn (ha.run pos pins _ σ H _ (I.tok _) h) fun us s1 ⟨vs, H1, I1, r1, a, C, ws, ev, hl, T, ea, q⟩ => ?_) he hpl
  subst ev
  cases r1 with
  | @cons _ u0 _ ur ra rw' =>
    obtain rfl : u0 = Value.ref a := ra
    have hlen : ur.length ≤ sizeLine := by rw [← Paired.length rw']; exact len_le hl
    exact oinit_ok T I1 ea hlen fun s' J => ⟨.non, H1, J, rfl, q⟩
end
/-! isinstance of a caught own error, with or without a dict of its own -/
structure IsX (K : PySem.W.Frag) (D : Addr) : Prop where
  ga : PySem.W.findIn K (.ref D) "__getattribute__" = some (some (.builtin "BaseException.__getattribute__"))
  gg : PySem.W.findIn K (.ref D) "__getattr__" = some none
  sub : PySem.W.subIn K (.ref D) (.type "BaseException") = some true
  dct : PySem.W.hasDictIn K D = true
  cl : PySem.W.findIn K (.ref D) "__class__" = some (some (.builtin "object.__class__"))
  gt : PySem.W.specialIn K (.builtin "object.__class__") "__get__" = some (some (.builtin "getset_descriptor.__get__"))
  tk : PySem.W.takesIn K (.builtin "object.__class__") = some true
  mro : PySem.W.mroIn K D (.type "object") = some true
def isxB (x : Str) : FB := fun K => decide (PySem.W.findIn K (.ref (He.ga K x)) "__getattribute__" = some (some (.builtin "BaseException.__getattribute__"))) && (decide (PySem.W.findIn K (.ref (He.ga K x)) "__getattr__" = some none) &&
  (decide (PySem.W.subIn K (.ref (He.ga K x)) (.type "BaseException") = some true) && (PySem.W.hasDictIn K (He.ga K x) && (decide (PySem.W.findIn K (.ref (He.ga K x)) "__class__" = some (some (.builtin "object.__class__"))) &&
  (decide (PySem.W.specialIn K (.builtin "object.__class__") "__get__" = some (some (.builtin "getset_descriptor.__get__"))) && (decide (PySem.W.takesIn K (.builtin "object.__class__") = some true) && decide (PySem.W.mroIn K (He.ga K x) (.type "object") = some true)))))))
theorem isx_of {K : PySem.W.Frag} {x : Str} (h : isxB x K = true) : IsX K (He.ga K x) := by
  unfold isxB at h
  simp only [Bool.and_eq_true, decide_eq_true_eq] at h
  obtain ⟨h1, h2, h3, h4, h5, h6, h7, h8⟩ := h
  exact ⟨h1, h2, h3, h4, h5, h6, h7, h8⟩
end R
namespace PySem.W
open PySem PySem.Spec PySem.Calls PyProof.Rows
section
variable {prog : Program} {w : World} {A : Around} {E : Value → Shared → Prop} {s : Shared} {K : Frag} {x D : Addr} {ox : Obj} {od : Option Obj}
theorem r_findcls (T : R.IsX K D) : findObj K D od "__class__" = some (.bind (.builtin "getset_descriptor.__get__") (.builtin "object.__class__")) := by
  obtain ⟨cd, e1, _⟩ := any_some T.dct
  unfold findObj
  simp [e1, T.cl, T.gt, T.tk]
theorem r_readcls {Q : Option Value → Shared → Prop} (T : R.IsX K D) (X : K.In s.heap) (I : InstAt s.heap x ox D od) (h : Q (some (.ref D)) { s with toks := s.toks + 1 }) : wpAny (model prog w) A (getAttr? (.ref x) "__class__") Q E s := by
  obtain ⟨hp, gn, dr, tk, os⟩ := s
  have l0 := I.type (M := model prog w)
  have l1 := looks_findIn (M := model prog w) X T.ga
  have l2 := looks_findIn (M := model prog w) X T.gg
  have l3 := looks_find (M := model prog w) X I (r_findcls (od := od) T)
  have lsub : Looks (model prog w) hp (isInstance (.ref x) (.type "BaseException")) true := l0.andThen (looks_subIn X T.sub)
  have n1 : (Value.builtin "BaseException.__getattribute__" == Value.builtin "object.__getattribute__") = false := by decide +kernel
  have n2 : (onTheHeap (Value.ref D) && Value.builtin "BaseException.__getattribute__" == Value.builtin "object.__getattribute__") = false := by rw [n1]; rfl
  have n3 : (false && onTheHeap (Value.builtin "BaseException.__getattribute__")) = false := rfl
  unfold getAttr? getAttrBy? getAttrBy
  refine wpAny_bind (wpAny_mkText (wpAny_bind (wpAny_attempt (wpAny_holding (wpAny_bind (l0.at (wpAny_bind (l1.at ?_))))))))
  show wpAny _ _ (if (onTheHeap (Value.ref D) && Value.builtin "BaseException.__getattribute__" == Value.builtin "object.__getattribute__") = true then _ else _) _ _ _
  rw [n2, if_neg Bool.false_ne_true]
  unfold getAttrByItsOwn hookBefore
  refine wpAny_bind ?_
  rw [if_pos (show onTheHeap (Value.ref D) = true from rfl)]
  refine l2.at ?_
  refine wpAny_bind (wpAny_attempt (wpAny_holding ?_))
  unfold callGetattribute
  rw [n3, if_neg Bool.false_ne_true]
  unfold boundAndCalled
  rw [PySem.F.excAttr_ValueError.ga.bind (.ref x)]
  refine wpAny_bind (wpAny_pure ?_)
  show wpAny _ _ (call (.builtin "BaseException.__getattribute__") [.ref x, .str "__class__" tk]) _ _ _
  refine wpAny_call (codeAny_call_builtin PySem.F.excAttr_ValueError.ga.plain PySem.F.entry_bexc_ga ?_)
  refine @check_slot (model prog w) _ _ ⟨hp, gn, dr, tk + 1, os⟩ "BaseException.__getattribute__" "BaseException" "__getattribute__" (.ref x) [.str "__class__" tk] [] _ (by decide +kernel) (by decide +kernel) lsub (PySem.F.args_bexc_ga (.ref x) (.str "__class__" tk)) ?_
  unfold Builtin.«object.__getattribute__»
  refine wpAny_bind (wpAny_of_eq (a := ((Value.ref x : Value), [Value.str "__class__" tk])) (by first | rfl | (simp only [slotArgs]; rfl)) ?_)
  refine wpAny_bind (wpAny_pure (wpAny_bind (l0.at (wpAny_bind (l3.at ?_)))))
  show wpAny _ _ (holding [Value.builtin "object.__class__"] (call (.builtin "getset_descriptor.__get__") [.builtin "object.__class__", .ref x, .ref D]) >>= ret) _ _ _
  refine wpAny_bind (wpAny_holding (wpAny_call (class_get (s := ⟨hp, gn, dr, tk + 1, os⟩) (ox := ox) (od := od) X I T.mro ?_)))
  refine wpAny_pure ?_
  show wpAny _ _ (handedOut (.ref D)) _ _ _
  rw [handedOut_of (v := .ref D) rfl]
  first
    | exact wpAny_pure (wpAny_pure h)
    | exact wpAny_pure h
    | exact wpAny_pure (wpAny_bind (wpAny_pure (wpAny_pure h)))
theorem r_kit (T : R.IsX K D) : KitX K (.ref x) (.ref D) (fun hp => InstAt hp x ox D od) where
  ty := fun _ _ _ I => I.type
  it := fun _ _ X _ => by
    obtain ⟨cd, e1, _⟩ := any_some T.dct
    unfold clsIn at e1
    split at e1
    · rename_i _ _ _ _ at_
      intro A' Q' E' s' k q
      unfold isType loadHead
      exact wpAny_bind (wpAny_loadPart (k _ _ (X _ _ at_)) (wpAny_pure q))
    · cases e1
  ne := fun hp tp dd its n sl X at_tp => by
    obtain ⟨cd, e1, _⟩ := any_some T.dct
    refine Bool.eq_false_iff.mpr fun q => ?_
    obtain rfl : D = tp := Value.ref.inj (beq_iff_eq.mp q)
    unfold clsIn at e1
    split at e1
    · rename_i _ _ _ _ at_
      exact nomatch (X _ _ at_).symm.trans at_tp
    · cases e1
  ca := fun X I k => r_readcls T X I k
end
end PySem.W
namespace R
open PySem PySem.Spec PyProof.Rows L2
theorem callIsX {X : Cx} {a D : Addr} {oe : Obj} {d : Option Addr} {pn : List (Addr × Obj)} (T : IsX X.K D) (hz : Zc (.ref D) d oe) (hf : ∃ vs, oe.data = .fields vs) :
    CallR (X.suite a ((a, oe) :: pn)) (.builtin "isinstance") (fun xs H Q => ∃ fs, (∀ dd, d = some dd → H dd = some (.xd fs)) ∧ rIsE X.K D a xs H Q) := by
  intro pins s σ H xs us Q I r h
  obtain ⟨fs, hdd, c, cv, b, rfl, hcv, e, q⟩ := h
  cases r with
  | cons rx rr =>
    cases rr with
    | cons rt rr =>
      cases rr
      cases rx
      have ec := hcv _ rt
      subst ec
      obtain ⟨hget, _⟩ := I.pin (a, oe) (List.mem_append.mpr (.inl List.mem_cons_self))
      obtain ⟨vs, hv⟩ := hf
      have J : ∃ od, PySem.W.InstAt s.heap a oe D od := by
        obtain ⟨oc, dd, oda, osl⟩ := oe
        obtain ⟨h1, h2⟩ := hz
        dsimp only at h1 h2 hv
        subst h1 h2 hv
        cases dd with
        | none => exact ⟨none, hget, rfl, rfl, trivial⟩
        | some dx =>
          obtain ⟨mA, hns, _⟩ : ObjOk X.prog X.w H s.heap dx (.xd fs) := I.hok dx _ (hdd dx rfl)
          obtain ⟨o, _, _, ho, _⟩ := hns
          exact ⟨some o, hget, rfl, rfl, ho⟩
      obtain ⟨od, J⟩ := J
      exact PySem.W.kia_one (PySem.W.r_kit T) I.kIn J e (fun z => nomatch z) fun tk => ⟨.bl b, H, I.kept (t' := tk) fun _ _ z => z, rfl, q⟩
/-- isinstance(e, C), e the error that the suite holds: what is asked -/
def rIsXd (K : PySem.W.Frag) (D a : Addr) (d : Option Addr) : List V → Hp → VK → Prop := fun xs H Q => ∃ fs, (∀ dd, d = some dd → H dd = some (.xd fs)) ∧ rIsE K D a xs H Q
/-- what such a class is, its __init__ at fI, its field f -/
structure XIn (K : PySem.W.Frag) (C fI : Addr) (f : Str) : Prop where
  oex : OexC K C
  iC : PySem.W.findIn K (.ref C) "__init__" = some (some (.ref fI))
  tI : PySem.W.typeIn K (.ref fI) = some (.type "function")
  noF : PySem.W.findIn K (.ref C) f = some none
  xf : XfC K C
def xinB (x f : Str) : FB := fun K => oexB (He.ga K x) K && (decide (PySem.W.findIn K (.ref (He.ga K x)) "__init__" = some (some (.ref (He.ma K (He.ga K x) "__init__")))) && (decide (PySem.W.typeIn K (.ref (He.ma K (He.ga K x) "__init__")) = some (.type "function")) &&
  (decide (PySem.W.findIn K (.ref (He.ga K x)) f = some none) && xfB K (He.ga K x))))
theorem xin_of {K : PySem.W.Frag} {x f : Str} (h : xinB x f K = true) : XIn K (He.ga K x) (He.ma K (He.ga K x) "__init__") f := by
  unfold xinB at h
  simp only [Bool.and_eq_true, decide_eq_true_eq] at h
  obtain ⟨h1, h2, h3, h4, h5⟩ := h
  exact ⟨oex_of h1, h2, h3, h4, xfB_ok h5⟩
/-- __init__(self, v) of a class at C: the field is kept -/
def sp_init (K : PySem.W.Frag) (C : Addr) (f : Str) : Sp := fun vs H Q _ => ∃ (a : Addr) (v : V), vs = [.ref a, v] ∧ OexC K C ∧ PySem.W.findIn K (.ref C) f = some none ∧ H a = some (exo a C none) ∧
  ∀ dx, H dx = none → dx ≠ a → Q .non (upd (upd H dx (exd dx [(f, v)])) a (exo a C (some dx)))
theorem rd_init {K : PySem.W.Frag} {C : Addr} {f m : Str} {vs : List V} {H : Hp} {Q : VK} {E : XK} (h : sp_init K C f vs H Q E) :
    tSeq (tDrop (tVeI K (tCons (tVar 0) (tCons (tC (.str m)) tNil)))) (tOst K f (tVar 0) (tVar 1)) { nx := fun _ H' => Q .non H', rt := Q } (L2.start ["self", f] vs) H := by
  obtain ⟨a, v, rfl, T, hn, ha, k⟩ := h
  exact ⟨_, rfl, a, C, [.str m], rfl, by simp, T, ha, _, rfl, _, rfl, a, C, rfl, T, hn, .inl ⟨ha, fun dx h1 h2 => k dx h1 h2⟩⟩
section
variable {ta : TA} {σ : L2.St} {H : Hp} {QX : XK}
def RzP (C : Addr) (sp : Sp) (QX : XK) (vs : List V) (H1 : Hp) : Prop := vs.length ≤ 1000 ∧ ∀ a, H1 a = none → sp (.ref a :: (vs ++ [])) (upd H1 a (exo a C none))
  (fun v H2 => v = .non ∧ ∃ (d : Addr) (fs : List (Str × V)), H2 a = some (exo a C (some d)) ∧ H2 d = some (exd d fs) ∧ H1 d = none ∧ QX (.ref C) (some d) (upd (del H2 a) d (.xd fs))) (fun _ _ _ => False)
theorem s_mko {C : Addr} {sp : Sp} (h : ta σ H fun vs H1 => RzP C sp QX vs H1) : tMkO C sp [] ta σ H QX := h
theorem s_raise {K : PySem.W.Frag} {C : Addr} {f : Str} {v : V} (T : OexC K C) (hn : PySem.W.findIn K (.ref C) f = some none) (k : ∀ d H', H d = none → H' d = some (.xd [(f, v)]) → Same H H' → QX (.ref C) (some d) H') : RzP C (sp_init K C f) QX [v] H := by
  refine ⟨by simp, fun a ha => ⟨a, v, rfl, T, hn, upd_same, fun dx hdx hne => ⟨rfl, dx, [(f, v)], upd_same, ?_, ?_, ?_⟩⟩⟩
  · rw [upd_ne hne, upd_same]
  · rw [upd_ne hne] at hdx; exact hdx
  · rw [upd_ne hne] at hdx
    refine k dx _ hdx upd_same fun b o e => ?_
    have n1 : b ≠ dx := ne_of_none e hdx
    have n2 : b ≠ a := ne_of_none e ha
    rw [upd_ne n1, del_ne n2, upd_ne n2, upd_ne n1, upd_ne n2]
    exact e
end
/-! own exceptions without fields; isinstance of a caught error of any own class -/
section
variable {X : Cx} {C : Addr} {bmB : List Value} {B newId initId : String}
/-- X() -/
theorem pmk_own0 {x : Str} {p pos : Pos} (F : ExcBaseFacts B newId initId bmB) (q : PySem.W.excIn X.K C bmB newId = true) (gC : X.mg x = some (.ref C)) (kC : PySem.W.keepIn X.K (.ref C) = true) (r : Raises X (.ref C)) (hg : Gl X x)
    (hdb : (x == ("__debug__" : Str)) = false := by decide) : PMk X (.Call (.Name x p) [] [] pos) (fun _ H Q => Q (.ref C) none H) := by
  intro pins s σ H Q I h
  refine wpAny_Call_Name_kw (ld_glob I hg gC ?_ hdb)
  refine PySem.W.callWith_K0 I.kIn kC ?_
  obtain ⟨bm, N, nm, qn, bs, hdct, sn, sub, ab, col, dd, k0, k1, k2, k3, k5, mN, hC, hN, hni, T⟩ := exc_obj I.kIn q
  refine wpAny_call_exc_subT F T hC hN hni (fun h' e hm => ?_) (Nat.zero_le _)
  exact mk_of I hm r h (I.hok.gone hm.new)
end
def tRz (C : Addr) : L2.St → Hp → XK → Prop := fun _ H Q => Q (.ref C) none H
theorem s_rz {C : Addr} {σ : L2.St} {H : Hp} {Q : XK} (h : Q (.ref C) none H) : tRz C σ H Q := h
/-- a class without fields, raised -/
structure Exc0 (K : PySem.W.Frag) (C : Addr) : Prop where
  ex : PySem.W.excIn K C He.veBase "ValueError.__new__" = true
  kp : PySem.W.keepIn K (.ref C) = true
  sb : PySem.W.subIn K (.ref C) (.type "BaseException") = some true
  ty : PySem.W.typeIn K (.ref C) = some (.type "type")
theorem exc0_of {K : PySem.W.Frag} {x : Str} (c : (He.Fa.exc x).ok K = true) : Exc0 K (He.ga K x) := by
  obtain ⟨h1, h2, h3, h4⟩ := He.exc_ok c
  exact ⟨h1, h2, h3, h4⟩
theorem pmk_z {X : Cx} {C : Addr} {x : Str} {p pos : Pos} (F : Exc0 X.K C) (gC : X.mg x = some (.ref C)) (hg : Gl X x) (hdb : (x == ("__debug__" : Str)) = false := by decide) : PMk X (.Call (.Name x p) [] [] pos) (tRz C) :=
  pmk_own0 PySem.F.excBase_ValueError F.ex gC F.kp (raises_own F.sb F.ty) hg hdb
theorem pmk_zs {X : Cx} {C : Addr} {x m : Str} {j : Nat} {p p2 pos : Pos} (F : Exc0 X.K C) (gC : X.mg x = some (.ref C)) (hg : Gl X x) (hdb : (x == ("__debug__" : Str)) = false := by decide) : PMk X (.Call (.Name x p) [.Constant (.str m) j p2] [] pos) (tRz C) :=
  L2.pmk_own PySem.F.excBase_ValueError F.ex gC F.kp (raises_own F.sb F.ty) hg hdb
def kitcB (x y : Str) (b : Bool) : FB := fun K => decide (PySem.W.kitOne K (.ref (He.ga K x)) (.ref (He.ga K y)) = some b)
def kittB (x : Str) (y : String) (b : Bool) : FB := fun K => decide (PySem.W.kitOne K (.ref (He.ga K x)) (.type y) = some b)
theorem kitc_of {K : PySem.W.Frag} {x y : Str} {b : Bool} (h : kitcB x y b K = true) : PySem.W.kitOne K (.ref (He.ga K x)) (.ref (He.ga K y)) = some b := of_decide_eq_true h
theorem kitt_of {K : PySem.W.Frag} {x : Str} {y : String} {b : Bool} (h : kittB x y b K = true) : PySem.W.kitOne K (.ref (He.ga K x)) (.type y) = some b := of_decide_eq_true h
/-- isinstance(e, c) in an except suite, the class of e told in the reading -/
def rIsA (K : PySem.W.Frag) (cls : Value) (d : Option Addr) (a : Addr) : List V → Hp → VK → Prop := fun xs H Q => ∃ D, cls = .ref D ∧ IsX K D ∧ ∃ fs, (∀ dd, d = some dd → H dd = some (.xd fs)) ∧
  ∃ (c : V) (cv : Value) (b : Bool), xs = [.ref a, c] ∧ ClsV c cv ∧ PySem.W.kitOne K (.ref D) cv = some b ∧ Q (.bl b) H
def rIsAT (K : PySem.W.Frag) (cls : Value) (d : Option Addr) (a : Addr) : List V → Hp → VK → Prop := fun xs H Q => ∃ D, cls = .ref D ∧ IsX K D ∧ ∃ fs, (∀ dd, d = some dd → H dd = some (.xd fs)) ∧
  ∃ (tp : Addr) (cs : List V) (us : List Value) (b : Bool), xs = [.ref a, .ref tp] ∧ H tp = some (.tup cs) ∧ Paired ClsV cs us ∧ PySem.W.kitAny K (.ref D) us = some b ∧ Q (.bl b) H
section
variable {X : Cx} {a : Addr} {cls : Value} {oe : Obj} {d : Option Addr} {pn : List (Addr × Obj)}
theorem inst_of {D : Addr} {pins : List (Addr × Obj)} {σ : L2.St} {H : Hp} {s : Shared} {fs : List (Str × V)} (I : Inv (X.suite a ((a, oe) :: pn)) pins σ H s) (hz : Zc (.ref D) d oe) (hf : ∃ vs, oe.data = .fields vs) (hdd : ∀ dd, d = some dd → H dd = some (.xd fs)) : ∃ od, PySem.W.InstAt s.heap a oe D od := by
  obtain ⟨hget, _⟩ := I.pin (a, oe) (List.mem_append.mpr (.inl List.mem_cons_self))
  obtain ⟨vs, hv⟩ := hf
  obtain ⟨oc, dd, oda, osl⟩ := oe
  obtain ⟨h1, h2⟩ := hz
  dsimp only at h1 h2 hv
  subst h1 h2 hv
  cases dd with
  | none => exact ⟨none, hget, rfl, rfl, trivial⟩
  | some dx =>
    obtain ⟨mA, hns, _⟩ : ObjOk X.prog X.w H s.heap dx (.xd fs) := I.hok dx _ (hdd dx rfl)
    obtain ⟨o, _, _, ho, _⟩ := hns
    exact ⟨some o, hget, rfl, rfl, ho⟩
theorem callIsA (hz : Zc cls d oe) (hf : ∃ vs, oe.data = .fields vs) : CallR (X.suite a ((a, oe) :: pn)) (.builtin "isinstance") (rIsA X.K cls d a) := by
  intro pins s σ H xs us Q I r h
  obtain ⟨D, rfl, T, fs, hdd, c, cv, b, rfl, hcv, e, q⟩ := h
  obtain ⟨u1, u2, rfl, r1, r2⟩ := vals2 r
  cases (show u1 = Value.ref a from r1)
  have ec := hcv.eq r2
  subst ec
  obtain ⟨od, J⟩ := inst_of I hz hf hdd
  exact PySem.W.kia_one (PySem.W.r_kit T) I.kIn J e (fun z => nomatch z) fun tk => ⟨.bl b, H, I.kept (t' := tk) fun _ _ z => z, rfl, q⟩
theorem callIsAT (hz : Zc cls d oe) (hf : ∃ vs, oe.data = .fields vs) : CallR (X.suite a ((a, oe) :: pn)) (.builtin "isinstance") (rIsAT X.K cls d a) := by
  intro pins s σ H xs us Q I r h
  obtain ⟨D, rfl, T, fs, hdd, tp, cs, ws, b, rfl, hT, k, e, q⟩ := h
  obtain ⟨u1, u2, rfl, r1, r2⟩ := vals2 r
  cases (show u1 = Value.ref a from r1)
  cases (show u2 = Value.ref tp from r2)
  obtain ⟨od, J⟩ := inst_of I hz hf hdd
  obtain ⟨_, its, rv, o, h1, h2, n, h3⟩ := (show ObjOk X.prog X.w H s.heap tp (.tup cs) from I.hok tp _ hT)
  have e3 := ClsV.all k rv
  subst e3
  obtain ⟨oc, od', dt, sl⟩ := o
  simp only at h2 h3
  subst h2 h3
  exact PySem.W.kia_tup (PySem.W.r_kit T) I.kIn J h1 e (fun z => nomatch z) fun tk => ⟨.bl b, H, I.kept (t' := tk) fun _ _ z => z, rfl, q⟩
end
section
variable {K : PySem.W.Frag} {a D : Addr} {d : Option Addr} {H : Hp} {Q : VK} {fs : List (Str × V)} {b b1 b2 : Bool}
theorem s_isA {c : V} {cv : Value} (T : IsX K D) (hd : ∀ dd, d = some dd → H dd = some (.xd fs)) (hc : ClsV c cv) (e : PySem.W.kitOne K (.ref D) cv = some b) (h : Q (.bl b) H) : rIsA K (.ref D) d a [.ref a, c] H Q := ⟨D, rfl, T, fs, hd, c, cv, b, rfl, hc, e, h⟩
theorem s_isA0 {c : V} {cv : Value} (T : IsX K D) (hc : ClsV c cv) (e : PySem.W.kitOne K (.ref D) cv = some b) (h : Q (.bl b) H) : rIsA K (.ref D) none a [.ref a, c] H Q := s_isA (fs := []) T (fun _ z => nomatch z) hc e h
theorem s_isAT2 {tp : Addr} {c1 c2 : V} {v1 v2 : Value} (T : IsX K D) (hd : ∀ dd, d = some dd → H dd = some (.xd fs)) (ht : H tp = some (.tup [c1, c2])) (h1 : ClsV c1 v1) (h2 : ClsV c2 v2) (e1 : PySem.W.kitOne K (.ref D) v1 = some b1) (e2 : PySem.W.kitOne K (.ref D) v2 = some b2)
    (h : Q (.bl (b1 || b2)) H) : rIsAT K (.ref D) d a [.ref a, .ref tp] H Q :=
  ⟨D, rfl, T, fs, hd, tp, _, [v1, v2], b1 || b2, rfl, ht, .cons h1 (.cons h2 .nil), kitAny_cons e1 (fun q => kitAny_cons e2 (fun q2 => by rw [q, q2]; exact kitAny_nil) (fun q2 => by rw [q2]; simp)) (fun q => by rw [q]; rfl), h⟩
theorem s_isAT20 {tp : Addr} {c1 c2 : V} {v1 v2 : Value} (T : IsX K D) (ht : H tp = some (.tup [c1, c2])) (h1 : ClsV c1 v1) (h2 : ClsV c2 v2) (e1 : PySem.W.kitOne K (.ref D) v1 = some b1) (e2 : PySem.W.kitOne K (.ref D) v2 = some b2)
    (h : Q (.bl (b1 || b2)) H) : rIsAT K (.ref D) none a [.ref a, .ref tp] H Q := s_isAT2 (fs := []) T (fun _ z => nomatch z) ht h1 h2 e1 e2 h
end
/-! zip of two tuples, walked -/
theorem walk_zipT {K : PySem.W.Frag} {a b : Addr} {xs ys : List V} {n : Nat} (hn : n = min xs.length ys.length) : Walk (RZ.ItzT K a b) n (fun H => SqT K H a xs ∧ SqT K H b ys) (YPair (fun i => xs[i]?) (fun i => ys[i]?)) := by
  subst hn
  refine ⟨fun i _ hi q => ?_, fun _ q => ⟨xs, ys, q.1, q.2, by omega⟩, fun i H v H' _ q y => ?_⟩
  · have h1 : i < xs.length := by omega
    have h2 : i < ys.length := by omega
    exact ⟨xs, ys, xs[i], ys[i], q.1, q.2, by simp [h1], by simp [h2]⟩
  · obtain ⟨T, x, z, h1, h2, h3, h4, h5⟩ := y
    exact ⟨T, x, z, h1, h2, h3, h4 xs q.1, h5 ys q.2⟩
def ZipQ (K : PySem.W.Frag) (R : It → Hp → Prop) (vs : List V) (H1 : Hp) : Prop := ∃ a b xs ys, vs = [.ref a, .ref b] ∧ ((SqL K H1 a xs ∧ SqL K H1 b ys ∧ R (Itz K a b) H1) ∨ (SqT K H1 a xs ∧ SqT K H1 b ys ∧ R (RZ.ItzT K a b) H1))
theorem s_izip {K : PySem.W.Frag} {ta : TA} {σ : L2.St} {H : Hp} {R : It → Hp → Prop} (h : ta σ H fun vs H1 => ZipQ K R vs H1) : RZ.iZipA K ta σ H R := h
theorem s_gunl {K : PySem.W.Frag} {n : Nat} {t : TGs} {p : Addr} {xs : List V} {σ : L2.St} {H : Hp} {QS : L2.St → Hp → Prop} (h1 : SqL K H p xs) (h2 : xs.length = n) (h : t xs σ H QS) : L2.gUnl K n t (.ref p) σ H QS := ⟨p, xs, rfl, h1, h2, h⟩
/-! dicts with tuple keys: pop of a key that is there; fields; makings -/
def rPop1T : V → List V → Hp → VK → Prop := fun x xs H Q => ∃ (a : Addr) (kvs : List (List L2.Key × V)) (k : List L2.Key) (b : Addr) (v : V), x = .ref a ∧ xs = [.ref b] ∧ H a = some (.dT kvs) ∧ H b = some (.tup (k.map kV)) ∧ valV kvs k = some v ∧ Q v (upd H a (.dT (dropK kvs k)))
theorem mt_pop1T {X : Cx} (hu : X.A.units + 1 < cLine) : MtR X "dict.pop" rPop1T := by
  intro pins s σ H x xs v us Q I rx rxs h
  obtain ⟨a, kvs, k, b, v0, rfl, rfl, ha, hb, ev, q⟩ := h
  cases rx
  obtain ⟨u1, rfl, r1⟩ := vals1 rxs
  cases r1
  obtain ⟨z, hd, xs', rel, dd⟩ := dt_of I.hok ha
  have hz : xs'.length ≤ sizeLine := by rw [← Paired.length rel]; exact z
  have r := rel.val k
  rw [ev] at r
  obtain ⟨p, hp, rv⟩ : ∃ p, atKey xs' k = some p ∧ RelV v0 p.2 := by
    cases e : atKey xs' k with
    | none => rw [e] at r; exact r.elim
    | some p => rw [e] at r; exact ⟨p, rfl, r⟩
  refine call_pop_heap (knd := tupleKind (mixKind X.prog X.w)) (k := k) (more := []) (.inl rfl) (PySem.F.args_dict_pop_2 _ _) (tupleKind_room_in1 hu) (key_of I.hok hb) hd dd hp (fun h' dd' hs => ?_) hz
  obtain ⟨o, es, ep, hq, h2, h3, h4, _, h5⟩ := dd'
  have rel' : KT (upd H a (.dT (dropK kvs k))) (dropK kvs k) (withoutH xs' k) := (L2.DX.KT_drop k rel).keeps fun c ys ec => by rw [upd_ne (ne_of ec ha fun z => nomatch z)]; exact ec
  have I2 := d_write (t' := s.toks + (tupleKind (mixKind X.prog X.w)).draws k) (ob := .dT (dropK kvs k)) I (by rw [ha]; exact True.intro) hs ⟨o, hq⟩ (show ObjOk X.prog X.w (upd H a (.dT (dropK kvs k))) h' a (.dT (dropK kvs k)) from ⟨Nat.le_trans (dropK_le kvs k) z, hd, _, rel', o, es, ep, hq, h2, h3, h4, h5⟩)
  exact ⟨v0, _, I2, rv, q⟩
section
variable {K : PySem.W.Frag} {te tv : TE} {ta : TA} {f m : Str} {σ : L2.St} {H : Hp} {Q : VK} {D : Ends} {a C dx : Addr} {fs : List (Str × V)} {v y : V} {sp : Sp} {E : XK}
def FldQ (K : PySem.W.Frag) (f : Str) (Q : VK) (x : V) (H1 : Hp) : Prop := ∃ a C dx fs v, x = .ref a ∧ H1 a = some (.ins C dx fs) ∧ Cls K C ∧ NoAttr K C f ∧ fs.lookup f = some v ∧ Q v H1
theorem s_fld (h : te σ H fun x H1 => FldQ K f Q x H1) : tFld K te f σ H Q := h
theorem mkFld (ha : H a = some (.ins C dx fs)) (c : Cls K C) (n : NoAttr K C f) (l : fs.lookup f = some v) (h : Q v H) : FldQ K f Q (.ref a) H := ⟨a, C, dx, fs, v, rfl, ha, c, n, l, h⟩
def SFldQ (K : PySem.W.Frag) (f : Str) (P : Hp → Prop) (y x : V) (H2 : Hp) : Prop := ∃ a C dx fs, x = .ref a ∧ H2 a = some (.ins C dx fs) ∧ Cls K C ∧ NoAttr K C f ∧ fs.length < 1000 ∧ P (upd H2 a (.ins C dx (putF f y fs)))
theorem s_sfld (h : tv σ H fun y H1 => te σ H1 fun x H2 => SFldQ K f (D.nx σ) y x H2) : sFld K te tv f D σ H := h
theorem mkSFld {P : Hp → Prop} (ha : H a = some (.ins C dx fs)) (c : Cls K C) (n : NoAttr K C f) (l : fs.length < 1000) (h : P (upd H a (.ins C dx (putF f y fs)))) : SFldQ K f P y (.ref a) H := ⟨a, C, dx, fs, rfl, ha, c, n, l, h⟩
def MethQ (C : Addr) (m : Str) (sp : Sp) (E : XK) (ta : TA) (σ : L2.St) (Q : VK) (x : V) (H1 : Hp) : Prop := ∃ a dx fs, x = .ref a ∧ H1 a = some (.ins C dx fs) ∧ fs.lookup m = none ∧ ta σ H1 fun vs H2 => sp (x :: (vs ++ [])) H2 Q E
theorem s_meth (h : te σ H fun x H1 => MethQ C m sp E ta σ Q x H1) : tMeth C m sp [] E te ta σ H Q := h
theorem mkMeth (ha : H a = some (.ins C dx fs)) (l : fs.lookup m = none) (h : ta σ H fun vs H2 => sp (.ref a :: (vs ++ [])) H2 Q E) : MethQ C m sp E ta σ Q (.ref a) H := ⟨a, dx, fs, rfl, ha, l, h⟩
def MakeQ (C : Addr) (sp : Sp) (E : XK) (Q : VK) (vs : List V) (H1 : Hp) : Prop := ∀ x dx, H1 x = none → H1 dx = none → dx ≠ x → sp (.ref x :: (vs ++ [])) (upd (upd H1 dx (.own x)) x (.ins C dx [])) (fun v H2 => v = .non ∧ Q (.ref x) H2) E
theorem s_make (h : ta σ H fun vs H1 => MakeQ C sp E Q vs H1) : tMake C sp [] E ta σ H Q := h
theorem s_dnewT (h : ∀ p H', H p = none → H' p = some (.dT []) → Same H H' → Q (.ref p) H') : tDNewT σ H Q := fun p hp => h p _ hp upd_same (same_upd hp)
theorem s_lenD {kvs : List (L2.Key × V)} (hd : H a = some (.dK kvs)) (h : Q (.int kvs.length) H) : ∃ a' kvs', [V.ref a] = [V.ref a'] ∧ H a' = some (.dK kvs') ∧ Q (.int kvs'.length) H := ⟨a, kvs, rfl, hd, h⟩
def DInQ (Q : VK) (y x : V) (H2 : Hp) : Prop := ∃ a o, x = .ref a ∧ DGet H2 a y o ∧ Q (.bl o.isSome) H2
theorem s_din {ty td : TE} (h : ty σ H fun y H1 => td σ H1 fun x H2 => DInQ Q y x H2) : tDIn ty td σ H Q := h
def DNotInQ (Q : VK) (y x : V) (H2 : Hp) : Prop := ∃ a o, x = .ref a ∧ DGet H2 a y o ∧ Q (.bl (!o.isSome)) H2
theorem s_dnotin {ty td : TE} (h : ty σ H fun y H1 => td σ H1 fun x H2 => DNotInQ Q y x H2) : tDNotIn ty td σ H Q := h
end
end R
/-! the walk of a reading, as far as nothing is asked -/
local macro_rules | `(tactic| walk_at "g1") => `(tactic| first
  | with_reducible refine R.s_seq ?_
  | with_reducible refine R.s_asg ?_
  | ((with_reducible apply R.s_var); focus rfl)
  | with_reducible refine R.s_gname ?_
  | with_reducible refine R.s_op ?_
  | with_reducible refine R.s_c ?_
  | with_reducible refine R.s_cons ?_
  | with_reducible refine R.s_nil ?_
  | with_reducible refine R.s_i0 ?_
  | with_reducible refine R.s_p10_60 ?_
  | with_reducible refine R.s_p10_18 ?_
  | with_reducible refine R.s_p10_8 ?_
  | with_reducible refine R.s_p10_9 ?_
  | with_reducible refine R.s_p10_59 ?_
  | with_reducible refine R.s_p10_6 ?_
  | with_reducible refine R.s_p10_5 ?_
  | with_reducible refine R.s_p10_4 ?_
  | with_reducible refine R.s_p10_12 ?_
  | with_reducible refine R.s_p10_29 ?_
  | with_reducible refine R.s_p10_30 ?_
  | with_reducible refine R.s_p10_39 ?_
  | with_reducible refine R.s_p10_40 ?_
  | with_reducible refine R.s_p10_49 ?_
  | with_reducible refine R.s_p10_50 ?_
  | with_reducible refine R.s_p10_51 ?_
  | with_reducible refine R.s_p10_58 ?_
  | ((with_reducible refine R.s_pow7 ?_ ?_); focus omega)
  | ((with_reducible refine R.s_i ?_ ?_); focus (first | decide | exact R.mulW (by omega) (by omega) | exact R.divW (by decide) (by decide)))
  | with_reducible refine R.s_test ?_
  | with_reducible refine R.s_bl ?_
  | with_reducible refine R.s_ret ?_
  | with_reducible refine R.s_next ?_
  | with_reducible refine R.s_drop ?_
  | with_reducible refine R.s_un ?_
  | with_reducible refine R.s_u ?_
  | with_reducible refine R.s_tB ?_
  | with_reducible refine R.s_andc ?_
  | with_reducible refine R.s_orc ?_
  | with_reducible refine R.s_notc ?_
  | with_reducible refine R.s_andv ?_
  | with_reducible refine R.s_orv ?_
  | with_reducible refine R.s_notv ?_
  | with_reducible refine R.s_ifx ?_
  | with_reducible refine R.s_eqI ?_
  | with_reducible refine R.s_neI ?_
  | with_reducible refine R.s_eqB ?_
  | with_reducible refine R.s_eqS ?_
  | with_reducible refine R.s_neS ?_
  | with_reducible refine R.s_neB ?_
  | with_reducible refine R.s_tup ?_
  | with_reducible refine R.s_lst ?_
  | with_reducible refine R.s_par ?_
  | with_reducible refine R.s_par_ ?_
  | with_reducible refine R.s_par3 ?_
  | with_reducible refine R.s_par3_ ?_
  | with_reducible refine R.s_cb ?_
  | with_reducible refine R.s_call ?_
  | with_reducible refine R.s_turn ?_
  | with_reducible refine R.s_isi_ii ?_
  | with_reducible refine R.s_isi_ib ?_
  | with_reducible refine R.s_bm ?_
  | with_reducible refine R.s_intB ?_
  | with_reducible refine R.s_rng1 ?_
  | with_reducible refine R.s_rng2 ?_
  | with_reducible refine R.s_dget ?_
  | with_reducible refine R.s_gsub ?_
  | with_reducible refine R.s_pc ?_
  | with_reducible refine R.s_pn ?_
  | with_reducible refine R.s_dput ?_
  | with_reducible refine R.s_isN ?_
  | with_reducible refine R.s_isNi ?_
  | with_reducible refine R.s_isNr ?_
  | with_reducible refine R.s_isNb ?_
  | with_reducible refine R.s_bm0 ?_
  | with_reducible refine R.s_lrg2 ?_
  | with_reducible refine R.s_notN ?_
  | with_reducible refine R.s_notNi ?_
  | with_reducible refine R.s_notNr ?_
  | with_reducible refine R.s_chain ?_
  | with_reducible refine R.s_callS ?_
  | with_reducible refine R.s_mko ?_
  | with_reducible refine R.s_rz ?_
  | with_reducible refine R.s_izip ?_
  | with_reducible refine R.s_sl ?_
  | with_reducible refine R.s_nopart ?_
  | with_reducible refine R.s_part ?_
  | with_reducible refine R.s_int_ ?_
  | with_reducible refine R.s_ilist ?_
  | with_reducible refine R.s_itup ?_
  | with_reducible refine R.s_ref_ ?_
  | with_reducible refine R.s_for ?_
  | with_reducible refine R.s_yes ?_
  | with_reducible refine R.s_gcons ?_
  | with_reducible refine R.s_gnil ?_
  | with_reducible refine R.s_abs ?_
  | with_reducible refine R.s_max ?_
  | with_reducible refine R.s_min ?_
  | with_reducible refine R.s_iteT ?_
  | with_reducible refine R.s_iteF ?_
  | with_reducible refine R.s_iteNT ?_
  | with_reducible refine R.s_iteNF ?_
  | ((with_reducible refine R.s_itnP ?_ ?_); focus (with_reducible rfl))
  | ((with_reducible refine R.s_itP ?_ ?_); focus (with_reducible rfl)))
local macro_rules | `(tactic| walk_at "g") => `(tactic| repeat (first | walk_at "g1" | with_reducible refine R.s_if ?_))
local macro_rules | `(tactic| walk_at "h") => `(tactic| repeat (walk_at "g1"))
local macro_rules | `(tactic| walk_at "g2") => `(tactic| first
  | with_reducible refine R.s_fld ?_
  | with_reducible refine R.s_sfld ?_
  | with_reducible refine R.s_meth ?_
  | with_reducible refine R.s_make ?_
  | with_reducible refine R.s_din ?_
  | with_reducible refine R.s_dnotin ?_)
local macro_rules | `(tactic| walk_at "G") => `(tactic| repeat (first | walk_at "g1" | walk_at "g2" | with_reducible refine R.s_if ?_))
local macro_rules | `(tactic| walk_at "J") => `(tactic| repeat (first | walk_at "g1" | walk_at "g2"))

/-! t[::-1] of a tuple -/
namespace RevT
open PySem PySem.Spec PyProof.Rows L2 HT
theorem adj (n : Nat) : Builtin.Slice.sliceAdjust none none (-1) (n : Int) = ((n : Int) - 1, -1) := by
  unfold Builtin.Slice.sliceAdjust; simp
theorem plc (n : Nat) : Builtin.Slice.slicePlaces ((n : Int) - 1) (-1) (-1) = n := by
  unfold Builtin.Slice.slicePlaces
  rw [if_neg (by decide)]
  by_cases c : (n : Int) - 1 > -1
  · rw [if_pos c, show (-(-1) : Int) = 1 by decide, Int.ediv_one]; omega
  · rw [if_neg c]; omega
theorem pickR (xs : Array Value) : ((List.range xs.size).filterMap fun (m : Nat) => xs[(((xs.size : Int) - 1) + (m : Int) * (-1)).toNat]?).toArray = xs.toList.reverse.toArray := by
  have e : (fun (m : Nat) => xs[(((xs.size : Int) - 1) + (m : Int) * (-1)).toNat]?) = (fun k => xs[k]?) ∘ fun (m : Nat) => (((xs.size : Int) - 1) + (m : Int) * (-1)).toNat := rfl
  rw [e, ← List.filterMap_map]
  have e2 : (List.range xs.size).map (fun m : Nat => (((xs.size : Int) - 1) + (m : Int) * (-1)).toNat) = (List.range xs.size).map (fun k => xs.size - 1 - k) := List.map_congr_left fun m hm => by
    have := List.mem_range.mp hm
    omega
  rw [e2, PySem.W.krv_range, List.filterMap_reverse, PySem.W.krv_all]
section
variable {prog : Program} {w : World} {A : Around} {E : Value → Shared → Prop} {s : Shared}
theorem applied {sl : Addr} {u : Tok} {n : Nat} {Q : Int × Int × Nat → Shared → Prop} (hs : s.heap.IsSliceOf sl .none .none (.int (-1) u)) (h : Q ((n : Int) - 1, -1, n) s) : wpAny (model prog w) A (Builtin.Slice.sliceApplied (.ref sl) (pure (n : Int))) Q E s := by
  obtain ⟨o, ho, _, hd⟩ := id hs
  unfold Builtin.Slice.sliceApplied Builtin.Slice.sliceFields
  refine wpAny_bind (wpAny_bind (wpAny_field ho hd (x := .none) rfl (wpAny_bind (wpAny_field ho hd (x := .none) rfl (wpAny_bind (wpAny_field ho hd (x := .int (-1) u) rfl (wpAny_pure ?_)))))))
  refine wpAny_bind (slicePart_int ?_)
  show wpAny _ _ (if ((-1 : Int) == 0) = true then _ else _) _ _ s
  rw [if_neg (by decide)]
  refine wpAny_bind (slicePart_none (wpAny_bind (slicePart_none (wpAny_bind (wpAny_pure ?_)))))
  show wpAny _ _ (match Builtin.Slice.sliceAdjust none none (-1) (n : Int) with | (lo, hi) => pure (lo, (-1 : Int), Builtin.Slice.slicePlaces lo hi (-1))) _ _ s
  rw [adj n]
  show wpAny _ _ (pure (((n : Int) - 1), (-1 : Int), Builtin.Slice.slicePlaces ((n : Int) - 1) (-1) (-1))) _ _ s
  rw [plc]
  exact wpAny_pure h
theorem turned {t sl : Addr} {items : Array Value} {u : Tok} {Q : Value → Shared → Prop} (ht : IsTup s.heap t items) (hs : s.heap.IsSliceOf sl .none .none (.int (-1) u)) (hz : items.size ≤ sizeLine)
    (h : Q (.ref s.heap.objs.size) { s with heap := s.heap.push { cls := .type "tuple", data := .seq items.toList.reverse.toArray } }) : wpAny (model prog w) A (getItem (.ref t) (.ref sl)) Q E s := by
  have ok : sizeOk (.seq items.toList.reverse.toArray) := by show items.toList.reverse.toArray.size ≤ sizeLine; simpa using hz
  obtain ⟨o, ho, hc, _⟩ := id hs
  have hT : s.TypeIs (.ref sl) "slice" := ⟨o, ho, hc⟩
  unfold getItem
  try with_reducible refine wpAny_holding ?_
  first | refine wpAny_bind (wpAny_pure ?_) | skip
  refine wpAny_bind (wpAny_sequenceKey ht.typeIs (by decide) (wpAny_bind (wpAny_callSpecial?_slot (name := Str.ofString "__getitem__") ht.typeIs PyProof.Rows.slot_tuple_getitem (wpAny_call_entry PyProof.Rows.slot_tuple_getitem ht.typeIs entry_tuple_getitem ?_ (args_tuple_getitem _ _)))))
  show wpAny _ _ (Builtin.Tuple.tupleItemsOf (.ref t) >>= _) _ _ s
  refine wpAny_bind (tupleItemsOf_ ht (wpAny_bind (wpAny_typeOf hT ?_)))
  rw [if_pos (by decide)]
  refine wpAny_bind (applied (n := items.size) hs ?_)
  show wpAny _ _ (if (((items.size : Int) - 1) == 0 && (-1 : Int) == 1 && items.size == items.size) = true then _ else _) _ _ s
  rw [if_neg (by rw [show ((-1 : Int) == 1) = false by decide, Bool.and_false, Bool.false_and]; exact Bool.false_ne_true), pickR]
  first
    | exact wpAny_bind (m := Builtin.Tuple.tupleExact _) (wpAny_newObj_type (wpAny_pure ⟨_, rfl, wpAny_pure h⟩) ok)
    | exact wpAny_bind (m := Builtin.Tuple.tupleExact _) (wpAny_newObj_type (wpAny_bind (wpAny_pure (wpAny_pure ⟨_, rfl, wpAny_pure h⟩))) ok)
    | exact wpAny_bind (wpAny_bind (m := Builtin.Tuple.tupleExact _) (wpAny_newObj_type (wpAny_pure (wpAny_pure ⟨_, rfl, wpAny_pure h⟩)) ok))
    | exact wpAny_bind (wpAny_bind (m := Builtin.Tuple.tupleExact _) (wpAny_newObj_type (wpAny_pure ⟨_, rfl, wpAny_pure h⟩) ok))
end
def tRevT (K : PySem.W.Frag) (te : TE) : TE := fun σ H Q => te σ H fun x H1 => ∃ a xs, x = .ref a ∧ SqT K H1 a xs ∧ ∀ p, H1 p = none → Q (.ref p) (upd H1 p (.tup xs.reverse))
theorem pe_revT {X : Cx} {e : Expr} {te : TE} {k : Nat} {p1 p2 p3 pos : Pos} (he : PE X e te) : PE X (.Subscript e (.Slice none none (some (.UnaryOp .USub (.Constant (.int 1) k p1) p2)) p3) pos) (tRevT X.K te) := by
  refine ⟨fun pins s σ H Q I h => Subscript_ (thn (he.run pins s σ H _ I h) fun v s1 ⟨x, H1, I1, r1, a, xs, ex, hx, q⟩ => ?_)⟩
  subst ex
  cases r1
  have st : PO X (some (.UnaryOp .USub (.Constant (.int 1) k p1) p2)) (tPart (tUn (rU fun i => .int (-i)) (tC (.int 1)))) := po_some (pe_un un_neg pe_int)
  refine wpAny_Slice (thn (po_none.run pins s1 σ H1 (fun o H2 => o = none ∧ H2 = H1) I1 ⟨rfl, rfl⟩) fun vl s2 ⟨l, H2, I2, pl, el, e2⟩ => ?_)
  subst el e2
  refine thn (po_none.run pins s2 σ H2 (fun o H3 => o = none ∧ H3 = H2) I2 ⟨rfl, rfl⟩) fun vu s3 ⟨u, H3, I3, pu, eu, e3⟩ => ?_
  subst eu e3
  refine thn (st.run pins s3 σ H3 (fun o H4 => o = some (-1) ∧ H4 = H3) I3 ⟨1, rfl, -1, rfl, rfl, rfl⟩) fun vs s4 ⟨o, H4, I4, ps, eo, e4⟩ => ?_
  subst eo e4
  cases pl
  cases pu
  cases ps with
  | int i t =>
  have I5 : Inv X pins σ H4 { s4 with heap := s4.heap.push { cls := .type "slice", data := .fields #[.none, .none, .int (-1) t] } } := I4.kept (t' := s4.toks) fun b ob q => Heap.get?_push_of_some _ q
  obtain ⟨its, r, ht, hz⟩ := I5.tuple hx
  have hlen := r.length
  refine tail_any (ops := [.ref a, .ref s4.heap.objs.size]) ht.typeIs PyProof.Rows.slot_tuple_getitem.lookup (turned ht (Heap.IsSliceOf.new _ .none .none (.int (-1) t)) (by rw [List.size_toArray]; omega) ?_) (by with_unfolding_all rfl)
  refine ⟨.ref _, _, I5.laid (t' := s4.toks) (o := .tup xs.reverse) (fun b ob q => Heap.get?_push_of_some _ q) (Nat.le_refl _) ?_, rfl, q _ (I5.hok.fresh (Nat.le_refl _))⟩
  exact ⟨by rw [List.length_reverse]; omega, _, r.reverse, ⟨_, Heap.get?_push_size _ rfl, rfl, 0, rfl⟩⟩
end RevT

/-! the divisor of two numbers: what the loop keeps -/
namespace M
/-- what is told of a and b -/
structure DivOk (a b g u v : Int) : Prop where
  hg : g = (Int.gcd a b : Nat)
  eq : u * a + v * b = g
  hu : u.natAbs ≤ max 1 b.natAbs
  hv : v.natAbs ≤ max 1 a.natAbs
/-- behind the first turn: s the sign of g and rest, t that of u -/
structure DivIn (a b g u v r x y s t : Int) (G R U X q : Nat) : Prop where
  hs : s = 1 ∨ s = -1
  ht : t = 1 ∨ t = -1
  hg : g = s * G
  hr : r = s * R
  hu : u = t * U
  hx : x = -(t * X)
  lt : R < G
  px : 0 < X
  det : X * G + U * R = b.natAbs
  gcd : Nat.gcd G R = Int.gcd a b
  e1 : u * a + v * b = g
  e2 : x * a + y * b = r
  last : (U = 0 ∧ v = 1 ∧ g = b) ∨ (0 < U ∧ U * (q * G + R) ≤ b.natAbs ∧ G < q * G + R)
def DivSt (a b g u v r x y : Int) : Prop :=
  (g = a ∧ u = 1 ∧ v = 0 ∧ r = b ∧ x = 0 ∧ y = 1) ∨ (b ≠ 0 ∧ ∃ s t G R U X q, DivIn a b g u v r x y s t G R U X q)
theorem nabs_sign {s : Int} (hs : s = 1 ∨ s = -1) (n : Nat) : (s * (n : Int)).natAbs = n := by
  rcases hs with rfl | rfl <;> omega
theorem fdiv_sign {s : Int} (hs : s = 1 ∨ s = -1) (G R : Nat) : (s * (G : Int)).fdiv (s * R) = ((G / R : Nat) : Int) := by
  rcases hs with rfl | rfl
  · rw [Int.one_mul, Int.one_mul]; exact (Int.ofNat_fdiv G R).symm
  · rw [Int.neg_one_mul, Int.neg_one_mul, Int.neg_fdiv_neg]; exact (Int.ofNat_fdiv G R).symm
theorem fdiv_le (g r : Int) : (g.fdiv r).natAbs ≤ g.natAbs := by
  rcases Int.lt_trichotomy r 0 with h | h | h
  · have e : g.fdiv r = (-g).fdiv (-r) := (Int.neg_fdiv_neg g r).symm
    rw [e, Int.fdiv_eq_ediv_of_nonneg _ (by omega)]
    have := Int.natAbs_ediv_le_natAbs (-g) (-r)
    omega
  · subst h; simp
  · rw [Int.fdiv_eq_ediv_of_nonneg _ (by omega)]
    exact Int.natAbs_ediv_le_natAbs g r
theorem gcd_sub (a b q : Int) : Int.gcd b (a - q * b) = Int.gcd a b := by
  rw [Int.gcd_sub_mul_right_right]
  exact Int.gcd_comm _ _
theorem fmod_sign (a : Int) {b : Int} (hb : b ≠ 0) : ∃ s R, (s = 1 ∨ s = -1) ∧ b = s * (b.natAbs : Int) ∧ a - a.fdiv b * b = s * ((R : Nat) : Int) ∧ R < b.natAbs := by
  have e : a - a.fdiv b * b = a.fmod b := by rw [Int.fmod_def, Int.mul_comm]
  by_cases h : 0 < b
  · have h1 := Int.fmod_lt_of_pos a h
    have h2 := Int.fmod_nonneg_of_pos a h
    exact ⟨1, (a.fmod b).toNat, .inl rfl, by omega, by rw [e]; omega, by omega⟩
  · have h0 : 0 < -b := by omega
    have e2 : a.fmod b = -((-a).fmod (-b)) := by rw [Int.neg_fmod_neg]; omega
    have h1 := Int.fmod_lt_of_pos (-a) h0
    have h2 := Int.fmod_nonneg_of_pos (-a) h0
    exact ⟨-1, ((-a).fmod (-b)).toNat, .inr rfl, by omega, by rw [e, e2]; omega, by omega⟩
theorem gcd_signs {s : Int} (hs : s = 1 ∨ s = -1) (G R : Nat) : Int.gcd (s * (G : Int)) (s * R) = Nat.gcd G R := by
  unfold Int.gcd
  rw [nabs_sign hs, nabs_sign hs]
theorem div_step {a b g u v r x y : Int} (h : DivSt a b g u v r x y) (hr : r ≠ 0) :
    DivSt a b r x y (g - g.fdiv r * r) (u - g.fdiv r * x) (v - g.fdiv r * y) ∧ (g - g.fdiv r * r).natAbs < r.natAbs := by
  rcases h with ⟨rfl, rfl, rfl, rfl, rfl, rfl⟩ | ⟨hb, s, t, G, R, U, X, q, I⟩
  · obtain ⟨s, R, hs, e1, e2, lt⟩ := fmod_sign g hr
    refine ⟨.inr ⟨hr, s, -1, r.natAbs, R, 0, 1, 0, ⟨hs, .inr rfl, e1, e2, by omega, by omega, lt, by omega, by omega, ?_, by omega, ?_, .inl ⟨rfl, rfl, rfl⟩⟩⟩, ?_⟩
    · have h1 := gcd_sub g r (g.fdiv r)
      rw [e2] at h1
      conv at h1 => lhs; arg 1; rw [e1]
      rw [gcd_signs hs] at h1
      exact h1
    · grind
    · rw [e2, nabs_sign hs]; exact lt
  · obtain ⟨hs, ht, hg, hr', hu, hx, lt, px, det, gcd, e1, e2, last⟩ := I
    have hR : 0 < R := by
      rcases Nat.eq_zero_or_pos R with z | z
      · subst z; rw [hr'] at hr; exact absurd (by simp) hr
      · exact z
    have ed : g.fdiv r = ((G / R : Nat) : Int) := by rw [hg, hr']; exact fdiv_sign hs G R
    have dm := Nat.div_add_mod G R
    have ml := Nat.mod_lt G hR
    have hq : 0 < G / R := Nat.div_pos (Nat.le_of_lt lt) hR
    generalize hQ : G / R = Q at *
    generalize hS : G % R = S at *
    have er : g - (Q : Int) * r = s * (S : Int) := by
      have : (G : Int) = R * Q + S := by rw [← dm]; push_cast; rfl
      rw [hg, hr', this]; grind
    rw [ed]
    refine ⟨.inr ⟨hb, s, -t, R, S, X, U + Q * X, Q, ⟨hs, by omega, hr', er, by rw [hx]; grind, ?_, ml, Nat.add_pos_right _ (Nat.mul_pos hq px), ?_, ?_, e2, by grind, .inr ⟨px, ?_, ?_⟩⟩⟩, ?_⟩
    · rw [hu, hx]; push_cast; grind
    · rw [← det, ← dm]; grind
    · rw [← gcd, ← hS, Nat.gcd_comm G R, Nat.gcd_rec R G, Nat.gcd_comm]
    · rw [← det]
      have : Q * R + S = G := by rw [Nat.mul_comm]; exact dm
      rw [this]; omega
    · have : Q * R + S = G := by rw [Nat.mul_comm]; exact dm
      omega
    · rw [er, hr', nabs_sign hs, nabs_sign hs]; exact ml
/-- the sizes in the loop -/
theorem div_sizes {a b g u v r x y : Int} (h : DivSt a b g u v r x y) : x.natAbs ≤ max 1 b.natAbs ∧ u.natAbs ≤ max 1 b.natAbs ∧ y.natAbs ≤ 1 + a.natAbs ∧ v.natAbs ≤ 1 + a.natAbs ∧ g.natAbs ≤ max a.natAbs b.natAbs ∧ r.natAbs ≤ b.natAbs := by
  rcases h with ⟨rfl, rfl, rfl, rfl, rfl, rfl⟩ | ⟨hb, s, t, G, R, U, X, q, I⟩
  · omega
  · obtain ⟨hs, ht, hg, hr', hu, hx, lt, px, det, gcd, e1, e2, last⟩ := I
    have ex : x.natAbs = X := by rw [hx, Int.natAbs_neg]; exact nabs_sign ht X
    have eu : u.natAbs = U := by rw [hu]; exact nabs_sign ht U
    have eg : g.natAbs = G := by rw [hg]; exact nabs_sign hs G
    have er : r.natAbs = R := by rw [hr']; exact nabs_sign hs R
    have hG : 0 < G := by omega
    have hX : X ≤ X * G := Nat.le_mul_of_pos_right X hG
    have hB : 0 < b.natAbs := by omega
    -- v b = g - u a
    have k : ∀ (z w c : Int), z * a + w * b = c → z.natAbs ≤ b.natAbs → c.natAbs ≤ b.natAbs → w.natAbs ≤ 1 + a.natAbs := fun z w c e hz hc => by
      have e' : w * b = c - z * a := by omega
      have e3 : (w * b).natAbs ≤ c.natAbs + (z * a).natAbs := by rw [e']; omega
      rw [Int.natAbs_mul, Int.natAbs_mul] at e3
      have e4 : z.natAbs * a.natAbs ≤ b.natAbs * a.natAbs := Nat.mul_le_mul_right _ hz
      have e5 : w.natAbs * b.natAbs ≤ (1 + a.natAbs) * b.natAbs := by
        have : (1 + a.natAbs) * b.natAbs = b.natAbs + b.natAbs * a.natAbs := by grind
        omega
      exact Nat.le_of_mul_le_mul_right e5 hB
    have hXb : X ≤ b.natAbs := by omega
    have hGb : g.natAbs ≤ b.natAbs ∧ U ≤ b.natAbs := by
      rcases last with ⟨h1, h2, h3⟩ | ⟨hU, h1, h2⟩
      · rw [h3]; omega
      · have hX1 : G ≤ X * G := Nat.le_mul_of_pos_left G px
        have : U ≤ U * (q * G + R) := Nat.le_mul_of_pos_right U (by omega)
        omega
    have hRb : r.natAbs ≤ b.natAbs := by omega
    have k1 := k u v g e1 (by omega) hGb.1
    have k2 := k x y r e2 (by omega) hRb
    omega
theorem div_half {a b g u v : Int} (e1 : u * a + v * b = g) (hb : 0 < b.natAbs) (h1 : 2 * g.natAbs ≤ b.natAbs) (h2 : 2 * u.natAbs ≤ b.natAbs) : 2 * v.natAbs ≤ 1 + a.natAbs := by
  have e' : v * b = g - u * a := by omega
  have e3 : (v * b).natAbs ≤ g.natAbs + (u * a).natAbs := by rw [e']; omega
  rw [Int.natAbs_mul, Int.natAbs_mul] at e3
  have e4 : 2 * u.natAbs * a.natAbs ≤ b.natAbs * a.natAbs := Nat.mul_le_mul_right _ h2
  have x0 : 2 * u.natAbs * a.natAbs = 2 * (u.natAbs * a.natAbs) := Nat.mul_assoc _ _ _
  have x1 : (1 + a.natAbs) * b.natAbs = b.natAbs + b.natAbs * a.natAbs := by rw [Nat.add_mul, Nat.one_mul, Nat.mul_comm a.natAbs]
  have x2 : (2 * v.natAbs) * b.natAbs = 2 * (v.natAbs * b.natAbs) := Nat.mul_assoc _ _ _
  have e6 : (2 * v.natAbs) * b.natAbs ≤ (1 + a.natAbs) * b.natAbs := by omega
  exact Nat.le_of_mul_le_mul_right e6 hb
theorem div_end {a b g u v r x y : Int} (h : DivSt a b g u v r x y) (hr : r = 0) : Int.gcd a b = g.natAbs ∧ u * a + v * b = g ∧ u.natAbs ≤ max 1 b.natAbs ∧ v.natAbs ≤ max 1 a.natAbs := by
  rcases h with ⟨rfl, rfl, rfl, rfl, rfl, rfl⟩ | ⟨hb, s, t, G, R, U, X, q, I⟩
  · subst hr
    refine ⟨by simp, by omega, by omega, by omega⟩
  · have hsz := div_sizes (.inr ⟨hb, s, t, G, R, U, X, q, I⟩)
    obtain ⟨hs, ht, hg, hr', hu, hx, lt, px, det, gcd, e1, e2, last⟩ := I
    have er : r.natAbs = R := by rw [hr']; exact nabs_sign hs R
    have hR : R = 0 := by omega
    subst hR
    have eg : g.natAbs = G := by rw [hg]; exact nabs_sign hs G
    have eu : u.natAbs = U := by rw [hu]; exact nabs_sign ht U
    refine ⟨by rw [← gcd, eg]; simp, e1, hsz.2.1, ?_⟩
    rcases last with ⟨h1, h2, h3⟩ | ⟨hU, h1, h2⟩
    · rw [h2]; omega
    · have hq : 2 ≤ q := by
        rcases Nat.lt_or_ge q 2 with z | z
        · have : q = 0 ∨ q = 1 := by omega
          rcases this with rfl | rfl <;> omega
        · exact z
      have h3 : 2 * G ≤ q * G := Nat.mul_le_mul_right G hq
      have h4 : U * (2 * G) ≤ b.natAbs := Nat.le_trans (Nat.mul_le_mul_left U (by omega)) h1
      have z1 : 2 * G ≤ U * (2 * G) := Nat.le_mul_of_pos_left _ hU
      have z2 : U * (2 * G) = 2 * U * G := by grind
      have z3 : 2 * U ≤ 2 * U * G := Nat.le_mul_of_pos_right _ (by omega)
      have z4 := div_half e1 (by omega) (by omega) (by omega)
      have ha : a.natAbs = 0 → v.natAbs ≤ 1 := by omega
      omega
theorem div_told {a b g u v r x y : Int} (h : DivSt a b g u v r x y) (hr : r = 0) : (g < 0 → DivOk a b (-g) (-u) (-v)) ∧ (¬ g < 0 → DivOk a b g u v) := by
  obtain ⟨k1, k2, k3, k4⟩ := div_end h hr
  refine ⟨fun z => ⟨by omega, ?_, by omega, by omega⟩, fun z => ⟨by omega, k2, k3, k4⟩⟩
  rw [← k2, Int.neg_mul, Int.neg_mul]; omega
end M

/-! powers by n -/
namespace M
/-- the rest of a power -/
def pw (n a : Int) (e : Nat) : Int := a ^ e % n
theorem pw_range {n : Int} (hn : 0 < n) (a : Int) (e : Nat) : 0 ≤ pw n a e ∧ pw n a e < n := ⟨Int.emod_nonneg _ (by omega), Int.emod_lt_of_pos _ hn⟩
theorem pow_emod (a n : Int) (e : Nat) : (a % n) ^ e % n = a ^ e % n := by
  induction e with
  | zero => rw [Int.pow_zero, Int.pow_zero]
  | succ e ih => rw [Int.pow_succ, Int.pow_succ, Int.mul_emod, ih, Int.emod_emod_of_dvd _ (Int.dvd_refl n), ← Int.mul_emod]
theorem pw_mod (n a : Int) (e : Nat) : pw n (a % n) e = pw n a e := pow_emod a n e
/-- what the loop keeps: found * base ^ e -/
theorem pw_turn {n f b : Int} {e : Nat} {r : Int} (h : f * b ^ e % n = r) :
    (e % 2 = 1 → (f * b % n) * (b * b % n) ^ (e / 2) % n = r) ∧ (e % 2 ≠ 1 → f * (b * b % n) ^ (e / 2) % n = r) := by
  have sq : (b * b) ^ (e / 2) = b ^ (2 * (e / 2)) := by rw [Int.pow_mul, Int.pow_succ, Int.pow_succ, Int.pow_zero, Int.one_mul]
  constructor
  · intro ho
    have ee : e = 2 * (e / 2) + 1 := by omega
    rw [Int.mul_emod, Int.emod_emod_of_dvd _ (Int.dvd_refl n), pow_emod, ← Int.mul_emod, sq, ← h]
    conv => rhs; rw [ee, Int.pow_succ]
    congr 1
    grind
  · intro ho
    have ee : e = 2 * (e / 2) := by omega
    rw [Int.mul_emod, pow_emod, ← Int.mul_emod, sq, ← ee, h]
theorem pw_end {n f : Int} (h0 : 0 ≤ f) (h1 : f < n) {b r : Int} (h : f * b ^ 0 % n = r) : f = r := by
  rw [← h, Int.pow_zero, Int.mul_one, Int.emod_eq_of_lt h0 h1]
theorem pw_one {n a : Int} {e : Nat} : 1 % n * (a % n) ^ e % n = pw n a e := by
  rw [Int.mul_emod, Int.emod_emod_of_dvd _ (Int.dvd_refl n), pow_emod, ← Int.mul_emod, Int.one_mul]; rfl
theorem pw_mul (n a : Int) (e : Nat) : pw n a e * a % n = pw n a (e + 1) := by
  unfold pw
  rw [Int.mul_emod, Int.emod_emod_of_dvd _ (Int.dvd_refl n), ← Int.mul_emod, Int.pow_succ]
theorem pw_zero (n a : Int) : pw n a 0 = 1 % n := by unfold pw; rw [Int.pow_zero]
theorem gcd_mod (a n : Int) : Int.gcd (a % n) n = Int.gcd a n := by
  have e : a % n = a - n * (a / n) := by have := Int.emod_add_mul_ediv a n; omega
  rw [e, Int.gcd_comm, Int.gcd_sub_mul_left_right, Int.gcd_comm]
theorem inv_of {n a g u v : Int} (hn : 0 < n) (h : DivOk (a % n) n g u v) (hg : Int.gcd a n = 1) : (u % n * a - 1) % n = 0 := by
  have e := h.eq
  have hg' : g = 1 := by rw [h.hg, gcd_mod, hg]; rfl
  refine Int.emod_eq_zero_of_dvd ?_
  have e1 : a % n = a - n * (a / n) := by have := Int.emod_add_mul_ediv a n; omega
  have e2 : u % n = u - n * (u / n) := by have := Int.emod_add_mul_ediv u n; omega
  refine ⟨-(v) + u * (a / n) - (u / n) * a, ?_⟩
  rw [hg', e1] at e
  rw [e2]
  grind
theorem gcd_pos {a n : Int} (hn : 0 < n) : 0 < Int.gcd a n := Int.gcd_pos_of_ne_zero_right a (by omega)
/-- numbers with the same product by n -/
theorem inv_unit {n a b : Int} (h : (b * a - 1) % n = 0) : b * a % n = 1 % n := by
  have := Int.emod_emod_of_dvd (b * a) (Int.dvd_refl n)
  exact Int.emod_eq_emod_iff_emod_sub_eq_zero.mpr h
theorem inv_pow {n a b : Int} (h : (b * a - 1) % n = 0) (e : Nat) : (pw n b e * pw n a e - 1) % n = 0 := by
  have e1 : b * a % n = 1 % n := inv_unit h
  refine Int.emod_eq_emod_iff_emod_sub_eq_zero.mp ?_
  unfold pw
  rw [← Int.mul_emod, ← Int.mul_pow, ← pow_emod, e1, pow_emod, Int.one_pow]
theorem back_ok {n a b : Int} (hn : 0 < n) (h : (b * a - 1) % n = 0) (e : Nat) : (pw n b (e + 1) * pw n a e * a - 1) % n = 0 := by
  have k := inv_pow h (e + 1)
  rw [← pw_mul n a e] at k
  refine Int.emod_eq_emod_iff_emod_sub_eq_zero.mp ?_
  rw [← Int.emod_eq_emod_iff_emod_sub_eq_zero.mpr k, Int.mul_assoc, Int.mul_emod]
  conv => rhs; rw [Int.mul_emod, Int.emod_emod_of_dvd _ (Int.dvd_refl n)]
theorem gcd_abs (a : Int) {n : Int} (hn : 0 < n) : Nat.gcd n.natAbs (a.natAbs % n.natAbs) = Int.gcd a n := by
  rw [Nat.gcd_comm, ← Nat.gcd_rec, Nat.gcd_comm]; rfl
theorem pw_add (n a : Int) (e f : Nat) : pw n a (e + f) = pw n a e * pw n a f % n := by
  unfold pw
  rw [← Int.mul_emod, Int.pow_add]
theorem pw_pw (n a : Int) (e f : Nat) : pw n a (e * f) = pw n (pw n a e) f := by
  unfold pw
  rw [pow_emod, ← Int.pow_mul]
theorem pw_prod (n a b : Int) (e : Nat) : pw n (a * b) e = pw n a e * pw n b e % n := by
  unfold pw
  rw [← Int.mul_emod, Int.mul_pow]
theorem pw_congr {n a b : Int} (h : a % n = b % n) (e : Nat) : pw n a e = pw n b e := by rw [← pw_mod n a, ← pw_mod n b, h]
theorem inv_unique {n a b c : Int} (b0 : 0 ≤ b) (b1 : b < n) (c0 : 0 ≤ c) (c1 : c < n) (hb : (b * a - 1) % n = 0) (hc : (c * a - 1) % n = 0) : b = c := by
  have h1 : (b - c) % n = 0 := by
    obtain ⟨x, hx⟩ := Int.dvd_of_emod_eq_zero hb
    obtain ⟨y, hy⟩ := Int.dvd_of_emod_eq_zero hc
    refine Int.emod_eq_zero_of_dvd ⟨c * x - b * y, ?_⟩
    have e : b - c = c * (b * a - 1) - b * (c * a - 1) := by grind
    rw [e, hx, hy]; grind
  have h2 := Int.emod_eq_emod_iff_emod_sub_eq_zero.mpr h1
  rw [Int.emod_eq_of_lt b0 b1, Int.emod_eq_of_lt c0 c1] at h2
  exact h2
theorem emod_one_of {n x : Int} (h : (x - 1) % n = 0) : x % n = 1 % n := Int.emod_eq_emod_iff_emod_sub_eq_zero.mpr h
end M

/-! an exponent's halves -/
namespace M
def hv (e : Nat) : List Nat := if h : e = 0 then [0] else hv (e / 2) ++ [e]
termination_by e
decreasing_by omega
theorem hv_zero : hv 0 = [0] := by rw [hv]; simp
theorem hv_pos {e : Nat} (h : 0 < e) : hv e = hv (e / 2) ++ [e] := by
  conv => lhs; rw [hv]
  rw [dif_neg (by omega)]
theorem hv_len : ∀ (k e : Nat), e < 2 ^ k → 0 < (hv e).length ∧ (hv e).length ≤ k + 1
  | 0, e, h => by
    have : e = 0 := by omega
    subst this
    rw [hv_zero]; decide
  | k + 1, e, h => by
    rcases Nat.eq_zero_or_pos e with z | z
    · subst z; rw [hv_zero]; simp
    · rw [hv_pos z, List.length_append]
      have := hv_len k (e / 2) (by omega)
      simp only [List.length_singleton]; omega
/-- each with the one ahead of it -/
theorem hv_at (e : Nat) : (hv e)[0]? = some 0 ∧ (hv e).getLast? = some e ∧ ∀ i x, (hv e)[i + 1]? = some x → (hv e)[i]? = some (x / 2) ∧ 0 < x := by
  induction e using Nat.strongRecOn with
  | _ e ih =>
    rcases Nat.eq_zero_or_pos e with z | z
    · subst z; rw [hv_zero]; simp
    · obtain ⟨h0, h1, h2⟩ := ih (e / 2) (by omega)
      rw [hv_pos z]
      have hl : 0 < (hv (e / 2)).length := by
        rcases Nat.eq_zero_or_pos (hv (e / 2)).length with q | q
        · rw [List.length_eq_zero_iff] at q; rw [q] at h0; simp at h0
        · exact q
      refine ⟨by rw [List.getElem?_append_left hl]; exact h0, by simp, fun i x hx => ?_⟩
      by_cases hi : i + 1 < (hv (e / 2)).length
      · rw [List.getElem?_append_left hi] at hx
        rw [List.getElem?_append_left (by omega)]
        exact h2 i x hx
      · have e1 : i + 1 = (hv (e / 2)).length := by
          have := (List.getElem?_eq_some_iff.mp hx).1
          rw [List.length_append] at this
          simp only [List.length_singleton] at this
          omega
        rw [List.getElem?_append_right (by omega), e1, Nat.sub_self] at hx
        have e2 : x = e := by simpa using hx.symm
        subst e2
        rw [List.getElem?_append_left (by omega)]
        rw [List.getLast?_eq_getElem?] at h1
        have e3 : i = (hv (x / 2)).length - 1 := by omega
        rw [e3]
        exact ⟨h1, z⟩
theorem hv_mem_le {e x : Nat} (h : x ∈ hv e) : x ≤ e := by
  induction e using Nat.strongRecOn with
  | _ e ih =>
    rcases Nat.eq_zero_or_pos e with z | z
    · subst z; rw [hv_zero] at h; simp at h; omega
    · rw [hv_pos z] at h
      rcases List.mem_append.mp h with h | h
      · have := ih (e / 2) (by omega) h; omega
      · simp at h; omega
/-- the rest at an exponent from the one at its half -/
theorem pw_half (n a : Int) (x : Nat) : (x % 2 = 1 → pw n a (x / 2) * pw n a (x / 2) % n * a % n = pw n a x) ∧ (x % 2 ≠ 1 → pw n a (x / 2) * pw n a (x / 2) % n = pw n a x) := by
  have sq : pw n a (x / 2) * pw n a (x / 2) % n = pw n a (2 * (x / 2)) := by
    unfold pw
    rw [← Int.mul_emod, ← Int.pow_add]
    congr 2; omega
  rw [sq]
  constructor
  · intro h
    rw [pw_mul]; congr 1; omega
  · intro h
    congr 1; omega
end M

namespace C
open PySem PySem.Spec PyProof.Rows L2 R

def top (i : Nat) : Stmt := PySem.Challenge.pw_rootprime_k04_rows_of_powers.main.body.getD i (.Pass ⟨0, 0, 0, 0⟩)
abbrev FnP (K : PySem.W.Frag) (x : Str) (st : Stmt) (f : Addr) (fd : FuncData) : Prop := FunD K x x (defArgs st) (defBody st) (defScope st) [] [] f fd
abbrev s_divisor : Stmt := top 4
abbrev N_divisor : List Str := ["a", "b", "g", "u", "v", "rest", "x", "y", "times"]
theorem sc_divisor : FnScope N_divisor ["a", "b"] (defScope s_divisor) := ⟨rfl, rfl, rfl, by decide +kernel, rfl, by decide +kernel, by decide +kernel⟩
abbrev s_inverse : Stmt := top 5
abbrev N_inverse : List Str := ["n", "a", "g", "u", "v"]
theorem sc_inverse : FnScope N_inverse ["n", "a"] (defScope s_inverse) := ⟨rfl, rfl, rfl, by decide +kernel, rfl, by decide +kernel, by decide +kernel⟩
abbrev s_power : Stmt := top 7
abbrev N_power : List Str := ["n", "a", "e", "found", "base"]
theorem sc_power : FnScope N_power ["n", "a", "e"] (defScope s_power) := ⟨rfl, rfl, rfl, by decide +kernel, rfl, by decide +kernel, by decide +kernel⟩
abbrev s_halves : Stmt := top 8
abbrev N_halves : List Str := ["e", "row"]
theorem sc_halves : FnScope N_halves ["e"] (defScope s_halves) := ⟨rfl, rfl, rfl, by decide +kernel, rfl, by decide +kernel, by decide +kernel⟩
abbrev s_power_row : Stmt := top 9
abbrev N_power_row : List Str := ["n", "a", "e", "rows", "found", "here"]
theorem sc_power_row : FnScope N_power_row ["n", "a", "e"] (defScope s_power_row) := ⟨rfl, rfl, rfl, by decide +kernel, rfl, by decide +kernel, by decide +kernel⟩
abbrev s_is_tuple_of : Stmt := top 10
abbrev N_is_tuple_of : List Str := ["thing", "many", "one"]
theorem sc_is_tuple_of : FnScope N_is_tuple_of ["thing", "many"] (defScope s_is_tuple_of) := ⟨rfl, rfl, rfl, by decide +kernel, rfl, by decide +kernel, by decide +kernel⟩
abbrev s_is_power_row : Stmt := top 11
abbrev N_is_power_row : List Str := ["n", "a", "e", "thing", "one"]
theorem sc_is_power_row : FnScope N_is_power_row ["n", "a", "e", "thing"] (defScope s_is_power_row) := ⟨rfl, rfl, rfl, by decide +kernel, rfl, by decide +kernel, by decide +kernel⟩
abbrev s__law_whole : Stmt := top 13
abbrev N__law_whole : List Str := ["_law_found"]
theorem sc__law_whole : FnScope N__law_whole ["_law_found"] (defScope s__law_whole) := ⟨rfl, rfl, rfl, by decide +kernel, rfl, by decide +kernel, by decide +kernel⟩
abbrev s__law_draws : Stmt := top 14
abbrev N__law_draws : List Str := ["_law_cell", "_law_many", "_law_found", "_law_k", "_law_number"]
theorem sc__law_draws : FnScope N__law_draws ["_law_cell", "_law_many"] (defScope s__law_draws) := ⟨rfl, rfl, rfl, by decide +kernel, rfl, by decide +kernel, by decide +kernel⟩
abbrev s__law_is_row : Stmt := top 15
abbrev N__law_is_row : List Str := ["_law_n", "_law_a", "_law_e", "_law_thing", "_law_last", "_law_rest", "_law_k", "_law_one"]
theorem sc__law_is_row : FnScope N__law_is_row ["_law_n", "_law_a", "_law_e", "_law_thing"] (defScope s__law_is_row) := ⟨rfl, rfl, rfl, by decide +kernel, rfl, by decide +kernel, by decide +kernel⟩
abbrev s__law_bent : Stmt := top 16
abbrev N__law_bent : List Str := ["_law_row", "_law_way", "_law_at", "_law_n", "_law_k", "_law_e", "_law_rest", "_law_ones", "_law_more"]
theorem sc__law_bent : FnScope N__law_bent ["_law_row", "_law_way", "_law_at", "_law_n"] (defScope s__law_bent) := ⟨rfl, rfl, rfl, by decide +kernel, rfl, by decide +kernel, by decide +kernel⟩
abbrev s__law_right : Stmt := top 17
abbrev N__law_right : List Str := ["_law_n", "_law_a", "_law_e", "_law_way", "_law_at", "_law_row", "_law_bent_here", "_law_thing", "_law_kept", "_law_found", "_law_other"]
theorem sc__law_right : FnScope N__law_right ["_law_n", "_law_a", "_law_e", "_law_way", "_law_at"] (defScope s__law_right) := ⟨rfl, rfl, rfl, by decide +kernel, rfl, by decide +kernel, by decide +kernel⟩
abbrev s_law : Stmt := top 18
abbrev N_law : List Str := ["_law_script", "_law_cell", "_law_row", "_law_n", "_law_a", "_law_e"]
theorem sc_law : FnScope N_law ["_law_script"] (defScope s_law) := ⟨rfl, rfl, rfl, by decide +kernel, rfl, by decide +kernel, by decide +kernel⟩
abbrev s_init_NoInverse : Stmt := inClass (top 2) 0
theorem sc_init_NoInverse : FnScope ["self", "divisor"] ["self", "divisor"] (defScope s_init_NoInverse) := ⟨rfl, rfl, rfl, by decide +kernel, rfl, by decide +kernel, by decide +kernel⟩
def fn : List He5.DefA := [⟨fun K => He.ga K "divisor", "divisor", "divisor", defArgs s_divisor, defBody s_divisor, defScope s_divisor, [], []⟩,
  ⟨fun K => He.ga K "inverse", "inverse", "inverse", defArgs s_inverse, defBody s_inverse, defScope s_inverse, [], []⟩,
  ⟨fun K => He.ga K "power", "power", "power", defArgs s_power, defBody s_power, defScope s_power, [], []⟩,
  ⟨fun K => He.ga K "halves", "halves", "halves", defArgs s_halves, defBody s_halves, defScope s_halves, [], []⟩,
  ⟨fun K => He.ga K "power_row", "power_row", "power_row", defArgs s_power_row, defBody s_power_row, defScope s_power_row, [], []⟩,
  ⟨fun K => He.ga K "is_tuple_of", "is_tuple_of", "is_tuple_of", defArgs s_is_tuple_of, defBody s_is_tuple_of, defScope s_is_tuple_of, [], []⟩,
  ⟨fun K => He.ga K "is_power_row", "is_power_row", "is_power_row", defArgs s_is_power_row, defBody s_is_power_row, defScope s_is_power_row, [], []⟩,
  ⟨fun K => He.ga K "_law_whole", "_law_whole", "_law_whole", defArgs s__law_whole, defBody s__law_whole, defScope s__law_whole, [], []⟩,
  ⟨fun K => He.ga K "_law_draws", "_law_draws", "_law_draws", defArgs s__law_draws, defBody s__law_draws, defScope s__law_draws, [], []⟩,
  ⟨fun K => He.ga K "_law_is_row", "_law_is_row", "_law_is_row", defArgs s__law_is_row, defBody s__law_is_row, defScope s__law_is_row, [], []⟩,
  ⟨fun K => He.ga K "_law_bent", "_law_bent", "_law_bent", defArgs s__law_bent, defBody s__law_bent, defScope s__law_bent, [], []⟩,
  ⟨fun K => He.ga K "_law_right", "_law_right", "_law_right", defArgs s__law_right, defBody s__law_right, defScope s__law_right, [], []⟩,
  ⟨fun K => He.ga K "law", "law", "law", defArgs s_law, defBody s_law, defScope s_law, [], []⟩,
  ⟨fun K => He.ma K (He.ga K "NoInverse") "__init__", "__init__", "NoInverse.__init__", defArgs s_init_NoInverse, defBody s_init_NoInverse, defScope s_init_NoInverse, [], []⟩]
def fa : List FB := [fun K => (He.Fa.glo "divisor").ok K, fun K => (He.Fa.glo "inverse").ok K, fun K => (He.Fa.glo "power").ok K, fun K => (He.Fa.glo "halves").ok K, fun K => (He.Fa.glo "power_row").ok K, fun K => (He.Fa.glo "is_tuple_of").ok K, fun K => (He.Fa.glo "is_power_row").ok K, fun K => (He.Fa.glo "_law_whole").ok K, fun K => (He.Fa.glo "_law_draws").ok K, fun K => (He.Fa.glo "_law_is_row").ok K, fun K => (He.Fa.glo "_law_bent").ok K, fun K => (He.Fa.glo "_law_right").ok K, fun K => (He.Fa.glo "law").ok K, fun K => (He.Fa.glo "PrimeError").ok K, fun K => (He.Fa.glo "NoInverse").ok K, fun K => (He.Fa.free "len").ok K, fun K => (He.Fa.free "all").ok K, fun K => (He.Fa.free "isinstance").ok K, fun K => (He.Fa.free "tuple").ok K, fun K => (He.Fa.free "int").ok K, fun K => (He.Fa.free "bool").ok K, fun K => (He.Fa.free "list").ok K, fun K => (He.Fa.free "range").ok K, fun K => (He.Fa.free "abs").ok K, fun K => (He.Fa.free "enumerate").ok K, fun K => xinB "NoInverse" "divisor" K, fun K => baseB (He.ga K "PrimeError") K, fun K => (He.Fa.exc "PrimeError").ok K]
structure Txt (K : PySem.W.Frag) (mg : Str → Option Value) : Prop where
  c : Told fa fn K
  gl : ∀ {x : Str}, (He.Fa.glo x).ok K = true → mg x = some (.ref (He.ga K x))
  fr : ∀ {x : Str}, (He.Fa.free x).ok K = true → mg x = none
  int_ok : ∀ {x : Str} {i : Int}, (He.Fa.int x i).ok K = true → ∃ t, mg x = some (.int i t)
section
variable {P : Program} {w : World} {K : PySem.W.Frag} {mg : Str → Option Value} {base : Heap}
theorem F0_divisor (T : Txt K mg) : ∃ fd, FnP K "divisor" s_divisor (He.ga K "divisor") fd := T.c.dfn 0 rfl
noncomputable def fd_divisor (T : Txt K mg) : FuncData := (F0_divisor T).choose
theorem F_divisor (T : Txt K mg) : FnP K "divisor" s_divisor (He.ga K "divisor") (fd_divisor T) := (F0_divisor T).choose_spec
theorem g_divisor (T : Txt K mg) : mg "divisor" = some (.ref (He.ga K "divisor")) := T.gl (T.c.fact 0 rfl)
theorem kp_divisor (T : Txt K mg) : PySem.W.keepIn K (.ref (He.ga K "divisor")) = true := (F_divisor T).kp
theorem B_divisor (T : Txt K mg) : Binds K (fd_divisor T) ["a", "b"] [] := (F_divisor T).bindsN fun _ _ _ _ _ _ us hl => match us, hl with | [_, _], _ => rfl
theorem F0_inverse (T : Txt K mg) : ∃ fd, FnP K "inverse" s_inverse (He.ga K "inverse") fd := T.c.dfn 1 rfl
noncomputable def fd_inverse (T : Txt K mg) : FuncData := (F0_inverse T).choose
theorem F_inverse (T : Txt K mg) : FnP K "inverse" s_inverse (He.ga K "inverse") (fd_inverse T) := (F0_inverse T).choose_spec
theorem g_inverse (T : Txt K mg) : mg "inverse" = some (.ref (He.ga K "inverse")) := T.gl (T.c.fact 1 rfl)
theorem kp_inverse (T : Txt K mg) : PySem.W.keepIn K (.ref (He.ga K "inverse")) = true := (F_inverse T).kp
theorem B_inverse (T : Txt K mg) : Binds K (fd_inverse T) ["n", "a"] [] := (F_inverse T).bindsN fun _ _ _ _ _ _ us hl => match us, hl with | [_, _], _ => rfl
theorem F0_power (T : Txt K mg) : ∃ fd, FnP K "power" s_power (He.ga K "power") fd := T.c.dfn 2 rfl
noncomputable def fd_power (T : Txt K mg) : FuncData := (F0_power T).choose
theorem F_power (T : Txt K mg) : FnP K "power" s_power (He.ga K "power") (fd_power T) := (F0_power T).choose_spec
theorem g_power (T : Txt K mg) : mg "power" = some (.ref (He.ga K "power")) := T.gl (T.c.fact 2 rfl)
theorem kp_power (T : Txt K mg) : PySem.W.keepIn K (.ref (He.ga K "power")) = true := (F_power T).kp
theorem B_power (T : Txt K mg) : Binds K (fd_power T) ["n", "a", "e"] [] := (F_power T).bindsN fun _ _ _ _ _ _ us hl => match us, hl with | [_, _, _], _ => rfl
theorem F0_halves (T : Txt K mg) : ∃ fd, FnP K "halves" s_halves (He.ga K "halves") fd := T.c.dfn 3 rfl
noncomputable def fd_halves (T : Txt K mg) : FuncData := (F0_halves T).choose
theorem F_halves (T : Txt K mg) : FnP K "halves" s_halves (He.ga K "halves") (fd_halves T) := (F0_halves T).choose_spec
theorem g_halves (T : Txt K mg) : mg "halves" = some (.ref (He.ga K "halves")) := T.gl (T.c.fact 3 rfl)
theorem kp_halves (T : Txt K mg) : PySem.W.keepIn K (.ref (He.ga K "halves")) = true := (F_halves T).kp
theorem B_halves (T : Txt K mg) : Binds K (fd_halves T) ["e"] [] := (F_halves T).bindsN fun _ _ _ _ _ _ us hl => match us, hl with | [_], _ => rfl
theorem F0_power_row (T : Txt K mg) : ∃ fd, FnP K "power_row" s_power_row (He.ga K "power_row") fd := T.c.dfn 4 rfl
noncomputable def fd_power_row (T : Txt K mg) : FuncData := (F0_power_row T).choose
theorem F_power_row (T : Txt K mg) : FnP K "power_row" s_power_row (He.ga K "power_row") (fd_power_row T) := (F0_power_row T).choose_spec
theorem g_power_row (T : Txt K mg) : mg "power_row" = some (.ref (He.ga K "power_row")) := T.gl (T.c.fact 4 rfl)
theorem kp_power_row (T : Txt K mg) : PySem.W.keepIn K (.ref (He.ga K "power_row")) = true := (F_power_row T).kp
theorem B_power_row (T : Txt K mg) : Binds K (fd_power_row T) ["n", "a", "e"] [] := (F_power_row T).bindsN fun _ _ _ _ _ _ us hl => match us, hl with | [_, _, _], _ => rfl
theorem F0_is_tuple_of (T : Txt K mg) : ∃ fd, FnP K "is_tuple_of" s_is_tuple_of (He.ga K "is_tuple_of") fd := T.c.dfn 5 rfl
noncomputable def fd_is_tuple_of (T : Txt K mg) : FuncData := (F0_is_tuple_of T).choose
theorem F_is_tuple_of (T : Txt K mg) : FnP K "is_tuple_of" s_is_tuple_of (He.ga K "is_tuple_of") (fd_is_tuple_of T) := (F0_is_tuple_of T).choose_spec
theorem g_is_tuple_of (T : Txt K mg) : mg "is_tuple_of" = some (.ref (He.ga K "is_tuple_of")) := T.gl (T.c.fact 5 rfl)
theorem kp_is_tuple_of (T : Txt K mg) : PySem.W.keepIn K (.ref (He.ga K "is_tuple_of")) = true := (F_is_tuple_of T).kp
theorem B_is_tuple_of (T : Txt K mg) : Binds K (fd_is_tuple_of T) ["thing", "many"] [] := (F_is_tuple_of T).bindsN fun _ _ _ _ _ _ us hl => match us, hl with | [_, _], _ => rfl
theorem F0_is_power_row (T : Txt K mg) : ∃ fd, FnP K "is_power_row" s_is_power_row (He.ga K "is_power_row") fd := T.c.dfn 6 rfl
noncomputable def fd_is_power_row (T : Txt K mg) : FuncData := (F0_is_power_row T).choose
theorem F_is_power_row (T : Txt K mg) : FnP K "is_power_row" s_is_power_row (He.ga K "is_power_row") (fd_is_power_row T) := (F0_is_power_row T).choose_spec
theorem g_is_power_row (T : Txt K mg) : mg "is_power_row" = some (.ref (He.ga K "is_power_row")) := T.gl (T.c.fact 6 rfl)
theorem kp_is_power_row (T : Txt K mg) : PySem.W.keepIn K (.ref (He.ga K "is_power_row")) = true := (F_is_power_row T).kp
theorem B_is_power_row (T : Txt K mg) : Binds K (fd_is_power_row T) ["n", "a", "e", "thing"] [] := (F_is_power_row T).bindsN fun _ _ _ _ _ _ us hl => match us, hl with | [_, _, _, _], _ => rfl
theorem F0__law_whole (T : Txt K mg) : ∃ fd, FnP K "_law_whole" s__law_whole (He.ga K "_law_whole") fd := T.c.dfn 7 rfl
noncomputable def fd__law_whole (T : Txt K mg) : FuncData := (F0__law_whole T).choose
theorem F__law_whole (T : Txt K mg) : FnP K "_law_whole" s__law_whole (He.ga K "_law_whole") (fd__law_whole T) := (F0__law_whole T).choose_spec
theorem g__law_whole (T : Txt K mg) : mg "_law_whole" = some (.ref (He.ga K "_law_whole")) := T.gl (T.c.fact 7 rfl)
theorem kp__law_whole (T : Txt K mg) : PySem.W.keepIn K (.ref (He.ga K "_law_whole")) = true := (F__law_whole T).kp
theorem B__law_whole (T : Txt K mg) : Binds K (fd__law_whole T) ["_law_found"] [] := (F__law_whole T).bindsN fun _ _ _ _ _ _ us hl => match us, hl with | [_], _ => rfl
theorem F0__law_draws (T : Txt K mg) : ∃ fd, FnP K "_law_draws" s__law_draws (He.ga K "_law_draws") fd := T.c.dfn 8 rfl
noncomputable def fd__law_draws (T : Txt K mg) : FuncData := (F0__law_draws T).choose
theorem F__law_draws (T : Txt K mg) : FnP K "_law_draws" s__law_draws (He.ga K "_law_draws") (fd__law_draws T) := (F0__law_draws T).choose_spec
theorem g__law_draws (T : Txt K mg) : mg "_law_draws" = some (.ref (He.ga K "_law_draws")) := T.gl (T.c.fact 8 rfl)
theorem kp__law_draws (T : Txt K mg) : PySem.W.keepIn K (.ref (He.ga K "_law_draws")) = true := (F__law_draws T).kp
theorem B__law_draws (T : Txt K mg) : Binds K (fd__law_draws T) ["_law_cell", "_law_many"] [] := (F__law_draws T).bindsN fun _ _ _ _ _ _ us hl => match us, hl with | [_, _], _ => rfl
theorem F0__law_is_row (T : Txt K mg) : ∃ fd, FnP K "_law_is_row" s__law_is_row (He.ga K "_law_is_row") fd := T.c.dfn 9 rfl
noncomputable def fd__law_is_row (T : Txt K mg) : FuncData := (F0__law_is_row T).choose
theorem F__law_is_row (T : Txt K mg) : FnP K "_law_is_row" s__law_is_row (He.ga K "_law_is_row") (fd__law_is_row T) := (F0__law_is_row T).choose_spec
theorem g__law_is_row (T : Txt K mg) : mg "_law_is_row" = some (.ref (He.ga K "_law_is_row")) := T.gl (T.c.fact 9 rfl)
theorem kp__law_is_row (T : Txt K mg) : PySem.W.keepIn K (.ref (He.ga K "_law_is_row")) = true := (F__law_is_row T).kp
theorem B__law_is_row (T : Txt K mg) : Binds K (fd__law_is_row T) ["_law_n", "_law_a", "_law_e", "_law_thing"] [] := (F__law_is_row T).bindsN fun _ _ _ _ _ _ us hl => match us, hl with | [_, _, _, _], _ => rfl
theorem F0__law_bent (T : Txt K mg) : ∃ fd, FnP K "_law_bent" s__law_bent (He.ga K "_law_bent") fd := T.c.dfn 10 rfl
noncomputable def fd__law_bent (T : Txt K mg) : FuncData := (F0__law_bent T).choose
theorem F__law_bent (T : Txt K mg) : FnP K "_law_bent" s__law_bent (He.ga K "_law_bent") (fd__law_bent T) := (F0__law_bent T).choose_spec
theorem g__law_bent (T : Txt K mg) : mg "_law_bent" = some (.ref (He.ga K "_law_bent")) := T.gl (T.c.fact 10 rfl)
theorem kp__law_bent (T : Txt K mg) : PySem.W.keepIn K (.ref (He.ga K "_law_bent")) = true := (F__law_bent T).kp
theorem B__law_bent (T : Txt K mg) : Binds K (fd__law_bent T) ["_law_row", "_law_way", "_law_at", "_law_n"] [] := (F__law_bent T).bindsN fun _ _ _ _ _ _ us hl => match us, hl with | [_, _, _, _], _ => rfl
theorem F0__law_right (T : Txt K mg) : ∃ fd, FnP K "_law_right" s__law_right (He.ga K "_law_right") fd := T.c.dfn 11 rfl
noncomputable def fd__law_right (T : Txt K mg) : FuncData := (F0__law_right T).choose
theorem F__law_right (T : Txt K mg) : FnP K "_law_right" s__law_right (He.ga K "_law_right") (fd__law_right T) := (F0__law_right T).choose_spec
theorem g__law_right (T : Txt K mg) : mg "_law_right" = some (.ref (He.ga K "_law_right")) := T.gl (T.c.fact 11 rfl)
theorem kp__law_right (T : Txt K mg) : PySem.W.keepIn K (.ref (He.ga K "_law_right")) = true := (F__law_right T).kp
theorem B__law_right (T : Txt K mg) : Binds K (fd__law_right T) ["_law_n", "_law_a", "_law_e", "_law_way", "_law_at"] [] := (F__law_right T).bindsN fun _ _ _ _ _ _ us hl => match us, hl with | [_, _, _, _, _], _ => rfl
theorem F0_law (T : Txt K mg) : ∃ fd, FnP K "law" s_law (He.ga K "law") fd := T.c.dfn 12 rfl
noncomputable def fd_law (T : Txt K mg) : FuncData := (F0_law T).choose
theorem F_law (T : Txt K mg) : FnP K "law" s_law (He.ga K "law") (fd_law T) := (F0_law T).choose_spec
theorem g_law (T : Txt K mg) : mg "law" = some (.ref (He.ga K "law")) := T.gl (T.c.fact 12 rfl)
theorem kp_law (T : Txt K mg) : PySem.W.keepIn K (.ref (He.ga K "law")) = true := (F_law T).kp
theorem B_law (T : Txt K mg) : Binds K (fd_law T) ["_law_script"] [] := (F_law T).bindsN fun _ _ _ _ _ _ us hl => match us, hl with | [_], _ => rfl
theorem g_PrimeError (T : Txt K mg) : mg "PrimeError" = some (.ref (He.ga K "PrimeError")) := T.gl (T.c.fact 13 rfl)
theorem g_NoInverse (T : Txt K mg) : mg "NoInverse" = some (.ref (He.ga K "NoInverse")) := T.gl (T.c.fact 14 rfl)
theorem x_NoInverse (T : Txt K mg) : XIn K (He.ga K "NoInverse") (He.ma K (He.ga K "NoInverse") "__init__") "divisor" := xin_of (T.c.fact 25 rfl)
theorem F0_init_NoInverse (T : Txt K mg) : ∃ fd, FunD K "__init__" "NoInverse.__init__" (defArgs s_init_NoInverse) (defBody s_init_NoInverse) (defScope s_init_NoInverse) [] [] (He.ma K (He.ga K "NoInverse") "__init__") fd := T.c.dfn 13 rfl
noncomputable def fd_init_NoInverse (T : Txt K mg) : FuncData := (F0_init_NoInverse T).choose
theorem F_init_NoInverse (T : Txt K mg) : FunD K "__init__" "NoInverse.__init__" (defArgs s_init_NoInverse) (defBody s_init_NoInverse) (defScope s_init_NoInverse) [] [] (He.ma K (He.ga K "NoInverse") "__init__") (fd_init_NoInverse T) := (F0_init_NoInverse T).choose_spec
theorem B_init_NoInverse (T : Txt K mg) : Binds K (fd_init_NoInverse T) ["self", "divisor"] [] := (F_init_NoInverse T).bindsN fun _ _ _ _ _ _ us hl => match us, hl with | [_, _], _ => rfl
theorem ok_init_NoInverse (T : Txt K mg) : FnOk P w K mg base CX0 1 (He.ma K (He.ga K "NoInverse") "__init__") (fd_init_NoInverse T) ["self", "divisor"] (sp_init K (He.ga K "NoInverse") "divisor") := by
  refine (F_init_NoInverse T).ok sc_init_NoInverse (fun vs H Q E h => ?_) (fun cdv A outer s H vs Q E hr h => ⟨_, PSs.nox (pss_cons (ps_expr (pe_cinit rfl (g_PrimeError T) (base_of (T.c.fact (t := fun K => baseB (He.ga K "PrimeError") K) 26 rfl)) (pa_cons (pv 0) (pa_cons pe_str pa_nil)))) (pss_one (ps_ost (pv 0) (pv 1)))), ?_⟩)
  · obtain ⟨_, _, rfl, _⟩ := h; rfl
  · exact rd_init h
theorem z_PrimeError (T : Txt K mg) : Exc0 K (He.ga K "PrimeError") := exc0_of (T.c.fact 27 rfl)
/-- divisor(a, b): a new tuple (g, u, v) -/
def sp_divisor : Sp := fun vs H Q _ => ∃ a b : Int, vs = [.int a, .int b] ∧ a.natAbs < 2 ^ 900 ∧ b.natAbs < 2 ^ 900 ∧
  ∀ g u v p, M.DivOk a b g u v → H p = none → Q (.ref p) (upd H p (.tup [.int g, .int u, .int v]))
theorem ok_divisor (T : Txt K mg) : FnOk P w K mg base CX0 1 (He.ga K "divisor") (fd_divisor T) ["a", "b"] sp_divisor := by
  refine (F_divisor T).ok sc_divisor (fun vs H Q E h => ?_) (fun cdv A outer s H vs Q E hr h => ⟨_, PSs.nox (pss_cons (ps_par3 (i := 2) (j := 3) (l := 4) rfl sc_divisor.nd rfl rfl rfl (by decide) (by decide) (by decide) rfl rfl rfl (pa_cons (pv 0) (pa_cons pe_int (pa_cons pe_int pa_nil))) rfl)
      (pss_cons (ps_par3 (i := 5) (j := 6) (l := 7) rfl sc_divisor.nd rfl rfl rfl (by decide) (by decide) (by decide) rfl rfl rfl (pa_cons (pv 1) (pa_cons pe_int (pa_cons pe_int pa_nil))) rfl)
      (pss_cons (ps_while PassesOwn.never (pt_cmpR op_ne (pv 5) pe_int (nomark _)) (pss_cons (ps_set (i := 8) sc_divisor.nd rfl (Or.inl rfl) (pe_op op_divF (pv 2) (pv 5)))
      (pss_cons (ps_par (i := 2) (j := 5) rfl sc_divisor.nd rfl rfl (by decide) rfl rfl (pa_cons (pv 5) (pa_cons (pe_op op_sub (pv 2) (pe_op op_mulW (pv 8) (pv 5))) pa_nil)) rfl)
      (pss_cons (ps_par (i := 3) (j := 6) rfl sc_divisor.nd rfl rfl (by decide) rfl rfl (pa_cons (pv 6) (pa_cons (pe_op op_sub (pv 3) (pe_op op_mulW (pv 8) (pv 6))) pa_nil)) rfl)
      (pss_one (ps_par (i := 4) (j := 7) rfl sc_divisor.nd rfl rfl (by decide) rfl rfl (pa_cons (pv 7) (pa_cons (pe_op op_sub (pv 4) (pe_op op_mulW (pv 8) (pv 7))) pa_nil)) rfl))))))
      (pss_cons (ps_if (pt_cmpR op_lt (pv 2) pe_int (nomark _)) (pss_one (ps_ret (pe_tup (pa_cons (pe_un un_neg (pv 2)) (pa_cons (pe_un un_neg (pv 3)) (pa_cons (pe_un un_neg (pv 4)) pa_nil)))))) pss_nil)
      (pss_one (ps_ret (pe_tup (pa_cons (pv 2) (pa_cons (pv 3) (pa_cons (pv 4) pa_nil)))))))))), ?_⟩)
  · obtain ⟨a, b, rfl, _⟩ := h; rfl
  · obtain ⟨a, b, rfl, ha, hb, k⟩ := h
    walk_at "g"
    refine s_while (fun σ H' => H' = H ∧ ∃ (g u v r x y : Int) (t : Option V), σ = [some (.int a), some (.int b), some (.int g), some (.int u), some (.int v), some (.int r), some (.int x), some (.int y), t] ∧ M.DivSt a b g u v r x y)
      (fun σ _ => (iv σ 5).natAbs) ⟨rfl, a, 1, 0, b, 0, 1, none, rfl, .inl ⟨rfl, rfl, rfl, rfl, rfl, rfl⟩⟩ ?_
    · rintro σ H' ⟨rfl, g, u, v, r, x, y, t, rfl, I⟩
      walk_at "g"
      refine s_iten (fun hr => ?_) (fun hr => ?_)
      · have Z := M.div_sizes I
        have hd : r ≠ 0 := hr
        have st := M.div_step I hd
        have hf : (g.fdiv r).natAbs ≤ g.natAbs := M.fdiv_le g r
        walk_at "g"
        refine s_i (divF hd (by omega)) ?_
        walk_at "g"
        exact ⟨⟨rfl, _, _, _, _, _, _, _, rfl, st.1⟩, st.2⟩
      · walk_at "g"
        have T := M.div_told I hr
        refine s_ite (fun hg => ?_) (fun hg => ?_)
        · walk_at "g"
          exact ⟨len_le (by simp), fun p hp => k _ _ _ p (T.1 hg) hp⟩
        · walk_at "g"
          exact ⟨len_le (by simp), fun p hp => k _ _ _ p (T.2 hg) hp⟩

/-- inverse(n, a): the number that, times a, is 1 by n; else NoInverse(the divisor) -/
def sp_inverse (K : PySem.W.Frag) : Sp := fun vs H Q E => ∃ n a : Int, vs = [.int n, .int a] ∧ 0 < n ∧ n.natAbs < 2 ^ 900 ∧
  (Int.gcd a n = 1 → ∀ (H' : Hp) (b : Int), Same H H' → 0 ≤ b → b < n → (b * a - 1) % n = 0 → Q (.int b) H') ∧
  (Int.gcd a n ≠ 1 → ∀ (d : Addr) (H' : Hp), H d = none → Same H H' → H' d = some (.xd [("divisor", .int (Int.gcd a n))]) → E (.ref (He.ga K "NoInverse")) (some d) H')
theorem ok_inverse (T : Txt K mg) : FnOk P w K mg base (L2.CX P w) 5 (He.ga K "inverse") (fd_inverse T) ["n", "a"] (sp_inverse K) := by
  refine (F_inverse T).ok sc_inverse (fun vs H Q E h => ?_) (fun cdv A outer s H vs Q E hr h => ⟨_, (pss_cons (ps_asg (pe_call (ok_divisor T) (hr.mono (by decide)) rfl (g_divisor T) (kp_divisor T) (B_divisor T) .nil pass0 (pa_cons (pe_op op_mod (pv 1) (pv 0)) (pa_cons (pv 0) pa_nil))) (pg_tup rfl (pgs_cons (pg_name (i := 2) sc_inverse.nd rfl (Or.inl rfl)) (pgs_cons (pg_name (i := 3) sc_inverse.nd rfl (Or.inl rfl)) (pgs_cons (pg_name (i := 4) sc_inverse.nd rfl (Or.inl rfl)) pgs_nil)))))
      (pss_cons (ps_if (pt_cmpR op_gt (pv 2) pe_int (nomark _)) (pss_one (ps_raise rfl (takes_of rfl rfl rfl rfl) (pmk_oex (x_NoInverse T).oex (x_NoInverse T).iC (x_NoInverse T).tI (ok_init_NoInverse T) (hr.mono (by decide)) (B_init_NoInverse T) .nil pass0 rfl (g_NoInverse T) (pa_cons (pv 2) pa_nil)))) pss_nil)
      (pss_one (ps_ret (pe_op op_mod (pv 3) (pv 0)))))), ?_⟩)
  · obtain ⟨n, a, rfl, _⟩ := h; rfl
  · obtain ⟨n, a, rfl, h0, hn, k1, k2⟩ := h
    have ha0 := Int.emod_nonneg a (show n ≠ 0 by omega)
    have ha1 := Int.emod_lt_of_pos a h0
    have gp := M.gcd_pos (a := a) h0
    walk_at "g"
    refine s_i (by omega) ?_
    walk_at "g"
    refine ⟨a % n, n, rfl, by omega, hn, fun g u v p I hp => ?_⟩
    have S1 : Same H (upd H p (.tup [.int g, .int u, .int v])) := same_upd hp
    have T1 : upd H p (.tup [.int g, .int u, .int v]) p = some (.tup [.int g, .int u, .int v]) := upd_same
    generalize upd H p (.tup [.int g, .int u, .int v]) = H1 at S1 T1 ⊢
    have hg := I.hg
    rw [M.gcd_mod] at hg
    walk_at "g"
    refine s_gtup (SqT.of T1) rfl ?_
    walk_at "g"
    refine s_ite (fun c => ?_) (fun c => ?_)
    · walk_at "g"
      refine s_raise (x_NoInverse T).oex (x_NoInverse T).noF fun d H' hd hx hs => ?_
      rw [hg] at hx
      exact k2 (by omega) d H' (S1.free hd) (S1.trans hs) hx
    · walk_at "g"
      refine s_i (by omega) ?_
      have g1 : Int.gcd a n = 1 := by omega
      exact k1 g1 H1 _ S1 (Int.emod_nonneg _ (by omega)) (Int.emod_lt_of_pos _ h0) (M.inv_of h0 I g1)

/-- a def of which nothing is asked -/
theorem ok_never1 {CX : CXT} {f : Addr} {fd : FuncData} {ps : List Str} : FnOk P w K mg base CX 1 f fd ps (fun _ _ _ _ => False) := ⟨fun _ _ _ _ h => h.elim, fun _ _ _ _ _ _ _ _ _ _ _ _ _ h => h.elim⟩
/-- power(n, a, e), e from 0 on -/
def sp_power0 : Sp := fun vs H Q _ => ∃ (n a : Int) (e : Nat), vs = [.int n, .int a, .int e] ∧ 0 < n ∧ n.natAbs < 2 ^ 900 ∧ Q (.int (M.pw n a e)) H
theorem ok_power0 (T : Txt K mg) : FnOk P w K mg base (L2.CX P w) 6 (He.ga K "power") (fd_power T) ["n", "a", "e"] sp_power0 := by
  refine (F_power T).ok sc_power (fun vs H Q E h => ?_) (fun cdv A outer s H vs Q E hr h => ⟨_, (pss_cons (ps_if (pt_cmpR op_lt (pv 2) pe_int (nomark _)) (pss_one (ps_ret (pe_call (ok_never1) (hr.mono (by decide)) rfl (g_power T) (kp_power T) (B_power T) .nil (passes_call (takes_of rfl rfl rfl rfl) (fun _ _ _ _ h => h)) (pa_cons (pv 0) (pa_cons (pe_call (ok_inverse T) (hr.mono (by decide)) rfl (g_inverse T) (kp_inverse T) (B_inverse T) .nil (passes_call (takes_of rfl rfl rfl rfl) (fun _ _ _ _ h => h)) (pa_cons (pv 0) (pa_cons (pv 1) pa_nil))) (pa_cons (pe_un un_neg (pv 2)) pa_nil)))))) pss_nil)
      (pss_cons (ps_set (i := 3) sc_power.nd rfl (Or.inl rfl) (pe_op op_mod pe_int (pv 0)))
      (pss_cons (ps_set (i := 4) sc_power.nd rfl (Or.inl rfl) (pe_op op_mod (pv 1) (pv 0)))
      (pss_cons (ps_while (passes_of rfl) (pt_cmpR op_gt (pv 2) pe_int (nomark _)) (pss_cons (ps_if (pt_cmpR op_eq (pe_op op_mod (pv 2) pe_int) pe_int (nomark _)) (pss_one (ps_set (i := 3) sc_power.nd rfl (Or.inl rfl) (pe_op op_mod (pe_op op_mulW (pv 3) (pv 4)) (pv 0)))) pss_nil)
      (pss_cons (ps_set (i := 4) sc_power.nd rfl (Or.inl rfl) (pe_op op_mod (pe_op op_mulW (pv 4) (pv 4)) (pv 0)))
      (pss_one (ps_set (i := 2) sc_power.nd rfl (Or.inl rfl) (pe_op op_fdivW (pv 2) pe_int))))))
      (pss_one (ps_ret (pv 3))))))), ?_⟩)
  · obtain ⟨n, a, e, rfl, _⟩ := h; rfl
  · obtain ⟨n, a, e, rfl, h0, hn, k⟩ := h
    walk_at "g"
    refine s_itN (by omega) ?_
    walk_at "g"
    refine s_i (by omega) ?_
    walk_at "g"
    refine s_i (by omega) ?_
    walk_at "g"
    refine s_while (fun σ H' => H' = H ∧ ∃ (e' : Nat) (f b : Int), σ = [some (.int n), some (.int a), some (.int e'), some (.int f), some (.int b)] ∧ 0 ≤ f ∧ f < n ∧ 0 ≤ b ∧ b < n ∧ f * b ^ e' % n = M.pw n a e)
      (fun σ _ => (iv σ 2).natAbs) ⟨rfl, e, _, _, rfl, Int.emod_nonneg _ (by omega), Int.emod_lt_of_pos _ h0, Int.emod_nonneg _ (by omega), Int.emod_lt_of_pos _ h0, M.pw_one⟩ ?_
    rintro σ H' ⟨rfl, e', f, b, rfl, f0, f1, b0, b1, inv⟩
    have st := M.pw_turn inv
    walk_at "g"
    refine s_ite (fun c => ?_) (fun c => ?_)
    · have e2 : (e' : Int) / 2 = ((e' / 2 : Nat) : Int) := by omega
      walk_at "h"
      refine s_join (fun σ' H1 => H1 = H' ∧ ∃ f' : Int, σ' = [some (.int n), some (.int a), some (.int e'), some (.int f'), some (.int b)] ∧ 0 ≤ f' ∧ f' < n ∧ f' * (b * b % n) ^ (e' / 2) % n = M.pw n a e) ?_ fun N J => ?_
      · rintro σ' H1 ⟨rfl, f', rfl, f0', f1', inv'⟩
        walk_at "g"
        refine s_i (by omega) ?_
        walk_at "g"
        refine ⟨⟨rfl, e' / 2, f', _, ?_, f0', f1', Int.emod_nonneg _ (by omega), Int.emod_lt_of_pos _ h0, inv'⟩, ?_⟩
        · rw [e2]; rfl
        · show ((e' : Int) / 2).natAbs < (e' : Int).natAbs
          omega
      · walk_at "g"
        refine s_ite (fun c2 => ?_) (fun c2 => ?_)
        · walk_at "g"
          refine s_i (by omega) ?_
          walk_at "g"
          exact J _ _ ⟨rfl, _, rfl, Int.emod_nonneg _ (by omega), Int.emod_lt_of_pos _ h0, st.1 (by omega)⟩
        · walk_at "g"
          exact J _ _ ⟨rfl, _, rfl, f0, f1, st.2 (by omega)⟩
    · have z : e' = 0 := by omega
      subst z
      walk_at "g"
      rw [M.pw_end f0 f1 inv]
      exact k
/-- power(n, a, e) -/
def sp_power (K : PySem.W.Frag) : Sp := fun vs H Q E => ∃ n a e : Int, vs = [.int n, .int a, .int e] ∧ 0 < n ∧ n.natAbs < 2 ^ 900 ∧
  (0 ≤ e → Q (.int (M.pw n a e.toNat)) H) ∧
  (e < 0 → Int.gcd a n = 1 → ∀ (H' : Hp) (b : Int), Same H H' → 0 ≤ b → b < n → (b * a - 1) % n = 0 → Q (.int (M.pw n b (-e).toNat)) H') ∧
  (e < 0 → Int.gcd a n ≠ 1 → ∀ (d : Addr) (H' : Hp), H d = none → Same H H' → H' d = some (.xd [("divisor", .int (Int.gcd a n))]) → E (.ref (He.ga K "NoInverse")) (some d) H')
/-- .. e below 0 -/
def sp_powerN (K : PySem.W.Frag) : Sp := fun vs H Q E => ∃ n a e : Int, vs = [.int n, .int a, .int e] ∧ 0 < n ∧ n.natAbs < 2 ^ 900 ∧ e < 0 ∧
  (Int.gcd a n = 1 → ∀ (H' : Hp) (b : Int), Same H H' → 0 ≤ b → b < n → (b * a - 1) % n = 0 → Q (.int (M.pw n b (-e).toNat)) H') ∧
  (Int.gcd a n ≠ 1 → ∀ (d : Addr) (H' : Hp), H d = none → Same H H' → H' d = some (.xd [("divisor", .int (Int.gcd a n))]) → E (.ref (He.ga K "NoInverse")) (some d) H')
theorem ok_powerN (T : Txt K mg) : FnOk P w K mg base (L2.CX P w) 7 (He.ga K "power") (fd_power T) ["n", "a", "e"] (sp_powerN K) := by
  refine (F_power T).ok sc_power (fun vs H Q E h => ?_) (fun cdv A outer s H vs Q E hr h => ⟨_, (pss_cons (ps_if (pt_cmpR op_lt (pv 2) pe_int (nomark _)) (pss_one (ps_ret (pe_call (ok_power0 T) (hr.mono (by decide)) rfl (g_power T) (kp_power T) (B_power T) .nil (passes_call (takes_of rfl rfl rfl rfl) (fun _ _ _ _ h => h)) (pa_cons (pv 0) (pa_cons (pe_call (ok_inverse T) (hr.mono (by decide)) rfl (g_inverse T) (kp_inverse T) (B_inverse T) .nil (passes_call (takes_of rfl rfl rfl rfl) (fun _ _ _ _ h => h)) (pa_cons (pv 0) (pa_cons (pv 1) pa_nil))) (pa_cons (pe_un un_neg (pv 2)) pa_nil)))))) pss_nil)
      (pss_cons (ps_set (i := 3) sc_power.nd rfl (Or.inl rfl) (pe_op op_mod pe_int (pv 0)))
      (pss_cons (ps_set (i := 4) sc_power.nd rfl (Or.inl rfl) (pe_op op_mod (pv 1) (pv 0)))
      (pss_cons (ps_while (passes_of rfl) (pt_cmpR op_gt (pv 2) pe_int (nomark _)) (pss_cons (ps_if (pt_cmpR op_eq (pe_op op_mod (pv 2) pe_int) pe_int (nomark _)) (pss_one (ps_set (i := 3) sc_power.nd rfl (Or.inl rfl) (pe_op op_mod (pe_op op_mulW (pv 3) (pv 4)) (pv 0)))) pss_nil)
      (pss_cons (ps_set (i := 4) sc_power.nd rfl (Or.inl rfl) (pe_op op_mod (pe_op op_mulW (pv 4) (pv 4)) (pv 0)))
      (pss_one (ps_set (i := 2) sc_power.nd rfl (Or.inl rfl) (pe_op op_fdivW (pv 2) pe_int))))))
      (pss_one (ps_ret (pv 3))))))), ?_⟩)
  · obtain ⟨n, a, e, rfl, _⟩ := h; rfl
  · obtain ⟨n, a, e, rfl, h0, hn, c, k1, k2⟩ := h
    walk_at "g"
    refine s_itP c ?_
    walk_at "g"
    refine ⟨n, a, rfl, h0, hn, fun g1 H' b hs b0 b1 hb => ?_, fun g1 d H' hd hs hx => k2 g1 d H' hd hs hx⟩
    walk_at "g"
    refine ⟨n, b, (-e).toNat, ?_, h0, hn, k1 g1 H' b hs b0 b1 hb⟩
    have : -e = ((-e).toNat : Int) := by omega
    rw [← this]; rfl
theorem ok_power (T : Txt K mg) : FnOk P w K mg base (L2.CX P w) 7 (He.ga K "power") (fd_power T) ["n", "a", "e"] (sp_power K) := by
  refine fn_or ((ok_power0 T).mono (by decide)) (ok_powerN T) fun vs H Q E ⟨n, a, e, ev, h0, hn, k0, k1, k2⟩ => ?_
  subst ev
  by_cases c : e < 0
  · exact .inr ⟨n, a, e, rfl, h0, hn, c, k1 c, k2 c⟩
  · refine .inl ⟨n, a, e.toNat, ?_, h0, hn, k0 (by omega)⟩
    have : e = (e.toNat : Int) := by omega
    rw [← this]
theorem pos_power {H : Hp} {Q : VK} {E : XK} {n a e : Int} {m : Nat} (he : e = m) (h0 : 0 < n) (hn : n.natAbs < 2 ^ 900) (k : Q (.int (M.pw n a m)) H) : sp_power K [.int n, .int a, .int e] H Q E :=
  ⟨n, a, e, rfl, h0, hn, fun _ => by rw [show e.toNat = m by omega]; exact k, fun c => by omega, fun c => by omega⟩

/-- halves(e): a new list of e and its halves, from 0 on -/
def sp_halves : Sp := fun vs H Q _ => ∃ e : Nat, vs = [.int e] ∧ e < 2 ^ 900 ∧ ∀ p H', H p = none → Same H H' → H' p = some (.lst ((M.hv e).map fun x => V.int (x : Nat))) → Q (.ref p) H'
theorem ok_halves (T : Txt K mg) : FnOk P w K mg base CX0 1 (He.ga K "halves") (fd_halves T) ["e"] sp_halves := by
  refine (F_halves T).ok sc_halves (fun vs H Q E h => ?_) (fun cdv A outer s H vs Q E hr h => ⟨_, PSs.nox (pss_cons (ps_set (i := 1) sc_halves.nd rfl (Or.inl rfl) (pe_lst (pa_cons (pv 0) pa_nil)))
      (pss_cons (ps_while PassesOwn.never (pt_cmpR op_gt (pe_ix ix_seq (pv 1) pe_int (fun _ _ => rfl)) pe_int (nomark _)) (pss_one (ps_expr (pe_bm PySem.F.plainAttrs_list PySem.F.slot_list_insert PySem.F.type_list_insert mtIns (pv 1) (pa_cons pe_int (pa_cons (pe_op op_fdivW (pe_ix ix_seq (pv 1) pe_int (fun _ _ => rfl)) pe_int) pa_nil))))))
      (pss_one (ps_ret (pv 1))))), ?_⟩)
  · obtain ⟨e, rfl, _⟩ := h; rfl
  · obtain ⟨e, rfl, he, k⟩ := h
    have hlen := M.hv_len 900 e he
    walk_at "g"
    refine mkL (by simp) fun p H1 np e1 s1 => ?_
    walk_at "g"
    refine s_while (fun σ H' => Same H H' ∧ σ = [some (.int e), some (.ref p)] ∧ ∃ (x : Nat) (r : List Nat), H' p = some (.lst ((x :: r).map fun x => V.int (x : Nat))) ∧ M.hv x ++ r = M.hv e)
      (fun _ H' => match H' p with
        | some (.lst (.int x :: _)) => x.natAbs
        | _ => 0) ⟨s1, rfl, e, [], e1, by simp⟩ ?_
    rintro σ H' ⟨hs, rfl, x, r, hp, inv⟩
    walk_at "g"
    refine s_ixL (SqL.of hp) (atI0 0 rfl rfl) ?_
    walk_at "g"
    refine s_ite (fun c => ?_) (fun c => ?_)
    · have hx : 0 < x := by omega
      have hl : ((x :: r).map fun x => V.int (x : Nat)).length < sizeLine := by
        have e3 : (M.hv x ++ r).length = (M.hv e).length := by rw [inv]
        have e4 : 0 < (M.hv x).length := by rw [M.hv_pos hx]; simp
        rw [List.length_append] at e3
        refine small1000 ?_
        rw [List.length_map, List.length_cons]; omega
      walk_at "g"
      refine ⟨s_tyL hp, ?_⟩
      walk_at "g"
      refine s_ixL (SqL.of hp) (atI0 0 rfl rfl) ?_
      walk_at "g"
      refine s_ins0 hp hl ?_
      walk_at "g"
      have e2 : (x : Int) / 2 = ((x / 2 : Nat) : Int) := by omega
      refine ⟨⟨same_upd' hs np, rfl, x / 2, x :: r, ?_, ?_⟩, ?_⟩
      · rw [upd_same, e2]; rfl
      · rw [← inv, M.hv_pos hx, List.append_assoc]; rfl
      · simp only [upd_same, hp]
        show ((x : Int) / 2).natAbs < (x : Int).natAbs
        omega
    · have hx : x = 0 := by omega
      subst hx
      walk_at "g"
      rw [M.hv_zero] at inv
      refine k p H' np hs ?_
      rw [← inv]; exact hp

/-- power_row(n, a, e): a new list of new tuples -/
def sp_power_row : Sp := fun vs H Q _ => ∃ (n a : Int) (e : Nat), vs = [.int n, .int a, .int e] ∧ 0 < n ∧ n.natAbs < 2 ^ 900 ∧ a.natAbs < 2 ^ 900 ∧ e < 2 ^ 900 ∧
  ∀ p H' xs, H p = none → Same H H' → H' p = some (.lst xs) → TupsIn H' xs ((M.hv e).map fun x => [V.int (x : Nat), V.int (M.pw n a x)]) → Q (.ref p) H'
theorem ok_power_row (T : Txt K mg) : FnOk P w K mg base CX0 2 (He.ga K "power_row") (fd_power_row T) ["n", "a", "e"] sp_power_row := by
  refine (F_power_row T).ok sc_power_row (fun vs H Q E h => ?_) (fun cdv A outer s H vs Q E hr h => ⟨_, PSs.nox (pss_cons (ps_set (i := 3) sc_power_row.nd rfl (Or.inl rfl) (pe_lst pa_nil))
      (pss_cons (ps_set (i := 4) sc_power_row.nd rfl (Or.inl rfl) (pe_op op_mod pe_int (pv 0)))
      (pss_cons (ps_for PassesOwn.never rfl (pi_list (pe_call (ok_halves T) (hr.mono (by decide)) rfl (g_halves T) (kp_halves T) (B_halves T) .nil pass0 (pa_cons (pv 2) pa_nil))) (pg_name (i := 5) sc_power_row.nd rfl (Or.inl rfl)) (pss_cons (ps_if (pt_cmpR op_gt (pe_callB callLen rfl (T.fr (T.c.fact 15 rfl)) boot_len (pa_cons (pv 3) pa_nil)) pe_int (nomark _)) (pss_one (ps_set (i := 4) sc_power_row.nd rfl (Or.inl rfl) (pe_op op_mod (pe_op op_mulW (pv 4) (pv 4)) (pv 0)))) pss_nil)
      (pss_cons (ps_if (pt_cmpR op_eq (pe_op op_mod (pv 5) pe_int) pe_int (nomark _)) (pss_one (ps_set (i := 4) sc_power_row.nd rfl (Or.inl rfl) (pe_op op_mod (pe_op op_mulW (pv 4) (pv 1)) (pv 0)))) pss_nil)
      (pss_one (ps_expr (pe_bm PySem.F.plainAttrs_list PySem.F.slot_list_append PySem.F.type_list_append mt_append (pv 3) (pa_cons (pe_tup (pa_cons (pv 5) (pa_cons (pv 4) pa_nil))) pa_nil)))))))
      (pss_one (ps_ret (pv 3)))))), ?_⟩)
  · obtain ⟨n, a, e, rfl, _⟩ := h; rfl
  · obtain ⟨n, a, e, rfl, h0, hn, ha, he, k⟩ := h
    have hlen := M.hv_len 900 e he
    obtain ⟨a0, a1, a2⟩ := M.hv_at e
    walk_at "g"
    refine mkL (by simp) fun p H1 np e1 s1 => ?_
    walk_at "g"
    refine s_i (by omega) ?_
    walk_at "g"
    refine ⟨e, rfl, he, fun q H2 nq s2 e2 => ?_⟩
    walk_at "g"
    refine ⟨⟨_, SqL.of e2⟩, ?_⟩
    have hpq : q ≠ p := fun z => by rw [z, e1] at nq; cases nq
    refine for_list (fun i σ H' => H' q = some (.lst ((M.hv e).map fun x => V.int (x : Nat))) ∧ Same H H' ∧ ∃ (v : Option V) (f : Int) (xs : List V), σ = [some (.int n), some (.int a), some (.int e), some (.ref p), some (.int f), v] ∧
        H' p = some (.lst xs) ∧ TupsIn H' xs (((M.hv e).take i).map fun x => [V.int (x : Nat), V.int (M.pw n a x)]) ∧ (i = 0 → f = 1 % n) ∧ (∀ j x, i = j + 1 → (M.hv e)[j]? = some x → f = M.pw n a x))
      ⟨e2, s1.trans s2, none, _, [], rfl, s2 _ _ e1, .nil, fun _ => rfl, fun j x z => by omega⟩ (fun i σ H' _ I => SqL.of I.1) ?_ ?_
    · rintro i x σ H' hi ⟨hq, hs, v, f, xs, rfl, hp, ht, f0, f1⟩
      rw [List.getElem?_map] at hi
      obtain ⟨x, hx, rfl⟩ := Option.map_eq_some_iff.mp hi
      have hil : i < (M.hv e).length := (List.getElem?_eq_some_iff.mp hx).1
      have hxl : xs.length = i := by
        have := ht.length
        rw [List.length_map, List.length_take] at this; omega
      have hf : 0 ≤ f ∧ f < n := by
        rcases i with _ | j
        · rw [f0 rfl]; exact ⟨Int.emod_nonneg _ (by omega), Int.emod_lt_of_pos _ h0⟩
        · rw [f1 j _ rfl (a2 j x hx).1]; exact M.pw_range h0 a _
      walk_at "h"
      refine s_join (fun σ' H1 => H1 = H' ∧ ∃ f' : Int, σ' = [some (.int n), some (.int a), some (.int e), some (.ref p), some (.int f'), some (.int x)] ∧ 0 ≤ f' ∧ f' < n ∧
        (x % 2 = 1 → f' * a % n = M.pw n a x) ∧ (x % 2 ≠ 1 → f' = M.pw n a x)) ?_ fun N J => ?_
      · rintro σ' H3 ⟨rfl, f', rfl, g0, g1, o1, o2⟩
        walk_at "h"
        refine s_join (fun σ' H1 => H1 = H3 ∧ σ' = [some (.int n), some (.int a), some (.int e), some (.ref p), some (.int (M.pw n a x)), some (.int x)]) ?_ fun N J => ?_
        · rintro σ' H4 ⟨rfl, rfl⟩
          walk_at "g"
          refine ⟨s_tyL hp, ?_⟩
          walk_at "g"
          refine mkT (by simp) fun t H5 nt et st => ?_
          walk_at "g"
          refine s_append (st _ _ hp) (small1000 (by omega)) ?_
          walk_at "g"
          have hp5 := st _ _ hp
          refine ⟨?_, same_upd' (hs.trans st) np, some (.int x), M.pw n a x, xs ++ [.ref t], rfl, upd_same, ?_, fun z => by omega, fun j y e3 e4 => ?_⟩
          · rw [upd_ne hpq]; exact st _ _ hq
          · rw [take_more hx, List.map_append]
            have z := TupsIn.upd (p := p) (o := .lst (xs ++ [.ref t])) hp5 (ht.same st)
            refine paired_snoc z ⟨t, rfl, ?_⟩
            rw [upd_ne (ne_of_none hp nt).symm]; exact et
          · have e5 : j = i := by omega
            subst e5
            rw [hx] at e4
            cases e4; rfl
        · walk_at "g"
          refine s_ite (fun c => ?_) (fun c => ?_)
          · walk_at "g"
            refine s_i (by omega) ?_
            walk_at "g"
            rw [o1 (by omega)]
            exact J _ _ ⟨rfl, rfl⟩
          · walk_at "g"
            rw [o2 (by omega)]
            exact J _ _ ⟨rfl, rfl⟩
      · walk_at "g"
        refine s_lenL (SqL.of hp) ?_
        walk_at "g"
        refine s_ite (fun c => ?_) (fun c => ?_)
        · walk_at "g"
          refine s_i (by omega) ?_
          walk_at "g"
          rcases i with _ | j
          · omega
          have z := f1 j _ rfl (a2 j x hx).1
          have hh := M.pw_half n a x
          rw [← z] at hh
          exact J _ _ ⟨rfl, _, rfl, Int.emod_nonneg _ (by omega), Int.emod_lt_of_pos _ h0, hh.1, hh.2⟩
        · walk_at "g"
          have i0 : i = 0 := by omega
          subst i0
          rw [a0] at hx
          cases hx
          exact J _ _ ⟨rfl, f, rfl, hf.1, hf.2, fun z => by omega, fun _ => by rw [f0 rfl, M.pw_zero]⟩
    · rintro σ H' ⟨hq, hs, v, f, xs, rfl, hp, ht, f0, f1⟩
      rw [List.length_map, List.take_length] at ht
      walk_at "g"
      exact k p H' xs np hs hp ht

/-- _law_draws(cell, many): a new list of many numbers from 0 to below 10 ** 60 -/
def sp__law_draws : Sp := fun vs H Q _ => ∃ (c : Int) (n : Nat), vs = [.int c, .int n] ∧ n ≤ 100 ∧
  ∀ H' p (xs : List Int), xs.length = n → (∀ x ∈ xs, 0 ≤ x ∧ x < 10 ^ 60) → Same H H' → H p = none → H' p = some (.lst (xs.map V.int)) → Q (.ref p) H'
theorem ok__law_draws (T : Txt K mg) : FnOk P w K mg base CX0 1 (He.ga K "_law_draws") (fd__law_draws T) ["_law_cell", "_law_many"] sp__law_draws := by
  refine (F__law_draws T).ok sc__law_draws (fun vs H Q E h => ?_) (fun cdv A outer s H vs Q E hr h => ⟨_, PSs.nox (pss_cons (ps_set (i := 2) sc__law_draws.nd rfl (Or.inl rfl) (pe_lst pa_nil))
      (pss_cons (ps_for PassesOwn.never rfl (pi_range1 rfl (T.fr (T.c.fact 22 rfl)) (pa_cons (pv 1) pa_nil)) (pg_name (i := 3) sc__law_draws.nd rfl (Or.inl rfl)) (pss_one (ps_if (pt_cmpR op_ge (pe_callB callAbs rfl (T.fr (T.c.fact 23 rfl)) boot_abs (pa_cons (pv 0) pa_nil)) (pe_op op_pow pe_int pe_int) (nomark _)) (pss_cons (ps_expr (pe_bm PySem.F.plainAttrs_list PySem.F.slot_list_append PySem.F.type_list_append mt_append (pv 2) (pa_cons (pe_op op_mod (pv 0) (pe_op op_pow pe_int pe_int)) pa_nil)))
      (pss_one (ps_set (i := 0) sc__law_draws.nd rfl (Or.inl rfl) (pe_op op_fdivW (pv 0) (pe_op op_pow pe_int pe_int))))) (pss_cons (ps_set (i := 4) sc__law_draws.nd rfl (Or.inl rfl) (pe_op op_mod (pe_op op_mulW (pe_op op_mod (pe_op op_add (pe_op op_add (pv 0) (pe_op op_mulW (pe_op op_mulW pe_int (pv 3)) (pv 3))) (pv 3)) pe_int) pe_int) pe_int))
      (pss_cons (ps_set (i := 4) sc__law_draws.nd rfl (Or.inl rfl) (pe_op op_fdivW (pe_op op_mod (pe_op op_mulW (pv 4) (pe_op op_add (pe_op op_add (pv 4) (pe_op op_mulW pe_int (pv 3))) pe_int)) pe_int) pe_int))
      (pss_one (ps_expr (pe_bm PySem.F.plainAttrs_list PySem.F.slot_list_append PySem.F.type_list_append mt_append (pv 2) (pa_cons (pe_ix ix_seq (pe_lst (pa_cons (pv 4) (pa_cons (pe_op op_mod (pe_op op_fdivW (pe_op op_pow (pv 4) pe_int) pe_int) (pe_op op_pow pe_int pe_int)) pa_nil))) (pe_op op_mod (pe_op op_fdivW (pv 4) pe_int) pe_int) (fun _ _ => rfl)) pa_nil)))))))))
      (pss_one (ps_ret (pv 2))))), ?_⟩)
  · obtain ⟨c, n, rfl, _⟩ := h; rfl
  · obtain ⟨c, n, rfl, hn, k⟩ := h
    walk_at "g"
    refine ⟨len_le (by simp), fun p hp => ?_⟩
    walk_at "g"
    refine mkR1 n (by omega) (by omega) (by omega) ?_
    refine for_range (n := n) (fun i σ H' => ∃ (c : Int) (u v : Option V) (xs : List Int), σ = [some (.int c), some (.int n), some (.ref p), u, v] ∧ xs.length = i ∧ (∀ x ∈ xs, 0 ≤ x ∧ x < 10 ^ 60) ∧ Same H H' ∧ H' p = some (.lst (xs.map V.int)))
      ⟨c, none, none, [], rfl, rfl, by simp, same_upd hp, upd_same⟩ ?_ ?_
    · rintro i σ H' hi ⟨c, u, v, xs, rfl, hl, hx, hs, hpp⟩
      have more : ∀ x : Int, 0 ≤ x → x < 10 ^ 60 → ∀ y ∈ xs ++ [x], 0 ≤ y ∧ y < 10 ^ 60 := fun x h0 h1 y hy => by
        rcases List.mem_append.mp hy with z | z
        · exact hx y z
        · rw [List.mem_singleton.mp z]; exact ⟨h0, h1⟩
      have hl2 : (xs.map V.int).length < sizeLine := small1000 (by rw [List.length_map]; omega)
      walk_at "g"
      refine s_ite (fun hc => ?_) (fun hc => ?_)
      · walk_at "g"
        refine ⟨s_tyL hpp, ?_⟩
        walk_at "g"
        refine s_append hpp hl2 ?_
        walk_at "g"
        refine ⟨_, _, _, xs ++ [c % 10 ^ 60], rfl, by rw [List.length_append, hl]; rfl, more _ (Int.emod_nonneg _ (by decide)) (Int.emod_lt_of_pos _ (by decide)), same_upd' hs hp, ?_⟩
        rw [upd_same, List.map_append]; rfl
      · walk_at "g"
        refine ⟨s_tyL hpp, ?_⟩
        have h1 : 0 ≤ (c + 7919 * (0 + (i : Int)) * (0 + i) + (0 + i)) % 2147483647 * 48271 % 2147483647 := by omega
        have h2 : (c + 7919 * (0 + (i : Int)) * (0 + i) + (0 + i)) % 2147483647 * 48271 % 2147483647 < 2147483647 := by omega
        generalize (c + 7919 * (0 + (i : Int)) * (0 + i) + (0 + i)) % 2147483647 * 48271 % 2147483647 = n1 at h1 h2 ⊢
        generalize h3 : n1 * (n1 + 12345 * (0 + (i : Int)) + 7) = m
        have h4 : 0 ≤ m % 2147483629 / 11 := by omega
        have h5 : m % 2147483629 / 11 < 195225785 := by omega
        generalize m % 2147483629 / 11 = n2 at h4 h5 ⊢
        walk_at "g"
        refine ⟨len_le (by simp), fun p2 hp2 => ?_⟩
        walk_at "g"
        refine s_pick2 (P := fun z => 0 ≤ z ∧ z < 10 ^ 60) upd_same (by omega) (by omega) ⟨Int.emod_nonneg _ (by decide), Int.emod_lt_of_pos _ (by decide)⟩ fun z hz => ?_
        walk_at "g"
        have hpp2 : upd H' p2 (HO.lst [V.int n2, V.int (n2 ^ 7 / 13 % 10 ^ 60)]) p = some (.lst (xs.map V.int)) := same_upd hp2 _ _ hpp
        refine s_append hpp2 hl2 ?_
        walk_at "g"
        refine ⟨_, _, _, xs ++ [z], rfl, by rw [List.length_append, hl]; rfl, more _ hz.1 hz.2, same_upd' (same_new hs hp2) hp, ?_⟩
        rw [upd_same, List.map_append]; rfl
    · rintro σ H' ⟨c, u, v, xs, rfl, hl, hx, hs, hpp⟩
      walk_at "g"
      exact k H' p xs hl hx hs hp hpp

/-! data of any kind, as they lie in the heap; F tells of which lists -/
mutual
inductive DaF (F : Addr → Prop) (H : Hp) : V → PyData → Prop
  | non : DaF F H .non .none
  | bl (b : Bool) : DaF F H (.bl b) (.bool b)
  | int (i : Int) : DaF F H (.int i) (.int i)
  | str (x : Str) : DaF F H (.str x) (.str x)
  | lst {a : Addr} {xs : List V} {ds : List PyData} (e : H a = some (.lst xs)) (h : DaL F H xs ds) (f : F a) : DaF F H (.ref a) (.list ds)
  | tup {a : Addr} {xs : List V} {ds : List PyData} (e : H a = some (.tup xs)) (h : DaL F H xs ds) : DaF F H (.ref a) (.tuple ds)
inductive DaL (F : Addr → Prop) (H : Hp) : List V → List PyData → Prop
  | nil : DaL F H [] []
  | cons {v : V} {d : PyData} {vs : List V} {ds : List PyData} (h : DaF F H v d) (t : DaL F H vs ds) : DaL F H (v :: vs) (d :: ds)
end
/-- data with any lists; data without lists -/
abbrev Da (H : Hp) : V → PyData → Prop := DaF (fun _ => True) H
abbrev Tu (H : Hp) : V → PyData → Prop := DaF (fun _ => False) H
mutual
theorem DaF.same {F : Addr → Prop} {H H' : Hp} (s : Same H H') : ∀ {v : V} {d : PyData}, DaF F H v d → DaF F H' v d
  | _, _, .non => .non
  | _, _, .bl b => .bl b
  | _, _, .int i => .int i
  | _, _, .str x => .str x
  | _, _, .lst e h f => .lst (s _ _ e) (DaL.same s h) f
  | _, _, .tup e h => .tup (s _ _ e) (DaL.same s h)
theorem DaL.same {F : Addr → Prop} {H H' : Hp} (s : Same H H') : ∀ {vs : List V} {ds : List PyData}, DaL F H vs ds → DaL F H' vs ds
  | _, _, .nil => .nil
  | _, _, .cons h t => .cons (DaF.same s h) (DaL.same s t)
end
mutual
theorem DaF.mono {F G : Addr → Prop} {H : Hp} (g : ∀ a, F a → G a) : ∀ {v : V} {d : PyData}, DaF F H v d → DaF G H v d
  | _, _, .non => .non
  | _, _, .bl b => .bl b
  | _, _, .int i => .int i
  | _, _, .str x => .str x
  | _, _, .lst e h f => .lst e (DaL.mono g h) (g _ f)
  | _, _, .tup e h => .tup e (DaL.mono g h)
theorem DaL.mono {F G : Addr → Prop} {H : Hp} (g : ∀ a, F a → G a) : ∀ {vs : List V} {ds : List PyData}, DaL F H vs ds → DaL G H vs ds
  | _, _, .nil => .nil
  | _, _, .cons h t => .cons (DaF.mono g h) (DaL.mono g t)
end
mutual
/-- a list that is none of them may change -/
theorem DaF.upd {F : Addr → Prop} {H : Hp} {p : Addr} {o : HO} {zs : List V} (hp : H p = some (.lst zs)) (n : ¬ F p) : ∀ {v : V} {d : PyData}, DaF F H v d → DaF F (L2.upd H p o) v d
  | _, _, .non => .non
  | _, _, .bl b => .bl b
  | _, _, .int i => .int i
  | _, _, .str x => .str x
  | _, _, @DaF.lst _ _ a _ _ e h f => .lst (by rw [upd_ne (show a ≠ p from fun z => n (z ▸ f))]; exact e) (DaL.upd hp n h) f
  | _, _, .tup e h => .tup (by rw [upd_ne (fun z => by rw [z, hp] at e; cases e)]; exact e) (DaL.upd hp n h)
theorem DaL.upd {F : Addr → Prop} {H : Hp} {p : Addr} {o : HO} {zs : List V} (hp : H p = some (.lst zs)) (n : ¬ F p) : ∀ {vs : List V} {ds : List PyData}, DaL F H vs ds → DaL F (L2.upd H p o) vs ds
  | _, _, .nil => .nil
  | _, _, .cons h t => .cons (DaF.upd hp n h) (DaL.upd hp n t)
end
mutual
theorem DaF.dp (K : PySem.W.Frag) {F : Addr → Prop} {H : Hp} : ∀ {v : V} {d : PyData}, DaF F H v d → Dp K H v d
  | _, _, .non => .non
  | _, _, .bl b => .bl b
  | _, _, .int i => .int i
  | _, _, .str x => .str x
  | _, _, .lst e h _ => .lst (SqL.of e) (DaL.dp K h)
  | _, _, .tup e h => .tup (SqT.of e) (DaL.dp K h)
theorem DaL.dp (K : PySem.W.Frag) {F : Addr → Prop} {H : Hp} : ∀ {vs : List V} {ds : List PyData}, DaL F H vs ds → DpAll K H vs ds
  | _, _, .nil => .nil
  | _, _, .cons h t => .cons (DaF.dp K h) (DaL.dp K t)
end
theorem DaF.any {F : Addr → Prop} {H : Hp} {v : V} {d : PyData} (h : DaF F H v d) : Da H v d := h.mono fun _ _ => trivial
theorem DaL.any {F : Addr → Prop} {H : Hp} {vs : List V} {ds : List PyData} (h : DaL F H vs ds) : DaL (fun _ => True) H vs ds := h.mono fun _ _ => trivial
theorem DaL.len {F : Addr → Prop} {H : Hp} : ∀ {vs : List V} {ds : List PyData}, DaL F H vs ds → vs.length = ds.length
  | _, _, .nil => rfl
  | _, _, .cons _ t => by rw [List.length_cons, List.length_cons, DaL.len t]
theorem DaL.get {F : Addr → Prop} {H : Hp} : ∀ {vs : List V} {ds : List PyData} {i : Nat} {v : V}, DaL F H vs ds → vs[i]? = some v → ∃ d, ds[i]? = some d ∧ DaF F H v d
  | _, _, _, _, .nil, e => by simp at e
  | _, _, 0, _, .cons h _, e => by simp at e; subst e; exact ⟨_, rfl, h⟩
  | _, _, i + 1, v, .cons _ t, e => by
    obtain ⟨d, h1, h2⟩ := DaL.get (i := i) t (by simpa using e)
    exact ⟨d, by simpa using h1, h2⟩
theorem DaL.get' {F : Addr → Prop} {H : Hp} : ∀ {vs : List V} {ds : List PyData} {i : Nat} {d : PyData}, DaL F H vs ds → ds[i]? = some d → ∃ v, vs[i]? = some v ∧ DaF F H v d
  | _, _, _, _, .nil, e => by simp at e
  | _, _, 0, _, .cons h _, e => by simp at e; subst e; exact ⟨_, rfl, h⟩
  | _, _, i + 1, d, .cons _ t, e => by
    obtain ⟨v, h1, h2⟩ := DaL.get' (i := i) t (by simpa using e)
    exact ⟨v, by simpa using h1, h2⟩
theorem DaL.app {F : Addr → Prop} {H : Hp} {ys : List V} {es : List PyData} (h' : DaL F H ys es) : ∀ {vs : List V} {ds : List PyData}, DaL F H vs ds → DaL F H (vs ++ ys) (ds ++ es)
  | _, _, .nil => h'
  | _, _, .cons h t => .cons h (DaL.app h' t)
theorem DaL.take {F : Addr → Prop} {H : Hp} : ∀ {vs : List V} {ds : List PyData} (n : Nat), DaL F H vs ds → DaL F H (vs.take n) (ds.take n)
  | _, _, 0, _ => by simp; exact .nil
  | _, _, _ + 1, .nil => .nil
  | _, _, n + 1, .cons h t => .cons h (DaL.take n t)
theorem DaL.drop {F : Addr → Prop} {H : Hp} : ∀ {vs : List V} {ds : List PyData} (n : Nat), DaL F H vs ds → DaL F H (vs.drop n) (ds.drop n)
  | _, _, 0, h => h
  | _, _, _ + 1, .nil => .nil
  | _, _, n + 1, .cons _ t => DaL.drop n t
theorem DaL.cut {F : Addr → Prop} {H : Hp} {vs : List V} {ds : List PyData} (h : DaL F H vs ds) (lo hi : Option Int) : ∃ n m, DaL F H (cutV vs lo hi) ((ds.drop n).take m) := ⟨_, _, (h.drop _).take _⟩
theorem DaL.rev {F : Addr → Prop} {H : Hp} : ∀ {vs : List V} {ds : List PyData}, DaL F H vs ds → DaL F H vs.reverse ds.reverse
  | _, _, .nil => .nil
  | _, _, .cons h t => by rw [List.reverse_cons, List.reverse_cons]; exact DaL.app (.cons h .nil) (DaL.rev t)
theorem DaL.two {F : Addr → Prop} {H : Hp} {vs : List V} {d e : PyData} {ds : List PyData} (h : DaL F H vs (d :: e :: ds)) : ∃ x y ys, vs = x :: y :: ys ∧ DaF F H x d ∧ DaF F H y e ∧ DaL F H ys ds := by
  cases h with
  | cons h t => cases t with
    | cons h2 t => exact ⟨_, _, _, rfl, h, h2, t⟩
theorem DaL.three {F : Addr → Prop} {H : Hp} {vs : List V} {d e f : PyData} {ds : List PyData} (h : DaL F H vs (d :: e :: f :: ds)) : ∃ x y z ys, vs = x :: y :: z :: ys ∧ DaF F H x d ∧ DaF F H y e ∧ DaF F H z f ∧ DaL F H ys ds := by
  obtain ⟨x, y, ys, rfl, h1, h2, h3⟩ := h.two
  cases h3 with
  | cons h3 t => exact ⟨_, _, _, _, rfl, h1, h2, h3, t⟩
/-- the kind's name -/
def tyN : PyData → String
  | .none => "NoneType"
  | .bool _ => "bool"
  | .int _ => "int"
  | .str _ => "str"
  | .list _ => "list"
  | .tuple _ => "tuple"
  | .dict _ => "dict"
theorem DaF.ty {K : PySem.W.Frag} {F : Addr → Prop} {H : Hp} {v : V} {d : PyData} (h : DaF F H v d) : TyOf K H v (.type (tyN d)) := by
  cases h with
  | non => exact .non
  | bl b => exact .bl b
  | int i => exact .int i
  | str x => exact .str x
  | lst e _ => exact .lst e
  | tup e _ => exact .tup e
def isInt : PyData → Bool
  | .int _ => true
  | .bool _ => true
  | _ => false
def isBool : PyData → Bool
  | .bool _ => true
  | _ => false
def isTup : PyData → Bool
  | .tuple _ => true
  | _ => false
def isLst : PyData → Bool
  | .list _ => true
  | _ => false
theorem kb_si : kitB "str" "int" = some false := by decide +kernel
theorem kb_sb : kitB "str" "bool" = some false := by decide +kernel
theorem kb_st : kitB "str" "tuple" = some false := by decide +kernel
theorem kb_sl : kitB "str" "list" = some false := by decide +kernel
theorem kb_lb : kitB "list" "bool" = some false := by decide +kernel
theorem kb_tb : kitB "tuple" "bool" = some false := by decide +kernel
section
variable {K : PySem.W.Frag} {F : Addr → Prop} {H : Hp} {Q : VK} {v : V} {d : PyData}
theorem s_isiInt (h : DaF F H v d) (q : Q (.bl (isInt d)) H) : rIsi K [v, .ty "int"] H Q := by
  cases h with
  | non => exact s_isi .non kb_ni q
  | bl b => exact s_isi (.bl b) kb_bi q
  | int i => exact s_isi (.int i) kb_ii q
  | str x => exact s_isi (.str x) kb_si q
  | lst e _ => exact s_isi (.lst e) kb_li q
  | tup e _ => exact s_isi (.tup e) kb_ti q
theorem s_isiBool (h : DaF F H v d) (q : Q (.bl (isBool d)) H) : rIsi K [v, .ty "bool"] H Q := by
  cases h with
  | non => exact s_isi .non kb_nb q
  | bl b => exact s_isi (.bl b) kb_bb q
  | int i => exact s_isi (.int i) kb_ib q
  | str x => exact s_isi (.str x) kb_sb q
  | lst e _ => exact s_isi (.lst e) kb_lb q
  | tup e _ => exact s_isi (.tup e) kb_tb q
theorem s_isiTup (h : DaF F H v d) (q : Q (.bl (isTup d)) H) : rIsi K [v, .ty "tuple"] H Q := by
  cases h with
  | non => exact s_isi .non kb_nt q
  | bl b => exact s_isi (.bl b) kb_bt q
  | int i => exact s_isi (.int i) kb_it q
  | str x => exact s_isi (.str x) kb_st q
  | lst e _ => exact s_isi (.lst e) kb_lt q
  | tup e _ => exact s_isi (.tup e) kb_tt q
theorem s_isiLst (h : DaF F H v d) (q : Q (.bl (isLst d)) H) : rIsi K [v, .ty "list"] H Q := by
  cases h with
  | non => exact s_isi .non kb_nl q
  | bl b => exact s_isi (.bl b) kb_bl q
  | int i => exact s_isi (.int i) kb_il q
  | str x => exact s_isi (.str x) kb_sl q
  | lst e _ => exact s_isi (.lst e) kb_ll q
  | tup e _ => exact s_isi (.tup e) kb_tl q
end
/-- not too deep, not too long, no great numbers -/
inductive Bd : Nat → PyData → Prop
  | non {n : Nat} : Bd n .none
  | bl {n : Nat} (b : Bool) : Bd n (.bool b)
  | int {n : Nat} {i : Int} (h : i.natAbs < 2 ^ 300) : Bd n (.int i)
  | str {n : Nat} (x : Str) (h : PyData.strOk x = true) : Bd n (.str x)
  | lst {n : Nat} {ds : List PyData} (l : ds.length ≤ 999) (h : ∀ d ∈ ds, Bd n d) : Bd (n + 1) (.list ds)
  | tup {n : Nat} {ds : List PyData} (l : ds.length ≤ 999) (h : ∀ d ∈ ds, Bd n d) : Bd (n + 1) (.tuple ds)
theorem Bd.mono : ∀ {n m : Nat} {d : PyData}, Bd n d → n ≤ m → Bd m d := by
  intro n m d h
  induction h generalizing m with
  | non => intro _; exact .non
  | bl b => intro _; exact .bl b
  | int h => intro _; exact .int h
  | str x h => intro _; exact .str x h
  | lst l _ ih =>
    intro e
    obtain ⟨k, rfl⟩ : ∃ k, m = k + 1 := ⟨m - 1, by omega⟩
    exact .lst l fun d hd => ih d hd (by omega)
  | tup l _ ih =>
    intro e
    obtain ⟨k, rfl⟩ : ∃ k, m = k + 1 := ⟨m - 1, by omega⟩
    exact .tup l fun d hd => ih d hd (by omega)
theorem Bd.tup_inv {n : Nat} {ds : List PyData} (h : Bd n (.tuple ds)) : ∃ m, n = m + 1 ∧ ds.length ≤ 999 ∧ ∀ d ∈ ds, Bd m d := by
  cases h with
  | tup l h => exact ⟨_, rfl, l, h⟩
theorem Bd.lst_inv {n : Nat} {ds : List PyData} (h : Bd n (.list ds)) : ∃ m, n = m + 1 ∧ ds.length ≤ 999 ∧ ∀ d ∈ ds, Bd m d := by
  cases h with
  | lst l h => exact ⟨_, rfl, l, h⟩
theorem Bd.int_inv {n : Nat} {i : Int} (h : Bd n (.int i)) : i.natAbs < 2 ^ 300 := by
  cases h with
  | int h => exact h
theorem Bd.lay {n : Nat} {d : PyData} (h : Bd n d) : d.canLay0 = true ∧ d.depth ≤ n := by
  induction h with
  | non => exact ⟨by simp [PyData.canLay0], by simp [PyData.depth]⟩
  | bl b => exact ⟨by simp [PyData.canLay0], by simp [PyData.depth]⟩
  | int h => exact ⟨by simp [PyData.canLay0], by simp [PyData.depth]⟩
  | str x h => exact ⟨by simp [PyData.canLay0, h], by simp [PyData.depth]⟩
  | lst l _ ih => exact ⟨by simp only [PyData.canLay0]; exact layAll fun d hd => (ih d hd).1, by simp only [PyData.depth]; have := depAll fun d hd => (ih d hd).2; omega⟩
  | tup l _ ih => exact ⟨by simp only [PyData.canLay0]; exact layAll fun d hd => (ih d hd).1, by simp only [PyData.depth]; have := depAll fun d hd => (ih d hd).2; omega⟩
theorem Bd.shaped {n : Nat} {d : PyData} (h : Bd n d) (hn : n ≤ 64) : SeqAt.shaped d = true := by
  unfold SeqAt.shaped
  rw [h.lay.1, Bool.true_and]
  exact decide_eq_true (Nat.le_trans h.lay.2 hn)
/-- a whole number from l on -/
def isW (l : Int) : PyData → Bool
  | .int i => decide (l ≤ i)
  | _ => false
/-- a tuple of k things -/
def isR (k : Int) : PyData → Bool
  | .tuple ds => decide ((ds.length : Int) = k)
  | _ => false
theorem isW_inv {l : Int} {d : PyData} (h : isW l d = true) : ∃ i, d = .int i ∧ l ≤ i := by
  cases d <;> first | exact ⟨_, rfl, of_decide_eq_true h⟩ | cases h
theorem isR_inv {k : Int} {d : PyData} (h : isR k d = true) : ∃ ds, d = .tuple ds ∧ (ds.length : Int) = k := by
  cases d <;> first | exact ⟨_, rfl, of_decide_eq_true h⟩ | cases h
theorem isW_int (l i : Int) : isW l (.int i) = decide (l ≤ i) := rfl
theorem isR_tup (k : Int) (ds : List PyData) : isR k (.tuple ds) = decide ((ds.length : Int) = k) := rfl
/-- the same, to be computed -/
def bdB : Nat → PyData → Bool
  | _, .none => true
  | _, .bool _ => true
  | _, .int i => decide (i.natAbs < 2 ^ 300)
  | _, .str x => PyData.strOk x
  | n + 1, .list ds => decide (ds.length ≤ 999) && ds.all (bdB n)
  | n + 1, .tuple ds => decide (ds.length ≤ 999) && ds.all (bdB n)
  | _, _ => false
theorem bdB_ok : ∀ {n : Nat} {d : PyData}, bdB n d = true → Bd n d
  | _, .none, _ => .non
  | _, .bool b, _ => .bl b
  | _, .int i, h => .int (by simpa [bdB] using h)
  | _, .str x, h => .str x (by simpa [bdB] using h)
  | n + 1, .list ds, h => by
    simp only [bdB, Bool.and_eq_true, decide_eq_true_eq, List.all_eq_true] at h
    exact .lst h.1 fun d hd => bdB_ok (h.2 d hd)
  | n + 1, .tuple ds, h => by
    simp only [bdB, Bool.and_eq_true, decide_eq_true_eq, List.all_eq_true] at h
    exact .tup h.1 fun d hd => bdB_ok (h.2 d hd)
  | 0, .list _, h => by simp [bdB] at h
  | 0, .tuple _, h => by simp [bdB] at h
  | 0, .dict _, h => by simp [bdB] at h
  | _ + 1, .dict _, h => by simp [bdB] at h

theorem mkSlA {K : PySem.W.Frag} {H : Hp} {Q : VK} {p : Addr} {xs : List V} {lo hi : Option Int} (hs : SqT K H p xs) (hp : H p = some (.tup xs)) (h : ∀ l H', H' l = some (.tup (cutV xs lo hi)) → Same H H' → Q (.ref l) H') : rSlA K (.ref p) lo hi H Q :=
  ⟨p, xs, rfl, hs, fun z => h p H (by
    have : cutV xs lo hi = xs := by
      unfold cutV
      rw [z.1, z.2, List.drop_zero, Nat.sub_zero, List.take_length]
    rw [this]; exact hp) (Same.refl _), fun _ l hl => h l _ upd_same (same_upd hl)⟩
theorem mkCatA {K : PySem.W.Frag} {H : Hp} {Q : VK} {p q : Addr} {xs ys : List V} (hp : H p = some (.tup xs)) (hq : H q = some (.tup ys)) (hl : xs.length + ys.length ≤ 1000) (h : ∀ l H', H' l = some (.tup (xs ++ ys)) → Same H H' → Q (.ref l) H') : rCatA K (.ref p) (.ref q) H Q :=
  ⟨p, q, xs, ys, rfl, rfl, SqT.of hp, SqT.of hq, Nat.le_trans hl (Nat.le_of_lt (small1000 (Nat.le_refl _))), fun z => h q H (by rw [z]; exact hq) (Same.refl _), fun _ z => h p H (by rw [z, List.append_nil]; exact hp) (Same.refl _), fun _ _ l hl => h l _ upd_same (same_upd hl)⟩

/-! no truths within: == is sameness -/
mutual
def nb : PyData → Bool
  | .bool _ => false
  | .dict _ => false
  | .list ds => nbs ds
  | .tuple ds => nbs ds
  | .none => true
  | .int _ => true
  | .str _ => true
def nbs : List PyData → Bool
  | [] => true
  | d :: ds => nb d && nbs ds
end
mutual
theorem eqv_nb : ∀ (d e : PyData), nb d = true → nb e = true → PyData.eqv d e = true → d = e
  | .none, e, _, _, h => by cases e <;> simp_all [PyData.eqv]
  | .int i, e, _, h2, h => by cases e <;> simp_all [PyData.eqv, nb]
  | .str x, e, _, _, h => by cases e <;> simp_all [PyData.eqv]
  | .bool _, _, h1, _, _ => by simp [nb] at h1
  | .dict _, _, h1, _, _ => by simp [nb] at h1
  | .list xs, e, h1, h2, h => by
    cases e with
    | list ys => rw [eqvs_nb xs ys (by simpa [nb] using h1) (by simpa [nb] using h2) (by simpa [PyData.eqv] using h)]
    | _ => simp [PyData.eqv] at h
  | .tuple xs, e, h1, h2, h => by
    cases e with
    | tuple ys => rw [eqvs_nb xs ys (by simpa [nb] using h1) (by simpa [nb] using h2) (by simpa [PyData.eqv] using h)]
    | _ => simp [PyData.eqv] at h
theorem eqvs_nb : ∀ (ds es : List PyData), nbs ds = true → nbs es = true → PyData.eqvAll ds es = true → ds = es
  | [], es, _, _, h => by cases es <;> simp_all [PyData.eqvAll]
  | d :: ds, es, h1, h2, h => by
    cases es with
    | nil => simp [PyData.eqvAll] at h
    | cons e es =>
      simp only [nbs, PyData.eqvAll, Bool.and_eq_true] at h1 h2 h
      rw [eqv_nb d e h1.1 h2.1 h.1, eqvs_nb ds es h1.2 h2.2 h.2]
end
theorem eqv_nb_iff {d e : PyData} (h1 : nb d = true) (h2 : nb e = true) (hl : PyData.canLay0 d = true) : PyData.eqv d e = true ↔ d = e := ⟨eqv_nb d e h1 h2, fun z => by rw [← z]; exact eqv_refl d hl⟩
theorem eqv_str {d : PyData} {x : Str} : PyData.eqv d (.str x) = true ↔ d = .str x := by cases d <;> simp [PyData.eqv]
theorem nbs_all {ds : List PyData} : nbs ds = true ↔ ∀ d ∈ ds, nb d = true := by
  induction ds with
  | nil => simp [nbs]
  | cons d ds ih => simp [nbs, ih]
theorem isW_nb {l : Int} {d : PyData} (h : isW l d = true) : nb d = true := by
  obtain ⟨i, rfl, _⟩ := isW_inv h; rfl
theorem nbs_nats (l : List Nat) : nbs (l.map fun n : Nat => PyData.int (n : Nat)) = true := nbs_all.mpr fun d hd => by
  obtain ⟨n, _, rfl⟩ := List.mem_map.mp hd; rfl
theorem dal_ints {F : Addr → Prop} {H : Hp} : ∀ ns : List Int, DaL F H (ns.map V.int) (ns.map PyData.int)
  | [] => .nil
  | n :: ns => .cons (.int n) (dal_ints ns)

/-! expressions that come to data, the heap only growing -/
section
variable {K : PySem.W.Frag} {F : Addr → Prop} {n m k L : Nat} {te ta tb ti : TE} {tl : TA} {tlo thi : TO} {σ : L2.St} {H : Hp} {v : V} {i j : Int} {d : PyData} {P : Int → Prop}
def EvV (te : TE) (σ : L2.St) (H : Hp) (v : V) : Prop := ∀ H1, Same H H1 → ∀ Q : VK, Q v H1 → te σ H1 Q
def EvI (te : TE) (σ : L2.St) (H : Hp) (P : Int → Prop) : Prop := ∀ H1, Same H H1 → ∀ Q : VK, (∀ i H2, Same H1 H2 → P i → Q (.int i) H2) → te σ H1 Q
def EvD (F : Addr → Prop) (n : Nat) (te : TE) (σ : L2.St) (H : Hp) : Prop := ∀ H1, Same H H1 → ∀ Q : VK, (∀ x H2 d, Same H1 H2 → DaF F H2 x d → Bd n d → Q x H2) → te σ H1 Q
def EvL (F : Addr → Prop) (n k : Nat) (tl : TA) (σ : L2.St) (H : Hp) : Prop := ∀ H1, Same H H1 → ∀ Q : List V → Hp → Prop, (∀ xs H2 ds, Same H1 H2 → DaL F H2 xs ds → (∀ d ∈ ds, Bd n d) → ds.length = k → Q xs H2) → tl σ H1 Q
def EvT (F : Addr → Prop) (n L : Nat) (te : TE) (σ : L2.St) (H : Hp) : Prop := ∀ H1, Same H H1 → ∀ Q : VK, (∀ p xs H2 ds, Same H1 H2 → H2 p = some (.tup xs) → DaL F H2 xs ds → (∀ d ∈ ds, Bd n d) → ds.length ≤ L → Q (.ref p) H2) → te σ H1 Q
def EvX (F : Addr → Prop) (n L : Nat) (te : TE) (σ : L2.St) (H : Hp) : Prop := ∀ H1, Same H H1 → ∀ Q : VK, (∀ p xs H2 ds, Same H1 H2 → H1 p = none → H2 p = some (.lst xs) → DaL F H2 xs ds → (∀ d ∈ ds, Bd n d) → ds.length = L → Q (.ref p) H2) → te σ H1 Q
def EvVs (tl : TA) (σ : L2.St) (H : Hp) (vs : List V) : Prop := ∀ H1, Same H H1 → ∀ Q : List V → Hp → Prop, Q vs H1 → tl σ H1 Q
def EvO (t : TO) (σ : L2.St) (H : Hp) (o : Option Int) : Prop := ∀ H1, Same H H1 → ∀ Q : Option Int → Hp → Prop, Q o H1 → t σ H1 Q
theorem evv_var (e : σ[k]? = some (some v)) : EvV (tVar k) σ H v := fun _ _ _ q => ⟨v, e, q⟩
theorem evv_c : EvV (tC v) σ H v := fun _ _ _ q => q
theorem evi_v (e : EvV te σ H (.int i)) (h : P i) : EvI te σ H P := fun H1 s1 Q q => e H1 s1 Q (q i H1 (Same.refl _) h)
theorem evi_mono {P' : Int → Prop} (e : EvI te σ H P) (h : ∀ i, P i → P' i) : EvI te σ H P' := fun H1 s1 Q q => e H1 s1 Q fun i H2 s2 hp => q i H2 s2 (h i hp)
theorem evd_i (e : EvI te σ H P) (h : ∀ i, P i → i.natAbs < 2 ^ 300) : EvD F n te σ H := fun H1 s1 Q q => e H1 s1 Q fun i H2 s2 hp => q _ H2 (.int i) s2 (.int i) (.int (h i hp))
theorem evd_v (e : EvV te σ H v) (h : DaF F H v d) (b : Bd m d) (le : m ≤ n) : EvD F n te σ H := fun H1 s1 Q q => e H1 s1 Q (q v H1 d (Same.refl _) (h.same s1) (b.mono le))
theorem evd_var (e : σ[k]? = some (some v)) (h : DaF F H v d) (b : Bd m d) (le : m ≤ n) : EvD F n (tVar k) σ H := evd_v (evv_var e) h b le
theorem evd_int (e : EvV te σ H (.int i)) (h : i.natAbs < 2 ^ 300) : EvD F n te σ H := evd_v e (.int i) (.int h : Bd n _) (Nat.le_refl _)
theorem evd_non : EvD F n (tC .non) σ H := evd_v evv_c .non (.non : Bd n _) (Nat.le_refl _)
theorem evd_bl {b : Bool} : EvD F n (tC (.bl b)) σ H := evd_v evv_c (.bl b) (.bl b : Bd n _) (Nat.le_refl _)
theorem evd_str {x : Str} (h : PyData.strOk x = true) : EvD F n (tC (.str x)) σ H := evd_v evv_c (.str x) (.str x h : Bd n _) (Nat.le_refl _)
theorem evl_nil : EvL F n 0 tNil σ H := fun H1 _ Q q => q [] H1 [] (Same.refl _) .nil (by simp) rfl
theorem evl_cons (h : EvD F n ta σ H) (t : EvL F n k tl σ H) : EvL F n (k + 1) (tCons ta tl) σ H := fun H1 s1 Q q => h H1 s1 _ fun x H2 d s2 hd hb => t H2 (s1.trans s2) _ fun xs H3 ds s3 hds hbs hl => q (x :: xs) H3 (d :: ds) (s2.trans s3) (.cons (hd.same s3) hds) (fun e he => by
  rcases List.mem_cons.mp he with z | z
  · rw [z]; exact hb
  · exact hbs e z) (by rw [List.length_cons, hl])
theorem evt_tup (h : EvL F n k tl σ H) (hk : k ≤ 900) : EvT F n k (tTup tl) σ H := fun H1 s1 Q q => h H1 s1 _ fun xs H2 ds s2 hds hbs hl => ⟨len_le (by rw [hds.len]; omega), fun p hp => q p xs _ ds (s2.trans (same_upd hp)) upd_same (hds.same (same_upd hp)) hbs (Nat.le_of_eq hl)⟩
theorem evx_lst (h : EvL F n k tl σ H) (hk : k ≤ 900) : EvX F n k (tLst tl) σ H := fun H1 s1 Q q => h H1 s1 _ fun xs H2 ds s2 hds hbs hl => ⟨len_le (by rw [hds.len]; omega), fun p hp => q p xs _ ds (s2.trans (same_upd hp)) (s2.free hp) upd_same (hds.same (same_upd hp)) hbs hl⟩
theorem evd_t (h : EvT F n L te σ H) (hL : L ≤ 900) : EvD F (n + 1) te σ H := fun H1 s1 Q q => h H1 s1 Q fun p xs H2 ds s2 hp hds hbs hl => q _ H2 (.tuple ds) s2 (.tup hp hds) (.tup (by omega) hbs)
theorem evd_x (hF : ∀ a, H a = none → F a) (h : EvX F n L te σ H) (hL : L ≤ 900) : EvD F (n + 1) te σ H := fun H1 s1 Q q => h H1 s1 Q fun p xs H2 ds s2 np hp hds hbs hl => q _ H2 (.list ds) s2 (.lst hp hds (hF p (s1.free np))) (.lst (by omega) hbs)
theorem evd_tup (h : EvL F n k tl σ H) (hk : k ≤ 900) : EvD F (n + 1) (tTup tl) σ H := evd_t (evt_tup h hk) hk
theorem evd_lst (hF : ∀ a, H a = none → F a) (h : EvL F n k tl σ H) (hk : k ≤ 900) : EvD F (n + 1) (tLst tl) σ H := evd_x hF (evx_lst h hk) hk
theorem evt_var {p : Addr} {xs : List V} {ds : List PyData} (e : σ[k]? = some (some (.ref p))) (hp : H p = some (.tup xs)) (hd : DaL F H xs ds) (hb : ∀ d ∈ ds, Bd m d) (le : m ≤ n) (hl : ds.length ≤ L) : EvT F n L (tVar k) σ H := fun H1 s1 Q q => ⟨_, e, q p xs H1 ds (Same.refl _) (s1 _ _ hp) (hd.same s1) (fun d hd' => (hb d hd').mono le) hl⟩
theorem evt_cat (h1 : EvT F n L ta σ H) (h2 : EvT F n m tb σ H) (hL : L + m ≤ 1000) : EvT F n (L + m) (tOp (rCatA K) ta tb) σ H := fun H1 s1 Q q => h1 H1 s1 _ fun p xs H2 ds s2 hp hds hbs hl => h2 H2 (s1.trans s2) _ fun p' ys H3 es s3 hp' hes hbs' hl' => by
  have a1 := hds.len
  have a2 := hes.len
  refine mkCatA (s3 _ _ hp) hp' (by omega) fun l H4 el s4 => q l _ H4 (ds ++ es) (s2.trans (s3.trans s4)) el (DaL.app (hes.same s4) (hds.same (s3.trans s4))) (fun e he => ?_) (by rw [List.length_append]; omega)
  rcases List.mem_append.mp he with z | z
  · exact hbs e z
  · exact hbs' e z
theorem evx_cat (h1 : EvX F n L ta σ H) (h2 : EvX F n m tb σ H) (hL : L + m ≤ 1000) : EvX F n (L + m) (tOp rCat ta tb) σ H := fun H1 s1 Q q => h1 H1 s1 _ fun p xs H2 ds s2 np hp hds hbs hl => h2 H2 (s1.trans s2) _ fun p' ys H3 es s3 np' hp' hes hbs' hl' => by
  have a1 := hds.len
  have a2 := hes.len
  refine mkCat (s3 _ _ hp) hp' (by omega) fun l H4 nl el s4 => q l _ H4 (ds ++ es) (s2.trans (s3.trans s4)) ((s2.trans s3).free nl) el (DaL.app (hes.same s4) (hds.same (s3.trans s4))) (fun e he => ?_) (by rw [List.length_append]; omega)
  rcases List.mem_append.mp he with z | z
  · exact hbs e z
  · exact hbs' e z
/-- a list that a name holds, added to -/
theorem evx_catV {p : Addr} {xs : List V} {ds : List PyData} (e : σ[k]? = some (some (.ref p))) (hp : H p = some (.lst xs)) (hd : DaL F H xs ds) (hb : ∀ d ∈ ds, Bd n d) (hl : ds.length = L) (h2 : EvX F n m tb σ H) (hL : L + m ≤ 1000) : EvX F n (L + m) (tOp rCat (tVar k) tb) σ H := fun H1 s1 Q q => ⟨_, e, h2 H1 s1 _ fun p' ys H3 es s3 np' hp' hes hbs' hl' => by
  have a1 := hd.len
  have a2 := hes.len
  refine mkCat (s3 _ _ (s1 _ _ hp)) hp' (by omega) fun l H4 nl el s4 => q l _ H4 (ds ++ es) (s3.trans s4) (s3.free nl) el (DaL.app (hes.same s4) (hd.same (s1.trans (s3.trans s4)))) (fun e he => ?_) (by rw [List.length_append]; omega)
  rcases List.mem_append.mp he with z | z
  · exact hb e z
  · exact hbs' e z⟩
theorem evo_none : EvO tNoPart σ H none := fun _ _ _ q => q
theorem evo_some (e : EvV te σ H (.int i)) : EvO (tPart te) σ H (some i) := fun H1 s1 Q q => e H1 s1 _ ⟨i, rfl, q⟩
theorem cut_bd {xs : List V} {ds : List PyData} {F : Addr → Prop} {H : Hp} {n L : Nat} (h : DaL F H xs ds) (hb : ∀ d ∈ ds, Bd n d) (hl : ds.length ≤ L) (lo hi : Option Int) : ∃ es, DaL F H (cutV xs lo hi) es ∧ (∀ d ∈ es, Bd n d) ∧ es.length ≤ L := by
  obtain ⟨a, b, h'⟩ := h.cut lo hi
  refine ⟨_, h', fun d hd => hb d (List.mem_of_mem_drop (List.mem_of_mem_take hd)), ?_⟩
  rw [List.length_take, List.length_drop]; omega
theorem evt_sl {o u : Option Int} (h : EvT F n L te σ H) (l : EvO tlo σ H o) (r : EvO thi σ H u) : EvT F n L (L2.tSl (rSlA K) te tlo thi) σ H := fun H1 s1 Q q => h H1 s1 _ fun p xs H2 ds s2 hp hds hbs hl => l H2 (s1.trans s2) _ (r H2 (s1.trans s2) _ (mkSlA (SqT.of hp) hp fun l' H3 el s3 => by
  obtain ⟨es, h1, h2, h3⟩ := cut_bd hds hbs hl o u
  exact q l' _ H3 es (s2.trans s3) el (h1.same s3) h2 h3))
theorem evt_rev (h : EvT F n L te σ H) : EvT F n L (RevT.tRevT K te) σ H := fun H1 s1 Q q => h H1 s1 _ fun p xs H2 ds s2 hp hds hbs hl => ⟨p, xs, rfl, SqT.of hp, fun l nl => q l _ _ ds.reverse (s2.trans (same_upd nl)) upd_same (hds.rev.same (same_upd nl)) (fun d hd => hbs d (List.mem_reverse.mp hd)) (by rw [List.length_reverse]; exact hl)⟩
/-- one of a list that has just been made -/
theorem evd_pick (h : EvX F n L ta σ H) (e : EvV ti σ H (.int j)) (hj : 0 ≤ j ∧ j < (L : Int)) : EvD F n (tOp (rIx K) ta ti) σ H := fun H1 s1 Q q => h H1 s1 _ fun p xs H2 ds s2 np hp hds hbs hl => e H2 (s1.trans s2) _ (by
  obtain ⟨k, rfl⟩ := Int.eq_ofNat_of_zero_le hj.1
  have hk : k < ds.length := by omega
  obtain ⟨x, hx, hd⟩ := hds.get' (List.getElem?_eq_getElem hk)
  exact s_ixL (SqL.of hp) (atI_nat hx) (q x H2 _ s2 hd (hbs _ (List.getElem_mem hk))))
theorem evvs_nil : EvVs tNil σ H [] := fun _ _ _ q => q
theorem evvs_cons {vs : List V} (h : EvV ta σ H v) (t : EvVs tl σ H vs) : EvVs (tCons ta tl) σ H (v :: vs) := fun H1 s1 Q q => h H1 s1 _ (t H1 s1 _ q)
/-- one of some numbers -/
theorem evi_pick (ns : List Int) (h : EvVs tl σ H (ns.map V.int)) (hl : ns.length ≤ 1000) (e : EvV ti σ H (.int j)) (hj : 0 ≤ j ∧ j < ns.length) (hp : ∀ z ∈ ns, P z) : EvI (tOp (rIx K) (tLst tl) ti) σ H P := fun H1 s1 Q q => h H1 s1 _ ⟨len_le (by rw [List.length_map]; exact hl), fun p np => e _ (s1.trans (same_upd np)) _ (s_pickN ns upd_same hj hp fun z hz => q z _ (same_upd np) hz)⟩
end

/-! expressions that come to a told datum, the heap only growing -/
section
variable {K : PySem.W.Frag} {F : Addr → Prop} {te ta tb ti : TE} {tl : TA} {tlo thi : TO} {σ : L2.St} {H : Hp} {v x y z : V} {i j : Int} {k : Nat} {d e : PyData} {ds es : List PyData} {r : R2}
def EvE (F : Addr → Prop) (te : TE) (σ : L2.St) (H : Hp) (d : PyData) : Prop := ∀ H1, Same H H1 → ∀ Q : VK, (∀ x H2, Same H1 H2 → DaF F H2 x d → Q x H2) → te σ H1 Q
def EvEs (F : Addr → Prop) (tl : TA) (σ : L2.St) (H : Hp) (ds : List PyData) : Prop := ∀ H1, Same H H1 → ∀ Q : List V → Hp → Prop, (∀ xs H2, Same H1 H2 → DaL F H2 xs ds → Q xs H2) → tl σ H1 Q
theorem eve_v (e : EvV te σ H v) (h : DaF F H v d) : EvE F te σ H d := fun H1 s1 Q q => e H1 s1 Q (q v H1 (Same.refl _) (h.same s1))
theorem eve_var (e : σ[k]? = some (some v)) (h : DaF F H v d) : EvE F (tVar k) σ H d := eve_v (evv_var e) h
theorem eve_i (e : EvV te σ H (.int i)) : EvE F te σ H (.int i) := eve_v e (.int i)
theorem eve_b {b : Bool} (e : EvV te σ H (.bl b)) : EvE F te σ H (.bool b) := eve_v e (.bl b)
theorem eve_int : EvE F (tC (.int i)) σ H (.int i) := eve_i evv_c
theorem eve_non : EvE F (tC .non) σ H .none := eve_v evv_c .non
theorem eve_bl {b : Bool} : EvE F (tC (.bl b)) σ H (.bool b) := eve_b evv_c
theorem eve_str {x : Str} : EvE F (tC (.str x)) σ H (.str x) := eve_v evv_c (.str x)
theorem eves_nil : EvEs F tNil σ H [] := fun H1 _ Q q => q [] H1 (Same.refl _) .nil
theorem eves_cons (h : EvE F ta σ H d) (t : EvEs F tl σ H ds) : EvEs F (tCons ta tl) σ H (d :: ds) := fun H1 s1 Q q => h H1 s1 _ fun x H2 s2 hd => t H2 (s1.trans s2) _ fun xs H3 s3 hds => q (x :: xs) H3 (s2.trans s3) (.cons (hd.same s3) hds)
theorem eve_tup (h : EvEs F tl σ H ds) (hl : ds.length ≤ 1000 := by first | decide | simp) : EvE F (tTup tl) σ H (.tuple ds) := fun H1 s1 Q q => h H1 s1 _ fun xs H2 s2 hds => ⟨len_le (by rw [hds.len]; exact hl), fun p hp => q _ _ (s2.trans (same_upd hp)) (.tup upd_same (hds.same (same_upd hp)))⟩
theorem eve_lst (hF : ∀ a, H a = none → F a) (h : EvEs F tl σ H ds) (hl : ds.length ≤ 1000 := by first | decide | simp) : EvE F (tLst tl) σ H (.list ds) := fun H1 s1 Q q => h H1 s1 _ fun xs H2 s2 hds => ⟨len_le (by rw [hds.len]; exact hl), fun p hp => q _ _ (s2.trans (same_upd hp)) (.lst upd_same (hds.same (same_upd hp)) (hF p ((s1.trans s2).free hp)))⟩
theorem DaF.tup_inv (h : DaF F H v (.tuple ds)) : ∃ p xs, v = .ref p ∧ H p = some (.tup xs) ∧ DaL F H xs ds := by
  cases h with
  | tup e h => exact ⟨_, _, rfl, e, h⟩
theorem DaF.lst_inv (h : DaF F H v (.list ds)) : ∃ p xs, v = .ref p ∧ H p = some (.lst xs) ∧ DaL F H xs ds ∧ F p := by
  cases h with
  | lst e h f => exact ⟨_, _, rfl, e, h, f⟩
theorem eve_cat (h1 : EvE F ta σ H (.tuple ds)) (h2 : EvE F tb σ H (.tuple es)) (hL : ds.length + es.length ≤ 1000) : EvE F (tOp (rCatA K) ta tb) σ H (.tuple (ds ++ es)) := fun H1 s1 Q q => h1 H1 s1 _ fun x H2 s2 hx => h2 H2 (s1.trans s2) _ fun y H3 s3 hy => by
  obtain ⟨p, xs, rfl, hp, hds⟩ := hx.tup_inv
  obtain ⟨p', ys, rfl, hp', hes⟩ := hy.tup_inv
  have a1 := hds.len
  have a2 := hes.len
  exact mkCatA (s3 _ _ hp) hp' (by omega) fun l H4 el s4 => q _ H4 (s2.trans (s3.trans s4)) (.tup el (DaL.app (hes.same s4) (hds.same (s3.trans s4))))
theorem eve_catL (hF : ∀ a, H a = none → F a) (h1 : EvE F ta σ H (.list ds)) (h2 : EvE F tb σ H (.list es)) (hL : ds.length + es.length ≤ 1000) : EvE F (tOp rCat ta tb) σ H (.list (ds ++ es)) := fun H1 s1 Q q => h1 H1 s1 _ fun x H2 s2 hx => h2 H2 (s1.trans s2) _ fun y H3 s3 hy => by
  obtain ⟨p, xs, rfl, hp, hds, _⟩ := hx.lst_inv
  obtain ⟨p', ys, rfl, hp', hes, _⟩ := hy.lst_inv
  have a1 := hds.len
  have a2 := hes.len
  exact mkCat (s3 _ _ hp) hp' (by omega) fun l H4 nl el s4 => q _ H4 (s2.trans (s3.trans s4)) (.lst el (DaL.app (hes.same s4) (hds.same (s3.trans s4))) (hF l ((s1.trans (s2.trans s3)).free nl)))
/-- cut, of data -/
def cutD (ds : List PyData) (lo hi : Option Int) : List PyData := (ds.drop (HT.sIx ds.length 0 lo)).take (HT.sIx ds.length ds.length hi - HT.sIx ds.length 0 lo)
theorem cutD_len (ds : List PyData) (lo hi : Option Int) : (cutD ds lo hi).length ≤ ds.length := by unfold cutD; rw [List.length_take, List.length_drop]; omega
theorem cutD_mem {lo hi : Option Int} (h : d ∈ cutD ds lo hi) : d ∈ ds := List.mem_of_mem_drop (List.mem_of_mem_take h)
theorem DaL.cutD {xs : List V} (h : DaL F H xs ds) (lo hi : Option Int) : DaL F H (cutV xs lo hi) (C.cutD ds lo hi) := by
  unfold cutV C.cutD
  rw [h.len]
  exact (h.drop _).take _
theorem sIx_k {n m k : Nat} (h : k ≤ n) : HT.sIx n m (some (k : Int)) = k := (HT.sIx_nat n m k).trans (by omega)
theorem cutD_to {k : Nat} (h : k ≤ ds.length) : cutD ds none (some (k : Int)) = ds.take k := by
  unfold cutD
  rw [sIx_k h, show HT.sIx ds.length 0 none = 0 from rfl, List.drop_zero, Nat.sub_zero]
theorem cutD_from {k : Nat} (h : k ≤ ds.length) : cutD ds (some (k : Int)) none = ds.drop k := by
  unfold cutD
  rw [sIx_k h, show HT.sIx ds.length ds.length none = ds.length from rfl]
  exact List.take_of_length_le (by rw [List.length_drop]; exact Nat.le_refl _)
theorem eve_sl {o u : Option Int} (h : EvE F te σ H (.tuple ds)) (l : EvO tlo σ H o) (r : EvO thi σ H u) : EvE F (L2.tSl (rSlA K) te tlo thi) σ H (.tuple (cutD ds o u)) := fun H1 s1 Q q => h H1 s1 _ fun x H2 s2 hx => l H2 (s1.trans s2) _ (r H2 (s1.trans s2) _ (by
  obtain ⟨p, xs, rfl, hp, hds⟩ := hx.tup_inv
  exact mkSlA (SqT.of hp) hp fun l' H3 el s3 => q _ H3 (s2.trans s3) (.tup el ((hds.cutD o u).same s3))))
theorem eve_slL (hF : ∀ a, H a = none → F a) {o u : Option Int} (h : EvE F te σ H (.list ds)) (l : EvO tlo σ H o) (r : EvO thi σ H u) : EvE F (L2.tSl (rSlL K) te tlo thi) σ H (.list (cutD ds o u)) := fun H1 s1 Q q => h H1 s1 _ fun x H2 s2 hx => l H2 (s1.trans s2) _ (r H2 (s1.trans s2) _ (by
  obtain ⟨p, xs, rfl, hp, hds, _⟩ := hx.lst_inv
  exact mkSl (SqL.of hp) fun l' H3 nl el s3 => q _ H3 (s2.trans s3) (.lst el ((hds.cutD o u).same s3) (hF l' ((s1.trans s2).free nl)))))
theorem eve_rev (h : EvE F te σ H (.tuple ds)) : EvE F (RevT.tRevT K te) σ H (.tuple ds.reverse) := fun H1 s1 Q q => h H1 s1 _ fun x H2 s2 hx => by
  obtain ⟨p, xs, rfl, hp, hds⟩ := hx.tup_inv
  exact ⟨p, xs, rfl, SqT.of hp, fun l nl => q _ _ (s2.trans (same_upd nl)) (.tup upd_same (hds.rev.same (same_upd nl)))⟩
theorem eve_revL (hF : ∀ a, H a = none → F a) (h : EvE F te σ H (.list ds)) : EvE F (L2.tRevL K te) σ H (.list ds.reverse) := fun H1 s1 Q q => h H1 s1 _ fun x H2 s2 hx => by
  obtain ⟨p, xs, rfl, hp, hds, _⟩ := hx.lst_inv
  exact ⟨p, xs, rfl, SqL.of hp, fun l nl => q _ _ (s2.trans (same_upd nl)) (.lst upd_same (hds.rev.same (same_upd nl)) (hF l ((s1.trans s2).free nl)))⟩
theorem atI_da {xs : List V} (h : DaL F H xs ds) (k : Nat) (hj : j = k) (e : ds[k]? = some d) : ∃ x, atI xs j = some x ∧ DaF F H x d := by
  subst hj
  obtain ⟨x, h1, h2⟩ := h.get' e
  exact ⟨x, atI_nat h1, h2⟩
theorem eve_ix (h : EvE F te σ H (.tuple ds)) (e : EvV ti σ H (.int j)) (k : Nat) (hj : j = k) (hd : ds[k]? = some d) : EvE F (tOp (rIx K) te ti) σ H d := fun H1 s1 Q q => h H1 s1 _ fun x H2 s2 hx => e H2 (s1.trans s2) _ (by
  obtain ⟨p, xs, rfl, hp, hds⟩ := hx.tup_inv
  obtain ⟨x, h1, h2⟩ := atI_da hds k hj hd
  exact s_ixT (SqT.of hp) h1 (q x H2 s2 h2))
theorem eve_ixL (h : EvE F te σ H (.list ds)) (e : EvV ti σ H (.int j)) (k : Nat) (hj : j = k) (hd : ds[k]? = some d) : EvE F (tOp (rIx K) te ti) σ H d := fun H1 s1 Q q => h H1 s1 _ fun x H2 s2 hx => e H2 (s1.trans s2) _ (by
  obtain ⟨p, xs, rfl, hp, hds, _⟩ := hx.lst_inv
  obtain ⟨x, h1, h2⟩ := atI_da hds k hj hd
  exact s_ixL (SqL.of hp) h1 (q x H2 s2 h2))
theorem eve_lstOf (hF : ∀ a, H a = none → F a) (h : EvE F te σ H (.tuple ds)) : EvE F (tCB (rLstOf K) (tCons te tNil)) σ H (.list ds) := fun H1 s1 Q q => h H1 s1 _ fun x H2 s2 hx => by
  obtain ⟨p, xs, rfl, hp, hds⟩ := hx.tup_inv
  exact s_lstT (SqT.of hp) fun l nl => q _ _ (s2.trans (same_upd nl)) (.lst upd_same (hds.same (same_upd nl)) (hF l ((s1.trans s2).free nl)))
theorem eve_lstOfL (hF : ∀ a, H a = none → F a) (h : EvE F te σ H (.list ds)) : EvE F (tCB (rLstOf K) (tCons te tNil)) σ H (.list ds) := fun H1 s1 Q q => h H1 s1 _ fun x H2 s2 hx => by
  obtain ⟨p, xs, rfl, hp, hds, _⟩ := hx.lst_inv
  exact s_lstL (SqL.of hp) fun l nl => q _ _ (s2.trans (same_upd nl)) (.lst upd_same (hds.same (same_upd nl)) (hF l ((s1.trans s2).free nl)))
theorem eve_tupOfL (h : EvE F te σ H (.list ds)) : EvE F (tCB (rTupOf K) (tCons te tNil)) σ H (.tuple ds) := fun H1 s1 Q q => h H1 s1 _ fun x H2 s2 hx => by
  obtain ⟨p, xs, rfl, hp, hds, _⟩ := hx.lst_inv
  exact s_tupL (SqL.of hp) fun l nl => q _ _ (s2.trans (same_upd nl)) (.tup upd_same (hds.same (same_upd nl)))
theorem evv_op (h1 : EvV ta σ H x) (h2 : EvV tb σ H y) (h : ∀ H1 (Q : VK), Q z H1 → r x y H1 Q) : EvV (tOp r ta tb) σ H z := fun H1 s1 Q q => h1 H1 s1 _ (h2 H1 s1 _ (h H1 Q q))
theorem evv_un {r : V → Hp → VK → Prop} (h1 : EvV ta σ H x) (h : ∀ H1 (Q : VK), Q z H1 → r x H1 Q) : EvV (tUn r ta) σ H z := fun H1 s1 Q q => h1 H1 s1 _ (h H1 Q q)
theorem evv_neg (h1 : EvV ta σ H (.int i)) : EvV (tUn (rU fun a => V.int (-a)) ta) σ H (.int (-i)) := evv_un h1 fun _ _ q => s_u (f := fun a => V.int (-a)) q
theorem evv_p59 : EvV (tOp (rI CPow fun i j => V.int (i ^ j.toNat)) (tC (.int 10)) (tC (.int 59))) σ H (.int (10 ^ 59)) := evv_op evv_c evv_c fun _ _ q => s_p10_59 q
theorem evv_add (h1 : EvV ta σ H (.int i)) (h2 : EvV tb σ H (.int j)) : EvV (tOp (rI0 fun a b => V.int (a + b)) ta tb) σ H (.int (i + j)) := evv_op h1 h2 fun _ _ q => s_i0 q
theorem evv_sub (h1 : EvV ta σ H (.int i)) (h2 : EvV tb σ H (.int j)) : EvV (tOp (rI0 fun a b => V.int (a - b)) ta tb) σ H (.int (i - j)) := evv_op h1 h2 fun _ _ q => s_i0 q
end
mutual
/-- data stand when what is neither tuple nor list changes -/
theorem DaF.keep {F : Addr → Prop} {H H' : Hp} (kt : ∀ b r, H b = some (.tup r) → H' b = some (.tup r)) (kl : ∀ b r, H b = some (.lst r) → H' b = some (.lst r)) : ∀ {v : V} {d : PyData}, DaF F H v d → DaF F H' v d
  | _, _, .non => .non
  | _, _, .bl b => .bl b
  | _, _, .int i => .int i
  | _, _, .str x => .str x
  | _, _, .lst e h f => .lst (kl _ _ e) (DaL.keep kt kl h) f
  | _, _, .tup e h => .tup (kt _ _ e) (DaL.keep kt kl h)
theorem DaL.keep {F : Addr → Prop} {H H' : Hp} (kt : ∀ b r, H b = some (.tup r) → H' b = some (.tup r)) (kl : ∀ b r, H b = some (.lst r) → H' b = some (.lst r)) : ∀ {vs : List V} {ds : List PyData}, DaL F H vs ds → DaL F H' vs ds
  | _, _, .nil => .nil
  | _, _, .cons h t => .cons (DaF.keep kt kl h) (DaL.keep kt kl t)
end

def isWh : PyData → Bool
  | .int _ => true
  | _ => false
theorem isWh_inv {d : PyData} (h : isWh d = true) : ∃ i, d = .int i := by
  cases d <;> first | exact ⟨_, rfl⟩ | cases h
/-- _law_whole(found), of any datum -/
def sp__law_whole : Sp := fun vs H Q _ => ∃ (v : V) (d : PyData), vs = [v] ∧ Da H v d ∧ Q (.bl (isWh d)) H
theorem ok__law_whole (T : Txt K mg) : FnOk P w K mg base CX0 1 (He.ga K "_law_whole") (fd__law_whole T) ["_law_found"] sp__law_whole := by
  refine (F__law_whole T).ok sc__law_whole (fun vs H Q E h => ?_) (fun cdv A outer s H vs Q E hr h => ⟨_, PSs.nox (pss_one (ps_ret (pe_and (pe_callB call_isi rfl (T.fr (T.c.fact 17 rfl)) boot_isinstance (pa_cons (pv 0) (pa_cons (pe_bltn (v := .ty "int") rfl (T.fr (T.c.fact 19 rfl)) boot_int rfl) pa_nil))) (pe_one (pe_not (pe_callB call_isi rfl (T.fr (T.c.fact 17 rfl)) boot_isinstance (pa_cons (pv 0) (pa_cons (pe_bltn (v := .ty "bool") rfl (T.fr (T.c.fact 20 rfl)) boot_bool rfl) pa_nil)))))))), ?_⟩)
  · obtain ⟨v, d, rfl, _⟩ := h; rfl
  · obtain ⟨v, d, rfl, hd, k⟩ := h
    cases hd with
    | non => walk_at "g"; refine s_isi .non kb_ni ?_; walk_at "g"; exact k
    | bl b => walk_at "g"; refine s_isi (.bl b) kb_bi ?_; walk_at "g"; refine s_isi (.bl b) kb_bb ?_; walk_at "g"; exact k
    | int i => walk_at "g"; exact k
    | str x => walk_at "g"; refine s_isi (.str x) kb_si ?_; walk_at "g"; exact k
    | lst e _ => walk_at "g"; refine s_isi (.lst e) kb_li ?_; walk_at "g"; exact k
    | tup e _ => walk_at "g"; refine s_isi (.tup e) kb_ti ?_; walk_at "g"; exact k

/-- the row of a power, as a datum -/
def prD (n a : Int) (x : Nat) : PyData := .tuple [.int (x : Nat), .int (M.pw n a x)]
def PR (n a : Int) (e : Nat) : PyData := .list ((M.hv e).map (prD n a))
theorem tups_data {H : Hp} {n a : Int} : ∀ {xs : List V} {l : List Nat}, TupsIn H xs (l.map fun x => [V.int (x : Nat), V.int (M.pw n a x)]) → DaL (fun _ => True) H xs (l.map (prD n a))
  | _, [], h => by cases h; exact .nil
  | _, x :: l, h => by
    cases h with
    | cons f r =>
      obtain ⟨t, rfl, et⟩ := f
      exact .cons (.tup et (.cons (.int _) (.cons (.int _) .nil))) (tups_data r)
theorem bd_nil {m : Nat} : ∀ d ∈ ([] : List PyData), Bd m d := fun _ h => absurd h (by simp)
theorem bd_cons {m : Nat} {d : PyData} {ds : List PyData} (h : Bd m d) (t : ∀ d ∈ ds, Bd m d) : ∀ e ∈ d :: ds, Bd m e := fun e he => by
  rcases List.mem_cons.mp he with z | z
  · rw [z]; exact h
  · exact t e z
theorem prD_bd {n a : Int} {x : Nat} (h0 : 0 < n) (hn : n.natAbs < 2 ^ 250) (hx : x < 2 ^ 250) : Bd 1 (prD n a x) := by
  have hr := M.pw_range h0 a x
  exact .tup (by simp) (bd_cons (.int (by omega)) (bd_cons (.int (by omega)) bd_nil))
theorem PR_bd {n a : Int} {e : Nat} (h0 : 0 < n) (hn : n.natAbs < 2 ^ 250) (he : e < 2 ^ 250) : Bd 2 (PR n a e) := by
  have hl := M.hv_len 250 e he
  refine .lst (by rw [List.length_map]; omega) fun d hd => ?_
  obtain ⟨x, hx, rfl⟩ := List.mem_map.mp hd
  have := M.hv_mem_le hx
  exact prD_bd h0 hn (by omega)
/-- a tuple of whole numbers -/
def isTW (k : Int) (d : PyData) : Bool := isR k d && match d with
  | .tuple ds => ds.all isWh
  | _ => true
theorem isTW_nb {k : Int} {d : PyData} (h : isTW k d = true) : nb d = true := by
  unfold isTW at h
  rw [Bool.and_eq_true] at h
  obtain ⟨ds, rfl, _⟩ := isR_inv h.1
  simp only [nb]
  refine nbs_all.mpr fun e he => ?_
  obtain ⟨i, rfl⟩ := isWh_inv (List.all_eq_true.mp h.2 e he)
  rfl
/-- is_tuple_of(thing, many) -/
def sp_is_tuple_of : Sp := fun vs H Q _ => ∃ (v : V) (d : PyData) (k : Int), vs = [v, .int k] ∧ Da H v d ∧ Bd 60 d ∧ ∀ H', Same H H' → Q (.bl (isTW k d)) H'
theorem ok_is_tuple_of (T : Txt K mg) : FnOk P w K mg base CX0 1 (He.ga K "is_tuple_of") (fd_is_tuple_of T) ["thing", "many"] sp_is_tuple_of := by
  refine (F_is_tuple_of T).ok sc_is_tuple_of (fun vs H Q E h => ?_) (fun cdv A outer s H vs Q E hr h => ⟨_, PSs.nox (pss_cons (ps_if (PW.pt (pw_or (pt_not (pt_val (pe_callB call_isi rfl (T.fr (T.c.fact 17 rfl)) boot_isinstance (pa_cons (pv 0) (pa_cons (pe_bltn (v := .ty "tuple") rfl (T.fr (T.c.fact 18 rfl)) boot_tuple rfl) pa_nil))))) (pw_or1 (pt_cmpR op_ne (pe_callB callLen rfl (T.fr (T.c.fact 15 rfl)) boot_len (pa_cons (pv 0) pa_nil)) (pv 1) (nomark _))))) (pss_one (ps_ret pe_bl)) pss_nil)
      (pss_one (ps_ret (pe_callB (cr_all rfl) rfl (T.fr (T.c.fact 16 rfl)) boot_all (pa_cons (pe_lc (own := [("one", 2)]) (tt := tYes) rfl sc_is_tuple_of.nd (pi_tup (pv 0)) (blkOk_by (N := N_is_tuple_of) (sc := defScope s_is_tuple_of) (by decide +kernel)) (fun _ _ _ _ _ => (pg_name (i := 2) sc_is_tuple_of.nd rfl (Or.inl rfl))) (fun _ _ _ _ _ => pts_nil) (fun _ _ _ _ _ => (pe_and (pe_callB (R.call_isiK K rfl) rfl (T.fr (T.c.fact 17 rfl)) boot_isinstance (pa_cons (pv 2) (pa_cons (pe_bltn (v := .ty "int") rfl (T.fr (T.c.fact 19 rfl)) boot_int rfl) pa_nil))) (pe_one (pe_not (pe_callB (R.call_isiK K rfl) rfl (T.fr (T.c.fact 17 rfl)) boot_isinstance (pa_cons (pv 2) (pa_cons (pe_bltn (v := .ty "bool") rfl (T.fr (T.c.fact 20 rfl)) boot_bool rfl) pa_nil)))))))) pa_nil))))), ?_⟩)
  · obtain ⟨v, d, k, rfl, _⟩ := h; rfl
  · obtain ⟨v, d, kk, rfl, hd, hb, k⟩ := h
    have no : isR kk d = false → isTW kk d = false := fun z => by unfold isTW; rw [z, Bool.false_and]
    walk_at "g"
    refine s_isiTup hd ?_
    walk_at "g"
    cases et : isTup d with
    | false =>
      walk_at "g"
      have := no (by cases d <;> first | rfl | cases et)
      exact this ▸ k H (Same.refl _)
    | true =>
    cases hd with
    | non => cases et
    | bl b => cases et
    | int i => cases et
    | str x => cases et
    | lst _ _ => cases et
    | @tup p xs ds ep hds =>
    have hxl := hds.len
    obtain ⟨_, _, hlen, _⟩ := hb.tup_inv
    walk_at "g"
    refine s_lenT (SqT.of ep) ?_
    rw [hxl]
    walk_at "g"
    refine s_iten (fun c => ?_) (fun c => ?_)
    · walk_at "g"
      have := no (by rw [isR_tup]; exact decide_eq_false c)
      exact this ▸ k H (Same.refl _)
    walk_at "g"
    refine s_lc ?_
    walk_at "g"
    refine ⟨⟨_, SqT.of ep⟩, fun D hD => ?_⟩
    refine lc_tup (fun i H3 => Same H H3 ∧ H3 D = some (.lst (((ds.take i).map isWh).map V.bl))) ⟨same_upd hD, upd_same⟩ (fun i H3 _ I => SqT.of (I.1 _ _ ep)) ?_ ?_
    · rintro i x H3 hi ⟨s3, hb3⟩
      obtain ⟨d, hdi, hd0⟩ := hds.get hi
      have hil : i < ds.length := (List.getElem?_eq_some_iff.mp hdi).1
      have fin : ∀ b, b = isWh d → Same H (upd H3 D (.lst (((ds.take i).map isWh).map V.bl ++ [.bl b]))) ∧ upd H3 D (.lst (((ds.take i).map isWh).map V.bl ++ [.bl b])) D = some (.lst (((ds.take (i + 1)).map isWh).map V.bl)) := fun b hb => ⟨same_upd' s3 hD, by rw [upd_same, take_more hdi, List.map_append, List.map_append, hb]; rfl⟩
      have hd3 := hd0.same s3
      walk_at "g"
      refine ⟨rfl, ?_⟩
      walk_at "g"
      cases hd3 with
      | non => refine s_isi .non kb_ni ?_; walk_at "g"; exact ⟨_, hb3, small1000 (by rw [List.length_map, List.length_map, List.length_take]; omega), fin _ rfl⟩
      | bl b => refine s_isi (.bl b) kb_bi ?_; walk_at "g"; refine s_isi (.bl b) kb_bb ?_; walk_at "g"; exact ⟨_, hb3, small1000 (by rw [List.length_map, List.length_map, List.length_take]; omega), fin _ rfl⟩
      | int j => walk_at "g"; exact ⟨_, hb3, small1000 (by rw [List.length_map, List.length_map, List.length_take]; omega), fin _ rfl⟩
      | str x => refine s_isi (.str x) kb_si ?_; walk_at "g"; exact ⟨_, hb3, small1000 (by rw [List.length_map, List.length_map, List.length_take]; omega), fin _ rfl⟩
      | lst e _ => refine s_isi (.lst e) kb_li ?_; walk_at "g"; exact ⟨_, hb3, small1000 (by rw [List.length_map, List.length_map, List.length_take]; omega), fin _ rfl⟩
      | tup e _ => refine s_isi (.tup e) kb_ti ?_; walk_at "g"; exact ⟨_, hb3, small1000 (by rw [List.length_map, List.length_map, List.length_take]; omega), fin _ rfl⟩
    · rintro H3 ⟨s3, hb3⟩
      rw [hxl, List.take_length] at hb3
      refine ⟨D, _, rfl, SqL.of hb3, ?_⟩
      have e1 : isTW kk (.tuple ds) = (ds.map isWh).all id := by
        unfold isTW
        rw [isR_tup, decide_eq_true c, Bool.true_and, List.all_map]; rfl
      exact e1 ▸ k H3 s3
/-- is_power_row(n, a, e, thing) -/
def sp_is_power_row : Sp := fun vs H Q _ => ∃ (n a : Int) (e : Nat) (v : V) (d : PyData), vs = [.int n, .int a, .int e, v] ∧ 0 < n ∧ n.natAbs < 2 ^ 250 ∧ a.natAbs < 2 ^ 900 ∧ e < 2 ^ 250 ∧ Da H v d ∧ Bd 60 d ∧ ∀ (b : Bool) H', (b = true ↔ d = PR n a e) → Same H H' → Q (.bl b) H'
theorem ok_is_power_row (T : Txt K mg) : FnOk P w K mg base CX0 3 (He.ga K "is_power_row") (fd_is_power_row T) ["n", "a", "e", "thing"] sp_is_power_row := by
  refine (F_is_power_row T).ok sc_is_power_row (fun vs H Q E h => ?_) (fun cdv A outer s H vs Q E hr h => ⟨_, PSs.nox (pss_cons (ps_if (PW.pt (pw_or (pt_not (pt_val (pe_callB call_isi rfl (T.fr (T.c.fact 17 rfl)) boot_isinstance (pa_cons (pv 3) (pa_cons (pe_bltn (v := .ty "list") rfl (T.fr (T.c.fact 21 rfl)) boot_list rfl) pa_nil))))) (pw_or1 (pt_not (pt_val (pe_callB (cr_all rfl) rfl (T.fr (T.c.fact 16 rfl)) boot_all (pa_cons (pe_lc (own := [("one", 4)]) (tt := tYes) rfl sc_is_power_row.nd (pi_list (pv 3)) (blkOk_by (N := N_is_power_row) (sc := defScope s_is_power_row) (by decide +kernel)) (fun _ _ _ _ _ => (pg_name (i := 4) sc_is_power_row.nd rfl (Or.inl rfl))) (fun _ _ _ _ _ => pts_nil) (fun _ _ _ _ _ => (pe_call (ok_is_tuple_of T) (hr.mono (by decide)) rfl (g_is_tuple_of T) (kp_is_tuple_of T) (B_is_tuple_of T) .nil pass0 (pa_cons (pv 4) (pa_cons pe_int pa_nil))))) pa_nil))))))) (pss_one (ps_ret pe_bl)) pss_nil)
      (pss_one (ps_ret (pe_cmpR (op_eqD hr.units) (pv 3) (pe_call (ok_power_row T) (hr.mono (by decide)) rfl (g_power_row T) (kp_power_row T) (B_power_row T) .nil pass0 (pa_cons (pv 0) (pa_cons (pv 1) (pa_cons (pv 2) pa_nil)))) (nomark _))))), ?_⟩)
  · obtain ⟨n, a, e, v, d, rfl, _⟩ := h; rfl
  · obtain ⟨n, a, e, v, d, rfl, h0, hn, ha, he, hd, hb, k⟩ := h
    have bad : d ≠ PR n a e → ∀ H2, Same H H2 → Q (.bl false) H2 := fun h H2 s2 => k false H2 ⟨fun z => (nomatch z), fun z => absurd z h⟩ s2
    have allT : ∀ d ∈ (M.hv e).map (prD n a), isTW 2 d = true := fun d hd => by
      obtain ⟨x, _, rfl⟩ := List.mem_map.mp hd
      rfl
    walk_at "g"
    refine s_isiLst hd ?_
    walk_at "g"
    cases et : isLst d with
    | false =>
      walk_at "g"
      exact bad (fun z => by rw [z] at et; cases et) H (Same.refl _)
    | true =>
    cases hd with
    | non => cases et
    | bl b => cases et
    | int i => cases et
    | str x => cases et
    | tup _ _ => cases et
    | @lst p xs ds ep hds _ =>
    have hxl := hds.len
    obtain ⟨m, em, hlen, hbe⟩ := hb.lst_inv
    walk_at "g"
    refine s_lc ?_
    walk_at "g"
    refine ⟨⟨_, SqL.of ep⟩, fun D hD => ?_⟩
    refine lc_list (fun i H3 => Same H H3 ∧ H3 D = some (.lst (((ds.take i).map (isTW 2)).map V.bl))) ⟨same_upd hD, upd_same⟩ (fun i H3 _ I => SqL.of (I.1 _ _ ep)) ?_ ?_
    · rintro i x H3 hi ⟨s3, hb3⟩
      obtain ⟨d, hdi, hd0⟩ := hds.get hi
      have hil : i < ds.length := (List.getElem?_eq_some_iff.mp hdi).1
      walk_at "g"
      refine ⟨rfl, ?_⟩
      walk_at "g"
      refine ⟨x, d, 2, rfl, hd0.same s3, (hbe d (List.mem_of_getElem? hdi)).mono (by omega), fun H4 s4 => ?_⟩
      refine ⟨_, s4 _ _ hb3, small1000 (by rw [List.length_map, List.length_map, List.length_take]; omega), same_upd' (s3.trans s4) hD, ?_⟩
      rw [upd_same, take_more hdi, List.map_append, List.map_append]; rfl
    · rintro H3 ⟨s3, hb3⟩
      rw [hxl, List.take_length] at hb3
      refine ⟨D, _, rfl, SqL.of hb3, ?_⟩
      walk_at "g"
      have hall : (ds.map (isTW 2)).all id = ds.all (isTW 2) := by rw [List.all_map]; rfl
      cases hq : ds.all (isTW 2) with
      | false =>
        rw [hq] at hall
        rw [hall]
        walk_at "g"
        refine bad (fun z => ?_) H3 s3
        rw [PyData.list.inj z, List.all_eq_true.mpr allT] at hq
        cases hq
      | true =>
      rw [hq] at hall
      rw [hall]
      walk_at "g"
      refine ⟨n, a, e, rfl, h0, by omega, ha, by omega, fun q H4 ys nq s4 eq hys => ?_⟩
      have hnb : nb (.list ds) = true := by
        simp only [nb]
        exact nbs_all.mpr fun d hd => isTW_nb (List.all_eq_true.mp hq d hd)
      have hnP : nb (PR n a e) = true := by
        simp only [PR, nb]
        exact nbs_all.mpr fun d hd => isTW_nb (allT d hd)
      have hbP := PR_bd (a := a) h0 hn he
      have hd4 : Da H4 (.ref p) (.list ds) := .lst (s4 _ _ (s3 _ _ ep)) (hds.same (s3.trans s4)) trivial
      refine s_eqD (.list ds) (PR n a e) (hd4.dp K) (DaF.dp K (F := fun _ => True) (.lst eq (tups_data hys) trivial)) (hb.shaped (by decide)) (hbP.shaped (by decide)) ?_
      exact k _ H4 (eqv_nb_iff hnb hnP hb.lay.1) (s3.trans s4)

theorem s_isBl {H : Hp} {Q : VK} {a b : Bool} (h : Q (.bl (decide (a = b))) H) : L2.rIsB (.bl a) (.bl b) H Q := ⟨a, b, rfl, rfl, h⟩

theorem s_enumL {K : PySem.W.Frag} {ta : TA} {σ : L2.St} {H : Hp} {R : It → Hp → Prop} (h : ta σ H fun vs H1 => ∃ a xs, vs = [.ref a] ∧ SqL K H1 a xs ∧ R (Ite K a) H1) : iEnum K ta σ H R := h
theorem s_notInT2 {K : PySem.W.Frag} {H : Hp} {Q : VK} {p : Addr} {a b c : Int} (hp : H p = some (.tup [.int b, .int c])) (h : Q (.bl (!decide (a = b ∨ a = c))) H) : rIn K true (.int a) (.ref p) H Q :=
  ⟨p, _, rfl, .inr (SqT.of hp), rfl, flat_ints [b, c], by
    have := in_ints a [b, c]
    simp only [List.map_cons, List.map_nil, List.mem_cons, List.not_mem_nil, or_false] at this
    rw [if_pos rfl, this]; exact h⟩
theorem hv_last {e : Nat} : ∃ l, M.hv e = l ++ [e] := by
  rcases Nat.eq_zero_or_pos e with z | z
  · subst z; exact ⟨[], M.hv_zero⟩
  · exact ⟨_, M.hv_pos z⟩
theorem prD_inj {n a : Int} {x y : Nat} (h : prD n a x = prD n a y) : x = y := by
  simp only [prD, PyData.tuple.injEq, List.cons.injEq, PyData.int.injEq] at h
  omega
/-- where a row that is right so far goes on -/
theorem row_next {n a : Int} {e last i : Nat} {ds : List PyData} {d : PyData} (hd : ds = (M.hv e).map (prD n a)) (hi : ds[i]? = some d) (ht : 0 < i → ds.take i = (M.hv last).map (prD n a)) : ∃ x, d = prD n a x ∧ (i = 0 → x = 0) ∧ (0 < i → 0 < x ∧ x / 2 = last) := by
  obtain ⟨a0, _, a2⟩ := M.hv_at e
  rw [hd, List.getElem?_map] at hi
  obtain ⟨x, hx, rfl⟩ := Option.map_eq_some_iff.mp hi
  refine ⟨x, rfl, fun z => ?_, fun z => ?_⟩
  · subst z; rw [a0] at hx; exact (Option.some.inj hx).symm
  · obtain ⟨j, rfl⟩ : ∃ j, i = j + 1 := ⟨i - 1, by omega⟩
    obtain ⟨h1, h2⟩ := a2 j x hx
    refine ⟨h2, ?_⟩
    have h3 := ht z
    obtain ⟨l, hl⟩ := hv_last (e := last)
    have hlen := congrArg List.length h3
    rw [hl, List.length_take, List.length_map, List.length_append, List.length_singleton] at hlen
    have hjl : j < ds.length := by
      rw [hd, List.length_map]; exact (List.getElem?_eq_some_iff.mp h1).1
    have hll : l.length = j := by
      have : j + 1 < ds.length := by rw [hd, List.length_map]; exact (List.getElem?_eq_some_iff.mp hx).1
      omega
    have h4 : ds[j]? = some (prD n a last) := by
      have h5 : (ds.take (j + 1))[j]? = ds[j]? := List.getElem?_take_of_lt (by omega)
      rw [← h5, h3, hl, List.map_append, List.getElem?_append_right (by rw [List.length_map]; omega), List.length_map, hll, Nat.sub_self]; rfl
    rw [hd, List.getElem?_map, h1] at h4
    exact prD_inj (Option.some.inj h4)
/-- _law_is_row(n, a, e, thing) -/
def sp__law_is_row : Sp := fun vs H Q _ => ∃ (n a : Int) (e : Nat) (v : V) (d : PyData), vs = [.int n, .int a, .int e, v] ∧ 0 < n ∧ n.natAbs < 2 ^ 250 ∧ a.natAbs < 2 ^ 300 ∧ Da H v d ∧ Bd 60 d ∧ ∀ (b : Bool) H', (b = true ↔ d = PR n a e) → Same H H' → Q (.bl b) H'
theorem ok__law_is_row (T : Txt K mg) : FnOk P w K mg base CX0 2 (He.ga K "_law_is_row") (fd__law_is_row T) ["_law_n", "_law_a", "_law_e", "_law_thing"] sp__law_is_row := by
  refine (F__law_is_row T).ok sc__law_is_row (fun vs H Q E h => ?_) (fun cdv A outer s H vs Q E hr h => ⟨_, PSs.nox (pss_cons (ps_if (PW.pt (pw_or (pt_not (pt_val (pe_callB call_isi rfl (T.fr (T.c.fact 17 rfl)) boot_isinstance (pa_cons (pv 3) (pa_cons (pe_bltn (v := .ty "list") rfl (T.fr (T.c.fact 21 rfl)) boot_list rfl) pa_nil))))) (pw_or1 (pt_cmpR op_eq (pe_callB callLen rfl (T.fr (T.c.fact 15 rfl)) boot_len (pa_cons (pv 3) pa_nil)) pe_int (nomark _))))) (pss_one (ps_ret pe_bl)) pss_nil)
      (pss_cons (ps_set (i := 4) sc__law_is_row.nd rfl (Or.inl rfl) pe_int)
      (pss_cons (ps_set (i := 5) sc__law_is_row.nd rfl (Or.inl rfl) (pe_op op_mod pe_int (pv 0)))
      (pss_cons (ps_for PassesOwn.never rfl (pi_enum rfl (T.fr (T.c.fact 24 rfl)) (pa_cons (pv 3) pa_nil)) (pg_tup rfl (pgs_cons (pg_name (i := 6) sc__law_is_row.nd rfl (Or.inl rfl)) (pgs_cons (pg_name (i := 7) sc__law_is_row.nd rfl (Or.inl rfl)) pgs_nil))) (pss_cons (ps_if (PW.pt (pw_or (pt_not (pt_val (pe_callB call_isi rfl (T.fr (T.c.fact 17 rfl)) boot_isinstance (pa_cons (pv 7) (pa_cons (pe_bltn (v := .ty "tuple") rfl (T.fr (T.c.fact 18 rfl)) boot_tuple rfl) pa_nil))))) (pw_or (pt_cmpR op_ne (pe_callB callLen rfl (T.fr (T.c.fact 15 rfl)) boot_len (pa_cons (pv 7) pa_nil)) pe_int (nomark _)) (pw_or (pt_not (pt_val (pe_call (ok__law_whole T) (hr.mono (by decide)) rfl (g__law_whole T) (kp__law_whole T) (B__law_whole T) .nil pass0 (pa_cons (pe_ix ix_seq (pv 7) pe_int (fun _ _ => rfl)) pa_nil)))) (pw_or1 (pt_not (pt_val (pe_call (ok__law_whole T) (hr.mono (by decide)) rfl (g__law_whole T) (kp__law_whole T) (B__law_whole T) .nil pass0 (pa_cons (pe_ix ix_seq (pv 7) pe_int (fun _ _ => rfl)) pa_nil))))))))) (pss_one (ps_ret pe_bl)) pss_nil)
      (pss_cons (ps_if (pt_cmpR op_gt (pv 6) pe_int (nomark _)) (pss_cons (ps_if (PW.pt (pw_or (pt_cmpR op_lt (pe_ix ix_seq (pv 7) pe_int (fun _ _ => rfl)) pe_int (nomark _)) (pw_or1 (pt_cmpR op_notIn_seq (pe_ix ix_seq (pv 7) pe_int (fun _ _ => rfl)) (pe_tup (pa_cons (pe_op op_mulW pe_int (pv 4)) (pa_cons (pe_op op_add (pe_op op_mulW pe_int (pv 4)) pe_int) pa_nil))) rfl)))) (pss_one (ps_ret pe_bl)) pss_nil)
      (pss_one (ps_set (i := 5) sc__law_is_row.nd rfl (Or.inl rfl) (pe_op op_mod (pe_op op_mulW (pe_op op_mulW (pv 5) (pv 5)) (pe_ix ix_seq (pe_lst (pa_cons pe_int (pa_cons (pv 1) pa_nil))) (pe_op op_mod (pe_ix ix_seq (pv 7) pe_int (fun _ _ => rfl)) pe_int) (fun _ _ => rfl))) (pv 0))))) pss_nil)
      (pss_cons (ps_if (PW.pt (pw_or (PW.pt (pw_and (pt_cmpR op_eq (pv 6) pe_int (nomark _)) (pw_and1 (pt_cmpR op_ne (pe_ix ix_seq (pv 7) pe_int (fun _ _ => rfl)) pe_int (nomark _))))) (pw_or1 (pt_cmpR op_ne (pe_ix ix_seq (pv 7) pe_int (fun _ _ => rfl)) (pv 5) (nomark _))))) (pss_one (ps_ret pe_bl)) pss_nil)
      (pss_one (ps_set (i := 4) sc__law_is_row.nd rfl (Or.inl rfl) (pe_ix ix_seq (pv 7) pe_int (fun _ _ => rfl))))))))
      (pss_one (ps_ret (pe_cmpR op_eq (pv 4) (pv 2) (nomark _)))))))), ?_⟩)
  · obtain ⟨n, a, e, v, d, rfl, _⟩ := h; rfl
  · obtain ⟨n, a, e, v, d, rfl, h0, hn, ha, hd, hb, k⟩ := h
    have bad : d ≠ PR n a e → ∀ H2, Same H H2 → Q (.bl false) H2 := fun h H2 s2 => k false H2 ⟨fun z => (nomatch z), fun z => absurd z h⟩ s2
    walk_at "g"
    refine s_isiLst hd ?_
    walk_at "g"
    cases et : isLst d with
    | false =>
      walk_at "g"
      exact bad (fun z => by rw [z] at et; cases et) H (Same.refl _)
    | true =>
    cases hd with
    | non => cases et
    | bl b => cases et
    | int i => cases et
    | str x => cases et
    | tup _ _ => cases et
    | @lst p xs ds ep hds _ =>
    have hxl := hds.len
    obtain ⟨m, em, hlen, hbe⟩ := hb.lst_inv
    have ePR : (PyData.list ds = PR n a e) ↔ ds = (M.hv e).map (prD n a) := by unfold PR; rw [PyData.list.injEq]
    have k : ∀ (b : Bool) H', (b = true ↔ ds = (M.hv e).map (prD n a)) → Same H H' → Q (.bl b) H' := fun b H' h s => k b H' (h.trans ePR.symm) s
    have bad : ds ≠ (M.hv e).map (prD n a) → ∀ H2, Same H H2 → Q (.bl false) H2 := fun h => bad fun z => h (ePR.mp z)
    obtain ⟨l0, hl0⟩ := hv_last (e := e)
    walk_at "g"
    refine s_lenL (SqL.of ep) ?_
    rw [hxl]
    walk_at "g"
    refine s_ite (fun c => ?_) (fun c => ?_)
    · walk_at "g"
      refine bad (fun z => ?_) H (Same.refl _)
      have h1 : ds.length = 0 := by omega
      rw [z, hl0] at h1
      simp at h1
    walk_at "g"
    refine s_i (by omega) ?_
    walk_at "g"
    refine s_enumL ?_
    walk_at "g"
    refine ⟨p, _, rfl, SqL.of ep, ?_⟩
    refine for_it walk_enum (fun i σ H' => Same H H' ∧ ∃ (last : Nat) (v6 v7 : Option V), σ = [some (.int n), some (.int a), some (.int e), some (.ref p), some (.int last), some (.int (M.pw n a last)), v6, v7] ∧ last < 2 ^ 300 ∧ (i = 0 → last = 0) ∧ (0 < i → ds.take i = (M.hv last).map (prD n a))) ⟨Same.refl _, 0, none, none, by rw [M.pw_zero]; rfl, by decide, fun _ => rfl, fun z => absurd z (by omega)⟩ (fun i σ H' _ I => SqL.of (I.1 _ _ ep)) ?_ ?_
    · rintro i v σ H1 H2 hi ⟨s1, last, v6, v7, rfl, lb, l0', lt⟩ ⟨T0, x, y, rfl, nT, rfl, ex, ey⟩
      cases ex
      obtain ⟨dy, hdy, hdd⟩ := hds.get ey
      have s2 : Same H1 (upd H1 T0 (.tup [.int (i : Nat), y])) := same_upd nT
      have eT : upd H1 T0 (.tup [.int (i : Nat), y]) T0 = some (.tup [.int (i : Nat), y]) := upd_same
      generalize upd H1 T0 (.tup [.int (i : Nat), y]) = H2 at s2 eT ⊢
      have S2 := s1.trans s2
      have hdd2 := hdd.same S2
      have hbd := hbe dy (List.mem_of_getElem? hdy)
      have bad2 : (∀ x, dy = prD n a x → (i = 0 → x = 0) → (0 < i → 0 < x ∧ x / 2 = last) → False) → ∀ H3, Same H H3 → Q (.bl false) H3 := fun h => bad fun z => by
        obtain ⟨x, h1, h2, h3⟩ := row_next z hdy lt
        exact h x h1 h2 h3
      refine s_gtup (SqT.of eT) rfl ?_
      walk_at "g"
      refine s_isiTup hdd2 ?_
      walk_at "g"
      cases ety : isTup dy with
      | false =>
        walk_at "g"
        exact bad2 (fun x h _ _ => by rw [h] at ety; cases ety) H2 S2
      | true =>
      cases hdd2 with
      | non => cases ety
      | bl b => cases ety
      | int i => cases ety
      | str x => cases ety
      | lst _ _ => cases ety
      | @tup q zs es eq hes =>
      have hzl := hes.len
      obtain ⟨m2, em2, _, hbz⟩ := hbd.tup_inv
      walk_at "g"
      refine s_lenT (SqT.of eq) ?_
      rw [hzl]
      walk_at "g"
      refine s_iten (fun c2 => ?_) (fun c2 => ?_)
      · walk_at "g"
        refine bad2 (fun x h _ _ => ?_) H2 S2
        unfold prD at h
        rw [PyData.tuple.inj h] at c2
        simp at c2
      obtain ⟨e0, e1, rfl⟩ : ∃ e0 e1, es = [e0, e1] := by
        have : es.length = 2 := by omega
        match es, this with
        | [a, b], _ => exact ⟨a, b, rfl⟩
      obtain ⟨z0, z1, zr, rfl, g0, g1, g2⟩ := hes.two
      cases g2
      walk_at "g"
      refine s_ixT (SqT.of eq) (atI0 0 rfl rfl) ?_
      walk_at "g"
      refine ⟨z0, e0, rfl, g0, ?_⟩
      walk_at "g"
      cases ew : isWh e0 with
      | false =>
        walk_at "g"
        refine bad2 (fun x h _ _ => ?_) H2 S2
        simp only [prD, PyData.tuple.injEq, List.cons.injEq, and_true] at h
        rw [h.1] at ew; cases ew
      | true =>
      obtain ⟨x0, rfl⟩ := isWh_inv ew
      walk_at "g"
      refine s_ixT (SqT.of eq) (atI0 1 rfl rfl) ?_
      walk_at "g"
      refine ⟨z1, e1, rfl, g1, ?_⟩
      walk_at "g"
      cases ew1 : isWh e1 with
      | false =>
        walk_at "g"
        refine bad2 (fun x h _ _ => ?_) H2 S2
        simp only [prD, PyData.tuple.injEq, List.cons.injEq, and_true] at h
        rw [h.2] at ew1; cases ew1
      | true =>
      obtain ⟨x1, rfl⟩ := isWh_inv ew1
      cases g0
      cases g1
      have hx0 := (hbz (.int x0) (by simp)).int_inv
      have hpr := M.pw_range h0 a last
      walk_at "h"
      refine s_join (fun σ' H3 => Same H2 H3 ∧ ∃ r : Int, σ' = [some (.int n), some (.int a), some (.int e), some (.ref p), some (.int last), some (.int r), some (.int (i : Nat)), some (.ref q)] ∧ (i = 0 → r = M.pw n a last) ∧ (0 < i → ∃ x : Nat, x0 = x ∧ 0 < x ∧ x / 2 = last ∧ r = M.pw n a x)) ?_ fun N J => ?_
      case refine_2 =>
        walk_at "g"
        refine s_ite (fun ci => ?_) (fun ci => ?_)
        rotate_left
        · exact J _ _ ⟨Same.refl _, _, rfl, fun _ => rfl, fun z => absurd z (by omega)⟩
        walk_at "g"
        refine s_ixT (SqT.of eq) (atI0 0 rfl rfl) ?_
        walk_at "g"
        refine s_ite (fun c3 => ?_) (fun c3 => ?_)
        · walk_at "g"
          refine bad2 (fun x h _ h2 => ?_) H2 S2
          simp only [prD, PyData.tuple.injEq, List.cons.injEq, PyData.int.injEq, and_true] at h
          have := (h2 (by omega)).1
          omega
        obtain ⟨x0, rfl⟩ := Int.eq_ofNat_of_zero_le (show 0 ≤ x0 by omega)
        walk_at "g"
        refine s_ixT (SqT.of eq) (atI0 0 rfl rfl) ?_
        walk_at "g"
        refine mkT (by simp) fun W H3 nW eW s3 => ?_
        refine s_notInT2 eW ?_
        walk_at "g"
        refine s_iten (fun c4 => ?_) (fun c4 => ?_)
        · walk_at "g"
          refine bad2 (fun x h _ h2 => ?_) H3 (S2.trans s3)
          simp only [prD, PyData.tuple.injEq, List.cons.injEq, PyData.int.injEq, and_true] at h
          have := (h2 (by omega)).2
          omega
        have hlast : x0 / 2 = last := by omega
        have hx0' : 0 < x0 := by omega
        have hpar : (x0 : Int) % 2 = 0 ∨ (x0 : Int) % 2 = 1 := by omega
        have hsq : M.pw n a last * M.pw n a last % n = M.pw n a (last + last) := (M.pw_add n a last last).symm
        walk_at "g"
        try refine s_i (mulW (by omega) (by omega)) ?_
        have hmb : (M.pw n a last * M.pw n a last).natAbs < 2 ^ 500 := by
          rw [Int.natAbs_mul]
          have := Nat.mul_le_mul (show (M.pw n a last).natAbs ≤ 2 ^ 250 by omega) (show (M.pw n a last).natAbs ≤ 2 ^ 250 by omega)
          have : (2 : Nat) ^ 250 * 2 ^ 250 = 2 ^ 500 := by rw [← Nat.pow_add]
          have : (M.pw n a last).natAbs * (M.pw n a last).natAbs < 2 ^ 250 * 2 ^ 250 := Nat.mul_lt_mul_of_lt_of_lt (by omega) (by omega)
          omega
        walk_at "g"
        refine mkL (by simp) fun L4 H4 nL4 eL4 s4 => ?_
        walk_at "g"
        refine s_ixT (SqT.of (s4 _ _ (s3 _ _ eq))) (atI0 0 rfl rfl) ?_
        walk_at "g"
        have hmod : ∀ x y : Int, x * (y % n) % n = x * y % n := fun x y => by rw [Int.mul_emod, Int.emod_emod, ← Int.mul_emod]
        have fin : ∀ w : Int, (x0 % 2 = 0 → w = 1) → (x0 % 2 = 1 → w = a) → M.pw n a last * M.pw n a last * w % n = M.pw n a x0 := fun w w0 w1 => by
          rw [Int.mul_emod, hsq]
          rcases hpar with hp | hp
          · rw [w0 (by omega), show last + last = x0 by omega]
            rw [hmod, Int.mul_one]
            have := M.pw_range h0 a x0
            exact Int.emod_eq_of_lt this.1 this.2
          · rw [w1 (by omega), hmod, M.pw_mul, show last + last + 1 = x0 by omega]
        have S4 := s3.trans s4
        rcases hpar with hp | hp
        · refine s_ixL (SqL.of eL4) (atI0 0 hp rfl) ?_
          refine s_i (mulW (by omega) (by omega)) ?_
          walk_at "g"
          refine s_i (by omega) ?_
          walk_at "g"
          exact J _ _ ⟨S4, _, rfl, fun z => by omega, fun _ => ⟨x0, rfl, hx0', hlast, fin 1 (fun _ => rfl) fun z => by omega⟩⟩
        · refine s_ixL (SqL.of eL4) (atI0 1 hp rfl) ?_
          refine s_i (mulW (by omega) (by omega)) ?_
          walk_at "g"
          refine s_i (by omega) ?_
          walk_at "g"
          exact J _ _ ⟨S4, _, rfl, fun z => by omega, fun _ => ⟨x0, rfl, hx0', hlast, fin a (fun z => by omega) fun _ => rfl⟩⟩
      rintro σ' H3 ⟨s3, r, rfl, r0, r1⟩
      have S3 := S2.trans s3
      have eq3 := s3 _ _ eq
      have main : (i = 0 → x0 = 0) → x1 = r → Same H H3 ∧ ∃ (last' : Nat) (v6 v7 : Option V), [some (.int n), some (.int a), some (.int e), some (.ref p), some (.int x0), some (.int r), some (.int (i : Nat)), some (.ref q)] = [some (.int n), some (.int a), some (.int e), some (.ref p), some (.int last'), some (.int (M.pw n a last')), v6, v7] ∧ last' < 2 ^ 300 ∧ (i + 1 = 0 → last' = 0) ∧ (0 < i + 1 → ds.take (i + 1) = (M.hv last').map (prD n a)) := fun h1 h2 => by
        subst h2
        rcases Nat.eq_zero_or_pos i with z | z
        · obtain rfl := h1 z
          have := r0 z
          rw [l0' z] at this
          subst this
          refine ⟨S3, 0, _, _, rfl, by decide, fun _ => rfl, fun _ => ?_⟩
          subst z
          rw [take_more hdy, List.take_zero, M.hv_zero]; rfl
        · obtain ⟨x, rfl, h3, h4, rfl⟩ := r1 z
          refine ⟨S3, x, _, _, rfl, by omega, fun z => by omega, fun _ => ?_⟩
          rw [take_more hdy, lt z, M.hv_pos h3, h4, List.map_append]; rfl
      have bad3 : ¬ ((i = 0 → x0 = 0) ∧ x1 = r) → Q (.bl false) H3 := fun h => bad2 (fun x hx hi0 hi1 => h (by
        simp only [prD, PyData.tuple.injEq, List.cons.injEq, PyData.int.injEq, and_true] at hx
        refine ⟨fun z => by rw [hx.1, hi0 z]; rfl, ?_⟩
        rw [hx.2]
        rcases Nat.eq_zero_or_pos i with z | z
        · rw [r0 z, l0' z, hi0 z]
        · obtain ⟨x', h1, _, _, h2⟩ := r1 z
          have : x = x' := by omega
          rw [this, h2])) H3 S3
      walk_at "g"
      refine s_ite (fun ci => ?_) (fun ci => ?_)
      · walk_at "g"
        refine s_ixT (SqT.of eq3) (atI0 0 rfl rfl) ?_
        walk_at "g"
        refine s_iten (fun c5 => ?_) (fun c5 => ?_)
        · walk_at "g"
          exact bad3 fun z => c5 (z.1 (by omega))
        walk_at "g"
        refine s_ixT (SqT.of eq3) (atI0 1 rfl rfl) ?_
        walk_at "g"
        refine s_iten (fun c6 => ?_) (fun c6 => ?_)
        · walk_at "g"
          exact bad3 fun z => c6 z.2
        walk_at "g"
        refine s_ixT (SqT.of eq3) (atI0 0 rfl rfl) ?_
        walk_at "g"
        exact main (fun _ => c5) c6
      · walk_at "g"
        refine s_ixT (SqT.of eq3) (atI0 1 rfl rfl) ?_
        walk_at "g"
        refine s_iten (fun c6 => ?_) (fun c6 => ?_)
        · walk_at "g"
          exact bad3 fun z => c6 z.2
        walk_at "g"
        refine s_ixT (SqT.of eq3) (atI0 0 rfl rfl) ?_
        walk_at "g"
        exact main (fun z => absurd (by omega) ci) c6
    · rintro σ H1 ⟨s1, last, v6, v7, rfl, lb, _, lt⟩
      rw [hxl, List.take_length] at lt
      have lt := lt (by omega)
      walk_at "g"
      refine k _ H1 ?_ s1
      rw [decide_eq_true_iff]
      constructor
      · intro h
        have : last = e := by omega
        rw [lt, this]
      · intro h
        obtain ⟨l1, hl1⟩ := hv_last (e := last)
        rw [lt, hl0, hl1, List.map_append, List.map_append] at h
        have h2 := List.append_inj_right' h rfl
        simp only [List.map_cons, List.map_nil, List.cons.injEq, and_true] at h2
        rw [prD_inj h2]
/-- _law_bent(row, way, at, n) -/
def sp__law_bent : Sp := fun vs H Q _ => ∃ (n a : Int) (e way at_ : Nat) (v : V), vs = [v, .int way, .int at_, .int n] ∧ 0 < n ∧ n.natAbs < 2 ^ 220 ∧ e < 2 ^ 220 ∧ way < 20 ∧ Da H v (PR n a e) ∧ ∀ x d H', Da H' x d → Bd 4 d → Same H H' → Q x H'
theorem ok__law_bent (T : Txt K mg) : FnOk P w K mg base CX0 1 (He.ga K "_law_bent") (fd__law_bent T) ["_law_row", "_law_way", "_law_at", "_law_n"] sp__law_bent := by
  refine (F__law_bent T).ok sc__law_bent (fun vs H Q E h => ?_) (fun cdv A outer s H vs Q E hr h => ⟨_, PSs.nox (pss_cons (ps_set (i := 4) sc__law_bent.nd rfl (Or.inl rfl) (pe_op op_mod (pv 2) (pe_callB callLen rfl (T.fr (T.c.fact 15 rfl)) boot_len (pa_cons (pv 0) pa_nil))))
      (pss_cons (ps_asg (pe_ix ix_seq (pv 0) (pv 4) (fun _ _ => rfl)) (pg_tup rfl (pgs_cons (pg_name (i := 5) sc__law_bent.nd rfl (Or.inl rfl)) (pgs_cons (pg_name (i := 6) sc__law_bent.nd rfl (Or.inl rfl)) pgs_nil))))
      (pss_cons (ps_set (i := 7) sc__law_bent.nd rfl (Or.inl rfl) (pe_lst (pa_cons (pe_tup (pa_cons (pe_op op_add (pv 5) pe_int) (pa_cons (pv 6) pa_nil))) (pa_cons (pe_tup (pa_cons (pv 5) (pa_cons (pe_op op_add (pv 6) pe_int) pa_nil))) (pa_cons (pe_tup (pa_cons (pv 5) (pa_cons (pe_op op_add (pv 6) (pv 3)) pa_nil))) (pa_cons (pe_tup (pa_cons (pe_op op_sub (pe_un un_neg pe_int) (pv 5)) (pa_cons (pv 6) pa_nil))) (pa_cons (pe_tup (pa_cons (pv 5) (pa_cons (pe_op op_sub (pv 6) (pv 3)) pa_nil))) (pa_cons (pe_tup (pa_cons (pv 5) (pa_cons pe_bl pa_nil))) (pa_cons (pe_tup (pa_cons pe_bl (pa_cons (pv 6) pa_nil))) pa_nil)))))))))
      (pss_cons (ps_set (i := 7) sc__law_bent.nd rfl (Or.inl rfl) (pe_op op_cat (pv 7) (pe_lst (pa_cons (pe_tup (pa_cons (pv 5) (pa_cons (pv 6) (pa_cons pe_int pa_nil)))) (pa_cons (pe_tup (pa_cons (pv 5) pa_nil)) (pa_cons (pe_lst (pa_cons (pv 5) (pa_cons (pv 6) pa_nil))) (pa_cons pe_non (pa_cons (pe_tup (pa_cons (pv 5) (pa_cons (pe_tup (pa_cons (pv 6) pa_nil)) pa_nil))) (pa_cons (pe_tup (pa_cons (pv 6) (pa_cons (pv 5) pa_nil))) pa_nil)))))))))
      (pss_cons (ps_if (pt_cmpR op_lt (pv 1) pe_int (nomark _)) (pss_one (ps_ret (pe_op op_cat (pe_op op_cat (pe_slice sl_list (pv 0) po_none (po_some (pv 4))) (pe_lst (pa_cons (pe_ix ix_seq (pv 7) (pv 1) (fun _ _ => rfl)) pa_nil))) (pe_slice sl_list (pv 0) (po_some (pe_op op_add (pv 4) pe_int)) po_none)))) pss_nil)
      (pss_cons (ps_asg (pe_ix ix_seq (pv 0) (pe_op op_sub (pe_callB callLen rfl (T.fr (T.c.fact 15 rfl)) boot_len (pa_cons (pv 0) pa_nil)) pe_int) (fun _ _ => rfl)) (pg_tup rfl (pgs_cons (pg_name (i := 5) sc__law_bent.nd rfl (Or.inl rfl)) (pgs_cons (pg_name (i := 6) sc__law_bent.nd rfl (Or.inl rfl)) pgs_nil))))
      (pss_cons (ps_set (i := 8) sc__law_bent.nd rfl (Or.inl rfl) (pe_lst (pa_cons (pe_op op_cat (pe_slice sl_list (pv 0) po_none (po_some (pv 4))) (pe_slice sl_list (pv 0) (po_some (pe_op op_add (pv 4) pe_int)) po_none)) (pa_cons (pe_op op_cat (pe_slice sl_list (pv 0) po_none (po_some (pe_op op_add (pv 4) pe_int))) (pe_slice sl_list (pv 0) (po_some (pv 4)) po_none)) (pa_cons (pe_callTy callTup rfl (T.fr (T.c.fact 18 rfl)) boot_tuple (pa_cons (pv 0) pa_nil)) (pa_cons (pe_lst pa_nil) (pa_cons (pe_op op_cat (pv 0) (pe_lst (pa_cons (pe_tup (pa_cons (pe_op op_mulW pe_int (pv 5)) (pa_cons (pe_op op_mod (pe_op op_mulW (pv 6) (pv 6)) (pv 3)) pa_nil))) pa_nil))) (pa_cons pe_non (pa_cons (pv 0) pa_nil)))))))))
      (pss_one (ps_ret (pe_ix ix_seq (pv 8) (pe_op op_sub (pv 1) pe_int) (fun _ _ => rfl))))))))))), ?_⟩)
  · obtain ⟨n, a, e, way, at_, v, rfl, _⟩ := h; rfl
  · obtain ⟨n, a, e, way, at_, v, rfl, h0, hn, he, hw, hd, k⟩ := h
    have hd0 := hd
    obtain ⟨p, xs, rfl, ep, hds, _⟩ := hd.lst_inv
    have hl := M.hv_len 220 e he
    have hxl := hds.len
    have hbe : ∀ d ∈ (M.hv e).map (prD n a), Bd 1 d := fun d hd => by
      obtain ⟨x, hx, rfl⟩ := List.mem_map.mp hd
      have := M.hv_mem_le hx
      exact prD_bd h0 (by omega) (by omega)
    have hdl : ((M.hv e).map (prD n a)).length ≤ 221 := by rw [List.length_map]; exact hl.2
    rw [List.length_map] at hxl
    have hF : ∀ {H' : Hp} (a : Addr), H' a = none → (fun _ : Addr => True) a := fun _ _ => trivial
    walk_at "g"
    refine s_lenL (SqL.of ep) ?_
    rw [hxl]
    walk_at "g"
    refine s_i (by omega) ?_
    have ek : (at_ : Int) % ((M.hv e).length : Int) = ((at_ % (M.hv e).length : Nat) : Int) := by push_cast; rfl
    have hk := Nat.mod_lt at_ hl.1
    rw [ek]
    generalize at_ % (M.hv e).length = kk at hk ⊢
    obtain ⟨x, hx⟩ : ∃ x, (M.hv e)[kk]? = some x := ⟨_, List.getElem?_eq_getElem hk⟩
    have hxm := M.hv_mem_le (List.mem_of_getElem? hx)
    obtain ⟨y, hy, hdy⟩ := hds.get' (show ((M.hv e).map (prD n a))[kk]? = some (prD n a x) by rw [List.getElem?_map, hx]; rfl)
    obtain ⟨t, ts, rfl, et, hts⟩ := hdy.tup_inv
    obtain ⟨t0, t1, tr, rfl, g0, g1, g2⟩ := hts.two
    cases g2; cases g0; cases g1
    have hr := M.pw_range h0 a x
    have c1 : (cutD ((M.hv e).map (prD n a)) none (some ((kk : Nat) : Int))).length ≤ 221 := Nat.le_trans (cutD_len _ _ _) hdl
    have c2 : (cutD ((M.hv e).map (prD n a)) (some (((kk : Nat) : Int) + 1)) none).length ≤ 221 := Nat.le_trans (cutD_len _ _ _) hdl
    have c3 : (cutD ((M.hv e).map (prD n a)) none (some (((kk : Nat) : Int) + 1))).length ≤ 221 := Nat.le_trans (cutD_len _ _ _) hdl
    have c4 : (cutD ((M.hv e).map (prD n a)) (some ((kk : Nat) : Int)) none).length ≤ 221 := Nat.le_trans (cutD_len _ _ _) hdl
    have hcut : ∀ lo hi, ∀ d ∈ cutD ((M.hv e).map (prD n a)) lo hi, Bd 1 d := fun lo hi d h => hbe d (cutD_mem h)
    walk_at "g"
    refine s_ixL (SqL.of ep) (atI_nat hy) ?_
    refine s_gtup (SqT.of et) rfl ?_
    walk_at "g1"
    walk_at "g1"
    walk_at "g1"
    walk_at "g1"
    walk_at "g1"
    with_reducible refine s_seq ?_
    with_reducible refine s_asg ?_
    have ve : ∀ H', DaF (fun _ => True) H' (.int (x : Nat)) (.int (x : Nat)) := fun _ => .int _
    have vr : ∀ H', DaF (fun _ => True) H' (.int (M.pw n a x)) (.int (M.pw n a x)) := fun _ => .int _
    refine (eve_lst hF (eves_cons (eve_tup (eves_cons (eve_i (evv_add (evv_var rfl) evv_c)) <| eves_cons (eve_var rfl (vr _)) eves_nil)) <| eves_cons (eve_tup (eves_cons (eve_var rfl (ve _)) <| eves_cons (eve_i (evv_add (evv_var rfl) evv_c)) eves_nil)) <| eves_cons (eve_tup (eves_cons (eve_var rfl (ve _)) <| eves_cons (eve_i (evv_add (evv_var rfl) (evv_var rfl))) eves_nil)) <|
      eves_cons (eve_tup (eves_cons (eve_i (evv_sub (evv_neg evv_c) (evv_var rfl))) <| eves_cons (eve_var rfl (vr _)) eves_nil)) <| eves_cons (eve_tup (eves_cons (eve_var rfl (ve _)) <| eves_cons (eve_i (evv_sub (evv_var rfl) (evv_var rfl))) eves_nil)) <| eves_cons (eve_tup (eves_cons (eve_var rfl (ve _)) <| eves_cons eve_bl eves_nil)) <| eves_cons (eve_tup (eves_cons eve_bl <| eves_cons (eve_var rfl (vr _)) eves_nil)) eves_nil) : EvE (fun _ => True) _ _ H _) H (Same.refl _) _ fun x2 H2 s2 hx2 => ?_
    with_reducible refine s_gname ?_
    with_reducible refine s_seq ?_
    with_reducible refine s_asg ?_
    refine (eve_catL hF (eve_var rfl hx2) (eve_lst hF (eves_cons (eve_tup (eves_cons (eve_var rfl (ve _)) <| eves_cons (eve_var rfl (vr _)) <| eves_cons eve_int eves_nil)) <| eves_cons (eve_tup (eves_cons (eve_var rfl (ve _)) eves_nil)) <| eves_cons (eve_lst hF (eves_cons (eve_var rfl (ve _)) <| eves_cons (eve_var rfl (vr _)) eves_nil)) <| eves_cons eve_non <|
      eves_cons (eve_tup (eves_cons (eve_var rfl (ve _)) <| eves_cons (eve_tup (eves_cons (eve_var rfl (vr _)) eves_nil)) eves_nil)) <| eves_cons (eve_tup (eves_cons (eve_var rfl (vr _)) <| eves_cons (eve_var rfl (ve _)) eves_nil)) eves_nil)) (by simp) : EvE (fun _ => True) _ _ H2 _) H2 (Same.refl _) _ fun x3 H3 s3 hx3 => ?_
    have S3 := s2.trans s3
    have hd3 := hd0.same S3
    have bI : ∀ (m : Nat) (i : Int), i.natAbs < 2 ^ 300 → Bd m (.int i) := fun m i h => .int h
    have two : ∀ (m : Nat) (a b : PyData), Bd m a → Bd m b → Bd (m + 1) (.tuple [a, b]) := fun m a b h1 h2 => .tup (by simp) (bd_cons h1 (bd_cons h2 bd_nil))
    walk_at "g"
    refine s_ite (fun c13 => ?_) (fun c13 => ?_)
    · have hwl : way < 13 := by omega
      generalize hO : (HAppend.hAppend (α := List PyData) (β := List PyData) (γ := List PyData) _ _) = ones at hx3
      have ho : ∀ d ∈ ones, Bd 2 d := by
        rw [← hO]
        simp only [List.cons_append, List.nil_append]
        refine bd_cons (two 1 _ _ (bI _ _ (by omega)) (bI _ _ (by omega))) <| bd_cons (two 1 _ _ (bI _ _ (by omega)) (bI _ _ (by omega))) <| bd_cons (two 1 _ _ (bI _ _ (by omega)) (bI _ _ (by omega))) <| bd_cons (two 1 _ _ (bI _ _ (by omega)) (bI _ _ (by omega))) <| bd_cons (two 1 _ _ (bI _ _ (by omega)) (bI _ _ (by omega))) <|
          bd_cons (two 1 _ _ (bI _ _ (by omega)) (.bl _)) <| bd_cons (two 1 _ _ (.bl _) (bI _ _ (by omega))) <| bd_cons (.tup (by simp) (bd_cons (bI _ _ (by omega)) (bd_cons (bI _ _ (by omega)) (bd_cons (bI _ _ (by omega)) bd_nil)))) <| bd_cons (.tup (by simp) (bd_cons (bI _ _ (by omega)) bd_nil)) <|
          bd_cons (.lst (by simp) (bd_cons (bI _ _ (by omega)) (bd_cons (bI _ _ (by omega)) bd_nil))) <| bd_cons .non <| bd_cons (two 1 _ _ (bI _ _ (by omega)) (.tup (by simp) (bd_cons (bI _ _ (by omega)) bd_nil))) <| bd_cons (two 1 _ _ (bI _ _ (by omega)) (bI _ _ (by omega))) bd_nil
      have hol : ones.length = 13 := by rw [← hO]; rfl
      with_reducible refine s_ret ?_
      refine (eve_catL hF (eve_catL hF (eve_slL hF (eve_var rfl hd3) evo_none (evo_some (i := (kk : Nat)) (evv_var rfl))) (eve_lst hF (eves_cons (eve_ixL (eve_var rfl hx3) (evv_var rfl) way rfl (List.getElem?_eq_getElem (by omega))) eves_nil) (by simp)) (by simp only [List.length_cons, List.length_nil]; omega)) (eve_slL hF (eve_var rfl hd3) (evo_some (i := (kk : Nat) + 1) (evv_add (evv_var rfl) evv_c)) evo_none) (by simp only [List.length_append, List.length_cons, List.length_nil]; omega) : EvE (fun _ => True) _ _ H3 _) H3 (Same.refl _) _ fun x4 H4 s4 hx4 => ?_
      refine k x4 _ H4 hx4 (.lst (by simp only [List.length_append, List.length_cons, List.length_nil]; omega) fun d hd => ?_) (S3.trans s4)
      simp only [List.mem_append, List.mem_cons, List.not_mem_nil, or_false] at hd
      rcases hd with (h | h) | h
      · exact (hcut _ _ d h).mono (by decide)
      · rw [h]; exact (ho _ (List.getElem_mem _)).mono (by decide)
      · exact (hcut _ _ d h).mono (by decide)
    obtain ⟨l0, hl0⟩ := hv_last (e := e)
    have hll : (M.hv e).length = l0.length + 1 := by rw [hl0, List.length_append]; rfl
    obtain ⟨y9, hy9, hdy9⟩ := (hds.same S3).get' (show ((M.hv e).map (prD n a))[(M.hv e).length - 1]? = some (prD n a e) by
      rw [List.getElem?_map, hl0, List.length_append, List.length_singleton, Nat.add_sub_cancel, List.getElem?_append_right (Nat.le_refl _), Nat.sub_self]; rfl)
    obtain ⟨u, us, rfl, eu, hus⟩ := hdy9.tup_inv
    obtain ⟨u0, u1, ur, rfl, q0, q1, q2⟩ := hus.two
    cases q2; cases q0; cases q1
    have hre := M.pw_range h0 a e
    have ev : ∀ H', DaF (fun _ => True) H' (.int (e : Nat)) (.int (e : Nat)) := fun _ => .int _
    walk_at "g"
    refine s_lenL (SqL.of (S3 _ _ ep)) ?_
    rw [hxl]
    walk_at "g"
    refine s_ixL (SqL.of (S3 _ _ ep)) (atI0 ((M.hv e).length - 1) (by omega) hy9) ?_
    refine s_gtup (SqT.of eu) rfl ?_
    walk_at "g1"
    walk_at "g1"
    walk_at "g1"
    walk_at "g1"
    walk_at "g1"
    with_reducible refine s_seq ?_
    with_reducible refine s_asg ?_
    refine (eve_lst hF (eves_cons (eve_catL hF (eve_slL hF (eve_var rfl hd3) evo_none (evo_some (i := (kk : Nat)) (evv_var rfl))) (eve_slL hF (eve_var rfl hd3) (evo_some (i := (kk : Nat) + 1) (evv_add (evv_var rfl) evv_c)) evo_none) (by omega)) <| eves_cons (eve_catL hF (eve_slL hF (eve_var rfl hd3) evo_none (evo_some (i := (kk : Nat) + 1) (evv_add (evv_var rfl) evv_c))) (eve_slL hF (eve_var rfl hd3) (evo_some (i := (kk : Nat)) (evv_var rfl)) evo_none) (by omega)) <|
      eves_cons (eve_tupOfL (eve_var rfl hd3)) <| eves_cons (eve_lst hF eves_nil) <| eves_cons (eve_catL hF (eve_var rfl hd3) (eve_lst hF (eves_cons (eve_tup (eves_cons (eve_i (i := 2 * (e : Int)) (evv_op evv_c (evv_var rfl) fun _ _ q => s_i (mulW (by decide) (by omega)) q)) <| eves_cons (eve_i (i := M.pw n a e * M.pw n a e % n) (evv_op (x := .int (M.pw n a e * M.pw n a e)) (evv_op (evv_var rfl) (evv_var rfl) fun _ _ q => s_i (mulW (by omega) (by omega)) q) (evv_var rfl) fun _ _ q => s_i (by omega) q)) eves_nil)) eves_nil) (by simp)) (by simp only [List.length_cons, List.length_nil]; omega)) <| eves_cons eve_non <| eves_cons (eve_var rfl hd3) eves_nil) : EvE (fun _ => True) _ _ H3 _) H3 (Same.refl _) _ fun x4 H4 s4 hx4 => ?_
    obtain ⟨X4, xs4, rfl, eX4, hxs4, _⟩ := hx4.lst_inv
    have hl4 := hxs4.len
    have hl4 : xs4.length = 7 := hl4
    walk_at "g"
    have hw7 : way - 13 < xs4.length := by omega
    obtain ⟨dz, hdz1, hdz2⟩ := hxs4.get (List.getElem?_eq_getElem hw7)
    refine s_ixL (SqL.of eX4) (atI0 (way - 13) (by omega) (List.getElem?_eq_getElem hw7)) ?_
    refine k _ dz H4 hdz2 ?_ (S3.trans s4)
    have hm := List.mem_of_getElem? hdz1
    simp only [List.mem_cons, List.not_mem_nil, or_false] at hm
    have m0 := Int.emod_nonneg (M.pw n a e * M.pw n a e) (show n ≠ 0 by omega)
    have m1 := Int.emod_lt_of_pos (M.pw n a e * M.pw n a e) h0
    rcases hm with z | z | z | z | z | z | z <;> subst z
    · exact .lst (by rw [List.length_append]; omega) fun d hd => by
        rcases List.mem_append.mp hd with h | h
        · exact (hcut _ _ d h).mono (by decide)
        · exact (hcut _ _ d h).mono (by decide)
    · exact .lst (by rw [List.length_append]; omega) fun d hd => by
        rcases List.mem_append.mp hd with h | h
        · exact (hcut _ _ d h).mono (by decide)
        · exact (hcut _ _ d h).mono (by decide)
    · exact .tup (by omega) fun d hd => (hbe d hd).mono (by decide)
    · exact .lst (by simp) bd_nil
    · exact .lst (by simp only [List.length_append, List.length_cons, List.length_nil]; omega) fun d hd => by
        rcases List.mem_append.mp hd with h | h
        · exact (hbe d h).mono (by decide)
        · rw [List.mem_singleton.mp h]
          exact two 2 _ _ (bI _ _ (by omega)) (bI _ _ (by omega))
    · exact .non
    · exact .lst (by omega) fun d hd => (hbe d hd).mono (by decide)
/-- _law_right(n, a, e, way, at) -/
def sp__law_right : Sp := fun vs H Q _ => ∃ (n a : Int) (e way at_ : Nat), vs = [.int n, .int a, .int e, .int way, .int at_] ∧ 0 < n ∧ n.natAbs < 2 ^ 220 ∧ a.natAbs < 2 ^ 220 ∧ e < 2 ^ 220 ∧ way < 20 ∧ ∀ H', Same H H' → Q (.bl true) H'
theorem ok__law_right (T : Txt K mg) : FnOk P w K mg base CX0 8 (He.ga K "_law_right") (fd__law_right T) ["_law_n", "_law_a", "_law_e", "_law_way", "_law_at"] sp__law_right := by
  refine (F__law_right T).ok sc__law_right (fun vs H Q E h => ?_) (fun cdv A outer s H vs Q E hr h => ⟨_, PSs.nox (pss_cons (ps_set (i := 5) sc__law_right.nd rfl (Or.inl rfl) (pe_call (ok_power_row T) (hr.mono (by decide)) rfl (g_power_row T) (kp_power_row T) (B_power_row T) .nil pass0 (pa_cons (pv 0) (pa_cons (pv 1) (pa_cons (pv 2) pa_nil)))))
      (pss_cons (ps_if (PW.pt (pw_or (pt_not (pt_val (pe_call (ok__law_is_row T) (hr.mono (by decide)) rfl (g__law_is_row T) (kp__law_is_row T) (B__law_is_row T) .nil pass0 (pa_cons (pv 0) (pa_cons (pv 1) (pa_cons (pv 2) (pa_cons (pv 5) pa_nil))))))) (pw_or1 (pt_cmpR op_ne (pe_ix ix_seq (pe_ix ix_seq (pv 5) (pe_un un_neg pe_int) (fun _ _ => rfl)) pe_int (fun _ _ => rfl)) (pe_call (ok_power T) (hr.mono (by decide)) rfl (g_power T) (kp_power T) (B_power T) .nil passL (pa_cons (pv 0) (pa_cons (pv 1) (pa_cons (pv 2) pa_nil)))) (nomark _))))) (pss_one (ps_ret pe_bl)) pss_nil)
      (pss_cons (ps_set (i := 6) sc__law_right.nd rfl (Or.inl rfl) (pe_call (ok__law_bent T) (hr.mono (by decide)) rfl (g__law_bent T) (kp__law_bent T) (B__law_bent T) .nil pass0 (pa_cons (pe_callTy callLst rfl (T.fr (T.c.fact 21 rfl)) boot_list (pa_cons (pv 5) pa_nil)) (pa_cons (pv 3) (pa_cons (pv 4) (pa_cons (pv 0) pa_nil))))))
      (pss_cons (ps_for PassesOwn.never rfl (pi_list (pe_lst (pa_cons (pv 6) (pa_cons (pe_callTy callLst rfl (T.fr (T.c.fact 21 rfl)) boot_list (pa_cons (pv 5) pa_nil)) pa_nil)))) (pg_name (i := 7) sc__law_right.nd rfl (Or.inl rfl)) (pss_cons (ps_set (i := 8) sc__law_right.nd rfl (Or.inl rfl) (pv 7))
      (pss_cons (ps_if (pt_val (pe_callB call_isi rfl (T.fr (T.c.fact 17 rfl)) boot_isinstance (pa_cons (pv 7) (pa_cons (pe_bltn (v := .ty "list") rfl (T.fr (T.c.fact 21 rfl)) boot_list rfl) pa_nil)))) (pss_one (ps_set (i := 8) sc__law_right.nd rfl (Or.inl rfl) (pe_callTy callLst rfl (T.fr (T.c.fact 21 rfl)) boot_list (pa_cons (pv 7) pa_nil)))) pss_nil)
      (pss_cons (ps_set (i := 9) sc__law_right.nd rfl (Or.inl rfl) (pe_call (ok_is_power_row T) (hr.mono (by decide)) rfl (g_is_power_row T) (kp_is_power_row T) (B_is_power_row T) .nil pass0 (pa_cons (pv 0) (pa_cons (pv 1) (pa_cons (pv 2) (pa_cons (pv 7) pa_nil))))))
      (pss_one (ps_if (PW.pt (pw_or (pt_not (pt_val (pe_callB call_isi rfl (T.fr (T.c.fact 17 rfl)) boot_isinstance (pa_cons (pv 9) (pa_cons (pe_bltn (v := .ty "bool") rfl (T.fr (T.c.fact 20 rfl)) boot_bool rfl) pa_nil))))) (pw_or (pt_cmpR op_ne (pv 9) (pe_call (ok__law_is_row T) (hr.mono (by decide)) rfl (g__law_is_row T) (kp__law_is_row T) (B__law_is_row T) .nil pass0 (pa_cons (pv 0) (pa_cons (pv 1) (pa_cons (pv 2) (pa_cons (pv 7) pa_nil))))) (nomark _)) (pw_or1 (pt_cmpR (op_neD hr.units) (pv 7) (pv 8) (nomark _)))))) (pss_one (ps_ret pe_bl)) pss_nil))))))
      (pss_cons (ps_set (i := 10) sc__law_right.nd rfl (Or.inl rfl) (pe_call (ok_power_row T) (hr.mono (by decide)) rfl (g_power_row T) (kp_power_row T) (B_power_row T) .nil pass0 (pa_cons (pv 0) (pa_cons (pv 1) (pa_cons (pv 2) pa_nil)))))
      (pss_cons (ps_expr (pe_bm PySem.F.plainAttrs_list PySem.F.slot_list_append PySem.F.type_list_append mt_append (pv 10) (pa_cons (pe_tup (pa_cons pe_int (pa_cons pe_int pa_nil))) pa_nil)))
      (pss_one (ps_ret (pe_and (pe_cmpR (op_eqD hr.units) (pe_call (ok_power_row T) (hr.mono (by decide)) rfl (g_power_row T) (kp_power_row T) (B_power_row T) .nil pass0 (pa_cons (pv 0) (pa_cons (pv 1) (pa_cons (pv 2) pa_nil)))) (pv 5) (nomark _)) (pe_one (pe_cmpR op_isBl (pe_call (ok_is_power_row T) (hr.mono (by decide)) rfl (g_is_power_row T) (kp_is_power_row T) (B_is_power_row T) .nil pass0 (pa_cons (pv 0) (pa_cons (pv 1) (pa_cons (pv 2) (pa_cons (pv 5) pa_nil))))) pe_bl (nomark _)))))))))))), ?_⟩)
  · obtain ⟨n, a, e, way, at_, rfl, _⟩ := h; rfl
  · obtain ⟨n, a, e, way, at_, rfl, h0, hn, ha, he, hw, k⟩ := h
    have hbP := PR_bd (a := a) h0 (show n.natAbs < 2 ^ 250 by omega) (show e < 2 ^ 250 by omega)
    have hl := M.hv_len 220 e he
    have prow : ∀ (H1 : Hp) (Q' : VK) (E' : XK), (∀ p xs H2, H1 p = none → Same H1 H2 → H2 p = some (.lst xs) → DaL (fun _ => True) H2 xs ((M.hv e).map (prD n a)) → Q' (.ref p) H2) → sp_power_row [.int n, .int a, .int e] H1 Q' E' := fun H1 Q' E' q => ⟨n, a, e, rfl, h0, by omega, by omega, by omega, fun p H2 xs np s2 ep ht => q p xs H2 np s2 ep (tups_data ht)⟩
    walk_at "g"
    refine prow H _ _ fun R xs H1 nR s1 eR hR => ?_
    have hxl := hR.len
    rw [List.length_map] at hxl
    have dR : Da H1 (.ref R) (PR n a e) := .lst eR hR trivial
    walk_at "g"
    refine ⟨n, a, e, .ref R, _, rfl, h0, by omega, by omega, dR, hbP.mono (by decide), fun b H2 hb s2 => ?_⟩
    obtain rfl : b = true := hb.mpr rfl
    obtain ⟨l0, hl0⟩ := hv_last (e := e)
    obtain ⟨y9, hy9, hdy9⟩ := (hR.same s2).get' (show ((M.hv e).map (prD n a))[(M.hv e).length - 1]? = some (prD n a e) by
      rw [List.getElem?_map, hl0, List.length_append, List.length_singleton, Nat.add_sub_cancel, List.getElem?_append_right (Nat.le_refl _), Nat.sub_self]; rfl)
    obtain ⟨u, us, rfl, eu, hus⟩ := hdy9.tup_inv
    obtain ⟨u0, u1, ur, rfl, q0, q1, q2⟩ := hus.two
    cases q2; cases q0; cases q1
    have eR2 := s2 _ _ eR
    walk_at "g"
    refine s_ixL (SqL.of eR2) (atI_neg1 (v := .ref u) (by rw [List.getLast?_eq_getElem?, hxl]; exact hy9)) ?_
    walk_at "g"
    refine s_ixT (SqT.of eu) (atI0 1 rfl rfl) ?_
    walk_at "g"
    refine pos_power (m := e) rfl h0 (by omega) ?_
    walk_at "g"
    refine s_lstL (SqL.of eR2) fun C nC => ?_
    have s3 : Same H2 (upd H2 C (.lst xs)) := same_upd nC
    have eC : upd H2 C (.lst xs) C = some (.lst xs) := upd_same
    generalize upd H2 C (.lst xs) = H3 at s3 eC ⊢
    have dC : Da H3 (.ref C) (PR n a e) := .lst eC (hR.same (s2.trans s3)) trivial
    walk_at "g"
    refine ⟨n, a, e, way, at_, .ref C, rfl, h0, hn, he, hw, dC, fun x d H4 hx hbd s4 => ?_⟩
    have eR4 := s4 _ _ (s3 _ _ eR2)
    walk_at "g"
    refine s_lstL (SqL.of eR4) fun D nD => ?_
    have s5 : Same H4 (upd H4 D (.lst xs)) := same_upd nD
    have eD : upd H4 D (.lst xs) D = some (.lst xs) := upd_same
    generalize upd H4 D (.lst xs) = H5 at s5 eD ⊢
    have s15 := s2.trans (s3.trans (s4.trans s5))
    have dD : Da H5 (.ref D) (PR n a e) := .lst eD (hR.same s15) trivial
    walk_at "g"
    refine mkL (by simp) fun A H6 nA eA s6 => ?_
    have s16 := s15.trans s6
    refine ⟨A, rfl, ⟨_, SqL.of eA⟩, ?_⟩
    refine for_list (fun j σ H' => Same H6 H' ∧ ∃ v7 v8 v9 v10 : Option V, σ = [some (.int n), some (.int a), some (.int e), some (.int way), some (.int at_), some (.ref R), some x, v7, v8, v9, v10]) ⟨Same.refl _, _, _, _, _, rfl⟩ (fun j σ H' _ I => SqL.of (I.1 _ _ eA)) ?_ ?_
    · rintro j v σ H7 hj ⟨s7, v7, v8, v9, v10, rfl⟩
      have hv : ∃ dv, Da H7 v dv ∧ Bd 4 dv := by
        have := List.mem_of_getElem? hj
        simp only [List.mem_cons, List.not_mem_nil, or_false] at this
        rcases this with rfl | rfl
        · exact ⟨d, hx.same (s5.trans (s6.trans s7)), hbd⟩
        · exact ⟨_, dD.same (s6.trans s7), hbP.mono (by decide)⟩
      obtain ⟨dv, hdv, hbv⟩ := hv
      walk_at "h"
      refine s_join (fun σ' H8 => Same H7 H8 ∧ ∃ w : V, Da H8 w dv ∧ σ' = [some (.int n), some (.int a), some (.int e), some (.int way), some (.int at_), some (.ref R), some x, some v, some w, v9, v10]) ?_ fun N J => ?_
      case refine_2 =>
        walk_at "g"
        refine s_isiLst hdv ?_
        walk_at "g"
        cases el : isLst dv with
        | false =>
          walk_at "g"
          exact J _ _ ⟨Same.refl _, v, hdv, rfl⟩
        | true =>
          cases hdv with
          | non => cases el
          | bl b => cases el
          | int i => cases el
          | str x => cases el
          | tup _ _ => cases el
          | @lst p ys ds ep hds _ =>
          walk_at "g"
          refine s_lstL (SqL.of ep) fun B nB => ?_
          walk_at "g"
          exact J _ _ ⟨same_upd nB, .ref B, .lst upd_same (hds.same (same_upd nB)) trivial, rfl⟩
      rintro σ' H8 ⟨s8, w, hdw, rfl⟩
      have hdv8 := hdv.same s8
      walk_at "g"
      refine ⟨n, a, e, v, dv, rfl, h0, by omega, by omega, by omega, hdv8, hbv.mono (by decide), fun b1 H9 hb1 s9 => ?_⟩
      walk_at "g"
      refine s_isi (.bl b1) kb_bb ?_
      walk_at "g"
      refine ⟨n, a, e, v, dv, rfl, h0, by omega, by omega, hdv8.same s9, hbv.mono (by decide), fun b2 H10 hb2 s10 => ?_⟩
      have eb : b1 = b2 := by rw [Bool.eq_iff_iff, hb1, hb2]
      subst eb
      have s810 := s9.trans s10
      walk_at "g"
      refine s_neD dv dv ((hdv8.same s810).dp K) ((hdw.same s810).dp K) (hbv.shaped (by decide)) (hbv.shaped (by decide)) ?_
      rw [eqv_shaped (hbv.shaped (by decide))]
      walk_at "g"
      exact ⟨s7.trans (s8.trans s810), _, _, _, _, rfl⟩
    · rintro σ H7 ⟨s7, v7, v8, v9, v10, rfl⟩
      have s17 := s16.trans s7
      walk_at "g"
      refine prow H7 _ _ fun R2 xs2 H8 nR2 s8 eR2' hR2 => ?_
      have hxl2 := hR2.len
      rw [List.length_map] at hxl2
      walk_at "g"
      refine ⟨s_tyL eR2', ?_⟩
      walk_at "g"
      refine mkT (by simp) fun W H9 nW eW s9 => ?_
      walk_at "g"
      refine s_append (s9 _ _ eR2') (small1000 (by omega)) ?_
      have s79 : Same H7 (upd H9 R2 (.lst (xs2 ++ [.ref W]))) := same_upd' (s8.trans s9) nR2
      generalize upd H9 R2 (.lst (xs2 ++ [.ref W])) = H10 at s79 ⊢
      walk_at "g"
      refine prow H10 _ _ fun R3 xs3 H11 nR3 s11 eR3 hR3 => ?_
      have s111 := s17.trans (s79.trans s11)
      have dR11 : Da H11 (.ref R) (PR n a e) := dR.same s111
      walk_at "g"
      refine s_eqD (PR n a e) (PR n a e) (DaF.dp K (F := fun _ => True) (.lst eR3 hR3 trivial)) (dR11.dp K) (hbP.shaped (by decide)) (hbP.shaped (by decide)) ?_
      rw [eqv_shaped (hbP.shaped (by decide))]
      walk_at "g"
      refine ⟨n, a, e, .ref R, _, rfl, h0, by omega, by omega, by omega, dR11, hbP.mono (by decide), fun b H12 hb s12 => ?_⟩
      obtain rfl : b = true := hb.mpr rfl
      walk_at "g"
      refine s_isBl ?_
      exact k _ (s1.trans (s111.trans s12))
/-- the law -/
def sp_law (K : PySem.W.Frag) : Sp := fun vs H Q _ => ∃ (a : Addr) (ns : List Int), vs = [.ref a] ∧ SqL K H a (ns.map V.int) ∧ ∀ H', Q (.bl true) H'
theorem ok_law (T : Txt K mg) : FnOk P w K mg base CX0 9 (He.ga K "law") (fd_law T) ["_law_script"] (sp_law K) := by
  refine (F_law T).ok sc_law (fun vs H Q E h => ?_) (fun cdv A outer s H vs Q E hr h => ⟨_, PSs.nox (pss_cons (ps_for PassesOwn.never rfl (pi_list (pe_slice sl_list (pv 0) po_none (po_some pe_int))) (pg_name (i := 1) sc_law.nd rfl (Or.inl rfl)) (pss_cons (ps_set (i := 2) sc_law.nd rfl (Or.inl rfl) (pe_call (ok__law_draws T) (hr.mono (by decide)) rfl (g__law_draws T) (kp__law_draws T) (B__law_draws T) .nil pass0 (pa_cons (pv 1) (pa_cons pe_int pa_nil))))
      (pss_cons (ps_set (i := 3) sc_law.nd rfl (Or.inl rfl) (pe_op op_add pe_int (pe_ix ix_seq (pe_lst (pa_cons (pe_op op_mod (pe_ix ix_seq (pv 2) pe_int (fun _ _ => rfl)) pe_int) (pa_cons (pe_op op_mod (pe_ix ix_seq (pv 2) pe_int (fun _ _ => rfl)) (pe_op op_pow pe_int pe_int)) pa_nil))) (pe_op op_mod (pe_ix ix_seq (pv 2) pe_int (fun _ _ => rfl)) pe_int) (fun _ _ => rfl))))
      (pss_cons (ps_set (i := 4) sc_law.nd rfl (Or.inl rfl) (pe_op op_mulW (pe_ix ix_seq (pe_lst (pa_cons (pe_op op_mod (pe_ix ix_seq (pv 2) pe_int (fun _ _ => rfl)) pe_int) (pa_cons (pe_ix ix_seq (pv 2) pe_int (fun _ _ => rfl)) pa_nil))) (pe_op op_mod (pe_op op_fdivW (pe_ix ix_seq (pv 2) pe_int (fun _ _ => rfl)) pe_int) pe_int) (fun _ _ => rfl)) (pe_op op_sub pe_int (pe_op op_mulW pe_int (pe_op op_mod (pe_op op_fdivW (pe_ix ix_seq (pv 2) pe_int (fun _ _ => rfl)) pe_int) pe_int)))))
      (pss_cons (ps_set (i := 5) sc_law.nd rfl (Or.inl rfl) (pe_ix ix_seq (pe_lst (pa_cons (pe_op op_mod (pe_ix ix_seq (pv 2) pe_int (fun _ _ => rfl)) pe_int) (pa_cons (pe_op op_mod (pe_ix ix_seq (pv 2) pe_int (fun _ _ => rfl)) (pe_op op_pow pe_int pe_int)) pa_nil))) (pe_op op_mod (pe_op op_fdivW (pe_ix ix_seq (pv 2) pe_int (fun _ _ => rfl)) pe_int) pe_int) (fun _ _ => rfl)))
      (pss_one (ps_if (pt_not (pt_val (pe_call (ok__law_right T) (hr.mono (by decide)) rfl (g__law_right T) (kp__law_right T) (B__law_right T) .nil pass0 (pa_cons (pv 3) (pa_cons (pv 4) (pa_cons (pv 5) (pa_cons (pe_op op_mod (pe_op op_fdivW (pe_ix ix_seq (pv 2) pe_int (fun _ _ => rfl)) pe_int) pe_int) (pa_cons (pe_op op_fdivW (pe_ix ix_seq (pv 2) pe_int (fun _ _ => rfl)) pe_int) pa_nil)))))))) (pss_one (ps_ret pe_bl)) pss_nil)))))))
      (pss_one (ps_ret (pe_and (pe_call (ok__law_right T) (hr.mono (by decide)) rfl (g__law_right T) (kp__law_right T) (B__law_right T) .nil pass0 (pa_cons pe_int (pa_cons pe_int (pa_cons pe_int (pa_cons pe_int (pa_cons pe_int pa_nil)))))) (pe_and (pe_call (ok__law_right T) (hr.mono (by decide)) rfl (g__law_right T) (kp__law_right T) (B__law_right T) .nil pass0 (pa_cons pe_int (pa_cons pe_int (pa_cons pe_int (pa_cons pe_int (pa_cons pe_int pa_nil)))))) (pe_one (pe_call (ok__law_right T) (hr.mono (by decide)) rfl (g__law_right T) (kp__law_right T) (B__law_right T) .nil pass0 (pa_cons pe_int (pa_cons pe_int (pa_cons pe_int (pa_cons pe_int (pa_cons pe_int pa_nil)))))))))))), ?_⟩)
  · obtain ⟨a, ns, rfl, _⟩ := h; rfl
  · obtain ⟨a, ns, rfl, hS, k⟩ := h
    walk_at "g"
    refine mkSl hS fun l H0 hl hL _ => ?_
    walk_at "g"
    refine ⟨⟨_, SqL.of hL⟩, ?_⟩
    refine for_list (fun i σ H' => Same H0 H' ∧ ∃ r : List (Option V), σ = some (.ref a) :: r ∧ r.length = 5) ⟨Same.refl _, _, rfl, rfl⟩ (fun i σ H' _ I => SqL.of (I.1 _ _ hL)) ?_ ?_
    · rintro i x σ H' hi ⟨hs, r, rfl, hr⟩
      obtain ⟨c, rfl, hc⟩ := of_mem_ints (cutV_mem (get_mem hi))
      match r, hr with
      | [r1, r2, r3, r4, r5], _ =>
      walk_at "g"
      refine ⟨c, 4, rfl, by decide, fun H1 p xs hlen hxs s1 hp hpx => ?_⟩
      match xs, hlen, hxs with
      | [x0, x1, x2, x3], _, hxs =>
      have b0 := hxs x0 (by simp)
      have b1 := hxs x1 (by simp)
      have b2 := hxs x2 (by simp)
      have b3 := hxs x3 (by simp)
      walk_at "g"
      refine s_ixL (SqL.of hpx) (atI0 0 rfl rfl) ?_
      walk_at "g"
      refine s_ixL (SqL.of hpx) (atI0 0 rfl rfl) ?_
      walk_at "g"
      refine mkL (by simp) fun q1 H2 n2 e2 s2 => ?_
      have hp2 := s2 _ _ hpx
      walk_at "g"
      refine s_ixL (SqL.of hp2) (atI0 3 rfl rfl) ?_
      walk_at "g"
      refine s_pick2 (P := fun z => 0 ≤ z ∧ z < 10 ^ 60) e2 (by omega) (by omega) (by omega) fun z hz => ?_
      walk_at "g"
      refine s_ixL (SqL.of hp2) (atI0 1 rfl rfl) ?_
      walk_at "g"
      refine s_ixL (SqL.of hp2) (atI0 1 rfl rfl) ?_
      walk_at "g"
      refine mkL (by simp) fun q3 H3 n3 e3 s3 => ?_
      have hp3 := s3 _ _ hp2
      walk_at "g"
      refine s_ixL (SqL.of hp3) (atI0 3 rfl rfl) ?_
      walk_at "g"
      refine s_pick2 (P := fun z => 0 ≤ z ∧ z < 10 ^ 60) e3 (by omega) (by omega) (by omega) fun y hy => ?_
      walk_at "g"
      refine s_ixL (SqL.of hp3) (atI0 3 rfl rfl) ?_
      have sg : (y * (1 - 2 * (x3 / 4 % 2))).natAbs < 2 ^ 220 := by
        have : x3 / 4 % 2 = 0 ∨ x3 / 4 % 2 = 1 := by omega
        rcases this with e | e <;> rw [e] <;> omega
      walk_at "g"
      try refine s_i (mulW (by omega) (by omega)) ?_
      generalize y * (1 - 2 * (x3 / 4 % 2)) = A at sg ⊢
      walk_at "g"
      refine s_ixL (SqL.of hp3) (atI0 2 rfl rfl) ?_
      walk_at "g"
      refine s_ixL (SqL.of hp3) (atI0 2 rfl rfl) ?_
      walk_at "g"
      refine mkL (by simp) fun q4 H4 n4 e4 s4 => ?_
      have hp4 := s4 _ _ hp3
      walk_at "g"
      refine s_ixL (SqL.of hp4) (atI0 3 rfl rfl) ?_
      walk_at "g"
      refine s_pick2 (P := fun z => 0 ≤ z ∧ z < 10 ^ 60) e4 (by omega) (by omega) (by omega) fun ee he => ?_
      obtain ⟨ee, rfl⟩ := Int.eq_ofNat_of_zero_le he.1
      walk_at "g"
      refine s_ixL (SqL.of hp4) (atI0 3 rfl rfl) ?_
      walk_at "g"
      refine s_ixL (SqL.of hp4) (atI0 3 rfl rfl) ?_
      have w0 : 0 ≤ x3 / 16 % 20 ∧ x3 / 16 % 20 < 20 := by omega
      have w1 : 0 ≤ x3 / 320 := by omega
      walk_at "g"
      generalize x3 / 16 % 20 = way at w0 ⊢
      generalize x3 / 320 = at_ at w1 ⊢
      obtain ⟨way, rfl⟩ := Int.eq_ofNat_of_zero_le w0.1
      obtain ⟨at_, rfl⟩ := Int.eq_ofNat_of_zero_le w1
      refine ⟨1 + z, A, ee, way, at_, rfl, by omega, by omega, sg, by omega, by omega, fun H5 s5 => ?_⟩
      walk_at "g"
      exact ⟨hs.trans (s1.trans (s2.trans (s3.trans (s4.trans s5)))), _, rfl, rfl⟩
    · rintro σ H' ⟨hs, r, rfl, hr⟩
      walk_at "g"
      refine ⟨1, 3, 0, 4, 0, rfl, by decide, by decide, by decide, by decide, by decide, fun H1 s1 => ?_⟩
      walk_at "g"
      refine ⟨5, 2, 6, 0, 1, rfl, by decide, by decide, by decide, by decide, by decide, fun H2 s2 => ?_⟩
      walk_at "g"
      refine ⟨7, 0, 1, 17, 0, rfl, by decide, by decide, by decide, by decide, by decide, fun H3 s3 => ?_⟩
      exact k _
theorem law_end {K : PySem.W.Frag} {H : Hp} {a : Addr} {ns : List Int} (hl : ns.length ≤ 63) (hb : ∀ z ∈ ns, Builtin.Int.intBits z ≤ 1048576) (hS : SqL K H a (ns.map V.int)) : sp_law K [.ref a] H (fun v _ => v = .bl true) fun _ _ _ => False :=
  ⟨a, ns, rfl, hS, fun _ => rfl⟩

theorem facts {h : Heap} {f : Addr} (X : K.In h) (G : h.Ns mainGlobals mg) (hfa : mg ("law" : Str) = some (.ref f)) (c : Told fa fn K) :
    ∃ fd : FuncData, (∀ (s : Shared) (v : Value), BindsTo s fd ⟨[v], []⟩ [("_law_script", v)]) ∧ ∀ base : Heap, K.In base → base.Ns mainGlobals mg → FnOk P w K mg base CX0 9 f fd ["_law_script"] (sp_law K) := by
  have T : Txt K mg := ⟨c, fun z => He.glo_ok X G z, fun z => He.free_ok X G z, fun z => He.int_ok X G z⟩
  have e := hfa.symm.trans (g_law T)
  cases e
  have b := FunD.bindsA (ps := ["_law_script"]) (F_law T) fun _ _ _ _ _ _ us hl => match us, hl with | [_], _ => rfl
  exact ⟨fd_law T, fun s v => b s [v] rfl, fun base _ _ => ok_law T⟩
end
abbrev RR : PySem.W.OpenRow := PySem.W.OpenLaw.row PySem.Challenge.rw_rootprime_k04_rows_of_powers
abbrev hk : PySem.W.Hook := hookR 5 fa fn
def ob (s : PySem.W.SharedT) : He.AlD := toldG 5 fa fn (HandSHeadRun.getT s)
theorem ob_eq (s : PySem.W.SharedT) : ob s = hk.obs s.abs := toldG_eq (HandSHeadRun.getT_eq s)
theorem run (w : World) : HandSHeadRun.RunEq RR (PySem.W.view RR.prog [18]) hk ob 2240 ["divisor", "inverse", "power", "halves", "power_row", "is_tuple_of", "is_power_row", "_law_whole", "_law_draws", "_law_is_row", "_law_bent", "_law_right", "PrimeError", "NoInverse"] w := by
  intro os
  kernel_rfl
end C
open PySem PySem.W PySem.Calls PyProof.Rows
set_option maxRecDepth 100000 in
set_option maxHeartbeats 0 in
theorem PySem.Challenge.cw_rootprime_k04_rows_of_powers_holds : PySem.Challenge.rw_rootprime_k04_rows_of_powers.Holds := by
  w_on; o_law
  refine HandSHeadRun.head_any (r := OpenLaw.row PySem.Challenge.rw_rootprime_k04_rows_of_powers) (q := view (OpenLaw.row PySem.Challenge.rw_rootprime_k04_rows_of_powers).prog [18]) (H := C.hk) (ob := C.ob) (M := 2240) (loose := ["divisor", "inverse", "power", "halves", "power_row", "is_tuple_of", "is_power_row", "_law_whole", "_law_draws", "_law_is_row", "_law_bent", "_law_right", "PrimeError", "NoInverse"]) (d := HandSHeadRun.topDef (OpenLaw.row PySem.Challenge.rw_rootprime_k04_rows_of_powers).prog 18) (kwd := []) C.ob_eq
    (by kernel_rfl) (fun s => by kernel_rfl) C.run (by kernel_rfl) (by kernel_rfl) (by kernel_rfl) (by rfl) (by first | assumption | decide +kernel) (by decide +kernel) ⟨rfl, rfl, rfl, rfl, rfl, by decide +kernel⟩ ?hw ?hc
  case hw => w_witness2
  case hc =>
    refine R.walk_ofEB (l := PySem.Challenge.rw_rootprime_k04_rows_of_powers) (n := 63) (k := 9) (prm := "_law_script") (CX := fun w => L2.CX0) rfl (by decide) (by kernel_rfl) ⟨rfl, by decide, by decide⟩ ?F (fun _ _ _ _ _ z => z)
    intro w mg fa h Y G hmg0
    obtain ⟨K, KX, c⟩ := Y
    have hmg : mg ("law" : PySem.Str) = some (.ref fa) := by
      have e : (HandSHeadRun.topDef (OpenLaw.row PySem.Challenge.rw_rootprime_k04_rows_of_powers).prog 18).name = ("law" : PySem.Str) := by kernel_rfl
      rw [← e]
      exact hmg0
    obtain ⟨fd, hb, hF⟩ := C.facts (P := (PySem.Challenge.rw_rootprime_k04_rows_of_powers).prog) (w := w) KX G hmg c
    exact ⟨K, fd, (C.sp_law K), KX, hb, fun H a ns hl hbits hO hS => C.law_end hl hbits hS, hF⟩

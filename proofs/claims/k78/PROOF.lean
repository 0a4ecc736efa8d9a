import PyProof.Rows.All
import Wide.All
import OpenK.AllK
import Wide.FinOn
import HandS.ForMost
import HandS.ForExc
import HandS.Wide
import HandS.IsInst
import HandS.Style
import HandS.Flow
import HandS.Conv
import HandS.Defaults
import HandS.Head0
import HandS.Head1
import HandS.Head2
import HandS.HeadEnd
import HandS.HeadHook1
import HandS.HeadHook2
import HandS.EndBits
import HandS.ExcInit
import HandS.ExcField
import HandS.ExcOwn
import HandS.ExcIs
import HandS.TryOnly
import HandS.WordsExc
import HandS.ClsMeth
import HandS.HeadNt
import HandS.Steps
import HandS.Zip
import HandS.Walk
import HandS.Small
import HandS.NoneIn
import HandS.TryMany
import HandS.TupAny
import HandS.SortInts
import HandS.SetKeys
import HandS.Iter
import PyProof.DictMoreH
import HandS.DictTup
import HandS.TupLen
import HandS.Strs
import HandS.HotCalls
import HandS.CallSlots
import KE.GoesMore
import KE.DataFind
import HandS.SetFor
import HandS.Text
import HandS.Codes
import PySem.Challenge.RW_rootprime_k78_things_written_and_read

set_option Elab.async false
set_option linter.all false
set_option maxRecDepth 100000
set_option maxHeartbeats 4000000
set_option exponentiation.threshold 5000

namespace R
open PySem PySem.Spec PyProof.Rows L2
/-! steps of a reading -/
section
variable {t u : TS} {D : Ends} {σ : L2.St} {H : Hp} {Q : VK} {te ta tb : TE} {g : TG} {i j : Nat} {v x y : V} {r : R2} {c c' : TT} {tl : TA} {QL : List V → Hp → Prop} {QB : Bool → Hp → Prop} {QS : L2.St → Hp → Prop} {a b : Int} {C : Int → Int → Prop} {f : Int → Int → V}
theorem s_seq (h : t { D with nx := u D } σ H) : tSeq t u D σ H := h
theorem s_asg (h : te σ H fun x H1 => g x σ H1 D.nx) : tAsg te g D σ H := h
theorem s_drop (h : te σ H fun _ H1 => D.nx σ H1) : tDrop te D σ H := h
theorem s_ret (h : te σ H D.rt) : tRet te D σ H := h
theorem s_next (h : D.nx σ H) : tNext D σ H := h
theorem s_if (h : c σ H fun b H1 => if b = true then t D σ H1 else u D σ H1) : tIfS c t u D σ H := h
theorem s_gname (h : QS (σ.set i (some v)) H) : gName i v σ H QS := h
theorem s_var (e : σ[i]? = some (some v)) (h : Q v H) : tVar i σ H Q := ⟨v, e, h⟩
theorem s_c (h : Q v H) : tC v σ H Q := h
theorem s_op (h : ta σ H fun x H1 => tb σ H1 fun y H2 => r x y H2 Q) : tOp r ta tb σ H Q := h
theorem s_un {r : V → Hp → VK → Prop} (h : ta σ H fun x H1 => r x H1 Q) : tUn r ta σ H Q := h
theorem s_i0 (h : Q (f a b) H) : rI0 f (.int a) (.int b) H Q := ⟨a, b, rfl, rfl, h⟩
theorem s_i (hc : C a b) (h : Q (f a b) H) : rI C f (.int a) (.int b) H Q := ⟨a, b, rfl, rfl, hc, h⟩
theorem s_u {f : Int → V} (h : Q (f a) H) : rU f (.int a) H Q := ⟨a, rfl, h⟩
theorem s_cons (h : te σ H fun x H1 => tl σ H1 fun xs H2 => QL (x :: xs) H2) : tCons te tl σ H QL := h
theorem s_nil (h : QL [] H) : tNil σ H QL := h
theorem s_test (h : ta σ H fun x H' => ∃ k, x = .bl k ∧ QB k H') : tTest ta σ H QB := h
theorem s_tB (h : ta σ H fun x H' => ∃ k, x = .bl k ∧ QB k H') : tB ta σ H QB := h
theorem s_bl {k : Bool} {P : Bool → Prop} (h : P k) : ∃ k', V.bl k = .bl k' ∧ P k' := ⟨k, rfl, h⟩
theorem s_andc (h : c σ H fun b H1 => if b = true then c' σ H1 QB else QB false H1) : tAnd c c' σ H QB := h
theorem s_orc (h : c σ H fun b H1 => if b = true then QB true H1 else c' σ H1 QB) : tOr c c' σ H QB := h
theorem s_notc (h : c σ H fun b H1 => QB (!b) H1) : tNot c σ H QB := h
theorem s_andv (h : ta σ H fun x H1 => ∃ c, x = .bl c ∧ if c = true then tb σ H1 Q else Q (.bl false) H1) : tAndV ta tb σ H Q := h
theorem s_orv (h : ta σ H fun x H1 => ∃ c, x = .bl c ∧ if c = true then Q (.bl true) H1 else tb σ H1 Q) : tOrV ta tb σ H Q := h
theorem s_notv (h : ta σ H fun x H1 => ∃ c, x = .bl c ∧ Q (.bl (!c)) H1) : tNotV ta σ H Q := h
theorem s_ifx {t : TT} (h : t σ H fun c H1 => if c = true then ta σ H1 Q else tb σ H1 Q) : tIf t ta tb σ H Q := h
theorem s_eqI (h : Q (.bl (decide (a = b))) H) : rEq (.int a) (.int b) H Q := ⟨rfl, by
  have e : decide (V.int a = V.int b) = decide (a = b) := by simp
  rw [e]; exact h⟩
theorem s_neI (h : Q (.bl (!decide (a = b))) H) : rNe (.int a) (.int b) H Q := ⟨rfl, by
  have e : decide (V.int a = V.int b) = decide (a = b) := by simp
  rw [e]; exact h⟩
theorem s_eqS {a b : Str} (h : Q (.bl (decide (a = b))) H) : rEq (.str a) (.str b) H Q := ⟨rfl, by
  have e : decide (V.str a = V.str b) = decide (a = b) := by simp
  rw [e]; exact h⟩
theorem s_neS {a b : Str} (h : Q (.bl (!decide (a = b))) H) : rNe (.str a) (.str b) H Q := ⟨rfl, by
  have e : decide (V.str a = V.str b) = decide (a = b) := by simp
  rw [e]; exact h⟩
theorem s_eqB {a b : Bool} (h : Q (.bl (decide (a = b))) H) : rEq (.bl a) (.bl b) H Q := ⟨rfl, by
  have e : decide (V.bl a = V.bl b) = decide (a = b) := by simp
  rw [e]; exact h⟩
theorem s_neB {a b : Bool} (h : Q (.bl (!decide (a = b))) H) : rNe (.bl a) (.bl b) H Q := ⟨rfl, by
  have e : decide (V.bl a = V.bl b) = decide (a = b) := by simp
  rw [e]; exact h⟩
def MkT (Q : VK) (xs : List V) (H : Hp) : Prop := xs.length ≤ sizeLine ∧ ∀ p, H p = none → Q (.ref p) (upd H p (.tup xs))
def MkL (Q : VK) (xs : List V) (H : Hp) : Prop := xs.length ≤ sizeLine ∧ ∀ p, H p = none → Q (.ref p) (upd H p (.lst xs))
theorem s_tup (h : tl σ H fun xs H1 => MkT Q xs H1) : tTup tl σ H Q := h
theorem s_lst (h : tl σ H fun xs H1 => MkL Q xs H1) : tLst tl σ H Q := h
theorem len_le {α : Type} {xs : List α} (h : xs.length ≤ 1000) : xs.length ≤ sizeLine := Nat.le_of_lt (small1000 h)
theorem s_par (h : tl σ H fun vs H1 => ∃ v w, vs = [v, w] ∧ D.nx ((σ.set i (some v)).set j (some w)) H1) : tPar i j tl D σ H := h
theorem s_par_ {P : V → V → Prop} (h : P x y) : ∃ v w, [x, y] = [v, w] ∧ P v w := ⟨x, y, rfl, h⟩
theorem s_par3 {l : Nat} (h : tl σ H fun vs H1 => ∃ u v w, vs = [u, v, w] ∧ D.nx (((σ.set i (some u)).set j (some v)).set l (some w)) H1) : tPar3 i j l tl D σ H := h
theorem s_par3_ {z : V} {P : V → V → V → Prop} (h : P x y z) : ∃ u v w, [x, y, z] = [u, v, w] ∧ P u v w := ⟨x, y, z, rfl, h⟩
theorem s_cb {r : List V → Hp → VK → Prop} (h : tl σ H fun vs H1 => r vs H1 Q) : tCB r tl σ H Q := h
theorem s_call {sp : Sp} {dvs : List V} {E : XK} (h : tl σ H fun vs H1 => sp (vs ++ dvs) H1 Q E) : tCall sp dvs E tl σ H Q := h
theorem s_callS {sp : Sp} {E : L2.St → XK} (h : tl σ H fun vs H1 => sp vs H1 Q (E σ)) : tCallS sp E tl σ H Q := h
theorem s_chain {r' : R2} {tc : TE} (h : ta σ H fun x H1 => tb σ H1 fun y H2 => r x y H2 fun z H3 => ∃ k, z = .bl k ∧ (if k = true then tc σ H3 fun w' H4 => r' y w' H4 Q else Q (.bl false) H3)) : tChain r r' ta tb tc σ H Q := h
theorem s_iteT {A B : Prop} (h : A) : if true = true then A else B := by rw [if_pos rfl]; exact h
theorem s_iteF {A B : Prop} (h : B) : if false = true then A else B := by rw [if_neg Bool.false_ne_true]; exact h
theorem s_iteNT {A B : Prop} (h : B) : if (!true) = true then A else B := h
theorem s_iteNF {A B : Prop} (h : A) : if (!false) = true then A else B := h
theorem s_ite {A B p : Prop} [Decidable p] (h1 : p → A) (h2 : ¬p → B) : if decide p = true then A else B := by
  by_cases h : p
  · rw [decide_eq_true h, if_pos rfl]; exact h1 h
  · rw [decide_eq_false h, if_neg Bool.false_ne_true]; exact h2 h
theorem s_iten {A B p : Prop} [Decidable p] (h1 : ¬p → A) (h2 : p → B) : if (!decide p) = true then A else B := by
  by_cases h : p
  · rw [decide_eq_true h]; exact s_iteF (h2 h)
  · rw [decide_eq_false h]; exact s_iteT (h1 h)
theorem s_iteb {A B : Prop} {b : Bool} (h1 : b = true → A) (h2 : b = false → B) : if b = true then A else B := by
  cases b
  · exact s_iteF (h2 rfl)
  · exact s_iteT (h1 rfl)
theorem s_itP {A B p : Prop} [Decidable p] (hp : p) (h : A) : if decide p = true then A else B := s_ite (fun _ => h) fun n => absurd hp n
theorem s_itN {A B p : Prop} [Decidable p] (hp : ¬p) (h : B) : if decide p = true then A else B := s_ite (fun n => absurd n hp) fun _ => h
theorem s_itnP {A B p : Prop} [Decidable p] (hp : p) (h : B) : if (!decide p) = true then A else B := s_iten (fun n => absurd hp n) fun _ => h
theorem s_itnN {A B p : Prop} [Decidable p] (hp : ¬p) (h : A) : if (!decide p) = true then A else B := s_iten (fun _ => h) fun n => absurd n hp
theorem s_btT {p : Prop} [Decidable p] {P : Bool → Prop} (hp : p) (h : P true) : P (decide p) := by rw [decide_eq_true hp]; exact h
theorem s_btF {p : Prop} [Decidable p] {P : Bool → Prop} (hp : ¬p) (h : P false) : P (decide p) := by rw [decide_eq_false hp]; exact h
theorem s_ixL {K : PySem.W.Frag} {p : Addr} {xs : List V} {n : Int} (h1 : SqL K H p xs) (h2 : atI xs n = some v) (h : Q v H) : rIx K (.ref p) (.int n) H Q := .inl ⟨p, xs, n, v, rfl, rfl, h1, h2, h⟩
theorem s_ixT {K : PySem.W.Frag} {p : Addr} {xs : List V} {n : Int} (h1 : SqT K H p xs) (h2 : atI xs n = some v) (h : Q v H) : rIx K (.ref p) (.int n) H Q := .inr (.inl ⟨p, xs, n, v, rfl, rfl, h1, h2, h⟩)
theorem s_isi {K : PySem.W.Frag} {a b : String} {bb : Bool} (ht : TyOf K H x (.type a)) (hk : kitB a b = some bb) (h : Q (.bl bb) H) : rIsi K [x, .ty b] H Q := ⟨x, .ty b, .type a, .type b, bb, rfl, .ty b, .base ht, kit_ty hk, h⟩
theorem kb_ii : kitB "int" "int" = some true := by decide +kernel
theorem kb_ib : kitB "int" "bool" = some false := by decide +kernel
theorem kb_bi : kitB "bool" "int" = some true := by decide +kernel
theorem kb_bb : kitB "bool" "bool" = some true := by decide +kernel
theorem kb_tt : kitB "tuple" "tuple" = some true := by decide +kernel
theorem kb_ll : kitB "list" "list" = some true := by decide +kernel
theorem kb_ti : kitB "tuple" "int" = some false := by decide +kernel
theorem kb_tl : kitB "tuple" "list" = some false := by decide +kernel
theorem kb_lt : kitB "list" "tuple" = some false := by decide +kernel
theorem kb_li : kitB "list" "int" = some false := by decide +kernel
theorem kb_ni : kitB "NoneType" "int" = some false := by decide +kernel
theorem s_isi_ii {K : PySem.W.Frag} (h : Q (.bl true) H) : rIsi K [.int a, .ty "int"] H Q := s_isi (.int a) kb_ii h
theorem s_isi_ib {K : PySem.W.Frag} (h : Q (.bl false) H) : rIsi K [.int a, .ty "bool"] H Q := s_isi (.int a) kb_ib h
theorem s_p10 {n : Nat} (h : Q (.int (10 ^ n)) H) (hn : n ≤ 1000 := by decide) : rI CPow (fun i j => V.int (i ^ j.toNat)) (.int 10) (.int (n : Int)) H Q :=
  ⟨10, n, rfl, rfl, ⟨by omega, by omega, by decide⟩, h⟩
theorem s_pow {e : Int} {n : Nat} (he : e = n) (hn : n ≤ 1000) (ha : a.natAbs < 2 ^ 64) (h : Q (.int (a ^ n)) H) : rI CPow (fun i j => V.int (i ^ j.toNat)) (.int a) (.int e) H Q :=
  ⟨a, e, rfl, rfl, ⟨by omega, by omega, ha⟩, by subst he; exact h⟩
theorem s_p10_4 (h : Q (.int (10 ^ 4)) H) : rI CPow (fun i j => V.int (i ^ j.toNat)) (.int 10) (.int 4) H Q := s_p10 (n := 4) h
theorem s_p10_5 (h : Q (.int (10 ^ 5)) H) : rI CPow (fun i j => V.int (i ^ j.toNat)) (.int 10) (.int 5) H Q := s_p10 (n := 5) h
theorem s_p10_6 (h : Q (.int (10 ^ 6)) H) : rI CPow (fun i j => V.int (i ^ j.toNat)) (.int 10) (.int 6) H Q := s_p10 (n := 6) h
theorem s_p10_8 (h : Q (.int (10 ^ 8)) H) : rI CPow (fun i j => V.int (i ^ j.toNat)) (.int 10) (.int 8) H Q := s_p10 (n := 8) h
theorem s_p10_9 (h : Q (.int (10 ^ 9)) H) : rI CPow (fun i j => V.int (i ^ j.toNat)) (.int 10) (.int 9) H Q := s_p10 (n := 9) h
theorem s_p10_12 (h : Q (.int (10 ^ 12)) H) : rI CPow (fun i j => V.int (i ^ j.toNat)) (.int 10) (.int 12) H Q := s_p10 (n := 12) h
theorem s_p10_18 (h : Q (.int (10 ^ 18)) H) : rI CPow (fun i j => V.int (i ^ j.toNat)) (.int 10) (.int 18) H Q := s_p10 (n := 18) h
theorem s_p10_29 (h : Q (.int (10 ^ 29)) H) : rI CPow (fun i j => V.int (i ^ j.toNat)) (.int 10) (.int 29) H Q := s_p10 (n := 29) h
theorem s_p10_30 (h : Q (.int (10 ^ 30)) H) : rI CPow (fun i j => V.int (i ^ j.toNat)) (.int 10) (.int 30) H Q := s_p10 (n := 30) h
theorem s_p10_39 (h : Q (.int (10 ^ 39)) H) : rI CPow (fun i j => V.int (i ^ j.toNat)) (.int 10) (.int 39) H Q := s_p10 (n := 39) h
theorem s_p10_40 (h : Q (.int (10 ^ 40)) H) : rI CPow (fun i j => V.int (i ^ j.toNat)) (.int 10) (.int 40) H Q := s_p10 (n := 40) h
theorem s_p10_49 (h : Q (.int (10 ^ 49)) H) : rI CPow (fun i j => V.int (i ^ j.toNat)) (.int 10) (.int 49) H Q := s_p10 (n := 49) h
theorem s_p10_50 (h : Q (.int (10 ^ 50)) H) : rI CPow (fun i j => V.int (i ^ j.toNat)) (.int 10) (.int 50) H Q := s_p10 (n := 50) h
theorem s_p10_51 (h : Q (.int (10 ^ 51)) H) : rI CPow (fun i j => V.int (i ^ j.toNat)) (.int 10) (.int 51) H Q := s_p10 (n := 51) h
theorem s_p10_58 (h : Q (.int (10 ^ 58)) H) : rI CPow (fun i j => V.int (i ^ j.toNat)) (.int 10) (.int 58) H Q := s_p10 (n := 58) h
theorem s_p10_59 (h : Q (.int (10 ^ 59)) H) : rI CPow (fun i j => V.int (i ^ j.toNat)) (.int 10) (.int 59) H Q := s_p10 (n := 59) h
theorem s_p10_60 (h : Q (.int (10 ^ 60)) H) : rI CPow (fun i j => V.int (i ^ j.toNat)) (.int 10) (.int 60) H Q := s_p10 (n := 60) h
theorem s_pow7 (ha : a.natAbs < 2 ^ 64) (h : Q (.int (a ^ 7)) H) : rI CPow (fun i j => V.int (i ^ j.toNat)) (.int a) (.int 7) H Q := s_pow (n := 7) rfl (by decide) ha h
theorem s_pickN {K : PySem.W.Frag} {p : Addr} {n : Int} {P : Int → Prop} (ns : List Int) (hp : H p = some (.lst (ns.map V.int))) (hn : 0 ≤ n ∧ n < ns.length) (ha : ∀ z ∈ ns, P z) (h : ∀ z, P z → Q (.int z) H) : rIx K (.ref p) (.int n) H Q := by
  obtain ⟨k, rfl⟩ := Int.eq_ofNat_of_zero_le hn.1
  have hk : k < ns.length := by omega
  exact s_ixL (SqL.of hp) (atI_nat (j := k) (v := .int ns[k]) (by rw [List.getElem?_map, List.getElem?_eq_getElem hk]; rfl)) (h _ (ha _ (List.getElem_mem hk)))
theorem s_pick2 {K : PySem.W.Frag} {p : Addr} {n : Int} {P : Int → Prop} (hp : H p = some (.lst [.int a, .int b])) (hn : 0 ≤ n ∧ n < 2) (ha : P a) (hb : P b) (h : ∀ z, P z → Q (.int z) H) : rIx K (.ref p) (.int n) H Q := by
  have e : n = 0 ∨ n = 1 := by omega
  rcases e with rfl | rfl
  · exact s_ixL (SqL.of hp) (atI_nat (j := 0) rfl) (h a ha)
  · exact s_ixL (SqL.of hp) (atI_nat (j := 1) rfl) (h b hb)
theorem s_andJ {b c : Bool} (hc : ∀ Q' : VK, Q' (.bl c) H → tb σ H Q') (h : Q (.bl (b && c)) H) : if b = true then tb σ H Q else Q (.bl false) H := by
  cases b
  · exact s_iteF h
  · exact s_iteT (hc _ h)
theorem s_orJ {b c : Bool} (hc : ∀ Q' : VK, Q' (.bl c) H → tb σ H Q') (h : Q (.bl (b || c)) H) : if b = true then Q (.bl true) H else tb σ H Q := by
  cases b
  · exact s_iteF (hc _ h)
  · exact s_iteT h
theorem s_blT {p : Prop} [Decidable p] (hp : p) (h : Q (.bl true) H) : Q (.bl (decide p)) H := by rw [decide_eq_true hp]; exact h
theorem s_blF {p : Prop} [Decidable p] (hp : ¬p) (h : Q (.bl false) H) : Q (.bl (decide p)) H := by rw [decide_eq_false hp]; exact h
theorem s_sl {r : V → Option Int → Option Int → Hp → VK → Prop} {tlo thi : TO} (h : te σ H fun x H1 => tlo σ H1 fun l H2 => thi σ H2 fun u H3 => r x l u H3 Q) : L2.tSl r te tlo thi σ H Q := h
theorem s_nopart {QO : Option Int → Hp → Prop} (h : QO none H) : tNoPart σ H QO := h
theorem s_part {QO : Option Int → Hp → Prop} (h : te σ H fun x H1 => ∃ i, x = .int i ∧ QO (some i) H1) : tPart te σ H QO := h
theorem s_int_ {P : Int → Prop} (h : P a) : ∃ i, V.int a = .int i ∧ P i := ⟨a, rfl, h⟩
theorem s_slL {K : PySem.W.Frag} {p : Addr} {xs : List V} {lo hi : Option Int} (hs : SqL K H p xs) (h : ∀ l, H l = none → Q (.ref l) (upd H l (.lst (cutV xs lo hi)))) : rSlL K (.ref p) lo hi H Q := ⟨p, xs, rfl, hs, h⟩
theorem s_for {wi : TI} {tb : TS} (h : wi σ H fun J H1 => ∃ W : Nat → Nat → L2.St → Hp → Prop, (∃ m, W 0 m σ H1) ∧ ∀ i m σ H, W i m σ H →
  (J.stop i H ∧ D.nx σ H) ∨ (J.go i H ∧ ∃ N : L2.St → Hp → Prop, (∀ σ' H', N σ' H' → ∃ m', m' < m ∧ W (i + 1) m' σ' H') ∧ ∀ x H', J.yld i H x H' → g x σ H' fun σ2 H2 => tb { D with nx := N, ct := N, bk := D.nx } σ2 H2)) : tFor wi g tb D σ H := h
theorem s_ilist {K : PySem.W.Frag} {RI : It → Hp → Prop} (h : te σ H fun x H1 => ∃ a, x = .ref a ∧ (∃ xs, SqL K H1 a xs) ∧ RI (Itl K a) H1) : iList K te σ H RI := h
theorem s_itup {K : PySem.W.Frag} {RI : It → Hp → Prop} (h : te σ H fun x H1 => ∃ a, x = .ref a ∧ (∃ xs, SqT K H1 a xs) ∧ RI (Itt K a) H1) : iTup K te σ H RI := h
theorem s_ref_ {p : Addr} {P : Addr → Prop} (h : P p) : ∃ i, V.ref p = .ref i ∧ P i := ⟨p, rfl, h⟩
theorem s_join (P : L2.St → Hp → Prop) (h1 : ∀ σ' H', P σ' H' → D.nx σ' H') (h2 : ∀ N : L2.St → Hp → Prop, (∀ σ' H', P σ' H' → N σ' H') → tIfS c t u { D with nx := N } σ H) : tIfS c t u D σ H := h2 D.nx h1
theorem s_yes (h : QB true H) : tYes σ H QB := h
theorem s_gtup {K : PySem.W.Frag} {n : Nat} {t : TGs} {p : Addr} {xs : List V} (h1 : SqT K H p xs) (h2 : xs.length = n) (h : t xs σ H QS) : gTup K n t (.ref p) σ H QS := ⟨p, xs, rfl, h1, h2, h⟩
theorem s_gcons {t : TG} {u : TGs} {r : List V} (h : t v σ H fun σ' H' => u r σ' H' QS) : gCons t u (v :: r) σ H QS := ⟨v, r, rfl, h⟩
theorem s_gnil (h : QS σ H) : gNil [] σ H QS := ⟨rfl, h⟩
theorem s_append {p : Addr} {xs : List V} (hp : H p = some (.lst xs)) (hl : xs.length < sizeLine) (h : Q .non (upd H p (.lst (xs ++ [x])))) : rAppend (.ref p) [x] H Q := ⟨p, xs, x, rfl, rfl, hp, hl, h⟩
theorem s_tyL {K : PySem.W.Frag} {p : Addr} {xs : List V} (hp : H p = some (.lst xs)) : tyV K "list" (.ref p) H := Or.inl ⟨rfl, _, Or.inl (Or.inl hp)⟩
theorem s_bm {K : PySem.W.Frag} {T : String} {r : V → List V → Hp → VK → Prop} (h : ta σ H fun x H1 => tyV K T x H1 ∧ tl σ H1 fun xs H2 => r x xs H2 Q) : tBM K T r ta tl σ H Q := h
end
/-! rules by name -/
def rAbs : List V → Hp → VK → Prop := fun xs H Q => ∃ i, xs = [.int i] ∧ Q (.int (if i < 0 then -i else i)) H
def rMax2 : List V → Hp → VK → Prop := fun xs H Q => ∃ i j, xs = [.int i, .int j] ∧ Q (.int (if j > i then j else i)) H
def rMin2 : List V → Hp → VK → Prop := fun xs H Q => ∃ i j, xs = [.int i, .int j] ∧ Q (.int (if j < i then j else i)) H
def rLenS (K : PySem.W.Frag) : List V → Hp → VK → Prop := fun xs H Q => ∃ p ys, xs = [.ref p] ∧ (SqL K H p ys ∨ SqT K H p ys) ∧ Q (.int ys.length) H
def rTupOf (K : PySem.W.Frag) : List V → Hp → VK → Prop := fun xs H Q => ∃ p ys, xs = [.ref p] ∧ ((SqL K H p ys ∧ ∀ l, H l = none → Q (.ref l) (upd H l (.tup ys))) ∨ (SqT K H p ys ∧ Q (.ref p) H))
def rLstOf (K : PySem.W.Frag) : List V → Hp → VK → Prop := fun xs H Q => ∃ p ys, xs = [.ref p] ∧ (SqL K H p ys ∨ SqT K H p ys) ∧ ∀ l, H l = none → Q (.ref l) (upd H l (.lst ys))
def rInt1 : List V → Hp → VK → Prop := fun xs H Q => (∃ i, xs = [.int i] ∧ Q (.int i) H) ∨ ∃ k, xs = [.bl k] ∧ Q (.int (if k then 1 else 0)) H
def rIns : V → List V → Hp → VK → Prop := fun x vs H Q => ∃ (l : Addr) (xs : List V) (i : Int) (y : V), x = .ref l ∧ vs = [.int i, y] ∧ H l = some (.lst xs) ∧ xs.length < sizeLine ∧ 0 ≤ i ∧ i < 2 ^ 63 ∧ Q .non (upd H l (.lst (xs.take i.toNat ++ [y] ++ xs.drop i.toNat)))
section
variable {X : Cx}
theorem mtIns : MtR X "list.insert" rIns := mt_insert
theorem callInt1 : CallR X (.type "int") rInt1 := call_int1
theorem callAbs : CallR X (.builtin "abs") rAbs := call_abs
theorem callMax2 (hc : X.calm = true) : CallR X (.builtin "max") rMax2 := call_max2 hc
theorem callMin2 (hc : X.calm = true) : CallR X (.builtin "min") rMin2 := call_min2 hc
theorem callLen : CallR X (.builtin "len") (rLenS X.K) := call_len_seq
theorem callTup : CallR X (.type "tuple") (rTupOf X.K) := call_tuple_of
theorem callLst : CallR X (.type "list") (rLstOf X.K) := call_list_of
end
section
variable {H : Hp} {Q : VK} {a b : Int} {K : PySem.W.Frag} {p : Addr} {xs : List V}
theorem s_intB {k : Bool} (h : Q (.int (if k then 1 else 0)) H) : rInt1 [.bl k] H Q := .inr ⟨k, rfl, h⟩
theorem s_abs (h : Q (.int (if a < 0 then -a else a)) H) : rAbs [.int a] H Q := ⟨a, rfl, h⟩
theorem s_max (h : Q (.int (if b > a then b else a)) H) : rMax2 [.int a, .int b] H Q := ⟨a, b, rfl, h⟩
theorem s_min (h : Q (.int (if b < a then b else a)) H) : rMin2 [.int a, .int b] H Q := ⟨a, b, rfl, h⟩
theorem s_ins0 {y : V} (hp : H p = some (.lst xs)) (hl : xs.length < sizeLine) (h : Q .non (upd H p (.lst (y :: xs)))) : rIns (.ref p) [.int 0, y] H Q := ⟨p, xs, 0, y, rfl, rfl, hp, hl, by decide, by decide, h⟩
theorem s_lenL (hs : SqL K H p xs) (h : Q (.int xs.length) H) : rLenS K [.ref p] H Q := ⟨p, xs, rfl, .inl hs, h⟩
theorem s_lenT (hs : SqT K H p xs) (h : Q (.int xs.length) H) : rLenS K [.ref p] H Q := ⟨p, xs, rfl, .inr hs, h⟩
theorem s_tupL (hs : SqL K H p xs) (h : ∀ l, H l = none → Q (.ref l) (upd H l (.tup xs))) : rTupOf K [.ref p] H Q := ⟨p, xs, rfl, .inl ⟨hs, h⟩⟩
theorem s_lstL (hs : SqL K H p xs) (h : ∀ l, H l = none → Q (.ref l) (upd H l (.lst xs))) : rLstOf K [.ref p] H Q := ⟨p, xs, rfl, .inl hs, h⟩
theorem s_lstT (hs : SqT K H p xs) (h : ∀ l, H l = none → Q (.ref l) (upd H l (.lst xs))) : rLstOf K [.ref p] H Q := ⟨p, xs, rfl, .inr hs, h⟩
end
/-! heaps -/
theorem same_upd {H : Hp} {p : Addr} {o : HO} (h : H p = none) : Same H (upd H p o) := fun b u e => by rw [upd_ne (ne_of_none e h)]; exact e
theorem same_upd' {H H' : Hp} {p : Addr} {o : HO} (s : Same H H') (h : H p = none) : Same H (upd H' p o) := fun b u e => by rw [upd_ne (ne_of_none e h)]; exact s b u e
theorem same_new {H H' : Hp} {p : Addr} {o : HO} (s : Same H H') (h : H' p = none) : Same H (upd H' p o) := s.trans (same_upd h)
theorem Same.none {H H' : Hp} (s : Same H H') {p : Addr} (h : H' p = none) : H p = none := s.free h
theorem atI0 {α : Type} {xs : List α} {v : α} {n : Int} (k : Nat) (hn : n = k) (h : xs[k]? = some v) : atI xs n = some v := by subst hn; exact atI_nat h
theorem cutV_mem {xs : List V} {lo hi : Option Int} {x : V} (h : x ∈ cutV xs lo hi) : x ∈ xs := List.mem_of_mem_drop (List.mem_of_mem_take h)
theorem get_mem {xs : List V} {i : Nat} {x : V} (h : xs[i]? = some x) : x ∈ xs := List.mem_of_getElem? h
theorem of_mem_ints {ns : List Int} {x : V} (h : x ∈ ns.map V.int) : ∃ c, x = .int c ∧ c ∈ ns := by
  obtain ⟨c, h1, h2⟩ := List.mem_map.mp h
  exact ⟨c, h2.symm, h1⟩
section
variable {H : Hp} {Q : VK} {K : PySem.W.Frag} {p : Addr} {xs : List V}
theorem mkT (hl : xs.length ≤ 1000) (h : ∀ p H', H p = none → H' p = some (.tup xs) → Same H H' → Q (.ref p) H') : MkT Q xs H := ⟨len_le hl, fun p hp => h p _ hp upd_same (same_upd hp)⟩
theorem mkL (hl : xs.length ≤ 1000) (h : ∀ p H', H p = none → H' p = some (.lst xs) → Same H H' → Q (.ref p) H') : MkL Q xs H := ⟨len_le hl, fun p hp => h p _ hp upd_same (same_upd hp)⟩
theorem mkCat {q : Addr} {zs : List V} (h1 : H p = some (.lst xs)) (h2 : H q = some (.lst zs)) (hl : xs.length + zs.length ≤ 1000) (h : ∀ l H', H l = none → H' l = some (.lst (xs ++ zs)) → Same H H' → Q (.ref l) H') : rCat (.ref p) (.ref q) H Q := ⟨p, q, xs, zs, rfl, rfl, h1, h2, Nat.le_trans hl (Nat.le_of_lt (small1000 (Nat.le_refl _))), fun l hl => h l _ hl upd_same (same_upd hl)⟩
theorem mkSlT {lo hi : Option Int} (hs : SqT K H p xs) (hn : ¬ (HT.sIx xs.length 0 lo = 0 ∧ HT.sIx xs.length xs.length hi = xs.length)) (h : ∀ l H', H l = none → H' l = some (.tup (cutV xs lo hi)) → Same H H' → Q (.ref l) H') : rSlT K (.ref p) lo hi H Q := ⟨p, xs, rfl, hs, hn, fun l hl => h l _ hl upd_same (same_upd hl)⟩
theorem mkSl {lo hi : Option Int} (hs : SqL K H p xs) (h : ∀ l H', H l = none → H' l = some (.lst (cutV xs lo hi)) → Same H H' → Q (.ref l) H') : rSlL K (.ref p) lo hi H Q := s_slL hs fun l hl => h l _ hl upd_same (same_upd hl)
end
theorem s_eqD {K : PySem.W.Frag} {H : Hp} {Q : VK} {x y : V} (d e : PyData) (hd : Dp K H x d) (he : Dp K H y e) (h1 : SeqAt.shaped d = true) (h2 : SeqAt.shaped e = true) (h : Q (.bl (PyData.eqv d e)) H) : rEqD K x y H Q := ⟨d, e, hd, he, h1, h2, h⟩
theorem s_neD {K : PySem.W.Frag} {H : Hp} {Q : VK} {x y : V} (d e : PyData) (hd : Dp K H x d) (he : Dp K H y e) (h1 : SeqAt.shaped d = true) (h2 : SeqAt.shaped e = true) (h : Q (.bl (!PyData.eqv d e)) H) : rNeD K x y H Q := ⟨d, e, hd, he, h1, h2, h⟩
theorem dp_tup1 {K : PySem.W.Frag} {H : Hp} {p : Addr} {a : Int} (h : H p = some (.tup [.int a])) : Dp K H (.ref p) (.tuple [.int a]) := .tup (SqT.of h) (.cons (.int a) .nil)
theorem dp_tup2 {K : PySem.W.Frag} {H : Hp} {p : Addr} {a b : Int} (h : H p = some (.tup [.int a, .int b])) : Dp K H (.ref p) (.tuple [.int a, .int b]) := .tup (SqT.of h) (.cons (.int a) (.cons (.int b) .nil))
theorem atI_neg1 {α : Type} {xs : List α} {v : α} (h : xs.getLast? = some v) : atI xs (-1) = some v := by
  rcases List.eq_nil_or_concat xs with e | ⟨ys, y, e⟩
  · subst e; simp at h
  · rw [List.concat_eq_append] at e
    subst e
    rw [List.getLast?_concat] at h
    cases h
    exact atI_last ys v
/-! all stands but what lies at one place -/
def SameB (p : Addr) (H H' : Hp) : Prop := ∀ b o, b ≠ p → H b = some o → H' b = some o
theorem SameB.refl (p : Addr) (H : Hp) : SameB p H H := fun _ _ _ h => h
theorem SameB.trans {p : Addr} {H H1 H2 : Hp} (a : SameB p H H1) (b : SameB p H1 H2) : SameB p H H2 := fun c o n h => b c o n (a c o n h)
theorem SameB.of {p : Addr} {H H1 : Hp} (a : Same H H1) : SameB p H H1 := fun c o _ h => a c o h
theorem SameB.put {p : Addr} {H : Hp} {o : HO} : SameB p H (upd H p o) := fun c u n h => by rw [upd_ne n]; exact h
theorem SameB.same {p : Addr} {H H1 H2 : Hp} (n : H p = none) (a : SameB p H1 H2) (s : Same H H1) : Same H H2 := fun c o h => a c o (ne_of_none h n) (s c o h)
theorem SameB.updn {p l : Addr} {H H' : Hp} {o : HO} (h : SameB p H H') (n : H l = none) : SameB p H (upd H' l o) := fun b u hb e => by rw [upd_ne (ne_of_none e n)]; exact h b u hb e
theorem ixN_nat {n d : Nat} (h : d < n) : ixN n (d : Int) = some d := by
  unfold ixN
  rw [if_pos (by omega), if_pos (by omega)]; simp
/-! ranges -/
section
variable {H : Hp} {σ : L2.St} {ta : TA} {RI : It → Hp → Prop}
def RngQ1 (RI : It → Hp → Prop) (vs : List V) (H : Hp) : Prop := ∃ j : Int, vs = [.int j] ∧ -(2 ^ 62) ≤ j ∧ j < 2 ^ 62 ∧ RI (Itr 0 j.toNat) H
def RngQ2 (RI : It → Hp → Prop) (vs : List V) (H : Hp) : Prop := ∃ i j : Int, vs = [.int i, .int j] ∧ (-(2 ^ 62) ≤ i ∧ i < 2 ^ 62 ∧ -(2 ^ 62) ≤ j ∧ j < 2 ^ 62) ∧ RI (Itr i (j - i).toNat) H
theorem s_rng1 (h : ta σ H fun vs H1 => RngQ1 RI vs H1) : iRng1 ta σ H RI := h
theorem s_rng2 (h : ta σ H fun vs H1 => RngQ2 RI vs H1) : iRng2 ta σ H RI := h
theorem mkR1 {j : Int} (n : Nat) (e : j.toNat = n) (h1 : -(2 ^ 62) ≤ j) (h2 : j < 2 ^ 62) (h : RI (Itr 0 n) H) : RngQ1 RI [.int j] H := ⟨j, rfl, h1, h2, by rw [e]; exact h⟩
theorem mkR2 {i j : Int} (n : Nat) (e : (j - i).toNat = n) (h1 : -(2 ^ 62) ≤ i ∧ i < 2 ^ 62 ∧ -(2 ^ 62) ≤ j ∧ j < 2 ^ 62) (h : RI (Itr i n) H) : RngQ2 RI [.int i, .int j] H := ⟨i, j, rfl, h1, by rw [e]; exact h⟩
end
section
variable {to ti : TE} {t : TSet} {v : V} {σ : L2.St} {H : Hp} {QS : L2.St → Hp → Prop} {p : Addr} {xs : List V} {k : Int} {QH : Hp → Prop}
theorem s_gsub (h : to σ H fun o H1 => ti σ H1 fun i H2 => t o i v H2 fun H3 => QS σ H3) : gSub to ti t v σ H QS := h
theorem s_setL (j : Nat) (hp : H p = some (.lst xs)) (hj : ixN xs.length k = some j) (h : QH (upd H p (.lst (xs.set j v)))) : rSetL (.ref p) (.int k) v H QH := ⟨p, xs, k, j, rfl, rfl, hp, hj, h⟩
end
/-! dicts -/
section
variable {H : Hp} {Q : VK} {p : Addr} {kvs : List (Key × V)} {k : Key} {v : V} {td ty tv : TE} {σ : L2.St} {D : Ends}
def DGetQ (Q : VK) (x y : V) (H : Hp) : Prop := ∃ a v, x = .ref a ∧ DGet H a y (some v) ∧ Q v H
theorem s_dget (h : td σ H fun x H1 => ty σ H1 fun y H2 => DGetQ Q x y H2) : tDGet td ty σ H Q := h
theorem s_dgetS {x : Str} (hd : H p = some (.dK kvs)) (hv : valV kvs (.inr x) = some v) (h : Q v H) : DGetQ Q (.ref p) (.str x) H := ⟨p, v, rfl, by rw [← hv]; exact DGet.k (k := .inr x) hd, h⟩
theorem s_dgetI {i : Int} (hd : H p = some (.dK kvs)) (hv : valV kvs (.inl i) = some v) (h : Q v H) : DGetQ Q (.ref p) (.int i) H := ⟨p, v, rfl, by rw [← hv]; exact DGet.k (k := .inl i) hd, h⟩
def DispQ (Q : VK) (p : Addr) (ps : List (V × V)) (H2 : Hp) : Prop := H2 p = some (.dK []) ∧ ∃ kvs : List (Key × V), ps = kvs.map (fun kv => (kV kv.1, kv.2)) ∧ kvs.length ≤ 15 ∧ Q (.ref p) (upd H2 p (.dK (mergeK [] kvs)))
theorem s_disp {trs : List (TE × TE)} (h : ∀ p H1, H p = none → H1 p = some (.dK []) → Same H H1 → tPairs trs σ H1 fun ps H2 => DispQ Q p ps H2) : tDisp trs σ H Q := fun p hp => h p _ hp upd_same (same_upd hp)
theorem s_pn {QP : List (V × V) → Hp → Prop} (h : QP [] H) : tPairs [] σ H QP := h
theorem s_pc {tk : TE} {r : List (TE × TE)} {QP : List (V × V) → Hp → Prop} (h : tk σ H fun x H1 => tv σ H1 fun y H2 => tPairs r σ H2 fun ps H3 => QP ((x, y) :: ps) H3) : tPairs ((tk, tv) :: r) σ H QP := h
theorem mkDisp {ps : List (V × V)} (kvs : List (Key × V)) (hd : H p = some (.dK [])) (e : ps = kvs.map (fun kv => (kV kv.1, kv.2))) (hl : kvs.length ≤ 15) (h : ∀ H', H' p = some (.dK (mergeK [] kvs)) → (∀ H0, H0 p = none → Same H0 H → Same H0 H') → Q (.ref p) H') : DispQ Q p ps H :=
  ⟨hd, kvs, e, hl, h _ upd_same fun H0 n s => same_upd' s n⟩
def DPutQ (P : Hp → Prop) (x y v : V) (H3 : Hp) : Prop := ∃ a H4, x = .ref a ∧ DPut H3 a y v H4 ∧ P H4
theorem s_dput (h : tv σ H fun v H1 => td σ H1 fun x H2 => ty σ H2 fun y H3 => DPutQ (D.nx σ) x y v H3) : sDPut td ty tv D σ H := h
theorem s_dputS {P : Hp → Prop} {x : Str} (hd : H p = some (.dK kvs)) (hl : kvs.length < sizeLine) (h : P (upd H p (.dK (putK kvs (.inr x) v)))) : DPutQ P (.ref p) (.str x) v H := ⟨p, _, rfl, DPut.k (k := .inr x) hd hl, h⟩
theorem s_dputI {P : Hp → Prop} {i : Int} (hd : H p = some (.dK kvs)) (hl : kvs.length < sizeLine) (h : P (upd H p (.dK (putK kvs (.inl i) v)))) : DPutQ P (.ref p) (.int i) v H := ⟨p, _, rfl, DPut.k (k := .inl i) hd hl, h⟩
end
mutual
theorem eqv_refl : ∀ d : PyData, PyData.canLay0 d = true → PyData.eqv d d = true
  | .none, _ => by simp [PyData.eqv]
  | .bool b, _ => by simp [PyData.eqv]
  | .int i, _ => by simp [PyData.eqv]
  | .str x, _ => by simp [PyData.eqv]
  | .list xs, h => by simp only [PyData.eqv]; exact eqv_refls xs (by simpa [PyData.canLay0] using h)
  | .tuple xs, h => by simp only [PyData.eqv]; exact eqv_refls xs (by simpa [PyData.canLay0] using h)
  | .dict _, h => by simp [PyData.canLay0] at h
theorem eqv_refls : ∀ ds : List PyData, PyData.canLayAll0 ds = true → PyData.eqvAll ds ds = true
  | [], _ => by simp [PyData.eqvAll]
  | d :: ds, h => by
    simp only [PyData.canLayAll0, Bool.and_eq_true] at h
    simp only [PyData.eqvAll, Bool.and_eq_true]
    exact ⟨eqv_refl d h.1, eqv_refls ds h.2⟩
end
theorem layAll {ds : List PyData} (h : ∀ d ∈ ds, PyData.canLay0 d = true) : PyData.canLayAll0 ds = true := by
  induction ds with
  | nil => simp [PyData.canLayAll0]
  | cons d ds ih =>
    simp only [PyData.canLayAll0, Bool.and_eq_true]
    exact ⟨h d (by simp), ih fun e he => h e (by simp [he])⟩
theorem depAll {ds : List PyData} {n : Nat} (h : ∀ d ∈ ds, PyData.depth d ≤ n) : PyData.depthAll ds ≤ n := by
  induction ds with
  | nil => simp [PyData.depthAll]
  | cons d ds ih =>
    simp only [PyData.depthAll]
    exact Nat.max_le.mpr ⟨h d (by simp), ih fun e he => h e (by simp [he])⟩
theorem shapedL {ds : List PyData} (h : ∀ d ∈ ds, PyData.canLay0 d = true ∧ PyData.depth d ≤ 63) : SeqAt.shaped (.list ds) = true := by
  unfold SeqAt.shaped
  simp only [PyData.canLay0, PyData.depth, Bool.and_eq_true]
  exact ⟨layAll fun d hd => (h d hd).1, decide_eq_true (Nat.succ_le_succ (depAll fun d hd => (h d hd).2))⟩
theorem shapedT {ds : List PyData} (h : ∀ d ∈ ds, PyData.canLay0 d = true ∧ PyData.depth d ≤ 63) : SeqAt.shaped (.tuple ds) = true := by
  unfold SeqAt.shaped
  simp only [PyData.canLay0, PyData.depth, Bool.and_eq_true]
  exact ⟨layAll fun d hd => (h d hd).1, decide_eq_true (Nat.succ_le_succ (depAll fun d hd => (h d hd).2))⟩
theorem eqv_shaped {d : PyData} (h : SeqAt.shaped d = true) : PyData.eqv d d = true := eqv_refl d (SeqAt.canLay_of_shaped h)
theorem in_ints (a : Int) (ns : List Int) : inV (.int a) (ns.map V.int) = decide (a ∈ ns) := by
  unfold inV
  induction ns with
  | nil => simp
  | cons n ns ih =>
    rw [List.map_cons, List.any_cons, ih]
    simp only [eqV, List.mem_cons]
    by_cases h : a = n
    · subst h; simp
    · simp [h, Ne.symm h]
theorem flat_ints (ns : List Int) : (ns.map V.int).all flatV = true := by simp [flatV]
theorem s_inL {K : PySem.W.Frag} {H : Hp} {Q : VK} {p : Addr} {a : Int} {ns : List Int} (hp : H p = some (.lst (ns.map V.int))) (h : Q (.bl (decide (a ∈ ns))) H) : rIn K false (.int a) (.ref p) H Q :=
  ⟨p, ns.map V.int, rfl, .inl (SqL.of hp), rfl, flat_ints ns, by rw [if_neg Bool.false_ne_true, in_ints]; exact h⟩
theorem s_notInL {K : PySem.W.Frag} {H : Hp} {Q : VK} {p : Addr} {a : Int} {ns : List Int} (hp : H p = some (.lst (ns.map V.int))) (h : Q (.bl (!decide (a ∈ ns))) H) : rIn K true (.int a) (.ref p) H Q :=
  ⟨p, ns.map V.int, rfl, .inl (SqL.of hp), rfl, flat_ints ns, by rw [if_pos rfl, in_ints]; exact h⟩
theorem paired_mono {α β : Type} {F G : α → β → Prop} (h : ∀ a b, F a b → G a b) : ∀ {xs : List α} {ys : List β}, Paired F xs ys → Paired G xs ys
  | _, _, .nil => .nil
  | _, _, .cons f r => .cons (h _ _ f) (paired_mono h r)
theorem paired_take {α β : Type} {F : α → β → Prop} : ∀ {xs : List α} {ys : List β} (n : Nat), Paired F xs ys → Paired F (xs.take n) (ys.take n)
  | _, _, 0, _ => by simp; exact .nil
  | _, _, _ + 1, .nil => .nil
  | _, _, n + 1, .cons f r => .cons f (paired_take n r)
theorem s_isiT2 {K : PySem.W.Frag} {H : Hp} {Q : VK} {x : V} {tp : Addr} {a b1 b2 : String} {r1 r2 : Bool} (ht : H tp = some (.tup [.ty b1, .ty b2])) (tx : TyOf K H x (.type a)) (k1 : kitB a b1 = some r1) (k2 : kitB a b2 = some r2) (h : Q (.bl (r1 || r2)) H) : rIsiT K [x, .ref tp] H Q :=
  ⟨x, tp, [.ty b1, .ty b2], .type a, [.type b1, .type b2], r1 || r2, rfl, ht, .cons (.ty b1) (.cons (.ty b2) .nil), .base tx,
    kitAny_cons (kit_ty k1) (fun e => kitAny_cons (kit_ty k2) (fun e2 => by rw [e, e2]; exact kitAny_nil) (fun e2 => by rw [e2]; simp)) (fun e => by rw [e]; rfl), h⟩
theorem s_isiT2F {K : PySem.W.Frag} {H : Hp} {Q : VK} {x : V} {tp : Addr} {a b1 b2 : String} (ht : H tp = some (.tup [.ty b1, .ty b2])) (tx : TyOf K H x (.type a)) (k1 : kitB a b1 = some false) (k2 : kitB a b2 = some false) (h : Q (.bl false) H) : rIsiT K [x, .ref tp] H Q := s_isiT2 ht tx k1 k2 h
theorem kb_nl : kitB "NoneType" "list" = some false := by decide +kernel
theorem kb_nt : kitB "NoneType" "tuple" = some false := by decide +kernel
theorem kb_nb : kitB "NoneType" "bool" = some false := by decide +kernel
theorem kb_il : kitB "int" "list" = some false := by decide +kernel
theorem kb_it : kitB "int" "tuple" = some false := by decide +kernel
theorem kb_bl : kitB "bool" "list" = some false := by decide +kernel
theorem kb_bt : kitB "bool" "tuple" = some false := by decide +kernel
theorem lookup1 {f : Str} {v : V} : List.lookup f [(f, v)] = some v := by simp [List.lookup]
theorem s_xf {a C d : Addr} {f : Str} {v : V} {i : Nat} {σ : L2.St} {H : Hp} {Q : VK} (e : σ[i]? = some (some (.ref a))) (hx : H d = some (.xd [(f, v)])) (h : Q v H) : tXf a (.ref C) (some d) C f (tVar i) σ H Q := ⟨_, e, rfl, rfl, d, _, v, rfl, hx, lookup1, h⟩
/-- a list (or tuple) of tuples -/
abbrev TupsIn (H : Hp) : List V → List (List V) → Prop := Paired fun (x : V) (r : List V) => ∃ t, x = .ref t ∧ H t = some (.tup r)
theorem TupsIn.same {H H' : Hp} (s : Same H H') : ∀ {xs : List V} {rs : List (List V)}, TupsIn H xs rs → TupsIn H' xs rs
  | _, _, .nil => .nil
  | _, _, .cons ⟨t, e, h⟩ r => .cons ⟨t, e, s _ _ h⟩ (TupsIn.same s r)
theorem TupsIn.upd {H : Hp} {p : Addr} {o : HO} {zs : List V} (hp : H p = some (.lst zs)) : ∀ {xs : List V} {rs : List (List V)}, TupsIn H xs rs → TupsIn (L2.upd H p o) xs rs
  | _, _, .nil => .nil
  | _, _, .cons ⟨t, e, h⟩ r => .cons ⟨t, e, by rw [upd_ne (fun z => by rw [z, hp] at h; cases h)]; exact h⟩ (TupsIn.upd hp r)
theorem paired_snoc {α β : Type} {F : α → β → Prop} {x : α} {y : β} : ∀ {xs : List α} {ys : List β}, Paired F xs ys → F x y → Paired F (xs ++ [x]) (ys ++ [y])
  | _, _, .nil, f => .cons f .nil
  | _, _, .cons a r, f => .cons a (paired_snoc r f)
theorem paired_set {α β : Type} {F : α → β → Prop} {x : α} {y : β} : ∀ {xs : List α} {ys : List β} (j : Nat), Paired F xs ys → F x y → Paired F (xs.set j x) (ys.set j y)
  | _, _, _, .nil, _ => .nil
  | _, _, 0, .cons _ r, f => .cons f r
  | _, _, j + 1, .cons a r, f => .cons a (paired_set j r f)
theorem TupsIn.app {H H1 : Hp} {l t : Addr} {xs r : List V} {rs : List (List V)} (hl : H l = some (.lst xs)) (ht : TupsIn H xs rs) (s : Same H H1) (nt : H t = none) (et : H1 t = some (.tup r)) :
    TupsIn (L2.upd H1 l (.lst (xs ++ [.ref t]))) (xs ++ [.ref t]) (rs ++ [r]) :=
  paired_snoc (TupsIn.upd (s _ _ hl) (ht.same s)) ⟨t, rfl, by rw [upd_ne (ne_of_none hl nt).symm]; exact et⟩
theorem TupsIn.put {H H1 : Hp} {l t : Addr} {xs r : List V} {rs : List (List V)} (j : Nat) (hl : H l = some (.lst xs)) (ht : TupsIn H xs rs) (s : Same H H1) (nt : H t = none) (et : H1 t = some (.tup r)) :
    TupsIn (L2.upd H1 l (.lst (xs.set j (.ref t)))) (xs.set j (.ref t)) (rs.set j r) :=
  paired_set j (TupsIn.upd (s _ _ hl) (ht.same s)) ⟨t, rfl, by rw [upd_ne (ne_of_none hl nt).symm]; exact et⟩
theorem take_more {α : Type} {xs : List α} {i : Nat} {x : α} (h : xs[i]? = some x) : xs.take (i + 1) = xs.take i ++ [x] := by
  rw [List.take_succ, h]; rfl
theorem pget {α β : Type} {F : α → β → Prop} : ∀ {xs : List α} {ys : List β} {i : Nat} {x : α}, Paired F xs ys → xs[i]? = some x → ∃ y, ys[i]? = some y ∧ F x y
  | _, _, _, _, .nil, e => by simp at e
  | _, _, 0, _, .cons f _, e => by simp at e; subst e; exact ⟨_, rfl, f⟩
  | _, _, i + 1, x, .cons _ r, e => by
    obtain ⟨y, h1, h2⟩ := pget (i := i) r (by simpa using e)
    exact ⟨y, by simpa using h1, h2⟩
theorem pget' {α β : Type} {F : α → β → Prop} : ∀ {xs : List α} {ys : List β} {i : Nat} {y : β}, Paired F xs ys → ys[i]? = some y → ∃ x, xs[i]? = some x ∧ F x y
  | _, _, _, _, .nil, e => by simp at e
  | _, _, 0, _, .cons f _, e => by simp at e; subst e; exact ⟨_, rfl, f⟩
  | _, _, i + 1, x, .cons _ r, e => by
    obtain ⟨y, h1, h2⟩ := pget' (i := i) r (by simpa using e)
    exact ⟨y, by simpa using h1, h2⟩
theorem s_isN {H : Hp} {Q : VK} (h : Q (.bl true) H) : L2.rIsN .non .non H Q := ⟨rfl, by rw [decide_eq_true rfl]; exact h⟩
theorem s_isNi {H : Hp} {Q : VK} {i : Int} (h : Q (.bl false) H) : L2.rIsN (.int i) .non H Q := ⟨rfl, by rw [decide_eq_false (by intro z; cases z)]; exact h⟩
def RgQ (Q : VK) (x y : V) (H : Hp) : Prop := ∃ i j, x = .int i ∧ y = .int j ∧ RgOk i j ∧ ∀ q, H q = none → Q (.ref q) (upd H q (.lst (rgV i j)))
theorem s_bm0 {K : PySem.W.Frag} {T : String} {r : V → List V → Hp → VK → Prop} {ta : TE} {σ : L2.St} {H : Hp} {Q : VK} (h : ta σ H fun x H1 => tyV K T x H1 ∧ r x [] H1 Q) : tBM0 K T r ta σ H Q := h
theorem s_lrg2 {ta tb : TE} {σ : L2.St} {H : Hp} {Q : VK} (h : ta σ H fun x H1 => tb σ H1 fun y H2 => RgQ Q x y H2) : tLstRg (tRg2 ta tb) σ H Q := h
theorem s_lc {wi : TI} {g : TG} {tt : TT} {te : TE} {vs : List Nat} {σ : L2.St} {H : Hp} {Q : VK} (h : wi σ H fun J H1 => tLc (fun _ _ R => R J H1) g tt te vs σ H1 Q) : tLc wi g tt te vs σ H Q := h
theorem call_isiK (K : PySem.W.Frag) {X : Cx} (h : X.K = K) : CallR X (.builtin "isinstance") (rIsi K) := h ▸ call_isi
theorem ix_seqK (K : PySem.W.Frag) {X : Cx} (h : X.K = K) : IxR X (rIx K) := h ▸ ix_seq
theorem s_isNb {H : Hp} {Q : VK} {i : Bool} (h : Q (.bl false) H) : L2.rIsN (.bl i) .non H Q := ⟨rfl, by rw [decide_eq_false (by intro z; cases z)]; exact h⟩
theorem s_isNr {H : Hp} {Q : VK} {i : Addr} (h : Q (.bl false) H) : L2.rIsN (.ref i) .non H Q := ⟨rfl, by rw [decide_eq_false (by intro z; cases z)]; exact h⟩
theorem s_notN {H : Hp} {Q : VK} (h : Q (.bl false) H) : L2.rNotN .non .non H Q := ⟨rfl, by rw [decide_eq_true rfl]; exact h⟩
theorem s_notNi {H : Hp} {Q : VK} {i : Int} (h : Q (.bl true) H) : L2.rNotN (.int i) .non H Q := ⟨rfl, by rw [decide_eq_false (by intro z; cases z)]; exact h⟩
theorem s_notNr {H : Hp} {Q : VK} {i : Addr} (h : Q (.bl true) H) : L2.rNotN (.ref i) .non H Q := ⟨rfl, by rw [decide_eq_false (by intro z; cases z)]; exact h⟩
theorem fn_or {P : Program} {w : World} {K : PySem.W.Frag} {mg : Str → Option Value} {base : Heap} {CX : CXT} {k : Nat} {f : Addr} {fd : FuncData} {ps : List Str} {sp sp1 sp2 : Sp} (F1 : FnOk P w K mg base CX k f fd ps sp1) (F2 : FnOk P w K mg base CX k f fd ps sp2)
    (h : ∀ vs H Q E, sp vs H Q E → sp1 vs H Q E ∨ sp2 vs H Q E) : FnOk P w K mg base CX k f fd ps sp :=
  ⟨fun vs H Q E q => (h vs H Q E q).elim (F1.len vs H Q E) (F2.len vs H Q E), fun A outer s H args us vs Q E hr he hb hv hs => (h vs H Q E hs).elim (F1.run A outer s H args us vs Q E hr he hb hv) (F2.run A outer s H args us vs Q E hr he hb hv)⟩
/-! loops -/
section
variable {c : TT} {tb : TS} {D : Ends} {σ : L2.St} {H : Hp}
/-- the int in a slot -/
def iv (σ : L2.St) (i : Nat) : Int := match σ[i]? with
  | some (some (V.int r)) => r
  | _ => 0
def WW (Pv : L2.St → Hp → Prop) (μ : L2.St → Hp → Nat) : Nat → L2.St → Hp → Prop := fun m σ H => m = μ σ H ∧ Pv σ H
theorem s_while (Pv : L2.St → Hp → Prop) (μ : L2.St → Hp → Nat) (h0 : Pv σ H)
    (hs : ∀ σ H, Pv σ H → c σ H fun b H1 => if b = true then ∃ N : L2.St → Hp → Prop, (∀ σ' H', N σ' H' → ∃ m', m' < μ σ H ∧ WW Pv μ m' σ' H') ∧ tb { D with nx := N, ct := N, bk := D.nx } σ H1 else D.nx σ H1) : tWhile c tb D σ H :=
  ⟨WW Pv μ, ⟨_, rfl, h0⟩, fun m σ H ⟨e, p⟩ => by subst e; exact hs σ H p⟩
theorem s_turn {Pv : L2.St → Hp → Prop} {μ : L2.St → Hp → Nat} {m : Nat} (h : tb { D with nx := fun σ' H' => Pv σ' H' ∧ μ σ' H' < m, ct := fun σ' H' => Pv σ' H' ∧ μ σ' H' < m, bk := D.nx } σ H) :
    ∃ N : L2.St → Hp → Prop, (∀ σ' H', N σ' H' → ∃ m', m' < m ∧ WW Pv μ m' σ' H') ∧ tb { D with nx := N, ct := N, bk := D.nx } σ H := ⟨_, fun σ' H' p => ⟨_, p.2, rfl, p.1⟩, h⟩
end
/-! numbers -/
def CDivF (_ j : Int) : Prop := j ≠ 0 ∧ j.natAbs.log2 < 9000
section
variable {X : Cx}
theorem op_divF : OpR X (binaryOp .FloorDiv) (rI CDivF fun i j => .int (i.fdiv j)) := opI fun _ _ _ _ _ _ _ hc q => floordiv_int hc.1 q (.inl (PyProof.noPylong_of_log2 hc.2))
end
theorem divW {a j : Int} (h : 0 < j) (h2 : j.natAbs < 2 ^ 2000) : CDivW a j := wide_div h h2 (by decide) (by decide)
theorem divF {a j : Int} (h : j ≠ 0) (h2 : j.natAbs < 2 ^ 2000) : CDivF a j := ⟨h, Nat.lt_of_lt_of_le (PySem.Flt.log2_lt_of (by decide) h2) (by decide)⟩
theorem mulW {a b : Int} (h1 : a.natAbs < 2 ^ 2000) (h2 : b.natAbs < 2 ^ 2000) : CMulW a b := wide_mul h1 h2 (by decide) (by decide) (by decide)
/-- a law over a head by facts: its last step, the script's sizes told -/
theorem walk_ofEB {l : PySem.W.OpenLaw} {n k : Nat} {qv : Program} {ls : List Str} {XP : (Str → Option Value) → Heap → Prop} {YP : World → Heap → Prop} {dr : DefRec} {CX : World → CXT} {prm : Str}
    (hmost : l.most = some n) (hline : n ≤ sizeLine) (hnod : dr.params.defaults = []) (room : Room k callerA)
    (F : ∀ (w : World) (mg : Str → Option Value) (fa : Addr) (hp : Heap), YP w hp → hp.Ns mainGlobals mg → mg dr.name = some (.ref fa) →
      ∃ (Kf : PySem.W.Frag) (fdt : FuncData) (sp : Sp), Kf.In hp ∧ (∀ (s : Shared) (u : Value), BindsTo s fdt ⟨[u], []⟩ [(prm, u)]) ∧
        (∀ (H : Hp) (a : Addr) (ns : List Int), ns.length ≤ n → (∀ z ∈ ns, Builtin.Int.intBits z ≤ 1048576) → Only H → SqL Kf H a (ns.map V.int) → sp [.ref a] H (fun v _ => v = .bl true) fun _ _ _ => False) ∧
        ∀ base : Heap, Kf.In base → base.Ns mainGlobals mg → FnOk l.prog w Kf mg base (CX w) k fa fdt [prm] sp)
    (none_out : ∀ (w : World) (H : Hp) (s : Shared) (e : Value) (s' : Shared), CX w [] H s (fun _ _ _ => False) e s' → False) :
    PySem.W.WalkO qv ls XP YP l.row.toRowW dr [] (fun f vs => PySem.call f vs) := by
  refine Att.attach_callB hmost hnod fun w s₀ s₁ mg _ fa _ _ _ _ a _ ns G Y _ _ _ gN ob1 xis len bits run => ?_
  obtain ⟨Kf, fdt, sp, kin, bnd, last, fok⟩ := F w mg fa _ Y G.T.g gN
  exact law_call kin G.T.g G.T.b G.T.builtins G.T.nolimit run ob1 xis (Nat.le_trans len hline) room fok bnd (fun H only sq => last H a ns len bits only sq) fun H e s' => none_out w H s₁ e s'
theorem cx0_no {P : Program} (w : World) (H : Hp) (s : Shared) (e : Value) (s' : Shared) (h : CX0 [] H s (fun _ _ _ => False) e s') : False := h
/-! what the head tells: facts as tests of the written part, defs at any address -/
abbrev FB := PySem.W.Frag → Bool
def toldR (fb : List FB) (fn : List He5.DefA) (K : PySem.W.Frag) : He.AlD := ((fb.all fun t => t K) && (fn.all fun e => e.ok K), fn.map fun e => He5.fnA K (e.at_ K))
def dueR (fn : List He5.DefA) : He.AlD := (true, fn.map He5.DefA.val)
def Told (fb : List FB) (fn : List He5.DefA) (K : PySem.W.Frag) : Prop := toldR fb fn K = dueR fn
def toldG (n : Nat) (fb : List FB) (fn : List He5.DefA) (g : Addr → Option Obj) : He.AlD := toldR fb fn (He.frG g (He5.asA g n))
def hookR (n : Nat) (fb : List FB) (fn : List He5.DefA) : PySem.W.Hook where
  α := He.AlD
  obs := fun st => toldG n fb fn st.heap.get?
  val := fun _ => dueR fn
  says := fun _ hp => ∃ Kf : PySem.W.Frag, Kf.In hp ∧ Told fb fn Kf
  of := fun _ _ eq => ⟨_, He.frG_in, eq⟩
  keeps := fun _ _ _ ⟨Kf, hin, tl⟩ kp => ⟨Kf, PySem.W.Frag.In.keeps hin kp, tl⟩
theorem toldG_eq {n : Nat} {fb : List FB} {fn : List He5.DefA} {g : Addr → Option Obj} {st : Shared} (h : ∀ a, g a = st.heap.get? a) : toldG n fb fn g = (hookR n fb fn).obs st := by
  have eg : g = st.heap.get? := funext h
  rw [eg] <;> rfl
theorem Told.fact {fb : List FB} {fn : List He5.DefA} {K : PySem.W.Frag} (tl : Told fb fn K) (i : Nat) {t : FB} (h : fb[i]? = some t := by rfl) : t K = true := by
  have e0 : ((fb.all fun t => t K) && (fn.all fun e => e.ok K)) = true := congrArg Prod.fst tl
  exact List.all_eq_true.mp (Bool.and_eq_true_iff.mp e0).1 t (List.mem_of_getElem? h)
theorem Told.dfn {fb : List FB} {fn : List He5.DefA} {K : PySem.W.Frag} (tl : Told fb fn K) (i : Nat) {e : He5.DefA} (h : fn[i]? = some e := by rfl) : ∃ fd, FunD K e.name e.qual e.params e.body e.scope (e.dvs K) (e.kws K) (e.at_ K) fd := by
  have e0 : ((fb.all fun t => t K) && (fn.all fun e => e.ok K)) = true := congrArg Prod.fst tl
  have e1 : fn.map (fun e => He5.fnA K (e.at_ K)) = fn.map He5.DefA.val := congrArg Prod.snd tl
  have e2 := congrArg (fun l => l[i]?) e1
  simp only [List.getElem?_map, h, Option.map_some] at e2
  exact He5.DefA.funD (Option.some.inj e2) (List.all_eq_true.mp (Bool.and_eq_true_iff.mp e0).2 e (List.mem_of_getElem? h))
/-! own exception classes whose __init__ calls their base's and keeps one field -/
def oexB (C : Addr) : FB := fun K => (match K.lookup C with
  | some ⟨.type tn, _, .cls cd, sl⟩ => (match cd.mro, sl.toList with
    | .ref C' :: bm, [_, _, _, _, some (.builtin n), _] => decide (tn = "type") && (C' == C && (decide (n = "ValueError.__new__") && (!cd.hasDel && (cd.hasDict && PySem.HandSPX.refsVE bm))))
    | _, _ => false)
  | _ => false) && (decide (PySem.W.findIn K (.ref C) "__setattr__" = some (some (.builtin "object.__setattr__"))) && (decide (PySem.W.subIn K (.ref C) (.type "BaseException") = some true) && (decide (PySem.W.typeIn K (.ref C) = some (.type "type")) && PySem.W.keepIn K (.ref C))))
theorem oex_of {K : PySem.W.Frag} {C : Addr} (h : oexB C K = true) : OexC K C := by
  unfold oexB at h
  simp only [Bool.and_eq_true, decide_eq_true_eq] at h
  obtain ⟨h1, h2, h3, h4, h5⟩ := h
  refine ⟨?_, h2, h3, h4, h5⟩
  split at h1
  · rename_i tn dd cd sl ho
    split at h1
    · rename_i C' bm k0 k1 k2 k3 n k5 hm hs
      simp only [Bool.and_eq_true, beq_iff_eq, Bool.not_eq_true', decide_eq_true_eq] at h1
      obtain ⟨rfl, rfl, rfl, hdel, hdct, hr⟩ := h1
      obtain ⟨nm, bs, mro, ns, qn, hd, sn, sub, ab, col, del⟩ := cd
      dsimp only at hm hdel hdct
      subst hm hdel hdct
      have hsl : sl = #[k0, k1, k2, k3, some (.builtin "ValueError.__new__"), k5] := by
        obtain ⟨l⟩ := sl
        simp only at hs
        rw [hs]
      subst hsl
      exact ⟨nm, qn, ns, bs, bm, sn, sub, ab, col, dd, k0, k1, k2, k3, k5, ho, hr⟩
    · cases h1
  · cases h1
/-- the base P, whose __init__ is called through it -/
def baseB (C : Addr) : FB := fun K => PySem.W.readsIn K C (.type "type") && (decide (PySem.W.specialIn K (.ref C) "__getattribute__" = some (some (.builtin "type.__getattribute__"))) && (match PySem.W.findCls K (.ref C) (.type "type") "__init__" with
  | some (.val (.builtin n)) => decide (n = "ValueError.__init__")
  | _ => false))
structure BaseC (K : PySem.W.Frag) (C : Addr) : Prop where
  rd : PySem.W.readsIn K C (.type "type") = true
  ga : PySem.W.specialIn K (.ref C) "__getattribute__" = some (some (.builtin "type.__getattribute__"))
  at_ : PySem.W.findCls K (.ref C) (.type "type") "__init__" = some (.val (.builtin "ValueError.__init__"))
theorem base_of {K : PySem.W.Frag} {C : Addr} (h : baseB C K = true) : BaseC K C := by
  unfold baseB at h
  simp only [Bool.and_eq_true, decide_eq_true_eq] at h
  obtain ⟨h1, h2, h3⟩ := h
  refine ⟨h1, h2, ?_⟩
  split at h3
  · rename_i n e
    rw [e, of_decide_eq_true h3]
  · cases h3
section
variable {X : Cx} {e : Expr} {es : List Expr} {ta : TA} {p1 p2 pos : Pos}
/-- P.__init__(self, ..) -/
theorem pe_cinit {x : Str} {C : Addr} {pl : Sem Bool} (hg : Gl X x) (hm : X.mg x = some (.ref C)) (r : BaseC X.K C) (ha : PA X (e :: es) ta) (hdb : (x == ("__debug__" : Str)) = false := by decide)
    (hc : eval (.Call (.Attribute (.Name x p1) "__init__" p2) (e :: es) [] pos) X.env = (do
      let ov ← eval (.Name x p1) X.env
      standAt p2.atName
      let (f, fst) ← holding [ov] (getMethod ov "__init__" pl)
      callWith pos f fst (backTo pos (starEach (e :: es) X.env)) (backToKw pos (keywordEach [] X.env))) := by rfl)
    (he : starEach (e :: es) X.env = (false, eval e X.env) :: starEach es X.env := by rfl) (hpl : (backTo pos (starEach es X.env)).any (·.1) = false := by rfl) :
    PE X (.Call (.Attribute (.Name x p1) "__init__" p2) (e :: es) [] pos) (tVeI X.K ta) := by
  refine ⟨fun pins s σ H Q I h => ?_⟩
  refine PySem.W.methodCall_KW (ld_glob I hg hm ?_ hdb) hc
  refine PySem.W.method_cls I.kIn r.ga (PySem.W.cls_value I.kIn r.rd r.at_ (by decide +kernel) ?_)
  show wpAny _ _ (callWith pos (Value.builtin "ValueError.__init__") [] (backTo pos (starEach (e :: es) X.env)) []) _ _ _
  refine PyProof.Rows.callWith_method1 (thn (ha.run pos pins _ σ H _ (I.tok _) h) fun us s1 ⟨vs, H1, I1, r1, a, C, ws, ev, hl, T, ea, q⟩ => ?_) he hpl
  subst ev
  cases r1 with
  | @cons _ u0 _ ur ra rw' =>
    obtain rfl : u0 = Value.ref a := ra
    have hlen : ur.length ≤ sizeLine := by rw [← Paired.length rw']; exact len_le hl
    exact oinit_ok T I1 ea hlen fun s' J => ⟨.non, H1, J, rfl, q⟩
end
/-! isinstance of a caught own error, with or without a dict of its own -/
structure IsX (K : PySem.W.Frag) (D : Addr) : Prop where
  ga : PySem.W.findIn K (.ref D) "__getattribute__" = some (some (.builtin "BaseException.__getattribute__"))
  gg : PySem.W.findIn K (.ref D) "__getattr__" = some none
  sub : PySem.W.subIn K (.ref D) (.type "BaseException") = some true
  dct : PySem.W.hasDictIn K D = true
  cl : PySem.W.findIn K (.ref D) "__class__" = some (some (.builtin "object.__class__"))
  gt : PySem.W.specialIn K (.builtin "object.__class__") "__get__" = some (some (.builtin "getset_descriptor.__get__"))
  tk : PySem.W.takesIn K (.builtin "object.__class__") = some true
  mro : PySem.W.mroIn K D (.type "object") = some true
def isxB (x : Str) : FB := fun K => decide (PySem.W.findIn K (.ref (He.ga K x)) "__getattribute__" = some (some (.builtin "BaseException.__getattribute__"))) && (decide (PySem.W.findIn K (.ref (He.ga K x)) "__getattr__" = some none) &&
  (decide (PySem.W.subIn K (.ref (He.ga K x)) (.type "BaseException") = some true) && (PySem.W.hasDictIn K (He.ga K x) && (decide (PySem.W.findIn K (.ref (He.ga K x)) "__class__" = some (some (.builtin "object.__class__"))) &&
  (decide (PySem.W.specialIn K (.builtin "object.__class__") "__get__" = some (some (.builtin "getset_descriptor.__get__"))) && (decide (PySem.W.takesIn K (.builtin "object.__class__") = some true) && decide (PySem.W.mroIn K (He.ga K x) (.type "object") = some true)))))))
theorem isx_of {K : PySem.W.Frag} {x : Str} (h : isxB x K = true) : IsX K (He.ga K x) := by
  unfold isxB at h
  simp only [Bool.and_eq_true, decide_eq_true_eq] at h
  obtain ⟨h1, h2, h3, h4, h5, h6, h7, h8⟩ := h
  exact ⟨h1, h2, h3, h4, h5, h6, h7, h8⟩
end R
namespace PySem.W
open PySem PySem.Spec PySem.Calls PyProof.Rows
section
variable {prog : Program} {w : World} {A : Around} {E : Value → Shared → Prop} {s : Shared} {K : Frag} {x D : Addr} {ox : Obj} {od : Option Obj}
theorem r_findcls (T : R.IsX K D) : findObj K D od "__class__" = some (.bind (.builtin "getset_descriptor.__get__") (.builtin "object.__class__")) := by
  obtain ⟨cd, e1, _⟩ := any_some T.dct
  unfold findObj
  simp [e1, T.cl, T.gt, T.tk]
theorem r_readcls {Q : Option Value → Shared → Prop} (T : R.IsX K D) (X : K.In s.heap) (I : InstAt s.heap x ox D od) (h : Q (some (.ref D)) { s with toks := s.toks + 1 }) : wpAny (model prog w) A (getAttr? (.ref x) "__class__") Q E s := by
  obtain ⟨hp, gn, dr, tk, os⟩ := s
  have l0 := I.type (M := model prog w)
  have l1 := looks_findIn (M := model prog w) X T.ga
  have l2 := looks_findIn (M := model prog w) X T.gg
  have l3 := looks_find (M := model prog w) X I (r_findcls (od := od) T)
  have lsub : Looks (model prog w) hp (isInstance (.ref x) (.type "BaseException")) true := l0.andThen (looks_subIn X T.sub)
  have n1 : (Value.builtin "BaseException.__getattribute__" == Value.builtin "object.__getattribute__") = false := by decide +kernel
  have n2 : (onTheHeap (Value.ref D) && Value.builtin "BaseException.__getattribute__" == Value.builtin "object.__getattribute__") = false := by rw [n1]; rfl
  have n3 : (false && onTheHeap (Value.builtin "BaseException.__getattribute__")) = false := rfl
  unfold getAttr? getAttrBy? getAttrBy
  refine wpAny_bind (wpAny_mkText (wpAny_bind (wpAny_attempt (wpAny_holding (wpAny_bind (l0.at (wpAny_bind (l1.at ?_))))))))
  show wpAny _ _ (if (onTheHeap (Value.ref D) && Value.builtin "BaseException.__getattribute__" == Value.builtin "object.__getattribute__") = true then _ else _) _ _ _
  rw [n2, if_neg Bool.false_ne_true]
  unfold getAttrByItsOwn hookBefore
  refine wpAny_bind ?_
  rw [if_pos (show onTheHeap (Value.ref D) = true from rfl)]
  refine l2.at ?_
  refine wpAny_bind (wpAny_attempt (wpAny_holding ?_))
  unfold callGetattribute
  rw [n3, if_neg Bool.false_ne_true]
  unfold boundAndCalled
  rw [PySem.F.excAttr_ValueError.ga.bind (.ref x)]
  refine wpAny_bind (wpAny_pure ?_)
  show wpAny _ _ (call (.builtin "BaseException.__getattribute__") [.ref x, .str "__class__" tk]) _ _ _
  refine wpAny_call (codeAny_call_builtin PySem.F.excAttr_ValueError.ga.plain PySem.F.entry_bexc_ga ?_)
  refine @check_slot (model prog w) _ _ ⟨hp, gn, dr, tk + 1, os⟩ "BaseException.__getattribute__" "BaseException" "__getattribute__" (.ref x) [.str "__class__" tk] [] _ (by decide +kernel) (by decide +kernel) lsub (PySem.F.args_bexc_ga (.ref x) (.str "__class__" tk)) ?_
  unfold Builtin.«object.__getattribute__»
  refine wpAny_bind (wpAny_of_eq (a := ((Value.ref x : Value), [Value.str "__class__" tk])) (by first | rfl | (simp only [slotArgs]; rfl)) ?_)
  refine wpAny_bind (wpAny_pure (wpAny_bind (l0.at (wpAny_bind (l3.at ?_)))))
  show wpAny _ _ (holding [Value.builtin "object.__class__"] (call (.builtin "getset_descriptor.__get__") [.builtin "object.__class__", .ref x, .ref D]) >>= ret) _ _ _
  refine wpAny_bind (wpAny_holding (wpAny_call (class_get (s := ⟨hp, gn, dr, tk + 1, os⟩) (ox := ox) (od := od) X I T.mro ?_)))
  refine wpAny_pure ?_
  show wpAny _ _ (handedOut (.ref D)) _ _ _
  rw [handedOut_of (v := .ref D) rfl]
  first
    | exact wpAny_pure (wpAny_pure h)
    | exact wpAny_pure h
    | exact wpAny_pure (wpAny_bind (wpAny_pure (wpAny_pure h)))
theorem r_kit (T : R.IsX K D) : KitX K (.ref x) (.ref D) (fun hp => InstAt hp x ox D od) where
  ty := fun _ _ _ I => I.type
  it := fun _ _ X _ => by
    obtain ⟨cd, e1, _⟩ := any_some T.dct
    unfold clsIn at e1
    split at e1
    · rename_i _ _ _ _ at_
      intro A' Q' E' s' k q
      unfold isType loadHead
      exact wpAny_bind (wpAny_loadPart (k _ _ (X _ _ at_)) (wpAny_pure q))
    · cases e1
  ne := fun hp tp dd its n sl X at_tp => by
    obtain ⟨cd, e1, _⟩ := any_some T.dct
    refine Bool.eq_false_iff.mpr fun q => ?_
    obtain rfl : D = tp := Value.ref.inj (beq_iff_eq.mp q)
    unfold clsIn at e1
    split at e1
    · rename_i _ _ _ _ at_
      exact nomatch (X _ _ at_).symm.trans at_tp
    · cases e1
  ca := fun X I k => r_readcls T X I k
end
end PySem.W
namespace R
open PySem PySem.Spec PyProof.Rows L2
theorem callIsX {X : Cx} {a D : Addr} {oe : Obj} {d : Option Addr} {pn : List (Addr × Obj)} (T : IsX X.K D) (hz : Zc (.ref D) d oe) (hf : ∃ vs, oe.data = .fields vs) :
    CallR (X.suite a ((a, oe) :: pn)) (.builtin "isinstance") (fun xs H Q => ∃ fs, (∀ dd, d = some dd → H dd = some (.xd fs)) ∧ rIsE X.K D a xs H Q) := by
  intro pins s σ H xs us Q I r h
  obtain ⟨fs, hdd, c, cv, b, rfl, hcv, e, q⟩ := h
  cases r with
  | cons rx rr =>
    cases rr with
    | cons rt rr =>
      cases rr
      cases rx
      have ec := hcv _ rt
      subst ec
      obtain ⟨hget, _⟩ := I.pin (a, oe) (List.mem_append.mpr (.inl List.mem_cons_self))
      obtain ⟨vs, hv⟩ := hf
      have J : ∃ od, PySem.W.InstAt s.heap a oe D od := by
        obtain ⟨oc, dd, oda, osl⟩ := oe
        obtain ⟨h1, h2⟩ := hz
        dsimp only at h1 h2 hv
        subst h1 h2 hv
        cases dd with
        | none => exact ⟨none, hget, rfl, rfl, trivial⟩
        | some dx =>
          obtain ⟨mA, hns, _⟩ : ObjOk X.prog X.w H s.heap dx (.xd fs) := I.hok dx _ (hdd dx rfl)
          obtain ⟨o, _, _, ho, _⟩ := hns
          exact ⟨some o, hget, rfl, rfl, ho⟩
      obtain ⟨od, J⟩ := J
      exact PySem.W.kia_one (PySem.W.r_kit T) I.kIn J e (fun z => nomatch z) fun tk => ⟨.bl b, H, I.kept (t' := tk) fun _ _ z => z, rfl, q⟩
/-- isinstance(e, C), e the error that the suite holds: what is asked -/
def rIsXd (K : PySem.W.Frag) (D a : Addr) (d : Option Addr) : List V → Hp → VK → Prop := fun xs H Q => ∃ fs, (∀ dd, d = some dd → H dd = some (.xd fs)) ∧ rIsE K D a xs H Q
/-- what such a class is, its __init__ at fI, its field f -/
structure XIn (K : PySem.W.Frag) (C fI : Addr) (f : Str) : Prop where
  oex : OexC K C
  iC : PySem.W.findIn K (.ref C) "__init__" = some (some (.ref fI))
  tI : PySem.W.typeIn K (.ref fI) = some (.type "function")
  noF : PySem.W.findIn K (.ref C) f = some none
  xf : XfC K C
def xinB (x f : Str) : FB := fun K => oexB (He.ga K x) K && (decide (PySem.W.findIn K (.ref (He.ga K x)) "__init__" = some (some (.ref (He.ma K (He.ga K x) "__init__")))) && (decide (PySem.W.typeIn K (.ref (He.ma K (He.ga K x) "__init__")) = some (.type "function")) &&
  (decide (PySem.W.findIn K (.ref (He.ga K x)) f = some none) && xfB K (He.ga K x))))
theorem xin_of {K : PySem.W.Frag} {x f : Str} (h : xinB x f K = true) : XIn K (He.ga K x) (He.ma K (He.ga K x) "__init__") f := by
  unfold xinB at h
  simp only [Bool.and_eq_true, decide_eq_true_eq] at h
  obtain ⟨h1, h2, h3, h4, h5⟩ := h
  exact ⟨oex_of h1, h2, h3, h4, xfB_ok h5⟩
/-- __init__(self, v) of a class at C: the field is kept -/
def sp_init (K : PySem.W.Frag) (C : Addr) (f : Str) : Sp := fun vs H Q _ => ∃ (a : Addr) (v : V), vs = [.ref a, v] ∧ OexC K C ∧ PySem.W.findIn K (.ref C) f = some none ∧ H a = some (exo a C none) ∧
  ∀ dx, H dx = none → dx ≠ a → Q .non (upd (upd H dx (exd dx [(f, v)])) a (exo a C (some dx)))
theorem rd_init {K : PySem.W.Frag} {C : Addr} {f m : Str} {vs : List V} {H : Hp} {Q : VK} {E : XK} (h : sp_init K C f vs H Q E) :
    tSeq (tDrop (tVeI K (tCons (tVar 0) (tCons (tC (.str m)) tNil)))) (tOst K f (tVar 0) (tVar 1)) { nx := fun _ H' => Q .non H', rt := Q } (L2.start ["self", f] vs) H := by
  obtain ⟨a, v, rfl, T, hn, ha, k⟩ := h
  exact ⟨_, rfl, a, C, [.str m], rfl, by simp, T, ha, _, rfl, _, rfl, a, C, rfl, T, hn, .inl ⟨ha, fun dx h1 h2 => k dx h1 h2⟩⟩
section
variable {ta : TA} {σ : L2.St} {H : Hp} {QX : XK}
def RzP (C : Addr) (sp : Sp) (QX : XK) (vs : List V) (H1 : Hp) : Prop := vs.length ≤ 1000 ∧ ∀ a, H1 a = none → sp (.ref a :: (vs ++ [])) (upd H1 a (exo a C none))
  (fun v H2 => v = .non ∧ ∃ (d : Addr) (fs : List (Str × V)), H2 a = some (exo a C (some d)) ∧ H2 d = some (exd d fs) ∧ H1 d = none ∧ QX (.ref C) (some d) (upd (del H2 a) d (.xd fs))) (fun _ _ _ => False)
theorem s_mko {C : Addr} {sp : Sp} (h : ta σ H fun vs H1 => RzP C sp QX vs H1) : tMkO C sp [] ta σ H QX := h
theorem s_raise {K : PySem.W.Frag} {C : Addr} {f : Str} {v : V} (T : OexC K C) (hn : PySem.W.findIn K (.ref C) f = some none) (k : ∀ d H', H d = none → H' d = some (.xd [(f, v)]) → Same H H' → QX (.ref C) (some d) H') : RzP C (sp_init K C f) QX [v] H := by
  refine ⟨by simp, fun a ha => ⟨a, v, rfl, T, hn, upd_same, fun dx hdx hne => ⟨rfl, dx, [(f, v)], upd_same, ?_, ?_, ?_⟩⟩⟩
  · rw [upd_ne hne, upd_same]
  · rw [upd_ne hne] at hdx; exact hdx
  · rw [upd_ne hne] at hdx
    refine k dx _ hdx upd_same fun b o e => ?_
    have n1 : b ≠ dx := ne_of_none e hdx
    have n2 : b ≠ a := ne_of_none e ha
    rw [upd_ne n1, del_ne n2, upd_ne n2, upd_ne n1, upd_ne n2]
    exact e
end
/-! own exceptions without fields; isinstance of a caught error of any own class -/
section
variable {X : Cx} {C : Addr} {bmB : List Value} {B newId initId : String}
/-- X() -/
theorem pmk_own0 {x : Str} {p pos : Pos} (F : ExcBaseFacts B newId initId bmB) (q : PySem.W.excIn X.K C bmB newId = true) (gC : X.mg x = some (.ref C)) (kC : PySem.W.keepIn X.K (.ref C) = true) (r : Raises X (.ref C)) (hg : Gl X x)
    (hdb : (x == ("__debug__" : Str)) = false := by decide) : PMk X (.Call (.Name x p) [] [] pos) (fun _ H Q => Q (.ref C) none H) := by
  intro pins s σ H Q I h
  refine wpAny_Call_Name_kw (ld_glob I hg gC ?_ hdb)
  refine PySem.W.callWith_K0 I.kIn kC ?_
  obtain ⟨bm, N, nm, qn, bs, hdct, sn, sub, ab, col, dd, k0, k1, k2, k3, k5, mN, hC, hN, hni, T⟩ := exc_obj I.kIn q
  refine wpAny_call_exc_subT F T hC hN hni (fun h' e hm => ?_) (Nat.zero_le _)
  exact mk_of I hm r h (I.hok.gone hm.new)
end
def tRz (C : Addr) : L2.St → Hp → XK → Prop := fun _ H Q => Q (.ref C) none H
theorem s_rz {C : Addr} {σ : L2.St} {H : Hp} {Q : XK} (h : Q (.ref C) none H) : tRz C σ H Q := h
/-- a class without fields, raised -/
structure Exc0 (K : PySem.W.Frag) (C : Addr) : Prop where
  ex : PySem.W.excIn K C He.veBase "ValueError.__new__" = true
  kp : PySem.W.keepIn K (.ref C) = true
  sb : PySem.W.subIn K (.ref C) (.type "BaseException") = some true
  ty : PySem.W.typeIn K (.ref C) = some (.type "type")
theorem exc0_of {K : PySem.W.Frag} {x : Str} (c : (He.Fa.exc x).ok K = true) : Exc0 K (He.ga K x) := by
  obtain ⟨h1, h2, h3, h4⟩ := He.exc_ok c
  exact ⟨h1, h2, h3, h4⟩
theorem pmk_z {X : Cx} {C : Addr} {x : Str} {p pos : Pos} (F : Exc0 X.K C) (gC : X.mg x = some (.ref C)) (hg : Gl X x) (hdb : (x == ("__debug__" : Str)) = false := by decide) : PMk X (.Call (.Name x p) [] [] pos) (tRz C) :=
  pmk_own0 PySem.F.excBase_ValueError F.ex gC F.kp (raises_own F.sb F.ty) hg hdb
theorem pmk_zs {X : Cx} {C : Addr} {x m : Str} {j : Nat} {p p2 pos : Pos} (F : Exc0 X.K C) (gC : X.mg x = some (.ref C)) (hg : Gl X x) (hdb : (x == ("__debug__" : Str)) = false := by decide) : PMk X (.Call (.Name x p) [.Constant (.str m) j p2] [] pos) (tRz C) :=
  L2.pmk_own PySem.F.excBase_ValueError F.ex gC F.kp (raises_own F.sb F.ty) hg hdb
def kitcB (x y : Str) (b : Bool) : FB := fun K => decide (PySem.W.kitOne K (.ref (He.ga K x)) (.ref (He.ga K y)) = some b)
def kittB (x : Str) (y : String) (b : Bool) : FB := fun K => decide (PySem.W.kitOne K (.ref (He.ga K x)) (.type y) = some b)
theorem kitc_of {K : PySem.W.Frag} {x y : Str} {b : Bool} (h : kitcB x y b K = true) : PySem.W.kitOne K (.ref (He.ga K x)) (.ref (He.ga K y)) = some b := of_decide_eq_true h
theorem kitt_of {K : PySem.W.Frag} {x : Str} {y : String} {b : Bool} (h : kittB x y b K = true) : PySem.W.kitOne K (.ref (He.ga K x)) (.type y) = some b := of_decide_eq_true h
/-- isinstance(e, c) in an except suite, the class of e told in the reading -/
def rIsA (K : PySem.W.Frag) (cls : Value) (d : Option Addr) (a : Addr) : List V → Hp → VK → Prop := fun xs H Q => ∃ D, cls = .ref D ∧ IsX K D ∧ ∃ fs, (∀ dd, d = some dd → H dd = some (.xd fs)) ∧
  ∃ (c : V) (cv : Value) (b : Bool), xs = [.ref a, c] ∧ ClsV c cv ∧ PySem.W.kitOne K (.ref D) cv = some b ∧ Q (.bl b) H
def rIsAT (K : PySem.W.Frag) (cls : Value) (d : Option Addr) (a : Addr) : List V → Hp → VK → Prop := fun xs H Q => ∃ D, cls = .ref D ∧ IsX K D ∧ ∃ fs, (∀ dd, d = some dd → H dd = some (.xd fs)) ∧
  ∃ (tp : Addr) (cs : List V) (us : List Value) (b : Bool), xs = [.ref a, .ref tp] ∧ H tp = some (.tup cs) ∧ Paired ClsV cs us ∧ PySem.W.kitAny K (.ref D) us = some b ∧ Q (.bl b) H
section
variable {X : Cx} {a : Addr} {cls : Value} {oe : Obj} {d : Option Addr} {pn : List (Addr × Obj)}
theorem inst_of {D : Addr} {pins : List (Addr × Obj)} {σ : L2.St} {H : Hp} {s : Shared} {fs : List (Str × V)} (I : Inv (X.suite a ((a, oe) :: pn)) pins σ H s) (hz : Zc (.ref D) d oe) (hf : ∃ vs, oe.data = .fields vs) (hdd : ∀ dd, d = some dd → H dd = some (.xd fs)) : ∃ od, PySem.W.InstAt s.heap a oe D od := by
  obtain ⟨hget, _⟩ := I.pin (a, oe) (List.mem_append.mpr (.inl List.mem_cons_self))
  obtain ⟨vs, hv⟩ := hf
  obtain ⟨oc, dd, oda, osl⟩ := oe
  obtain ⟨h1, h2⟩ := hz
  dsimp only at h1 h2 hv
  subst h1 h2 hv
  cases dd with
  | none => exact ⟨none, hget, rfl, rfl, trivial⟩
  | some dx =>
    obtain ⟨mA, hns, _⟩ : ObjOk X.prog X.w H s.heap dx (.xd fs) := I.hok dx _ (hdd dx rfl)
    obtain ⟨o, _, _, ho, _⟩ := hns
    exact ⟨some o, hget, rfl, rfl, ho⟩
theorem callIsA (hz : Zc cls d oe) (hf : ∃ vs, oe.data = .fields vs) : CallR (X.suite a ((a, oe) :: pn)) (.builtin "isinstance") (rIsA X.K cls d a) := by
  intro pins s σ H xs us Q I r h
  obtain ⟨D, rfl, T, fs, hdd, c, cv, b, rfl, hcv, e, q⟩ := h
  obtain ⟨u1, u2, rfl, r1, r2⟩ := vals2 r
  cases (show u1 = Value.ref a from r1)
  have ec := hcv.eq r2
  subst ec
  obtain ⟨od, J⟩ := inst_of I hz hf hdd
  exact PySem.W.kia_one (PySem.W.r_kit T) I.kIn J e (fun z => nomatch z) fun tk => ⟨.bl b, H, I.kept (t' := tk) fun _ _ z => z, rfl, q⟩
theorem callIsAT (hz : Zc cls d oe) (hf : ∃ vs, oe.data = .fields vs) : CallR (X.suite a ((a, oe) :: pn)) (.builtin "isinstance") (rIsAT X.K cls d a) := by
  intro pins s σ H xs us Q I r h
  obtain ⟨D, rfl, T, fs, hdd, tp, cs, ws, b, rfl, hT, k, e, q⟩ := h
  obtain ⟨u1, u2, rfl, r1, r2⟩ := vals2 r
  cases (show u1 = Value.ref a from r1)
  cases (show u2 = Value.ref tp from r2)
  obtain ⟨od, J⟩ := inst_of I hz hf hdd
  obtain ⟨_, its, rv, o, h1, h2, n, h3⟩ := (show ObjOk X.prog X.w H s.heap tp (.tup cs) from I.hok tp _ hT)
  have e3 := ClsV.all k rv
  subst e3
  obtain ⟨oc, od', dt, sl⟩ := o
  simp only at h2 h3
  subst h2 h3
  exact PySem.W.kia_tup (PySem.W.r_kit T) I.kIn J h1 e (fun z => nomatch z) fun tk => ⟨.bl b, H, I.kept (t' := tk) fun _ _ z => z, rfl, q⟩
end
section
variable {K : PySem.W.Frag} {a D : Addr} {d : Option Addr} {H : Hp} {Q : VK} {fs : List (Str × V)} {b b1 b2 : Bool}
theorem s_isA {c : V} {cv : Value} (T : IsX K D) (hd : ∀ dd, d = some dd → H dd = some (.xd fs)) (hc : ClsV c cv) (e : PySem.W.kitOne K (.ref D) cv = some b) (h : Q (.bl b) H) : rIsA K (.ref D) d a [.ref a, c] H Q := ⟨D, rfl, T, fs, hd, c, cv, b, rfl, hc, e, h⟩
theorem s_isA0 {c : V} {cv : Value} (T : IsX K D) (hc : ClsV c cv) (e : PySem.W.kitOne K (.ref D) cv = some b) (h : Q (.bl b) H) : rIsA K (.ref D) none a [.ref a, c] H Q := s_isA (fs := []) T (fun _ z => nomatch z) hc e h
theorem s_isAT2 {tp : Addr} {c1 c2 : V} {v1 v2 : Value} (T : IsX K D) (hd : ∀ dd, d = some dd → H dd = some (.xd fs)) (ht : H tp = some (.tup [c1, c2])) (h1 : ClsV c1 v1) (h2 : ClsV c2 v2) (e1 : PySem.W.kitOne K (.ref D) v1 = some b1) (e2 : PySem.W.kitOne K (.ref D) v2 = some b2)
    (h : Q (.bl (b1 || b2)) H) : rIsAT K (.ref D) d a [.ref a, .ref tp] H Q :=
  ⟨D, rfl, T, fs, hd, tp, _, [v1, v2], b1 || b2, rfl, ht, .cons h1 (.cons h2 .nil), kitAny_cons e1 (fun q => kitAny_cons e2 (fun q2 => by rw [q, q2]; exact kitAny_nil) (fun q2 => by rw [q2]; simp)) (fun q => by rw [q]; rfl), h⟩
theorem s_isAT20 {tp : Addr} {c1 c2 : V} {v1 v2 : Value} (T : IsX K D) (ht : H tp = some (.tup [c1, c2])) (h1 : ClsV c1 v1) (h2 : ClsV c2 v2) (e1 : PySem.W.kitOne K (.ref D) v1 = some b1) (e2 : PySem.W.kitOne K (.ref D) v2 = some b2)
    (h : Q (.bl (b1 || b2)) H) : rIsAT K (.ref D) none a [.ref a, .ref tp] H Q := s_isAT2 (fs := []) T (fun _ z => nomatch z) ht h1 h2 e1 e2 h
end
/-! zip of two tuples, walked -/
theorem walk_zipT {K : PySem.W.Frag} {a b : Addr} {xs ys : List V} {n : Nat} (hn : n = min xs.length ys.length) : Walk (RZ.ItzT K a b) n (fun H => SqT K H a xs ∧ SqT K H b ys) (YPair (fun i => xs[i]?) (fun i => ys[i]?)) := by
  subst hn
  refine ⟨fun i _ hi q => ?_, fun _ q => ⟨xs, ys, q.1, q.2, by omega⟩, fun i H v H' _ q y => ?_⟩
  · have h1 : i < xs.length := by omega
    have h2 : i < ys.length := by omega
    exact ⟨xs, ys, xs[i], ys[i], q.1, q.2, by simp [h1], by simp [h2]⟩
  · obtain ⟨T, x, z, h1, h2, h3, h4, h5⟩ := y
    exact ⟨T, x, z, h1, h2, h3, h4 xs q.1, h5 ys q.2⟩
def ZipQ (K : PySem.W.Frag) (R : It → Hp → Prop) (vs : List V) (H1 : Hp) : Prop := ∃ a b xs ys, vs = [.ref a, .ref b] ∧ ((SqL K H1 a xs ∧ SqL K H1 b ys ∧ R (Itz K a b) H1) ∨ (SqT K H1 a xs ∧ SqT K H1 b ys ∧ R (RZ.ItzT K a b) H1))
theorem s_izip {K : PySem.W.Frag} {ta : TA} {σ : L2.St} {H : Hp} {R : It → Hp → Prop} (h : ta σ H fun vs H1 => ZipQ K R vs H1) : RZ.iZipA K ta σ H R := h
theorem s_gunl {K : PySem.W.Frag} {n : Nat} {t : TGs} {p : Addr} {xs : List V} {σ : L2.St} {H : Hp} {QS : L2.St → Hp → Prop} (h1 : SqL K H p xs) (h2 : xs.length = n) (h : t xs σ H QS) : L2.gUnl K n t (.ref p) σ H QS := ⟨p, xs, rfl, h1, h2, h⟩
/-! dicts with tuple keys: pop of a key that is there; fields; makings -/
def rPop1T : V → List V → Hp → VK → Prop := fun x xs H Q => ∃ (a : Addr) (kvs : List (List L2.Key × V)) (k : List L2.Key) (b : Addr) (v : V), x = .ref a ∧ xs = [.ref b] ∧ H a = some (.dT kvs) ∧ H b = some (.tup (k.map kV)) ∧ valV kvs k = some v ∧ Q v (upd H a (.dT (dropK kvs k)))
theorem mt_pop1T {X : Cx} (hu : X.A.units + 1 < cLine) : MtR X "dict.pop" rPop1T := by
  intro pins s σ H x xs v us Q I rx rxs h
  obtain ⟨a, kvs, k, b, v0, rfl, rfl, ha, hb, ev, q⟩ := h
  cases rx
  obtain ⟨u1, rfl, r1⟩ := vals1 rxs
  cases r1
  obtain ⟨z, hd, xs', rel, dd⟩ := dt_of I.hok ha
  have hz : xs'.length ≤ sizeLine := by rw [← Paired.length rel]; exact z
  have r := rel.val k
  rw [ev] at r
  obtain ⟨p, hp, rv⟩ : ∃ p, atKey xs' k = some p ∧ RelV v0 p.2 := by
    cases e : atKey xs' k with
    | none => rw [e] at r; exact r.elim
    | some p => rw [e] at r; exact ⟨p, rfl, r⟩
  refine call_pop_heap (knd := tupleKind (mixKind X.prog X.w)) (k := k) (more := []) (.inl rfl) (PySem.F.args_dict_pop_2 _ _) (tupleKind_room_in1 hu) (key_of I.hok hb) hd dd hp (fun h' dd' hs => ?_) hz
  obtain ⟨o, es, ep, hq, h2, h3, h4, _, h5⟩ := dd'
  have rel' : KT (upd H a (.dT (dropK kvs k))) (dropK kvs k) (withoutH xs' k) := (L2.DX.KT_drop k rel).keeps fun c ys ec => by rw [upd_ne (ne_of ec ha fun z => nomatch z)]; exact ec
  have I2 := d_write (t' := s.toks + (tupleKind (mixKind X.prog X.w)).draws k) (ob := .dT (dropK kvs k)) I (by rw [ha]; exact True.intro) hs ⟨o, hq⟩ (show ObjOk X.prog X.w (upd H a (.dT (dropK kvs k))) h' a (.dT (dropK kvs k)) from ⟨Nat.le_trans (dropK_le kvs k) z, hd, _, rel', o, es, ep, hq, h2, h3, h4, h5⟩)
  exact ⟨v0, _, I2, rv, q⟩
section
variable {K : PySem.W.Frag} {te tv : TE} {ta : TA} {f m : Str} {σ : L2.St} {H : Hp} {Q : VK} {D : Ends} {a C dx : Addr} {fs : List (Str × V)} {v y : V} {sp : Sp} {E : XK}
def FldQ (K : PySem.W.Frag) (f : Str) (Q : VK) (x : V) (H1 : Hp) : Prop := ∃ a C dx fs v, x = .ref a ∧ H1 a = some (.ins C dx fs) ∧ Cls K C ∧ NoAttr K C f ∧ fs.lookup f = some v ∧ Q v H1
theorem s_fld (h : te σ H fun x H1 => FldQ K f Q x H1) : tFld K te f σ H Q := h
theorem mkFld (ha : H a = some (.ins C dx fs)) (c : Cls K C) (n : NoAttr K C f) (l : fs.lookup f = some v) (h : Q v H) : FldQ K f Q (.ref a) H := ⟨a, C, dx, fs, v, rfl, ha, c, n, l, h⟩
def SFldQ (K : PySem.W.Frag) (f : Str) (P : Hp → Prop) (y x : V) (H2 : Hp) : Prop := ∃ a C dx fs, x = .ref a ∧ H2 a = some (.ins C dx fs) ∧ Cls K C ∧ NoAttr K C f ∧ fs.length < 1000 ∧ P (upd H2 a (.ins C dx (putF f y fs)))
theorem s_sfld (h : tv σ H fun y H1 => te σ H1 fun x H2 => SFldQ K f (D.nx σ) y x H2) : sFld K te tv f D σ H := h
theorem mkSFld {P : Hp → Prop} (ha : H a = some (.ins C dx fs)) (c : Cls K C) (n : NoAttr K C f) (l : fs.length < 1000) (h : P (upd H a (.ins C dx (putF f y fs)))) : SFldQ K f P y (.ref a) H := ⟨a, C, dx, fs, rfl, ha, c, n, l, h⟩
def MethQ (C : Addr) (m : Str) (sp : Sp) (E : XK) (ta : TA) (σ : L2.St) (Q : VK) (x : V) (H1 : Hp) : Prop := ∃ a dx fs, x = .ref a ∧ H1 a = some (.ins C dx fs) ∧ fs.lookup m = none ∧ ta σ H1 fun vs H2 => sp (x :: (vs ++ [])) H2 Q E
theorem s_meth (h : te σ H fun x H1 => MethQ C m sp E ta σ Q x H1) : tMeth C m sp [] E te ta σ H Q := h
theorem mkMeth (ha : H a = some (.ins C dx fs)) (l : fs.lookup m = none) (h : ta σ H fun vs H2 => sp (.ref a :: (vs ++ [])) H2 Q E) : MethQ C m sp E ta σ Q (.ref a) H := ⟨a, dx, fs, rfl, ha, l, h⟩
def MakeQ (C : Addr) (sp : Sp) (E : XK) (Q : VK) (vs : List V) (H1 : Hp) : Prop := ∀ x dx, H1 x = none → H1 dx = none → dx ≠ x → sp (.ref x :: (vs ++ [])) (upd (upd H1 dx (.own x)) x (.ins C dx [])) (fun v H2 => v = .non ∧ Q (.ref x) H2) E
theorem s_make (h : ta σ H fun vs H1 => MakeQ C sp E Q vs H1) : tMake C sp [] E ta σ H Q := h
theorem s_dnewT (h : ∀ p H', H p = none → H' p = some (.dT []) → Same H H' → Q (.ref p) H') : tDNewT σ H Q := fun p hp => h p _ hp upd_same (same_upd hp)
theorem s_lenD {kvs : List (L2.Key × V)} (hd : H a = some (.dK kvs)) (h : Q (.int kvs.length) H) : ∃ a' kvs', [V.ref a] = [V.ref a'] ∧ H a' = some (.dK kvs') ∧ Q (.int kvs'.length) H := ⟨a, kvs, rfl, hd, h⟩
def DInQ (Q : VK) (y x : V) (H2 : Hp) : Prop := ∃ a o, x = .ref a ∧ DGet H2 a y o ∧ Q (.bl o.isSome) H2
theorem s_din {ty td : TE} (h : ty σ H fun y H1 => td σ H1 fun x H2 => DInQ Q y x H2) : tDIn ty td σ H Q := h
def DNotInQ (Q : VK) (y x : V) (H2 : Hp) : Prop := ∃ a o, x = .ref a ∧ DGet H2 a y o ∧ Q (.bl (!o.isSome)) H2
theorem s_dnotin {ty td : TE} (h : ty σ H fun y H1 => td σ H1 fun x H2 => DNotInQ Q y x H2) : tDNotIn ty td σ H Q := h
end
end R
/-! the walk of a reading, as far as nothing is asked -/
local macro_rules | `(tactic| walk_at "g1") => `(tactic| first
  | with_reducible refine R.s_seq ?_
  | with_reducible refine R.s_asg ?_
  | ((with_reducible apply R.s_var); focus rfl)
  | with_reducible refine R.s_gname ?_
  | with_reducible refine R.s_op ?_
  | with_reducible refine R.s_c ?_
  | with_reducible refine R.s_cons ?_
  | with_reducible refine R.s_nil ?_
  | with_reducible refine R.s_i0 ?_
  | with_reducible refine R.s_p10_60 ?_
  | with_reducible refine R.s_p10_18 ?_
  | with_reducible refine R.s_p10_8 ?_
  | with_reducible refine R.s_p10_9 ?_
  | with_reducible refine R.s_p10_59 ?_
  | with_reducible refine R.s_p10_6 ?_
  | with_reducible refine R.s_p10_5 ?_
  | with_reducible refine R.s_p10_4 ?_
  | with_reducible refine R.s_p10_12 ?_
  | with_reducible refine R.s_p10_29 ?_
  | with_reducible refine R.s_p10_30 ?_
  | with_reducible refine R.s_p10_39 ?_
  | with_reducible refine R.s_p10_40 ?_
  | with_reducible refine R.s_p10_49 ?_
  | with_reducible refine R.s_p10_50 ?_
  | with_reducible refine R.s_p10_51 ?_
  | with_reducible refine R.s_p10_58 ?_
  | ((with_reducible refine R.s_pow7 ?_ ?_); focus omega)
  | ((with_reducible refine R.s_i ?_ ?_); focus (first | decide | exact R.mulW (by omega) (by omega) | exact R.divW (by decide) (by decide)))
  | with_reducible refine R.s_test ?_
  | with_reducible refine R.s_bl ?_
  | with_reducible refine R.s_ret ?_
  | with_reducible refine R.s_next ?_
  | with_reducible refine R.s_drop ?_
  | with_reducible refine R.s_un ?_
  | with_reducible refine R.s_u ?_
  | with_reducible refine R.s_tB ?_
  | with_reducible refine R.s_andc ?_
  | with_reducible refine R.s_orc ?_
  | with_reducible refine R.s_notc ?_
  | with_reducible refine R.s_andv ?_
  | with_reducible refine R.s_orv ?_
  | with_reducible refine R.s_notv ?_
  | with_reducible refine R.s_ifx ?_
  | with_reducible refine R.s_eqI ?_
  | with_reducible refine R.s_neI ?_
  | with_reducible refine R.s_eqB ?_
  | with_reducible refine R.s_eqS ?_
  | with_reducible refine R.s_neS ?_
  | with_reducible refine R.s_neB ?_
  | with_reducible refine R.s_tup ?_
  | with_reducible refine R.s_lst ?_
  | with_reducible refine R.s_par ?_
  | with_reducible refine R.s_par_ ?_
  | with_reducible refine R.s_par3 ?_
  | with_reducible refine R.s_par3_ ?_
  | with_reducible refine R.s_cb ?_
  | with_reducible refine R.s_call ?_
  | with_reducible refine R.s_turn ?_
  | with_reducible refine R.s_isi_ii ?_
  | with_reducible refine R.s_isi_ib ?_
  | with_reducible refine R.s_bm ?_
  | with_reducible refine R.s_intB ?_
  | with_reducible refine R.s_rng1 ?_
  | with_reducible refine R.s_rng2 ?_
  | with_reducible refine R.s_dget ?_
  | with_reducible refine R.s_gsub ?_
  | with_reducible refine R.s_pc ?_
  | with_reducible refine R.s_pn ?_
  | with_reducible refine R.s_dput ?_
  | with_reducible refine R.s_isN ?_
  | with_reducible refine R.s_isNi ?_
  | with_reducible refine R.s_isNr ?_
  | with_reducible refine R.s_isNb ?_
  | with_reducible refine R.s_bm0 ?_
  | with_reducible refine R.s_lrg2 ?_
  | with_reducible refine R.s_notN ?_
  | with_reducible refine R.s_notNi ?_
  | with_reducible refine R.s_notNr ?_
  | with_reducible refine R.s_chain ?_
  | with_reducible refine R.s_callS ?_
  | with_reducible refine R.s_mko ?_
  | with_reducible refine R.s_rz ?_
  | with_reducible refine R.s_izip ?_
  | with_reducible refine R.s_sl ?_
  | with_reducible refine R.s_nopart ?_
  | with_reducible refine R.s_part ?_
  | with_reducible refine R.s_int_ ?_
  | with_reducible refine R.s_ilist ?_
  | with_reducible refine R.s_itup ?_
  | with_reducible refine R.s_ref_ ?_
  | with_reducible refine R.s_for ?_
  | with_reducible refine R.s_yes ?_
  | with_reducible refine R.s_gcons ?_
  | with_reducible refine R.s_gnil ?_
  | with_reducible refine R.s_abs ?_
  | with_reducible refine R.s_max ?_
  | with_reducible refine R.s_min ?_
  | with_reducible refine R.s_iteT ?_
  | with_reducible refine R.s_iteF ?_
  | with_reducible refine R.s_iteNT ?_
  | with_reducible refine R.s_iteNF ?_
  | ((with_reducible refine R.s_itnP ?_ ?_); focus (with_reducible rfl))
  | ((with_reducible refine R.s_itP ?_ ?_); focus (with_reducible rfl)))
local macro_rules | `(tactic| walk_at "g") => `(tactic| repeat (first | walk_at "g1" | with_reducible refine R.s_if ?_))
local macro_rules | `(tactic| walk_at "c") => `(tactic| repeat (first
  | with_reducible refine R.s_bl ?_
  | with_reducible refine R.s_test ?_
  | with_reducible refine R.s_iteT ?_
  | with_reducible refine R.s_iteF ?_
  | with_reducible refine R.s_iteNT ?_
  | with_reducible refine R.s_iteNF ?_
  | with_reducible refine R.s_if ?_
  | with_reducible refine R.s_next ?_
  | with_reducible refine R.s_gname ?_
  | with_reducible refine R.s_seq ?_))
local macro_rules | `(tactic| walk_at "h") => `(tactic| repeat (walk_at "g1"))
local macro_rules | `(tactic| walk_at "g2") => `(tactic| first
  | with_reducible refine R.s_fld ?_
  | with_reducible refine R.s_sfld ?_
  | with_reducible refine R.s_meth ?_
  | with_reducible refine R.s_make ?_
  | with_reducible refine R.s_din ?_
  | with_reducible refine R.s_dnotin ?_)
local macro_rules | `(tactic| walk_at "G") => `(tactic| repeat (first | walk_at "g1" | walk_at "g2" | with_reducible refine R.s_if ?_))
local macro_rules | `(tactic| walk_at "J") => `(tactic| repeat (first | walk_at "g1" | walk_at "g2"))

/-! several except clauses, some with a name -/
namespace R
open PySem PySem.Spec PyProof.Rows L2
def asEnds (i : Nat) (D : Ends) : Ends := { nx := fun σ' H' => D.nx (σ'.set i none) H', rt := D.rt, bk := fun σ' H' => D.bk (σ'.set i none) H', ct := fun σ' H' => D.ct (σ'.set i none) H' }
def asTs (i : Nat) (ts : Addr → Value → Option Addr → TS) : Addr → Value → Option Addr → TS := fun a cls d D σ H => ts a cls d (asEnds i D) (σ.set i (some (.ref a))) H
inductive HdsN (X : Cx) : List ExceptHandler → List (Value × (Addr → Value → Option Addr → TS)) → Prop
  | nil : HdsN X [] []
  | bare {x : Str} {c : Value} {ts : Addr → Value → Option Addr → TS} {b₀ : Stmt} {suite : List Stmt} {np pos' : Pos} {hds : List ExceptHandler} {l : List (Value × (Addr → Value → Option Addr → TS))} (hc : Names X x c)
      (hsu : ∀ (a : Addr) (oe : Obj) (cls : Value) (d : Option Addr) (pn : List (Addr × Obj)), Zc cls d oe → (∃ vs, oe.data = .fields vs) → PSs (X.suite a ((a, oe) :: pn)) (b₀ :: suite) (ts a cls d)) (r : HdsN X hds l) :
      HdsN X (.ExceptHandler (some (.Name x np)) none (b₀ :: suite) pos' :: hds) ((c, ts) :: l)
  | named {x n : Str} {i : Nat} {c : Value} {ts : Addr → Value → Option Addr → TS} {b₀ : Stmt} {suite : List Stmt} {np pos' : Pos} {hds : List ExceptHandler} {l : List (Value × (Addr → Value → Option Addr → TS))} (hN : X.N.Nodup) (hi : X.N[i]? = some n) (hln : X.env.kindOf n = some .local) (hc : Names X x c)
      (hsu : ∀ (a : Addr) (oe : Obj) (cls : Value) (d : Option Addr) (pn : List (Addr × Obj)), Zc cls d oe → (∃ vs, oe.data = .fields vs) → PSs (X.suite a ((a, oe) :: pn)) (b₀ :: suite) (ts a cls d)) (r : HdsN X hds l) :
      HdsN X (.ExceptHandler (some (.Name x np)) (some n) (b₀ :: suite) pos' :: hds) ((c, asTs i ts) :: l)
section
variable {X : Cx} {body : List Stmt} {h₀ : ExceptHandler} {hds : List ExceptHandler} {l : List (Value × (Addr → Value → Option Addr → TS))} {pos : Pos} {tb : WX → TS} {Wout : WX}
theorem ps_try_mix (hs : X.stack = X.env :: X.outer) (hf : X.env.frame = some X.env.locals) (tk : Takes X Wout)
    (hb : ∀ (W : WX) (pn : List (Addr × Obj)) (xe : Value → Shared → Prop), Takes (X.tr pn xe) W → PassesOwn (model X.prog X.w) X.A X.env xe → PSs (X.tr pn xe) body (tb W))
    (hh : HdsN X (h₀ :: hds) l) : PS X (.Try body (h₀ :: hds) [] [] pos) (fun D σ H => tb (wMany X.K Wout D l) D σ H) := by
  refine ⟨fun pins s σ H D I h => ?_⟩
  have ok := I.ok
  have hfr : X.A.frames = some (X.env :: X.outer) := by rw [ok.frames, hs]
  refine wpAny_Try_except ?_
  refine wpAny_mono ((hb (wMany X.K Wout D l) (X.pn ++ pins) (fun e s₁ => wpAny (model X.prog X.w) X.A (noteFrame e X.env) (fun _ s₂ => wpAny (model X.prog X.w) X.A (setFlight e none) (fun _ s₃ =>
    wpAny (model X.prog X.w) X.A (handleBy e X.env (h₀ :: hds)) (SP X pins D) X.xe s₃) X.xe s₂) X.xe s₁) (fun u s' xx => ?_) PassesOwn.looking).run [] s σ H D (I.toTry _) h) (fun f s1 hsp => ?_) (fun e s1 he => he)
  · -- the catch
    obtain ⟨a, B, sI, pins', σ', H', cls, d, rfl, J', nb, up, sky, na, os, ag, w⟩ := xx
    have J : Inv X pins σ' H' sI := J'.ofTry ok
    have sky' : Sky B (X.env :: X.outer) a (Zc cls d) X.env.locals s'.heap := by rw [← hs]; exact sky
    show wpAny (model X.prog X.w) X.A (noteFrame (.ref a) X.env) _ _ _
    refine Sky.land Zc.steady hfr hf sky' fun h3 fl3 up3 => ?_
    have J3 : Inv X pins σ' H' { s' with heap := h3 } := J.landed nb fl3.1 (up.trans up3) os ag
    obtain ⟨oe3, vs3, he3, hz3, hd3⟩ := fl3.there
    have notFr : ∀ {h : Heap} {o : Obj} {vs : Array Value}, h.FunFrames B (X.env :: X.outer) → h.get? a = some o → o.data = .fields vs → a ∉ frs (X.env :: X.outer) := fun {h o vs} ff e dd hm => by
      obtain ⟨_, o', e', hnf⟩ := ff.mem hm
      rw [e] at e'; cases e'
      exact hnf _ dd
    have nfr := notFr fl3.2.2.1 he3 hd3
    have nL : a ≠ X.env.locals := fun z => nfr (List.mem_filterMap.mpr ⟨X.env, List.mem_cons_self, by rw [hf, z]⟩)
    have nF : a ∉ X.fs := fun hm => by
      obtain ⟨e, he, q⟩ := List.mem_filterMap.mp hm
      exact nfr (List.mem_filterMap.mpr ⟨e, List.mem_cons_of_mem _ he, q⟩)
    have S3 := J3.suite he3 hd3 na nL nF
    have go : ∀ {hds' : List ExceptHandler} {l' : List (Value × (Addr → Value → Option Addr → TS))}, HdsN X hds' l' → wMany X.K Wout D l' cls d σ' H' →
        wpAny (model X.prog X.w) X.A (handleBy (.ref a) X.env hds') (SP X pins D) X.xe { s' with heap := h3 } := by
      intro hds' l' hk
      induction hk with
      | nil =>
        intro w
        refine wpAny_handleBy_nil ?_
        obtain ⟨k1, k2, k3, oe, vs, T, oT, ts', he, hz, hd, h1, hr⟩ := id fl3
        unfold PySem.passOn
        refine wpAny_bind (wpAny_field he hd h1 ?_)
        rw [if_neg (show ¬ ((Value.ref T == Value.none) = true) from by simp)]
        have fin : wpAny (model X.prog X.w) X.A (setFlight (.ref a) X.env.frame) (fun _ s4 => wpAny (model X.prog X.w) X.A (throw (.ref a) : Sem Flow) (SP X pins D) X.xe s4) X.xe { s' with heap := h3 } := by
          rw [hf]
          refine HandSPX.setFlight_upZ fl3 fun h4 hh4 up4 => wpAny_throw (tk _ _ ?_)
          exact ⟨a, B, sI, pins, σ', H', cls, d, rfl, J, nb, (up.trans up3).trans up4, .inr (.inr (by rw [hs]; exact hh4)), na, os, ag, w⟩
        first
          | exact wpAny_bind (wpAny_pure (wpAny_bind fin))
          | exact wpAny_bind fin
      | @bare x c ts b₀ suite np pos' hds2 l2 hc hsu r ih =>
        intro w
        obtain ⟨b, hb1, hyes, hno⟩ := w
        refine wpAny_handleBy_cons (codeAny_handlers_test ?_) (by intro q; cases q)
        have LT : PySem.W.Looks (model X.prog X.w) h3 (typeOf (.ref a)) cls := fun A Q E s k q => wpAny_typeOf_ref (k _ _ he3) (by rw [hz3.1]; exact q)
        have LM := PySem.W.exm_one (M := model X.prog X.w) (J3.kIn) LT hb1
        have test : ∀ {Q : Value → Shared → Prop} {E : Value → Shared → Prop}, Q c { s' with heap := h3 } → wpAny (model X.prog X.w) (X.A.mark (some (.ref a))) (eval (.Name x np) X.env) Q E { s' with heap := h3 } := fun {Q E} q => by
          obtain ⟨hg, hdbg, hm | ⟨hm, hv, hnn⟩⟩ := hc
          · exact ld_glob (X := X.suite a ((a, oe3) :: (X.pn ++ pins))) S3 hg hm q hdbg
          · exact ld_blt (X := X.suite a ((a, oe3) :: (X.pn ++ pins))) S3 hg hm hv q hnn hdbg
        refine test (LM.here ?_)
        cases b with
        | true =>
          refine codeAny_handlers_suite ?_
          refine HandSPX.lands_againZ fl3 fun h4 fl4 up4 => ?_
          have J4 : Inv X pins σ' H' { s' with heap := h4 } := J.landed nb fl4.1 ((up.trans up3).trans up4) os ag
          obtain ⟨oe4, vs4, he4, hz4, hd4⟩ := fl4.there
          have S4 := J4.suite he4 hd4 na nL nF
          refine wpAny_mono ((hsu a oe4 cls d (X.pn ++ pins) hz4 ⟨_, hd4⟩).run [] _ _ H' _ S4 (hyes rfl a na)) (fun f s6 hsp => ?_) (fun _ _ z => False.elim z)
          cases f with
          | next =>
            obtain ⟨σ6, H6, S6, q6⟩ := hsp
            exact ⟨_, _, S6.unsuite ok, q6⟩
          | brk =>
            obtain ⟨σ6, H6, S6, q6⟩ := hsp
            exact ⟨_, _, S6.unsuite ok, q6⟩
          | cont =>
            obtain ⟨σ6, H6, S6, q6⟩ := hsp
            exact ⟨_, _, S6.unsuite ok, q6⟩
          | ret u =>
            obtain ⟨v6, σ6, H6, S6, r6, q6⟩ := hsp
            exact ⟨_, _, _, S6.unsuite ok, r6, q6⟩
        | false =>
          show wpAny _ X.A (handleBy (.ref a) X.env hds2) _ _ _
          exact ih (hno rfl)
      | @named x n i c ts b₀ suite np pos' hds2 l2 hN hi hln hc hsu r ih =>
        intro w
        obtain ⟨b, hb1, hyes, hno⟩ := w
        refine wpAny_handleBy_cons (codeAny_handlers_test ?_) (by intro q; cases q)
        have LT : PySem.W.Looks (model X.prog X.w) h3 (typeOf (.ref a)) cls := fun A Q E s k q => wpAny_typeOf_ref (k _ _ he3) (by rw [hz3.1]; exact q)
        have LM := PySem.W.exm_one (M := model X.prog X.w) (J3.kIn) LT hb1
        have test : ∀ {Q : Value → Shared → Prop} {E : Value → Shared → Prop}, Q c { s' with heap := h3 } → wpAny (model X.prog X.w) (X.A.mark (some (.ref a))) (eval (.Name x np) X.env) Q E { s' with heap := h3 } := fun {Q E} q => by
          obtain ⟨hg, hdbg, hm | ⟨hm, hv, hnn⟩⟩ := hc
          · exact ld_glob (X := X.suite a ((a, oe3) :: (X.pn ++ pins))) S3 hg hm q hdbg
          · exact ld_blt (X := X.suite a ((a, oe3) :: (X.pn ++ pins))) S3 hg hm hv q hnn hdbg
        refine test (LM.here ?_)
        cases b with
        | true =>
          refine codeAny_handlers_suite_as ?_
          refine HandSPX.lands_againZ fl3 fun h4 fl4 up4 => ?_
          have J4 : Inv X pins σ' H' { s' with heap := h4 } := J.landed nb fl4.1 ((up.trans up3).trans up4) os ag
          obtain ⟨oe4, vs4, he4, hz4, hd4⟩ := fl4.there
          have S4 := J4.suite he4 hd4 na nL nF
          have hloc : Loc X.env.scope n := .inl hln
          refine store_ok (X := X.suite a ((a, oe4) :: (X.pn ++ pins))) (v := .ref a) S4 hN hi hloc rfl (fun s5 S5 => ?_) (.inr hln)
          refine wpAny_mono ((hsu a oe4 cls d (X.pn ++ pins) hz4 ⟨_, hd4⟩).run [] s5 _ H' _ S5 (hyes rfl a na)) (fun f s6 hsp => ?_) (fun _ _ z => False.elim z)
          have end_ : ∀ {σ6 : L2.St} {H6 : Hp} {Q : Shared → Prop}, Inv (X.suite a ((a, oe4) :: (X.pn ++ pins))) [] σ6 H6 s6 → (∀ s7, Inv X pins (σ6.set i none) H6 s7 → Q s7) →
              wpAny (model X.prog X.w) X.A (do bindName X.env n .none; unbindBehindTheSuite X.env n pos') (fun _ s7 => Q s7) X.xe s6 := fun {σ6 H6 Q} S6 hq => gone_ok (S6.unsuite ok) hN hi hln hq
          cases f with
          | next =>
            obtain ⟨σ6, H6, S6, q6⟩ := hsp
            exact end_ S6 fun s7 J7 => ⟨_, _, J7, q6⟩
          | brk =>
            obtain ⟨σ6, H6, S6, q6⟩ := hsp
            exact end_ S6 fun s7 J7 => ⟨_, _, J7, q6⟩
          | cont =>
            obtain ⟨σ6, H6, S6, q6⟩ := hsp
            exact end_ S6 fun s7 J7 => ⟨_, _, J7, q6⟩
          | ret u =>
            obtain ⟨v6, σ6, H6, S6, r6, q6⟩ := hsp
            exact end_ S6 fun s7 J7 => ⟨_, _, _, J7, r6, q6⟩
        | false =>
          show wpAny _ X.A (handleBy (.ref a) X.env hds2) _ _ _
          exact ih (hno rfl)
    exact go hh w
  · cases f with
    | next =>
      obtain ⟨σ', H', J', q⟩ := hsp
      exact wpAny_execs_nil ⟨σ', H', J'.ofTry ok, q⟩
    | brk =>
      obtain ⟨σ', H', J', q⟩ := hsp
      exact ⟨σ', H', J'.ofTry ok, q⟩
    | cont =>
      obtain ⟨σ', H', J', q⟩ := hsp
      exact ⟨σ', H', J'.ofTry ok, q⟩
    | ret u =>
      obtain ⟨v, σ', H', J', r, q⟩ := hsp
      exact ⟨v, σ', H', J'.ofTry ok, r, q⟩
end
theorem s_asEnds {i : Nat} {D : Ends} {σ : L2.St} {H : Hp} (h : D.nx (σ.set i none) H) : (asEnds i D).nx σ H := h
end R

/-! exceptions made by hand, as values -/
namespace R
open PySem PySem.Spec PyProof.Rows L2
/-- an exception that was made, at a -/
def exq (a : Addr) (cls : Value) (d : Option Addr) : HO := .ext fun h => ∃ (oe : Obj) (vs : Array Value), h.get? a = some oe ∧ Zc cls d oe ∧ oe.data = .fields vs
theorem exq_at {P : Program} {w : World} {H : Hp} {h : Heap} {a : Addr} {cls : Value} {d : Option Addr} (hok : HOk P w H h) (he : H a = some (exq a cls d)) : ∃ (oe : Obj) (vs : Array Value), h.get? a = some oe ∧ Zc cls d oe ∧ oe.data = .fields vs := by
  have x : ObjOk P w H h a (.ext fun h => ∃ (oe : Obj) (vs : Array Value), h.get? a = some oe ∧ Zc cls d oe ∧ oe.data = .fields vs) := hok a _ he
  exact x.1
def tMkQ (t : L2.St → Hp → XK → Prop) : TE := fun σ H Q => t σ H fun cls d H' => ∀ a, H' a = none → Q (.ref a) (upd H' a (exq a cls d))
theorem pe_mk {X : Cx} {e : Expr} {t : L2.St → Hp → XK → Prop} (he : PMk X e t) : PE X e (tMkQ t) := by
  refine ⟨fun pins s σ H Q I h => ?_⟩
  refine thn (he pins s σ H _ I h) fun u s' ⟨a, oe, vs, sI, H', cls, d, eu, I1, kp, na, ha, hz, hd, _, nH, ho, hb, _, q⟩ => ?_
  subst eu
  have neA : ∀ {b : Addr} {o : Obj}, sI.heap.get? b = some o → b ≠ a := fun e z => by rw [z, na] at e; cases e
  have U : Un (frs X.stack) [] H' (upd H' a (exq a cls d)) sI.heap s'.heap := {
    keep := fun b o z n hf hx => kp b o z
    slot := fun b o z n hf hx => ⟨o.slots, kp b o z⟩
    free := fun b o z n hx => by rw [upd_ne (neA z)]; exact n
    there := fun b o z hx => ⟨o, kp b o z⟩
    tups := fun b xs z => by rw [upd_ne (ne_of_none z nH)]; exact z
    frzs := fun b o v z => by rw [upd_ne (ne_of_none z nH)]; exact z
    tbls := fun b ps z => ⟨#[], by rw [upd_ne (ne_of_none z nH), Array.append_empty]; exact z⟩ }
  have hok : HOk X.prog X.w (upd H' a (exq a cls d)) s'.heap := fun b o z => by
    by_cases hba : b = a
    · subst hba
      rw [upd_same] at z
      cases z
      exact ⟨⟨oe, vs, ha, hz, hd⟩, ⟨oe, ha⟩, fun h1 h2 ⟨oe', vs', g1, g2, g3⟩ k => ⟨oe', vs', k _ g1, g2, g3⟩⟩
    · rw [upd_ne hba] at z
      exact (I1.hok b o z).stay (fun c v hc y => kp c v y) (fun c hc => by rw [upd_ne (ne_of_none hc nH)]; exact hc) (fun c xs hc => by rw [upd_ne (ne_of_none hc nH)]; exact hc)
  exact ⟨.ref a, _, I1.call' (ch := []) ho U hok hb (fun b z => absurd z (by simp)), rfl, q a nH⟩
def tOat (K : PySem.W.Frag) (f : Str) (te : TE) : TE := fun σ H Q => te σ H fun x H1 => ∃ (a C dd : Addr) (fs : List (Str × V)) (v : V), x = .ref a ∧ H1 a = some (exq a (.ref C) (some dd)) ∧ H1 dd = some (.xd fs) ∧ XfC K C ∧ PySem.W.findIn K (.ref C) f = some none ∧ fs.lookup f = some v ∧ Q v H1
theorem pe_oat {X : Cx} {e : Expr} {te : TE} {pos : Pos} {n : Str} (he : PE X e te) (hb : attributeBase e n X.env (eval e X.env) = eval e X.env := by rfl) : PE X (.Attribute e n pos) (tOat X.K n te) := by
  refine ⟨fun pins s σ H Q I h => ?_⟩
  refine attr_of hb (thn (he.run pins s σ H _ I h) fun u s1 hh => ?_)
  obtain ⟨x, H1, I1, rx, a, C, dd, fs, v, ex, ha0, ea, T, hno, l, q⟩ := hh
  subst ex
  obtain rfl : u = Value.ref a := rx
  obtain ⟨oe, vs, ha, hz, hd⟩ := exq_at I1.hok ha0
  have hx : ObjOk X.prog X.w H1 s1.heap dd (.xd fs) := I1.hok dd _ ea
  obtain ⟨mA, hns, hr⟩ := hx
  obtain ⟨od, ho, hl⟩ := lookIn_ns hns
  obtain ⟨u, hu, ru⟩ := RelO.some_of (v := v) (o := mA n) (by rw [← l]; exact hr n)
  have J : PySem.W.InstAt s1.heap a oe C (some od) := ⟨ha, hz.1, by unfold PySem.W.notCls; rw [hd] <;> rfl, by rw [hz.2]; exact ho⟩
  exact HandSPX.exc_get I1.kIn J T.ga T.gg T.exC (PySem.W.findObj_own T.hdC hno rfl (by rw [hl, hu])) (handed_of ru) ⟨v, H1, I1.tok _, ru, q⟩
def rIsQ (K : PySem.W.Frag) : List V → Hp → VK → Prop := fun xs H Q => ∃ (a D : Addr) (d : Option Addr) (fs : List (Str × V)) (c : V) (cv : Value) (b : Bool), xs = [.ref a, c] ∧ H a = some (exq a (.ref D) d) ∧ IsX K D ∧ (∀ dd, d = some dd → H dd = some (.xd fs)) ∧ ClsV c cv ∧ PySem.W.kitOne K (.ref D) cv = some b ∧ Q (.bl b) H
theorem callIsQ {X : Cx} : CallR X (.builtin "isinstance") (rIsQ X.K) := by
  intro pins s σ H xs us Q I r h
  obtain ⟨a, D, d, fs, c, cv, b, rfl, ha, T, hdd, hcv, e, q⟩ := h
  obtain ⟨u1, u2, rfl, r1, r2⟩ := vals2 r
  cases (show u1 = Value.ref a from r1)
  have ec := hcv.eq r2
  subst ec
  obtain ⟨oe, vs, hget, hz, hv⟩ := exq_at I.hok ha
  have J : ∃ od, PySem.W.InstAt s.heap a oe D od := by
    obtain ⟨oc, dd, oda, osl⟩ := oe
    obtain ⟨h1, h2⟩ := hz
    dsimp only at h1 h2 hv
    subst h1 h2 hv
    cases dd with
    | none => exact ⟨none, hget, rfl, rfl, trivial⟩
    | some dx =>
      obtain ⟨mA, hns, _⟩ : ObjOk X.prog X.w H s.heap dx (.xd fs) := I.hok dx _ (hdd dx rfl)
      obtain ⟨o, _, _, ho, _⟩ := hns
      exact ⟨some o, hget, rfl, rfl, ho⟩
  obtain ⟨od, J⟩ := J
  exact PySem.W.kia_one (PySem.W.r_kit T) I.kIn J e (fun z => nomatch z) fun tk => ⟨.bl b, H, I.kept (t' := tk) fun _ _ z => z, rfl, q⟩
theorem s_mkq0 {C : Addr} {σ : L2.St} {H : Hp} {Q : VK} (h : ∀ (a : Addr) (H' : Hp), H a = none → H' a = some (exq a (.ref C) none) → Same H H' → Q (.ref a) H') : tMkQ (tRz C) σ H Q := fun a na => h a _ na upd_same (same_upd na)
theorem s_mkq {K : PySem.W.Frag} {C fI : Addr} {f : Str} {v : V} {σ : L2.St} {H : Hp} {Q : VK} (T : XIn K C fI f) (h : ∀ (a d : Addr) (H' : Hp), H' a = some (exq a (.ref C) (some d)) → H' d = some (.xd [(f, v)]) → Same H H' → Q (.ref a) H') :
    tMkQ (tMkO C (sp_init K C f) [] (tCons (tC v) tNil)) σ H Q := by
  show RzP C (sp_init K C f) (fun cls d H' => ∀ a, H' a = none → Q (.ref a) (upd H' a (exq a cls d))) [v] H
  refine s_raise T.oex T.noF fun d H' hd hx hs a na => ?_
  exact h a d _ upd_same (by rw [upd_ne (ne_of_none hx na)]; exact hx) (hs.trans (same_upd na))
theorem s_oat {K : PySem.W.Frag} {C fI : Addr} {f : Str} {v : V} {σ : L2.St} {H : Hp} {Q : VK} (T : XIn K C fI f) (h : ∀ H', Same H H' → Q v H') : tOat K f (tMkQ (tMkO C (sp_init K C f) [] (tCons (tC v) tNil))) σ H Q :=
  s_mkq T fun a d H' e1 e2 s => ⟨a, C, d, [(f, v)], v, rfl, e1, e2, T.xf, T.noF, by simp [List.lookup], h H' s⟩
end R

/-! own exceptions with two fields -/
namespace R
open PySem PySem.Spec PyProof.Rows L2
def sp_init2 (K : PySem.W.Frag) (C : Addr) (f g : Str) : Sp := fun vs H Q _ => ∃ (a : Addr) (v w : V), vs = [.ref a, v, w] ∧ OexC K C ∧ PySem.W.findIn K (.ref C) f = some none ∧ PySem.W.findIn K (.ref C) g = some none ∧ H a = some (exo a C none) ∧
  ∀ dx, H dx = none → dx ≠ a → Q .non (upd (upd (upd H dx (exd dx [(f, v)])) a (exo a C (some dx))) dx (exd dx [(g, w), (f, v)]))
theorem rd_init2 {K : PySem.W.Frag} {C : Addr} {f g m : Str} {vs : List V} {H : Hp} {Q : VK} {E : XK} (h : sp_init2 K C f g vs H Q E) :
    tSeq (tDrop (tVeI K (tCons (tVar 0) (tCons (tC (.str m)) tNil)))) (tSeq (tOst K f (tVar 0) (tVar 1)) (tOst K g (tVar 0) (tVar 2))) { nx := fun _ H' => Q .non H', rt := Q } (L2.start ["self", f, g] vs) H := by
  obtain ⟨a, v, w, rfl, T, hn, hm, ha, k⟩ := h
  exact ⟨_, rfl, a, C, [.str m], rfl, by simp, T, ha, _, rfl, _, rfl, a, C, rfl, T, hn, .inl ⟨ha, fun dx h1 h2 => ⟨_, rfl, _, rfl, a, C, rfl, T, hm, .inr ⟨dx, [(f, v)], upd_same, by rw [upd_ne h2, upd_same], by simp, k dx h1 h2⟩⟩⟩⟩
theorem s_raise2 {K : PySem.W.Frag} {H : Hp} {QX : XK} {C : Addr} {f g : Str} {v w : V} (T : OexC K C) (hn : PySem.W.findIn K (.ref C) f = some none) (hm : PySem.W.findIn K (.ref C) g = some none) (k : ∀ d H', H d = none → H' d = some (.xd [(g, w), (f, v)]) → Same H H' → QX (.ref C) (some d) H') : RzP C (sp_init2 K C f g) QX [v, w] H := by
  refine ⟨by simp, fun a ha => ⟨a, v, w, rfl, T, hn, hm, upd_same, fun dx hdx hne => ⟨rfl, dx, [(g, w), (f, v)], ?_, upd_same, ?_, ?_⟩⟩⟩
  · rw [upd_ne (Ne.symm hne), upd_same]
  · rw [upd_ne hne] at hdx; exact hdx
  · rw [upd_ne hne] at hdx
    refine k dx _ hdx upd_same fun b o e => ?_
    have n1 : b ≠ dx := ne_of_none e hdx
    have n2 : b ≠ a := ne_of_none e ha
    rw [upd_ne n1, del_ne n2, upd_ne n1, upd_ne n2, upd_ne n1, upd_ne n2]
    exact e
end R

namespace Tx
open PySem
/-! texts of things, as lists of signs -/
def isF (c : Nat) : Bool := decide (48 ≤ c) && decide (c ≤ 57)
def isA (c : Nat) : Bool := decide (97 ≤ c) && decide (c ≤ 122)
theorem isF_iff {c : Nat} : isF c = true ↔ 48 ≤ c ∧ c ≤ 57 := by simp [isF]
theorem isA_iff {c : Nat} : isA c = true ↔ 97 ≤ c ∧ c ≤ 122 := by simp [isA]
/-- the next sign is one of some -/
def sees (p : Nat → Bool) : List Nat → Bool
  | c :: _ => p c
  | [] => false
theorem sees_app {p : Nat → Bool} : ∀ {a r : List Nat}, a ≠ [] → sees p (a ++ r) = sees p a
  | _ :: _, _, _ => rfl
  | [], _, h => absurd rfl h
def is1 (c : Nat) : Nat → Bool := fun x => decide (x = c)
inductive Out where
  | ok (d : PyData) (r : List Nat)
  | no (r : List Nat)
inductive LOut where
  | ok (ds : List PyData) (r : List Nat)
  | no (r : List Nat)
/-- signs that are some, at most so many -/
def runM (p : Nat → Bool) (m : Nat) (cs : List Nat) : Option (List Nat × List Nat) := if (cs.takeWhile p).length ≤ m then some (cs.takeWhile p, cs.dropWhile p) else none
def numM (cs : List Nat) : Out :=
  if sees (is1 48) cs = true then (if sees isF cs.tail = true then .no cs.tail else .ok (.int 0) cs.tail)
  else if (cs.takeWhile isF).length ≤ 60 then .ok (.int (NumText.digitsVal (cs.takeWhile isF) : Nat)) (cs.dropWhile isF) else .no (cs.drop 60)
def negM (cs : List Nat) : Out :=
  if sees (is1 48) cs = true then .no cs
  else if sees isF cs = true then (match numM cs with
    | .ok (.int i) r => .ok (.int (0 - i)) r
    | o => o)
  else .ok .none cs
def wordM (cs : List Nat) : Out := if (cs.takeWhile isA).length ≤ 8 then .ok (.str ⟨(cs.takeWhile isA).toArray⟩) (cs.dropWhile isA) else .no (cs.drop 8)
mutual
/-- a thing is read so -/
inductive Th : Nat → List Nat → Out → Prop
  | num {n : Nat} {cs : List Nat} (h : sees isF cs = true) : Th n cs (numM cs)
  | neg {n : Nat} {cs : List Nat} : Th n (45 :: cs) (negM cs)
  | word {n : Nat} {cs : List Nat} (h : sees isA cs = true) : Th n cs (wordM cs)
  | deep {n : Nat} {cs : List Nat} (h : 80 ≤ n) : Th n (40 :: cs) (.no (40 :: cs))
  | nil {n : Nat} {cs : List Nat} (h : n < 80) : Th n (40 :: 41 :: cs) (.ok (.tuple []) cs)
  | row {n : Nat} {cs r : List Nat} {ds : List PyData} (h : n < 80) (hs : sees (is1 41) cs = false) (l : Ls (n + 1) cs (.ok ds r)) : Th n (40 :: cs) (.ok (.tuple ds) r)
  | rowNo {n : Nat} {cs r : List Nat} (h : n < 80) (hs : sees (is1 41) cs = false) (l : Ls (n + 1) cs (.no r)) : Th n (40 :: cs) (.no r)
  | other {n : Nat} {cs : List Nat} (h1 : sees isF cs = false) (h2 : sees (is1 45) cs = false) (h3 : sees isA cs = false) (h4 : sees (is1 40) cs = false) : Th n cs (.no cs)
/-- the things of a row, to behind its end -/
inductive Ls : Nat → List Nat → LOut → Prop
  | no {n : Nat} {cs r : List Nat} (h : Th n cs (.no r)) : Ls n cs (.no r)
  | last {n : Nat} {cs r : List Nat} {d : PyData} (h : Th n cs (.ok d (41 :: r))) : Ls n cs (.ok [d] r)
  | more {n : Nat} {cs r r' : List Nat} {d : PyData} {ds : List PyData} (h : Th n cs (.ok d (32 :: r))) (t : Ls n r (.ok ds r')) : Ls n cs (.ok (d :: ds) r')
  | moreNo {n : Nat} {cs r r' : List Nat} {d : PyData} (h : Th n cs (.ok d (32 :: r))) (t : Ls n r (.no r')) : Ls n cs (.no r')
  | bad {n : Nat} {cs r : List Nat} {d : PyData} (h : Th n cs (.ok d r)) (h1 : sees (is1 41) r = false) (h2 : sees (is1 32) r = false) : Ls n cs (.no r)
end
theorem sees_one {p : Nat → Bool} {c : Nat} {r : List Nat} : sees p (c :: r) = p c := rfl
theorem sees_cons {c : Nat} {cs : List Nat} (h : sees (is1 c) cs = true) : ∃ r, cs = c :: r := by
  cases cs with
  | nil => cases h
  | cons x r => exact ⟨r, by rw [of_decide_eq_true (show decide (x = c) = true from h)]⟩
mutual
theorem Th.det : ∀ {n : Nat} {cs : List Nat} {o o' : Out}, Th n cs o → Th n cs o' → o = o'
  | _, _, _, _, .num h, h' => by
    cases h' with
    | num _ => rfl
    | neg => exact absurd h (by simp [sees, isF, isA, is1])
    | word h2 => exact absurd h (by cases ‹List Nat› with
        | nil => cases h2
        | cons c r => intro z; have a := isF_iff.mp z; have b := isA_iff.mp h2; omega)
    | deep _ => exact absurd h (by simp [sees, isF, isA, is1])
    | nil _ => exact absurd h (by simp [sees, isF, isA, is1])
    | row _ _ _ => exact absurd h (by simp [sees, isF, isA, is1])
    | rowNo _ _ _ => exact absurd h (by simp [sees, isF, isA, is1])
    | other h1 _ _ _ => rw [h] at h1; cases h1
  | _, _, _, _, .neg, h' => by
    cases h' with
    | num h => exact absurd h (by simp [sees, isF, isA, is1])
    | neg => rfl
    | word h => exact absurd h (by simp [sees, isF, isA, is1])
    | other _ h _ _ => exact absurd h (by simp [sees, isF, isA, is1])
  | _, _, _, _, .word h, h' => by
    cases h' with
    | num h2 => exact absurd h (by cases ‹List Nat› with
        | nil => cases h2
        | cons c r => intro z; have a := isA_iff.mp z; have b := isF_iff.mp h2; omega)
    | neg => exact absurd h (by simp [sees, isF, isA, is1])
    | word _ => rfl
    | deep _ => exact absurd h (by simp [sees, isF, isA, is1])
    | nil _ => exact absurd h (by simp [sees, isF, isA, is1])
    | row _ _ _ => exact absurd h (by simp [sees, isF, isA, is1])
    | rowNo _ _ _ => exact absurd h (by simp [sees, isF, isA, is1])
    | other _ _ h1 _ => rw [h] at h1; cases h1
  | _, _, _, _, .deep h, h' => by
    cases h' with
    | num h => exact absurd h (by simp [sees, isF, isA, is1])
    | word h => exact absurd h (by simp [sees, isF, isA, is1])
    | deep _ => rfl
    | nil h2 => omega
    | row h2 _ _ => omega
    | rowNo h2 _ _ => omega
    | other _ _ _ h => exact absurd h (by simp [sees, isF, isA, is1])
  | _, _, _, _, .nil h, h' => by
    cases h' with
    | num h => exact absurd h (by simp [sees, isF, isA, is1])
    | word h => exact absurd h (by simp [sees, isF, isA, is1])
    | deep _ => omega
    | nil h2 => rfl
    | row _ h2 _ => exact absurd h2 (by simp [sees, isF, isA, is1])
    | rowNo _ h2 _ => exact absurd h2 (by simp [sees, isF, isA, is1])
    | other _ _ _ h => exact absurd h (by simp [sees, isF, isA, is1])
  | _, _, _, _, .row h hs l, h' => by
    cases h' with
    | num h => exact absurd h (by simp [sees, isF, isA, is1])
    | word h => exact absurd h (by simp [sees, isF, isA, is1])
    | deep _ => omega
    | nil h2 => exact absurd hs (by simp [sees, isF, isA, is1])
    | row _ h2 l2 => cases Ls.det l l2; rfl
    | rowNo _ h2 l2 => cases Ls.det l l2
    | other _ _ _ h => exact absurd h (by simp [sees, isF, isA, is1])
  | _, _, _, _, .rowNo h hs l, h' => by
    cases h' with
    | num h => exact absurd h (by simp [sees, isF, isA, is1])
    | word h => exact absurd h (by simp [sees, isF, isA, is1])
    | deep _ => omega
    | nil h2 => exact absurd hs (by simp [sees, isF, isA, is1])
    | row _ h2 l2 => cases Ls.det l l2
    | rowNo _ h2 l2 => cases Ls.det l l2; rfl
    | other _ _ _ h => exact absurd h (by simp [sees, isF, isA, is1])
  | _, _, _, _, .other h1 h2 h3 h4, h' => by
    cases h' with
    | num h => rw [h] at h1; cases h1
    | neg => exact absurd h2 (by simp [sees, isF, isA, is1])
    | word h => rw [h] at h3; cases h3
    | deep _ => rfl
    | nil _ => exact absurd h4 (by simp [sees, isF, isA, is1])
    | row _ _ _ => exact absurd h4 (by simp [sees, isF, isA, is1])
    | rowNo _ _ _ => exact absurd h4 (by simp [sees, isF, isA, is1])
    | other _ _ _ _ => rfl
theorem Ls.det : ∀ {n : Nat} {cs : List Nat} {o o' : LOut}, Ls n cs o → Ls n cs o' → o = o'
  | _, _, _, _, .no h, h' => by
    cases h' with
    | no h2 => cases Th.det h h2; rfl
    | last h2 => cases Th.det h h2
    | more h2 _ => cases Th.det h h2
    | moreNo h2 _ => cases Th.det h h2
    | bad h2 _ _ => cases Th.det h h2
  | _, _, _, _, .last h, h' => by
    cases h' with
    | no h2 => cases Th.det h h2
    | last h2 => cases Th.det h h2; rfl
    | more h2 _ => cases Th.det h h2
    | moreNo h2 _ => cases Th.det h h2
    | bad h2 a _ => cases Th.det h h2; exact absurd a (by simp [sees, isF, isA, is1])
  | _, _, _, _, .more h t, h' => by
    cases h' with
    | no h2 => cases Th.det h h2
    | last h2 => cases Th.det h h2
    | more h2 t2 => cases Th.det h h2; cases Ls.det t t2; rfl
    | moreNo h2 t2 => cases Th.det h h2; cases Ls.det t t2
    | bad h2 _ a => cases Th.det h h2; exact absurd a (by simp [sees, isF, isA, is1])
  | _, _, _, _, .moreNo h t, h' => by
    cases h' with
    | no h2 => cases Th.det h h2
    | last h2 => cases Th.det h h2
    | more h2 t2 => cases Th.det h h2; cases Ls.det t t2
    | moreNo h2 t2 => cases Th.det h h2; cases Ls.det t t2; rfl
    | bad h2 _ a => cases Th.det h h2; exact absurd a (by simp [sees, isF, isA, is1])
  | _, _, _, _, .bad h a b, h' => by
    cases h' with
    | no h2 => cases Th.det h h2
    | last h2 => cases Th.det h h2; exact absurd a (by simp [sees, isF, isA, is1])
    | more h2 _ => cases Th.det h h2; exact absurd b (by simp [sees, isF, isA, is1])
    | moreNo h2 _ => cases Th.det h h2; exact absurd b (by simp [sees, isF, isA, is1])
    | bad h2 _ _ => cases Th.det h h2; rfl
end
end Tx

namespace Tx
open PySem
theorem tw_app {p : Nat → Bool} : ∀ {a r : List Nat}, (∀ c ∈ a, p c = true) → sees p r = false → (a ++ r).takeWhile p = a ∧ (a ++ r).dropWhile p = r
  | [], [], _, _ => ⟨rfl, rfl⟩
  | [], c :: r, _, h => by
    have h : p c = false := h
    simp [List.takeWhile_cons, List.dropWhile_cons, h]
  | x :: a, r, h, hr => by
    have h1 := h x (by simp)
    obtain ⟨e1, e2⟩ := tw_app (a := a) (r := r) (fun c hc => h c (by simp [hc])) hr
    rw [List.cons_append, List.takeWhile_cons, List.dropWhile_cons, if_pos h1, if_pos h1, e1, e2]
    exact ⟨rfl, rfl⟩
/-- the signs of a whole number -/
def intL (i : Int) : List Nat := if i < 0 then 45 :: TL.numL i.natAbs else TL.numL i.natAbs
theorem tl_cat (a b : String) : TL.tl (Str.ofString (a ++ b)) = TL.tl (Str.ofString a) ++ TL.tl (Str.ofString b) := by
  rw [Str.ofString_eq_toList, Str.ofString_eq_toList, Str.ofString_eq_toList]
  simp [TL.tl]
theorem tl_int (i : Int) : TL.tl (Str.ofString (toString i)) = intL i := by
  unfold intL
  cases i with
  | ofNat n => rw [if_neg (by simp)]; exact TL.tl_num n
  | negSucc n =>
    rw [if_pos (by omega)]
    have e : toString (Int.negSucc n) = "-" ++ toString ((n + 1 : Nat) : Int) := rfl
    rw [e, tl_cat, TL.tl_num]
    rfl
mutual
/-- the text of a thing -/
def txt : PyData → List Nat
  | .none => [45]
  | .bool _ => []
  | .int i => intL i
  | .str x => TL.tl x
  | .list ds => 40 :: (TL.joinL [32] (txts ds) ++ [41])
  | .tuple ds => 40 :: (TL.joinL [32] (txts ds) ++ [41])
  | .dict _ => []
def txts : List PyData → List (List Nat)
  | [] => []
  | d :: ds => txt d :: txts ds
end
theorem txts_len : ∀ ds : List PyData, (txts ds).length = ds.length
  | [] => rfl
  | _ :: ds => by simp only [txts, List.length_cons, txts_len ds]
theorem txts_map : ∀ ds : List PyData, txts ds = ds.map txt
  | [] => rfl
  | _ :: ds => by simp only [txts, List.map_cons, txts_map ds]
mutual
/-- tuples in the place of lists -/
def tupd : PyData → PyData
  | .list ds => .tuple (tupds ds)
  | .tuple ds => .tuple (tupds ds)
  | .none => .none
  | .bool b => .bool b
  | .int i => .int i
  | .str x => .str x
  | .dict k => .dict k
def tupds : List PyData → List PyData
  | [] => []
  | d :: ds => tupd d :: tupds ds
end
theorem tupds_map : ∀ ds : List PyData, tupds ds = ds.map tupd
  | [] => rfl
  | _ :: ds => by simp only [tupds, List.map_cons, tupds_map ds]
/-- a thing that is read as it is shown, n deep at most -/
inductive Gd : Nat → PyData → Prop
  | non {n : Nat} : Gd n .none
  | int {n : Nat} {i : Int} (h : i.natAbs < 10 ^ 60) : Gd n (.int i)
  | str {n : Nat} {x : Str} (h : ∀ c ∈ TL.tl x, isA c = true) (h1 : TL.tl x ≠ []) (h8 : (TL.tl x).length ≤ 8) : Gd n (.str x)
  | lst {n : Nat} {ds : List PyData} (h : ∀ d ∈ ds, Gd n d) : Gd (n + 1) (.list ds)
  | tup {n : Nat} {ds : List PyData} (h : ∀ d ∈ ds, Gd n d) : Gd (n + 1) (.tuple ds)
theorem Gd.mono : ∀ {n m : Nat} {d : PyData}, Gd n d → n ≤ m → Gd m d := by
  intro n m d h
  induction h generalizing m with
  | non => intro _; exact .non
  | int h => intro _; exact .int h
  | str h h1 h8 => intro _; exact .str h h1 h8
  | lst _ ih =>
    intro e
    obtain ⟨k, rfl⟩ : ∃ k, m = k + 1 := ⟨m - 1, by omega⟩
    exact .lst fun d hd => ih d hd (by omega)
  | tup _ ih =>
    intro e
    obtain ⟨k, rfl⟩ : ∃ k, m = k + 1 := ⟨m - 1, by omega⟩
    exact .tup fun d hd => ih d hd (by omega)
theorem numL_F (n : Nat) : ∀ c ∈ TL.numL n, isF c = true := fun c hc => isF_iff.mpr (TL.numL_digits n c hc)
theorem numL_head {n : Nat} (h : 0 < n) : sees (is1 48) (TL.numL n) = false := by
  induction n using Nat.strongRecOn with
  | _ n ih =>
    by_cases c : n < 10
    · rw [TL.numL_lt c]
      exact decide_eq_false (by omega)
    · rw [TL.numL_step (by omega), sees_app (TL.numL_ne _)]
      exact ih (n / 10) (by omega) (by omega)
theorem sees_all {p : Nat → Bool} : ∀ {a : List Nat}, a ≠ [] → (∀ c ∈ a, p c = true) → sees p a = true
  | c :: _, _, h => h c (by simp)
  | [], h, _ => absurd rfl h
theorem numM_num {n : Nat} {r : List Nat} (hn : n < 10 ^ 60) (hr : sees isF r = false) : numM (TL.numL n ++ r) = .ok (.int (n : Int)) r := by
  unfold numM
  rcases Nat.eq_zero_or_pos n with z | z
  · subst z
    have e : TL.numL 0 = [48] := TL.numL_lt (by decide)
    rw [e, if_pos (show sees (is1 48) ([48] ++ r) = true from by simp [sees, is1])]
    show (if sees isF r = true then Out.no r else Out.ok (.int 0) r) = _
    rw [if_neg (by rw [hr]; exact Bool.false_ne_true)]
    rfl
  · rw [if_neg (by rw [sees_app (TL.numL_ne n), numL_head z]; exact Bool.false_ne_true)]
    obtain ⟨e1, e2⟩ := tw_app (numL_F n) hr
    rw [e1, e2, if_pos (TL.numL_len (by decide) hn), TL.numL_val]
theorem negM_num {n : Nat} {r : List Nat} (h0 : 0 < n) (hn : n < 10 ^ 60) (hr : sees isF r = false) : negM (TL.numL n ++ r) = .ok (.int (0 - (n : Int))) r := by
  unfold negM
  rw [if_neg (by rw [sees_app (TL.numL_ne n), numL_head h0]; exact Bool.false_ne_true), if_pos (by rw [sees_app (TL.numL_ne n)]; exact sees_all (TL.numL_ne n) (numL_F n)), numM_num hn hr]
/-- what may follow a thing's text -/
def Ends (r : List Nat) : Prop := sees isF r = false ∧ sees isA r = false
theorem ends_nil : Ends [] := ⟨rfl, rfl⟩
theorem ends_41 {r : List Nat} : Ends (41 :: r) := ⟨by simp [sees, isF], by simp [sees, isA]⟩
theorem ends_32 {r : List Nat} : Ends (32 :: r) := ⟨by simp [sees, isF], by simp [sees, isA]⟩
theorem not48 {r : List Nat} (h : sees isF r = false) : sees (is1 48) r = false := by
  cases r with
  | nil => rfl
  | cons c r =>
    have h : isF c = false := h
    refine decide_eq_false fun z => ?_
    subst z
    exact absurd h (by decide)
/-- a thing's text doesn't begin with the end of a row -/
theorem txt_41 {n : Nat} {d : PyData} {r : List Nat} (h : Gd n d) : sees (is1 41) (txt d ++ r) = false := by
  have num : ∀ n : Nat, sees (is1 41) (TL.numL n ++ r) = false := fun n => by
    rw [sees_app (TL.numL_ne n)]
    cases e : TL.numL n with
    | nil => rfl
    | cons c l =>
      have := TL.numL_digits n c (by rw [e]; simp)
      exact decide_eq_false (by omega)
  cases h with
  | non => simp [txt, sees, is1]
  | @int _ i h =>
    show sees (is1 41) (intL i ++ r) = false
    unfold intL
    split
    · simp [sees, is1]
    · exact num _
  | @str _ x h h1 h8 =>
    show sees (is1 41) (TL.tl x ++ r) = false
    rw [sees_app h1]
    cases e : TL.tl x with
    | nil => rfl
    | cons c l =>
      have := isA_iff.mp (h c (by rw [e]; simp))
      exact decide_eq_false (by omega)
  | lst _ => simp [txt, sees, is1]
  | tup _ => simp [txt, sees, is1]
theorem ls_of {n : Nat} : ∀ {ds : List PyData}, ds ≠ [] → (∀ d ∈ ds, ∀ r, Ends r → Th n (txt d ++ r) (.ok (tupd d) r)) → ∀ r, Ls n (TL.joinL [32] (txts ds) ++ 41 :: r) (.ok (tupds ds) r)
  | [], h, _, _ => absurd rfl h
  | [d], _, h, r => by
    show Ls n (txt d ++ 41 :: r) (.ok [tupd d] r)
    exact .last (h d (by simp) _ ends_41)
  | d :: e :: ds, _, h, r => by
    have e1 : TL.joinL [32] (txts (d :: e :: ds)) ++ 41 :: r = txt d ++ (32 :: (TL.joinL [32] (txts (e :: ds)) ++ 41 :: r)) := by
      show (txt d ++ ([32] ++ TL.joinL [32] (txts (e :: ds)))) ++ 41 :: r = _
      simp
    rw [e1]
    exact .more (h d (by simp) _ ends_32) (ls_of (by simp) (fun x hx => h x (by simp [hx])) r)
theorem th_of : ∀ {k : Nat} {d : PyData}, Gd k d → ∀ {n : Nat}, k + n ≤ 80 → ∀ r, Ends r → Th n (txt d ++ r) (.ok (tupd d) r) := by
  have row : ∀ {k : Nat} {ds : List PyData}, (∀ d ∈ ds, Gd k d) → (∀ d ∈ ds, ∀ {n : Nat}, k + n ≤ 80 → ∀ r, Ends r → Th n (txt d ++ r) (.ok (tupd d) r)) → ∀ {n : Nat}, k + 1 + n ≤ 80 → ∀ r, Th n (40 :: (TL.joinL [32] (txts ds) ++ [41]) ++ r) (.ok (.tuple (tupds ds)) r) := by
    intro k ds hg ih n hn r
    have e : 40 :: (TL.joinL [32] (txts ds) ++ [41]) ++ r = 40 :: (TL.joinL [32] (txts ds) ++ 41 :: r) := by simp
    rw [e]
    cases ds with
    | nil => exact .nil (by omega)
    | cons d ds =>
      refine .row (by omega) ?_ (ls_of (by simp) (fun x hx r hr => ih x hx (by omega) r hr) r)
      cases ds with
      | nil => exact txt_41 (hg d (by simp))
      | cons x ds =>
        have e1 : TL.joinL [32] (txts (d :: x :: ds)) ++ 41 :: r = txt d ++ (32 :: (TL.joinL [32] (txts (x :: ds)) ++ 41 :: r)) := by
          show (txt d ++ ([32] ++ TL.joinL [32] (txts (x :: ds)))) ++ 41 :: r = _
          simp
        rw [e1]
        exact txt_41 (hg d (by simp))
  intro k d h
  induction h with
  | non =>
    intro n _ r hr
    have e : negM r = .ok .none r := by
      unfold negM
      rw [if_neg (by rw [not48 hr.1]; exact Bool.false_ne_true), if_neg (by rw [hr.1]; exact Bool.false_ne_true)]
    have := @Th.neg n r
    rw [e] at this
    exact this
  | @int _ i h =>
    intro n _ r hr
    show Th n (intL i ++ r) (.ok (.int i) r)
    unfold intL
    split
    · rename_i c
      have := @Th.neg n (TL.numL i.natAbs ++ r)
      rw [negM_num (by omega) h hr.1, show 0 - (i.natAbs : Int) = i by omega] at this
      exact this
    · rename_i c
      have := @Th.num n (TL.numL i.natAbs ++ r) (by rw [sees_app (TL.numL_ne _)]; exact sees_all (TL.numL_ne _) (numL_F _))
      rw [numM_num h hr.1, show (i.natAbs : Int) = i by omega] at this
      exact this
  | @str _ x h h1 h8 =>
    intro n _ r hr
    show Th n (TL.tl x ++ r) (.ok (.str x) r)
    have := @Th.word n (TL.tl x ++ r) (by rw [sees_app h1]; exact sees_all h1 h)
    unfold wordM at this
    obtain ⟨e1, e2⟩ := tw_app h hr.2
    rw [e1, e2, if_pos h8] at this
    exact this
  | lst hg ih =>
    intro n hn r hr
    exact row hg (fun d hd n hn r hr => ih d hd hn r hr) hn r
  | tup hg ih =>
    intro n hn r hr
    exact row hg (fun d hd n hn r hr => ih d hd hn r hr) hn r
end Tx

namespace Tx
open PySem
/-! the reader's places -/
theorem tw_drop {p : Nat → Bool} : ∀ {cs : List Nat} {j : Nat}, j ≤ (cs.takeWhile p).length → (sees p (cs.drop j) = true ↔ j < (cs.takeWhile p).length)
  | [], j, h => by
    simp at h
    subst h
    simp [sees]
  | c :: cs, 0, _ => by
    rw [List.drop_zero, List.takeWhile_cons]
    show p c = true ↔ _
    by_cases hc : p c = true
    · simp [hc]
    · simp [hc]
  | c :: cs, j + 1, h => by
    rw [List.takeWhile_cons] at h ⊢
    by_cases hc : p c = true
    · rw [if_pos hc] at h ⊢
      rw [List.length_cons] at h ⊢
      rw [List.drop_succ_cons, tw_drop (by omega)]
      omega
    · rw [if_neg hc] at h
      simp at h
theorem tw_take {p : Nat → Bool} : ∀ {cs : List Nat}, cs.take (cs.takeWhile p).length = cs.takeWhile p
  | [] => rfl
  | c :: cs => by
    rw [List.takeWhile_cons]
    by_cases hc : p c = true
    · rw [if_pos hc, List.length_cons, List.take_succ_cons, tw_take]
    · rw [if_neg hc]; rfl
theorem tw_dropw {p : Nat → Bool} : ∀ {cs : List Nat}, cs.drop (cs.takeWhile p).length = cs.dropWhile p
  | [] => rfl
  | c :: cs => by
    rw [List.takeWhile_cons, List.dropWhile_cons]
    by_cases hc : p c = true
    · rw [if_pos hc, if_pos hc, List.length_cons, List.drop_succ_cons, tw_dropw]
    · rw [if_neg hc, if_neg hc]; rfl
theorem tw_le {p : Nat → Bool} {cs : List Nat} : (cs.takeWhile p).length ≤ cs.length := by
  have := congrArg List.length (tw_take (p := p) (cs := cs))
  rw [List.length_take] at this
  omega
theorem tw_mem {p : Nat → Bool} : ∀ {cs : List Nat} {c : Nat}, c ∈ cs.takeWhile p → p c = true
  | [], _, h => by simp at h
  | x :: cs, c, h => by
    rw [List.takeWhile_cons] at h
    by_cases hc : p x = true
    · rw [if_pos hc] at h
      rcases List.mem_cons.mp h with e | e
      · rw [e]; exact hc
      · exact tw_mem e
    · rw [if_neg hc] at h; simp at h
theorem tw_ne {p : Nat → Bool} {cs : List Nat} (h : sees p cs = true) : cs.takeWhile p ≠ [] := by
  cases cs with
  | nil => cases h
  | cons c r =>
    have h : p c = true := h
    rw [List.takeWhile_cons, if_pos h]; simp
theorem sees_congr {p q : Nat → Bool} (h : ∀ c, p c = q c) (cs : List Nat) : sees p cs = sees q cs := by
  cases cs with
  | nil => rfl
  | cons c r => exact h c
theorem sees_len {p : Nat → Bool} {cs : List Nat} (h : sees p cs = true) : 0 < cs.length := by
  cases cs with
  | nil => cases h
  | cons c r => simp
theorem sees_dlen {p : Nat → Bool} {cs : List Nat} {h : Nat} (e : sees p (cs.drop h) = true) : h < cs.length := by
  have := sees_len e
  rw [List.length_drop] at this
  omega
theorem negM_ok {cs r : List Nat} {i : Int} (h1 : sees (is1 48) cs = false) (h2 : sees isF cs = true) (e : numM cs = .ok (.int i) r) : negM cs = .ok (.int (0 - i)) r := by
  unfold negM
  rw [if_neg (by rw [h1]; exact Bool.false_ne_true), if_pos h2, e]
theorem negM_no {cs r : List Nat} (h1 : sees (is1 48) cs = false) (h2 : sees isF cs = true) (e : numM cs = .no r) : negM cs = .no r := by
  unfold negM
  rw [if_neg (by rw [h1]; exact Bool.false_ne_true), if_pos h2, e]
theorem joinL_len : ∀ {ls : List (List Nat)}, ls ≠ [] → (TL.joinL [32] ls).length + 1 = (ls.map (·.length)).sum + ls.length
  | [], h => absurd rfl h
  | [p], _ => by simp [TL.joinL]
  | p :: q :: r, _ => by
    have ih := joinL_len (ls := q :: r) (by simp)
    simp only [TL.joinL, List.length_append, List.length_cons, List.length_nil, List.map_cons, List.sum_cons] at ih ⊢
    omega
theorem sum_mem {l : List Nat} {x : Nat} (h : x ∈ l) : x ≤ l.sum := by
  induction l with
  | nil => cases h
  | cons y l ih =>
    rw [List.sum_cons]
    rcases List.mem_cons.mp h with e | e
    · omega
    · have := ih e; omega
/-- a thing that is shown: n deep at most, no truths -/
inductive Shw : Nat → PyData → Prop
  | non {n : Nat} : Shw n .none
  | int {n : Nat} {i : Int} (h : i.natAbs < 2 ^ 900) : Shw n (.int i)
  | str {n : Nat} (x : Str) : Shw n (.str x)
  | lst {n : Nat} {ds : List PyData} (h : ∀ d ∈ ds, Shw n d) : Shw (n + 1) (.list ds)
  | tup {n : Nat} {ds : List PyData} (h : ∀ d ∈ ds, Shw n d) : Shw (n + 1) (.tuple ds)
theorem Gd.shw {n : Nat} {d : PyData} (h : Gd n d) : Shw n d := by
  induction h with
  | non => exact .non
  | int h => exact .int (Nat.lt_trans h (by decide))
  | str _ _ _ => exact .str _
  | lst _ ih => exact .lst ih
  | tup _ ih => exact .tup ih
theorem Shw.mono : ∀ {n m : Nat} {d : PyData}, Shw n d → n ≤ m → Shw m d := by
  intro n m d h
  induction h generalizing m with
  | non => intro _; exact .non
  | int h => intro _; exact .int h
  | str x => intro _; exact .str x
  | lst _ ih =>
    intro e
    obtain ⟨k, rfl⟩ : ∃ k, m = k + 1 := ⟨m - 1, by omega⟩
    exact .lst fun d hd => ih d hd (by omega)
  | tup _ ih =>
    intro e
    obtain ⟨k, rfl⟩ : ∃ k, m = k + 1 := ⟨m - 1, by omega⟩
    exact .tup fun d hd => ih d hd (by omega)
/-- the text of a row -/
def rowL (ds : List PyData) : List Nat := 40 :: (TL.joinL [32] (txts ds) ++ [41])
theorem rowL_len (ds : List PyData) : (rowL ds).length = (TL.joinL [32] (txts ds)).length + 2 := by simp [rowL]
theorem row_sum {ds : List PyData} : ((txts ds).map (·.length)).sum + ds.length ≤ (rowL ds).length := by
  rw [rowL_len]
  cases ds with
  | nil => simp [txts, TL.joinL]
  | cons d ds =>
    have := joinL_len (ls := txts (d :: ds)) (by simp [txts])
    rw [txts_len] at this
    omega
theorem row_mem {ds : List PyData} {d : PyData} (h : d ∈ ds) : (txt d).length ≤ (rowL ds).length := by
  have h1 : (txt d).length ∈ (txts ds).map (·.length) := List.mem_map.mpr ⟨txt d, by rw [txts_map]; exact List.mem_map.mpr ⟨d, h, rfl⟩, rfl⟩
  have h2 := sum_mem h1
  have h3 := @row_sum ds
  omega
theorem row_count {ds : List PyData} : ds.length ≤ (rowL ds).length := by
  have h3 := @row_sum ds
  omega
mutual
theorem txt_tupd : ∀ d : PyData, txt (tupd d) = txt d
  | .none => rfl
  | .bool _ => rfl
  | .int _ => rfl
  | .str _ => rfl
  | .dict _ => rfl
  | .list ds => by simp only [tupd, txt, txts_tupd ds]
  | .tuple ds => by simp only [tupd, txt, txts_tupd ds]
theorem txts_tupd : ∀ ds : List PyData, txts (tupds ds) = txts ds
  | [] => rfl
  | d :: ds => by simp only [tupds, txts, txt_tupd d, txts_tupd ds]
end
theorem Gd.tupd {n : Nat} {d : PyData} (h : Gd n d) : Gd n (tupd d) := by
  induction h with
  | non => exact .non
  | int h => exact .int h
  | str h h1 h8 => exact .str h h1 h8
  | lst _ ih =>
    simp only [Tx.tupd]
    refine .tup fun e he => ?_
    rw [tupds_map] at he
    obtain ⟨d, hd, rfl⟩ := List.mem_map.mp he
    exact ih d hd
  | tup _ ih =>
    simp only [Tx.tupd]
    refine .tup fun e he => ?_
    rw [tupds_map] at he
    obtain ⟨d, hd, rfl⟩ := List.mem_map.mp he
    exact ih d hd
theorem th_full {k n : Nat} {d : PyData} (h : Gd k d) (hn : k + n ≤ 80) : Th n (txt d) (.ok (tupd d) []) := by
  have := th_of h hn [] ends_nil
  rwa [List.append_nil] at this
theorem digits_rep (k : Nat) : NumText.digitsVal (57 :: List.replicate k 48) = 9 * 10 ^ k := by
  have key : ∀ (k a : Nat), (List.replicate k 48).foldl (fun acc c => acc * 10 + (c - 48)) a = a * 10 ^ k := by
    intro k
    induction k with
    | zero => intro a; simp
    | succ k ih =>
      intro a
      rw [List.replicate_succ, List.foldl_cons, ih, Nat.pow_succ]
      simp only [Nat.sub_self, Nat.add_zero]
      rw [Nat.mul_assoc, Nat.mul_comm 10]
  unfold NumText.digitsVal
  rw [List.foldl_cons]
  exact key k _
end Tx

/-! a walk over a list or a tuple, whichever stands there -/
namespace R
open PySem PySem.Spec PyProof.Rows L2
def iAny (K : PySem.W.Frag) (te : TE) : TI := fun σ H R => te σ H fun x H1 => ∃ a, x = .ref a ∧ (((∃ xs, SqL K H1 a xs) ∧ R (Itl K a) H1) ∨ ((∃ xs, SqT K H1 a xs) ∧ R (Itt K a) H1))
theorem pi_any {X : Cx} {tg e : Expr} {te : TE} (he : PE X e te) : PI X tg e (iAny X.K te) := by
  refine ⟨fun pins s σ H R I h => thn (he.run pins s σ H _ I h) fun u s2 ⟨y, H2, J, ry, a, ey, q⟩ => ?_⟩
  subst ey
  cases ry
  rcases q with ⟨⟨xs, hx⟩, q⟩ | ⟨⟨xs, hx⟩, q⟩
  · obtain ⟨its, _, p, _⟩ := J.list hx
    refine wpAny_pyIter_list p.isList ⟨_, [s2.heap.objs.size], _, _, H2, rfl, J.kept (t' := s2.toks) (fun b o z => Heap.get?_push_of_some _ z), turn_list a _, ⟨_, Heap.get?_push_size _ rfl, rfl, rfl⟩, (fun b hb => ?_), q⟩
    obtain rfl := List.mem_singleton.mp hb
    exact J.fpOk (Nat.le_refl _) (J.hok.fresh (Nat.le_refl _))
  · obtain ⟨its, _, p, _⟩ := J.tuple hx
    refine wpAny_pyIter_tuple (show s2.heap.IsTuple a its.toArray from p) ⟨_, [s2.heap.objs.size], _, _, H2, rfl, J.kept (t' := s2.toks) (fun b o z => Heap.get?_push_of_some _ z), turn_tuple a _, ⟨_, Heap.get?_push_size _ rfl, rfl, rfl⟩, (fun b hb => ?_), q⟩
    obtain rfl := List.mem_singleton.mp hb
    exact J.fpOk (Nat.le_refl _) (J.hok.fresh (Nat.le_refl _))
theorem s_ianyL {K : PySem.W.Frag} {te : TE} {σ : L2.St} {H : Hp} {Q : It → Hp → Prop} (h : te σ H fun x H1 => ∃ a, x = .ref a ∧ (((∃ xs, SqL K H1 a xs) ∧ Q (Itl K a) H1) ∨ ((∃ xs, SqT K H1 a xs) ∧ Q (Itt K a) H1))) : iAny K te σ H Q := h
end R
namespace R
open PySem PySem.Spec PyProof.Rows L2
/-- a comprehension over a list or a tuple that stays -/
theorem s_lcAny {K : PySem.W.Frag} {g : TG} {tt : TT} {te : TE} {vs : List Nat} {σ : L2.St} {H : Hp} {Q : VK} {j : Nat} {a : Addr} {xs : List V} (hv : σ[j]? = some (some (.ref a))) (hx : (∀ H', Same H H' → SqL K H' a xs) ∨ ∀ H', Same H H' → SqT K H' a xs) (Pv : Addr → Nat → Hp → Prop)
    (hP : ∀ D i H', Pv D i H' → Same H H') (h0 : ∀ D, H D = none → Pv D 0 (upd H D (.lst [])))
    (hs : ∀ D i x H', xs[i]? = some x → Pv D i H' → g x (wipe σ vs) H' fun σ2 H2 => wipe σ2 vs = wipe σ vs ∧ tt σ2 H2 fun b H3 => if b = true then te σ2 H3 fun y H4 => ∃ acc, H4 D = some (.lst acc) ∧ acc.length < sizeLine ∧ Pv D (i + 1) (upd H4 D (.lst (acc ++ [y]))) else Pv D (i + 1) H3)
    (hd : ∀ D H', Pv D xs.length H' → Q (.ref D) H') : tLc (iAny K (tVar j)) g tt te vs σ H Q := by
  refine ⟨.ref a, hv, a, rfl, ?_⟩
  rcases hx with h | h
  · exact .inl ⟨⟨xs, h H fun _ _ z => z⟩, fun D nD => lc_list (Pv D) (h0 D nD) (fun i H' _ p => h H' (hP D i H' p)) (hs D) (hd D)⟩
  · exact .inr ⟨⟨xs, h H fun _ _ z => z⟩, fun D nD => lc_tup (Pv D) (h0 D nD) (fun i H' _ p => h H' (hP D i H' p)) (hs D) (hd D)⟩
end R

/-! a text, so many times -/
namespace R
open PySem PySem.Spec PyProof.Rows L2
def rRepS : V → V → Hp → VK → Prop := fun x y H Q => ∃ (z : Str) (k : Int), x = .str z ∧ y = .int k ∧ MulOk z k ∧ Q (.str (Txt.mul z k)) H
theorem op_repS {X : Cx} : OpR X (binaryOp .Mult) rRepS := fun _ _ _ _ _ _ _ _ _ I rx ry h => by
  obtain ⟨z, k, rfl, rfl, ok, q⟩ := h
  obtain ⟨t, rfl⟩ := rx
  obtain ⟨u, rfl⟩ := ry
  exact PySem.SB.mul ok fun t' n => ⟨.str (Txt.mul z k), _, I.tok _, ⟨_, rfl⟩, q⟩
theorem fold_rep (c : Nat) : ∀ (k : Nat) (a : Array Nat), (List.replicate k #[c]).foldl (· ++ ·) a = a ++ (List.replicate k c).toArray
  | 0, a => by simp
  | k + 1, a => by
    rw [List.replicate_succ, List.foldl_cons, fold_rep c k, List.replicate_succ]
    apply Array.toList_inj.mp
    simp
theorem rep_ok {c : Nat} {k : Nat} (h : k ≤ 1000) : MulOk (SX.S [c]) (k : Int) ∧ Txt.mul (SX.S [c]) (k : Int) = SX.S (List.replicate k c) := by
  have l1 : (SX.S [c]).length = 1 := rfl
  refine ⟨⟨?_, fun h1 _ => ?_, fun _ _ => ?_⟩, ?_⟩
  · simp; omega
  · rw [l1]
    have : (1000 : Int) ≤ (2 ^ 63 - 1) / (k : Int) := by
      rw [Int.le_ediv_iff_mul_le (by omega)]
      have : (1000 : Int) * k ≤ 1000 * 1000 := by omega
      omega
    omega
  · rw [l1]
    simp [Builtin.Str.tooLong]
    rw [sizeLine_eq]; omega
  · unfold Txt.mul
    by_cases h1 : (k : Int) < 1
    · rw [if_pos h1, show k = 0 by omega]; rfl
    · rw [if_neg h1]
      by_cases h2 : ((k : Int) == 1 || (SX.S [c]).length == 0) = true
      · rw [if_pos h2]
        have : k = 1 := by simp [l1] at h2; omega
        subst this; rfl
      · rw [if_neg h2, Int.toNat_natCast]
        show (⟨(List.replicate k #[c]).foldl (· ++ ·) #[]⟩ : Str) = _
        rw [fold_rep]; simp
end R

namespace C
open PySem PySem.Spec PyProof.Rows L2 R

def top (i : Nat) : Stmt := PySem.Challenge.pw_rootprime_k78_things_written_and_read.main.body.getD i (.Pass ⟨0, 0, 0, 0⟩)
abbrev FnP (K : PySem.W.Frag) (x : Str) (st : Stmt) (f : Addr) (fd : FuncData) : Prop := FunD K x x (defArgs st) (defBody st) (defScope st) [] [] f fd
abbrev s_show : Stmt := top 9
abbrev N_show : List Str := ["thing", "one"]
theorem sc_show : FnScope N_show ["thing"] (defScope s_show) := ⟨rfl, rfl, rfl, by decide +kernel, rfl, by decide +kernel, by decide +kernel⟩
abbrev s_Reader___init__ : Stmt := inClass (top 10) 0
abbrev N_Reader___init__ : List Str := ["self", "text"]
theorem sc_Reader___init__ : FnScope N_Reader___init__ ["self", "text"] (defScope s_Reader___init__) := ⟨rfl, rfl, rfl, by decide +kernel, rfl, by decide +kernel, by decide +kernel⟩
abbrev s_Reader_sees : Stmt := inClass (top 10) 1
abbrev N_Reader_sees : List Str := ["self", "signs"]
theorem sc_Reader_sees : FnScope N_Reader_sees ["self", "signs"] (defScope s_Reader_sees) := ⟨rfl, rfl, rfl, by decide +kernel, rfl, by decide +kernel, by decide +kernel⟩
abbrev s_Reader_fails : Stmt := inClass (top 10) 2
abbrev N_Reader_fails : List Str := ["self"]
theorem sc_Reader_fails : FnScope N_Reader_fails ["self"] (defScope s_Reader_fails) := ⟨rfl, rfl, rfl, by decide +kernel, rfl, by decide +kernel, by decide +kernel⟩
abbrev s_Reader_run : Stmt := inClass (top 10) 3
abbrev N_Reader_run : List Str := ["self", "signs", "most", "start"]
theorem sc_Reader_run : FnScope N_Reader_run ["self", "signs", "most"] (defScope s_Reader_run) := ⟨rfl, rfl, rfl, by decide +kernel, rfl, by decide +kernel, by decide +kernel⟩
abbrev s_Reader_number : Stmt := inClass (top 10) 4
abbrev N_Reader_number : List Str := ["self"]
theorem sc_Reader_number : FnScope N_Reader_number ["self"] (defScope s_Reader_number) := ⟨rfl, rfl, rfl, by decide +kernel, rfl, by decide +kernel, by decide +kernel⟩
abbrev s_Reader_below : Stmt := inClass (top 10) 5
abbrev N_Reader_below : List Str := ["self"]
theorem sc_Reader_below : FnScope N_Reader_below ["self"] (defScope s_Reader_below) := ⟨rfl, rfl, rfl, by decide +kernel, rfl, by decide +kernel, by decide +kernel⟩
abbrev s_Reader_row : Stmt := inClass (top 10) 6
abbrev N_Reader_row : List Str := ["self", "deep", "things"]
theorem sc_Reader_row : FnScope N_Reader_row ["self", "deep"] (defScope s_Reader_row) := ⟨rfl, rfl, rfl, by decide +kernel, rfl, by decide +kernel, by decide +kernel⟩
abbrev s_Reader_thing : Stmt := inClass (top 10) 7
abbrev N_Reader_thing : List Str := ["self", "deep"]
theorem sc_Reader_thing : FnScope N_Reader_thing ["self", "deep"] (defScope s_Reader_thing) := ⟨rfl, rfl, rfl, by decide +kernel, rfl, by decide +kernel, by decide +kernel⟩
abbrev s_read : Stmt := top 11
abbrev N_read : List Str := ["text", "reader", "found"]
theorem sc_read : FnScope N_read ["text"] (defScope s_read) := ⟨rfl, rfl, rfl, by decide +kernel, rfl, by decide +kernel, by decide +kernel⟩
abbrev s__law_tape : Stmt := top 13
abbrev N__law_tape : List Str := ["_law_script"]
theorem sc__law_tape : FnScope N__law_tape ["_law_script"] (defScope s__law_tape) := ⟨rfl, rfl, rfl, by decide +kernel, rfl, by decide +kernel, by decide +kernel⟩
abbrev s__law_draw : Stmt := top 14
abbrev N__law_draw : List Str := ["_law_tape_here", "_law_many", "_law_found", "_law_spot", "_law_cells", "_law_cell", "_law_seed"]
theorem sc__law_draw : FnScope N__law_draw ["_law_tape_here", "_law_many"] (defScope s__law_draw) := ⟨rfl, rfl, rfl, by decide +kernel, rfl, by decide +kernel, by decide +kernel⟩
abbrev s__law_letters : Stmt := top 15
abbrev N__law_letters : List Str := ["_law_tape_here", "_law_word", "_law_turn"]
theorem sc__law_letters : FnScope N__law_letters ["_law_tape_here"] (defScope s__law_letters) := ⟨rfl, rfl, rfl, by decide +kernel, rfl, by decide +kernel, by decide +kernel⟩
abbrev s__law_leaf : Stmt := top 16
abbrev N__law_leaf : List Str := ["_law_tape_here", "_law_way"]
theorem sc__law_leaf : FnScope N__law_leaf ["_law_tape_here"] (defScope s__law_leaf) := ⟨rfl, rfl, rfl, by decide +kernel, rfl, by decide +kernel, by decide +kernel⟩
abbrev s__law_thing : Stmt := top 17
abbrev N__law_thing : List Str := ["_law_tape_here", "_law_deep", "_law_things", "_law_turn"]
theorem sc__law_thing : FnScope N__law_thing ["_law_tape_here", "_law_deep"] (defScope s__law_thing) := ⟨rfl, rfl, rfl, by decide +kernel, rfl, by decide +kernel, by decide +kernel⟩
abbrev s__law_deep_thing : Stmt := top 18
abbrev N__law_deep_thing : List Str := ["_law_tape_here", "_law_thing_here", "_law_wraps", "_law_turn"]
theorem sc__law_deep_thing : FnScope N__law_deep_thing ["_law_tape_here"] (defScope s__law_deep_thing) := ⟨rfl, rfl, rfl, by decide +kernel, rfl, by decide +kernel, by decide +kernel⟩
abbrev s__law_written : Stmt := top 19
abbrev N__law_written : List Str := ["_law_thing_here", "_law_one"]
theorem sc__law_written : FnScope N__law_written ["_law_thing_here"] (defScope s__law_written) := ⟨rfl, rfl, rfl, by decide +kernel, rfl, by decide +kernel, by decide +kernel⟩
abbrev s__law_tuples : Stmt := top 20
abbrev N__law_tuples : List Str := ["_law_thing_here", "_law_one"]
theorem sc__law_tuples : FnScope N__law_tuples ["_law_thing_here"] (defScope s__law_tuples) := ⟨rfl, rfl, rfl, by decide +kernel, rfl, by decide +kernel, by decide +kernel⟩
abbrev s__law_same : Stmt := top 21
abbrev N__law_same : List Str := ["_law_found", "_law_due", "_law_one", "_law_other"]
theorem sc__law_same : FnScope N__law_same ["_law_found", "_law_due"] (defScope s__law_same) := ⟨rfl, rfl, rfl, by decide +kernel, rfl, by decide +kernel, by decide +kernel⟩
abbrev s_law : Stmt := top 22
abbrev N_law : List Str := ["_law_script", "_law_tape_here", "_law_turn", "_law_thing_here", "_law_text", "_law_found", "_law_many", "_law_number"]
theorem sc_law : FnScope N_law ["_law_script"] (defScope s_law) := ⟨rfl, rfl, rfl, by decide +kernel, rfl, by decide +kernel, by decide +kernel⟩
abbrev s_init_NoText : Stmt := inClass (top 2) 0
theorem sc_init_NoText : FnScope ["self", "line", "word"] ["self", "line", "word"] (defScope s_init_NoText) := ⟨rfl, rfl, rfl, by decide +kernel, rfl, by decide +kernel, by decide +kernel⟩
def fn : List He5.DefA := [⟨fun K => He.ga K "show", "show", "show", defArgs s_show, defBody s_show, defScope s_show, [], []⟩,
  ⟨fun K => He.ma K (He.ga K "Reader") "__init__", "__init__", "Reader.__init__", defArgs s_Reader___init__, defBody s_Reader___init__, defScope s_Reader___init__, [], []⟩,
  ⟨fun K => He.ma K (He.ga K "Reader") "sees", "sees", "Reader.sees", defArgs s_Reader_sees, defBody s_Reader_sees, defScope s_Reader_sees, [], []⟩,
  ⟨fun K => He.ma K (He.ga K "Reader") "fails", "fails", "Reader.fails", defArgs s_Reader_fails, defBody s_Reader_fails, defScope s_Reader_fails, [], []⟩,
  ⟨fun K => He.ma K (He.ga K "Reader") "run", "run", "Reader.run", defArgs s_Reader_run, defBody s_Reader_run, defScope s_Reader_run, [], []⟩,
  ⟨fun K => He.ma K (He.ga K "Reader") "number", "number", "Reader.number", defArgs s_Reader_number, defBody s_Reader_number, defScope s_Reader_number, [], []⟩,
  ⟨fun K => He.ma K (He.ga K "Reader") "below", "below", "Reader.below", defArgs s_Reader_below, defBody s_Reader_below, defScope s_Reader_below, [], []⟩,
  ⟨fun K => He.ma K (He.ga K "Reader") "row", "row", "Reader.row", defArgs s_Reader_row, defBody s_Reader_row, defScope s_Reader_row, [], []⟩,
  ⟨fun K => He.ma K (He.ga K "Reader") "thing", "thing", "Reader.thing", defArgs s_Reader_thing, defBody s_Reader_thing, defScope s_Reader_thing, [], []⟩,
  ⟨fun K => He.ga K "read", "read", "read", defArgs s_read, defBody s_read, defScope s_read, [], []⟩,
  ⟨fun K => He.ga K "_law_tape", "_law_tape", "_law_tape", defArgs s__law_tape, defBody s__law_tape, defScope s__law_tape, [], []⟩,
  ⟨fun K => He.ga K "_law_draw", "_law_draw", "_law_draw", defArgs s__law_draw, defBody s__law_draw, defScope s__law_draw, [], []⟩,
  ⟨fun K => He.ga K "_law_letters", "_law_letters", "_law_letters", defArgs s__law_letters, defBody s__law_letters, defScope s__law_letters, [], []⟩,
  ⟨fun K => He.ga K "_law_leaf", "_law_leaf", "_law_leaf", defArgs s__law_leaf, defBody s__law_leaf, defScope s__law_leaf, [], []⟩,
  ⟨fun K => He.ga K "_law_thing", "_law_thing", "_law_thing", defArgs s__law_thing, defBody s__law_thing, defScope s__law_thing, [], []⟩,
  ⟨fun K => He.ga K "_law_deep_thing", "_law_deep_thing", "_law_deep_thing", defArgs s__law_deep_thing, defBody s__law_deep_thing, defScope s__law_deep_thing, [], []⟩,
  ⟨fun K => He.ga K "_law_written", "_law_written", "_law_written", defArgs s__law_written, defBody s__law_written, defScope s__law_written, [], []⟩,
  ⟨fun K => He.ga K "_law_tuples", "_law_tuples", "_law_tuples", defArgs s__law_tuples, defBody s__law_tuples, defScope s__law_tuples, [], []⟩,
  ⟨fun K => He.ga K "_law_same", "_law_same", "_law_same", defArgs s__law_same, defBody s__law_same, defScope s__law_same, [], []⟩,
  ⟨fun K => He.ga K "law", "law", "law", defArgs s_law, defBody s_law, defScope s_law, [], []⟩,
  ⟨fun K => He.ma K (He.ga K "NoText") "__init__", "__init__", "NoText.__init__", defArgs s_init_NoText, defBody s_init_NoText, defScope s_init_NoText, [], []⟩]
def fa : List FB := [fun K => (He.Fa.glo "show").ok K, fun K => (He.Fa.glo "read").ok K, fun K => (He.Fa.glo "_law_tape").ok K, fun K => (He.Fa.glo "_law_draw").ok K, fun K => (He.Fa.glo "_law_letters").ok K, fun K => (He.Fa.glo "_law_leaf").ok K, fun K => (He.Fa.glo "_law_thing").ok K, fun K => (He.Fa.glo "_law_deep_thing").ok K, fun K => (He.Fa.glo "_law_written").ok K, fun K => (He.Fa.glo "_law_tuples").ok K, fun K => (He.Fa.glo "_law_same").ok K, fun K => (He.Fa.glo "law").ok K, fun K => (He.Fa.glo "PrimeError").ok K, fun K => (He.Fa.glo "NoText").ok K, fun K => (He.Fa.glo "Reader").ok K, fun K => (He.Fa.cls "Reader").ok K, fun K => (He.Fa.mkr "Reader").ok K, fun K => (He.Fa.noat "Reader" "here").ok K, fun K => (He.Fa.noat "Reader" "text").ok K, fun K => (He.Fa.meth "Reader" "sees").ok K, fun K => (He.Fa.meth "Reader" "fails").ok K, fun K => (He.Fa.meth "Reader" "run").ok K, fun K => (He.Fa.meth "Reader" "number").ok K, fun K => (He.Fa.meth "Reader" "below").ok K, fun K => (He.Fa.meth "Reader" "row").ok K, fun K => (He.Fa.meth "Reader" "thing").ok K, fun K => (He.Fa.free "isinstance").ok K, fun K => (He.Fa.free "str").ok K, fun K => (He.Fa.free "tuple").ok K, fun K => (He.Fa.free "list").ok K, fun K => (He.Fa.free "len").ok K, fun K => (He.Fa.free "int").ok K, fun K => (He.Fa.free "range").ok K, fun K => (He.Fa.free "all").ok K, fun K => (He.Fa.free "bool").ok K, fun K => (He.Fa.free "zip").ok K, fun K => (He.Fa.int "MOST_FIGURES" 60).ok K, fun K => (He.Fa.int "MOST_LETTERS" 8).ok K, fun K => (He.Fa.int "MOST_DEEP" 80).ok K, fun K => (He.Fa.str "FIGURES" "0123456789").ok K, fun K => (He.Fa.str "LETTERS" "abcdefghijklmnopqrstuvwxyz").ok K, fun K => xinB "NoText" "line" K, fun K => xinB "NoText" "word" K, fun K => baseB (He.ga K "PrimeError") K, fun K => (He.Fa.exc "PrimeError").ok K]
structure Txt (K : PySem.W.Frag) (mg : Str → Option Value) : Prop where
  c : Told fa fn K
  gl : ∀ {x : Str}, (He.Fa.glo x).ok K = true → mg x = some (.ref (He.ga K x))
  fr : ∀ {x : Str}, (He.Fa.free x).ok K = true → mg x = none
  int_ok : ∀ {x : Str} {i : Int}, (He.Fa.int x i).ok K = true → ∃ t, mg x = some (.int i t)
  str_ok : ∀ {x z : Str}, (He.Fa.str x z).ok K = true → ∃ t, mg x = some (.str z t)
section
variable {P : Program} {w : World} {K : PySem.W.Frag} {mg : Str → Option Value} {base : Heap}
theorem F0_show (T : Txt K mg) : ∃ fd, FnP K "show" s_show (He.ga K "show") fd := T.c.dfn 0 rfl
noncomputable def fd_show (T : Txt K mg) : FuncData := (F0_show T).choose
theorem F_show (T : Txt K mg) : FnP K "show" s_show (He.ga K "show") (fd_show T) := (F0_show T).choose_spec
theorem g_show (T : Txt K mg) : mg "show" = some (.ref (He.ga K "show")) := T.gl (T.c.fact 0 rfl)
theorem kp_show (T : Txt K mg) : PySem.W.keepIn K (.ref (He.ga K "show")) = true := (F_show T).kp
theorem B_show (T : Txt K mg) : Binds K (fd_show T) ["thing"] [] := (F_show T).bindsN fun _ _ _ _ _ _ us hl => match us, hl with | [_], _ => rfl
theorem F0_Reader___init__ (T : Txt K mg) : ∃ fd, FunD K "__init__" "Reader.__init__" (defArgs s_Reader___init__) (defBody s_Reader___init__) (defScope s_Reader___init__) [] [] (He.ma K (He.ga K "Reader") "__init__") fd := T.c.dfn 1 rfl
noncomputable def fd_Reader___init__ (T : Txt K mg) : FuncData := (F0_Reader___init__ T).choose
theorem F_Reader___init__ (T : Txt K mg) : FunD K "__init__" "Reader.__init__" (defArgs s_Reader___init__) (defBody s_Reader___init__) (defScope s_Reader___init__) [] [] (He.ma K (He.ga K "Reader") "__init__") (fd_Reader___init__ T) := (F0_Reader___init__ T).choose_spec
theorem kp_Reader___init__ (T : Txt K mg) : PySem.W.keepIn K (.ref (He.ma K (He.ga K "Reader") "__init__")) = true := (F_Reader___init__ T).kp
theorem B_Reader___init__ (T : Txt K mg) : Binds K (fd_Reader___init__ T) ["self", "text"] [] := (F_Reader___init__ T).bindsN fun _ _ _ _ _ _ us hl => match us, hl with | [_, _], _ => rfl
theorem F0_Reader_sees (T : Txt K mg) : ∃ fd, FunD K "sees" "Reader.sees" (defArgs s_Reader_sees) (defBody s_Reader_sees) (defScope s_Reader_sees) [] [] (He.ma K (He.ga K "Reader") "sees") fd := T.c.dfn 2 rfl
noncomputable def fd_Reader_sees (T : Txt K mg) : FuncData := (F0_Reader_sees T).choose
theorem F_Reader_sees (T : Txt K mg) : FunD K "sees" "Reader.sees" (defArgs s_Reader_sees) (defBody s_Reader_sees) (defScope s_Reader_sees) [] [] (He.ma K (He.ga K "Reader") "sees") (fd_Reader_sees T) := (F0_Reader_sees T).choose_spec
theorem m_Reader_sees (T : Txt K mg) : Meth K (He.ga K "Reader") "sees" (He.ma K (He.ga K "Reader") "sees") := He.meth_ok (T.c.fact 19 rfl)
theorem kp_Reader_sees (T : Txt K mg) : PySem.W.keepIn K (.ref (He.ma K (He.ga K "Reader") "sees")) = true := (F_Reader_sees T).kp
theorem B_Reader_sees (T : Txt K mg) : Binds K (fd_Reader_sees T) ["self", "signs"] [] := (F_Reader_sees T).bindsN fun _ _ _ _ _ _ us hl => match us, hl with | [_, _], _ => rfl
theorem F0_Reader_fails (T : Txt K mg) : ∃ fd, FunD K "fails" "Reader.fails" (defArgs s_Reader_fails) (defBody s_Reader_fails) (defScope s_Reader_fails) [] [] (He.ma K (He.ga K "Reader") "fails") fd := T.c.dfn 3 rfl
noncomputable def fd_Reader_fails (T : Txt K mg) : FuncData := (F0_Reader_fails T).choose
theorem F_Reader_fails (T : Txt K mg) : FunD K "fails" "Reader.fails" (defArgs s_Reader_fails) (defBody s_Reader_fails) (defScope s_Reader_fails) [] [] (He.ma K (He.ga K "Reader") "fails") (fd_Reader_fails T) := (F0_Reader_fails T).choose_spec
theorem m_Reader_fails (T : Txt K mg) : Meth K (He.ga K "Reader") "fails" (He.ma K (He.ga K "Reader") "fails") := He.meth_ok (T.c.fact 20 rfl)
theorem kp_Reader_fails (T : Txt K mg) : PySem.W.keepIn K (.ref (He.ma K (He.ga K "Reader") "fails")) = true := (F_Reader_fails T).kp
theorem B_Reader_fails (T : Txt K mg) : Binds K (fd_Reader_fails T) ["self"] [] := (F_Reader_fails T).bindsN fun _ _ _ _ _ _ us hl => match us, hl with | [_], _ => rfl
theorem F0_Reader_run (T : Txt K mg) : ∃ fd, FunD K "run" "Reader.run" (defArgs s_Reader_run) (defBody s_Reader_run) (defScope s_Reader_run) [] [] (He.ma K (He.ga K "Reader") "run") fd := T.c.dfn 4 rfl
noncomputable def fd_Reader_run (T : Txt K mg) : FuncData := (F0_Reader_run T).choose
theorem F_Reader_run (T : Txt K mg) : FunD K "run" "Reader.run" (defArgs s_Reader_run) (defBody s_Reader_run) (defScope s_Reader_run) [] [] (He.ma K (He.ga K "Reader") "run") (fd_Reader_run T) := (F0_Reader_run T).choose_spec
theorem m_Reader_run (T : Txt K mg) : Meth K (He.ga K "Reader") "run" (He.ma K (He.ga K "Reader") "run") := He.meth_ok (T.c.fact 21 rfl)
theorem kp_Reader_run (T : Txt K mg) : PySem.W.keepIn K (.ref (He.ma K (He.ga K "Reader") "run")) = true := (F_Reader_run T).kp
theorem B_Reader_run (T : Txt K mg) : Binds K (fd_Reader_run T) ["self", "signs", "most"] [] := (F_Reader_run T).bindsN fun _ _ _ _ _ _ us hl => match us, hl with | [_, _, _], _ => rfl
theorem F0_Reader_number (T : Txt K mg) : ∃ fd, FunD K "number" "Reader.number" (defArgs s_Reader_number) (defBody s_Reader_number) (defScope s_Reader_number) [] [] (He.ma K (He.ga K "Reader") "number") fd := T.c.dfn 5 rfl
noncomputable def fd_Reader_number (T : Txt K mg) : FuncData := (F0_Reader_number T).choose
theorem F_Reader_number (T : Txt K mg) : FunD K "number" "Reader.number" (defArgs s_Reader_number) (defBody s_Reader_number) (defScope s_Reader_number) [] [] (He.ma K (He.ga K "Reader") "number") (fd_Reader_number T) := (F0_Reader_number T).choose_spec
theorem m_Reader_number (T : Txt K mg) : Meth K (He.ga K "Reader") "number" (He.ma K (He.ga K "Reader") "number") := He.meth_ok (T.c.fact 22 rfl)
theorem kp_Reader_number (T : Txt K mg) : PySem.W.keepIn K (.ref (He.ma K (He.ga K "Reader") "number")) = true := (F_Reader_number T).kp
theorem B_Reader_number (T : Txt K mg) : Binds K (fd_Reader_number T) ["self"] [] := (F_Reader_number T).bindsN fun _ _ _ _ _ _ us hl => match us, hl with | [_], _ => rfl
theorem F0_Reader_below (T : Txt K mg) : ∃ fd, FunD K "below" "Reader.below" (defArgs s_Reader_below) (defBody s_Reader_below) (defScope s_Reader_below) [] [] (He.ma K (He.ga K "Reader") "below") fd := T.c.dfn 6 rfl
noncomputable def fd_Reader_below (T : Txt K mg) : FuncData := (F0_Reader_below T).choose
theorem F_Reader_below (T : Txt K mg) : FunD K "below" "Reader.below" (defArgs s_Reader_below) (defBody s_Reader_below) (defScope s_Reader_below) [] [] (He.ma K (He.ga K "Reader") "below") (fd_Reader_below T) := (F0_Reader_below T).choose_spec
theorem m_Reader_below (T : Txt K mg) : Meth K (He.ga K "Reader") "below" (He.ma K (He.ga K "Reader") "below") := He.meth_ok (T.c.fact 23 rfl)
theorem kp_Reader_below (T : Txt K mg) : PySem.W.keepIn K (.ref (He.ma K (He.ga K "Reader") "below")) = true := (F_Reader_below T).kp
theorem B_Reader_below (T : Txt K mg) : Binds K (fd_Reader_below T) ["self"] [] := (F_Reader_below T).bindsN fun _ _ _ _ _ _ us hl => match us, hl with | [_], _ => rfl
theorem F0_Reader_row (T : Txt K mg) : ∃ fd, FunD K "row" "Reader.row" (defArgs s_Reader_row) (defBody s_Reader_row) (defScope s_Reader_row) [] [] (He.ma K (He.ga K "Reader") "row") fd := T.c.dfn 7 rfl
noncomputable def fd_Reader_row (T : Txt K mg) : FuncData := (F0_Reader_row T).choose
theorem F_Reader_row (T : Txt K mg) : FunD K "row" "Reader.row" (defArgs s_Reader_row) (defBody s_Reader_row) (defScope s_Reader_row) [] [] (He.ma K (He.ga K "Reader") "row") (fd_Reader_row T) := (F0_Reader_row T).choose_spec
theorem m_Reader_row (T : Txt K mg) : Meth K (He.ga K "Reader") "row" (He.ma K (He.ga K "Reader") "row") := He.meth_ok (T.c.fact 24 rfl)
theorem kp_Reader_row (T : Txt K mg) : PySem.W.keepIn K (.ref (He.ma K (He.ga K "Reader") "row")) = true := (F_Reader_row T).kp
theorem B_Reader_row (T : Txt K mg) : Binds K (fd_Reader_row T) ["self", "deep"] [] := (F_Reader_row T).bindsN fun _ _ _ _ _ _ us hl => match us, hl with | [_, _], _ => rfl
theorem F0_Reader_thing (T : Txt K mg) : ∃ fd, FunD K "thing" "Reader.thing" (defArgs s_Reader_thing) (defBody s_Reader_thing) (defScope s_Reader_thing) [] [] (He.ma K (He.ga K "Reader") "thing") fd := T.c.dfn 8 rfl
noncomputable def fd_Reader_thing (T : Txt K mg) : FuncData := (F0_Reader_thing T).choose
theorem F_Reader_thing (T : Txt K mg) : FunD K "thing" "Reader.thing" (defArgs s_Reader_thing) (defBody s_Reader_thing) (defScope s_Reader_thing) [] [] (He.ma K (He.ga K "Reader") "thing") (fd_Reader_thing T) := (F0_Reader_thing T).choose_spec
theorem m_Reader_thing (T : Txt K mg) : Meth K (He.ga K "Reader") "thing" (He.ma K (He.ga K "Reader") "thing") := He.meth_ok (T.c.fact 25 rfl)
theorem kp_Reader_thing (T : Txt K mg) : PySem.W.keepIn K (.ref (He.ma K (He.ga K "Reader") "thing")) = true := (F_Reader_thing T).kp
theorem B_Reader_thing (T : Txt K mg) : Binds K (fd_Reader_thing T) ["self", "deep"] [] := (F_Reader_thing T).bindsN fun _ _ _ _ _ _ us hl => match us, hl with | [_, _], _ => rfl
theorem F0_read (T : Txt K mg) : ∃ fd, FnP K "read" s_read (He.ga K "read") fd := T.c.dfn 9 rfl
noncomputable def fd_read (T : Txt K mg) : FuncData := (F0_read T).choose
theorem F_read (T : Txt K mg) : FnP K "read" s_read (He.ga K "read") (fd_read T) := (F0_read T).choose_spec
theorem g_read (T : Txt K mg) : mg "read" = some (.ref (He.ga K "read")) := T.gl (T.c.fact 1 rfl)
theorem kp_read (T : Txt K mg) : PySem.W.keepIn K (.ref (He.ga K "read")) = true := (F_read T).kp
theorem B_read (T : Txt K mg) : Binds K (fd_read T) ["text"] [] := (F_read T).bindsN fun _ _ _ _ _ _ us hl => match us, hl with | [_], _ => rfl
theorem F0__law_tape (T : Txt K mg) : ∃ fd, FnP K "_law_tape" s__law_tape (He.ga K "_law_tape") fd := T.c.dfn 10 rfl
noncomputable def fd__law_tape (T : Txt K mg) : FuncData := (F0__law_tape T).choose
theorem F__law_tape (T : Txt K mg) : FnP K "_law_tape" s__law_tape (He.ga K "_law_tape") (fd__law_tape T) := (F0__law_tape T).choose_spec
theorem g__law_tape (T : Txt K mg) : mg "_law_tape" = some (.ref (He.ga K "_law_tape")) := T.gl (T.c.fact 2 rfl)
theorem kp__law_tape (T : Txt K mg) : PySem.W.keepIn K (.ref (He.ga K "_law_tape")) = true := (F__law_tape T).kp
theorem B__law_tape (T : Txt K mg) : Binds K (fd__law_tape T) ["_law_script"] [] := (F__law_tape T).bindsN fun _ _ _ _ _ _ us hl => match us, hl with | [_], _ => rfl
theorem F0__law_draw (T : Txt K mg) : ∃ fd, FnP K "_law_draw" s__law_draw (He.ga K "_law_draw") fd := T.c.dfn 11 rfl
noncomputable def fd__law_draw (T : Txt K mg) : FuncData := (F0__law_draw T).choose
theorem F__law_draw (T : Txt K mg) : FnP K "_law_draw" s__law_draw (He.ga K "_law_draw") (fd__law_draw T) := (F0__law_draw T).choose_spec
theorem g__law_draw (T : Txt K mg) : mg "_law_draw" = some (.ref (He.ga K "_law_draw")) := T.gl (T.c.fact 3 rfl)
theorem kp__law_draw (T : Txt K mg) : PySem.W.keepIn K (.ref (He.ga K "_law_draw")) = true := (F__law_draw T).kp
theorem B__law_draw (T : Txt K mg) : Binds K (fd__law_draw T) ["_law_tape_here", "_law_many"] [] := (F__law_draw T).bindsN fun _ _ _ _ _ _ us hl => match us, hl with | [_, _], _ => rfl
theorem F0__law_letters (T : Txt K mg) : ∃ fd, FnP K "_law_letters" s__law_letters (He.ga K "_law_letters") fd := T.c.dfn 12 rfl
noncomputable def fd__law_letters (T : Txt K mg) : FuncData := (F0__law_letters T).choose
theorem F__law_letters (T : Txt K mg) : FnP K "_law_letters" s__law_letters (He.ga K "_law_letters") (fd__law_letters T) := (F0__law_letters T).choose_spec
theorem g__law_letters (T : Txt K mg) : mg "_law_letters" = some (.ref (He.ga K "_law_letters")) := T.gl (T.c.fact 4 rfl)
theorem kp__law_letters (T : Txt K mg) : PySem.W.keepIn K (.ref (He.ga K "_law_letters")) = true := (F__law_letters T).kp
theorem B__law_letters (T : Txt K mg) : Binds K (fd__law_letters T) ["_law_tape_here"] [] := (F__law_letters T).bindsN fun _ _ _ _ _ _ us hl => match us, hl with | [_], _ => rfl
theorem F0__law_leaf (T : Txt K mg) : ∃ fd, FnP K "_law_leaf" s__law_leaf (He.ga K "_law_leaf") fd := T.c.dfn 13 rfl
noncomputable def fd__law_leaf (T : Txt K mg) : FuncData := (F0__law_leaf T).choose
theorem F__law_leaf (T : Txt K mg) : FnP K "_law_leaf" s__law_leaf (He.ga K "_law_leaf") (fd__law_leaf T) := (F0__law_leaf T).choose_spec
theorem g__law_leaf (T : Txt K mg) : mg "_law_leaf" = some (.ref (He.ga K "_law_leaf")) := T.gl (T.c.fact 5 rfl)
theorem kp__law_leaf (T : Txt K mg) : PySem.W.keepIn K (.ref (He.ga K "_law_leaf")) = true := (F__law_leaf T).kp
theorem B__law_leaf (T : Txt K mg) : Binds K (fd__law_leaf T) ["_law_tape_here"] [] := (F__law_leaf T).bindsN fun _ _ _ _ _ _ us hl => match us, hl with | [_], _ => rfl
theorem F0__law_thing (T : Txt K mg) : ∃ fd, FnP K "_law_thing" s__law_thing (He.ga K "_law_thing") fd := T.c.dfn 14 rfl
noncomputable def fd__law_thing (T : Txt K mg) : FuncData := (F0__law_thing T).choose
theorem F__law_thing (T : Txt K mg) : FnP K "_law_thing" s__law_thing (He.ga K "_law_thing") (fd__law_thing T) := (F0__law_thing T).choose_spec
theorem g__law_thing (T : Txt K mg) : mg "_law_thing" = some (.ref (He.ga K "_law_thing")) := T.gl (T.c.fact 6 rfl)
theorem kp__law_thing (T : Txt K mg) : PySem.W.keepIn K (.ref (He.ga K "_law_thing")) = true := (F__law_thing T).kp
theorem B__law_thing (T : Txt K mg) : Binds K (fd__law_thing T) ["_law_tape_here", "_law_deep"] [] := (F__law_thing T).bindsN fun _ _ _ _ _ _ us hl => match us, hl with | [_, _], _ => rfl
theorem F0__law_deep_thing (T : Txt K mg) : ∃ fd, FnP K "_law_deep_thing" s__law_deep_thing (He.ga K "_law_deep_thing") fd := T.c.dfn 15 rfl
noncomputable def fd__law_deep_thing (T : Txt K mg) : FuncData := (F0__law_deep_thing T).choose
theorem F__law_deep_thing (T : Txt K mg) : FnP K "_law_deep_thing" s__law_deep_thing (He.ga K "_law_deep_thing") (fd__law_deep_thing T) := (F0__law_deep_thing T).choose_spec
theorem g__law_deep_thing (T : Txt K mg) : mg "_law_deep_thing" = some (.ref (He.ga K "_law_deep_thing")) := T.gl (T.c.fact 7 rfl)
theorem kp__law_deep_thing (T : Txt K mg) : PySem.W.keepIn K (.ref (He.ga K "_law_deep_thing")) = true := (F__law_deep_thing T).kp
theorem B__law_deep_thing (T : Txt K mg) : Binds K (fd__law_deep_thing T) ["_law_tape_here"] [] := (F__law_deep_thing T).bindsN fun _ _ _ _ _ _ us hl => match us, hl with | [_], _ => rfl
theorem F0__law_written (T : Txt K mg) : ∃ fd, FnP K "_law_written" s__law_written (He.ga K "_law_written") fd := T.c.dfn 16 rfl
noncomputable def fd__law_written (T : Txt K mg) : FuncData := (F0__law_written T).choose
theorem F__law_written (T : Txt K mg) : FnP K "_law_written" s__law_written (He.ga K "_law_written") (fd__law_written T) := (F0__law_written T).choose_spec
theorem g__law_written (T : Txt K mg) : mg "_law_written" = some (.ref (He.ga K "_law_written")) := T.gl (T.c.fact 8 rfl)
theorem kp__law_written (T : Txt K mg) : PySem.W.keepIn K (.ref (He.ga K "_law_written")) = true := (F__law_written T).kp
theorem B__law_written (T : Txt K mg) : Binds K (fd__law_written T) ["_law_thing_here"] [] := (F__law_written T).bindsN fun _ _ _ _ _ _ us hl => match us, hl with | [_], _ => rfl
theorem F0__law_tuples (T : Txt K mg) : ∃ fd, FnP K "_law_tuples" s__law_tuples (He.ga K "_law_tuples") fd := T.c.dfn 17 rfl
noncomputable def fd__law_tuples (T : Txt K mg) : FuncData := (F0__law_tuples T).choose
theorem F__law_tuples (T : Txt K mg) : FnP K "_law_tuples" s__law_tuples (He.ga K "_law_tuples") (fd__law_tuples T) := (F0__law_tuples T).choose_spec
theorem g__law_tuples (T : Txt K mg) : mg "_law_tuples" = some (.ref (He.ga K "_law_tuples")) := T.gl (T.c.fact 9 rfl)
theorem kp__law_tuples (T : Txt K mg) : PySem.W.keepIn K (.ref (He.ga K "_law_tuples")) = true := (F__law_tuples T).kp
theorem B__law_tuples (T : Txt K mg) : Binds K (fd__law_tuples T) ["_law_thing_here"] [] := (F__law_tuples T).bindsN fun _ _ _ _ _ _ us hl => match us, hl with | [_], _ => rfl
theorem F0__law_same (T : Txt K mg) : ∃ fd, FnP K "_law_same" s__law_same (He.ga K "_law_same") fd := T.c.dfn 18 rfl
noncomputable def fd__law_same (T : Txt K mg) : FuncData := (F0__law_same T).choose
theorem F__law_same (T : Txt K mg) : FnP K "_law_same" s__law_same (He.ga K "_law_same") (fd__law_same T) := (F0__law_same T).choose_spec
theorem g__law_same (T : Txt K mg) : mg "_law_same" = some (.ref (He.ga K "_law_same")) := T.gl (T.c.fact 10 rfl)
theorem kp__law_same (T : Txt K mg) : PySem.W.keepIn K (.ref (He.ga K "_law_same")) = true := (F__law_same T).kp
theorem B__law_same (T : Txt K mg) : Binds K (fd__law_same T) ["_law_found", "_law_due"] [] := (F__law_same T).bindsN fun _ _ _ _ _ _ us hl => match us, hl with | [_, _], _ => rfl
theorem F0_law (T : Txt K mg) : ∃ fd, FnP K "law" s_law (He.ga K "law") fd := T.c.dfn 19 rfl
noncomputable def fd_law (T : Txt K mg) : FuncData := (F0_law T).choose
theorem F_law (T : Txt K mg) : FnP K "law" s_law (He.ga K "law") (fd_law T) := (F0_law T).choose_spec
theorem g_law (T : Txt K mg) : mg "law" = some (.ref (He.ga K "law")) := T.gl (T.c.fact 11 rfl)
theorem kp_law (T : Txt K mg) : PySem.W.keepIn K (.ref (He.ga K "law")) = true := (F_law T).kp
theorem B_law (T : Txt K mg) : Binds K (fd_law T) ["_law_script"] [] := (F_law T).bindsN fun _ _ _ _ _ _ us hl => match us, hl with | [_], _ => rfl
theorem g_PrimeError (T : Txt K mg) : mg "PrimeError" = some (.ref (He.ga K "PrimeError")) := T.gl (T.c.fact 12 rfl)
theorem g_NoText (T : Txt K mg) : mg "NoText" = some (.ref (He.ga K "NoText")) := T.gl (T.c.fact 13 rfl)
theorem g_Reader (T : Txt K mg) : mg "Reader" = some (.ref (He.ga K "Reader")) := T.gl (T.c.fact 14 rfl)
theorem c_Reader (T : Txt K mg) : Cls K (He.ga K "Reader") := He.cls_ok (T.c.fact 15 rfl)
theorem mk_Reader (T : Txt K mg) : Mk K (He.ga K "Reader") (He.ma K (He.ga K "Reader") "__init__") := He.mkr_ok (T.c.fact 16 rfl)
theorem n_Reader_here (T : Txt K mg) : NoAttr K (He.ga K "Reader") "here" := He.noat_ok (T.c.fact 17 rfl)
theorem n_Reader_text (T : Txt K mg) : NoAttr K (He.ga K "Reader") "text" := He.noat_ok (T.c.fact 18 rfl)
theorem x_NoText (T : Txt K mg) : XIn K (He.ga K "NoText") (He.ma K (He.ga K "NoText") "__init__") "line" := xin_of (T.c.fact 41 rfl)
theorem y_NoText (T : Txt K mg) : XIn K (He.ga K "NoText") (He.ma K (He.ga K "NoText") "__init__") "word" := xin_of (T.c.fact 42 rfl)
theorem F0_init_NoText (T : Txt K mg) : ∃ fd, FunD K "__init__" "NoText.__init__" (defArgs s_init_NoText) (defBody s_init_NoText) (defScope s_init_NoText) [] [] (He.ma K (He.ga K "NoText") "__init__") fd := T.c.dfn 20 rfl
noncomputable def fd_init_NoText (T : Txt K mg) : FuncData := (F0_init_NoText T).choose
theorem F_init_NoText (T : Txt K mg) : FunD K "__init__" "NoText.__init__" (defArgs s_init_NoText) (defBody s_init_NoText) (defScope s_init_NoText) [] [] (He.ma K (He.ga K "NoText") "__init__") (fd_init_NoText T) := (F0_init_NoText T).choose_spec
theorem B_init_NoText (T : Txt K mg) : Binds K (fd_init_NoText T) ["self", "line", "word"] [] := (F_init_NoText T).bindsN fun _ _ _ _ _ _ us hl => match us, hl with | [_, _, _], _ => rfl
theorem ok_init_NoText (T : Txt K mg) : FnOk P w K mg base CX0 1 (He.ma K (He.ga K "NoText") "__init__") (fd_init_NoText T) ["self", "line", "word"] (R.sp_init2 K (He.ga K "NoText") "line" "word") := by
  refine (F_init_NoText T).ok sc_init_NoText (fun vs H Q E h => ?_) (fun cdv A outer s H vs Q E hr h => ⟨_, PSs.nox (pss_cons (ps_expr (pe_cinit rfl (g_PrimeError T) (base_of (T.c.fact (t := fun K => baseB (He.ga K "PrimeError") K) 43 rfl)) (pa_cons (pv 0) (pa_cons pe_str pa_nil)))) (pss_cons (ps_ost (pv 0) (pv 1)) (pss_one (ps_ost (pv 0) (pv 2))))), ?_⟩)
  · obtain ⟨_, _, _, rfl, _⟩ := h; rfl
  · exact R.rd_init2 h
theorem z_PrimeError (T : Txt K mg) : Exc0 K (He.ga K "PrimeError") := exc0_of (T.c.fact 44 rfl)
/-- the tape of a law's draws: n of them are still let -/
def TpQ (H : Hp) (s q : Addr) (n : Nat) : Prop := ∃ (cs : List Int) (spot left : Int), H s = some (.dK [(.inr "cells", .ref q), (.inr "spot", .int spot), (.inr "left", .int left)]) ∧ H q = some (.lst (cs.map V.int)) ∧ cs.length ≤ 63 ∧ 0 ≤ spot ∧ spot + n ≤ 2 ^ 40
theorem TpQ.fr {H H' : Hp} {s q : Addr} {n : Nat} (h : TpQ H s q n) (e1 : ∀ o, H s = some o → H' s = some o) (e2 : ∀ o, H q = some o → H' q = some o) : TpQ H' s q n := by
  obtain ⟨cs, spot, left, h1, h2, h3⟩ := h
  exact ⟨cs, spot, left, e1 _ h1, e2 _ h2, h3⟩
theorem TpQ.same {H H' : Hp} {s q : Addr} {n : Nat} (h : TpQ H s q n) (e : Same H H') : TpQ H' s q n := h.fr (fun _ z => e _ _ z) fun _ z => e _ _ z
theorem TpQ.mono {H : Hp} {s q : Addr} {n m : Nat} (h : TpQ H s q n) (e : m ≤ n) : TpQ H s q m := by
  obtain ⟨cs, spot, left, h1, h2, h3, h4, h5⟩ := h
  exact ⟨cs, spot, left, h1, h2, h3, h4, by omega⟩
theorem TpQ.sx {H : Hp} {s q : Addr} {n : Nat} (h : TpQ H s q n) : ∃ kvs, H s = some (.dK kvs) ∧ kvs.head? = some (.inr "cells", .ref q) := by
  obtain ⟨cs, spot, left, h1, _⟩ := h
  exact ⟨_, h1, rfl⟩
theorem TpQ.qx {H : Hp} {s q : Addr} {n : Nat} (h : TpQ H s q n) : ∃ xs, H q = some (.lst xs) := by
  obtain ⟨cs, spot, left, _, h2, _⟩ := h
  exact ⟨_, h2⟩
def ivV : V → Int
  | .int i => i
  | _ => 0
/-- _law_tape(script) -/
def sp__law_tape (K : PySem.W.Frag) : Sp := fun vs H Q _ => ∃ (a : Addr) (ns : List Int), vs = [.ref a] ∧ ns.length ≤ 63 ∧ SqL K H a (ns.map V.int) ∧ ∀ s q H', H s = none → Same H H' → TpQ H' s q 1000000 → Q (.ref s) H'
theorem ok__law_tape (T : Txt K mg) : FnOk P w K mg base CX0 1 (He.ga K "_law_tape") (fd__law_tape T) ["_law_script"] (sp__law_tape K) := by
  refine (F__law_tape T).ok sc__law_tape (fun vs H Q E h => ?_) (fun cdv A outer s H vs Q E hr h => ⟨_, PSs.nox (pss_one (ps_ret (pe_disp (pps_cons pe_str (pe_slice sl_list (pv 0) po_none (po_some pe_int)) (pps_cons pe_str pe_int (pps_cons pe_str pe_int pps_nil))) rfl rfl (by simp) (by decide)))), ?_⟩)
  · obtain ⟨a, ns, rfl, _⟩ := h; rfl
  · obtain ⟨a, ns, rfl, hl, hS, k⟩ := h
    walk_at "g"
    refine s_disp fun p H1 np hd s1 => ?_
    walk_at "g"
    refine mkSl (s1.seq hS) fun q H2 nq eq s2 => ?_
    have zl := cutV_length (ns.map V.int) none (some 63)
    rw [List.length_map] at zl
    have npq : p ≠ q := fun z => by rw [← z, hd] at nq; cases nq
    have ecs : cutV (ns.map V.int) none (some 63) = ((cutV (ns.map V.int) none (some 63)).map ivV).map V.int := by
      rw [List.map_map]
      refine ((List.map_congr_left fun x hx => ?_).trans (List.map_id _)).symm
      obtain ⟨c, e, _⟩ := of_mem_ints (cutV_mem hx)
      rw [e]; rfl
    walk_at "g"
    refine mkDisp [(.inr "cells", .ref q), (.inr "spot", .int 0), (.inr "left", .int 0)] (s2 _ _ hd) rfl (by simp) fun H3 e3 s3 => ?_
    refine k p q H3 np (s3 H np (s1.trans s2)) ⟨(cutV (ns.map V.int) none (some 63)).map ivV, 0, 0, e3, ?_, ?_, Int.le_refl _, by decide⟩
    · rw [← ecs]
      refine s3 (fun b => if b = q then H2 q else none) (if_neg npq) (fun b o hb => ?_) q _ ((if_pos rfl).trans eq)
      have hb : (if b = q then H2 q else none) = some o := hb
      by_cases c : b = q
      · rw [if_pos c] at hb; rw [c]; exact hb
      · rw [if_neg c] at hb; cases hb
    · rw [List.length_map]; omega

/-- _law_draw(tape, many): a number from 0 to below many -/
def sp__law_draw (K : PySem.W.Frag) : Sp := fun vs H Q _ => ∃ (s q : Addr) (m : Int) (n : Nat), vs = [.ref s, .int m] ∧ 0 < m ∧ m < 2 ^ 900 ∧ 0 < n ∧ TpQ H s q n ∧ ∀ (z : Int) H', 0 ≤ z → z < m → TpQ H' s q (n - 1) → SameB s H H' → Q (.int z) H'
theorem tp_upd {H : Hp} {s q : Addr} {cs : List Int} {o : HO} {kvs : List (Key × V)} (h1 : H s = some (.dK kvs)) (h2 : H q = some (.lst (cs.map V.int))) : upd H s o q = some (.lst (cs.map V.int)) := by
  have : q ≠ s := fun z => by rw [z, h1] at h2; cases h2
  rw [upd_ne this]; exact h2
theorem ok__law_draw (T : Txt K mg) : FnOk P w K mg base CX0 1 (He.ga K "_law_draw") (fd__law_draw T) ["_law_tape_here", "_law_many"] (sp__law_draw K) := by
  refine (F__law_draw T).ok sc__law_draw (fun vs H Q E h => ?_) (fun cdv A outer s H vs Q E hr h => ⟨_, PSs.nox (pss_cons (ps_if (pt_cmpR op_gt (pe_dget (hu_of hr) (pv 0) pe_str (fun _ _ => rfl)) pe_int (nomark _)) (pss_cons (ps_set (i := 2) sc__law_draw.nd rfl (Or.inl rfl) (pe_op op_mod (pe_dget (hu_of hr) (pv 0) pe_str (fun _ _ => rfl)) (pv 1)))
      (pss_cons (ps_dput (hu_of hr) (pv 0) pe_str (pe_op op_fdivW (pe_dget (hu_of hr) (pv 0) pe_str (fun _ _ => rfl)) (pv 1)) rfl)
      (pss_one (ps_ret (pv 2))))) pss_nil)
      (pss_cons (ps_set (i := 3) sc__law_draw.nd rfl (Or.inl rfl) (pe_dget (hu_of hr) (pv 0) pe_str (fun _ _ => rfl)))
      (pss_cons (ps_dput (hu_of hr) (pv 0) pe_str (pe_op op_add (pv 3) pe_int) rfl)
      (pss_cons (ps_set (i := 4) sc__law_draw.nd rfl (Or.inl rfl) (pe_dget (hu_of hr) (pv 0) pe_str (fun _ _ => rfl)))
      (pss_cons (ps_set (i := 5) sc__law_draw.nd rfl (Or.inl rfl) pe_int)
      (pss_cons (ps_if (pt_cmpR op_gt (pe_callB callLen rfl (T.fr (T.c.fact 30 rfl)) boot_len (pa_cons (pv 4) pa_nil)) pe_int (nomark _)) (pss_one (ps_set (i := 5) sc__law_draw.nd rfl (Or.inl rfl) (pe_ix ix_seq (pv 4) (pe_op op_mod (pv 3) (pe_callB callLen rfl (T.fr (T.c.fact 30 rfl)) boot_len (pa_cons (pv 4) pa_nil))) (fun _ _ => rfl)))) pss_nil)
      (pss_cons (ps_if (PW.pt (pw_and (pt_cmpR op_gt (pv 5) pe_int (nomark _)) (pw_and (pt_cmpR op_eq (pe_op op_mod (pv 5) pe_int) pe_int (nomark _)) (pw_and1 (pt_cmpR op_lt (pv 3) (pe_callB callLen rfl (T.fr (T.c.fact 30 rfl)) boot_len (pa_cons (pv 4) pa_nil)) (nomark _)))))) (pss_cons (ps_dput (hu_of hr) (pv 0) pe_str (pe_op op_fdivW (pe_op op_fdivW (pv 5) pe_int) (pv 1)) rfl)
      (pss_one (ps_ret (pe_op op_mod (pe_op op_fdivW (pv 5) pe_int) (pv 1))))) pss_nil)
      (pss_cons (ps_set (i := 6) sc__law_draw.nd rfl (Or.inl rfl) (pe_op op_mod (pe_op op_mulW (pe_op op_add (pe_op op_add (pe_op op_add (pe_op op_mod (pv 5) pe_int) (pe_op op_mulW (pe_op op_mulW pe_int (pv 3)) (pv 3))) (pe_op op_mulW pe_int (pv 3))) pe_int) pe_int) pe_int))
      (pss_one (ps_ret (pe_op op_mod (pe_op op_fdivW (pe_op op_mod (pe_op op_mulW (pv 6) (pe_op op_add (pv 6) pe_int)) pe_int) pe_int) (pv 1)))))))))))), ?_⟩)
  · obtain ⟨s, q, m, n, rfl, _⟩ := h; rfl
  · obtain ⟨s, q, m, n, rfl, m0, m1, n0, ⟨cs, spot, left, hd, hq, hc, sp0, sp1⟩, k⟩ := h
    have hl : ∀ a b : Int, ([(.inr "cells", .ref q), (.inr "spot", .int a), (.inr "left", .int b)] : List (Key × V)).length < sizeLine := fun a b => small1000 (by simp)
    have v1 : ∀ a b : Int, valV ([(.inr "cells", .ref q), (.inr "spot", .int a), (.inr "left", .int b)] : List (Key × V)) (.inr "left") = some (.int b) := fun a b => by rfl
    have v2 : ∀ a b : Int, valV ([(.inr "cells", .ref q), (.inr "spot", .int a), (.inr "left", .int b)] : List (Key × V)) (.inr "spot") = some (.int a) := fun a b => by rfl
    have v3 : ∀ a b : Int, valV ([(.inr "cells", .ref q), (.inr "spot", .int a), (.inr "left", .int b)] : List (Key × V)) (.inr "cells") = some (.ref q) := fun a b => by rfl
    have p1 : ∀ a b x : Int, putK ([(.inr "cells", .ref q), (.inr "spot", .int a), (.inr "left", .int b)] : List (Key × V)) (.inr "left") (.int x) = [(.inr "cells", .ref q), (.inr "spot", .int a), (.inr "left", .int x)] := fun a b x => by rfl
    have p2 : ∀ a b x : Int, putK ([(.inr "cells", .ref q), (.inr "spot", .int a), (.inr "left", .int b)] : List (Key × V)) (.inr "spot") (.int x) = [(.inr "cells", .ref q), (.inr "spot", .int x), (.inr "left", .int b)] := fun a b x => by rfl
    walk_at "g"
    refine s_dgetS hd (v1 _ _) ?_
    walk_at "g"
    refine s_ite (fun c => ?_) (fun c => ?_)
    · walk_at "g"
      refine s_dgetS hd (v1 _ _) ?_
      walk_at "g"
      refine s_i (by omega) ?_
      walk_at "g"
      refine s_dgetS hd (v1 _ _) ?_
      walk_at "g"
      refine s_i (divW m0 (by omega)) ?_
      walk_at "g"
      refine s_dputS hd (hl _ _) ?_
      walk_at "g"
      rw [p1]
      exact k _ _ (Int.emod_nonneg _ (by omega)) (Int.emod_lt_of_pos _ m0) ⟨cs, spot, _, upd_same, tp_upd hd hq, hc, sp0, by omega⟩ SameB.put
    walk_at "g"
    refine s_dgetS hd (v2 _ _) ?_
    walk_at "g"
    refine s_dputS hd (hl _ _) ?_
    walk_at "g"
    rw [p2]
    have hd2 : upd H s (.dK [(.inr "cells", .ref q), (.inr "spot", .int (spot + 1)), (.inr "left", .int left)]) s = some (.dK [(.inr "cells", .ref q), (.inr "spot", .int (spot + 1)), (.inr "left", .int left)]) := upd_same
    have hq2 := tp_upd (o := .dK [(.inr "cells", .ref q), (.inr "spot", .int (spot + 1)), (.inr "left", .int left)]) hd hq
    have s2 : SameB s H (upd H s (.dK [(.inr "cells", .ref q), (.inr "spot", .int (spot + 1)), (.inr "left", .int left)])) := SameB.put
    generalize upd H s (.dK [(.inr "cells", .ref q), (.inr "spot", .int (spot + 1)), (.inr "left", .int left)]) = H2 at hd2 hq2 s2 ⊢
    refine s_dgetS hd2 (v3 _ _) ?_
    walk_at "h"
    refine s_join (fun σ' H' => H' = H2 ∧ ∃ c : Int, σ' = [some (.ref s), some (.int m), none, some (.int spot), some (.ref q), some (.int c), none]) ?_ fun N J => ?_
    case refine_2 =>
      walk_at "g"
      refine s_lenL (SqL.of hq2) ?_
      rw [List.length_map]
      walk_at "g"
      refine s_ite (fun c1 => ?_) (fun c1 => ?_)
      · have hc0 : 0 < cs.length := by omega
        walk_at "g"
        refine s_lenL (SqL.of hq2) ?_
        rw [List.length_map]
        walk_at "g"
        refine s_i (by omega) ?_
        walk_at "g"
        refine s_pickN (P := fun _ => True) cs hq2 ⟨Int.emod_nonneg _ (by omega), Int.emod_lt_of_pos _ (by omega)⟩ (fun _ _ => trivial) fun c _ => ?_
        walk_at "g"
        exact J _ _ ⟨rfl, c, rfl⟩
      · walk_at "g"
        exact J _ _ ⟨rfl, 0, rfl⟩
    rintro σ' H' ⟨rfl, c, rfl⟩
    have hss : (7919 * spot * spot).natAbs < 2 ^ 200 := by
      obtain ⟨t, rfl⟩ := Int.eq_ofNat_of_zero_le sp0
      have h1 : t ≤ 2 ^ 40 := by omega
      have h2 := Nat.mul_le_mul h1 h1
      have h3 : (7919 * (t : Int) * (t : Int)) = ((7919 * (t * t) : Nat) : Int) := by push_cast; rw [Int.mul_assoc]
      rw [h3]
      have : (2 : Nat) ^ 40 * 2 ^ 40 = 2 ^ 80 := by decide
      omega
    walk_at "g"
    refine s_ite (fun c1 => ?_) (fun c1 => ?_)
    · walk_at "g"
      refine s_ite (fun c2 => ?_) (fun c2 => ?_)
      · walk_at "g"
        refine s_lenL (SqL.of hq2) ?_
        rw [List.length_map]
        walk_at "g"
        refine s_ite (fun c3 => ?_) (fun c3 => ?_)
        · walk_at "g"
          refine s_i (divW m0 (by omega)) ?_
          walk_at "g"
          refine s_dputS hd2 (hl _ _) ?_
          walk_at "g"
          rw [p1]
          refine s_i (by omega) ?_
          exact k _ _ (Int.emod_nonneg _ (by omega)) (Int.emod_lt_of_pos _ m0) ⟨cs, spot + 1, _, upd_same, tp_upd hd2 hq2, hc, by omega, by omega⟩ (s2.trans SameB.put)
        · walk_at "g"
          try refine s_i (mulW (by omega) (by omega)) ?_
          walk_at "g"
          generalize hsd : (c % 2147483629 + 7919 * spot * spot + 48271 * spot + 1) * 69621 % 2147483647 = sd
          have sd0 : 0 ≤ sd := by rw [← hsd]; exact Int.emod_nonneg _ (by decide)
          have sd1 : sd < 2147483647 := by rw [← hsd]; exact Int.emod_lt_of_pos _ (by decide)
          clear hsd
          try refine s_i (mulW (by omega) (by omega)) ?_
          walk_at "g"
          refine s_i (by omega) ?_
          exact k _ _ (Int.emod_nonneg _ (by omega)) (Int.emod_lt_of_pos _ m0) ⟨cs, spot + 1, left, hd2, hq2, hc, by omega, by omega⟩ s2
      · walk_at "g"
        try refine s_i (mulW (by omega) (by omega)) ?_
        walk_at "g"
        generalize hsd : (c % 2147483629 + 7919 * spot * spot + 48271 * spot + 1) * 69621 % 2147483647 = sd
        have sd0 : 0 ≤ sd := by rw [← hsd]; exact Int.emod_nonneg _ (by decide)
        have sd1 : sd < 2147483647 := by rw [← hsd]; exact Int.emod_lt_of_pos _ (by decide)
        clear hsd
        try refine s_i (mulW (by omega) (by omega)) ?_
        walk_at "g"
        refine s_i (by omega) ?_
        exact k _ _ (Int.emod_nonneg _ (by omega)) (Int.emod_lt_of_pos _ m0) ⟨cs, spot + 1, left, hd2, hq2, hc, by omega, by omega⟩ s2
    · walk_at "g"
      try refine s_i (mulW (by omega) (by omega)) ?_
      walk_at "g"
      generalize hsd : (c % 2147483629 + 7919 * spot * spot + 48271 * spot + 1) * 69621 % 2147483647 = sd
      have sd0 : 0 ≤ sd := by rw [← hsd]; exact Int.emod_nonneg _ (by decide)
      have sd1 : sd < 2147483647 := by rw [← hsd]; exact Int.emod_lt_of_pos _ (by decide)
      clear hsd
      try refine s_i (mulW (by omega) (by omega)) ?_
      walk_at "g"
      refine s_i (by omega) ?_
      exact k _ _ (Int.emod_nonneg _ (by omega)) (Int.emod_lt_of_pos _ m0) ⟨cs, spot + 1, left, hd2, hq2, hc, by omega, by omega⟩ s2

/-! data of any kind, as they lie in the heap; F tells of which lists -/
mutual
inductive DaF (F : Addr → Prop) (H : Hp) : V → PyData → Prop
  | non : DaF F H .non .none
  | bl (b : Bool) : DaF F H (.bl b) (.bool b)
  | int (i : Int) : DaF F H (.int i) (.int i)
  | str (x : Str) : DaF F H (.str x) (.str x)
  | lst {a : Addr} {xs : List V} {ds : List PyData} (e : H a = some (.lst xs)) (h : DaL F H xs ds) (f : F a) : DaF F H (.ref a) (.list ds)
  | tup {a : Addr} {xs : List V} {ds : List PyData} (e : H a = some (.tup xs)) (h : DaL F H xs ds) : DaF F H (.ref a) (.tuple ds)
inductive DaL (F : Addr → Prop) (H : Hp) : List V → List PyData → Prop
  | nil : DaL F H [] []
  | cons {v : V} {d : PyData} {vs : List V} {ds : List PyData} (h : DaF F H v d) (t : DaL F H vs ds) : DaL F H (v :: vs) (d :: ds)
end
/-- data with any lists; data without lists -/
abbrev Da (H : Hp) : V → PyData → Prop := DaF (fun _ => True) H
abbrev Tu (H : Hp) : V → PyData → Prop := DaF (fun _ => False) H
mutual
theorem DaF.same {F : Addr → Prop} {H H' : Hp} (s : Same H H') : ∀ {v : V} {d : PyData}, DaF F H v d → DaF F H' v d
  | _, _, .non => .non
  | _, _, .bl b => .bl b
  | _, _, .int i => .int i
  | _, _, .str x => .str x
  | _, _, .lst e h f => .lst (s _ _ e) (DaL.same s h) f
  | _, _, .tup e h => .tup (s _ _ e) (DaL.same s h)
theorem DaL.same {F : Addr → Prop} {H H' : Hp} (s : Same H H') : ∀ {vs : List V} {ds : List PyData}, DaL F H vs ds → DaL F H' vs ds
  | _, _, .nil => .nil
  | _, _, .cons h t => .cons (DaF.same s h) (DaL.same s t)
end
mutual
theorem DaF.mono {F G : Addr → Prop} {H : Hp} (g : ∀ a, F a → G a) : ∀ {v : V} {d : PyData}, DaF F H v d → DaF G H v d
  | _, _, .non => .non
  | _, _, .bl b => .bl b
  | _, _, .int i => .int i
  | _, _, .str x => .str x
  | _, _, .lst e h f => .lst e (DaL.mono g h) (g _ f)
  | _, _, .tup e h => .tup e (DaL.mono g h)
theorem DaL.mono {F G : Addr → Prop} {H : Hp} (g : ∀ a, F a → G a) : ∀ {vs : List V} {ds : List PyData}, DaL F H vs ds → DaL G H vs ds
  | _, _, .nil => .nil
  | _, _, .cons h t => .cons (DaF.mono g h) (DaL.mono g t)
end
mutual
/-- a list that is none of them may change -/
theorem DaF.upd {F : Addr → Prop} {H : Hp} {p : Addr} {o : HO} {zs : List V} (hp : H p = some (.lst zs)) (n : ¬ F p) : ∀ {v : V} {d : PyData}, DaF F H v d → DaF F (L2.upd H p o) v d
  | _, _, .non => .non
  | _, _, .bl b => .bl b
  | _, _, .int i => .int i
  | _, _, .str x => .str x
  | _, _, @DaF.lst _ _ a _ _ e h f => .lst (by rw [upd_ne (show a ≠ p from fun z => n (z ▸ f))]; exact e) (DaL.upd hp n h) f
  | _, _, .tup e h => .tup (by rw [upd_ne (fun z => by rw [z, hp] at e; cases e)]; exact e) (DaL.upd hp n h)
theorem DaL.upd {F : Addr → Prop} {H : Hp} {p : Addr} {o : HO} {zs : List V} (hp : H p = some (.lst zs)) (n : ¬ F p) : ∀ {vs : List V} {ds : List PyData}, DaL F H vs ds → DaL F (L2.upd H p o) vs ds
  | _, _, .nil => .nil
  | _, _, .cons h t => .cons (DaF.upd hp n h) (DaL.upd hp n t)
end
mutual
theorem DaF.dp (K : PySem.W.Frag) {F : Addr → Prop} {H : Hp} : ∀ {v : V} {d : PyData}, DaF F H v d → Dp K H v d
  | _, _, .non => .non
  | _, _, .bl b => .bl b
  | _, _, .int i => .int i
  | _, _, .str x => .str x
  | _, _, .lst e h _ => .lst (SqL.of e) (DaL.dp K h)
  | _, _, .tup e h => .tup (SqT.of e) (DaL.dp K h)
theorem DaL.dp (K : PySem.W.Frag) {F : Addr → Prop} {H : Hp} : ∀ {vs : List V} {ds : List PyData}, DaL F H vs ds → DpAll K H vs ds
  | _, _, .nil => .nil
  | _, _, .cons h t => .cons (DaF.dp K h) (DaL.dp K t)
end
theorem DaF.any {F : Addr → Prop} {H : Hp} {v : V} {d : PyData} (h : DaF F H v d) : Da H v d := h.mono fun _ _ => trivial
theorem DaL.any {F : Addr → Prop} {H : Hp} {vs : List V} {ds : List PyData} (h : DaL F H vs ds) : DaL (fun _ => True) H vs ds := h.mono fun _ _ => trivial
theorem DaL.len {F : Addr → Prop} {H : Hp} : ∀ {vs : List V} {ds : List PyData}, DaL F H vs ds → vs.length = ds.length
  | _, _, .nil => rfl
  | _, _, .cons _ t => by rw [List.length_cons, List.length_cons, DaL.len t]
theorem DaL.get {F : Addr → Prop} {H : Hp} : ∀ {vs : List V} {ds : List PyData} {i : Nat} {v : V}, DaL F H vs ds → vs[i]? = some v → ∃ d, ds[i]? = some d ∧ DaF F H v d
  | _, _, _, _, .nil, e => by simp at e
  | _, _, 0, _, .cons h _, e => by simp at e; subst e; exact ⟨_, rfl, h⟩
  | _, _, i + 1, v, .cons _ t, e => by
    obtain ⟨d, h1, h2⟩ := DaL.get (i := i) t (by simpa using e)
    exact ⟨d, by simpa using h1, h2⟩
theorem DaL.get' {F : Addr → Prop} {H : Hp} : ∀ {vs : List V} {ds : List PyData} {i : Nat} {d : PyData}, DaL F H vs ds → ds[i]? = some d → ∃ v, vs[i]? = some v ∧ DaF F H v d
  | _, _, _, _, .nil, e => by simp at e
  | _, _, 0, _, .cons h _, e => by simp at e; subst e; exact ⟨_, rfl, h⟩
  | _, _, i + 1, d, .cons _ t, e => by
    obtain ⟨v, h1, h2⟩ := DaL.get' (i := i) t (by simpa using e)
    exact ⟨v, by simpa using h1, h2⟩
theorem DaL.app {F : Addr → Prop} {H : Hp} {ys : List V} {es : List PyData} (h' : DaL F H ys es) : ∀ {vs : List V} {ds : List PyData}, DaL F H vs ds → DaL F H (vs ++ ys) (ds ++ es)
  | _, _, .nil => h'
  | _, _, .cons h t => .cons h (DaL.app h' t)
theorem DaL.take {F : Addr → Prop} {H : Hp} : ∀ {vs : List V} {ds : List PyData} (n : Nat), DaL F H vs ds → DaL F H (vs.take n) (ds.take n)
  | _, _, 0, _ => by simp; exact .nil
  | _, _, _ + 1, .nil => .nil
  | _, _, n + 1, .cons h t => .cons h (DaL.take n t)
theorem DaL.drop {F : Addr → Prop} {H : Hp} : ∀ {vs : List V} {ds : List PyData} (n : Nat), DaL F H vs ds → DaL F H (vs.drop n) (ds.drop n)
  | _, _, 0, h => h
  | _, _, _ + 1, .nil => .nil
  | _, _, n + 1, .cons _ t => DaL.drop n t
theorem DaL.cut {F : Addr → Prop} {H : Hp} {vs : List V} {ds : List PyData} (h : DaL F H vs ds) (lo hi : Option Int) : ∃ n m, DaL F H (cutV vs lo hi) ((ds.drop n).take m) := ⟨_, _, (h.drop _).take _⟩
theorem DaL.rev {F : Addr → Prop} {H : Hp} : ∀ {vs : List V} {ds : List PyData}, DaL F H vs ds → DaL F H vs.reverse ds.reverse
  | _, _, .nil => .nil
  | _, _, .cons h t => by rw [List.reverse_cons, List.reverse_cons]; exact DaL.app (.cons h .nil) (DaL.rev t)
theorem DaL.two {F : Addr → Prop} {H : Hp} {vs : List V} {d e : PyData} {ds : List PyData} (h : DaL F H vs (d :: e :: ds)) : ∃ x y ys, vs = x :: y :: ys ∧ DaF F H x d ∧ DaF F H y e ∧ DaL F H ys ds := by
  cases h with
  | cons h t => cases t with
    | cons h2 t => exact ⟨_, _, _, rfl, h, h2, t⟩
theorem DaL.three {F : Addr → Prop} {H : Hp} {vs : List V} {d e f : PyData} {ds : List PyData} (h : DaL F H vs (d :: e :: f :: ds)) : ∃ x y z ys, vs = x :: y :: z :: ys ∧ DaF F H x d ∧ DaF F H y e ∧ DaF F H z f ∧ DaL F H ys ds := by
  obtain ⟨x, y, ys, rfl, h1, h2, h3⟩ := h.two
  cases h3 with
  | cons h3 t => exact ⟨_, _, _, _, rfl, h1, h2, h3, t⟩
/-- the kind's name -/
def tyN : PyData → String
  | .none => "NoneType"
  | .bool _ => "bool"
  | .int _ => "int"
  | .str _ => "str"
  | .list _ => "list"
  | .tuple _ => "tuple"
  | .dict _ => "dict"
theorem DaF.ty {K : PySem.W.Frag} {F : Addr → Prop} {H : Hp} {v : V} {d : PyData} (h : DaF F H v d) : TyOf K H v (.type (tyN d)) := by
  cases h with
  | non => exact .non
  | bl b => exact .bl b
  | int i => exact .int i
  | str x => exact .str x
  | lst e _ => exact .lst e
  | tup e _ => exact .tup e
def isInt : PyData → Bool
  | .int _ => true
  | .bool _ => true
  | _ => false
def isBool : PyData → Bool
  | .bool _ => true
  | _ => false
def isTup : PyData → Bool
  | .tuple _ => true
  | _ => false
def isLst : PyData → Bool
  | .list _ => true
  | _ => false
theorem kb_si : kitB "str" "int" = some false := by decide +kernel
theorem kb_sb : kitB "str" "bool" = some false := by decide +kernel
theorem kb_st : kitB "str" "tuple" = some false := by decide +kernel
theorem kb_sl : kitB "str" "list" = some false := by decide +kernel
theorem kb_lb : kitB "list" "bool" = some false := by decide +kernel
theorem kb_tb : kitB "tuple" "bool" = some false := by decide +kernel
section
variable {K : PySem.W.Frag} {F : Addr → Prop} {H : Hp} {Q : VK} {v : V} {d : PyData}
theorem s_isiInt (h : DaF F H v d) (q : Q (.bl (isInt d)) H) : rIsi K [v, .ty "int"] H Q := by
  cases h with
  | non => exact s_isi .non kb_ni q
  | bl b => exact s_isi (.bl b) kb_bi q
  | int i => exact s_isi (.int i) kb_ii q
  | str x => exact s_isi (.str x) kb_si q
  | lst e _ => exact s_isi (.lst e) kb_li q
  | tup e _ => exact s_isi (.tup e) kb_ti q
theorem s_isiBool (h : DaF F H v d) (q : Q (.bl (isBool d)) H) : rIsi K [v, .ty "bool"] H Q := by
  cases h with
  | non => exact s_isi .non kb_nb q
  | bl b => exact s_isi (.bl b) kb_bb q
  | int i => exact s_isi (.int i) kb_ib q
  | str x => exact s_isi (.str x) kb_sb q
  | lst e _ => exact s_isi (.lst e) kb_lb q
  | tup e _ => exact s_isi (.tup e) kb_tb q
theorem s_isiTup (h : DaF F H v d) (q : Q (.bl (isTup d)) H) : rIsi K [v, .ty "tuple"] H Q := by
  cases h with
  | non => exact s_isi .non kb_nt q
  | bl b => exact s_isi (.bl b) kb_bt q
  | int i => exact s_isi (.int i) kb_it q
  | str x => exact s_isi (.str x) kb_st q
  | lst e _ => exact s_isi (.lst e) kb_lt q
  | tup e _ => exact s_isi (.tup e) kb_tt q
theorem s_isiLst (h : DaF F H v d) (q : Q (.bl (isLst d)) H) : rIsi K [v, .ty "list"] H Q := by
  cases h with
  | non => exact s_isi .non kb_nl q
  | bl b => exact s_isi (.bl b) kb_bl q
  | int i => exact s_isi (.int i) kb_il q
  | str x => exact s_isi (.str x) kb_sl q
  | lst e _ => exact s_isi (.lst e) kb_ll q
  | tup e _ => exact s_isi (.tup e) kb_tl q
end
/-- not too deep, not too long, no great numbers -/
inductive Bd : Nat → PyData → Prop
  | non {n : Nat} : Bd n .none
  | bl {n : Nat} (b : Bool) : Bd n (.bool b)
  | int {n : Nat} {i : Int} (h : i.natAbs < 2 ^ 300) : Bd n (.int i)
  | str {n : Nat} (x : Str) (h : PyData.strOk x = true) : Bd n (.str x)
  | lst {n : Nat} {ds : List PyData} (l : ds.length ≤ 999) (h : ∀ d ∈ ds, Bd n d) : Bd (n + 1) (.list ds)
  | tup {n : Nat} {ds : List PyData} (l : ds.length ≤ 999) (h : ∀ d ∈ ds, Bd n d) : Bd (n + 1) (.tuple ds)
theorem Bd.mono : ∀ {n m : Nat} {d : PyData}, Bd n d → n ≤ m → Bd m d := by
  intro n m d h
  induction h generalizing m with
  | non => intro _; exact .non
  | bl b => intro _; exact .bl b
  | int h => intro _; exact .int h
  | str x h => intro _; exact .str x h
  | lst l _ ih =>
    intro e
    obtain ⟨k, rfl⟩ : ∃ k, m = k + 1 := ⟨m - 1, by omega⟩
    exact .lst l fun d hd => ih d hd (by omega)
  | tup l _ ih =>
    intro e
    obtain ⟨k, rfl⟩ : ∃ k, m = k + 1 := ⟨m - 1, by omega⟩
    exact .tup l fun d hd => ih d hd (by omega)
theorem Bd.tup_inv {n : Nat} {ds : List PyData} (h : Bd n (.tuple ds)) : ∃ m, n = m + 1 ∧ ds.length ≤ 999 ∧ ∀ d ∈ ds, Bd m d := by
  cases h with
  | tup l h => exact ⟨_, rfl, l, h⟩
theorem Bd.lst_inv {n : Nat} {ds : List PyData} (h : Bd n (.list ds)) : ∃ m, n = m + 1 ∧ ds.length ≤ 999 ∧ ∀ d ∈ ds, Bd m d := by
  cases h with
  | lst l h => exact ⟨_, rfl, l, h⟩
theorem Bd.int_inv {n : Nat} {i : Int} (h : Bd n (.int i)) : i.natAbs < 2 ^ 300 := by
  cases h with
  | int h => exact h
theorem Bd.lay {n : Nat} {d : PyData} (h : Bd n d) : d.canLay0 = true ∧ d.depth ≤ n := by
  induction h with
  | non => exact ⟨by simp [PyData.canLay0], by simp [PyData.depth]⟩
  | bl b => exact ⟨by simp [PyData.canLay0], by simp [PyData.depth]⟩
  | int h => exact ⟨by simp [PyData.canLay0], by simp [PyData.depth]⟩
  | str x h => exact ⟨by simp [PyData.canLay0, h], by simp [PyData.depth]⟩
  | lst l _ ih => exact ⟨by simp only [PyData.canLay0]; exact layAll fun d hd => (ih d hd).1, by simp only [PyData.depth]; have := depAll fun d hd => (ih d hd).2; omega⟩
  | tup l _ ih => exact ⟨by simp only [PyData.canLay0]; exact layAll fun d hd => (ih d hd).1, by simp only [PyData.depth]; have := depAll fun d hd => (ih d hd).2; omega⟩
theorem Bd.shaped {n : Nat} {d : PyData} (h : Bd n d) (hn : n ≤ 64) : SeqAt.shaped d = true := by
  unfold SeqAt.shaped
  rw [h.lay.1, Bool.true_and]
  exact decide_eq_true (Nat.le_trans h.lay.2 hn)
/-- a whole number from l on -/
def isW (l : Int) : PyData → Bool
  | .int i => decide (l ≤ i)
  | _ => false
/-- a tuple of k things -/
def isR (k : Int) : PyData → Bool
  | .tuple ds => decide ((ds.length : Int) = k)
  | _ => false
theorem isW_inv {l : Int} {d : PyData} (h : isW l d = true) : ∃ i, d = .int i ∧ l ≤ i := by
  cases d <;> first | exact ⟨_, rfl, of_decide_eq_true h⟩ | cases h
theorem isR_inv {k : Int} {d : PyData} (h : isR k d = true) : ∃ ds, d = .tuple ds ∧ (ds.length : Int) = k := by
  cases d <;> first | exact ⟨_, rfl, of_decide_eq_true h⟩ | cases h
theorem isW_int (l i : Int) : isW l (.int i) = decide (l ≤ i) := rfl
theorem isR_tup (k : Int) (ds : List PyData) : isR k (.tuple ds) = decide ((ds.length : Int) = k) := rfl
/-- the same, to be computed -/
def bdB : Nat → PyData → Bool
  | _, .none => true
  | _, .bool _ => true
  | _, .int i => decide (i.natAbs < 2 ^ 300)
  | _, .str x => PyData.strOk x
  | n + 1, .list ds => decide (ds.length ≤ 999) && ds.all (bdB n)
  | n + 1, .tuple ds => decide (ds.length ≤ 999) && ds.all (bdB n)
  | _, _ => false
theorem bdB_ok : ∀ {n : Nat} {d : PyData}, bdB n d = true → Bd n d
  | _, .none, _ => .non
  | _, .bool b, _ => .bl b
  | _, .int i, h => .int (by simpa [bdB] using h)
  | _, .str x, h => .str x (by simpa [bdB] using h)
  | n + 1, .list ds, h => by
    simp only [bdB, Bool.and_eq_true, decide_eq_true_eq, List.all_eq_true] at h
    exact .lst h.1 fun d hd => bdB_ok (h.2 d hd)
  | n + 1, .tuple ds, h => by
    simp only [bdB, Bool.and_eq_true, decide_eq_true_eq, List.all_eq_true] at h
    exact .tup h.1 fun d hd => bdB_ok (h.2 d hd)
  | 0, .list _, h => by simp [bdB] at h
  | 0, .tuple _, h => by simp [bdB] at h
  | 0, .dict _, h => by simp [bdB] at h
  | _ + 1, .dict _, h => by simp [bdB] at h

open Tx
/-- a reader of the text S at r, at the place h -/
def RdAt (K : PySem.W.Frag) (H : Hp) (r : Addr) (S : Str) (h : Nat) : Prop := ∃ dx, H r = some (.ins (He.ga K "Reader") dx [("text", .str S), ("here", .int (h : Nat))])
theorem RdAt.same {K : PySem.W.Frag} {H H' : Hp} {r : Addr} {S : Str} {h : Nat} (e : RdAt K H r S h) (s : Same H H') : RdAt K H' r S h := by
  obtain ⟨dx, e⟩ := e
  exact ⟨dx, s _ _ e⟩
theorem RdAt.upd {K : PySem.W.Frag} {H : Hp} {r l : Addr} {S : Str} {h : Nat} {o : HO} {xs : List V} (e : RdAt K H r S h) (hl : H l = some (.lst xs)) : RdAt K (L2.upd H l o) r S h := by
  obtain ⟨dx, e⟩ := e
  exact ⟨dx, by rw [upd_ne (fun z => by rw [z, hl] at e; cases e)]; exact e⟩
/-- what is not at r is not at a reader -/
theorem RdAt.new {K : PySem.W.Frag} {H : Hp} {r b : Addr} {S : Str} {h : Nat} (e : RdAt K H r S h) (n : H b = none) : b ≠ r := fun z => by
  obtain ⟨dx, e⟩ := e
  rw [z, e] at n; cases n
theorem RdAt.tup {K : PySem.W.Frag} {H H' : Hp} {r b : Addr} {S : Str} {h : Nat} {xs : List V} (e : RdAt K H r S h) (s : SameB r H H') (hb : H b = some (.tup xs)) : H' b = some (.tup xs) := s b _ (fun z => by
  obtain ⟨dx, e⟩ := e
  rw [z, e] at hb; cases hb) hb
theorem RdAt.lst {K : PySem.W.Frag} {H H' : Hp} {r b : Addr} {S : Str} {h : Nat} {xs : List V} (e : RdAt K H r S h) (s : SameB r H H') (hb : H b = some (.lst xs)) : H' b = some (.lst xs) := s b _ (fun z => by
  obtain ⟨dx, e⟩ := e
  rw [z, e] at hb; cases hb) hb
mutual
theorem DaF.rd {K : PySem.W.Frag} {F : Addr → Prop} {H H' : Hp} {r : Addr} {S : Str} {h : Nat} (R : RdAt K H r S h) (s : SameB r H H') : ∀ {v : V} {d : PyData}, DaF F H v d → DaF F H' v d
  | _, _, .non => .non
  | _, _, .bl b => .bl b
  | _, _, .int i => .int i
  | _, _, .str x => .str x
  | _, _, .lst e h f => .lst (R.lst s e) (DaL.rd R s h) f
  | _, _, .tup e h => .tup (R.tup s e) (DaL.rd R s h)
theorem DaL.rd {K : PySem.W.Frag} {F : Addr → Prop} {H H' : Hp} {r : Addr} {S : Str} {h : Nat} (R : RdAt K H r S h) (s : SameB r H H') : ∀ {vs : List V} {ds : List PyData}, DaL F H vs ds → DaL F H' vs ds
  | _, _, .nil => .nil
  | _, _, .cons h t => .cons (DaF.rd R s h) (DaL.rd R s t)
end
/-- refused at the place w -/
def NoTB (K : PySem.W.Frag) (H : Hp) (r : Addr) (w : Int) (E : XK) : Prop := ∀ d H', H d = none → SameB r H H' → H' d = some (.xd [("word", .int w), ("line", .int 0)]) → E (.ref (He.ga K "NoText")) (some d) H'
theorem NoTB.of {K : PySem.W.Frag} {H H1 : Hp} {r : Addr} {w : Int} {E : XK} {S : Str} {h : Nat} (k : NoTB K H r w E) (R : RdAt K H1 r S h) (s : SameB r H H1) : NoTB K H1 r w E := fun d H' nd s' e => k d H' (by
  cases c : H d with
  | none => rfl
  | some o =>
    have := s d o (R.new nd) c
    rw [nd] at this; cases this) (s.trans s') e
/-- Reader(text) -/
def sp_Reader___init__ (K : PySem.W.Frag) : Sp := fun vs H Q _ => ∃ (x dx : Addr) (S : Str), vs = [.ref x, .str S] ∧ H x = some (.ins (He.ga K "Reader") dx []) ∧ ∀ H', RdAt K H' x S 0 → SameB x H H' → Q .non H'
theorem ok_Reader___init__ (T : Txt K mg) : FnOk P w K mg base CX0 1 (He.ma K (He.ga K "Reader") "__init__") (fd_Reader___init__ T) ["self", "text"] (sp_Reader___init__ K) := by
  refine (F_Reader___init__ T).ok sc_Reader___init__ (fun vs H Q E h => ?_) (fun cdv A outer s H vs Q E hr h => ⟨_, PSs.nox (pss_cons (ps_fld (pv 0) (pv 1) rfl)
      (pss_one (ps_fld (pv 0) pe_int rfl))), ?_⟩)
  · obtain ⟨x, dx, S, rfl, _⟩ := h; rfl
  · obtain ⟨x, dx, S, rfl, e, k⟩ := h
    walk_at "G"
    refine mkSFld e (c_Reader T) (n_Reader_text T) (by simp) ?_
    walk_at "G"
    refine mkSFld (C := He.ga K "Reader") (dx := dx) (fs := [("text", .str S)]) upd_same (c_Reader T) (n_Reader_here T) (by simp) ?_
    walk_at "G"
    exact k _ ⟨dx, upd_same⟩ (SameB.put.trans SameB.put)
theorem mkReader {K : PySem.W.Frag} {H : Hp} {Q : VK} {E : XK} {S : Str} (k : ∀ x H', H x = none → RdAt K H' x S 0 → Same H H' → Q (.ref x) H') : MakeQ (He.ga K "Reader") (sp_Reader___init__ K) E Q [.str S] H := fun x dx nx ndx nex =>
  ⟨x, dx, S, rfl, upd_same, fun H' e1 s => ⟨rfl, k x H' nx e1 fun b o e => by
    have hbx : b ≠ x := ne_of_none e nx
    have hbd : b ≠ dx := ne_of_none e ndx
    exact s b o hbx (by rw [upd_ne hbx, upd_ne hbd]; exact e)⟩⟩
/-- some signs, as a test -/
def inZ (z : Str) (c : Nat) : Bool := decide (c ∈ TL.tl z)
/-- reader.sees(signs) -/
def sp_Reader_sees (K : PySem.W.Frag) : Sp := fun vs H Q _ => ∃ (r : Addr) (S z : Str) (h : Nat), vs = [.ref r, .str z] ∧ RdAt K H r S h ∧ S.length ≤ sizeLine ∧ Q (.bl (sees (inZ z) ((TL.tl S).drop h))) H
theorem ok_Reader_sees (T : Txt K mg) : FnOk P w K mg base CX0 1 (He.ma K (He.ga K "Reader") "sees") (fd_Reader_sees T) ["self", "signs"] (sp_Reader_sees K) := by
  refine (F_Reader_sees T).ok sc_Reader_sees (fun vs H Q E h => ?_) (fun cdv A outer s H vs Q E hr h => ⟨_, PSs.nox (pss_one (ps_ret (pe_and (pe_cmpR op_lt (pe_fld (pv 0) rfl) (pe_callB call_len_str rfl (T.fr (T.c.fact 30 rfl)) boot_len (pa_cons (pe_fld (pv 0) rfl) pa_nil)) (nomark _)) (pe_one (pe_cmpR op_inS (pe_ix ix_str (pe_fld (pv 0) rfl) (pe_fld (pv 0) rfl) (fun _ _ => rfl)) (pv 1) rfl))))), ?_⟩)
  · obtain ⟨r, S, z, h, rfl, _⟩ := h; rfl
  · obtain ⟨r, S, z, h, rfl, ⟨dx, e⟩, hl, k⟩ := h
    have eL : S.length = (TL.tl S).length := Array.length_toList.symm
    walk_at "G"
    refine mkFld e (c_Reader T) (n_Reader_here T) (by rfl) ?_
    walk_at "G"
    refine mkFld e (c_Reader T) (n_Reader_text T) (by rfl) ?_
    walk_at "G"
    refine ⟨S, rfl, hl, ?_⟩
    walk_at "G"
    refine s_ite (fun c => ?_) (fun c => ?_)
    · have hlt : h < (TL.tl S).length := by omega
      walk_at "G"
      refine mkFld e (c_Reader T) (n_Reader_text T) (by rfl) ?_
      walk_at "G"
      refine mkFld e (c_Reader T) (n_Reader_here T) (by rfl) ?_
      refine ⟨S, h, (TL.tl S)[h], rfl, rfl, hl, atI0 h rfl (List.getElem?_eq_getElem hlt), ?_⟩
      walk_at "G"
      refine ⟨_, z, rfl, rfl, ?_⟩
      rw [List.drop_eq_getElem_cons hlt] at k
      exact k
    · rw [List.drop_eq_nil_of_le (by omega)] at k
      exact k
/-- reader.fails() -/
def sp_Reader_fails (K : PySem.W.Frag) : Sp := fun vs H _ E => ∃ (r : Addr) (S : Str) (h : Nat), vs = [.ref r] ∧ RdAt K H r S h ∧ NoTB K H r h E
theorem ok_Reader_fails (T : Txt K mg) : FnOk P w K mg base (L2.CX P w) 4 (He.ma K (He.ga K "Reader") "fails") (fd_Reader_fails T) ["self"] (sp_Reader_fails K) := by
  refine (F_Reader_fails T).ok sc_Reader_fails (fun vs H Q E h => ?_) (fun cdv A outer s H vs Q E hr h => ⟨_, (pss_one (ps_raise rfl (takes_of rfl rfl rfl rfl) (pmk_oex (x_NoText T).oex (x_NoText T).iC (x_NoText T).tI (ok_init_NoText T) (hr.mono (by decide)) (B_init_NoText T) .nil pass0 rfl (g_NoText T) (pa_cons pe_int (pa_cons (pe_fld (pv 0) rfl) pa_nil))))), ?_⟩)
  · obtain ⟨r, S, h, rfl, _⟩ := h; rfl
  · obtain ⟨r, S, h, rfl, ⟨dx, e⟩, k⟩ := h
    walk_at "G"
    refine mkFld e (c_Reader T) (n_Reader_here T) (by rfl) ?_
    walk_at "G"
    refine R.s_raise2 (x_NoText T).oex (x_NoText T).noF (y_NoText T).noF fun d H1 nd he s => ?_
    exact k d H1 nd (SameB.of s) he

open Tx
theorem cut_mid {S : Str} {a b : Nat} (h1 : a ≤ b) (h2 : b ≤ S.length) : cutS S (some (a : Int)) (some (b : Int)) = ⟨(((TL.tl S).drop a).take (b - a)).toArray⟩ := by
  unfold cutS
  rw [HT.sIx_nat, HT.sIx_nat, Nat.min_eq_left (show a ≤ S.length by omega), Nat.min_eq_left h2]
theorem inF (c : Nat) : inZ "0123456789" c = isF c := by
  have e : TL.tl ("0123456789" : Str) = [48, 49, 50, 51, 52, 53, 54, 55, 56, 57] := by decide +kernel
  unfold inZ isF
  rw [e, ← Bool.decide_and]
  refine decide_eq_decide.mpr ?_
  simp only [List.mem_cons, List.not_mem_nil, or_false]
  omega
theorem inA (c : Nat) : inZ "abcdefghijklmnopqrstuvwxyz" c = isA c := by
  have e : TL.tl ("abcdefghijklmnopqrstuvwxyz" : Str) = [97, 98, 99, 100, 101, 102, 103, 104, 105, 106, 107, 108, 109, 110, 111, 112, 113, 114, 115, 116, 117, 118, 119, 120, 121, 122] := by decide +kernel
  unfold inZ isA
  rw [e, ← Bool.decide_and]
  refine decide_eq_decide.mpr ?_
  simp only [List.mem_cons, List.not_mem_nil, or_false]
  omega
theorem inOne {z : Str} {k : Nat} (e : TL.tl z = [k]) (c : Nat) : inZ z c = is1 k c := by
  unfold inZ is1
  rw [e]
  simp
theorem in0 (c : Nat) : inZ "0" c = is1 48 c := inOne (by decide +kernel) c
theorem inM (c : Nat) : inZ "-" c = is1 45 c := inOne (by decide +kernel) c
theorem inO (c : Nat) : inZ "(" c = is1 40 c := inOne (by decide +kernel) c
theorem inC (c : Nat) : inZ ")" c = is1 41 c := inOne (by decide +kernel) c
theorem inB (c : Nat) : inZ " " c = is1 32 c := inOne (by decide +kernel) c
/-- reader.run(signs, most) -/
def sp_Reader_run (K : PySem.W.Frag) : Sp := fun vs H Q E => ∃ (r : Addr) (S z : Str) (h m : Nat), vs = [.ref r, .str z, .int (m : Nat)] ∧ RdAt K H r S h ∧ S.length ≤ sizeLine ∧ h ≤ S.length ∧
  (∀ H', (((TL.tl S).drop h).takeWhile (inZ z)).length ≤ m → RdAt K H' r S (h + (((TL.tl S).drop h).takeWhile (inZ z)).length) → SameB r H H' → Q (.str ⟨(((TL.tl S).drop h).takeWhile (inZ z)).toArray⟩) H') ∧
  (m < (((TL.tl S).drop h).takeWhile (inZ z)).length → NoTB K H r ((h + m : Nat) : Int) E)
theorem ok_Reader_run (T : Txt K mg) : FnOk P w K mg base (L2.CX P w) 5 (He.ma K (He.ga K "Reader") "run") (fd_Reader_run T) ["self", "signs", "most"] (sp_Reader_run K) := by
  refine (F_Reader_run T).ok sc_Reader_run (fun vs H Q E h => ?_) (fun cdv A outer s H vs Q E hr h => ⟨_, (pss_cons (ps_set (i := 3) sc_Reader_run.nd rfl (Or.inl rfl) (pe_fld (pv 0) rfl))
      (pss_cons (ps_while (passes_of rfl) (pt_val (pe_meth (pv 0) (c_Reader T) (m_Reader_sees T) (ok_Reader_sees T) (hr.mono (by decide)) (B_Reader_sees T) .nil pass0 (pa_cons (pv 1) pa_nil))) (pss_cons (ps_if (pt_cmpR op_eq (pe_op op_sub (pe_fld (pv 0) rfl) (pv 3)) (pv 2) (nomark _)) (pss_one (ps_expr (pe_meth0 (pv 0) (c_Reader T) (m_Reader_fails T) (ok_Reader_fails T) (hr.mono (by decide)) (B_Reader_fails T) .nil (passes_call (takes_of rfl rfl rfl rfl) (fun _ _ _ _ h => h))))) pss_nil)
      (pss_one (ps_fld (pv 0) (pe_op op_add (pe_fld (pv 0) rfl) pe_int) rfl))))
      (pss_one (ps_ret (pe_slice sl_str (pe_fld (pv 0) rfl) (po_some (pv 3)) (po_some (pe_fld (pv 0) rfl))))))), ?_⟩)
  · obtain ⟨r, S, z, h, m, rfl, _⟩ := h; rfl
  · obtain ⟨r, S, z, h, m, rfl, hR, hl, hh, k1, k2⟩ := h
    have eL : S.length = (TL.tl S).length := Array.length_toList.symm
    obtain ⟨dx, e⟩ := hR
    walk_at "G"
    refine mkFld e (c_Reader T) (n_Reader_here T) (by rfl) ?_
    walk_at "G"
    have hwl := tw_le (p := inZ z) (cs := (TL.tl S).drop h)
    rw [List.length_drop] at hwl
    have e0 : (((TL.tl S).drop h).takeWhile (inZ z)) = ((TL.tl S).drop h).takeWhile (inZ z) := rfl
    generalize hw : (((TL.tl S).drop h).takeWhile (inZ z)).length = n at hwl k1 k2
    refine s_while (fun σ H' => ∃ j : Nat, σ = [some (.ref r), some (.str z), some (.int (m : Nat)), some (.int (h : Nat))] ∧ j ≤ m ∧ j ≤ n ∧ RdAt K H' r S (h + j) ∧ SameB r H H') (fun σ H' => match H' r with
      | some (.ins _ _ [_, (_, .int i)]) => (h + n + 1 : Nat) - i.toNat
      | _ => 0) ⟨0, rfl, Nat.zero_le _, Nat.zero_le _, ⟨dx, e⟩, SameB.refl _ _⟩ ?_
    rintro σ H' ⟨j, rfl, jm, jn, hR1, s1⟩
    have hR1' := hR1
    obtain ⟨dx1, e1⟩ := hR1
    walk_at "G"
    refine mkMeth e1 (by rfl) ?_
    walk_at "G"
    refine ⟨r, S, z, h + j, rfl, hR1', hl, ?_⟩
    have ed : (TL.tl S).drop (h + j) = ((TL.tl S).drop h).drop j := by rw [List.drop_drop]
    have hs := tw_drop (p := inZ z) (cs := (TL.tl S).drop h) (j := j) (by omega)
    rw [← ed, hw] at hs
    cases c : sees (inZ z) ((TL.tl S).drop (h + j)) with
    | true =>
      have hj := hs.mp c
      walk_at "G"
      refine mkFld e1 (c_Reader T) (n_Reader_here T) (by rfl) ?_
      walk_at "G"
      refine s_ite (fun c2 => ?_) (fun c2 => ?_)
      · have ejm : j = m := by omega
        subst ejm
        walk_at "G"
        refine mkMeth e1 (by rfl) ?_
        walk_at "G"
        exact ⟨r, S, h + j, rfl, hR1', (k2 hj).of hR1' s1⟩
      · walk_at "G"
        refine mkFld e1 (c_Reader T) (n_Reader_here T) (by rfl) ?_
        walk_at "G"
        refine mkSFld e1 (c_Reader T) (n_Reader_here T) (by simp) ?_
        walk_at "G"
        refine ⟨⟨j + 1, rfl, by omega, by omega, ⟨dx1, ?_⟩, s1.trans SameB.put⟩, ?_⟩
        · rw [upd_same]; rfl
        · rw [upd_same, e1]
          show h + n + 1 - (((h + j : Nat) : Int) + 1).toNat < h + n + 1 - ((h + j : Nat) : Int).toNat
          omega
    | false =>
      have hj : j = n := by
        have : ¬ j < n := fun z => by rw [hs.mpr z] at c; cases c
        omega
      subst hj
      walk_at "G"
      refine mkFld e1 (c_Reader T) (n_Reader_text T) (by rfl) ?_
      walk_at "G"
      refine mkFld e1 (c_Reader T) (n_Reader_here T) (by rfl) ?_
      walk_at "G"
      refine ⟨S, rfl, hl, ?_⟩
      rw [cut_mid (by omega) (by omega), show h + j - h = (((TL.tl S).drop h).takeWhile (inZ z)).length by omega, tw_take]
      exact k1 H' jm hR1' s1
theorem drop_tail {l : List Nat} {h : Nat} : l.drop (h + 1) = (l.drop h).tail := by rw [List.tail_drop]
theorem tw_congr {p q : Nat → Bool} (h : ∀ c, p c = q c) : p = q := funext h
/-- reader.number(), where a figure stands -/
def sp_Reader_number (K : PySem.W.Frag) : Sp := fun vs H Q E => ∃ (r : Addr) (S : Str) (h : Nat), vs = [.ref r] ∧ RdAt K H r S h ∧ S.length ≤ sizeLine ∧ sees isF ((TL.tl S).drop h) = true ∧
  (∀ (i : Int) (rest : List Nat) (h' : Nat) H', numM ((TL.tl S).drop h) = .ok (.int i) rest → rest = (TL.tl S).drop h' → h < h' → h' ≤ S.length → RdAt K H' r S h' → SameB r H H' → Q (.int i) H') ∧
  (∀ (rest : List Nat) (w : Nat), numM ((TL.tl S).drop h) = .no rest → rest = (TL.tl S).drop w → w ≤ S.length → NoTB K H r w E)
theorem ok_Reader_number (T : Txt K mg) : FnOk P w K mg base (L2.CX P w) 6 (He.ma K (He.ga K "Reader") "number") (fd_Reader_number T) ["self"] (sp_Reader_number K) := by
  refine (F_Reader_number T).ok sc_Reader_number (fun vs H Q E h => ?_) (fun cdv A outer s H vs Q E hr h => ⟨_, (pss_cons (ps_if (pt_not (pt_val (pe_meth (pv 0) (c_Reader T) (m_Reader_sees T) (ok_Reader_sees T) (hr.mono (by decide)) (B_Reader_sees T) .nil pass0 (pa_cons pe_str pa_nil)))) (pss_one (ps_ret (pe_callTy call_int_str rfl (T.fr (T.c.fact 31 rfl)) boot_int (pa_cons (pe_meth (pv 0) (c_Reader T) (m_Reader_run T) (ok_Reader_run T) (hr.mono (by decide)) (B_Reader_run T) .nil (passes_call (takes_of rfl rfl rfl rfl) (fun _ _ _ _ h => h)) (pa_cons (pe_glob (v := .str "0123456789") rfl (T.str_ok (T.c.fact 39 rfl)).choose_spec ⟨_, rfl⟩) (pa_cons (pe_glob (v := .int 60) rfl (T.int_ok (T.c.fact 36 rfl)).choose_spec ⟨_, rfl⟩) pa_nil))) pa_nil)))) pss_nil)
      (pss_cons (ps_fld (pv 0) (pe_op op_add (pe_fld (pv 0) rfl) pe_int) rfl)
      (pss_cons (ps_if (pt_val (pe_meth (pv 0) (c_Reader T) (m_Reader_sees T) (ok_Reader_sees T) (hr.mono (by decide)) (B_Reader_sees T) .nil pass0 (pa_cons (pe_glob (v := .str "0123456789") rfl (T.str_ok (T.c.fact 39 rfl)).choose_spec ⟨_, rfl⟩) pa_nil))) (pss_one (ps_expr (pe_meth0 (pv 0) (c_Reader T) (m_Reader_fails T) (ok_Reader_fails T) (hr.mono (by decide)) (B_Reader_fails T) .nil (passes_call (takes_of rfl rfl rfl rfl) (fun _ _ _ _ h => h))))) pss_nil)
      (pss_one (ps_ret pe_int))))), ?_⟩)
  · obtain ⟨r, S, h, rfl, _⟩ := h; rfl
  · obtain ⟨r, S, h, rfl, hR, hl, hF, k1, k2⟩ := h
    have eL : S.length = (TL.tl S).length := Array.length_toList.symm
    have hR' := hR
    have hlt : h < (TL.tl S).length := sees_dlen hF
    obtain ⟨dx, e⟩ := hR
    walk_at "G"
    refine mkMeth e (by rfl) ?_
    walk_at "G"
    refine ⟨r, S, "0", h, rfl, hR', hl, ?_⟩
    rw [sees_congr in0]
    cases c : sees (is1 48) ((TL.tl S).drop h) with
    | true =>
      walk_at "G"
      refine mkFld e (c_Reader T) (n_Reader_here T) (by rfl) ?_
      walk_at "G"
      refine mkSFld e (c_Reader T) (n_Reader_here T) (by simp) ?_
      have e1 : RdAt K (upd H r (.ins (He.ga K "Reader") dx (putF "here" (.int ((h : Int) + 1)) [("text", .str S), ("here", .int (h : Nat))]))) r S (h + 1) := ⟨dx, by rw [upd_same]; rfl⟩
      have s1 : SameB r H (upd H r (.ins (He.ga K "Reader") dx (putF "here" (.int ((h : Int) + 1)) [("text", .str S), ("here", .int (h : Nat))]))) := SameB.put
      show tSeq _ _ _ _ (upd H r (.ins (He.ga K "Reader") dx (putF "here" (.int ((h : Int) + 1)) [("text", .str S), ("here", .int (h : Nat))])))
      generalize upd H r (.ins (He.ga K "Reader") dx (putF "here" (.int ((h : Int) + 1)) [("text", .str S), ("here", .int (h : Nat))])) = H1 at e1 s1 ⊢
      have e1' := e1
      obtain ⟨dx1, e1⟩ := e1
      have en : numM ((TL.tl S).drop h) = if sees isF ((TL.tl S).drop (h + 1)) = true then .no ((TL.tl S).drop (h + 1)) else .ok (.int 0) ((TL.tl S).drop (h + 1)) := by
        unfold numM
        rw [if_pos c, drop_tail]
      walk_at "G"
      refine mkMeth e1 (by rfl) ?_
      walk_at "G"
      refine ⟨r, S, "0123456789", h + 1, rfl, e1', hl, ?_⟩
      rw [sees_congr inF]
      cases c2 : sees isF ((TL.tl S).drop (h + 1)) with
      | true =>
        walk_at "G"
        refine mkMeth e1 (by rfl) ?_
        walk_at "G"
        rw [c2, if_pos rfl] at en
        exact ⟨r, S, h + 1, rfl, e1', (k2 _ (h + 1) en rfl (by omega)).of e1' s1⟩
      | false =>
        rw [c2, if_neg Bool.false_ne_true] at en
        walk_at "G"
        exact k1 0 _ (h + 1) H1 en rfl (by omega) (by omega) e1' s1
    | false =>
      have en : numM ((TL.tl S).drop h) = if (((TL.tl S).drop h).takeWhile isF).length ≤ 60 then .ok (.int (NumText.digitsVal (((TL.tl S).drop h).takeWhile isF) : Nat)) (((TL.tl S).drop h).dropWhile isF) else .no (((TL.tl S).drop h).drop 60) := by
        unfold numM
        rw [if_neg (by rw [c]; exact Bool.false_ne_true)]
      have hwl := tw_le (p := isF) (cs := (TL.tl S).drop h)
      rw [List.length_drop] at hwl
      have hne := tw_ne hF
      have hpos : 0 < (((TL.tl S).drop h).takeWhile isF).length := List.length_pos_iff.mpr hne
      walk_at "G"
      refine mkMeth e (by rfl) ?_
      walk_at "G"
      refine ⟨r, S, "0123456789", h, 60, rfl, hR', hl, by omega, fun H1 hm e1 s1 => ?_, fun hm => ?_⟩
      · rw [tw_congr inF] at hm e1 ⊢
        walk_at "G"
        refine ⟨_, _, rfl, SX.int_S (a := ((TL.tl S).drop h).takeWhile isF) (List.all_eq_true.mpr fun c hc => tw_mem (p := isF) hc) hne (by omega), by rw [SX.S_len]; omega, ?_⟩
        walk_at "G"
        rw [if_pos hm] at en
        exact k1 _ _ _ H1 en (by rw [← tw_dropw, List.drop_drop]) (by omega) (by omega) e1 s1
      · rw [tw_congr inF] at hm
        rw [if_neg (by omega)] at en
        exact k2 _ (h + 60) en (by rw [List.drop_drop]) (by omega)
/-- reader.below(), where a - stands -/
def sp_Reader_below (K : PySem.W.Frag) : Sp := fun vs H Q E => ∃ (r : Addr) (S : Str) (h : Nat), vs = [.ref r] ∧ RdAt K H r S h ∧ S.length ≤ sizeLine ∧ h < S.length ∧
  (∀ (d : PyData) (v : V) (rest : List Nat) (h' : Nat) H', negM ((TL.tl S).drop (h + 1)) = .ok d rest → rest = (TL.tl S).drop h' → h < h' → h' ≤ S.length → Tu H' v d → RdAt K H' r S h' → SameB r H H' → Q v H') ∧
  (∀ (rest : List Nat) (w : Nat), negM ((TL.tl S).drop (h + 1)) = .no rest → rest = (TL.tl S).drop w → w ≤ S.length → NoTB K H r w E)
theorem ok_Reader_below (T : Txt K mg) : FnOk P w K mg base (L2.CX P w) 7 (He.ma K (He.ga K "Reader") "below") (fd_Reader_below T) ["self"] (sp_Reader_below K) := by
  refine (F_Reader_below T).ok sc_Reader_below (fun vs H Q E h => ?_) (fun cdv A outer s H vs Q E hr h => ⟨_, (pss_cons (ps_fld (pv 0) (pe_op op_add (pe_fld (pv 0) rfl) pe_int) rfl)
      (pss_cons (ps_if (pt_val (pe_meth (pv 0) (c_Reader T) (m_Reader_sees T) (ok_Reader_sees T) (hr.mono (by decide)) (B_Reader_sees T) .nil pass0 (pa_cons pe_str pa_nil))) (pss_one (ps_expr (pe_meth0 (pv 0) (c_Reader T) (m_Reader_fails T) (ok_Reader_fails T) (hr.mono (by decide)) (B_Reader_fails T) .nil (passes_call (takes_of rfl rfl rfl rfl) (fun _ _ _ _ h => h))))) pss_nil)
      (pss_cons (ps_if (pt_val (pe_meth (pv 0) (c_Reader T) (m_Reader_sees T) (ok_Reader_sees T) (hr.mono (by decide)) (B_Reader_sees T) .nil pass0 (pa_cons (pe_glob (v := .str "0123456789") rfl (T.str_ok (T.c.fact 39 rfl)).choose_spec ⟨_, rfl⟩) pa_nil))) (pss_one (ps_ret (pe_op op_sub pe_int (pe_meth0 (pv 0) (c_Reader T) (m_Reader_number T) (ok_Reader_number T) (hr.mono (by decide)) (B_Reader_number T) .nil (passes_call (takes_of rfl rfl rfl rfl) (fun _ _ _ _ h => h)))))) pss_nil)
      (pss_one (ps_ret pe_non))))), ?_⟩)
  · obtain ⟨r, S, h, rfl, _⟩ := h; rfl
  · obtain ⟨r, S, h, rfl, hR, hl, hlt, k1, k2⟩ := h
    have eL : S.length = (TL.tl S).length := Array.length_toList.symm
    have hR' := hR
    obtain ⟨dx, e⟩ := hR
    walk_at "G"
    refine mkFld e (c_Reader T) (n_Reader_here T) (by rfl) ?_
    walk_at "G"
    refine mkSFld e (c_Reader T) (n_Reader_here T) (by simp) ?_
    have e1 : RdAt K (upd H r (.ins (He.ga K "Reader") dx (putF "here" (.int ((h : Int) + 1)) [("text", .str S), ("here", .int (h : Nat))]))) r S (h + 1) := ⟨dx, by rw [upd_same]; rfl⟩
    have s1 : SameB r H (upd H r (.ins (He.ga K "Reader") dx (putF "here" (.int ((h : Int) + 1)) [("text", .str S), ("here", .int (h : Nat))]))) := SameB.put
    show tSeq _ _ _ _ (upd H r (.ins (He.ga K "Reader") dx (putF "here" (.int ((h : Int) + 1)) [("text", .str S), ("here", .int (h : Nat))])))
    generalize upd H r (.ins (He.ga K "Reader") dx (putF "here" (.int ((h : Int) + 1)) [("text", .str S), ("here", .int (h : Nat))])) = H1 at e1 s1 ⊢
    have e1' := e1
    obtain ⟨dx1, e1⟩ := e1
    walk_at "G"
    refine mkMeth e1 (by rfl) ?_
    walk_at "G"
    refine ⟨r, S, "0", h + 1, rfl, e1', hl, ?_⟩
    rw [sees_congr in0]
    cases c : sees (is1 48) ((TL.tl S).drop (h + 1)) with
    | true =>
      have en : negM ((TL.tl S).drop (h + 1)) = .no ((TL.tl S).drop (h + 1)) := by unfold negM; rw [if_pos c]
      walk_at "G"
      refine mkMeth e1 (by rfl) ?_
      walk_at "G"
      exact ⟨r, S, h + 1, rfl, e1', (k2 _ (h + 1) en rfl (by omega)).of e1' s1⟩
    | false =>
      walk_at "G"
      refine mkMeth e1 (by rfl) ?_
      walk_at "G"
      refine ⟨r, S, "0123456789", h + 1, rfl, e1', hl, ?_⟩
      rw [sees_congr inF]
      cases c2 : sees isF ((TL.tl S).drop (h + 1)) with
      | true =>
        walk_at "G"
        refine mkMeth e1 (by rfl) ?_
        walk_at "G"
        refine ⟨r, S, h + 1, rfl, e1', hl, c2, fun i rest h' H2 hn hr hh1 hh2 e2 s2 => ?_, fun rest w hn hr hw => ?_⟩
        · walk_at "G"
          exact k1 (.int (0 - i)) _ rest h' H2 (negM_ok c c2 hn) hr (by omega) hh2 (.int _) e2 (s1.trans s2)
        · exact (k2 rest w (negM_no c c2 hn) hr hw).of e1' s1
      | false =>
        have en : negM ((TL.tl S).drop (h + 1)) = .ok .none ((TL.tl S).drop (h + 1)) := by
          unfold negM
          rw [if_neg (by rw [c]; exact Bool.false_ne_true), if_neg (by rw [c2]; exact Bool.false_ne_true)]
        walk_at "G"
        exact k1 .none _ _ (h + 1) H1 en rfl (by omega) (by omega) .non e1' s1

open Tx
def LOut.pre (ds : List PyData) : LOut → LOut
  | .ok es r => .ok (ds ++ es) r
  | .no r => .no r
/-- the levels that are left -/
def sp_Reader_thing (K : PySem.W.Frag) (k : Nat) : Sp := fun vs H Q E => ∃ (r : Addr) (S : Str) (h n : Nat), vs = [.ref r, .int (n : Nat)] ∧ n + k = 81 ∧ 0 < k ∧ RdAt K H r S h ∧ S.length ≤ sizeLine ∧ h ≤ S.length ∧
  (∀ (d : PyData) (v : V) (rest : List Nat) (h' : Nat) H', Th n ((TL.tl S).drop h) (.ok d rest) → rest = (TL.tl S).drop h' → h < h' → h' ≤ S.length → Tu H' v d → RdAt K H' r S h' → SameB r H H' → Q v H') ∧
  (∀ (rest : List Nat) (w : Nat), Th n ((TL.tl S).drop h) (.no rest) → rest = (TL.tl S).drop w → w ≤ S.length → NoTB K H r w E)
def sp_Reader_row (K : PySem.W.Frag) (k : Nat) : Sp := fun vs H Q E => ∃ (r : Addr) (S : Str) (h n : Nat), vs = [.ref r, .int ((n + 1 : Nat) : Int)] ∧ n + k = 81 ∧ 0 < k ∧ RdAt K H r S (h + 1) ∧ S.length ≤ sizeLine ∧ h + 1 ≤ S.length ∧ (TL.tl S).drop h = 40 :: (TL.tl S).drop (h + 1) ∧
  (∀ (d : PyData) (v : V) (rest : List Nat) (h' : Nat) H', Th n ((TL.tl S).drop h) (.ok d rest) → rest = (TL.tl S).drop h' → h < h' → h' ≤ S.length → Tu H' v d → RdAt K H' r S h' → SameB r H H' → Q v H') ∧
  (∀ (rest : List Nat) (w : Nat), Th n ((TL.tl S).drop h) (.no rest) → rest = (TL.tl S).drop w → w ≤ S.length → NoTB K H r w E)
theorem s_wmid {c : TT} {tb : TS} {D : Ends} {σ : L2.St} {H : Hp} (P : L2.St → Hp → Prop) (h1 : ∀ σ' H', P σ' H' → D.nx σ' H') (h2 : ∀ N : L2.St → Hp → Prop, (∀ σ' H', P σ' H' → N σ' H') → tWhile c tb { D with nx := N } σ H) : tWhile c tb D σ H := h2 D.nx h1
theorem s_ct {c : TT} {σ : L2.St} {H : Hp} {QB : Bool → Hp → Prop} (P : Bool → Prop) (h1 : ∀ QB' : Bool → Hp → Prop, (∀ b, P b → QB' b H) → c σ H QB') (h2 : ∀ b, P b → QB b H) : c σ H QB := h1 QB h2
theorem ok_rowS (T : Txt K mg) {k : Nat} (IH : FnOk P w K mg base (L2.CX P w) (2 * k + 8) (He.ma K (He.ga K "Reader") "thing") (fd_Reader_thing T) ["self", "deep"] (sp_Reader_thing K k)) : FnOk P w K mg base (L2.CX P w) (2 * k + 9) (He.ma K (He.ga K "Reader") "row") (fd_Reader_row T) ["self", "deep"] (sp_Reader_row K (k + 1)) := by
  refine (F_Reader_row T).ok sc_Reader_row (fun vs H Q E h => ?_) (fun cdv A outer s H vs Q E hr h => ⟨_, (pss_cons (ps_if (pt_cmpR op_gt (pv 1) (pe_glob (v := .int 80) rfl (T.int_ok (T.c.fact 38 rfl)).choose_spec ⟨_, rfl⟩) (nomark _)) (pss_one (ps_raise rfl (takes_of rfl rfl rfl rfl) (pmk_oex (x_NoText T).oex (x_NoText T).iC (x_NoText T).tI (ok_init_NoText T) (hr.mono (by omega)) (B_init_NoText T) .nil pass0 rfl (g_NoText T) (pa_cons pe_int (pa_cons (pe_op op_sub (pe_fld (pv 0) rfl) pe_int) pa_nil))))) pss_nil)
      (pss_cons (ps_set (i := 2) sc_Reader_row.nd rfl (Or.inl rfl) (pe_lst pa_nil))
      (pss_cons (ps_while (passes_of rfl) (PW.pt (pw_or (pt_not (pt_val (pe_meth (pv 0) (c_Reader T) (m_Reader_sees T) (ok_Reader_sees T) (hr.mono (by omega)) (B_Reader_sees T) .nil pass0 (pa_cons pe_str pa_nil)))) (pw_or1 (pt_cmpR op_gt (pe_callB callLen rfl (T.fr (T.c.fact 30 rfl)) boot_len (pa_cons (pv 2) pa_nil)) pe_int (nomark _))))) (pss_cons (ps_expr (pe_bm PySem.F.plainAttrs_list PySem.F.slot_list_append PySem.F.type_list_append mt_append (pv 2) (pa_cons (pe_meth (pv 0) (c_Reader T) (m_Reader_thing T) (IH) (hr.mono (by omega)) (B_Reader_thing T) .nil (passes_call (takes_of rfl rfl rfl rfl) (fun _ _ _ _ h => h)) (pa_cons (pv 1) pa_nil)) pa_nil)))
      (pss_cons (ps_if (pt_val (pe_meth (pv 0) (c_Reader T) (m_Reader_sees T) (ok_Reader_sees T) (hr.mono (by omega)) (B_Reader_sees T) .nil pass0 (pa_cons pe_str pa_nil))) (pss_one (ps_break)) pss_nil)
      (pss_cons (ps_if (pt_not (pt_val (pe_meth (pv 0) (c_Reader T) (m_Reader_sees T) (ok_Reader_sees T) (hr.mono (by omega)) (B_Reader_sees T) .nil pass0 (pa_cons pe_str pa_nil)))) (pss_one (ps_expr (pe_meth0 (pv 0) (c_Reader T) (m_Reader_fails T) (ok_Reader_fails T) (hr.mono (by omega)) (B_Reader_fails T) .nil (passes_call (takes_of rfl rfl rfl rfl) (fun _ _ _ _ h => h))))) pss_nil)
      (pss_one (ps_fld (pv 0) (pe_op op_add (pe_fld (pv 0) rfl) pe_int) rfl))))))
      (pss_cons (ps_fld (pv 0) (pe_op op_add (pe_fld (pv 0) rfl) pe_int) rfl)
      (pss_one (ps_ret (pe_callTy callTup rfl (T.fr (T.c.fact 28 rfl)) boot_tuple (pa_cons (pv 2) pa_nil)))))))), ?_⟩)
  · obtain ⟨r, S, h, n, rfl, _⟩ := h; rfl
  · obtain ⟨r, S, h, n, rfl, hnk, _, hR, hl, hh, hop, k1, k2⟩ := h
    have eL : S.length = (TL.tl S).length := Array.length_toList.symm
    have hR' := hR
    obtain ⟨dx, e⟩ := hR
    walk_at "G"
    refine s_ite (fun c => ?_) (fun c => ?_)
    · have hn80 : 80 ≤ n := by omega
      walk_at "G"
      refine mkFld e (c_Reader T) (n_Reader_here T) (by rfl) ?_
      walk_at "G"
      refine R.s_raise2 (x_NoText T).oex (x_NoText T).noF (y_NoText T).noF fun d H1 nd he s => ?_
      refine k2 _ h (by rw [hop]; exact .deep hn80) hop.symm (by omega) d H1 nd (SameB.of s) ?_
      rw [he]
      congr 5
      omega
    · have hn80 : n < 80 := by omega
      obtain ⟨k, rfl⟩ : ∃ j, k = j + 1 := ⟨k - 1, by omega⟩
      walk_at "G"
      refine mkL (by simp) fun L H1 nL eL1 s1 => ?_
      walk_at "J"
      refine s_wmid (fun σ H' => ∃ (hc : Nat) (vs : List V) (ds : List PyData), σ = [some (.ref r), some (.int ((n + 1 : Nat) : Int)), some (.ref L)] ∧ RdAt K H' r S hc ∧ hc < S.length ∧ h < hc ∧ H' L = some (.lst vs) ∧ DaL (fun _ => False) H' vs ds ∧ SameB r H H' ∧
        Th n ((TL.tl S).drop h) (.ok (.tuple ds) ((TL.tl S).drop (hc + 1)))) ?_ fun N J => ?_
      · rintro σ H2 ⟨hc, vs, ds, rfl, hR2, hcl, hch, eL2, hds, s2, ht⟩
        have hR2' := hR2
        obtain ⟨dx2, e2⟩ := hR2
        walk_at "G"
        refine mkFld e2 (c_Reader T) (n_Reader_here T) (by rfl) ?_
        walk_at "G"
        refine mkSFld e2 (c_Reader T) (n_Reader_here T) (by simp) ?_
        have e3 : RdAt K (upd H2 r (.ins (He.ga K "Reader") dx2 (putF "here" (.int ((hc : Int) + 1)) [("text", .str S), ("here", .int (hc : Nat))]))) r S (hc + 1) := ⟨dx2, by rw [upd_same]; rfl⟩
        have s3 : SameB r H2 (upd H2 r (.ins (He.ga K "Reader") dx2 (putF "here" (.int ((hc : Int) + 1)) [("text", .str S), ("here", .int (hc : Nat))]))) := SameB.put
        generalize upd H2 r (.ins (He.ga K "Reader") dx2 (putF "here" (.int ((hc : Int) + 1)) [("text", .str S), ("here", .int (hc : Nat))])) = H3 at e3 s3 ⊢
        have eL3 := hR2'.lst s3 eL2
        have hds3 := hds.rd hR2' s3
        walk_at "G"
        refine s_tupL (SqL.of eL3) fun W nW => ?_
        have s4 : Same H3 (upd H3 W (.tup vs)) := same_upd nW
        have eW : upd H3 W (.tup vs) W = some (.tup vs) := upd_same
        generalize upd H3 W (.tup vs) = H4 at s4 eW ⊢
        exact k1 (.tuple ds) _ _ (hc + 1) H4 ht rfl (by omega) (by omega) (.tup eW (hds3.same s4)) (e3.same s4) (s2.trans (s3.trans (SameB.of s4)))
      · refine s_while (fun σ H' => ∃ (hc : Nat) (vs : List V) (ds : List PyData), σ = [some (.ref r), some (.int ((n + 1 : Nat) : Int)), some (.ref L)] ∧ RdAt K H' r S hc ∧ hc ≤ S.length ∧ h + 1 + ds.length ≤ hc ∧ H' L = some (.lst vs) ∧ DaL (fun _ => False) H' vs ds ∧ SameB r H H' ∧
          (ds = [] → hc = h + 1) ∧ (ds ≠ [] → sees (is1 41) ((TL.tl S).drop (h + 1)) = false) ∧ ∀ o, Ls (n + 1) ((TL.tl S).drop hc) o → Ls (n + 1) ((TL.tl S).drop (h + 1)) (LOut.pre ds o)) (fun σ H' => match H' r with
          | some (.ins _ _ [_, (_, .int i)]) => (S.length + 1 : Nat) - i.toNat
          | _ => 0) ⟨h + 1, [], [], rfl, hR'.same s1, hh, by simp, eL1, .nil, SameB.of s1, fun _ => rfl, fun z => absurd rfl z, fun o ho => by cases o <;> exact ho⟩ ?_
        rintro σ H2 ⟨hc, vs, ds, rfl, hR2, hcl, hch, eL2, hds, s2, hd0, hd1, htr⟩
        have hR2' := hR2
        obtain ⟨dx2, e2⟩ := hR2
        have hvl : vs.length = ds.length := hds.len
        refine s_ct (fun b => b = true ∧ (ds = [] → sees (is1 41) ((TL.tl S).drop (h + 1)) = false) ∨ b = false ∧ ds = [] ∧ sees (is1 41) ((TL.tl S).drop hc) = true) (fun QB' hQ => ?_) ?_
        · walk_at "G"
          refine mkMeth e2 (by rfl) ?_
          walk_at "G"
          refine ⟨r, S, ")", hc, rfl, hR2', hl, ?_⟩
          rw [sees_congr inC]
          cases c : sees (is1 41) ((TL.tl S).drop hc) with
          | false =>
            walk_at "G"
            refine hQ true (.inl ⟨rfl, fun z => ?_⟩)
            rw [← hd0 z]; exact c
          | true =>
            walk_at "G"
            refine s_lenL (SqL.of eL2) ?_
            walk_at "G"
            cases ds with
            | nil =>
              rw [hvl]
              exact hQ _ (.inr ⟨by simp, rfl, c⟩)
            | cons d ds =>
              rw [hvl]
              exact hQ _ (.inl ⟨by simp, fun z => nomatch z⟩)
        rintro b (⟨rfl, hb⟩ | ⟨rfl, hb, hs⟩)
        · have hno : sees (is1 41) ((TL.tl S).drop (h + 1)) = false := by
            by_cases z : ds = []
            · exact hb z
            · exact hd1 z
          have rowOk : ∀ {es : List PyData} {rest : List Nat}, Ls (n + 1) ((TL.tl S).drop (h + 1)) (.ok es rest) → Th n ((TL.tl S).drop h) (.ok (.tuple es) rest) := fun l => by rw [hop]; exact .row hn80 hno l
          have rowNo : ∀ {rest : List Nat}, Ls (n + 1) ((TL.tl S).drop (h + 1)) (.no rest) → Th n ((TL.tl S).drop h) (.no rest) := fun l => by rw [hop]; exact .rowNo hn80 hno l
          walk_at "J"
          refine ⟨s_tyL eL2, ?_⟩
          walk_at "J"
          refine mkMeth e2 (by rfl) ?_
          walk_at "J"
          refine ⟨r, S, hc, n + 1, rfl, by omega, by omega, hR2', hl, hcl, fun d v rest h3 H3 ht hr h31 h32 hv hR3 s3 => ?_, fun rest w ht hr hw => ?_⟩
          · subst hr
            have eL3 := hR2'.lst s3 eL2
            have hds3 := hds.rd hR2' s3
            walk_at "J"
            refine s_append eL3 (by rw [hvl]; omega) ?_
            have hR4 := hR3.upd (o := .lst (vs ++ [v])) eL3
            have eL4 : upd H3 L (.lst (vs ++ [v])) L = some (.lst (vs ++ [v])) := upd_same
            have hds4 : DaL (fun _ => False) (upd H3 L (.lst (vs ++ [v]))) (vs ++ [v]) (ds ++ [d]) := DaL.app (.cons (hv.upd eL3 (fun z => z)) .nil) (hds3.upd eL3 (fun z => z))
            have s4 : SameB r H (upd H3 L (.lst (vs ++ [v]))) := SameB.updn (s2.trans s3) nL
            generalize upd H3 L (.lst (vs ++ [v])) = H4 at hR4 eL4 hds4 s4 ⊢
            have hR4' := hR4
            obtain ⟨dx4, e4⟩ := hR4
            walk_at "G"
            refine mkMeth e4 (by rfl) ?_
            walk_at "G"
            refine ⟨r, S, ")", h3, rfl, hR4', hl, ?_⟩
            rw [sees_congr inC]
            cases c : sees (is1 41) ((TL.tl S).drop h3) with
            | true =>
              obtain ⟨r', er⟩ := sees_cons c
              have e5 : (TL.tl S).drop (h3 + 1) = r' := by rw [drop_tail, er]; rfl
              walk_at "G"
              refine J _ _ ⟨h3, _, ds ++ [d], rfl, hR4', sees_dlen c |> (by omega : _ → _), by omega, eL4, hds4, s4, ?_⟩
              refine rowOk (htr (.ok [d] _) (.last ?_))
              rw [e5, ← er]
              exact ht
            | false =>
              walk_at "G"
              refine mkMeth e4 (by rfl) ?_
              walk_at "G"
              refine ⟨r, S, " ", h3, rfl, hR4', hl, ?_⟩
              rw [sees_congr inB]
              cases c2 : sees (is1 32) ((TL.tl S).drop h3) with
              | false =>
                walk_at "G"
                refine mkMeth e4 (by rfl) ?_
                walk_at "G"
                exact ⟨r, S, h3, rfl, hR4', (k2 _ h3 (rowNo (htr _ (.bad ht c c2))) rfl h32).of hR4' s4⟩
              | true =>
                obtain ⟨r', er⟩ := sees_cons c2
                have e5 : (TL.tl S).drop (h3 + 1) = r' := by rw [drop_tail, er]; rfl
                have hlt3 := sees_dlen c2
                walk_at "G"
                refine mkFld e4 (c_Reader T) (n_Reader_here T) (by rfl) ?_
                walk_at "G"
                refine mkSFld e4 (c_Reader T) (n_Reader_here T) (by simp) ?_
                have e6 : RdAt K (upd H4 r (.ins (He.ga K "Reader") dx4 (putF "here" (.int ((h3 : Int) + 1)) [("text", .str S), ("here", .int (h3 : Nat))]))) r S (h3 + 1) := ⟨dx4, by rw [upd_same]; rfl⟩
                have s6 : SameB r H4 (upd H4 r (.ins (He.ga K "Reader") dx4 (putF "here" (.int ((h3 : Int) + 1)) [("text", .str S), ("here", .int (h3 : Nat))]))) := SameB.put
                have hmu : (match (upd H4 r (.ins (He.ga K "Reader") dx4 (putF "here" (.int ((h3 : Int) + 1)) [("text", .str S), ("here", .int (h3 : Nat))]))) r with
                  | some (.ins _ _ [_, (_, .int i)]) => (S.length + 1 : Nat) - i.toNat
                  | _ => 0) < (match H2 r with
                  | some (.ins _ _ [_, (_, .int i)]) => (S.length + 1 : Nat) - i.toNat
                  | _ => 0) := by
                  rw [upd_same, e2]
                  show S.length + 1 - ((h3 : Int) + 1).toNat < S.length + 1 - (hc : Int).toNat
                  omega
                generalize upd H4 r (.ins (He.ga K "Reader") dx4 (putF "here" (.int ((h3 : Int) + 1)) [("text", .str S), ("here", .int (h3 : Nat))])) = H5 at e6 s6 hmu ⊢
                walk_at "G"
                refine ⟨⟨h3 + 1, _, ds ++ [d], rfl, e6, by omega, by rw [List.length_append]; simp only [List.length_cons, List.length_nil]; omega, hR4'.lst s6 eL4, hds4.rd hR4' s6, s4.trans s6, fun z => absurd z (by simp), fun _ => hno, fun o ho => ?_⟩, hmu⟩
                rw [e5] at ho
                rw [er] at ht
                cases o with
                | ok es r2 => 
                  have := htr _ (.more ht ho)
                  simpa [LOut.pre] using this
                | no r2 => exact htr _ (.moreNo ht ho)
          · exact (k2 rest w (rowNo (htr _ (.no ht))) hr hw).of hR2' s2
        · walk_at "G"
          refine J _ _ ⟨hc, vs, ds, rfl, hR2', ?_, ?_, eL2, hds, s2, ?_⟩
          · have := sees_dlen hs
            omega
          · omega
          · subst hb
            obtain ⟨r', er⟩ := sees_cons hs
            have e1 := hd0 rfl
            subst e1
            have e3 : (TL.tl S).drop (h + 1 + 1) = r' := by rw [drop_tail, er]; rfl
            rw [hop, er, e3]
            exact .nil hn80

open Tx
theorem ok_thingS (T : Txt K mg) {k : Nat} (IH : FnOk P w K mg base (L2.CX P w) (2 * k + 9) (He.ma K (He.ga K "Reader") "row") (fd_Reader_row T) ["self", "deep"] (sp_Reader_row K (k + 1))) : FnOk P w K mg base (L2.CX P w) (2 * k + 10) (He.ma K (He.ga K "Reader") "thing") (fd_Reader_thing T) ["self", "deep"] (sp_Reader_thing K (k + 1)) := by
  refine (F_Reader_thing T).ok sc_Reader_thing (fun vs H Q E h => ?_) (fun cdv A outer s H vs Q E hr h => ⟨_, (pss_cons (ps_if (pt_val (pe_meth (pv 0) (c_Reader T) (m_Reader_sees T) (ok_Reader_sees T) (hr.mono (by omega)) (B_Reader_sees T) .nil pass0 (pa_cons (pe_glob (v := .str "0123456789") rfl (T.str_ok (T.c.fact 39 rfl)).choose_spec ⟨_, rfl⟩) pa_nil))) (pss_one (ps_ret (pe_meth0 (pv 0) (c_Reader T) (m_Reader_number T) (ok_Reader_number T) (hr.mono (by omega)) (B_Reader_number T) .nil (passes_call (takes_of rfl rfl rfl rfl) (fun _ _ _ _ h => h))))) pss_nil)
      (pss_cons (ps_if (pt_val (pe_meth (pv 0) (c_Reader T) (m_Reader_sees T) (ok_Reader_sees T) (hr.mono (by omega)) (B_Reader_sees T) .nil pass0 (pa_cons pe_str pa_nil))) (pss_one (ps_ret (pe_meth0 (pv 0) (c_Reader T) (m_Reader_below T) (ok_Reader_below T) (hr.mono (by omega)) (B_Reader_below T) .nil (passes_call (takes_of rfl rfl rfl rfl) (fun _ _ _ _ h => h))))) pss_nil)
      (pss_cons (ps_if (pt_val (pe_meth (pv 0) (c_Reader T) (m_Reader_sees T) (ok_Reader_sees T) (hr.mono (by omega)) (B_Reader_sees T) .nil pass0 (pa_cons (pe_glob (v := .str "abcdefghijklmnopqrstuvwxyz") rfl (T.str_ok (T.c.fact 40 rfl)).choose_spec ⟨_, rfl⟩) pa_nil))) (pss_one (ps_ret (pe_meth (pv 0) (c_Reader T) (m_Reader_run T) (ok_Reader_run T) (hr.mono (by omega)) (B_Reader_run T) .nil (passes_call (takes_of rfl rfl rfl rfl) (fun _ _ _ _ h => h)) (pa_cons (pe_glob (v := .str "abcdefghijklmnopqrstuvwxyz") rfl (T.str_ok (T.c.fact 40 rfl)).choose_spec ⟨_, rfl⟩) (pa_cons (pe_glob (v := .int 8) rfl (T.int_ok (T.c.fact 37 rfl)).choose_spec ⟨_, rfl⟩) pa_nil))))) pss_nil)
      (pss_cons (ps_if (pt_not (pt_val (pe_meth (pv 0) (c_Reader T) (m_Reader_sees T) (ok_Reader_sees T) (hr.mono (by omega)) (B_Reader_sees T) .nil pass0 (pa_cons pe_str pa_nil)))) (pss_one (ps_expr (pe_meth0 (pv 0) (c_Reader T) (m_Reader_fails T) (ok_Reader_fails T) (hr.mono (by omega)) (B_Reader_fails T) .nil (passes_call (takes_of rfl rfl rfl rfl) (fun _ _ _ _ h => h))))) pss_nil)
      (pss_cons (ps_fld (pv 0) (pe_op op_add (pe_fld (pv 0) rfl) pe_int) rfl)
      (pss_one (ps_ret (pe_meth (pv 0) (c_Reader T) (m_Reader_row T) (IH) (hr.mono (by omega)) (B_Reader_row T) .nil (passes_call (takes_of rfl rfl rfl rfl) (fun _ _ _ _ h => h)) (pa_cons (pe_op op_add (pv 1) pe_int) pa_nil))))))))), ?_⟩)
  · obtain ⟨r, S, h, n, rfl, _⟩ := h; rfl
  · obtain ⟨r, S, h, n, rfl, hnk, _, hR, hl, hh, k1, k2⟩ := h
    have eL : S.length = (TL.tl S).length := Array.length_toList.symm
    have hR' := hR
    obtain ⟨dx, e⟩ := hR
    walk_at "G"
    refine mkMeth e (by rfl) ?_
    walk_at "G"
    refine ⟨r, S, "0123456789", h, rfl, hR', hl, ?_⟩
    rw [sees_congr inF]
    cases c1 : sees isF ((TL.tl S).drop h) with
    | true =>
      have ht := @Th.num n _ c1
      walk_at "G"
      refine mkMeth e (by rfl) ?_
      walk_at "G"
      refine ⟨r, S, h, rfl, hR', hl, c1, fun i rest h' H1 hn hr hh1 hh2 e1 s1 => ?_, fun rest w hn hr hw => ?_⟩
      · rw [hn] at ht
        exact k1 _ _ rest h' H1 ht hr hh1 hh2 (.int i) e1 s1
      · rw [hn] at ht
        exact k2 rest w ht hr hw
    | false =>
      walk_at "G"
      refine mkMeth e (by rfl) ?_
      walk_at "G"
      refine ⟨r, S, "-", h, rfl, hR', hl, ?_⟩
      rw [sees_congr inM]
      cases c2 : sees (is1 45) ((TL.tl S).drop h) with
      | true =>
        obtain ⟨r', er⟩ := sees_cons c2
        have e5 : (TL.tl S).drop (h + 1) = r' := by rw [drop_tail, er]; rfl
        have hlt := sees_dlen c2
        have ht := @Th.neg n r'
        rw [← er, ← e5] at ht
        walk_at "G"
        refine mkMeth e (by rfl) ?_
        walk_at "G"
        refine ⟨r, S, h, rfl, hR', hl, by omega, fun d v rest h' H1 hn hr hh1 hh2 hv e1 s1 => ?_, fun rest w hn hr hw => ?_⟩
        · rw [hn] at ht
          exact k1 _ _ rest h' H1 ht hr hh1 hh2 hv e1 s1
        · rw [hn] at ht
          exact k2 rest w ht hr hw
      | false =>
        walk_at "G"
        refine mkMeth e (by rfl) ?_
        walk_at "G"
        refine ⟨r, S, "abcdefghijklmnopqrstuvwxyz", h, rfl, hR', hl, ?_⟩
        rw [sees_congr inA]
        cases c3 : sees isA ((TL.tl S).drop h) with
        | true =>
          have ht := @Th.word n _ c3
          unfold wordM at ht
          have hwl := tw_le (p := isA) (cs := (TL.tl S).drop h)
          rw [List.length_drop] at hwl
          have hpos : 0 < (((TL.tl S).drop h).takeWhile isA).length := List.length_pos_iff.mpr (tw_ne c3)
          walk_at "G"
          refine mkMeth e (by rfl) ?_
          walk_at "G"
          refine ⟨r, S, "abcdefghijklmnopqrstuvwxyz", h, 8, rfl, hR', hl, hh, fun H1 hm e1 s1 => ?_, fun hm => ?_⟩
          · rw [tw_congr inA] at hm e1 ⊢
            rw [if_pos hm] at ht
            exact k1 _ _ _ _ H1 ht (by rw [← tw_dropw, List.drop_drop]) (by omega) (by omega) (.str _) e1 s1
          · rw [tw_congr inA] at hm
            rw [if_neg (by omega)] at ht
            exact k2 _ (h + 8) ht (by rw [List.drop_drop]) (by omega)
        | false =>
          walk_at "G"
          refine mkMeth e (by rfl) ?_
          walk_at "G"
          refine ⟨r, S, "(", h, rfl, hR', hl, ?_⟩
          rw [sees_congr inO]
          cases c4 : sees (is1 40) ((TL.tl S).drop h) with
          | false =>
            walk_at "G"
            refine mkMeth e (by rfl) ?_
            walk_at "G"
            exact ⟨r, S, h, rfl, hR', k2 _ h (.other c1 c2 c3 c4) rfl hh⟩
          | true =>
            obtain ⟨r', er⟩ := sees_cons c4
            have e5 : (TL.tl S).drop (h + 1) = r' := by rw [drop_tail, er]; rfl
            have hlt := sees_dlen c4
            walk_at "G"
            refine mkFld e (c_Reader T) (n_Reader_here T) (by rfl) ?_
            walk_at "G"
            refine mkSFld e (c_Reader T) (n_Reader_here T) (by simp) ?_
            have e6 : RdAt K (upd H r (.ins (He.ga K "Reader") dx (putF "here" (.int ((h : Int) + 1)) [("text", .str S), ("here", .int (h : Nat))]))) r S (h + 1) := ⟨dx, by rw [upd_same]; rfl⟩
            have s6 : SameB r H (upd H r (.ins (He.ga K "Reader") dx (putF "here" (.int ((h : Int) + 1)) [("text", .str S), ("here", .int (h : Nat))]))) := SameB.put
            generalize upd H r (.ins (He.ga K "Reader") dx (putF "here" (.int ((h : Int) + 1)) [("text", .str S), ("here", .int (h : Nat))])) = H5 at e6 s6 ⊢
            have e6' := e6
            obtain ⟨dx5, e6⟩ := e6
            walk_at "G"
            refine mkMeth e6 (by rfl) ?_
            walk_at "G"
            refine ⟨r, S, h, n, rfl, hnk, by omega, e6', hl, by omega, by rw [er, e5], fun d v rest h' H6 ht hr hh1 hh2 hv e7 s7 => ?_, fun rest w ht hr hw => ?_⟩
            · exact k1 d v rest h' H6 ht hr hh1 hh2 hv e7 (s6.trans s7)
            · exact (k2 rest w ht hr hw).of e6' s6
theorem thing0 (T : Txt K mg) : FnOk P w K mg base (L2.CX P w) (2 * 0 + 8) (He.ma K (He.ga K "Reader") "thing") (fd_Reader_thing T) ["self", "deep"] (sp_Reader_thing K 0) :=
  ⟨fun _ _ _ _ ⟨_, _, _, _, _, _, h, _⟩ => absurd h (by decide), fun _ _ _ _ _ _ _ _ _ _ _ _ _ ⟨_, _, _, _, _, _, h, _⟩ => absurd h (by decide)⟩
theorem thingK (T : Txt K mg) : ∀ k : Nat, FnOk P w K mg base (L2.CX P w) (2 * k + 8) (He.ma K (He.ga K "Reader") "thing") (fd_Reader_thing T) ["self", "deep"] (sp_Reader_thing K k)
  | 0 => thing0 T
  | k + 1 => ok_thingS T (ok_rowS T (thingK T k))
theorem ok_Reader_thing (T : Txt K mg) : FnOk P w K mg base (L2.CX P w) 170 (He.ma K (He.ga K "Reader") "thing") (fd_Reader_thing T) ["self", "deep"] (sp_Reader_thing K 81) := thingK T 81
/-- a text is no thing's: where -/
def RdNo (cs : List Nat) (w : Nat) : Prop := w ≤ cs.length ∧ (Th 0 cs (.no (cs.drop w)) ∨ ∃ d, Th 0 cs (.ok d (cs.drop w)) ∧ w < cs.length)
/-- read(text) -/
def sp_read (K : PySem.W.Frag) : Sp := fun vs H Q E => ∃ S : Str, vs = [.str S] ∧ S.length ≤ sizeLine ∧
  (∀ (d : PyData) (v : V) H', Th 0 (TL.tl S) (.ok d []) → Tu H' v d → Same H H' → Q v H') ∧
  (∀ w d H', RdNo (TL.tl S) w → H d = none → Same H H' → H' d = some (.xd [("word", .int (w : Nat)), ("line", .int 0)]) → E (.ref (He.ga K "NoText")) (some d) H')
theorem ok_read (T : Txt K mg) : FnOk P w K mg base (L2.CX P w) 171 (He.ga K "read") (fd_read T) ["text"] (sp_read K) := by
  refine (F_read T).ok sc_read (fun vs H Q E h => ?_) (fun cdv A outer s H vs Q E hr h => ⟨_, (pss_cons (ps_set (i := 1) sc_read.nd rfl (Or.inl rfl) (pe_make (mk_Reader T) (ok_Reader___init__ T) (hr.mono (by decide)) rfl (g_Reader T) (B_Reader___init__ T) .nil pass0 (pa_cons (pv 0) pa_nil)))
      (pss_cons (ps_set (i := 2) sc_read.nd rfl (Or.inl rfl) (pe_meth (pv 1) (c_Reader T) (m_Reader_thing T) (ok_Reader_thing T) (hr.mono (by decide)) (B_Reader_thing T) .nil (passes_call (takes_of rfl rfl rfl rfl) (fun _ _ _ _ h => h)) (pa_cons pe_int pa_nil)))
      (pss_cons (ps_if (pt_cmpR op_lt (pe_fld (pv 1) rfl) (pe_callB call_len_str rfl (T.fr (T.c.fact 30 rfl)) boot_len (pa_cons (pv 0) pa_nil)) (nomark _)) (pss_one (ps_expr (pe_meth0 (pv 1) (c_Reader T) (m_Reader_fails T) (ok_Reader_fails T) (hr.mono (by decide)) (B_Reader_fails T) .nil (passes_call (takes_of rfl rfl rfl rfl) (fun _ _ _ _ h => h))))) pss_nil)
      (pss_one (ps_ret (pv 2)))))), ?_⟩)
  · obtain ⟨S, rfl, _⟩ := h; rfl
  · obtain ⟨S, rfl, hl, k1, k2⟩ := h
    have eL : S.length = (TL.tl S).length := Array.length_toList.symm
    walk_at "G"
    refine mkReader fun r H1 nr hR s1 => ?_
    have hR' := hR
    obtain ⟨dx, e⟩ := hR
    have full : ∀ {H2 : Hp}, SameB r H1 H2 → Same H H2 := fun s => s.same nr s1
    have err : ∀ (H2 : Hp) (h : Nat), RdAt K H2 r S h → SameB r H1 H2 → ∀ w, RdNo (TL.tl S) w → NoTB K H2 r (w : Int) (fun c d H' => E c d H') := fun H2 h hR2 s2 w hw d H3 nd s3 e3 => k2 w d H3 hw (by
      cases c : H d with
      | none => rfl
      | some o =>
        have := full s2 d o c
        rw [nd] at this; cases this) (full (s2.trans s3)) e3
    walk_at "G"
    refine mkMeth e (by rfl) ?_
    walk_at "G"
    refine ⟨r, S, 0, 0, rfl, rfl, by decide, hR', hl, Nat.zero_le _, fun d v rest h' H2 ht hr hh1 hh2 hv hR2 s2 => ?_, fun rest w ht hr hw => ?_⟩
    · rw [List.drop_zero] at ht
      subst hr
      have hR2' := hR2
      obtain ⟨dx2, e2⟩ := hR2
      walk_at "G"
      refine mkFld e2 (c_Reader T) (n_Reader_here T) (by rfl) ?_
      walk_at "G"
      refine ⟨S, rfl, hl, ?_⟩
      walk_at "G"
      refine s_ite (fun c => ?_) (fun c => ?_)
      · walk_at "G"
        refine mkMeth e2 (by rfl) ?_
        walk_at "G"
        exact ⟨r, S, h', rfl, hR2', err H2 h' hR2' s2 h' ⟨by omega, .inr ⟨d, ht, by omega⟩⟩⟩
      · walk_at "G"
        rw [List.drop_eq_nil_of_le (by omega)] at ht
        exact k1 d v H2 ht hv (full s2)
    · rw [List.drop_zero] at ht
      subst hr
      exact err H1 0 hR' (SameB.refl _ _) w ⟨by omega, .inl ht⟩

open Tx
theorem s_isNs {H : Hp} {Q : VK} {x : Str} (h : Q (.bl false) H) : L2.rIsN (.str x) .non H Q := ⟨rfl, by rw [decide_eq_false (by intro z; cases z)]; exact h⟩
def isStr : PyData → Bool
  | .str _ => true
  | _ => false
theorem kb_ss : kitB "str" "str" = some true := by decide +kernel
theorem kb_ns : kitB "NoneType" "str" = some false := by decide +kernel
theorem kb_is : kitB "int" "str" = some false := by decide +kernel
theorem kb_bs : kitB "bool" "str" = some false := by decide +kernel
theorem kb_ls : kitB "list" "str" = some false := by decide +kernel
theorem kb_ts : kitB "tuple" "str" = some false := by decide +kernel
theorem s_isiStr {K : PySem.W.Frag} {F : Addr → Prop} {H : Hp} {Q : VK} {v : V} {d : PyData} (h : DaF F H v d) (q : Q (.bl (isStr d)) H) : rIsi K [v, .ty "str"] H Q := by
  cases h with
  | non => exact s_isi .non kb_ns q
  | bl b => exact s_isi (.bl b) kb_bs q
  | int i => exact s_isi (.int i) kb_is q
  | str x => exact s_isi (.str x) kb_ss q
  | lst e _ => exact s_isi (.lst e) kb_ls q
  | tup e _ => exact s_isi (.tup e) kb_ts q
/-- isinstance(thing, (tuple, list)) -/
theorem s_isiTL {K : PySem.W.Frag} {F : Addr → Prop} {H : Hp} {Q : VK} {v : V} {d : PyData} {tp : Addr} (ht : H tp = some (.tup [.ty "tuple", .ty "list"])) (h : DaF F H v d) (q : Q (.bl (isTup d || isLst d)) H) : rIsiT K [v, .ref tp] H Q := by
  cases h with
  | non => exact s_isiT2 ht .non kb_nt kb_nl q
  | bl b => exact s_isiT2 ht (.bl b) kb_bt kb_bl q
  | int i => exact s_isiT2 ht (.int i) kb_it kb_il q
  | str x => exact s_isiT2 ht (.str x) kb_st kb_sl q
  | lst e _ => exact s_isiT2 ht (.lst e) kb_lt kb_ll q
  | tup e _ => exact s_isiT2 ht (.tup e) kb_tt kb_tl q
/-- a list or a tuple of things, shown -/
theorem int_txt (i : Int) : (toString i : Str) = ⟨(intL i).toArray⟩ := TL.ext_tl (by rw [tl_int])
theorem tl_mk (l : List Nat) : TL.tl ⟨l.toArray⟩ = l := rfl
theorem row_txt (ys : List Str) (ds : List PyData) (h : ys = (txts ds).map SX.S) : ((("(" : Str) ++ Txt.join " " ys) ++ (")" : Str)) = SX.S (rowL ds) := by
  refine TL.ext_tl ?_
  have e1 : TL.tl ("(" : Str) = [40] := by decide +kernel
  have e2 : TL.tl (")" : Str) = [41] := by decide +kernel
  have e3 : TL.tl (" " : Str) = [32] := by decide +kernel
  rw [TL.tl_append, TL.tl_append, TL.join_eq, TL.tl_join, e1, e2, e3, h, SX.map_S_tl]
  show [40] ++ _ ++ [41] = rowL ds
  simp [rowL]
theorem S_lenT (l : List Nat) : (SX.S l).length = l.length := SX.S_len l
/-- show(thing), fewer than k deep -/
def sp_show (k : Nat) : Sp := fun vs H Q _ => ∃ (v : V) (d : PyData) (n : Nat), vs = [v] ∧ n < k ∧ Da H v d ∧ Shw n d ∧ (txt d).length ≤ 16000000 ∧ ∀ H', Same H H' → Q (.str (SX.S (txt d))) H'
theorem ok_showS (T : Txt K mg) {k : Nat} (IH : FnOk P w K mg base CX0 (k + 1) (He.ga K "show") (fd_show T) ["thing"] (sp_show k)) : FnOk P w K mg base CX0 (k + 2) (He.ga K "show") (fd_show T) ["thing"] (sp_show (k + 1)) := by
  refine (F_show T).ok sc_show (fun vs H Q E h => ?_) (fun cdv A outer s H vs Q E hr h => ⟨_, PSs.nox (pss_cons (ps_if (pt_cmpR op_isN1 (pv 0) pe_non (nomark _)) (pss_one (ps_ret pe_str)) pss_nil)
      (pss_cons (ps_if (pt_val (pe_callB call_isi rfl (T.fr (T.c.fact 26 rfl)) boot_isinstance (pa_cons (pv 0) (pa_cons (pe_bltn (v := .ty "str") rfl (T.fr (T.c.fact 27 rfl)) boot_str rfl) pa_nil)))) (pss_one (ps_ret (pv 0))) pss_nil)
      (pss_cons (ps_if (pt_val (pe_callB call_isiT rfl (T.fr (T.c.fact 26 rfl)) boot_isinstance (pa_cons (pv 0) (pa_cons (pe_tup (pa_cons (pe_bltn (v := .ty "tuple") rfl (T.fr (T.c.fact 28 rfl)) boot_tuple rfl) (pa_cons (pe_bltn (v := .ty "list") rfl (T.fr (T.c.fact 29 rfl)) boot_list rfl) pa_nil))) pa_nil)))) (pss_one (ps_ret (pe_op op_add_str (pe_op op_add_str pe_str (pe_join pe_str (pe_lc (own := [("one", 1)]) (tt := tYes) rfl sc_show.nd (R.pi_any (pv 0)) (blkOk_by (N := N_show) (sc := defScope s_show) (by decide +kernel)) (fun _ _ _ _ _ => (pg_name (i := 1) sc_show.nd rfl (Or.inl rfl))) (fun _ _ _ _ _ => pts_nil) (fun _ _ _ _ _ => (pe_call (IH) (hr.mono (by omega)) rfl (g_show T) (kp_show T) (B_show T) .nil pass0 (pa_cons (pv 1) pa_nil)))))) pe_str))) pss_nil)
      (pss_one (ps_ret (pe_callTy call_str_int rfl (T.fr (T.c.fact 27 rfl)) boot_str (pa_cons (pv 0) pa_nil))))))), ?_⟩)
  · obtain ⟨v, d, n, rfl, _⟩ := h; rfl
  · obtain ⟨v, d, n, rfl, hn, hv, hs, hl, k1⟩ := h
    by_cases hr : (isTup d || isLst d) = true
    · obtain ⟨m, ds, a, xs, rfl, hds, rfl, ea, hdl, et, es⟩ : ∃ m ds a xs, n = m + 1 ∧ (∀ d ∈ ds, Shw m d) ∧ v = .ref a ∧ (H a = some (.lst xs) ∨ H a = some (.tup xs)) ∧ DaL (fun _ => True) H xs ds ∧ txt d = rowL ds ∧ isStr d = false := by
        cases hs with
        | lst hds => cases hv with
          | lst e h f => exact ⟨_, _, _, _, rfl, hds, rfl, .inl e, h, rfl, rfl⟩
        | tup hds => cases hv with
          | tup e h => exact ⟨_, _, _, _, rfl, hds, rfl, .inr e, h, rfl, rfl⟩
        | non => cases hr
        | int _ => cases hr
        | str _ => cases hr
      rw [et] at hl k1
      have hxl := hdl.len
      have hct := @row_count ds
      walk_at "G"
      refine s_isiStr hv ?_
      rw [es]
      walk_at "G"
      refine mkT (by simp) fun tp H1 ntp etp s1 => ?_
      walk_at "G"
      refine s_isiTL etp (hv.same s1) ?_
      rw [hr]
      walk_at "G"
      refine ⟨⟨_, rfl⟩, ?_⟩
      refine R.s_lcAny (xs := xs) rfl (ea.imp (fun e H' s' => SqL.of (s' _ _ (s1 _ _ e))) fun e H' s' => SqT.of (s' _ _ (s1 _ _ e))) (fun D i H' => Same H1 H' ∧ H1 D = none ∧ H' D = some (.lst ((((txts ds).take i).map SX.S).map V.str))) (fun D i H' h => h.1) (fun D nD => ⟨same_upd nD, nD, by rw [upd_same]; simp⟩) ?_ ?_
      · rintro D i x H2 hx ⟨s2, nD, eD⟩
        obtain ⟨d', hd', hda⟩ := hdl.get hx
        have hmem := List.mem_of_getElem? hd'
        have hil : i < ds.length := (List.getElem?_eq_some_iff.mp hd').1
        have hrm := row_mem hmem
        walk_at "G"
        refine ⟨rfl, ?_⟩
        walk_at "G"
        refine ⟨x, d', m, rfl, by omega, hda.same (s1.trans s2), hds d' hmem, by omega, fun H3 s3 => ⟨_, s3 _ _ eD, ?_, same_upd' (s2.trans s3) nD, nD, ?_⟩⟩
        · rw [List.length_map, List.length_map, List.length_take, txts_len, sizeLine_eq]; omega
        · rw [upd_same, take_more (x := txt d') (by rw [txts_map, List.getElem?_map, hd']; rfl), List.map_append, List.map_append]; rfl
      · rintro D H2 ⟨s2, nD, eD⟩
        rw [List.take_of_length_le (by rw [txts_len]; omega)] at eD
        refine ⟨_, D, (txts ds).map SX.S, rfl, rfl, .inl (SqL.of eD), ?_, ?_⟩
        · have := @row_sum ds
          rw [SX.lens, List.length_map, txts_len]
          show _ + ds.length * (Str.length " ") ≤ _
          rw [show Str.length " " = 1 by decide +kernel]
          omega
        · have hjl : (TL.joinL [32] (txts ds)).length + 2 ≤ 16000000 := by rw [rowL_len] at hl; exact hl
          have e3 : TL.tl (" " : Str) = [32] := by decide +kernel
          have ej : Txt.join " " ((txts ds).map SX.S) = SX.S (TL.joinL [32] (txts ds)) := TL.ext_tl (by rw [TL.join_eq, TL.tl_join, e3, SX.map_S_tl])
          have l1 : Str.length "(" = 1 := by decide +kernel
          have l2 : Str.length ")" = 1 := by decide +kernel
          have lj : (Txt.join " " ((txts ds).map SX.S)).length = (TL.joinL [32] (txts ds)).length := by rw [ej]; exact SX.S_len _
          refine ⟨_, _, rfl, rfl, by rw [lj, l1, sizeLine_eq]; omega, _, _, rfl, rfl, ?_, ?_⟩
          · show ((SX.S [40]) ++ Txt.join " " ((txts ds).map SX.S)).length + Str.length ")" ≤ sizeLine
            rw [ej, SX.S_cat, SX.S_len, l2, sizeLine_eq]
            simp only [List.length_append, List.length_cons, List.length_nil]
            omega
          · have er := row_txt _ ds rfl
            show Q (.str _) H2
            rw [er]
            exact k1 H2 (s1.trans s2)
    · cases hs with
      | non =>
        cases hv
        walk_at "G"
        exact k1 H (Same.refl _)
      | str x =>
        cases hv
        walk_at "G"
        refine s_isNs ?_
        walk_at "G"
        refine s_isi (.str x) kb_ss ?_
        walk_at "G"
        exact k1 H (Same.refl _)
      | @int _ i hi =>
        cases hv
        walk_at "G"
        refine s_isi (.int i) kb_is ?_
        walk_at "G"
        refine mkT (by simp) fun tp H1 ntp etp s1 => ?_
        walk_at "G"
        refine s_isiTL etp (.int i : Da H1 (.int i) (.int i)) ?_
        rw [show (isTup (.int i) || isLst (.int i)) = false from rfl]
        walk_at "G"
        refine ⟨i, rfl, Nat.lt_of_lt_of_le (PySem.Flt.log2_lt_of (by decide) hi) (by decide), ?_⟩
        rw [int_txt]
        exact k1 H1 s1
      | lst _ => exact absurd rfl hr
      | tup _ => exact absurd rfl hr
theorem show0 (T : Txt K mg) : FnOk P w K mg base CX0 1 (He.ga K "show") (fd_show T) ["thing"] (sp_show 0) :=
  ⟨fun _ _ _ _ ⟨_, _, _, _, h, _⟩ => absurd h (by omega), fun _ _ _ _ _ _ _ _ _ _ _ _ _ ⟨_, _, _, _, h, _⟩ => absurd h (by omega)⟩
theorem showK (T : Txt K mg) : ∀ k : Nat, FnOk P w K mg base CX0 (k + 1) (He.ga K "show") (fd_show T) ["thing"] (sp_show k)
  | 0 => show0 T
  | k + 1 => ok_showS T (showK T k)
theorem ok_show (T : Txt K mg) : FnOk P w K mg base CX0 91 (He.ga K "show") (fd_show T) ["thing"] (sp_show 90) := showK T 90

open Tx
/-- _law_written(thing), fewer than k deep -/
def sp__law_written (k : Nat) : Sp := fun vs H Q _ => ∃ (v : V) (d : PyData) (n : Nat), vs = [v] ∧ n < k ∧ Da H v d ∧ Shw n d ∧ (txt d).length ≤ 16000000 ∧ ∀ H', Same H H' → Q (.str (SX.S (txt d))) H'
theorem ok_writtenS (T : Txt K mg) {k : Nat} (IH : FnOk P w K mg base CX0 (k + 1) (He.ga K "_law_written") (fd__law_written T) ["_law_thing_here"] (sp__law_written k)) : FnOk P w K mg base CX0 (k + 2) (He.ga K "_law_written") (fd__law_written T) ["_law_thing_here"] (sp__law_written (k + 1)) := by
  refine (F__law_written T).ok sc__law_written (fun vs H Q E h => ?_) (fun cdv A outer s H vs Q E hr h => ⟨_, PSs.nox (pss_cons (ps_if (pt_cmpR op_isN1 (pv 0) pe_non (nomark _)) (pss_one (ps_ret pe_str)) pss_nil)
      (pss_cons (ps_if (pt_val (pe_callB call_isi rfl (T.fr (T.c.fact 26 rfl)) boot_isinstance (pa_cons (pv 0) (pa_cons (pe_bltn (v := .ty "str") rfl (T.fr (T.c.fact 27 rfl)) boot_str rfl) pa_nil)))) (pss_one (ps_ret (pv 0))) pss_nil)
      (pss_cons (ps_if (PW.pt (pw_or (pt_val (pe_callB call_isi rfl (T.fr (T.c.fact 26 rfl)) boot_isinstance (pa_cons (pv 0) (pa_cons (pe_bltn (v := .ty "tuple") rfl (T.fr (T.c.fact 28 rfl)) boot_tuple rfl) pa_nil)))) (pw_or1 (pt_val (pe_callB call_isi rfl (T.fr (T.c.fact 26 rfl)) boot_isinstance (pa_cons (pv 0) (pa_cons (pe_bltn (v := .ty "list") rfl (T.fr (T.c.fact 29 rfl)) boot_list rfl) pa_nil))))))) (pss_one (ps_ret (pe_op op_add_str (pe_op op_add_str pe_str (pe_join pe_str (pe_lc (own := [("_law_one", 1)]) (tt := tYes) rfl sc__law_written.nd (R.pi_any (pv 0)) (blkOk_by (N := N__law_written) (sc := defScope s__law_written) (by decide +kernel)) (fun _ _ _ _ _ => (pg_name (i := 1) sc__law_written.nd rfl (Or.inl rfl))) (fun _ _ _ _ _ => pts_nil) (fun _ _ _ _ _ => (pe_call (IH) (hr.mono (by omega)) rfl (g__law_written T) (kp__law_written T) (B__law_written T) .nil pass0 (pa_cons (pv 1) pa_nil)))))) pe_str))) pss_nil)
      (pss_one (ps_ret (pe_callTy call_str_int rfl (T.fr (T.c.fact 27 rfl)) boot_str (pa_cons (pv 0) pa_nil))))))), ?_⟩)
  · obtain ⟨v, d, n, rfl, _⟩ := h; rfl
  · obtain ⟨v, d, n, rfl, hn, hv, hs, hl, k1⟩ := h
    by_cases hr : (isTup d || isLst d) = true
    · obtain ⟨m, ds, a, xs, rfl, hds, rfl, ea, hdl, et, es⟩ : ∃ m ds a xs, n = m + 1 ∧ (∀ d ∈ ds, Shw m d) ∧ v = .ref a ∧ (H a = some (.lst xs) ∨ H a = some (.tup xs)) ∧ DaL (fun _ => True) H xs ds ∧ txt d = rowL ds ∧ isStr d = false := by
        cases hs with
        | lst hds => cases hv with
          | lst e h f => exact ⟨_, _, _, _, rfl, hds, rfl, .inl e, h, rfl, rfl⟩
        | tup hds => cases hv with
          | tup e h => exact ⟨_, _, _, _, rfl, hds, rfl, .inr e, h, rfl, rfl⟩
        | non => cases hr
        | int _ => cases hr
        | str _ => cases hr
      rw [et] at hl k1
      have hxl := hdl.len
      have hct := @row_count ds
      walk_at "G"
      refine s_isiStr hv ?_
      rw [es]
      walk_at "h"
      refine s_if ?_
      refine s_ct (fun b => b = true) (fun QB' hQ => ?_) ?_
      · walk_at "G"
        refine s_isiTup hv ?_
        cases ct : isTup d with
        | true =>
          walk_at "G"
          exact hQ _ rfl
        | false =>
          rw [ct, Bool.false_or] at hr
          walk_at "G"
          refine s_isiLst hv ?_
          rw [hr]
          walk_at "G"
          exact hQ _ rfl
      rintro b rfl
      have s1 : Same H H := Same.refl _
      walk_at "G"
      refine ⟨⟨_, rfl⟩, ?_⟩
      refine R.s_lcAny (xs := xs) rfl (ea.imp (fun e H' s' => SqL.of (s' _ _ (s1 _ _ e))) fun e H' s' => SqT.of (s' _ _ (s1 _ _ e))) (fun D i H' => Same H H' ∧ H D = none ∧ H' D = some (.lst ((((txts ds).take i).map SX.S).map V.str))) (fun D i H' h => h.1) (fun D nD => ⟨same_upd nD, nD, by rw [upd_same]; simp⟩) ?_ ?_
      · rintro D i x H2 hx ⟨s2, nD, eD⟩
        obtain ⟨d', hd', hda⟩ := hdl.get hx
        have hmem := List.mem_of_getElem? hd'
        have hil : i < ds.length := (List.getElem?_eq_some_iff.mp hd').1
        have hrm := row_mem hmem
        walk_at "G"
        refine ⟨rfl, ?_⟩
        walk_at "G"
        refine ⟨x, d', m, rfl, by omega, hda.same (s1.trans s2), hds d' hmem, by omega, fun H3 s3 => ⟨_, s3 _ _ eD, ?_, same_upd' (s2.trans s3) nD, nD, ?_⟩⟩
        · rw [List.length_map, List.length_map, List.length_take, txts_len, sizeLine_eq]; omega
        · rw [upd_same, take_more (x := txt d') (by rw [txts_map, List.getElem?_map, hd']; rfl), List.map_append, List.map_append]; rfl
      · rintro D H2 ⟨s2, nD, eD⟩
        rw [List.take_of_length_le (by rw [txts_len]; omega)] at eD
        refine ⟨_, D, (txts ds).map SX.S, rfl, rfl, .inl (SqL.of eD), ?_, ?_⟩
        · have := @row_sum ds
          rw [SX.lens, List.length_map, txts_len]
          show _ + ds.length * (Str.length " ") ≤ _
          rw [show Str.length " " = 1 by decide +kernel]
          omega
        · have hjl : (TL.joinL [32] (txts ds)).length + 2 ≤ 16000000 := by rw [rowL_len] at hl; exact hl
          have e3 : TL.tl (" " : Str) = [32] := by decide +kernel
          have ej : Txt.join " " ((txts ds).map SX.S) = SX.S (TL.joinL [32] (txts ds)) := TL.ext_tl (by rw [TL.join_eq, TL.tl_join, e3, SX.map_S_tl])
          have l1 : Str.length "(" = 1 := by decide +kernel
          have l2 : Str.length ")" = 1 := by decide +kernel
          have lj : (Txt.join " " ((txts ds).map SX.S)).length = (TL.joinL [32] (txts ds)).length := by rw [ej]; exact SX.S_len _
          refine ⟨_, _, rfl, rfl, by rw [lj, l1, sizeLine_eq]; omega, _, _, rfl, rfl, ?_, ?_⟩
          · show ((SX.S [40]) ++ Txt.join " " ((txts ds).map SX.S)).length + Str.length ")" ≤ sizeLine
            rw [ej, SX.S_cat, SX.S_len, l2, sizeLine_eq]
            simp only [List.length_append, List.length_cons, List.length_nil]
            omega
          · have er := row_txt _ ds rfl
            show Q (.str _) H2
            rw [er]
            exact k1 H2 (s1.trans s2)
    · cases hs with
      | non =>
        cases hv
        walk_at "G"
        exact k1 H (Same.refl _)
      | str x =>
        cases hv
        walk_at "G"
        refine s_isNs ?_
        walk_at "G"
        refine s_isi (.str x) kb_ss ?_
        walk_at "G"
        exact k1 H (Same.refl _)
      | @int _ i hi =>
        cases hv
        walk_at "G"
        refine s_isi (.int i) kb_is ?_
        walk_at "G"
        refine s_isiTup (.int i : Da H (.int i) (.int i)) ?_
        rw [show isTup (.int i) = false from rfl]
        walk_at "G"
        refine s_isiLst (.int i : Da H (.int i) (.int i)) ?_
        rw [show isLst (.int i) = false from rfl]
        walk_at "G"
        refine ⟨i, rfl, Nat.lt_of_lt_of_le (PySem.Flt.log2_lt_of (by decide) hi) (by decide), ?_⟩
        rw [int_txt]
        exact k1 H (Same.refl _)
      | lst _ => exact absurd rfl hr
      | tup _ => exact absurd rfl hr
theorem written0 (T : Txt K mg) : FnOk P w K mg base CX0 1 (He.ga K "_law_written") (fd__law_written T) ["_law_thing_here"] (sp__law_written 0) :=
  ⟨fun _ _ _ _ ⟨_, _, _, _, h, _⟩ => absurd h (by omega), fun _ _ _ _ _ _ _ _ _ _ _ _ _ ⟨_, _, _, _, h, _⟩ => absurd h (by omega)⟩
theorem writtenK (T : Txt K mg) : ∀ k : Nat, FnOk P w K mg base CX0 (k + 1) (He.ga K "_law_written") (fd__law_written T) ["_law_thing_here"] (sp__law_written k)
  | 0 => written0 T
  | k + 1 => ok_writtenS T (writtenK T k)
theorem ok__law_written (T : Txt K mg) : FnOk P w K mg base CX0 91 (He.ga K "_law_written") (fd__law_written T) ["_law_thing_here"] (sp__law_written 90) := writtenK T 90

/-- n deep at most, rows not too long -/
inductive Nst : Nat → PyData → Prop
  | atom {n : Nat} {d : PyData} (h1 : isTup d = false) (h2 : isLst d = false) : Nst n d
  | lst {n : Nat} {ds : List PyData} (l : ds.length ≤ 16000000) (h : ∀ d ∈ ds, Nst n d) : Nst (n + 1) (.list ds)
  | tup {n : Nat} {ds : List PyData} (l : ds.length ≤ 16000000) (h : ∀ d ∈ ds, Nst n d) : Nst (n + 1) (.tuple ds)
theorem s_eqAtom {F G : Addr → Prop} {H : Hp} {Q : VK} {x y : V} {d : PyData} (h1 : isTup d = false) (h2 : isLst d = false) (hx : DaF F H x d) (hy : DaF G H y d) (q : Q (.bl true) H) : rEq x y H Q := by
  cases hx with
  | non => cases hy; exact ⟨rfl, by simpa using q⟩
  | bl b => cases hy; exact ⟨rfl, by simpa using q⟩
  | int i => cases hy; exact ⟨rfl, by simpa using q⟩
  | str z => cases hy; exact ⟨rfl, by simpa using q⟩
  | lst _ _ _ => cases h2
  | tup _ _ => cases h1
/-- _law_same(found, due) of the same thing twice, fewer than k deep -/
def sp__law_same (k : Nat) : Sp := fun vs H Q _ => ∃ (x y : V) (d : PyData) (n : Nat), vs = [x, y] ∧ n < k ∧ Da H x d ∧ Da H y d ∧ Nst n d ∧ ∀ H', Same H H' → Q (.bl true) H'
theorem ok_sameS (T : Txt K mg) {k : Nat} (IH : FnOk P w K mg base CX0 (k + 1) (He.ga K "_law_same") (fd__law_same T) ["_law_found", "_law_due"] (sp__law_same k)) : FnOk P w K mg base CX0 (k + 2) (He.ga K "_law_same") (fd__law_same T) ["_law_found", "_law_due"] (sp__law_same (k + 1)) := by
  refine (F__law_same T).ok sc__law_same (fun vs H Q E h => ?_) (fun cdv A outer s H vs Q E hr h => ⟨_, PSs.nox (pss_cons (ps_if (PW.pt (pw_or (pt_val (pe_callB call_isi rfl (T.fr (T.c.fact 26 rfl)) boot_isinstance (pa_cons (pv 1) (pa_cons (pe_bltn (v := .ty "tuple") rfl (T.fr (T.c.fact 28 rfl)) boot_tuple rfl) pa_nil)))) (pw_or1 (pt_val (pe_callB call_isi rfl (T.fr (T.c.fact 26 rfl)) boot_isinstance (pa_cons (pv 1) (pa_cons (pe_bltn (v := .ty "list") rfl (T.fr (T.c.fact 29 rfl)) boot_list rfl) pa_nil))))))) (pss_cons (ps_if (PW.pt (pw_or (pt_cmpR op_ne (pe_callB call_isi rfl (T.fr (T.c.fact 26 rfl)) boot_isinstance (pa_cons (pv 0) (pa_cons (pe_bltn (v := .ty "tuple") rfl (T.fr (T.c.fact 28 rfl)) boot_tuple rfl) pa_nil))) (pe_callB call_isi rfl (T.fr (T.c.fact 26 rfl)) boot_isinstance (pa_cons (pv 1) (pa_cons (pe_bltn (v := .ty "tuple") rfl (T.fr (T.c.fact 28 rfl)) boot_tuple rfl) pa_nil))) (nomark _)) (pw_or1 (pt_cmpR op_ne (pe_callB call_isi rfl (T.fr (T.c.fact 26 rfl)) boot_isinstance (pa_cons (pv 0) (pa_cons (pe_bltn (v := .ty "list") rfl (T.fr (T.c.fact 29 rfl)) boot_list rfl) pa_nil))) (pe_callB call_isi rfl (T.fr (T.c.fact 26 rfl)) boot_isinstance (pa_cons (pv 1) (pa_cons (pe_bltn (v := .ty "list") rfl (T.fr (T.c.fact 29 rfl)) boot_list rfl) pa_nil))) (nomark _))))) (pss_one (ps_ret pe_bl)) pss_nil)
      (pss_one (ps_ret (pe_and (pe_cmpR op_eq (pe_callB callLen rfl (T.fr (T.c.fact 30 rfl)) boot_len (pa_cons (pv 0) pa_nil)) (pe_callB callLen rfl (T.fr (T.c.fact 30 rfl)) boot_len (pa_cons (pv 1) pa_nil)) (nomark _)) (pe_one (pe_callB (cr_all rfl) rfl (T.fr (T.c.fact 33 rfl)) boot_all (pa_cons (pe_lc (own := [("_law_one", 2), ("_law_other", 3)]) (tt := tYes) (g := gTup K 2 (gCons (gName 2) (gCons (gName 3) gNil))) rfl sc__law_same.nd (RZ.pi_zipA rfl (T.fr (T.c.fact 35 rfl)) (pa_cons (pv 0) (pa_cons (pv 1) pa_nil))) (blkOk_by (N := N__law_same) (sc := defScope s__law_same) (by decide +kernel)) (fun _ _ _ _ _ => (pg_tup rfl (pgs_cons (pg_name (i := 2) sc__law_same.nd rfl (Or.inl rfl)) (pgs_cons (pg_name (i := 3) sc__law_same.nd rfl (Or.inl rfl)) pgs_nil)))) (fun _ _ _ _ _ => pts_nil) (fun _ _ _ _ _ => (pe_call (IH) (hr.mono (by omega)) rfl (g__law_same T) (kp__law_same T) (B__law_same T) .nil pass0 (pa_cons (pv 2) (pa_cons (pv 3) pa_nil))))) pa_nil))))))) pss_nil)
      (pss_one (ps_ret (pe_and (pe_cmpR op_eq (pe_callB call_isi rfl (T.fr (T.c.fact 26 rfl)) boot_isinstance (pa_cons (pv 0) (pa_cons (pe_bltn (v := .ty "bool") rfl (T.fr (T.c.fact 34 rfl)) boot_bool rfl) pa_nil))) (pe_callB call_isi rfl (T.fr (T.c.fact 26 rfl)) boot_isinstance (pa_cons (pv 1) (pa_cons (pe_bltn (v := .ty "bool") rfl (T.fr (T.c.fact 34 rfl)) boot_bool rfl) pa_nil))) (nomark _)) (pe_one (pe_cmpR op_eq (pv 0) (pv 1) (nomark _))))))), ?_⟩)
  · obtain ⟨x, y, d, n, rfl, _⟩ := h; rfl
  · obtain ⟨x, y, d, n, rfl, hn, hx, hy, hs, k1⟩ := h
    cases hs with
    | atom h1 h2 =>
      walk_at "g"
      refine s_isiTup hy ?_
      rw [h1]
      walk_at "g"
      refine s_isiLst hy ?_
      rw [h2]
      walk_at "g"
      refine s_isiBool hx ?_
      walk_at "g"
      refine s_isiBool hy ?_
      walk_at "g"
      try refine s_itP rfl ?_
      walk_at "g"
      exact s_eqAtom h1 h2 hx hy (k1 H (Same.refl _))
    | @tup m ds hdl hds =>
      cases hx with
      | @tup p xs _ ep hxs =>
      cases hy with
      | @tup q ys _ eq hys =>
      have hxl := hxs.len
      have hyl := hys.len
      walk_at "g"
      refine s_isi (.tup eq) kb_tt ?_
      walk_at "g"
      refine s_isi (.tup ep) kb_tt ?_
      walk_at "g"
      refine s_isi (.tup eq) kb_tt ?_
      walk_at "g"
      refine s_isi (.tup ep) kb_tl ?_
      walk_at "g"
      refine s_isi (.tup eq) kb_tl ?_
      walk_at "g"
      refine s_lenT (SqT.of ep) ?_
      walk_at "g"
      refine s_lenT (SqT.of eq) ?_
      walk_at "g"
      refine s_itP (by omega) ?_
      walk_at "g"
      refine s_lc ?_
      walk_at "g"
      refine ⟨p, q, xs, ys, rfl, .inr ⟨SqT.of ep, SqT.of eq, fun D hD => ?_⟩⟩
      refine lc_it (walk_zipT (xs := xs) (ys := ys) (n := xs.length) (by omega)) (fun i H3 => Same H H3 ∧ H3 D = some (.lst ((List.replicate i true).map V.bl))) ⟨same_upd hD, upd_same⟩ (fun i H3 _ I => ⟨SqT.of (I.1 _ _ ep), SqT.of (I.1 _ _ eq)⟩) ?_ ?_
      · rintro i x H3 H4 hi ⟨s3, hb⟩ ⟨T2, x1, y1, rfl, nT, rfl, hx, hy⟩
        obtain ⟨d1, hd1, hdd⟩ := hxs.get hx
        obtain ⟨e1, he1, hee⟩ := hys.get hy
        rw [hd1] at he1
        cases he1
        have S4 : Same H3 (upd H3 T2 (.tup [x1, y1])) := same_upd nT
        have e4 : upd H3 T2 (.tup [x1, y1]) T2 = some (.tup [x1, y1]) := upd_same
        generalize upd H3 T2 (.tup [x1, y1]) = H4 at S4 e4 ⊢
        have hil : i < xs.length := (List.getElem?_eq_some_iff.mp hx).1
        refine s_gtup (SqT.of e4) rfl ?_
        walk_at "g"
        refine ⟨rfl, ?_⟩
        walk_at "g"
        refine ⟨x1, y1, d1, m, rfl, by omega, hdd.same (s3.trans S4), hee.same (s3.trans S4), hds d1 (List.mem_of_getElem? hd1), fun H5 s5 => ?_⟩
        refine ⟨_, s5 _ _ (S4 _ _ hb), by rw [List.length_map, List.length_replicate, sizeLine_eq]; omega, same_upd' (s3.trans (S4.trans s5)) hD, ?_⟩
        rw [upd_same, List.replicate_succ', List.map_append]; rfl
      · rintro H3 ⟨s3, hb⟩
        refine ⟨D, _, rfl, SqL.of hb, ?_⟩
        rw [show ((List.replicate xs.length true).all id) = true by simp]
        exact k1 H3 s3
    | @lst m ds hdl hds =>
      cases hx with
      | @lst p xs _ ep hxs _ =>
      cases hy with
      | @lst q ys _ eq hys _ =>
      have hxl := hxs.len
      have hyl := hys.len
      walk_at "g"
      refine s_isi (.lst eq) kb_lt ?_
      walk_at "g"
      refine s_isi (.lst eq) kb_ll ?_
      walk_at "g"
      refine s_isi (.lst ep) kb_lt ?_
      walk_at "g"
      refine s_isi (.lst eq) kb_lt ?_
      walk_at "g"
      refine s_isi (.lst ep) kb_ll ?_
      walk_at "g"
      refine s_isi (.lst eq) kb_ll ?_
      walk_at "g"
      refine s_lenL (SqL.of ep) ?_
      walk_at "g"
      refine s_lenL (SqL.of eq) ?_
      walk_at "g"
      refine s_itP (by omega) ?_
      walk_at "g"
      refine s_lc ?_
      walk_at "g"
      refine ⟨p, q, xs, ys, rfl, .inl ⟨SqL.of ep, SqL.of eq, fun D hD => ?_⟩⟩
      refine lc_it (walk_zip (xs := xs) (ys := ys) (n := xs.length) (by omega)) (fun i H3 => Same H H3 ∧ H3 D = some (.lst ((List.replicate i true).map V.bl))) ⟨same_upd hD, upd_same⟩ (fun i H3 _ I => ⟨SqL.of (I.1 _ _ ep), SqL.of (I.1 _ _ eq)⟩) ?_ ?_
      · rintro i x H3 H4 hi ⟨s3, hb⟩ ⟨T2, x1, y1, rfl, nT, rfl, hx, hy⟩
        obtain ⟨d1, hd1, hdd⟩ := hxs.get hx
        obtain ⟨e1, he1, hee⟩ := hys.get hy
        rw [hd1] at he1
        cases he1
        have S4 : Same H3 (upd H3 T2 (.tup [x1, y1])) := same_upd nT
        have e4 : upd H3 T2 (.tup [x1, y1]) T2 = some (.tup [x1, y1]) := upd_same
        generalize upd H3 T2 (.tup [x1, y1]) = H4 at S4 e4 ⊢
        have hil : i < xs.length := (List.getElem?_eq_some_iff.mp hx).1
        refine s_gtup (SqT.of e4) rfl ?_
        walk_at "g"
        refine ⟨rfl, ?_⟩
        walk_at "g"
        refine ⟨x1, y1, d1, m, rfl, by omega, hdd.same (s3.trans S4), hee.same (s3.trans S4), hds d1 (List.mem_of_getElem? hd1), fun H5 s5 => ?_⟩
        refine ⟨_, s5 _ _ (S4 _ _ hb), by rw [List.length_map, List.length_replicate, sizeLine_eq]; omega, same_upd' (s3.trans (S4.trans s5)) hD, ?_⟩
        rw [upd_same, List.replicate_succ', List.map_append]; rfl
      · rintro H3 ⟨s3, hb⟩
        refine ⟨D, _, rfl, SqL.of hb, ?_⟩
        rw [show ((List.replicate xs.length true).all id) = true by simp]
        exact k1 H3 s3
theorem same0 (T : Txt K mg) : FnOk P w K mg base CX0 1 (He.ga K "_law_same") (fd__law_same T) ["_law_found", "_law_due"] (sp__law_same 0) :=
  ⟨fun _ _ _ _ ⟨_, _, _, _, _, h, _⟩ => absurd h (by omega), fun _ _ _ _ _ _ _ _ _ _ _ _ _ ⟨_, _, _, _, _, h, _⟩ => absurd h (by omega)⟩
theorem sameK (T : Txt K mg) : ∀ k : Nat, FnOk P w K mg base CX0 (k + 1) (He.ga K "_law_same") (fd__law_same T) ["_law_found", "_law_due"] (sp__law_same k)
  | 0 => same0 T
  | k + 1 => ok_sameS T (sameK T k)
theorem ok__law_same (T : Txt K mg) : FnOk P w K mg base CX0 91 (He.ga K "_law_same") (fd__law_same T) ["_law_found", "_law_due"] (sp__law_same 90) := sameK T 90
theorem Nst.mono : ∀ {n m : Nat} {d : PyData}, Nst n d → n ≤ m → Nst m d := by
  intro n m d h
  induction h generalizing m with
  | atom h1 h2 => intro _; exact .atom h1 h2
  | lst l _ ih =>
    intro e
    obtain ⟨k, rfl⟩ : ∃ k, m = k + 1 := ⟨m - 1, by omega⟩
    exact .lst l fun d hd => ih d hd (by omega)
  | tup l _ ih =>
    intro e
    obtain ⟨k, rfl⟩ : ∃ k, m = k + 1 := ⟨m - 1, by omega⟩
    exact .tup l fun d hd => ih d hd (by omega)

open Tx
/-- _law_tuples(thing), fewer than k deep -/
def sp__law_tuples (k : Nat) : Sp := fun vs H Q _ => ∃ (v : V) (d : PyData) (n : Nat), vs = [v] ∧ n < k ∧ Da H v d ∧ Nst n d ∧ ∀ v' H', Tu H' v' (tupd d) → Same H H' → Q v' H'
theorem tupds_len (ds : List PyData) : (tupds ds).length = ds.length := by rw [tupds_map, List.length_map]
theorem ok_tuplesS (T : Txt K mg) {k : Nat} (IH : FnOk P w K mg base CX0 (k + 1) (He.ga K "_law_tuples") (fd__law_tuples T) ["_law_thing_here"] (sp__law_tuples k)) : FnOk P w K mg base CX0 (k + 2) (He.ga K "_law_tuples") (fd__law_tuples T) ["_law_thing_here"] (sp__law_tuples (k + 1)) := by
  refine (F__law_tuples T).ok sc__law_tuples (fun vs H Q E h => ?_) (fun cdv A outer s H vs Q E hr h => ⟨_, PSs.nox (pss_cons (ps_if (PW.pt (pw_or (pt_val (pe_callB call_isi rfl (T.fr (T.c.fact 26 rfl)) boot_isinstance (pa_cons (pv 0) (pa_cons (pe_bltn (v := .ty "tuple") rfl (T.fr (T.c.fact 28 rfl)) boot_tuple rfl) pa_nil)))) (pw_or1 (pt_val (pe_callB call_isi rfl (T.fr (T.c.fact 26 rfl)) boot_isinstance (pa_cons (pv 0) (pa_cons (pe_bltn (v := .ty "list") rfl (T.fr (T.c.fact 29 rfl)) boot_list rfl) pa_nil))))))) (pss_one (ps_ret (pe_callTy callTup rfl (T.fr (T.c.fact 28 rfl)) boot_tuple (pa_cons (pe_lc (own := [("_law_one", 1)]) (tt := tYes) rfl sc__law_tuples.nd (R.pi_any (pv 0)) (blkOk_by (N := N__law_tuples) (sc := defScope s__law_tuples) (by decide +kernel)) (fun _ _ _ _ _ => (pg_name (i := 1) sc__law_tuples.nd rfl (Or.inl rfl))) (fun _ _ _ _ _ => pts_nil) (fun _ _ _ _ _ => (pe_call (IH) (hr.mono (by omega)) rfl (g__law_tuples T) (kp__law_tuples T) (B__law_tuples T) .nil pass0 (pa_cons (pv 1) pa_nil)))) pa_nil)))) pss_nil)
      (pss_one (ps_ret (pv 0)))), ?_⟩)
  · obtain ⟨v, d, n, rfl, _⟩ := h; rfl
  · obtain ⟨v, d, n, rfl, hn, hv, hs, k1⟩ := h
    by_cases hr : (isTup d || isLst d) = true
    · obtain ⟨m, ds, a, xs, rfl, hdn, hds, rfl, ea, hdl, et⟩ : ∃ m ds a xs, n = m + 1 ∧ ds.length ≤ 16000000 ∧ (∀ d ∈ ds, Nst m d) ∧ v = .ref a ∧ (H a = some (.lst xs) ∨ H a = some (.tup xs)) ∧ DaL (fun _ => True) H xs ds ∧ tupd d = .tuple (tupds ds) := by
        cases hs with
        | lst l hds => cases hv with
          | lst e h f => exact ⟨_, _, _, _, rfl, l, hds, rfl, .inl e, h, by simp only [tupd]⟩
        | tup l hds => cases hv with
          | tup e h => exact ⟨_, _, _, _, rfl, l, hds, rfl, .inr e, h, by simp only [tupd]⟩
        | atom h1 h2 => rw [h1, h2] at hr; cases hr
      rw [et] at k1
      have hxl := hdl.len
      have htl := tupds_len ds
      walk_at "h"
      refine s_if ?_
      refine s_ct (fun b => b = true) (fun QB' hQ => ?_) ?_
      · walk_at "G"
        refine s_isiTup hv ?_
        cases ct : isTup d with
        | true =>
          walk_at "G"
          exact hQ _ rfl
        | false =>
          rw [ct, Bool.false_or] at hr
          walk_at "G"
          refine s_isiLst hv ?_
          rw [hr]
          walk_at "G"
          exact hQ _ rfl
      rintro b rfl
      walk_at "G"
      refine R.s_lcAny (xs := xs) rfl (ea.imp (fun e H' s' => SqL.of (s' _ _ e)) fun e H' s' => SqT.of (s' _ _ e)) (fun D i H' => Same H H' ∧ H D = none ∧ ∃ ws, H' D = some (.lst ws) ∧ DaL (fun _ => False) H' ws ((tupds ds).take i)) (fun D i H' h => h.1) (fun D nD => ⟨same_upd nD, nD, [], upd_same, by simp; exact .nil⟩) ?_ ?_
      · rintro D i x H2 hx ⟨s2, nD, ws, eD, hws⟩
        obtain ⟨d', hd', hda⟩ := hdl.get hx
        have hmem := List.mem_of_getElem? hd'
        have hil : i < ds.length := (List.getElem?_eq_some_iff.mp hd').1
        have hwl := hws.len
        rw [List.length_take] at hwl
        walk_at "G"
        refine ⟨rfl, ?_⟩
        walk_at "G"
        refine ⟨x, d', m, rfl, by omega, hda.same s2, hds d' hmem, fun v' H3 hv' s3 => ⟨_, s3 _ _ eD, by rw [sizeLine_eq]; omega, same_upd' (s2.trans s3) nD, nD, _, upd_same, ?_⟩⟩
        rw [take_more (x := tupd d') (by rw [tupds_map, List.getElem?_map, hd']; rfl)]
        exact DaL.app (.cons (hv'.upd (s3 _ _ eD) fun z => z) .nil) ((hws.same s3).upd (s3 _ _ eD) fun z => z)
      · rintro D H2 ⟨s2, nD, ws, eD, hws⟩
        rw [List.take_of_length_le (by omega)] at hws
        walk_at "G"
        refine s_tupL (SqL.of eD) fun W nW => ?_
        have s4 : Same H2 (upd H2 W (.tup ws)) := same_upd nW
        have eW : upd H2 W (.tup ws) W = some (.tup ws) := upd_same
        exact k1 _ _ (.tup eW (hws.same s4)) (s2.trans s4)
    · have h1 : isTup d = false := by cases h : isTup d <;> simp_all
      have h2 : isLst d = false := by cases h : isLst d <;> simp_all
      walk_at "G"
      refine s_isiTup hv ?_
      rw [h1]
      walk_at "G"
      refine s_isiLst hv ?_
      rw [h2]
      walk_at "G"
      refine k1 v H ?_ (Same.refl _)
      cases hv with
      | non => exact .non
      | bl b => exact .bl b
      | int i => exact .int i
      | str x => exact .str x
      | lst _ _ _ => cases h2
      | tup _ _ => cases h1
theorem tuples0 (T : Txt K mg) : FnOk P w K mg base CX0 1 (He.ga K "_law_tuples") (fd__law_tuples T) ["_law_thing_here"] (sp__law_tuples 0) :=
  ⟨fun _ _ _ _ ⟨_, _, _, _, h, _⟩ => absurd h (by omega), fun _ _ _ _ _ _ _ _ _ _ _ _ _ ⟨_, _, _, _, h, _⟩ => absurd h (by omega)⟩
theorem tuplesK (T : Txt K mg) : ∀ k : Nat, FnOk P w K mg base CX0 (k + 1) (He.ga K "_law_tuples") (fd__law_tuples T) ["_law_thing_here"] (sp__law_tuples k)
  | 0 => tuples0 T
  | k + 1 => ok_tuplesS T (tuplesK T k)
theorem ok__law_tuples (T : Txt K mg) : FnOk P w K mg base CX0 91 (He.ga K "_law_tuples") (fd__law_tuples T) ["_law_thing_here"] (sp__law_tuples 90) := tuplesK T 90

mutual
theorem DaF.stay {F : Addr → Prop} {H H' : Hp} (kt : ∀ b r, H b = some (.tup r) → H' b = some (.tup r)) (kl : ∀ b r, H b = some (.lst r) → H' b = some (.lst r)) : ∀ {v : V} {d : PyData}, DaF F H v d → DaF F H' v d
  | _, _, .non => .non
  | _, _, .bl b => .bl b
  | _, _, .int i => .int i
  | _, _, .str x => .str x
  | _, _, .lst e h f => .lst (kl _ _ e) (DaL.stay kt kl h) f
  | _, _, .tup e h => .tup (kt _ _ e) (DaL.stay kt kl h)
theorem DaL.stay {F : Addr → Prop} {H H' : Hp} (kt : ∀ b r, H b = some (.tup r) → H' b = some (.tup r)) (kl : ∀ b r, H b = some (.lst r) → H' b = some (.lst r)) : ∀ {vs : List V} {ds : List PyData}, DaL F H vs ds → DaL F H' vs ds
  | _, _, .nil => .nil
  | _, _, .cons h t => .cons (DaF.stay kt kl h) (DaL.stay kt kl t)
end
theorem TpQ.ns {H : Hp} {s q b : Addr} {n : Nat} (h : TpQ H s q n) (e : H b = none) : b ≠ s ∧ b ≠ q := by
  obtain ⟨cs, spot, left, h1, h2, _⟩ := h
  exact ⟨fun z => (by rw [z, h1] at e; cases e), fun z => (by rw [z, h2] at e; cases e)⟩
theorem TpQ.nl {H : Hp} {s q b : Addr} {n : Nat} {xs : List V} (h : TpQ H s q n) (e : H b = some (.lst xs)) : b ≠ s := by
  obtain ⟨cs, spot, left, h1, _⟩ := h
  exact fun z => by rw [z, h1] at e; cases e
theorem TpQ.nt {H : Hp} {s q b : Addr} {n : Nat} {xs : List V} (h : TpQ H s q n) (e : H b = some (.tup xs)) : b ≠ s := by
  obtain ⟨cs, spot, left, h1, _⟩ := h
  exact fun z => by rw [z, h1] at e; cases e
theorem DaF.tq {F : Addr → Prop} {H H' : Hp} {s q : Addr} {n : Nat} {v : V} {d : PyData} (h : DaF F H v d) (st : TpQ H s q n) (sb : SameB s H H') : DaF F H' v d := h.stay (fun _ _ e => sb _ _ (st.nt e) e) fun _ _ e => sb _ _ (st.nl e) e
theorem DaL.tq {F : Addr → Prop} {H H' : Hp} {s q : Addr} {n : Nat} {vs : List V} {ds : List PyData} (h : DaL F H vs ds) (st : TpQ H s q n) (sb : SameB s H H') : DaL F H' vs ds := h.stay (fun _ _ e => sb _ _ (st.nt e) e) fun _ _ e => sb _ _ (st.nl e) e
theorem TpQ.updL {H : Hp} {s q L : Addr} {n : Nat} {xs : List V} {o : HO} (h : TpQ H s q n) (e : H L = some (.lst xs)) (ne : L ≠ q) : TpQ (upd H L o) s q n := by
  have hs := h.nl e
  exact h.fr (fun o2 z => by rw [upd_ne (Ne.symm hs)]; exact z) fun o2 z => by rw [upd_ne (Ne.symm ne)]; exact z
theorem TpQ.fresh {H H' : Hp} {s q a : Addr} {n m : Nat} (h : TpQ H s q n) (sb : SameB s H H') (t : TpQ H' s q m) (e : H' a = none) : H a = none := by
  cases c : H a with
  | none => rfl
  | some o =>
    have := sb a o (t.ns e).1 c
    rw [e] at this; cases this

open Tx
/-- _law_letters(tape): a word of one to eight small letters -/
def sp__law_letters : Sp := fun vs H Q _ => ∃ (s q : Addr) (n : Nat), vs = [.ref s] ∧ 9 ≤ n ∧ TpQ H s q n ∧ ∀ (z : Str) H', (∀ c ∈ TL.tl z, isA c = true) → TL.tl z ≠ [] → (TL.tl z).length ≤ 8 → TpQ H' s q (n - 9) → SameB s H H' → Q (.str z) H'
theorem ok__law_letters (T : Txt K mg) : FnOk P w K mg base CX0 2 (He.ga K "_law_letters") (fd__law_letters T) ["_law_tape_here"] sp__law_letters := by
  refine (F__law_letters T).ok sc__law_letters (fun vs H Q E h => ?_) (fun cdv A outer s H vs Q E hr h => ⟨_, PSs.nox (pss_cons (ps_set (i := 1) sc__law_letters.nd rfl (Or.inl rfl) pe_str)
      (pss_cons (ps_for PassesOwn.never rfl (pi_range1 rfl (T.fr (T.c.fact 32 rfl)) (pa_cons (pe_op op_add pe_int (pe_call (ok__law_draw T) (hr.mono (by decide)) rfl (g__law_draw T) (kp__law_draw T) (B__law_draw T) .nil pass0 (pa_cons (pv 0) (pa_cons pe_int pa_nil)))) pa_nil)) (pg_name (i := 2) sc__law_letters.nd rfl (Or.inl rfl)) (pss_one (ps_set (i := 1) sc__law_letters.nd rfl (Or.inl rfl) (pe_op op_add_str (pv 1) (pe_ix ix_str pe_str (pe_call (ok__law_draw T) (hr.mono (by decide)) rfl (g__law_draw T) (kp__law_draw T) (B__law_draw T) .nil pass0 (pa_cons (pv 0) (pa_cons pe_int pa_nil))) (fun _ _ => rfl))))))
      (pss_one (ps_ret (pv 1))))), ?_⟩)
  · obtain ⟨s, q, n, rfl, _⟩ := h; rfl
  · obtain ⟨s, q, n, rfl, hn, ht, k⟩ := h
    have el : TL.tl ("" : Str) = [] := by decide +kernel
    have ea : ("abcdefghijklmnopqrstuvwxyz" : Str).cps.toList.length = 26 := by decide +kernel
    have ez : ("abcdefghijklmnopqrstuvwxyz" : Str).length = 26 := by decide +kernel
    walk_at "g"
    refine ⟨s, q, 8, n, rfl, by decide, by decide, by omega, ht, fun y H1 y0 y1 t1 s1 => ?_⟩
    walk_at "g"
    refine mkR1 (1 + y).toNat rfl (by omega) (by omega) ?_
    refine for_range (n := (1 + y).toNat) (fun i σ H' => SameB s H H' ∧ TpQ H' s q (n - 1 - i) ∧ ∃ (z : Str) (v : Option V), σ = [some (.ref s), some (.str z), v] ∧ (∀ c ∈ TL.tl z, isA c = true) ∧ (TL.tl z).length = i) ⟨s1, t1, _, _, rfl, by rw [el]; simp, by rw [el]; rfl⟩ ?_ ?_
    · rintro i σ H' hi ⟨s2, t2, z, v, rfl, hz, hl⟩
      walk_at "g"
      refine ⟨s, q, 26, n - 1 - i, rfl, by decide, by decide, by omega, t2, fun x H2 x0 x1 t3 s3 => ?_⟩
      obtain ⟨x, rfl⟩ := Int.eq_ofNat_of_zero_le x0
      have hx : x < ("abcdefghijklmnopqrstuvwxyz" : Str).cps.toList.length := by omega
      refine ⟨_, (x : Int), ("abcdefghijklmnopqrstuvwxyz" : Str).cps.toList[x], rfl, rfl, by rw [ez, sizeLine_eq]; decide, atI0 x rfl (List.getElem?_eq_getElem hx), ?_⟩
      have hc : isA (("abcdefghijklmnopqrstuvwxyz" : Str).cps.toList[x]) = true := by
        rw [← inA]
        exact decide_eq_true (List.getElem_mem hx)
      generalize ("abcdefghijklmnopqrstuvwxyz" : Str).cps.toList[x] = c at hc ⊢
      have zl : z.length = i := by rw [← hl]; exact Array.length_toList.symm
      refine ⟨z, ⟨#[c]⟩, rfl, rfl, by rw [zl, sizeLine_eq]; show i + 1 ≤ _; omega, ?_⟩
      have e1 : TL.tl (z ++ (⟨#[c]⟩ : Str)) = TL.tl z ++ [c] := TL.tl_append _ _
      walk_at "g"
      refine ⟨s2.trans s3, by rw [show n - 1 - (i + 1) = n - 1 - i - 1 by omega]; exact t3, _, _, rfl, ?_, ?_⟩
      · rw [e1]
        intro d hd
        rcases List.mem_append.mp hd with z1 | z1
        · exact hz d z1
        · rw [List.mem_singleton.mp z1]; exact hc
      · rw [e1, List.length_append, hl]; rfl
    · rintro σ H' ⟨s2, t2, z, v, rfl, hz, hl⟩
      walk_at "g"
      exact k z H' hz (fun e => by rw [e] at hl; simp at hl; omega) (by omega) (t2.mono (by omega)) s2
/-- a leaf -/
def Leaf (v : V) (d : PyData) : Prop := (∀ (F : Addr → Prop) (H : Hp), DaF F H v d) ∧ Gd 0 d ∧ isTup d = false ∧ isLst d = false ∧ (txt d).length ≤ 61
theorem leaf_int {i : Int} (h : i.natAbs < 10 ^ 60) : Leaf (.int i) (.int i) := ⟨fun _ _ => .int i, .int h, rfl, rfl, by
  have h1 := TL.numL_len (n := i.natAbs) (k := 60) (by decide) h
  show (intL i).length ≤ 61
  unfold intL
  split
  · rw [List.length_cons]; omega
  · omega⟩
/-- _law_leaf(tape) -/
def sp__law_leaf : Sp := fun vs H Q _ => ∃ (s q : Addr) (n : Nat), vs = [.ref s] ∧ 10 ≤ n ∧ TpQ H s q n ∧ ∀ (v : V) (d : PyData) H', Leaf v d → TpQ H' s q (n - 10) → SameB s H H' → Q v H'
theorem ok__law_leaf (T : Txt K mg) : FnOk P w K mg base CX0 3 (He.ga K "_law_leaf") (fd__law_leaf T) ["_law_tape_here"] sp__law_leaf := by
  refine (F__law_leaf T).ok sc__law_leaf (fun vs H Q E h => ?_) (fun cdv A outer s H vs Q E hr h => ⟨_, PSs.nox (pss_cons (ps_set (i := 1) sc__law_leaf.nd rfl (Or.inl rfl) (pe_call (ok__law_draw T) (hr.mono (by decide)) rfl (g__law_draw T) (kp__law_draw T) (B__law_draw T) .nil pass0 (pa_cons (pv 0) (pa_cons pe_int pa_nil))))
      (pss_cons (ps_if (pt_cmpR op_eq (pv 1) pe_int (nomark _)) (pss_one (ps_ret pe_non)) pss_nil)
      (pss_cons (ps_if (pt_cmpR op_eq (pv 1) pe_int (nomark _)) (pss_one (ps_ret (pe_call (ok__law_letters T) (hr.mono (by decide)) rfl (g__law_letters T) (kp__law_letters T) (B__law_letters T) .nil pass0 (pa_cons (pv 0) pa_nil)))) pss_nil)
      (pss_cons (ps_if (pt_cmpR op_eq (pv 1) pe_int (nomark _)) (pss_one (ps_ret (pe_op op_sub (pe_op op_sub (pe_op op_pow pe_int pe_int) pe_int) (pe_call (ok__law_draw T) (hr.mono (by decide)) rfl (g__law_draw T) (kp__law_draw T) (B__law_draw T) .nil pass0 (pa_cons (pv 0) (pa_cons pe_int pa_nil)))))) pss_nil)
      (pss_cons (ps_if (pt_cmpR op_eq (pv 1) pe_int (nomark _)) (pss_one (ps_ret (pe_op op_add (pe_op op_sub pe_int (pe_op op_pow pe_int pe_int)) (pe_call (ok__law_draw T) (hr.mono (by decide)) rfl (g__law_draw T) (kp__law_draw T) (B__law_draw T) .nil pass0 (pa_cons (pv 0) (pa_cons pe_int pa_nil)))))) pss_nil)
      (pss_one (ps_ret (pe_op op_sub (pe_call (ok__law_draw T) (hr.mono (by decide)) rfl (g__law_draw T) (kp__law_draw T) (B__law_draw T) .nil pass0 (pa_cons (pv 0) (pa_cons pe_int pa_nil))) pe_int)))))))), ?_⟩)
  · obtain ⟨s, q, n, rfl, _⟩ := h; rfl
  · obtain ⟨s, q, n, rfl, hn, ht, k⟩ := h
    walk_at "g"
    refine ⟨s, q, 8, n, rfl, by decide, by decide, by omega, ht, fun y H1 y0 y1 t1 s1 => ?_⟩
    walk_at "g"
    refine s_ite (fun _ => ?_) (fun _ => ?_)
    · walk_at "g"
      exact k .non .none H1 ⟨fun _ _ => .non, .non, rfl, rfl, by simp [txt]⟩ (t1.mono (by omega)) s1
    walk_at "g"
    refine s_ite (fun _ => ?_) (fun _ => ?_)
    · walk_at "g"
      refine ⟨s, q, n - 1, rfl, by omega, t1, fun z H2 h1 h2 h3 t2 s2 => ?_⟩
      exact k _ (.str z) H2 ⟨fun _ _ => .str z, .str h1 h2 h3, rfl, rfl, by show (TL.tl z).length ≤ 61; omega⟩ (t2.mono (by omega)) (s1.trans s2)
    walk_at "g"
    refine s_ite (fun _ => ?_) (fun _ => ?_)
    · walk_at "g"
      refine ⟨s, q, 3, n - 1, rfl, by decide, by decide, by omega, t1, fun y H2 y0 y1 t2 s2 => ?_⟩
      walk_at "g"
      exact k _ _ H2 (leaf_int (by omega)) (t2.mono (by omega)) (s1.trans s2)
    walk_at "g"
    refine s_ite (fun _ => ?_) (fun _ => ?_)
    · walk_at "g"
      refine ⟨s, q, 3, n - 1, rfl, by decide, by decide, by omega, t1, fun y H2 y0 y1 t2 s2 => ?_⟩
      walk_at "g"
      exact k _ _ H2 (leaf_int (by omega)) (t2.mono (by omega)) (s1.trans s2)
    walk_at "g"
    refine ⟨s, q, 2001, n - 1, rfl, by decide, by decide, by omega, t1, fun y H2 y0 y1 t2 s2 => ?_⟩
    walk_at "g"
    exact k _ _ H2 (leaf_int (by omega)) (t2.mono (by omega)) (s1.trans s2)
def cost : Nat → Nat
  | 0 => 10
  | k + 1 => 4 * cost k + 13
def wid : Nat → Nat
  | 0 => 61
  | k + 1 => 4 * wid k + 6
theorem cost_pos (k : Nat) : 10 ≤ cost k := by cases k <;> simp [cost] <;> omega
theorem wid_pos (k : Nat) : 61 ≤ wid k := by
  induction k with
  | zero => simp [wid]
  | succ k ih => simp only [wid]; omega
theorem row_le {ds : List PyData} {m w : Nat} (h : ∀ d ∈ ds, (txt d).length ≤ w) (hl : ds.length ≤ m) : (rowL ds).length ≤ m * w + m + 2 := by
  rw [rowL_len]
  have h1 : ((txts ds).map (·.length)).sum ≤ ds.length * w := by
    rw [txts_map]
    clear hl
    induction ds with
    | nil => simp
    | cons d ds ih =>
      have := h d (by simp)
      have := ih fun e he => h e (by simp [he])
      simp only [List.map_cons, List.sum_cons, List.length_cons, Nat.add_mul, Nat.one_mul]
      omega
  have h2 := Nat.mul_le_mul_right w hl
  cases ds with
  | nil => simp [txts, TL.joinL]
  | cons d ds =>
    have := joinL_len (ls := txts (d :: ds)) (by simp [txts])
    rw [txts_len] at this
    omega
/-- _law_thing(tape, deep) -/
def sp__law_thing (k : Nat) : Sp := fun vs H Q _ => ∃ (s q : Addr) (n j : Nat), vs = [.ref s, .int (j : Nat)] ∧ j < k ∧ cost j ≤ n ∧ TpQ H s q n ∧ ∀ (v : V) (d : PyData) H', DaF (fun a => H a = none) H' v d → Gd j d → (txt d).length ≤ wid j → TpQ H' s q (n - cost j) → SameB s H H' → Q v H'
theorem ok_thgS (T : Txt K mg) {k : Nat} (IH : FnOk P w K mg base CX0 (k + 10) (He.ga K "_law_thing") (fd__law_thing T) ["_law_tape_here", "_law_deep"] (sp__law_thing k)) : FnOk P w K mg base CX0 (k + 11) (He.ga K "_law_thing") (fd__law_thing T) ["_law_tape_here", "_law_deep"] (sp__law_thing (k + 1)) := by
  refine (F__law_thing T).ok sc__law_thing (fun vs H Q E h => ?_) (fun cdv A outer s H vs Q E hr h => ⟨_, PSs.nox (pss_cons (ps_if (PW.pt (pw_or (pt_cmpR op_eq (pv 1) pe_int (nomark _)) (pw_or1 (pt_cmpR op_eq (pe_call (ok__law_draw T) (hr.mono (by omega)) rfl (g__law_draw T) (kp__law_draw T) (B__law_draw T) .nil pass0 (pa_cons (pv 0) (pa_cons pe_int pa_nil))) pe_int (nomark _))))) (pss_one (ps_ret (pe_call (ok__law_leaf T) (hr.mono (by omega)) rfl (g__law_leaf T) (kp__law_leaf T) (B__law_leaf T) .nil pass0 (pa_cons (pv 0) pa_nil)))) pss_nil)
      (pss_cons (ps_set (i := 2) sc__law_thing.nd rfl (Or.inl rfl) (pe_lst pa_nil))
      (pss_cons (ps_for PassesOwn.never rfl (pi_range1 rfl (T.fr (T.c.fact 32 rfl)) (pa_cons (pe_call (ok__law_draw T) (hr.mono (by omega)) rfl (g__law_draw T) (kp__law_draw T) (B__law_draw T) .nil pass0 (pa_cons (pv 0) (pa_cons pe_int pa_nil))) pa_nil)) (pg_name (i := 3) sc__law_thing.nd rfl (Or.inl rfl)) (pss_one (ps_expr (pe_bm PySem.F.plainAttrs_list PySem.F.slot_list_append PySem.F.type_list_append mt_append (pv 2) (pa_cons (pe_call (IH) (hr.mono (by omega)) rfl (g__law_thing T) (kp__law_thing T) (B__law_thing T) .nil pass0 (pa_cons (pv 0) (pa_cons (pe_op op_sub (pv 1) pe_int) pa_nil))) pa_nil)))))
      (pss_one (ps_ret (pe_ifExp (pt_cmpR op_eq (pe_call (ok__law_draw T) (hr.mono (by omega)) rfl (g__law_draw T) (kp__law_draw T) (B__law_draw T) .nil pass0 (pa_cons (pv 0) (pa_cons pe_int pa_nil))) pe_int (nomark _)) (pv 2) (pe_callTy callTup rfl (T.fr (T.c.fact 28 rfl)) boot_tuple (pa_cons (pv 2) pa_nil)))))))), ?_⟩)
  · obtain ⟨s, q, n, j, rfl, _⟩ := h; rfl
  · obtain ⟨s, q, n, j, rfl, hj, hc, ht, k1⟩ := h
    have hcp := cost_pos j
    have leaf : ∀ (H1 : Hp) (m : Nat), TpQ H1 s q m → n - 1 ≤ m + 0 → 10 ≤ m → SameB s H H1 → (0 < j ∨ m = n) → sp__law_leaf [.ref s] H1 Q (fun _ _ _ => False) := fun H1 m t1 hm h10 s1 hjm => by
      refine ⟨s, q, m, rfl, h10, t1, fun v d H2 hl t2 s2 => ?_⟩
      refine k1 v d H2 (hl.1 _ _) (hl.2.1.mono (Nat.zero_le _)) (Nat.le_trans hl.2.2.2.2 (wid_pos j)) (t2.mono ?_) (s1.trans s2)
      · rcases hjm with z | z
        · obtain ⟨i, rfl⟩ : ∃ i, j = i + 1 := ⟨j - 1, by omega⟩
          have := cost_pos i
          simp only [cost]; omega
        · omega
    walk_at "g"
    refine s_ite (fun c => ?_) (fun c => ?_)
    · walk_at "g"
      exact leaf H n ht (by omega) (by omega) (SameB.refl _ _) (.inr rfl)
    obtain ⟨i, rfl⟩ : ∃ i, j = i + 1 := ⟨j - 1, by omega⟩
    have hci := cost_pos i
    simp only [cost] at hc k1
    walk_at "g"
    refine ⟨s, q, 3, n, rfl, by decide, by decide, by omega, ht, fun y H1 y0 y1 t1 s1 => ?_⟩
    walk_at "g"
    refine s_ite (fun _ => ?_) (fun _ => ?_)
    · walk_at "g"
      exact leaf H1 (n - 1) t1 (by omega) (by omega) s1 (.inl (by omega))
    walk_at "g"
    refine mkL (by simp) fun L H2 nL eL s2 => ?_
    have nLH : H L = none := ht.fresh s1 t1 nL
    have nLs : L ≠ s := (t1.ns nL).1
    have nLq : L ≠ q := (t1.ns nL).2
    walk_at "g"
    refine ⟨s, q, 5, n - 1, rfl, by decide, by decide, by omega, t1.same s2, fun y2 H3 y20 y21 t3 s3 => ?_⟩
    have S3 : SameB s H H3 := s1.trans ((SameB.of s2).trans s3)
    walk_at "g"
    refine mkR1 y2.toNat rfl (by omega) (by omega) ?_
    refine for_range (n := y2.toNat) (fun r σ H' => SameB s H H' ∧ TpQ H' s q (n - 2 - r * cost i) ∧ ∃ (ws : List V) (ds : List PyData) (v : Option V), σ = [some (.ref s), some (.int ((i + 1 : Nat) : Int)), some (.ref L), v] ∧ H' L = some (.lst ws) ∧ DaL (fun a => H a = none ∧ a ≠ L) H' ws ds ∧ (∀ d ∈ ds, Gd i d ∧ (txt d).length ≤ wid i) ∧ ds.length = r) ⟨S3, t3.mono (by omega), [], [], _, rfl, s3 _ _ nLs eL, .nil, (by simp), rfl⟩ ?_ ?_
    · rintro r σ H4 hr ⟨s4, t4, ws, ds, v, rfl, eL4, hds, hdd, hdl⟩
      have hr4 : r ≤ 3 := by omega
      have hrc : (r + 1) * cost i ≤ 4 * cost i := Nat.mul_le_mul_right _ (by omega)
      rw [Nat.add_mul, Nat.one_mul] at hrc
      walk_at "g"
      refine ⟨s_tyL eL4, ?_⟩
      walk_at "g"
      refine ⟨s, q, n - 2 - r * cost i, i, by rw [show ((i + 1 : Nat) : Int) - 1 = (i : Int) by omega]; rfl, by omega, by omega, t4, fun v' d H5 hv hg hw t5 s5 => ?_⟩
      have eL5 := s5 _ _ nLs eL4
      walk_at "g"
      refine s_append eL5 (by rw [hds.len, sizeLine_eq]; omega) ?_
      walk_at "g"
      have hds5 : DaL (fun a => H a = none ∧ a ≠ L) H5 ws ds := hds.tq t4 s5
      have hv5 : DaF (fun a => H a = none ∧ a ≠ L) H5 v' d := hv.mono fun a e => ⟨ht.fresh s4 t4 e, fun z => by rw [z, eL4] at e; cases e⟩
      refine ⟨SameB.updn (s4.trans s5) nLH, (t5.mono (by rw [Nat.add_mul]; omega)).updL eL5 nLq, _, _, _, rfl, upd_same, DaL.app (.cons (hv5.upd eL5 (fun z => z.2 rfl)) .nil) (hds5.upd eL5 (fun z => z.2 rfl)), ?_, by rw [List.length_append, hdl]; rfl⟩
      intro e he
      rcases List.mem_append.mp he with z1 | z1
      · exact hdd e z1
      · rw [List.mem_singleton.mp z1]; exact ⟨hg, hw⟩
    · rintro σ H4 ⟨s4, t4, ws, ds, v, rfl, eL4, hds, hdd, hdl⟩
      have hr4 : y2.toNat ≤ 4 := by omega
      have hrc : y2.toNat * cost i ≤ 4 * cost i := Nat.mul_le_mul_right _ hr4
      have hrow := row_le (m := 4) (fun d hd => (hdd d hd).2) (by omega)
      walk_at "g"
      refine ⟨s, q, 4, n - 2 - y2.toNat * cost i, rfl, by decide, by decide, by omega, t4, fun y3 H5 y30 y31 t5 s5 => ?_⟩
      have eL5 := s5 _ _ nLs eL4
      have hds5 : DaL (fun a => H a = none ∧ a ≠ L) H5 ws ds := hds.tq t4 s5
      walk_at "g"
      refine s_ite (fun _ => ?_) (fun _ => ?_)
      · walk_at "g"
        exact k1 _ (.list ds) H5 (.lst eL5 (hds5.mono fun a e => e.1) nLH) (.lst fun d hd => (hdd d hd).1) (by show (rowL ds).length ≤ _; simp only [wid]; omega) (t5.mono (by omega)) (s4.trans s5)
      · walk_at "g"
        refine s_tupL (SqL.of eL5) fun W nW => ?_
        have s6 : Same H5 (upd H5 W (.tup ws)) := same_upd nW
        have eW : upd H5 W (.tup ws) W = some (.tup ws) := upd_same
        exact k1 _ (.tuple ds) _ (.tup eW ((hds5.mono fun a e => e.1).same s6)) (.tup fun d hd => (hdd d hd).1) (by show (rowL ds).length ≤ _; simp only [wid]; omega) ((t5.mono (by omega)).same s6) ((s4.trans s5).trans (SameB.of s6))
theorem thg0 (T : Txt K mg) : FnOk P w K mg base CX0 10 (He.ga K "_law_thing") (fd__law_thing T) ["_law_tape_here", "_law_deep"] (sp__law_thing 0) :=
  ⟨fun _ _ _ _ ⟨_, _, _, _, h, _⟩ => absurd h (by omega), fun _ _ _ _ _ _ _ _ _ _ _ _ _ ⟨_, _, _, _, h, _⟩ => absurd h (by omega)⟩
theorem ok__law_thing (T : Txt K mg) : FnOk P w K mg base CX0 15 (He.ga K "_law_thing") (fd__law_thing T) ["_law_tape_here", "_law_deep"] (sp__law_thing 5) := ok_thgS T (ok_thgS T (ok_thgS T (ok_thgS T (ok_thgS T (thg0 T)))))

open Tx
theorem gd_nst {n : Nat} {d : PyData} (h : Gd n d) (l : (txt d).length ≤ 16000000) : Nst n d := by
  induction h with
  | non => exact .atom rfl rfl
  | int h => exact .atom rfl rfl
  | str h h1 h8 => exact .atom rfl rfl
  | @lst n ds h ih =>
    have l : (rowL ds).length ≤ 16000000 := l
    exact .lst (Nat.le_trans row_count l) fun d hd => ih d hd (Nat.le_trans (row_mem hd) l)
  | @tup n ds h ih =>
    have l : (rowL ds).length ≤ 16000000 := l
    exact .tup (Nat.le_trans row_count l) fun d hd => ih d hd (Nat.le_trans (row_mem hd) l)
theorem leaf_sh {d : PyData} (h : Gd 0 d) : SeqAt.shaped d = true := by
  cases h with
  | non => rfl
  | int h => rfl
  | @str _ x h _ _ =>
    have : PyData.strOk x = true := by
      unfold PyData.strOk
      rw [← Array.all_toList, List.all_eq_true]
      intro c hc
      have := isA_iff.mp (h c hc)
      exact decide_eq_true (by omega)
    exact (Bd.str (n := 1) x this).shaped (by decide)
theorem leaf_eqv {d : PyData} (h : isTup d = false) : PyData.eqv d (.tuple []) = false := by
  cases d <;> first | rfl | (simp [PyData.eqv]; done) | cases h
theorem s_joinE {te : TE} {σ : L2.St} {H : Hp} {Q : VK} (P : V → Hp → Prop) (h1 : ∀ v H', P v H' → Q v H') (h2 : ∀ Q' : VK, (∀ v H', P v H' → Q' v H') → te σ H Q') : te σ H Q := h2 Q h1
/-- _law_deep_thing(tape) -/
def sp__law_deep_thing : Sp := fun vs H Q _ => ∃ (s q : Addr) (n : Nat), vs = [.ref s] ∧ 5000 ≤ n ∧ TpQ H s q n ∧ ∀ (v : V) (d : PyData) H', Da H' v d → Gd 80 d → (txt d).length ≤ 20000 → TpQ H' s q (n - 5000) → SameB s H H' → Q v H'
theorem ok__law_deep_thing (T : Txt K mg) : FnOk P w K mg base CX0 16 (He.ga K "_law_deep_thing") (fd__law_deep_thing T) ["_law_tape_here"] sp__law_deep_thing := by
  refine (F__law_deep_thing T).ok sc__law_deep_thing (fun vs H Q E h => ?_) (fun cdv A outer s H vs Q E hr h => ⟨_, PSs.nox (pss_cons (ps_set (i := 1) sc__law_deep_thing.nd rfl (Or.inl rfl) (pe_call (ok__law_thing T) (hr.mono (by decide)) rfl (g__law_thing T) (kp__law_thing T) (B__law_thing T) .nil pass0 (pa_cons (pv 0) (pa_cons (pe_op op_add pe_int (pe_call (ok__law_draw T) (hr.mono (by decide)) rfl (g__law_draw T) (kp__law_draw T) (B__law_draw T) .nil pass0 (pa_cons (pv 0) (pa_cons pe_int pa_nil)))) pa_nil))))
      (pss_cons (ps_if (pt_cmpR op_eq (pe_call (ok__law_draw T) (hr.mono (by decide)) rfl (g__law_draw T) (kp__law_draw T) (B__law_draw T) .nil pass0 (pa_cons (pv 0) (pa_cons pe_int pa_nil))) pe_int (nomark _)) (pss_cons (ps_set (i := 2) sc__law_deep_thing.nd rfl (Or.inl rfl) (pe_op op_add pe_int (pe_call (ok__law_draw T) (hr.mono (by decide)) rfl (g__law_draw T) (kp__law_draw T) (B__law_draw T) .nil pass0 (pa_cons (pv 0) (pa_cons pe_int pa_nil)))))
      (pss_cons (ps_set (i := 1) sc__law_deep_thing.nd rfl (Or.inl rfl) (pe_ifExp (pt_cmpR op_gt (pe_call (ok__law_draw T) (hr.mono (by decide)) rfl (g__law_draw T) (kp__law_draw T) (B__law_draw T) .nil pass0 (pa_cons (pv 0) (pa_cons pe_int pa_nil))) pe_int (nomark _)) (pe_call (ok__law_leaf T) (hr.mono (by decide)) rfl (g__law_leaf T) (kp__law_leaf T) (B__law_leaf T) .nil pass0 (pa_cons (pv 0) pa_nil)) (pe_tup pa_nil)))
      (pss_one (ps_for PassesOwn.never rfl (pi_range1 rfl (T.fr (T.c.fact 32 rfl)) (pa_cons (pe_op op_sub (pv 2) (pe_callTy callInt1 rfl (T.fr (T.c.fact 31 rfl)) boot_int (pa_cons (pe_cmpR (op_eqD hr.units) (pv 1) (pe_tup pa_nil) (nomark _)) pa_nil))) pa_nil)) (pg_name (i := 3) sc__law_deep_thing.nd rfl (Or.inl rfl)) (pss_one (ps_set (i := 1) sc__law_deep_thing.nd rfl (Or.inl rfl) (pe_ifExp (pt_cmpR op_eq (pe_call (ok__law_draw T) (hr.mono (by decide)) rfl (g__law_draw T) (kp__law_draw T) (B__law_draw T) .nil pass0 (pa_cons (pv 0) (pa_cons pe_int pa_nil))) pe_int (nomark _)) (pe_tup (pa_cons (pv 1) pa_nil)) (pe_tup (pa_cons (pe_call (ok__law_draw T) (hr.mono (by decide)) rfl (g__law_draw T) (kp__law_draw T) (B__law_draw T) .nil pass0 (pa_cons (pv 0) (pa_cons pe_int pa_nil))) (pa_cons (pv 1) pa_nil)))))))))) pss_nil)
      (pss_one (ps_ret (pv 1))))), ?_⟩)
  · obtain ⟨s, q, n, rfl, _⟩ := h; rfl
  · obtain ⟨s, q, n, rfl, hn, ht, k⟩ := h
    have c4 : ∀ j, j ≤ 4 → cost j ≤ 3665 ∧ wid j ≤ 17000 := fun j hj => by
      have : j = 0 ∨ j = 1 ∨ j = 2 ∨ j = 3 ∨ j = 4 := by omega
      rcases this with rfl | rfl | rfl | rfl | rfl <;> decide
    walk_at "g"
    refine ⟨s, q, 4, n, rfl, by decide, by decide, by omega, ht, fun y H1 y0 y1 t1 s1 => ?_⟩
    obtain ⟨y, rfl⟩ := Int.eq_ofNat_of_zero_le y0
    obtain ⟨cj, wj⟩ := c4 (1 + y) (by omega)
    walk_at "g"
    refine ⟨s, q, n - 1, 1 + y, by push_cast; rfl, by omega, by omega, t1, fun v d H2 hv hg hw t2 s2 => ?_⟩
    walk_at "g"
    refine ⟨s, q, 4, n - 1 - cost (1 + y), rfl, by decide, by decide, by omega, t2, fun y2 H3 y20 y21 t3 s3 => ?_⟩
    have hv3 := hv.tq t2 s3
    have S3 := s1.trans (s2.trans s3)
    walk_at "g"
    refine s_ite (fun _ => ?_) (fun _ => ?_)
    · walk_at "g"
      refine ⟨s, q, 5, n - 1 - cost (1 + y) - 1, rfl, by decide, by decide, by omega, t3, fun x H4 x0 x1 t4 s4 => ?_⟩
      obtain ⟨x, rfl⟩ := Int.eq_ofNat_of_zero_le x0
      with_reducible refine s_i0 ?_
      walk_at "c"
      with_reducible refine s_asg ?_
      refine s_joinE (fun v0 H6 => ∃ (d0 : PyData) (b : Nat), Da H6 v0 d0 ∧ Gd b d0 ∧ (txt d0).length ≤ 61 ∧ TpQ H6 s q (n - 4000) ∧ SameB s H H6 ∧ SeqAt.shaped d0 = true ∧ (b = 0 ∧ PyData.eqv d0 (.tuple []) = false ∨ b = 1 ∧ PyData.eqv d0 (.tuple []) = true)) ?_ fun Q' hQ => ?_
      case refine_2 =>
        walk_at "g"
        refine ⟨s, q, 3, n - 1 - cost (1 + y) - 1 - 1, rfl, by decide, by decide, by omega, t4, fun x2 H5 x20 x21 t5 s5 => ?_⟩
        have S5 := S3.trans (s4.trans s5)
        walk_at "g"
        refine s_ite (fun _ => ?_) (fun _ => ?_)
        · refine s_call ?_
          walk_at "g"
          refine ⟨s, q, _, rfl, by omega, t5, fun v0 d0 H6 hl t6 s6 => ?_⟩
          exact hQ v0 H6 ⟨d0, 0, hl.1 _ _, hl.2.1, hl.2.2.2.2, t6.mono (by omega), S5.trans s6, leaf_sh hl.2.1, .inl ⟨rfl, leaf_eqv hl.2.2.1⟩⟩
        · walk_at "g"
          refine mkT (by simp) fun W H6 nW eW s6 => ?_
          exact hQ _ H6 ⟨.tuple [], 1, .tup eW .nil, .tup (by simp), by decide, (t5.same s6).mono (by omega), S5.trans (SameB.of s6), rfl, .inr ⟨rfl, rfl⟩⟩
      rintro v0 H6 ⟨d0, b, hv0, hg0, hw0, t6, S6, sh0, hb⟩
      walk_at "g"
      refine mkT (by simp) fun W H7 nW eW s7 => ?_
      refine s_eqD d0 (.tuple []) ((hv0.same s7).dp K) ((DaF.tup eW .nil : Da H7 _ _).dp K) sh0 rfl ?_
      walk_at "g"
      obtain ⟨m, hm, hbm⟩ : ∃ m : Nat, ((76 : Int) + x) - (if PyData.eqv d0 (.tuple []) = true then 1 else 0) = m ∧ b + m ≤ 80 := by
        rcases hb with ⟨rfl, hb⟩ | ⟨rfl, hb⟩
        · exact ⟨76 + x, by rw [hb, if_neg Bool.false_ne_true]; omega, by omega⟩
        · exact ⟨75 + x, by rw [hb, if_pos rfl]; omega, by omega⟩
      rw [hm]
      refine mkR1 m (by omega) (by omega) (by omega) ?_
      refine for_range (n := m) (fun i σ H' => SameB s H H' ∧ TpQ H' s q (n - 4000 - 2 * i) ∧ ∃ (v1 : V) (d1 : PyData) (r : Option V), σ = [some (.ref s), some v1, some (.int (76 + x)), r] ∧ Da H' v1 d1 ∧ Gd (b + i) d1 ∧ (txt d1).length ≤ 61 + 4 * i) ⟨S6.trans (SameB.of s7), t6.same s7, _, d0, _, rfl, hv0.same s7, hg0, by omega⟩ ?_ ?_
      · rintro i σ H8 hi ⟨s8, t8, v1, d1, r, rfl, hv1, hg1, hw1⟩
        walk_at "c"
        with_reducible refine s_asg ?_
        refine s_joinE (fun v2 H9 => ∃ d2, Da H9 v2 d2 ∧ Gd (b + i + 1) d2 ∧ (txt d2).length ≤ 65 + 4 * i ∧ TpQ H9 s q (n - 4000 - 2 * (i + 1)) ∧ SameB s H H9) ?_ fun Q' hQ => ?_
        case refine_2 =>
          walk_at "g"
          refine ⟨s, q, 2, _, rfl, by decide, by decide, by omega, t8, fun x2 H9 x20 x21 t9 s9 => ?_⟩
          have hv9 := hv1.tq t8 s9
          walk_at "g"
          refine s_ite (fun _ => ?_) (fun _ => ?_)
          · walk_at "g"
            refine mkT (by simp) fun W H10 nW eW s10 => ?_
            refine hQ _ H10 ⟨.tuple [d1], .tup eW (.cons (hv9.same s10) .nil), .tup (by simpa using hg1), ?_, (t9.same s10).mono (by omega), s8.trans (s9.trans (SameB.of s10))⟩
            show (rowL [d1]).length ≤ _
            rw [rowL_len]
            show (txt d1).length + 2 ≤ _
            omega
          · walk_at "g"
            refine ⟨s, q, 9, _, rfl, by decide, by decide, by omega, t9, fun x3 H10 x30 x31 t10 s10 => ?_⟩
            have hv10 := hv9.tq t9 s10
            walk_at "g"
            refine mkT (by simp) fun W H11 nW eW s11 => ?_
            obtain ⟨x3, rfl⟩ := Int.eq_ofNat_of_zero_le x30
            refine hQ _ H11 ⟨.tuple [.int (x3 : Int), d1], .tup eW (.cons (.int _) (.cons (hv10.same s11) .nil)), .tup ?_, ?_, (t10.same s11).mono (by omega), s8.trans (s9.trans (s10.trans (SameB.of s11)))⟩
            · intro e he
              simp only [List.mem_cons, List.not_mem_nil, or_false] at he
              rcases he with z | z
              · rw [z]; exact .int (by omega)
              · rw [z]; exact hg1
            · show (rowL [.int (x3 : Int), d1]).length ≤ _
              have h1 : (txt (.int (x3 : Int))).length = 1 := by
                show (intL (x3 : Int)).length = 1
                unfold intL
                rw [if_neg (by omega), Int.natAbs_natCast, TL.numL_lt (by omega)]; rfl
              rw [rowL_len]
              show (txt (.int (x3 : Int)) ++ ([32] ++ txt d1)).length + 2 ≤ _
              rw [List.length_append, List.length_append, h1, List.length_cons, List.length_nil]
              omega
        rintro v2 H9 ⟨d2, hv2, hg2, hw2, t9, s9⟩
        walk_at "g"
        exact ⟨s9, t9, _, d2, _, rfl, hv2, hg2, by omega⟩
      · rintro σ H8 ⟨s8, t8, v1, d1, r, rfl, hv1, hg1, hw1⟩
        walk_at "g"
        exact k v1 d1 H8 hv1 (hg1.mono hbm) (by omega) (t8.mono (by omega)) s8
    · walk_at "g"
      exact k v d H3 hv3.any (hg.mono (by omega)) (by omega) (t3.mono (by omega)) S3
theorem S_tlS (x : Str) : SX.S (TL.tl x) = x := SX.S_tl x
/-- the law -/
def sp_law (K : PySem.W.Frag) : Sp := fun vs H Q _ => ∃ (a : Addr) (ns : List Int), vs = [.ref a] ∧ ns.length ≤ 63 ∧ SqL K H a (ns.map V.int) ∧ ∀ H', Q (.bl true) H'
theorem ok_law (T : Txt K mg) : FnOk P w K mg base CX0 172 (He.ga K "law") (fd_law T) ["_law_script"] (sp_law K) := by
  refine (F_law T).ok sc_law (fun vs H Q E h => ?_) (fun cdv A outer s H vs Q E hr h => ⟨_, PSs.nox (pss_cons (ps_set (i := 1) sc_law.nd rfl (Or.inl rfl) (pe_call (ok__law_tape T) (hr.mono (by decide)) rfl (g__law_tape T) (kp__law_tape T) (B__law_tape T) .nil pass0 (pa_cons (pv 0) pa_nil)))
      (pss_cons (ps_for PassesOwn.never rfl (pi_range1 rfl (T.fr (T.c.fact 32 rfl)) (pa_cons pe_int pa_nil)) (pg_name (i := 2) sc_law.nd rfl (Or.inl rfl)) (pss_cons (ps_set (i := 3) sc_law.nd rfl (Or.inl rfl) (pe_call (ok__law_deep_thing T) (hr.mono (by decide)) rfl (g__law_deep_thing T) (kp__law_deep_thing T) (B__law_deep_thing T) .nil pass0 (pa_cons (pv 1) pa_nil)))
      (pss_cons (ps_set (i := 4) sc_law.nd rfl (Or.inl rfl) (pe_call (ok__law_written T) (hr.mono (by decide)) rfl (g__law_written T) (kp__law_written T) (B__law_written T) .nil pass0 (pa_cons (pv 3) pa_nil)))
      (pss_cons (ps_set (i := 5) sc_law.nd rfl (Or.inl rfl) (pe_call (ok_read T) (hr.mono (by decide)) rfl (g_read T) (kp_read T) (B_read T) .nil passL (pa_cons (pv 4) pa_nil)))
      (pss_cons (ps_if (PW.pt (pw_or (pt_not (pt_val (pe_call (ok__law_same T) (hr.mono (by decide)) rfl (g__law_same T) (kp__law_same T) (B__law_same T) .nil pass0 (pa_cons (pe_call (ok_show T) (hr.mono (by decide)) rfl (g_show T) (kp_show T) (B_show T) .nil pass0 (pa_cons (pv 3) pa_nil)) (pa_cons (pv 4) pa_nil))))) (pw_or1 (pt_not (pt_val (pe_call (ok__law_same T) (hr.mono (by decide)) rfl (g__law_same T) (kp__law_same T) (B__law_same T) .nil pass0 (pa_cons (pv 5) (pa_cons (pe_call (ok__law_tuples T) (hr.mono (by decide)) rfl (g__law_tuples T) (kp__law_tuples T) (B__law_tuples T) .nil pass0 (pa_cons (pv 3) pa_nil)) pa_nil)))))))) (pss_one (ps_ret pe_bl)) pss_nil)
      (pss_one (ps_if (PW.pt (pw_or (pt_cmpR op_ne (pe_call (ok_show T) (hr.mono (by decide)) rfl (g_show T) (kp_show T) (B_show T) .nil pass0 (pa_cons (pv 5) pa_nil)) (pv 4) (nomark _)) (pw_or1 (pt_cmpR op_ne (pe_call (ok__law_written T) (hr.mono (by decide)) rfl (g__law_written T) (kp__law_written T) (B__law_written T) .nil pass0 (pa_cons (pv 3) pa_nil)) (pv 4) (nomark _))))) (pss_one (ps_ret pe_bl)) pss_nil)))))))
      (pss_cons (ps_set (i := 6) sc_law.nd rfl (Or.inl rfl) (pe_op op_add pe_int (pe_call (ok__law_draw T) (hr.mono (by decide)) rfl (g__law_draw T) (kp__law_draw T) (B__law_draw T) .nil pass0 (pa_cons (pv 1) (pa_cons pe_int pa_nil)))))
      (pss_cons (ps_set (i := 7) sc_law.nd rfl (Or.inl rfl) (pe_op op_sub (pe_callTy call_int_str rfl (T.fr (T.c.fact 31 rfl)) boot_int (pa_cons (pe_op op_add_str pe_str (pe_op R.op_repS pe_str (pe_op op_sub (pv 6) pe_int))) pa_nil)) (pe_call (ok__law_draw T) (hr.mono (by decide)) rfl (g__law_draw T) (kp__law_draw T) (B__law_draw T) .nil pass0 (pa_cons (pv 1) (pa_cons pe_int pa_nil)))))
      (pss_one (ps_ret (pe_and (pe_call (ok__law_same T) (hr.mono (by decide)) rfl (g__law_same T) (kp__law_same T) (B__law_same T) .nil pass0 (pa_cons (pe_call (ok_read T) (hr.mono (by decide)) rfl (g_read T) (kp_read T) (B_read T) .nil passL (pa_cons (pe_callTy call_str_int rfl (T.fr (T.c.fact 27 rfl)) boot_str (pa_cons (pv 7) pa_nil)) pa_nil)) (pa_cons (pv 7) pa_nil))) (pe_one (pe_call (ok__law_same T) (hr.mono (by decide)) rfl (g__law_same T) (kp__law_same T) (B__law_same T) .nil pass0 (pa_cons (pe_call (ok_read T) (hr.mono (by decide)) rfl (g_read T) (kp_read T) (B_read T) .nil passL (pa_cons (pe_call (ok_show T) (hr.mono (by decide)) rfl (g_show T) (kp_show T) (B_show T) .nil pass0 (pa_cons (pe_tup (pa_cons (pe_op op_sub pe_int (pv 7)) (pa_cons pe_int pa_nil))) pa_nil)) pa_nil)) (pa_cons (pe_tup (pa_cons (pe_op op_sub pe_int (pv 7)) (pa_cons pe_int pa_nil))) pa_nil))))))))))), ?_⟩)
  · obtain ⟨a, ns, rfl, _⟩ := h; rfl
  · obtain ⟨a, ns, rfl, hlen, hS, k⟩ := h
    -- a text read
    have rd : ∀ (d d' : PyData) (n : Nat), Gd n d → n ≤ 80 → Th 0 (TL.tl (SX.S (txt d))) (.ok d' []) → d' = tupd d := fun d d' n hg hn ht => by
      have := Th.det ht (th_full hg (by omega))
      cases this; rfl
    have rn : ∀ (d : PyData) (n w : Nat), Gd n d → n ≤ 80 → ¬ RdNo (TL.tl (SX.S (txt d))) w := fun d n w hg hn ⟨hw, h⟩ => by
      have h2 := th_full hg (n := 0) (by omega)
      rcases h with h | ⟨d', h, hl⟩
      · cases Th.det h h2
      · have e := Th.det h h2
        have e1 : (TL.tl (SX.S (txt d))).drop w = [] := by injection e
        have := congrArg List.length e1
        rw [List.length_drop, List.length_nil] at this
        omega
    walk_at "g"
    refine ⟨a, ns, rfl, hlen, hS, fun s q H1 ns1 s1 ht => ?_⟩
    walk_at "g"
    refine mkR1 4 rfl (by decide) (by decide) ?_
    refine for_range (n := 4) (fun i σ H' => TpQ H' s q (1000000 - 5000 * i) ∧ ∃ r1 r2 r3 r4 : Option V, σ = [some (.ref a), some (.ref s), r1, r2, r3, r4, none, none]) ⟨ht, _, _, _, _, rfl⟩ ?_ ?_
    · rintro i σ H2 hi ⟨t2, r1, r2, r3, r4, rfl⟩
      walk_at "g"
      refine ⟨s, q, _, rfl, by omega, t2, fun v d H3 hv hg hw t3 s3 => ?_⟩
      have hsl : (SX.S (txt d)).length ≤ sizeLine := by rw [SX.S_len, sizeLine_eq]; omega
      walk_at "g"
      refine ⟨v, d, 80, rfl, by decide, hv, hg.shw, by omega, fun H4 s4 => ?_⟩
      walk_at "g"
      refine ⟨SX.S (txt d), rfl, hsl, fun d' v2 H5 hth hv2 s5 => ?_, fun w x H5 hno => absurd hno (rn d 80 w hg (Nat.le_refl _))⟩
      obtain rfl := rd d d' 80 hg (Nat.le_refl _) hth
      have S5 := s4.trans s5
      walk_at "g"
      refine ⟨v, d, 80, rfl, by decide, hv.same S5, hg.shw, by omega, fun H6 s6 => ?_⟩
      walk_at "g"
      refine ⟨_, _, .str (SX.S (txt d)), 0, rfl, by decide, .str _, .str _, .atom rfl rfl, fun H7 s7 => ?_⟩
      have S7 := S5.trans (s6.trans s7)
      walk_at "g"
      refine ⟨v, d, 80, rfl, by decide, hv.same S7, gd_nst hg (by omega), fun v3 H8 hv3 s8 => ?_⟩
      have hv28 := hv2.same (s6.trans (s7.trans s8))
      walk_at "g"
      refine ⟨v2, v3, tupd d, 80, rfl, by decide, hv28.any, hv3.any, gd_nst hg.tupd (by rw [txt_tupd]; omega), fun H9 s9 => ?_⟩
      walk_at "g"
      refine ⟨v2, tupd d, 80, rfl, by decide, (hv28.same s9).any, hg.tupd.shw, by rw [txt_tupd]; omega, fun H10 s10 => ?_⟩
      rw [txt_tupd]
      have S10 := S7.trans (s8.trans (s9.trans s10))
      walk_at "g"
      try refine s_itnP rfl ?_
      walk_at "g"
      refine ⟨v, d, 80, rfl, by decide, hv.same S10, hg.shw, by omega, fun H11 s11 => ?_⟩
      walk_at "g"
      try refine s_itnP rfl ?_
      walk_at "g"
      exact ⟨(t3.same (S10.trans s11)).mono (by omega), _, _, _, _, rfl⟩
    · rintro σ H2 ⟨t2, r1, r2, r3, r4, rfl⟩
      walk_at "g"
      refine ⟨s, q, 60, _, rfl, by decide, by decide, by decide, t2, fun m H3 m0 m1 t3 s3 => ?_⟩
      obtain ⟨m, rfl⟩ := Int.eq_ofNat_of_zero_le m0
      have e0 : ("0" : Str) = SX.S [48] := by decide +kernel
      have e9 : ("9" : Str) = SX.S [57] := by decide +kernel
      walk_at "g"
      obtain ⟨hok, hrep⟩ := R.rep_ok (c := 48) (k := m) (by omega)
      rw [show (1 : Int) + (m : Int) - 1 = (m : Int) by omega, e0]
      refine ⟨_, _, rfl, rfl, hok, ?_⟩
      rw [hrep]
      refine ⟨_, _, rfl, rfl, by rw [e9, SX.S_len, SX.S_len, List.length_replicate, sizeLine_eq, List.length_cons, List.length_nil]; omega, ?_⟩
      rw [e9, SX.S_cat]
      walk_at "g"
      have hd : ∀ c ∈ (57 :: List.replicate m 48), 48 ≤ c ∧ c ≤ 57 := fun c hc => by
        rcases List.mem_cons.mp hc with z | z
        · omega
        · have := List.eq_of_mem_replicate z; omega
      refine ⟨_, _, rfl, SX.int_S (a := 57 :: List.replicate m 48) (List.all_eq_true.mpr fun c hc => by have := hd c hc; simp; omega) (by simp) (by simp; omega), by rw [SX.S_len]; simp; omega, ?_⟩
      rw [digits_rep]
      have hN1 : 9 ≤ 9 * 10 ^ m := by have := Nat.pow_pos (n := m) (show 0 < 10 by decide); omega
      have hN2 : 9 * 10 ^ m ≤ 9 * 10 ^ 59 := Nat.mul_le_mul_left _ (Nat.pow_le_pow_right (by decide) (by omega))
      generalize 9 * 10 ^ m = N at hN1 hN2 ⊢
      walk_at "g"
      refine ⟨s, q, 9, _, rfl, by decide, by decide, by decide, t3, fun z H4 z0 z1 t4 s4 => ?_⟩
      walk_at "g"
      have hNb : ((N : Int) - z).natAbs < 10 ^ 60 := by omega
      generalize (N : Int) - z = M at hNb ⊢
      have g1 : Gd 0 (.int M) := .int hNb
      have g2 : Gd 0 (.int (0 - M)) := .int (by omega)
      have gt : Gd 1 (.tuple [.int (0 - M), .int 0]) := .tup (by
        intro e he
        simp only [List.mem_cons, List.not_mem_nil, or_false] at he
        rcases he with rfl | rfl
        · exact g2
        · exact .int (by decide))
      have w1 : (txt (.int M)).length ≤ 61 := (leaf_int hNb).2.2.2.2
      have w2 : (txt (.int (0 - M))).length ≤ 61 := (leaf_int (i := 0 - M) (by omega)).2.2.2.2
      have w3 : (txt (.int 0)).length ≤ 61 := (leaf_int (i := 0) (by decide)).2.2.2.2
      have wt : (txt (.tuple [.int (0 - M), .int 0])).length ≤ 200 := by
        have := row_le (ds := [.int (0 - M), .int 0]) (m := 2) (w := 61) (by
          intro e he
          simp only [List.mem_cons, List.not_mem_nil, or_false] at he
          rcases he with rfl | rfl
          · exact w2
          · exact w3) (by simp)
        exact Nat.le_trans this (by decide)
      refine ⟨M, rfl, Nat.lt_of_lt_of_le (PySem.Flt.log2_lt_of (by decide) (show M.natAbs < 2 ^ 200 by omega)) (by decide), ?_⟩
      rw [int_txt]
      refine ⟨SX.S (txt (.int M)), rfl, by rw [SX.S_len, sizeLine_eq]; omega, fun d' v2 H5 hth hv2 s5 => ?_, fun w x H5 hno => absurd hno (rn _ 0 w g1 (by decide))⟩
      obtain rfl := rd _ d' 0 g1 (by decide) hth
      walk_at "g"
      refine ⟨v2, .int M, .int M, 0, rfl, by decide, hv2.any, .int _, .atom rfl rfl, fun H6 s6 => ?_⟩
      walk_at "g"
      refine mkT (by simp) fun W H7 nW eW s7 => ?_
      have hW : Da H7 (.ref W) (.tuple [.int (0 - M), .int 0]) := .tup eW (.cons (.int _) (.cons (.int _) .nil))
      walk_at "g"
      refine ⟨.ref W, _, 1, rfl, by decide, hW, gt.shw, by omega, fun H8 s8 => ?_⟩
      walk_at "g"
      refine ⟨_, rfl, by rw [SX.S_len, sizeLine_eq]; omega, fun d' v3 H9 hth hv3 s9 => ?_, fun w x H5 hno => absurd hno (rn _ 1 w gt (by decide))⟩
      obtain rfl := (rd _ d' 1 gt (by decide) hth).trans (show tupd (.tuple [.int (0 - M), .int 0]) = .tuple [.int (0 - M), .int 0] by simp only [tupd, tupds])
      walk_at "g"
      refine mkT (by simp) fun W2 H10 nW2 eW2 s10 => ?_
      have hW2 : Da H10 (.ref W2) (.tuple [.int (0 - M), .int 0]) := .tup eW2 (.cons (.int _) (.cons (.int _) .nil))
      walk_at "g"
      exact ⟨v3, .ref W2, _, 1, rfl, by decide, (hv3.same s10).any, hW2, gd_nst gt (by omega), fun H11 s11 => k H11⟩
theorem law_end {K : PySem.W.Frag} {H : Hp} {a : Addr} {ns : List Int} (hl : ns.length ≤ 63) (hb : ∀ z ∈ ns, Builtin.Int.intBits z ≤ 1048576) (hS : SqL K H a (ns.map V.int)) : sp_law K [.ref a] H (fun v _ => v = .bl true) fun _ _ _ => False :=
  ⟨a, ns, rfl, hl, hS, fun _ => rfl⟩

theorem facts {h : Heap} {f : Addr} (X : K.In h) (G : h.Ns mainGlobals mg) (hfa : mg ("law" : Str) = some (.ref f)) (c : Told fa fn K) :
    ∃ fd : FuncData, (∀ (s : Shared) (v : Value), BindsTo s fd ⟨[v], []⟩ [("_law_script", v)]) ∧ ∀ base : Heap, K.In base → base.Ns mainGlobals mg → FnOk P w K mg base CX0 172 f fd ["_law_script"] (sp_law K) := by
  have T : Txt K mg := ⟨c, fun z => He.glo_ok X G z, fun z => He.free_ok X G z, fun z => He.int_ok X G z, fun z => He.str_ok X G z⟩
  have e := hfa.symm.trans (g_law T)
  cases e
  have b := FunD.bindsA (ps := ["_law_script"]) (F_law T) fun _ _ _ _ _ _ us hl => match us, hl with | [_], _ => rfl
  exact ⟨fd_law T, fun s v => b s [v] rfl, fun base _ _ => ok_law T⟩
end
abbrev RR : PySem.W.OpenRow := PySem.W.OpenLaw.row PySem.Challenge.rw_rootprime_k78_things_written_and_read
abbrev hk : PySem.W.Hook := hookR 5 fa fn
def ob (s : PySem.W.SharedT) : He.AlD := toldG 5 fa fn (HandSHeadRun.getT s)
theorem ob_eq (s : PySem.W.SharedT) : ob s = hk.obs s.abs := toldG_eq (HandSHeadRun.getT_eq s)
theorem run (w : World) : HandSHeadRun.RunEq RR (PySem.W.view RR.prog [22]) hk ob 3010 ["show", "read", "_law_tape", "_law_draw", "_law_letters", "_law_leaf", "_law_thing", "_law_deep_thing", "_law_written", "_law_tuples", "_law_same", "PrimeError", "NoText", "Reader", "FIGURES", "LETTERS", "MOST_FIGURES", "MOST_LETTERS", "MOST_DEEP"] w := by
  intro os
  kernel_rfl
end C
open PySem PySem.W PySem.Calls PyProof.Rows
set_option maxRecDepth 100000 in
set_option maxHeartbeats 0 in
theorem PySem.Challenge.cw_rootprime_k78_things_written_and_read_holds : PySem.Challenge.rw_rootprime_k78_things_written_and_read.Holds := by
  w_on; o_law
  refine HandSHeadRun.head_any (r := OpenLaw.row PySem.Challenge.rw_rootprime_k78_things_written_and_read) (q := view (OpenLaw.row PySem.Challenge.rw_rootprime_k78_things_written_and_read).prog [22]) (H := C.hk) (ob := C.ob) (M := 3010) (loose := ["show", "read", "_law_tape", "_law_draw", "_law_letters", "_law_leaf", "_law_thing", "_law_deep_thing", "_law_written", "_law_tuples", "_law_same", "PrimeError", "NoText", "Reader", "FIGURES", "LETTERS", "MOST_FIGURES", "MOST_LETTERS", "MOST_DEEP"]) (d := HandSHeadRun.topDef (OpenLaw.row PySem.Challenge.rw_rootprime_k78_things_written_and_read).prog 22) (kwd := []) C.ob_eq
    (by kernel_rfl) (fun s => by kernel_rfl) C.run (by kernel_rfl) (by kernel_rfl) (by kernel_rfl) (by rfl) (by first | assumption | decide +kernel) (by decide +kernel) ⟨rfl, rfl, rfl, rfl, rfl, by decide +kernel⟩ ?hw ?hc
  case hw => w_witness2
  case hc =>
    refine R.walk_ofEB (l := PySem.Challenge.rw_rootprime_k78_things_written_and_read) (n := 63) (k := 172) (prm := "_law_script") (CX := fun w => L2.CX0) rfl (by decide) (by kernel_rfl) ⟨rfl, by decide, by decide⟩ ?F (fun _ _ _ _ _ z => z)
    intro w mg fa h Y G hmg0
    obtain ⟨K, KX, c⟩ := Y
    have hmg : mg ("law" : PySem.Str) = some (.ref fa) := by
      have e : (HandSHeadRun.topDef (OpenLaw.row PySem.Challenge.rw_rootprime_k78_things_written_and_read).prog 22).name = ("law" : PySem.Str) := by kernel_rfl
      rw [← e]
      exact hmg0
    obtain ⟨fd, hb, hF⟩ := C.facts (P := (PySem.Challenge.rw_rootprime_k78_things_written_and_read).prog) (w := w) KX G hmg c
    exact ⟨K, fd, (C.sp_law K), KX, hb, fun H a ns hl hbits hO hS => C.law_end hl hbits hS, hF⟩
